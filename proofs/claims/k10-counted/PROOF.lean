import PyProof.Rows.All
import Wide.All
import OpenK.AllK
import Wide.FinOn
import HandS.ForMost
import PyProof.EqAt
import PyProof.EqKinds
import PyProof.TupleCall
import KE.KFromBytes
import KE.KExcIs
import HandS.Exc
import HandS.TryOnly
import HandS.ExcInit
import HandS.ExcIs
import HandS.ExcField
import HandS.IsInst
import HandS.ClsMeth
import HandS.Defaults
import HandS.DictComp
import HandS.SortKw
import HandS.More
import HandS.Nested
import PyProof.Rows.StrRules
import PyProof.Rows.SortKeyStr
import KE.KUnpackStar
import HandS.Flow
import HandS.Walk
import HandS.Wide
import HandS.Text
import HandS.Style
import HandS.Property
import HandS.WordsDict
import HandS.ListItems
import HandS.Finally
import HandS.WordsExc
import HandS.Lambda
import HandS.EndBits
import KE.KNest
import HandS.Small
import KE.KDictSum
import HandS.ExcOwn
import PyProof.PureStr
import HandS.SetFor
import PyProof.Rows.StrInSeq3
import HandS.RaiseMore
import KE.RegKIsAll
import Wide.Loose
import PySem.Challenge.RW_flagtrees_k10_best_changes_counted
set_option Elab.async false
set_option linter.all false
set_option maxRecDepth 100000
set_option maxHeartbeats 8000000

namespace FT
open PySem L2
/-- the i-th statement of the row's text -/
def top (i : Nat) : Stmt := PySem.Challenge.pw_flagtrees_k10_best_changes_counted.main.body.getD i (.Pass ⟨0, 0, 0, 0⟩)
abbrev s__wall : Stmt := top 0
abbrev s_InvalidForest___init__ : Stmt := inClass (top 3) 0
abbrev s_InvalidUsers___init__ : Stmt := inClass (top 4) 0
abbrev s_InvalidSizes___init__ : Stmt := inClass (top 5) 0
abbrev s_Mismatch___init__ : Stmt := inClass (top 6) 0
abbrev s_InvalidNumber___init__ : Stmt := inClass (top 7) 0
abbrev s_NotBest___init__ : Stmt := inClass (top 8) 0
abbrev s_is_name : Stmt := top 12
abbrev s_is_ancestor : Stmt := top 13
abbrev s_need_parents : Stmt := top 14
abbrev s_Forest___init__ : Stmt := inClass (top 15) 2
abbrev s_Forest___eq__ : Stmt := inClass (top 15) 3
abbrev s_Forest_flags : Stmt := inClass (top 15) 4
abbrev s_Forest_parents : Stmt := inClass (top 15) 5
abbrev s_Forest_text : Stmt := inClass (top 15) 6
abbrev s_Forest_children : Stmt := inClass (top 15) 7
abbrev s_Forest_path : Stmt := inClass (top 15) 8
abbrev s_Forest_under : Stmt := inClass (top 15) 9
abbrev s_Forest_distance : Stmt := inClass (top 15) 10
abbrev s_Forest_walk : Stmt := inClass (top 15) 11
abbrev s_Forest_parse : Stmt := inClass (top 15) 12
abbrev s_places_of : Stmt := top 16
abbrev s_is_integer : Stmt := top 19
abbrev s_need_users : Stmt := top 20
abbrev s_need_feasible : Stmt := top 21
abbrev s_need_sizes : Stmt := top 22
abbrev s_residents_of : Stmt := top 23
abbrev s_amounts_of : Stmt := top 25
abbrev s_amounts : Stmt := top 26
abbrev s_crossings : Stmt := top 27
abbrev s_product_to : Stmt := top 29
abbrev s_ways : Stmt := top 30
abbrev s_count : Stmt := top 31
abbrev s__law_begin : Stmt := top 33
abbrev s__law_take : Stmt := top 34
abbrev s__law_pick : Stmt := top 35
abbrev s__law_order : Stmt := top 36
abbrev s__law_names : Stmt := top 37
abbrev s__law_parents : Stmt := top 38
abbrev s__law_path : Stmt := top 39
abbrev s__law_sizes : Stmt := top 40
abbrev s__law_residents : Stmt := top 41
abbrev s__law_far : Stmt := top 42
abbrev s__law_counted : Stmt := top 43
abbrev s__law_every : Stmt := top 44
abbrev s__law_error : Stmt := top 45
abbrev s__law_best_lists : Stmt := top 46
abbrev s__law_choose : Stmt := top 47
abbrev s__law_ways : Stmt := top 48
abbrev s__law_place : Stmt := top 49
abbrev s__law_turned : Stmt := top 50
abbrev s_law : Stmt := top 51
end FT


/-! Own: an exception class over ValueError called with one keyword, `C(name=value)`. The library's lemmas (HandSPX.call_own) say it for calls without keywords; these say it for one keyword. -/
namespace FX
open PySem PySem.W PySem.Calls PyProof.Rows PySem.HandSPX
section
variable {Mo : Model} {Ar : Around} {Er : Value → Shared → Prop} {he : Heap} {ge : Array GenState} {dr : Drawn} {tk : Nat} {os : OsState}
variable {nm qn : Str} {C N : Addr} {bs bm bmB : List Value} {hdct : Bool} {sn : List Str} {sub : List Value} {ab : Bool} {col : Option Bool} {dd : Option Addr} {k0 k1 k2 k3 k5 : Option Value} {B idN idI : String}
variable {kn : Str} {kv : Value} {more : List Value}
/-- the class object of an exception class, short -/
abbrev XO (nm qn : Str) (C N : Addr) (bs bm : List Value) (hdct : Bool) (sn : List Str) (sub : List Value) (ab : Bool) (col : Option Bool) (dd : Option Addr) (k0 k1 k2 k3 k5 : Option Value) (idN : String) : Obj :=
  excClassObj nm qn C N bs bm hdct sn sub ab col dd k0 k1 k2 k3 k5 idN
abbrev SameTy (bm bmB : List Value) : Prop := ∀ T : String, bm.contains (.type T) = bmB.contains (.type T)
theorem hasT {T : String} {b : Bool} (st : SameTy bm bmB) (e : bmB.contains (.type T) = b) : (Value.ref C :: bm).contains (.type T) = b := by
  rw [List.contains_cons, st, e] <;> rfl
theorem chk_kw (F : ExcBaseFacts B idN idI bmB) (st : SameTy bm bmB) {P : Unit → Shared → Prop} (oC : he.get? C = some (XO nm qn C N bs bm hdct sn sub ab col dd k0 k1 k2 k3 k5 idN)) (fin : P () ⟨he, ge, dr, tk, os⟩) :
    wpAny Mo Ar (checkBuiltinCall idN ⟨.ref C :: more, [(kn, kv)]⟩) P Er ⟨he, ge, dr, tk, os⟩ := by
  have yes := hasT (C := C) st F.hasB
  have ns := F.noStar
  simp only [checkBuiltinCall, F.newKind, F.newSplit, F.newRow]
  repeat (first
    | refine wpAny_loadPart_at oC ?_
    | (refine wpAny_isSubtype_exc oC ?_; rw [yes])
    | refine wpAny_staticBase_exc oC ?_
    | refine wpAny_madeBy_exc oC ?_
    | simp only [bne_self_eq_false, Bool.false_eq_true, if_false]
    | wp_step)
  exact fin
end
section
variable {pg : Program} {w : World} {Ar : Around} {Er : Value → Shared → Prop} {Rs : Result → Shared → Prop} {he : Heap} {ge : Array GenState} {dr : Drawn} {tk : Nat} {os : OsState}
variable {nm qn : Str} {C N fI : Addr} {bs bm bmB : List Value} {hdct : Bool} {sn : List Str} {sub : List Value} {ab : Bool} {col : Option Bool} {dd : Option Addr} {k0 k1 k2 k3 k5 : Option Value} {B idN idI : String}
variable {kn : Str} {kv : Value} {more : List Value}
/-- the heap with the new exception -/
abbrev withX (he : Heap) (C : Addr) (more : List Value) : Heap := (he.push (W.kdv_tup more)).push (excO C he.objs.size)
theorem new_kw (F : ExcBaseFacts B idN idI bmB) (st : SameTy bm bmB) (oC : he.get? C = some (XO nm qn C N bs bm hdct sn sub ab col dd k0 k1 k2 k3 k5 idN)) (sz : more.length ≤ sizeLine)
    (fin : Rs (.ok (.ret (.ref (he.objs.size + 1)))) ⟨withX he C more, ge, dr, tk, os⟩) : codeAny (model pg w) Ar (.builtin idN ⟨.ref C :: more, [(kn, kv)]⟩) Rs ⟨he, ge, dr, tk, os⟩ := by
  have ends := F.ends
  have yes := hasT (C := C) st F.hasB
  have noA := hasT (C := C) st F.noAttr
  have noN := hasT (C := C) st F.noName
  refine codeAny_builtinAt F.entry ?_
  unfold Builtin.«BaseException.__new__»
  refine PySem.wpAt_bind ?_
  show PySem.wpAt _ _ _ (stack >>= _) _ _ _
  refine PySem.wpAt_bind (PySem.wpAt_stack fun _ _ => PySem.wpAt_of_wpAny ?_)
  wp_walk
  refine PySem.wpAt_of_wpAny ?_
  rw [F.owner]
  repeat (first
    | with_reducible refine wpAny_madeHere_exc F.canon oC ?_
    | with_reducible refine wpAny_loadPart_at oC ?_
    | (with_reducible refine wpAny_isSubtype_exc oC ?_; first | rw [yes] | rw [noA] | rw [noN])
    | wp_step)
  show Rs _ _
  rw [Heap.size_push]
  exact fin
theorem tcall_kw (F : ExcBaseFacts B idN idI bmB) (st : SameTy bm bmB) {P : Fin → Shared → Prop} (oC : he.get? C = some (XO nm qn C N bs bm hdct sn sub ab col dd k0 k1 k2 k3 k5 idN)) (sz : more.length ≤ sizeLine)
    (li : W.Looks (model pg w) he (typeLookup (.ref C) "__init__") (some (.ref fI))) (lb : ∀ me, W.Looks (model pg w) he (bindSpecial (.ref fI) me) (.ref fI, [me]))
    (fin : codeAny (model pg w) Ar (.call (.ref fI) ⟨.ref (he.objs.size + 1) :: more, [(kn, kv)]⟩) (fun r z => match r with | .ok (.ret v) => v = .none ∧ P (.done (.ret (.ref (he.objs.size + 1)))) z | .ok _ => False | .error e => Er e z)
      ⟨withX he C more, ge, dr, tk, os⟩) : wpAny (model pg w) Ar (Builtin.«type.__call__» ⟨.ref C :: more, [(kn, kv)]⟩) P Er ⟨he, ge, dr, tk, os⟩ := by
  repeat (first
    | with_reducible refine wpAny_loadPart_at oC ?_
    | with_reducible refine wpAny_madeBy_exc oC ?_
    | wp_step)
  refine codeAny_call_builtin_code (Code.quiet_builtin _ F.quiet) (chk_kw F st oC (new_kw F st oC sz ?_))
  show wpAny _ _ _ _ _ _
  have kept : ∀ b o, he.get? b = some o → (withX he C more).get? b = some o := fun _ _ q => Heap.get?_push_of_some _ (Heap.get?_push_of_some _ q)
  have oC2 := kept _ _ oC
  have oX : (withX he C more).get? (he.objs.size + 1) = some (excO C he.objs.size) := by heap_get
  have self : (Value.ref C :: bm).contains (.ref C) = true := by simp
  have li2 := li.keeps kept
  have lb2 := (lb (.ref (he.objs.size + 1))).keeps kept
  unfold isInstance
  repeat (first
    | with_reducible refine wpAny_loadPart_at oX ?_
    | (with_reducible refine wpAny_isSubtype_exc oC2 ?_; rw [self])
    | wp_step)
  show wpAny _ _ (typeLookup (.ref C) _) _ _ _
  refine li2.at (wpAny_holding (wpAny_bind (lb2.at ?_)))
  refine wpAny_bind (wpAny_call (codeAny_mono fin fun r z q => ?_))
  rcases r with _ | (_ | _ | _ | _) <;> first | exact q | exact q.elim | skip
  obtain ⟨rfl, q⟩ := q
  first
    | exact wpAny_pure (wpAny_pure q)
    | (wp_walk; exact q)
theorem call_kw (F : ExcBaseFacts B idN idI bmB) (st : SameTy bm bmB) (oC : he.get? C = some (XO nm qn C N bs bm hdct sn sub ab col dd k0 k1 k2 k3 k5 idN)) (sz : more.length ≤ sizeLine)
    (li : W.Looks (model pg w) he (typeLookup (.ref C) "__init__") (some (.ref fI))) (lb : ∀ me, W.Looks (model pg w) he (bindSpecial (.ref fI) me) (.ref fI, [me]))
    (fin : codeAny (model pg w) (Ar.under (.builtin "type.__call__" ⟨.ref C :: more, [(kn, kv)]⟩)) (.call (.ref fI) ⟨.ref (he.objs.size + 1) :: more, [(kn, kv)]⟩) (W.InitBack (he.objs.size + 1) Rs) ⟨withX he C more, ge, dr, tk, os⟩) :
    codeAny (model pg w) Ar (.call (.ref C) ⟨more, [(kn, kv)]⟩) Rs ⟨he, ge, dr, tk, os⟩ := by
  have l1 := tc_lookup
  have l2 := tc_bind (.ref C)
  have ty : (⟨he, ge, dr, tk, os⟩ : Shared).TypeIs (.ref C) "type" := ⟨_, oC, rfl⟩
  refine codeAny_of_tree (show wpAny _ _ (callAny (.ref C) _) _ _ _ from ?_)
  repeat (any_goals (first
    | assumption
    | with_reducible refine wpAny_loadPart_at oC ?_
    | wp_step))
  refine ⟨rfl, codeAny_call_builtin_at (Code.quiet_builtin _ (by decide +kernel)) entry_typeCall (wpAny_check_type_call_sub oC (tcall_kw F st oC sz li lb (codeAny_mono fin fun r z q => ?_)))⟩
  rcases r with _ | (_ | _ | _ | _) <;> exact q
end
end FX


namespace L2
open PySem PySem.Spec PyProof.Rows
/-- what the written part says of an own exception class over ValueError -/
structure XCls (K : PySem.W.Frag) (C : Addr) : Prop where
  cls : ∃ nm q N bs bm sn sub ab col dd k0 k1 k2 k3 k5, K.lookup C = some (excClassObj nm q C N bs bm true sn sub ab col dd k0 k1 k2 k3 k5 "ValueError.__new__") ∧ PySem.HandSPX.refsVE bm = true
  sa : PySem.W.findIn K (.ref C) "__setattr__" = some (some (.builtin "object.__setattr__"))
  exC : PySem.W.subIn K (.ref C) (.type "BaseException") = some true
  tyC : PySem.W.typeIn K (.ref C) = some (.type "type")
  kC : PySem.W.keepIn K (.ref C) = true
  ga : PySem.W.findIn K (.ref C) "__getattribute__" = some (some (.builtin "BaseException.__getattribute__"))
  gg : PySem.W.findIn K (.ref C) "__getattr__" = some none
  hdC : PySem.W.hasDictIn K C = true
  ha : PySem.W.findIn K (.ref C) "__class__" = some (some (.builtin "object.__class__"))
  hn : PySem.W.specialIn K (.builtin "object.__class__") "__get__" = some (some (.builtin "getset_descriptor.__get__"))
  ht : PySem.W.takesIn K (.builtin "object.__class__") = some true
  hm : PySem.W.mroIn K C (.type "object") = some true
theorem XCls.oex {K : PySem.W.Frag} {C : Addr} (c : XCls K C) : OexC K C := ⟨c.cls, c.sa, c.exC, c.tyC, c.kC⟩
/-- an exception object at a, by class and dict, its fields not told -/
def exg (a C : Addr) (d : Option Addr) : HO := .ext fun h => ∃ vs sl, h.get? a = some ({ cls := .ref C, dict := d, data := .fields vs, slots := sl } : Obj)
theorem exg_ok {P : Program} {w : World} {H : Hp} {h : Heap} {e C : Addr} {d : Option Addr} {vs : Array Value} {sl : Array (Option Value)} (he : h.get? e = some ({ cls := .ref C, dict := d, data := .fields vs, slots := sl } : Obj)) : ObjOk P w H h e (exg e C d) :=
  ⟨⟨vs, sl, he⟩, ⟨_, he⟩, fun h1 h2 z k => by
    obtain ⟨vs, sl, q⟩ := z
    exact ⟨vs, sl, k _ q⟩⟩
def XAt (H : Hp) (a C : Addr) (d : Option Addr) : Prop := H a = some (exo a C d) ∨ H a = some (exg a C d)
theorem XAt.obj {P : Program} {w : World} {H : Hp} {h : Heap} {a C : Addr} {d : Option Addr} (x : XAt H a C d) (hok : HOk P w H h) : ∃ ox vs, h.get? a = some ox ∧ ox.cls = .ref C ∧ ox.dict = d ∧ ox.data = .fields vs := by
  rcases x with e | e
  · obtain ⟨t1, q⟩ := exo_at hok e
    exact ⟨_, _, q, rfl, rfl, rfl⟩
  · have z : ObjOk P w H h a (.ext fun h => ∃ vs sl, h.get? a = some ({ cls := .ref C, dict := d, data := .fields vs, slots := sl } : Obj)) := hok a _ e
    obtain ⟨⟨vs, sl, q⟩, _⟩ := z
    exact ⟨_, vs, q, rfl, rfl, rfl⟩
def XD (H : Hp) (dx : Addr) (fs : List (Str × V)) : Prop := H dx = some (exd dx fs) ∨ H dx = some (.xd fs)
theorem XD.at {P : Program} {w : World} {H : Hp} {h : Heap} {dx : Addr} {fs : List (Str × V)} (x : XD H dx fs) (hok : HOk P w H h) : ∃ mA, h.Ns1 dx mA ∧ ∀ f, RelO (fs.lookup f) (mA f) := by
  rcases x with e | e
  · exact exd_at hok e
  · have z : ObjOk P w H h dx (.xd fs) := hok dx _ e
    exact z
/-- an exception of the class at C stands at a; its attributes are fs -/
def XV (H : Hp) (a C : Addr) (fs : List (Str × V)) : Prop := (XAt H a C none ∧ fs = []) ∨ ∃ dx, XAt H a C (some dx) ∧ XD H dx fs
theorem XV.inst {P : Program} {w : World} {H : Hp} {h : Heap} {a C : Addr} {fs : List (Str × V)} (x : XV H a C fs) (hok : HOk P w H h) : ∃ ox od, PySem.W.InstAt h a ox C od := by
  rcases x with ⟨x, _⟩ | ⟨dx, x, y⟩
  · obtain ⟨ox, vs, e1, e2, e3, e4⟩ := x.obj hok
    exact ⟨ox, none, e1, e2, by unfold PySem.W.notCls; rw [e4] <;> rfl, by rw [e3]; trivial⟩
  · obtain ⟨ox, vs, e1, e2, e3, e4⟩ := x.obj hok
    obtain ⟨mA, hn, hr⟩ := y.at hok
    obtain ⟨od, ho, hl⟩ := lookIn_ns hn
    exact ⟨ox, some od, e1, e2, by unfold PySem.W.notCls; rw [e4] <;> rfl, by rw [e3]; exact ho⟩
theorem XV.look {P : Program} {w : World} {H : Hp} {h : Heap} {a C : Addr} {fs : List (Str × V)} {f : Str} {v : V} (x : XV H a C fs) (hok : HOk P w H h) (hl : fs.lookup f = some v) :
    ∃ ox od u, PySem.W.InstAt h a ox C (some od) ∧ PySem.W.lookIn f od = some (some u) ∧ RelV v u := by
  rcases x with ⟨_, e⟩ | ⟨dx, x, y⟩
  · rw [e] at hl
    cases hl
  · obtain ⟨ox, vs, e1, e2, e3, e4⟩ := x.obj hok
    obtain ⟨mA, hn, hr⟩ := y.at hok
    obtain ⟨od, ho, hk⟩ := lookIn_ns hn
    obtain ⟨u, hu, ru⟩ := RelO.some_of (v := v) (o := mA f) (by rw [← hl]; exact hr f)
    exact ⟨ox, od, u, ⟨e1, e2, by unfold PySem.W.notCls; rw [e4] <;> rfl, by rw [e3]; exact ho⟩, by rw [hk, hu], ru⟩

section
variable {X : Cx}
/-- isinstance(e, c), e an exception of an own class -/
def rIsX (K : PySem.W.Frag) : List V → Hp → VK → Prop := fun xs H Q => ∃ (a C : Addr) (fs : List (Str × V)) (c : V) (u : Value) (b : Bool), xs = [.ref a, c] ∧ ClsV c u ∧ XCls K C ∧ XV H a C fs ∧ PySem.W.kitOne K (.ref C) u = some b ∧ Q (.bl b) H
theorem call_isX : CallR X (.builtin "isinstance") (rIsX X.K) := by
  intro pins s σ H xs us Q I r h
  obtain ⟨a, C, fs, c, u, b, rfl, k, T, xv, e, q⟩ := h
  obtain ⟨u1, u2, rfl, r1, r2⟩ := vals2 r
  have e2 := k.eq r2
  subst e2
  obtain rfl : u1 = Value.ref a := r1
  obtain ⟨ox, od, J⟩ := xv.inst I.hok
  have hcl : (PySem.W.clsIn X.K C).isSome = true := by
    obtain ⟨cd, hc, _⟩ := PySem.W.any_some T.hdC
    rw [hc] <;> rfl
  exact PySem.W.kia_one (PySem.W.kitx_exc hcl T.ga T.gg T.exC T.ha T.hn T.ht T.hm) I.kIn J e (fun z => nomatch z) fun tk => ⟨.bl b, H, I.tok tk, rfl, q⟩
/-- e.f -/
def tXFld (K : PySem.W.Frag) (te : TE) (f : Str) : TE := fun σ H Q => te σ H fun x H1 => ∃ (a C : Addr) (fs : List (Str × V)) (v : V), x = .ref a ∧ XV H1 a C fs ∧ XCls K C ∧ PySem.W.findIn K (.ref C) f = some none ∧ fs.lookup f = some v ∧ Q v H1
theorem pe_xfld {e : Expr} {te : TE} {pos : Pos} {n : Str} (he : PE X e te) (hb : attributeBase e n X.env (eval e X.env) = eval e X.env := by rfl) : PE X (.Attribute e n pos) (tXFld X.K te n) := by
  refine ⟨fun pins s σ H Q I h => ?_⟩
  refine attr_of hb (thn (he.run pins s σ H _ I h) fun u s1 hh => ?_)
  obtain ⟨x, H1, I1, rx, a, C, fs, v, ex, xv, T, hno, hl, q⟩ := hh
  subst ex
  obtain rfl : u = Value.ref a := rx
  obtain ⟨ox, od, u, J, hk, ru⟩ := xv.look I1.hok hl
  exact HandSPX.exc_get I1.kIn J T.ga T.gg T.exC (PySem.W.findObj_own T.hdC hno rfl hk) (handed_of ru) ⟨v, H1, I1.tok _, ru, q⟩
/-- R.__init__(self, ..), R an own class whose __init__ is ValueError's -/
structure XIni (K : PySem.W.Frag) (R : Addr) : Prop where
  rd : PySem.W.readsIn K R (.type "type") = true
  ga : PySem.W.specialIn K (.ref R) "__getattribute__" = some (some (.builtin "type.__getattribute__"))
  at_ : PySem.W.findCls K (.ref R) (.type "type") "__init__" = some (.val (.builtin "ValueError.__init__"))
theorem pe_clsinit {R : Addr} {rn : Str} {e : Expr} {es : List Expr} {ta : TA} {p1 p2 pos : Pos} {pl : Sem Bool} (T0 : XIni X.K R) (hg : Gl X rn) (hm : X.mg rn = some (.ref R)) (ha : PA X (e :: es) ta)
    (hdb : (rn == ("__debug__" : Str)) = false := by decide)
    (hc : eval (.Call (.Attribute (.Name rn p1) "__init__" p2) (e :: es) [] pos) X.env = (do
      let ov ← eval (.Name rn p1) X.env
      standAt p2.atName
      let (f, first) ← holding [ov] (getMethod ov "__init__" pl)
      callWith pos f first (backTo pos (starEach (e :: es) X.env)) (backToKw pos (keywordEach [] X.env))) := by rfl)
    (he : starEach (e :: es) X.env = (false, eval e X.env) :: starEach es X.env := by rfl) (hpl : (backTo pos (starEach es X.env)).any (·.1) = false := by rfl) :
    PE X (.Call (.Attribute (.Name rn p1) "__init__" p2) (e :: es) [] pos) (tVeI X.K ta) := by
  refine ⟨fun pins s σ H Q I h => ?_⟩
  refine PySem.W.methodCall_KW (ld_glob I hg hm ?_ hdb) hc
  refine PySem.W.method_cls I.kIn T0.ga (PySem.W.cls_value I.kIn T0.rd T0.at_ rfl ?_)
  show wpAny _ _ (callWith pos (Value.builtin "ValueError.__init__") [] (backTo pos (starEach (e :: es) X.env)) []) _ _ _
  refine PyProof.Rows.callWith_method1 (thn (ha.run pos pins _ σ H _ (I.tok _) h) fun us s1 ⟨vs, H1, I1, r1, a, C, ws, ev, hl, T, ea, q⟩ => ?_) he hpl
  subst ev
  cases r1 with
  | @cons _ u0 _ ur ra rw' =>
    obtain rfl : u0 = Value.ref a := ra
    have hlen : ur.length ≤ sizeLine := by
      rw [← Paired.length rw', sizeLine_eq]
      omega
    exact oinit_ok T I1 ea hlen fun s' J => ⟨.non, H1, J, rfl, q⟩

/-! ### C(..) as a value -/
variable {CX : CXT} {C fI : Addr} {k : Nat} {fd : FuncData} {ps : List Str} {sp : Sp} {ds : List Value} {dvs : List V} {E : XK}
/-- the state with a new exception of C laid, its arguments at the heap's end -/
theorem Inv.xnew {pins : List (Addr × Obj)} {σ : St} {H : Hp} {hp : Heap} {gn : Array GenState} {dr : Drawn} {tk : Nat} {os : OsState} (C : Addr) (us : List Value) (I : Inv X pins σ H ⟨hp, gn, dr, tk, os⟩) :
    H (hp.objs.size + 1) = none ∧ Inv X pins σ (upd H (hp.objs.size + 1) (exo (hp.objs.size + 1) C none)) ⟨FX.withX hp C us, gn, dr, tk, os⟩ := by
  have le : hp.objs.size ≤ hp.objs.size + 1 := Nat.le_succ _
  have at_ : (FX.withX hp C us).get? (hp.objs.size + 1) = some (PySem.HandSPX.excO C hp.objs.size) := by heap_get
  exact ⟨I.hok.fresh le, I.laid (t' := tk) (h' := FX.withX hp C us) (fun _ _ z => Heap.get?_push_of_some _ (Heap.get?_push_of_some _ z)) le (exo_ok at_)⟩
/-- behind __init__: its answer is None, the call's answer the new object -/
theorem xback {pins : List (Addr × Obj)} {σ : St} {H : Hp} {s s' : Shared} {a : Addr} {Q : VK} {r : Result} (hx : Passes CX X E) (I : Inv X pins σ H s)
    (z : CR CX X.stack X.prog X.w H s (fun v H2 => v = .non ∧ Q (.ref a) H2) E r s') : PySem.W.InitBack a (fun r s' => match r with | .ok (.ret u) => EP X pins σ Q u s' | .ok _ => False | .error e => X.xe e s') r s' := by
  match r, z with
  | .error er, z => exact hx pins σ H s er s' I z
  | .ok (.ret u), z =>
    obtain ⟨v, H2, J, rv, ev, q⟩ := I.after z
    subst ev
    exact ⟨rv, .ref a, H2, J, rfl, q⟩
  | .ok .next, z => exact z.elim
  | .ok .brk, z => exact z.elim
  | .ok .cont, z => exact z.elim
theorem run_mkx {pins : List (Addr × Obj)} {σ : St} {H1 : Hp} {s : Shared} {Q : VK} {us : List Value} {vs : List V} (T : OexC X.K C) (iC : PySem.W.findIn X.K (.ref C) "__init__" = some (some (.ref fI))) (tI : PySem.W.typeIn X.K (.ref fI) = some (.type "function"))
    (F1 : FnOk X.prog X.w X.K X.mg X.base CX k fI fd ps sp) (hr : Room (k + 1) X.A) (hb : Binds X.K fd ps ds) (hd : Vals dvs ds) (hx : Passes CX X E) (I1 : Inv X pins σ H1 s) (r1 : Vals vs us) (hz : vs.length ≤ 1000)
    (q1 : ∀ a, H1 a = none → sp (.ref a :: (vs ++ dvs)) (upd H1 a (exo a C none)) (fun v H2 => v = .non ∧ Q (.ref a) H2) E) :
    wpAny (model X.prog X.w) X.A (call (.ref C) us) (EP X pins σ Q) X.xe s := by
  obtain ⟨_, _, _, _, bm, _, _, _, _, _, _, _, _, _, _, oC, tail⟩ := T.cls
  obtain ⟨hp, gn, dr, tk, os⟩ := s
  obtain ⟨new, J⟩ := Inv.xnew C us I1
  have want := q1 _ new
  have rel : Vals (V.ref (hp.objs.size + 1) :: (vs ++ dvs)) (Value.ref (hp.objs.size + 1) :: (us ++ ds)) := .cons rfl (r1.append hd)
  have len : (Value.ref (hp.objs.size + 1) :: us ++ ds).length = ps.length := rel.length.symm.trans (F1.len _ _ _ _ want)
  have few : us.length ≤ sizeLine := by
    have := r1.length
    rw [sizeLine_eq]; omega
  have go := F1.run _ X.stack _ _ ⟨Value.ref (hp.objs.size + 1) :: us, []⟩ (Value.ref (hp.objs.size + 1) :: (us ++ ds)) _ _ E (hr.make C us []) (J.env0.make C us []) (hb _ (Value.ref (hp.objs.size + 1) :: us) J.kIn len) rel want
  exact wpAny_call (PySem.HandSPX.call_own F.excBase_ValueError (fun Y => PySem.HandSPX.refsVE_contains Y bm tail) (I1.kIn _ _ oC) (PySem.W.looks_findIn I1.kIn iC) (fun me => PySem.W.bind_fn I1.kIn me tI) few (codeAny_mono go fun r z q => xback hx J q))
theorem run_mkxK {pins : List (Addr × Obj)} {σ : St} {H1 : Hp} {s : Shared} {Q : VK} {u : Value} {v : V} {kn : Str} {g : List Value → List Value → List Value} {gV : List V → List V → List V} (T : OexC X.K C) (iC : PySem.W.findIn X.K (.ref C) "__init__" = some (some (.ref fI))) (tI : PySem.W.typeIn X.K (.ref fI) = some (.type "function"))
    (F1 : FnOk X.prog X.w X.K X.mg X.base CX k fI fd ps sp) (hr : Room (k + 1) X.A) (hb : KBn X.K fd ps 1 [kn] g gV) (hx : Passes CX X E) (I1 : Inv X pins σ H1 s) (r1 : RelV v u)
    (q1 : ∀ a, H1 a = none → sp (gV [.ref a] [v]) (upd H1 a (exo a C none)) (fun v H2 => v = .non ∧ Q (.ref a) H2) E) :
    wpAny (model X.prog X.w) X.A (call (.ref C) [] [(kn, u)]) (EP X pins σ Q) X.xe s := by
  obtain ⟨_, _, _, _, bm, _, _, _, _, _, _, _, _, _, _, oC, tail⟩ := T.cls
  obtain ⟨hp, gn, dr, tk, os⟩ := s
  obtain ⟨new, J⟩ := Inv.xnew C [] I1
  have rel : Vals (gV [V.ref (hp.objs.size + 1)] [v]) (g [Value.ref (hp.objs.size + 1)] [u]) := hb.rel (.cons rfl .nil) (.cons r1 .nil)
  have go := F1.run _ X.stack _ _ ⟨[Value.ref (hp.objs.size + 1)], [(kn, u)]⟩ (g [Value.ref (hp.objs.size + 1)] [u]) _ _ E (hr.make C [] [(kn, u)]) (J.env0.make C [] [(kn, u)]) (hb.to _ [Value.ref (hp.objs.size + 1)] [u] J.kIn rfl rfl) rel (q1 _ new)
  exact wpAny_call (FX.call_kw F.excBase_ValueError (fun Y => PySem.HandSPX.refsVE_contains Y bm tail) (I1.kIn _ _ oC) (Nat.zero_le _) (PySem.W.looks_findIn I1.kIn iC) (fun me => PySem.W.bind_fn I1.kIn me tI) (codeAny_mono go fun r z q => xback hx J q))
/-- C(e, ..) as a value; C's own __init__ keeps sp -/
def tMkX (C : Addr) (sp : Sp) (dvs : List V) (E : XK) (ta : TA) : TE := fun σ H Q => ta σ H fun vs H1 => vs.length ≤ 1000 ∧ ∀ a, H1 a = none → sp (.ref a :: (vs ++ dvs)) (upd H1 a (exo a C none)) (fun v H2 => v = .non ∧ Q (.ref a) H2) E
def tMkXK (C : Addr) (sp : Sp) (gV : List V → List V → List V) (E : XK) (te : TE) : TE := fun σ H Q => te σ H fun v H1 => ∀ a, H1 a = none → sp (gV [.ref a] [v]) (upd H1 a (exo a C none)) (fun v H2 => v = .non ∧ Q (.ref a) H2) E
variable {x : Str} {e : Expr} {es : List Expr} {ta : TA} {te : TE} {p pos kpos : Pos}
theorem pe_mkx (T : XCls X.K C) (iC : PySem.W.findIn X.K (.ref C) "__init__" = some (some (.ref fI))) (tI : PySem.W.typeIn X.K (.ref fI) = some (.type "function"))
    (F1 : FnOk X.prog X.w X.K X.mg X.base CX k fI fd ps sp) (hr : Room (k + 1) X.A) (hg : Gl X x) (hm : X.mg x = some (.ref C)) (hb : Binds X.K fd ps ds) (hd : Vals dvs ds) (hx : Passes CX X E) (ha : PA X (e :: es) ta)
    (hdb : (x == ("__debug__" : Str)) = false := by decide) (he : starEach (e :: es) X.env = (false, eval e X.env) :: starEach es X.env := by rfl) (hpl : (backTo pos (starEach es X.env)).any (·.1) = false := by rfl) :
    PE X (.Call (.Name x p) (e :: es) [] pos) (tMkX C sp dvs E ta) := by
  refine ⟨fun pins s σ H Q I h => ?_⟩
  refine wpAny_Call_Name_kw (ld_glob I hg hm ?_ hdb)
  refine PySem.W.callWith_K (h₀ := X.base) I.ok.mod.kin T.kC (thn (ha.run pos pins s σ H _ I h) fun us s1 ⟨vs, H1, I1, r, hz, q⟩ => ⟨I1.kIn, ?_⟩) he hpl
  exact run_mkx T.oex iC tI F1 hr hb hd hx I1 r hz q
theorem pe_mkx0 (T : XCls X.K C) (iC : PySem.W.findIn X.K (.ref C) "__init__" = some (some (.ref fI))) (tI : PySem.W.typeIn X.K (.ref fI) = some (.type "function"))
    (F1 : FnOk X.prog X.w X.K X.mg X.base CX k fI fd ps sp) (hr : Room (k + 1) X.A) (hg : Gl X x) (hm : X.mg x = some (.ref C)) (hb : Binds X.K fd ps ds) (hd : Vals dvs ds) (hx : Passes CX X E)
    (hdb : (x == ("__debug__" : Str)) = false := by decide) : PE X (.Call (.Name x p) [] [] pos) (tMkX C sp dvs E tNil) := by
  refine ⟨fun pins s σ H Q I h => ?_⟩
  refine wpAny_Call_Name_kw (ld_glob I hg hm ?_ hdb)
  exact PySem.W.callWith_K0 I.kIn T.kC (run_mkx (us := []) T.oex iC tI F1 hr hb hd hx I .nil h.1 h.2)
theorem pe_mkxK {kn : Str} {g : List Value → List Value → List Value} {gV : List V → List V → List V} (T : XCls X.K C) (iC : PySem.W.findIn X.K (.ref C) "__init__" = some (some (.ref fI))) (tI : PySem.W.typeIn X.K (.ref fI) = some (.type "function"))
    (F1 : FnOk X.prog X.w X.K X.mg X.base CX k fI fd ps sp) (hr : Room (k + 1) X.A) (hg : Gl X x) (hm : X.mg x = some (.ref C)) (hb : KBn X.K fd ps 1 [kn] g gV) (hx : Passes CX X E) (he : PE X e te)
    (hall : (backToKw pos (keywordEach [⟨some kn, e, kpos⟩] X.env)).all (·.1.isSome) = true := by rfl) (hks : (backToKw pos (keywordEach [⟨some kn, e, kpos⟩] X.env)).filterMap (·.1) = [kn] := by rfl) (hdb : (x == ("__debug__" : Str)) = false := by decide)
    (hpl : ((backTo pos (starEach [] X.env)).any (·.1) || (backToKw pos (keywordEach [⟨some kn, e, kpos⟩] X.env)).any (·.1.isNone)) = false := by rfl) :
    PE X (.Call (.Name x p) [] [⟨some kn, e, kpos⟩] pos) (tMkXK C sp gV E te) := by
  refine ⟨fun pins s σ H Q I h => ?_⟩
  refine wpAny_Call_Name_kw (ld_glob I hg hm ?_ hdb)
  refine PySem.W.callWith_KW0 (h₀ := X.base) I.ok.mod.kin T.kC hall ?_ hpl
  refine wpAny_evalAll_cons (wpAny_bind (thn (he.run pins s σ H _ I h) fun u s1 ⟨v, H1, I1, r1, q1⟩ => wpAny_bind (wpAny_standAt (wpAny_pure (wpAny_evalAll_nil ⟨I1.kIn, ?_⟩)))))
  rw [hks]
  exact run_mkxK T.oex iC tI F1 hr hb hx I1 r1 q1
end
end L2


/-! y = {k: v for ..}, y a local; an expression whose answer is locked -/
namespace L2
open PySem PySem.Spec PyProof.Rows
section
variable {X : Cx} {i : Nat} {y : Str} {py : Pos} {kx vx tg iter : Expr} {ifs : List Expr} {scope : Scope} {own : List (Str × Nat)} {pos spos : Pos} {wi : TI} {g : TG} {tt : TT} {tk tv : TE}
theorem swd_true {gs : List Comprehension} {l : Nat} {env : Env} (kind : env.scope.kind = .function) (loc : env.scope.names.lookup y = some .local) (line : (py.line == pos.line) = true) (ap : (scope.names.any fun (n, k) => n == y && (k == .local || k == .cell)) = false) :
    swapsWith (.DictComp kx vx gs scope pos) (some (.Name y py)) l env = pure true := by
  have h1 : env.kindOf y = some .local := loc
  have h2 : env.blockKind = .function := by unfold Env.blockKind; rw [kind] <;> rfl
  unfold swapsWith
  simp only [h2, h1, ap, Expr.pos, line]
  rfl
theorem ps_setDc (hc : X.calm = true) (nd : X.N.Nodup) (hy : X.N[i]? = some y) (loc : X.env.scope.names.lookup y = some .local) (sw : swapsWith (.DictComp kx vx [⟨tg, iter, ifs, 0⟩] scope pos) (some (.Name y py)) spos.line X.env = pure true) (hi : PI X tg iter wi) (ok : BlkOk X.N X.env.scope scope own)
    (hg : ∀ (s : Shared) (H : Hp) (C : Addr) (cl : List (Str × Addr)) (fp : List Addr), PG (X.blk s H scope (compEnvC scope cl C X.env) fp) tg g) (ht : ∀ (s : Shared) (H : Hp) (C : Addr) (cl : List (Str × Addr)) (fp : List Addr), PTs (X.blk s H scope (compEnvC scope cl C X.env) fp) ifs tt)
    (hk : ∀ (s : Shared) (H : Hp) (C : Addr) (cl : List (Str × Addr)) (fp : List Addr), PE (X.blk s H scope (compEnvC scope cl C X.env) fp) kx tk)
    (hv : ∀ (s : Shared) (H : Hp) (C : Addr) (cl : List (Str × Addr)) (fp : List Addr), PE (X.blk s H scope (compEnvC scope cl C X.env) fp) vx tv) (hs : ∀ x, foldedSetIterable iter X.env x = pure x := by intro _; rfl) :
    PS X (.Assign [.Name y py] (.DictComp kx vx [⟨tg, iter, ifs, 0⟩] scope pos) spos) (tAsg (tDc wi g tt tk tv (own.map (·.2))) (gName i)) := by
  constructor
  intro pins s σ H D I h
  have want : tDc wi g tt tk tv (own.map (·.2)) σ H (fun x H1 => gName i x σ H1 D.nx) := h
  rw [exec_Assign_Name_used _ _ _ _ sw]
  refine wpAny_bind (wpAny_standAt (wpAny_bind ?_))
  show wpAny _ X.A (do let _ ← comprehension (.DictComp kx vx [⟨tg, iter, ifs, 0⟩] scope pos) scope X.env (firstIterPos [⟨tg, iter, ifs, 0⟩] pos) newDict false (eval iter X.env) (some (assign (.Name y py) X.env))) _ _ s
  refine wpAny_bind (thn (dc_core (Qf := fun _ s' => SP X pins D .next s') hc nd I hi ok hg ht hk hv hs want fun L C s' m H' J q hn f => ?_) fun _ _ z => wpAny_pure (wpAny_pure z))
  show wpAny _ _ (assign (.Name y py) X.env (.ref L)) _ _ _
  refine wpAny_assign_Name (store_ok2 (v := V.ref L) J nd hy (.inl loc) rfl (fun s2 J2 ⟨a, sb, ha⟩ => ?_) (.inr loc))
  obtain ⟨z0, z1, z2, z3, z4, z5⟩ := f
  have off : C ≠ a := ha.elim (fun e => e ▸ z1) fun e => (z4 y a e).symm
  exact ⟨m, hn.sameBut sb off, fun h3 sb3 => ⟨_, H', J2.turned (t' := s2.toks) (fun b o hb e => (sb3.2 b hb).trans e) z0 z1 z3 z4 z5, q⟩⟩
/-- e, its answer locked from then on -/
def tLk (te : TE) : TE := fun σ H Q => te σ H fun x H1 => ∃ d u, x = .ref d ∧ H1 d = some u ∧ Mut (some u) ∧ ∀ od, Q (.ref d) (upd H1 d (.frz od u))
theorem pe_lk {e : Expr} {te : TE} (he : PE X e te) : PE X e (tLk te) := by
  constructor
  intro pins s σ H Q I h
  refine thn (he.run pins s σ H _ I h) fun v s1 ⟨x, H1, J, r, d, u, ex, hd, mu, q⟩ => ?_
  subst ex
  obtain ⟨od, J1⟩ := J.lock hd mu
  exact ⟨.ref d, _, J1, r, q od⟩
end
end L2


/-! try: .. except C as n: .., the caught exception known behind the try -/
namespace L2
open PySem PySem.Spec PyProof.Rows
section
variable {X : Cx} {pins : List (Addr × Obj)} {σ : St} {H : Hp} {s : Shared}
/-- an object that stands there is known from now on; the entry had none at its place -/
theorem Inv.known {a : Addr} {o : HO} (I : Inv X pins σ H s) (hn : H a = none) (h0 : X.s_0.heap.get? a = none) (hL : a ≠ X.env.locals) (h2 : ∀ x c, X.env.cells.lookup x = some c → c ≠ a) (h3 : ∀ p ∈ X.pn ++ pins, p.1 ≠ a)
    (new : ObjOk X.prog X.w (upd H a o) s.heap a o) : Inv X pins σ (upd H a o) s := by
  have nit : ∀ b u, H b = some u → b ≠ a := fun b u e z => by rw [z, hn] at e; cases e
  refine ⟨I.ok, I.os, I.bare, ⟨I.base.keep, I.base.slot, fun b o e n hx => ?_, I.base.there, fun b xs e => ?_, fun b o xs e => ?_, fun b ps e => ?_⟩, I.loc, I.cell, ?_, fun x c e => ?_, fun p hp => ?_, fun b u e => ?_, I.len⟩
  · rw [upd_ne (fun z => by rw [z, h0] at e; cases e)]
    exact I.base.free b o e n hx
  · have q := I.base.tups b xs e
    rw [upd_ne (nit b _ q)]
    exact q
  · have q := I.base.frzs b o xs e
    rw [upd_ne (nit b _ q)]
    exact q
  · obtain ⟨m, q⟩ := I.base.tbls b ps e
    exact ⟨m, by rw [upd_ne (nit b _ q)]; exact q⟩
  · rw [upd_ne (Ne.symm hL)]
    exact I.free
  · rw [upd_ne (h2 x c e)]
    exact I.freeC x c e
  · obtain ⟨e, n, r⟩ := I.pin p hp
    exact ⟨e, by rw [upd_ne (h3 p hp)]; exact n, r⟩
  · by_cases hb : b = a
    · subst hb
      rw [upd_same] at e
      cases e
      exact new
    · rw [upd_ne hb] at e
      exact (I.hok b u e).stay (fun c v hc q => q) (fun c q => by rw [upd_ne (nit c _ q)]; exact q) fun c _ q => by rw [upd_ne (nit c _ q)]; exact q
end
/-- what a landed exception is: its object, where it does not lie -/
structure Landed (X : Cx) (pins : List (Addr × Obj)) (σ : St) (H : Hp) (a C : Addr) (d : Option Addr) (h : Heap) (s : Shared) : Prop where
  inv : Inv X pins σ H { s with heap := h }
  obj : ∃ vs sl, h.get? a = some ({ cls := .ref C, dict := d, data := .fields vs, slots := sl } : Obj)
  free : H a = none
  entry : X.s_0.heap.get? a = none
  loc : a ≠ X.env.locals
  fs : a ∉ X.fs
  pin : ∀ p ∈ X.pn ++ pins, p.1 ≠ a
theorem Landed.of {X : Cx} {pins : List (Addr × Obj)} {σ : St} {H : Hp} {a C : Addr} {d : Option Addr} {h B : Heap} {s sI : Shared} (hs : X.stack = X.env :: X.outer) (hf : X.env.frame = some X.env.locals) (hex : X.ex = []) (J : Inv X pins σ H sI) (na : H a = none)
    (nb : ∀ b o, sI.heap.get? b = some o → b ∉ frs X.stack → B.get? b = some o) (hB : B.get? a = none) (ff : h.FunFrames B (X.env :: X.outer)) (there : ∃ oe vs, h.get? a = some oe ∧ Zc (.ref C) d oe ∧ oe.data = .fields vs) (K : Inv X pins σ H { s with heap := h }) : Landed X pins σ H a C d h s := by
  obtain ⟨⟨oc, od, odt, osl⟩, ws, at_, ⟨z1, z2⟩, z3⟩ := there
  have off : a ∉ frs (X.env :: X.outer) := fun hm => by
    obtain ⟨_, u, hu, plain⟩ := ff.mem hm
    rw [at_] at hu
    exact plain ws (by rw [← Option.some.inj hu]; exact z3)
  have out : sI.heap.get? a = none := by
    cases q : sI.heap.get? a with
    | none => rfl
    | some o => exact absurd (nb a o q (by rw [hs]; exact off)) (by rw [hB]; simp)
  refine ⟨K, ⟨ws, osl, ?_⟩, na, ?_, fun z => off (List.mem_filterMap.mpr ⟨X.env, .head _, by rw [hf, z]⟩), fun hm => ?_, fun p hp z => ?_⟩
  · dsimp only at z1 z2 z3
    rw [at_, z1, z2, z3]
  · cases q : X.s_0.heap.get? a with
    | none => rfl
    | some o =>
      obtain ⟨_, q2⟩ := J.base.there a o q (by rw [hex]; simp)
      rw [out] at q2
      cases q2
  · obtain ⟨e, m, q⟩ := List.mem_filterMap.mp hm
    exact off (List.mem_filterMap.mpr ⟨e, .tail _ m, q⟩)
  · have q := (J.pin p hp).1
    rw [z, out] at q
    cases q
/-- what is wanted of an exception in the try: as wAs, but behind the suite the exception is known -/
def wAsK (K : PySem.W.Frag) (c : Value) (i : Nat) (ts : Addr → Value → Option Addr → TS) (Wout : WX) (D : Ends) : WX := fun cls d σ H => ∃ b C, cls = Value.ref C ∧ PySem.W.exmOne K cls c = some b ∧
  (b = true → ∀ a, H a = none → ts a cls d ⟨fun σ' H' => D.nx (σ'.set i none) (upd H' a (exg a C d)), D.rt, fun σ' H' => D.bk (σ'.set i none) H', fun σ' H' => D.ct (σ'.set i none) H'⟩ (σ.set i (some (.ref a))) H) ∧ (b = false → Wout cls d σ H)
section
variable {X : Cx} {x n : Str} {c : Value} {i : Nat} {body suite : List Stmt} {st : Stmt} {np pos hpos : Pos} {tb : WX → TS} {ts : Addr → Value → Option Addr → TS} {Wout : WX}
/-- the end of such a suite -/
theorem keep_end {pins : List (Addr × Obj)} {σ σ6 : St} {H H6 : Hp} {a C : Addr} {d : Option Addr} {h : Heap} {s s6 : Shared} {oe : Obj} {Q : Shared → Prop} (L : Landed X pins σ H a C d h s) (eo : h.get? a = some oe) (hN : X.N.Nodup) (hi : X.N[i]? = some n) (hln : X.env.kindOf n = some .local)
    (S : Inv (X.suite a ((a, oe) :: (X.pn ++ pins))) [] σ6 H6 s6) (q : ∀ s7, Inv X pins (σ6.set i none) (upd H6 a (exg a C d)) s7 → Q s7) : wpAny (model X.prog X.w) X.A (do bindName X.env n .none; unbindBehindTheSuite X.env n hpos) (fun _ s7 => Q s7) X.xe s6 := by
  obtain ⟨p1, p2, _⟩ := S.pin (a, oe) (List.mem_append_left _ (.head _))
  obtain ⟨ws, sl, e0⟩ := L.obj
  rw [eo] at e0
  have p3 : s6.heap.get? a = some oe := p1
  rw [Option.some.inj e0] at p3
  have U := S.unsuite L.inv.ok
  refine gone_ok (U.known (o := exg a C d) p2 L.entry L.loc (fun y k e z => ?_) L.pin (exg_ok p3)) hN hi hln q
  obtain ⟨_, _, w1, w2⟩ := U.cell y k e
  rw [z, p3] at w1
  rw [← Option.some.inj w1] at w2
  cases w2
/-- try: body / except x as n: suite -/
theorem ps_try_keep (hs : X.stack = X.env :: X.outer) (hf : X.env.frame = some X.env.locals) (hex : X.ex = []) (hN : X.N.Nodup) (hi : X.N[i]? = some n) (hln : X.env.kindOf n = some .local) (hc : Names X x c) (tk : Takes X Wout)
    (hb : ∀ (W : WX) (pn : List (Addr × Obj)) (xe : Value → Shared → Prop), Takes (X.tr pn xe) W → PassesOwn (model X.prog X.w) X.A X.env xe → PSs (X.tr pn xe) body (tb W))
    (hsu : ∀ (a : Addr) (oe : Obj) (cls : Value) (d : Option Addr) (pn : List (Addr × Obj)), Zc cls d oe → (∃ vs, oe.data = .fields vs) → PSs (X.suite a ((a, oe) :: pn)) (st :: suite) (ts a cls d)) :
    PS X (.Try body [.ExceptHandler (some (.Name x np)) (some n) (st :: suite) hpos] [] [] pos) (fun D σ H => tb (wAsK X.K c i ts Wout D) D σ H) := by
  constructor
  intro pins s σ H D I h
  refine wpAny_Try_except (wpAny_mono ((hb (wAsK X.K c i ts Wout D) (X.pn ++ pins) (fun e t1 => wpAny (model X.prog X.w) X.A (noteFrame e X.env) (fun _ t2 => wpAny (model X.prog X.w) X.A (setFlight e none) (fun _ t3 =>
    wpAny (model X.prog X.w) X.A (handleBy e X.env [.ExceptHandler (some (.Name x np)) (some n) (st :: suite) hpos]) (SP X pins D) X.xe t3) X.xe t2) X.xe t1) (fun u s' air => ?_) PassesOwn.looking).run [] s σ H D (I.toTry _) h) (fun f t1 ok => ?_) fun _ _ z => z)
  case refine_2 =>
    cases f with
    | next => exact let ⟨σ1, H1, K, q⟩ := ok; wpAny_execs_nil ⟨σ1, H1, K.ofTry I.ok, q⟩
    | brk => exact let ⟨σ1, H1, K, q⟩ := ok; ⟨σ1, H1, K.ofTry I.ok, q⟩
    | cont => exact let ⟨σ1, H1, K, q⟩ := ok; ⟨σ1, H1, K.ofTry I.ok, q⟩
    | ret u => exact let ⟨v, σ1, H1, K, rv, q⟩ := ok; ⟨v, σ1, H1, K.ofTry I.ok, rv, q⟩
  case refine_1 =>
    obtain ⟨a, B, sI, pins', σ', H', cls, d, rfl, J', nb, up, sky, na, os, ag, b, C, rfl, mb, yes, no⟩ := air
    have J := J'.ofTry I.ok
    rw [hs] at sky
    have hfr : X.A.frames = some (X.env :: X.outer) := I.ok.frames.trans (congrArg some hs)
    show wpAny (model X.prog X.w) X.A (noteFrame (.ref a) X.env) _ _ _
    refine Sky.land Zc.steady hfr hf sky fun hA flA upA => ?_
    have KA : Inv X pins σ' H' { s' with heap := hA } := J.landed nb flA.1 (up.trans upA) os ag
    obtain ⟨oA, wA, atA, zA, dA⟩ := flA.there
    have LA := Landed.of (s := s') hs hf hex J na nb flA.2.1 flA.2.2.1 ⟨oA, wA, atA, zA, dA⟩ KA
    have SA := KA.suite atA dA na LA.loc LA.fs
    refine wpAny_handleBy_cons (codeAny_handlers_test ?_) fun z => by cases z
    have ty : PySem.W.Looks (model X.prog X.w) hA (typeOf (.ref a)) (.ref C) := fun _ _ _ _ kk q => wpAny_typeOf_ref (kk _ _ atA) (by rw [zA.1]; exact q)
    have mk := PySem.W.exm_one (M := model X.prog X.w) KA.kIn ty mb
    have named : ∀ {Q E : Value → Shared → Prop}, Q c { s' with heap := hA } → wpAny (model X.prog X.w) (X.A.mark (some (.ref a))) (eval (.Name x np) X.env) Q E { s' with heap := hA } := fun q => by
      obtain ⟨g, gd, e | ⟨e, bt, nn⟩⟩ := hc
      · exact ld_glob SA g e q gd
      · exact ld_blt SA g e bt q nn gd
    refine named (mk.here ?_)
    match b, yes, no with
    | true, yes, _ =>
      refine codeAny_handlers_suite_as (HandSPX.lands_againZ flA fun hC flC upC => ?_)
      have KC : Inv X pins σ' H' { s' with heap := hC } := J.landed nb flC.1 ((up.trans upA).trans upC) os ag
      obtain ⟨oC, wC, atC, zC, dC⟩ := flC.there
      have LC := Landed.of (s := s') hs hf hex J na nb flC.2.1 flC.2.2.1 ⟨oC, wC, atC, zC, dC⟩ KC
      refine store_ok (X := X.suite a ((a, oC) :: (X.pn ++ pins))) (v := .ref a) (KC.suite atC dC na LC.loc LC.fs) hN hi (.inl hln) rfl (fun t5 S5 => ?_) (.inr hln)
      refine wpAny_mono ((hsu a oC _ d (X.pn ++ pins) zC ⟨_, dC⟩).run [] t5 _ H' _ S5 (yes rfl a na)) (fun f t6 e6 => ?_) fun _ _ z => z.elim
      have plain : ∀ {σ6 : St} {H6 : Hp} {Q : Shared → Prop}, Inv (X.suite a ((a, oC) :: (X.pn ++ pins))) [] σ6 H6 t6 → (∀ t7, Inv X pins (σ6.set i none) H6 t7 → Q t7) → wpAny (model X.prog X.w) X.A (do bindName X.env n .none; unbindBehindTheSuite X.env n hpos) (fun _ t7 => Q t7) X.xe t6 :=
        fun S q => gone_ok (S.unsuite I.ok) hN hi hln q
      cases f with
      | next => exact let ⟨σ6, H6, S6, q6⟩ := e6; keep_end LC atC hN hi hln S6 fun t7 K7 => ⟨_, _, K7, q6⟩
      | brk => exact let ⟨σ6, H6, S6, q6⟩ := e6; plain S6 fun t7 K7 => ⟨_, _, K7, q6⟩
      | cont => exact let ⟨σ6, H6, S6, q6⟩ := e6; plain S6 fun t7 K7 => ⟨_, _, K7, q6⟩
      | ret u => exact let ⟨v6, σ6, H6, S6, r6, q6⟩ := e6; plain S6 fun t7 K7 => ⟨_, _, _, K7, r6, q6⟩
    | false, _, no =>
      show wpAny _ X.A (handleBy (.ref a) X.env []) _ _ _
      refine wpAny_handleBy_nil ?_
      obtain ⟨oe, vs, tb1, _, _, e1, _, e2, e3, _⟩ := flA.2.2.2
      unfold PySem.passOn
      refine wpAny_bind (wpAny_field e1 e2 e3 ?_)
      rw [if_neg (by simp)]
      have fly : wpAny (model X.prog X.w) X.A (setFlight (.ref a) X.env.frame) (fun _ t4 => wpAny (model X.prog X.w) X.A (throw (.ref a) : Sem Flow) (SP X pins D) X.xe t4) X.xe { s' with heap := hA } := by
        rw [hf]
        exact HandSPX.setFlight_upZ flA fun hD held upD => wpAny_throw (tk _ _ ⟨a, B, sI, pins, σ', H', .ref C, d, rfl, J, nb, (up.trans upA).trans upD, .inr (.inr (by rw [hs]; exact held)), na, os, ag, no rfl⟩)
      first | exact wpAny_bind (wpAny_pure (wpAny_bind fly)) | exact wpAny_bind fly
end
end L2


/-! raise C(..) where C's own __init__ writes no attribute -/
namespace L2
open PySem PySem.Spec PyProof.Rows
section
variable {X : Cx} {o e : Expr} {es : List Expr} {to te : TE} {ta : TA} {f : Str} {p p' p1 p2 pos : Pos}
/-- C(e, ..), C's own __init__ keeping sp; no attribute is written -/
def tMkO0 (C : Addr) (sp : Sp) (dvs : List V) (ta : TA) : St → Hp → XK → Prop := fun σ H Q => ta σ H fun vs H1 => vs.length ≤ 1000 ∧ ∀ a, H1 a = none → sp (.ref a :: (vs ++ dvs)) (upd H1 a (exo a C none))
  (fun v H2 => v = .non ∧ H2 a = some (exo a C none) ∧ Q (.ref C) none (del H2 a)) (fun _ _ _ => False)
/-- the new exception is let go -/
theorem mk_gone {pins : List (Addr × Obj)} {σ : St} {H1 H2 : Hp} {hp hp2 h2 : Heap} {g1 g2 : Array GenState} {d1 d2 : Drawn} {t1 t2 : Nat} {os1 os2 : OsState} {a C : Addr} (I1 : Inv X pins σ H1 ⟨hp, g1, d1, t1, os1⟩) (young : hp.objs.size ≤ a)
    (k : ∀ b o, hp.get? b = some o → hp2.get? b = some o) (un : Un (frs X.stack) [] (upd H1 a (exo a C none)) H2 hp2 h2) (hok : HOk X.prog X.w H2 h2) (ho : os2 = os1) (hb : AllBare g2) (ea : H2 a = some (exo a C none)) :
    ∃ (t0 : Addr) (G : Heap), Inv X pins σ (del H2 a) ⟨G, g2, d2, t2, os2⟩ ∧ (∀ b o, G.get? b = some o → h2.get? b = some o) ∧ G.get? a = none ∧ h2.get? a = some ({ cls := .ref C, dict := none, data := .fields #[.ref t0, .none, .none, .none, .bool false, .none] } : Obj) ∧ del H2 a a = none := by
  obtain ⟨t0, at2⟩ := exo_at hok ea
  have n1 : H1 a = none := I1.hok.fresh young
  obtain ⟨G, in_, out⟩ := restrict h2 fun b => decide (b ≠ a)
  have other : ∀ b, b ≠ a → G.get? b = h2.get? b := fun b nb => in_ b (decide_eq_true nb)
  have gone : G.get? a = none := out a (by simp)
  have old : ∀ {b : Addr} {o : Obj}, hp.get? b = some o → b ≠ a := fun z => Nat.ne_of_lt (Nat.lt_of_lt_of_le (Heap.lt_size z) young)
  have low : ∀ {b : Addr}, b ≠ a → H1 b = none → upd H1 a (exo a C none) b = none := fun nb n => (upd_ne nb).trans n
  have high : ∀ {b : Addr} {u : HO}, H1 b = some u → upd H1 a (exo a C none) b = some u ∧ b ≠ a := fun z => ⟨(upd_ne (ne_of_none z n1)).trans z, ne_of_none z n1⟩
  have U : Un (frs X.stack) [] H1 (del H2 a) hp G := by
    refine ⟨fun b o z n hf hx => (other b (old z)).trans (un.keep b o (k b o z) (low (old z) n) hf hx), fun b o z n hf hx => ?_, fun b o z n hx => (del_ne (old z)).trans (un.free b o (k b o z) (low (old z) n) hx), fun b o z hx => ?_, fun b xs z => (del_ne (high z).2).trans (un.tups b xs (high z).1),
      fun b o v z => (del_ne (high z).2).trans (un.frzs b o v (high z).1), fun b ps z => ?_⟩
    · obtain ⟨sl, q⟩ := un.slot b o (k b o z) (low (old z) n) hf hx
      exact ⟨sl, (other b (old z)).trans q⟩
    · obtain ⟨o', q⟩ := un.there b o (k b o z) hx
      exact ⟨o', (other b (old z)).trans q⟩
    · obtain ⟨m, q⟩ := un.tbls b ps (high z).1
      exact ⟨m, (del_ne (high z).2).trans q⟩
  have held : HOk X.prog X.w (del H2 a) G := fun b o z => by
    have nb : b ≠ a := fun e => by
      rw [e, del_same] at z
      cases z
    rw [del_ne nb] at z
    refine (hok b o z).stay (fun c v hc y => ?_) (fun c hc => (del_ne (at_ne ea hc exo_own)).trans hc) fun c xs hc => (del_ne (at_ne ea hc exo_tup)).trans hc
    refine (other c ?_).trans y
    rcases hc with rfl | hc
    · exact nb
    · exact at_ne ea hc exo_own
  refine ⟨t0, G, I1.call' (ch := []) ho U held hb (fun b z => absurd z (by simp)), fun b o z => ?_, gone, at2, del_same⟩
  by_cases nb : b = a
  · rw [nb, gone] at z
    cases z
  · exact (other b nb).symm.trans z
variable {CX : CXT} {x : Str} {C fI : Addr} {k : Nat} {fd : FuncData} {ps : List Str} {sp : Sp} {ds : List Value} {dvs : List V}
theorem run_mk0 {pins : List (Addr × Obj)} {σ : St} {H1 : Hp} {s : Shared} {Q : XK} {us : List Value} {vs : List V} (T : OexC X.K C) (iC : PySem.W.findIn X.K (.ref C) "__init__" = some (some (.ref fI))) (tI : PySem.W.typeIn X.K (.ref fI) = some (.type "function"))
    (F1 : FnOk X.prog X.w X.K X.mg X.base CX k fI fd ps sp) (hr : Room (k + 1) X.A) (hb : Binds X.K fd ps ds) (hd : Vals dvs ds) (hx : Passes CX X (fun _ _ _ => False)) (I1 : Inv X pins σ H1 s) (r1 : Vals vs us) (hz : vs.length ≤ 1000)
    (q1 : ∀ a, H1 a = none → sp (.ref a :: (vs ++ dvs)) (upd H1 a (exo a C none)) (fun v H2 => v = .non ∧ H2 a = some (exo a C none) ∧ Q (.ref C) none (del H2 a)) (fun _ _ _ => False)) :
    wpAny (model X.prog X.w) X.A (call (.ref C) us) (MkP X pins σ Q) X.xe s := by
  obtain ⟨_, _, _, _, bm, _, _, _, _, _, _, _, _, _, _, oC, tail⟩ := T.cls
  obtain ⟨hp, gn, dr, tk, os⟩ := s
  obtain ⟨new, J⟩ := Inv.xnew C us I1
  have want := q1 _ new
  have rel : Vals (V.ref (hp.objs.size + 1) :: (vs ++ dvs)) (Value.ref (hp.objs.size + 1) :: (us ++ ds)) := .cons rfl (r1.append hd)
  have len : (Value.ref (hp.objs.size + 1) :: us ++ ds).length = ps.length := rel.length.symm.trans (F1.len _ _ _ _ want)
  have few : us.length ≤ sizeLine := by
    have := r1.length
    rw [sizeLine_eq]; omega
  have go := F1.run _ X.stack _ _ ⟨Value.ref (hp.objs.size + 1) :: us, []⟩ (Value.ref (hp.objs.size + 1) :: (us ++ ds)) _ _ (fun _ _ _ => False) (hr.make C us []) (J.env0.make C us []) (hb _ (Value.ref (hp.objs.size + 1) :: us) J.kIn len) rel want
  refine wpAny_call (PySem.HandSPX.call_own F.excBase_ValueError (fun Y => PySem.HandSPX.refsVE_contains Y bm tail) (I1.kIn _ _ oC) (PySem.W.looks_findIn I1.kIn iC) (fun me => PySem.W.bind_fn I1.kIn me tI) few (codeAny_mono go fun r z q => ?_))
  match r, q with
  | .error er, q => exact hx pins σ _ _ er z J q
  | .ok (.ret u), q =>
    obtain ⟨v, H2, os2, bare2, un2, hok2, rv, ev, ea, q2⟩ := q
    subst ev
    obtain ⟨h2, g2, d2, t2, os'⟩ := z
    have up : ∀ b o, hp.get? b = some o → (FX.withX hp C us).get? b = some o := fun b o e => Heap.get?_push_of_some _ (Heap.get?_push_of_some _ e)
    obtain ⟨t0, G, JG, kG, gG, oG, nG⟩ := mk_gone (d2 := d2) (t2 := t2) I1 (Nat.le_succ _) up un2 hok2 os2 bare2 ea
    exact ⟨rv, _, _, _, ⟨G, g2, d2, t2, os'⟩, _, .ref C, none, rfl, JG, kG, gG, oG, ⟨rfl, rfl⟩, rfl, rfl, nG, rfl, bare2, raises_own T.exC T.tyC, q2⟩
  | .ok .next, q => exact q.elim
  | .ok .brk, q => exact q.elim
  | .ok .cont, q => exact q.elim
/-- C() -/
theorem pmk_none (T : OexC X.K C) (iC : PySem.W.findIn X.K (.ref C) "__init__" = some (some (.ref fI))) (tI : PySem.W.typeIn X.K (.ref fI) = some (.type "function"))
    (F1 : FnOk X.prog X.w X.K X.mg X.base CX k fI fd ps sp) (hr : Room (k + 1) X.A) (hb : Binds X.K fd ps ds) (hd : Vals dvs ds) (hx : Passes CX X (fun _ _ _ => False)) (hg : Gl X x) (hm : X.mg x = some (.ref C)) (hdb : (x == ("__debug__" : Str)) = false := by decide) :
    PMk X (.Call (.Name x p) [] [] pos) (tMkO0 C sp dvs tNil) := by
  intro pins s σ H Q I h
  refine wpAny_Call_Name_kw (ld_glob I hg hm ?_ hdb)
  exact PySem.W.callWith_K0 I.kIn T.kC (run_mk0 (us := []) T iC tI F1 hr hb hd hx I .nil h.1 h.2)
end
end L2


/-! sorted(a dict of texts, key=a lambda of one parameter that gives (int, text)) -/
namespace SrtKy
open PySem PyProof.Rows Srt SrtO
/-- a tuple of a number and a text -/
def IsIS (h : Heap) (v : Value) (x : Int) (z : Str) : Prop := ∃ a o t u n, v = .ref a ∧ h.get? a = some o ∧ o.cls = .type "tuple" ∧ o.data = .seq #[.int x t, .str z u] n
theorem IsIS.keeps {h h' : Heap} {v : Value} {x : Int} {z : Str} (p : IsIS h v x z) (k : ∀ b o, h.get? b = some o → o.cls = .type "tuple" → h'.get? b = some o) : IsIS h' v x z := by
  obtain ⟨a, o, t, u, n, e, ho, hc, hd⟩ := p
  exact ⟨a, o, t, u, n, e, k _ _ ho hc, hc, hd⟩
def isLt (p q : Int × Str) : Bool := if p.1 = q.1 then decide (p.2.cps.toList < q.2.cps.toList) else decide (p.1 < q.1)
theorem isLt_iff {p q : Int × Str} : isLt p q = true ↔ p.1 < q.1 ∨ (p.1 = q.1 ∧ p.2.cps.toList < q.2.cps.toList) := by
  unfold isLt
  by_cases e : p.1 = q.1
  · rw [if_pos e, decide_eq_true_eq]
    constructor
    · exact fun h => .inr ⟨e, h⟩
    · rintro (h | h)
      · omega
      · exact h.2
  · rw [if_neg e, decide_eq_true_eq]
    constructor
    · exact .inl
    · rintro (h | h)
      · exact h
      · exact absurd h.1 e
theorem isLt_no {p q : Int × Str} : isLt p q = false ↔ q.1 < p.1 ∨ (p.1 = q.1 ∧ q.2.cps.toList ≤ p.2.cps.toList) := by
  unfold isLt
  by_cases e : p.1 = q.1
  · rw [if_pos e, decide_eq_false_iff_not, List.not_lt]
    constructor
    · exact fun h => .inr ⟨e, h⟩
    · rintro (h | h)
      · omega
      · exact h.2
  · rw [if_neg e, decide_eq_false_iff_not]
    constructor
    · exact fun h => .inl (by omega)
    · rintro (h | h)
      · omega
      · exact absurd h.1 e
theorem swo_is {α : Type} (k : α → Int × Str) : Swo fun v u => isLt (k v) (k u) := by
  refine ⟨fun x y h => ?_, fun x y z h1 h2 => ?_⟩
  · refine isLt_no.mpr ?_
    rcases isLt_iff.mp h with h | ⟨e, h⟩
    · exact .inl h
    · exact .inr ⟨e.symm, List.le_of_lt h⟩
  · refine isLt_no.mpr ?_
    rcases isLt_no.mp h1 with a | ⟨a, a'⟩ <;> rcases isLt_no.mp h2 with b | ⟨b, b'⟩
    · exact .inl (by omega)
    · exact .inl (by omega)
    · exact .inl (by omega)
    · exact .inr ⟨by omega, List.le_trans a' b'⟩
section
variable {prog : Program} {w : World} {s : Shared} {A : Around} {E : Value → Shared → Prop}
/-- two such tuples compare as isLt says -/
theorem is_lt {a1 a2 : Addr} {o1 o2 : Obj} {x1 x2 : Int} {z1 z2 : Str} {t1 t2 u1 u2 : Tok} {n1 n2 : Nat} (g1 : s.heap.get? a1 = some o1) (d1 : o1.data = .seq #[.int x1 t1, .str z1 u1] n1) (g2 : s.heap.get? a2 = some o2) (d2 : o2.data = .seq #[.int x2 t2, .str z2 u2] n2) :
    wpAny (model prog w) A (keyLt' (tuples' true) (.ref a1) (.ref a2)) (fun r s' => s' = s ∧ r = isLt (x1, z1) (x2, z2)) (fun _ _ => False) s := by
  refine PySem.W.kat_lt g1 d1 g2 d2 ?_
  show PySem.W.KatLex prog w A true (decide (2 < 2)) _ [(.int x1 t1, .int x2 t2), (.str z1 u1, .str z2 u2)] 0 s
  refine PySem.W.kat_cons (SeqAt.EqAt.int_int x1 t1 x2 t2 prog w _ _ (PySem.W.kat_go (fun y1 => ?_) fun y1 => ?_))
  · have e1 : x1 = x2 := of_decide_eq_true (by simpa using y1)
    refine PySem.W.kat_yes (PySem.W.kat_cons (SeqAt.EqAt.str_str z1 u1 z2 u2 prog w _ _ (PySem.W.kat_go (fun y2 => ?_) fun y2 => ?_)))
    · have e2 : z1 = z2 := of_decide_eq_true (by simpa using y2)
      subst e1 e2
      exact PySem.W.kat_yes (PySem.W.kat_nil ⟨rfl, ((swo_is id).refl (x1, z1)).symm⟩)
    · exact PySem.W.kat_no (PySem.W.kat_one _ _ (PyProof.Rows.lt_str ⟨rfl, (if_pos (c := (x1, z1).1 = (x2, z2).1) e1).symm⟩))
  · have e1 : ¬ x1 = x2 := fun e => by
      subst e
      simp at y1
    exact PySem.W.kat_no (oneLt_int ⟨rfl, (if_neg (c := (x1, z1).1 = (x2, z2).1) e1).symm⟩)
theorem is_cmp {keys : List Value} {k : Value → Int × Str} (hp : ∀ v ∈ keys, IsIS s.heap v (k v).1 (k v).2) : Cmp prog w A s (tuples' true) (fun p => p.1 ∈ keys) (fun p q => isLt (k p.1) (k q.1)) := by
  rintro ⟨v1, w1⟩ ⟨v2, w2⟩ m1 m2
  obtain ⟨a1, o1, t1, u1, n1, e1, g1, _, d1⟩ := hp v1 m1
  obtain ⟨a2, o2, t2, u2, n2, e2, g2, _, d2⟩ := hp v2 m2
  have q := is_lt (prog := prog) (w := w) (A := A) (s := s) g1 d1 g2 d2
  rw [← e1, ← e2] at q
  exact q
theorem is_firsts {h : Heap} (keys : List Value) (hp : ∀ v ∈ keys, ∃ x z, IsIS h v x z) : ∃ fs : List Value, PySem.W.KatTups h keys fs ∧ fs.length = keys.length ∧ ∀ f ∈ fs, ∃ x t, f = Value.int x t := by
  induction keys with
  | nil => exact ⟨[], .nil, rfl, fun _ m => nomatch m⟩
  | cons v keys ih =>
    obtain ⟨fs, i1, i2, i3⟩ := ih fun u m => hp u (.tail _ m)
    obtain ⟨x, z, a, o, t, u, n, rfl, g, c, d⟩ := hp v (.head _)
    exact ⟨.int x t :: fs, .cons g c d rfl i1, congrArg Nat.succ i2, fun f m => (List.mem_cons.mp m).elim (fun e => ⟨x, t, e⟩) (i3 f)⟩
theorem is_kind {keys : List Value} {k : Value → Int × Str} {Q : SortKind → Shared → Prop} (some_ : 0 < keys.length) (hp : ∀ v ∈ keys, IsIS s.heap v (k v).1 (k v).2) (q : Q (tuples' true) s) : wpAny (model prog w) A (keyKind' keys.toArray) Q E s := by
  obtain ⟨fs, i1, i2, i3⟩ := is_firsts keys fun v m => ⟨_, _, hp v m⟩
  have differ : (Value.type "int" != Value.type "tuple") = true := by decide +kernel
  refine PySem.W.kat_kind (T := .type "int") i1 (by omega) (fun f m => ?_) rfl (by rw [differ]; exact q)
  obtain ⟨x, t, rfl⟩ := i3 f m
  exact PySem.W.Looks.now
/-- the sort itself: the keys stand in the store at kS, the list at a is empty -/
theorem key_end {a kS : Addr} {keys vs : List Value} {e e1 : Nat} {k : Value → Int × Str} {P : PySem.Fin → Shared → Prop} (hk : s.heap.get? kS = some (seqObj "list" keys.toArray e)) (ha : s.heap.get? a = some (seqObj "list" #[] e1)) (ne : kS ≠ a)
    (hl : keys.length = vs.length) (hz : vs.length ≤ sizeLine) (hp : ∀ v ∈ keys, IsIS s.heap v (k v).1 (k v).2)
    (h : ∀ (h' : Heap) (out : List (Value × Value)) (c : Nat), out.Perm (keys.zip vs) → out.Pairwise (fun p q => isLt (k q.1) (k p.1) = false) → (∀ b o, b ≠ kS → b ≠ a → s.heap.get? b = some o → h'.get? b = some o) →
      h'.get? a = some (seqObj "list" (out.map (·.2)).toArray c) → (∃ c', h'.get? kS = some (seqObj "list" #[] c')) → P (.done (.ret .none)) { s with heap := h' }) :
    wpAny (model prog w) A (ksk_end a false vs.toArray e1 (.ref kS) keys.toArray) P E s := by
  have ezip : (keys.toArray.zip vs.toArray).toList = keys.zip vs := by
    rw [ksk_zip, List.toList_toArray]
  have lz : (keys.zip vs).length = vs.length := by rw [List.length_zip, hl, Nat.min_self]
  have tail : ∀ st : SortSt, Srtd (fun p q : Keyed => isLt (k p.1) (k q.1)) (arrOf st).toList → Stb (fun p q : Keyed => isLt (k p.1) (k q.1)) (arrOf st).toList (keys.zip vs) → failedOf st = none →
      wpAny (model prog w) A (ksk_tail a false e1 (.ref kS) st) P E s := by
    intro st hs hb hf
    have hpm : (arrOf st).toList.Perm (keys.zip vs) := hb.perm
    have ls : ((arrOf st).map (·.2)).size = vs.length := by
      rw [Array.size_map, ← Array.length_toList, hpm.length_eq, lz]
    unfold ksk_tail
    try dsimp only
    refine wpAny_bind (listUpdate_at hk rfl ?_ (by rw [List.size_toArray, hl]; exact hz) (Nat.zero_le _))
    refine wpAny_bind (wpAny_letGo ?_)
    have ha1 : (s.heap.update kS (Obj.mapSeq fun _ => (#[] : Array Value))).get? a = some (seqObj "list" #[] e1) := ((Heap.SameBut.update s.heap kS _).2 a ne.symm).trans ha
    obtain ⟨c1, hk1⟩ : ∃ c1, (s.heap.update kS (Obj.mapSeq fun _ => (#[] : Array Value))).get? kS = some (seqObj "list" #[] c1) := ⟨_, get?_update_seq hk fun _ => #[]⟩
    refine wpAny_bind (seqEpoch_at ha1 rfl ?_)
    refine wpAny_bind (listUpdate_at ha1 rfl ?_ (Nat.zero_le _) (by show ((arrOf st).map (·.2)).size ≤ _; omega))
    rw [hf]
    simp only [bne_self_eq_false, Bool.false_eq_true, if_false]
    have s2 := Heap.SameBut.update (s.heap.update kS (Obj.mapSeq fun _ => (#[] : Array Value))) a (Obj.mapSeq fun _ => (arrOf st).map (·.2))
    obtain ⟨c2, hc2⟩ : ∃ c2, ((s.heap.update kS (Obj.mapSeq fun _ => (#[] : Array Value))).update a (Obj.mapSeq fun _ => (arrOf st).map (·.2))).get? a = some (seqObj "list" ((arrOf st).map (·.2)) c2) := ⟨_, get?_update_seq ha1 fun _ => (arrOf st).map (·.2)⟩
    have eo : (((arrOf st).toList.map (·.2)).toArray : Array Value) = (arrOf st).map (·.2) := by
      apply Array.ext'
      rw [List.toList_toArray, Array.toList_map]
    refine wpAny_pure (h _ (arrOf st).toList c2 hpm hs (fun b o n1 n2 q => (s2.2 b n2).trans (((Heap.SameBut.update s.heap kS _).2 b n1).trans q)) (by rw [eo]; exact hc2) ⟨c1, (s2.2 kS ne).trans hk1⟩)
  unfold ksk_end
  try dsimp only
  simp only [Bool.false_eq_true, if_false]
  by_cases h2 : vs.toArray.size < 2
  · rw [if_pos h2, if_pos h2]
    refine wpAny_bind (wpAny_pure ?_)
    rw [StateT.run_pure]
    refine wpAny_bind (wpAny_pure ?_)
    try dsimp only
    refine tail (SortSt.mk' general' (keys.toArray.zip vs.toArray) #[] 7 none) ?_ ?_ rfl
    · show Srtd _ (keys.toArray.zip vs.toArray).toList
      rw [ezip]
      rw [List.size_toArray] at h2
      match hh : keys.zip vs with
      | [] => exact List.Pairwise.nil
      | [v] => exact List.pairwise_singleton _ _
      | _ :: _ :: l =>
        rw [hh] at lz
        rw [List.length_cons, List.length_cons] at lz
        omega
    · show Stb _ (keys.toArray.zip vs.toArray).toList _
      rw [ezip]
      exact Stb.refl _
  · rw [if_neg h2, if_neg h2]
    rw [List.size_toArray] at h2
    refine wpAny_bind (is_kind (k := k) (by omega) hp ?_)
    have hall : AllL (fun p : Keyed => p.1 ∈ keys) (keys.toArray.zip vs.toArray).toList := fun p hm => by
      rw [ezip] at hm
      exact (List.of_mem_zip hm).1
    refine wpAny_bind (wpAny_mono (wpS_sortO (st0 := SortSt.mk' (tuples' true) (keys.toArray.zip vs.toArray) #[] 7 none)
      (Q := fun _ st' => Srtd (fun p q : Keyed => isLt (k p.1) (k q.1)) (arrOf st').toList ∧ Stb (fun p q : Keyed => isLt (k p.1) (k q.1)) (arrOf st').toList (keys.toArray.zip vs.toArray).toList ∧ failedOf st' = none)
      (swo_is fun p : Keyed => k p.1) (is_cmp hp) rfl hall rfl rfl fun st' a1 a2 a3 => ⟨a1, a2, a3⟩) ?_ fun _ _ e => e)
    rintro ⟨⟨⟩, st'⟩ s' ⟨rfl, hp1, hp2, hf⟩
    try dsimp only
    rw [ezip] at hp2
    exact tail st' hp1 hp2 hf
end
end SrtKy


namespace L2
open PySem PySem.Spec PyProof.Rows
section
variable {X : Cx} {pins : List (Addr × Obj)} {σ : St} {H : Hp} {s : Shared} {h' : Heap}
/-- an object that was not told is known from now on (it is younger than the entry, no frame, no cell, no pin) -/
theorem Inv.adopt {a : Addr} {o : HO} {t' : Nat} (I : Inv X pins σ H s) (k : ∀ b u, b ≠ a → s.heap.get? b = some u → h'.get? b = some u) (hn : H a = none) (hL : a ≠ X.env.locals) (h1 : a ∈ X.ex ∨ X.s_0.heap.objs.size ≤ a)
    (h2 : ∀ x c, X.env.cells.lookup x = some c → c ≠ a) (h3 : ∀ p ∈ X.pn ++ pins, p.1 ≠ a) (new : ObjOk X.prog X.w (upd H a o) h' a o) : Inv X pins σ (upd H a o) { s with heap := h', toks := t' } := by
  have nit : ∀ b u, H b = some u → b ≠ a := fun b u e z => by rw [z, hn] at e; cases e
  refine I.step (g' := s.gens) (d' := s.drawn) (ch := [a]) (fun b hb => ?_) (fun b o _ _ hc e _ => k b o (fun z => hc (by simp [z])) e) (fun b o _ _ hc e _ => ⟨o.slots, k b o (fun z => hc (by simp [z])) e⟩) (fun b _ hc _ n => by rw [upd_ne (fun z => hc (by simp [z]))]; exact n)
    (fun b o hc e => ⟨o, k b o (fun z => hc (by simp [z])) e⟩) (fun b _ e => by rw [upd_ne (nit b _ e)]; exact e) (fun b _ _ e => by rw [upd_ne (nit b _ e)]; exact e) (fun b ps e => ⟨#[], by rw [upd_ne (nit b _ e), e]; simp⟩) (fun m hm => ?_) (fun b u e => ?_) I.bare
  · have e : b = a := by simpa using hb
    subst e
    exact ⟨h1, hL, h2, h3⟩
  · obtain ⟨o, es, ep, ho, r⟩ := hm
    exact ⟨o, es, ep, k _ o (Ne.symm hL) ho, r⟩
  · by_cases hb : b = a
    · subst hb
      rw [upd_same] at e
      cases e
      exact new
    · rw [upd_ne hb] at e
      refine (I.hok b u e).stay (fun c v hc q => k c v ?_ q) (fun c q => by rw [upd_ne (nit c _ q)]; exact q) fun c _ q => by rw [upd_ne (nit c _ q)]; exact q
      rcases hc with z | z
      · rw [z]; exact hb
      · exact nit c _ z
/-- the same, a second object of ours having changed too -/
theorem Inv.adopt2 {a a2 : Addr} {o : HO} {t' : Nat} (I : Inv X pins σ H s) (k : ∀ b u, b ≠ a → b ≠ a2 → s.heap.get? b = some u → h'.get? b = some u) (hn : H a = none) (hn2 : H a2 = none)
    (hL : ∀ b, b = a ∨ b = a2 → ((b ∈ X.ex ∨ X.s_0.heap.objs.size ≤ b) ∧ b ≠ X.env.locals ∧ (∀ x c, X.env.cells.lookup x = some c → c ≠ b) ∧ ∀ p ∈ X.pn ++ pins, p.1 ≠ b)) (new : ObjOk X.prog X.w (upd H a o) h' a o) :
    Inv X pins σ (upd H a o) { s with heap := h', toks := t' } := by
  have nit : ∀ b u, H b = some u → b ≠ a := fun b u e z => by rw [z, hn] at e; cases e
  have nit2 : ∀ b u, H b = some u → b ≠ a2 := fun b u e z => by rw [z, hn2] at e; cases e
  refine I.step (g' := s.gens) (d' := s.drawn) (ch := [a, a2]) (fun b hb => hL b (by simpa using hb)) (fun b o _ _ hc e _ => k b o (fun z => hc (by simp [z])) (fun z => hc (by simp [z])) e)
    (fun b o _ _ hc e _ => ⟨o.slots, k b o (fun z => hc (by simp [z])) (fun z => hc (by simp [z])) e⟩) (fun b _ hc _ n => by rw [upd_ne (fun z => hc (by simp [z]))]; exact n)
    (fun b o hc e => ⟨o, k b o (fun z => hc (by simp [z])) (fun z => hc (by simp [z])) e⟩) (fun b _ e => by rw [upd_ne (nit b _ e)]; exact e) (fun b _ _ e => by rw [upd_ne (nit b _ e)]; exact e) (fun b ps e => ⟨#[], by rw [upd_ne (nit b _ e), e]; simp⟩) (fun m hm => ?_) (fun b u e => ?_) I.bare
  · obtain ⟨o, es, ep, ho, r⟩ := hm
    exact ⟨o, es, ep, k _ o (Ne.symm (hL a (.inl rfl)).2.1) (Ne.symm (hL a2 (.inr rfl)).2.1) ho, r⟩
  · by_cases hb : b = a
    · subst hb
      rw [upd_same] at e
      cases e
      exact new
    · rw [upd_ne hb] at e
      have hb2 := nit2 b _ e
      refine (I.hok b u e).stay (fun c v hc q => k c v ?_ ?_ q) (fun c q => by rw [upd_ne (nit c _ q)]; exact q) fun c _ q => by rw [upd_ne (nit c _ q)]; exact q
      · rcases hc with z | z
        · rw [z]; exact hb
        · exact nit c _ z
      · rcases hc with z | z
        · rw [z]; exact hb2
        · exact nit2 c _ z
/-- no cell of ours is a list -/
theorem Inv.nocell {a : Addr} {u : Obj} (I : Inv X pins σ H s) (h : s.heap.get? a = some u) (d : ∀ v, u.data ≠ .cell v) : ∀ x c, X.env.cells.lookup x = some c → c ≠ a := fun x c e z => by
  obtain ⟨v, o, ho, hd⟩ := I.cell x c e
  rw [z, h] at ho
  cases ho
  exact d _ hd
end
/-- what the keys of the first items are -/
def KysAt (H : Hp) (key : V → Int × Str) (xs : List V) (kA : List Value) : Prop := ∀ (j : Nat) (kv : Value), kA[j]? = some kv → ∃ (t : Addr) (x : V), kv = Value.ref t ∧ xs[j]? = some x ∧ H t = some (.tup [.int (key x).1, .str (key x).2])
theorem KysAt.up {H H' : Hp} {key : V → Int × Str} {xs : List V} {kA : List Value} (h : KysAt H key xs kA) (t : ∀ b ys, H b = some (.tup ys) → H' b = some (.tup ys)) : KysAt H' key xs kA := fun j kv e => by
  obtain ⟨a, x, e1, e2, e3⟩ := h j kv e
  exact ⟨a, x, e1, e2, t _ _ e3⟩
theorem KysAt.snoc {H : Hp} {key : V → Int × Str} {xs : List V} {kA : List Value} {t : Addr} {x : V} (h : KysAt H key xs kA) (hx : xs[kA.length]? = some x) (ht : H t = some (.tup [.int (key x).1, .str (key x).2])) : KysAt H key xs (kA ++ [.ref t]) := fun j kv e => by
  by_cases hj : j < kA.length
  · rw [List.getElem?_append_left hj] at e
    exact h j kv e
  · rw [List.getElem?_append_right (by omega)] at e
    have h0 : j - kA.length = 0 := by
      have := (List.getElem?_eq_some_iff.mp e).1
      rw [List.length_singleton] at this
      omega
    rw [h0] at e
    have e' : Value.ref t = kv := Option.some.inj e
    have : j = kA.length := by omega
    subst this
    exact ⟨t, x, e'.symm, hx, ht⟩
/-- the key that stands at an address -/
def keyOfL (H : Hp) : Value → Int × Str
  | .ref t => match H t with
    | some (.tup [.int n, .str z]) => (n, z)
    | _ => (0, "")
  | _ => (0, "")
theorem keyOfL_at {H : Hp} {t : Addr} {n : Int} {z : Str} (h : H t = some (.tup [.int n, .str z])) : keyOfL H (.ref t) = (n, z) := by
  show (match H t with
    | some (.tup [.int n, .str z]) => (n, z)
    | _ => ((0 : Int), ("" : Str))) = (n, z)
  rw [h]
theorem KysAt.is {X : Cx} {pins : List (Addr × Obj)} {σ : St} {H : Hp} {s : Shared} {key : V → Int × Str} {xs : List V} {kA : List Value} (I : Inv X pins σ H s) (h : KysAt H key xs kA) : ∀ v ∈ kA, SrtKy.IsIS s.heap v (keyOfL H v).1 (keyOfL H v).2 := fun v hv => by
  obtain ⟨j, hj⟩ := List.mem_iff_getElem?.mp hv
  obtain ⟨t, x, rfl, _, e⟩ := h j v hj
  rw [keyOfL_at e]
  obtain ⟨_, its, r, o, ho, hc, n, hd⟩ := I.hok _ _ e
  obtain ⟨u1, u2, rfl, ri, rj⟩ := vals2 r
  obtain ⟨t1, rfl⟩ := ri
  obtain ⟨t2, rfl⟩ := rj
  exact ⟨t, o, t1, t2, n, rfl, ho, hc, hd⟩
/-- a list whose picture is a permutation of a picture -/
theorem perm_lift {α β : Type} (f : α → β) {l m' : List β} (p : l.Perm m') : ∀ m : List α, m' = m.map f → ∃ l' : List α, l'.Perm m ∧ l'.map f = l := by
  induction p with
  | nil =>
    intro m e
    have : m = [] := List.map_eq_nil_iff.mp e.symm
    subst this
    exact ⟨[], .refl _, rfl⟩
  | cons x p ih =>
    intro m e
    cases m with
    | nil => cases e
    | cons y m =>
      rw [List.map_cons] at e
      injection e with e1 e2
      obtain ⟨l', h1, h2⟩ := ih m e2
      exact ⟨y :: l', h1.cons y, by rw [List.map_cons, h2, e1]⟩
  | swap x y l =>
    intro m e
    match m with
    | [] => cases e
    | [_] => simp at e
    | a :: b :: m =>
      rw [List.map_cons, List.map_cons] at e
      injection e with e1 e2
      injection e2 with e2 e3
      exact ⟨b :: a :: m, .swap a b m, by rw [List.map_cons, List.map_cons, e1, e2, e3]⟩
  | trans _ _ ih1 ih2 =>
    intro m e
    obtain ⟨l2, h1, h2⟩ := ih2 m e
    obtain ⟨l3, h3, h4⟩ := ih1 l2 h2.symm
    exact ⟨l3, h3.trans h1, h4⟩
theorem vals_map {α : Type} {f : α → V} {g : α → Value} : ∀ l : List α, (∀ p ∈ l, RelV (f p) (g p)) → Vals (l.map f) (l.map g)
  | [], _ => .nil
  | p :: l, h => .cons (h p (List.mem_cons_self ..)) (vals_map l fun q hq => h q (List.mem_cons_of_mem _ hq))
section
variable {X : Cx} {pins : List (Addr × Obj)} {σ : St} {H : Hp} {s : Shared}
theorem key_sort {A' : Around} {a f : Addr} {n : Nat} {xs : List V} {vs : List Value} {key : V → Int × Str} {J : Hp → Prop} {R : PySem.Fin → Shared → Prop} {E : Value → Shared → Prop}
    (I : Inv X pins σ H s) (hJ : J H) (r : Vals xs vs) (ha : s.heap.get? a = some (seqObj "list" vs.toArray n)) (hn : H a = none) (ho : X.s_0.heap.objs.size ≤ a) (hL : a ≠ X.env.locals) (hF : a ∉ X.fs) (hP : ∀ p ∈ X.pn ++ pins, p.1 ≠ a) (hz : vs.length ≤ sizeLine)
    (call_ : ∀ (x : V) (u : Value) (s' : Shared) (H' : Hp) (pins' : List (Addr × Obj)), x ∈ xs → RelV x u → Inv X (pins' ++ pins) σ H' s' → J H' → wpAny (model X.prog X.w) A' (call (.ref f) [u])
      (EP X (pins' ++ pins) σ fun v H2 => J H2 ∧ (∀ b ys, H' b = some (.tup ys) → H2 b = some (.tup ys)) ∧ ∃ t, v = .ref t ∧ H2 t = some (.tup [.int (key x).1, .str (key x).2])) (fun _ _ => False) s')
    (h : ∀ (ys : List V) (H1 : Hp) (s1 : Shared), ys.Perm xs → ys.Pairwise (fun x y => SrtKy.isLt (key y) (key x) = false) → J H1 → H1 a = none → Inv X pins σ (upd H1 a (.lst ys)) s1 → R (.done (.ret .none)) s1) :
    wpAny (model X.prog X.w) A' (ksk_tree a (.ref f) false) R E s := by
  have hlen : xs.length = vs.length := r.length
  obtain ⟨e1, ho1⟩ : ∃ e1, (s.heap.update a (Obj.mapSeq fun _ => (#[] : Array Value))).get? a = some (seqObj "list" #[] e1) := ⟨_, get?_update_seq ha fun _ => #[]⟩
  have emptied := Heap.SameBut.update s.heap a (Obj.mapSeq fun _ => (#[] : Array Value))
  unfold ksk_tree
  refine wpAny_bind (listItems_at ha rfl ?_)
  refine wpAny_bind (listUpdate_at ha rfl ?_ (by rw [List.size_toArray]; exact hz) (Nat.zero_le _))
  refine wpAny_bind (seqEpoch_at ho1 rfl ?_)
  refine wpAny_bind (wpAny_newTuple ?_ (by show vs.length ≤ _; exact hz))
  refine wpAny_bind (wpAny_newList ?_ (Nat.zero_le _))
  refine wpAny_holding ?_
  have next_ : ((s.heap.update a (Obj.mapSeq fun _ => (#[] : Array Value))).push (seqObj "tuple" vs.toArray 0)).objs.size = s.heap.objs.size + 1 := by rw [size_push', Heap.size_update]
  show wpAny _ _ (ksk_rest a (.ref f) false vs.toArray e1 (.ref ((s.heap.update a (Obj.mapSeq fun _ => (#[] : Array Value))).push (seqObj "tuple" vs.toArray 0)).objs.size)) _ _ { s with heap := ((s.heap.update a (Obj.mapSeq fun _ => (#[] : Array Value))).push (seqObj "tuple" vs.toArray 0)).push (seqObj "list" #[] 0) }
  have hk0 : (((s.heap.update a (Obj.mapSeq fun _ => (#[] : Array Value))).push (seqObj "tuple" vs.toArray 0)).push (seqObj "list" #[] 0)).get? ((s.heap.update a (Obj.mapSeq fun _ => (#[] : Array Value))).push (seqObj "tuple" vs.toArray 0)).objs.size = some (seqObj "list" #[] 0) := Heap.get?_push_size _ rfl
  have ha0 : (((s.heap.update a (Obj.mapSeq fun _ => (#[] : Array Value))).push (seqObj "tuple" vs.toArray 0)).push (seqObj "list" #[] 0)).get? a = some (seqObj "list" #[] e1) := Heap.get?_push_of_some _ (Heap.get?_push_of_some _ ho1)
  have hcell : ∀ x c, X.env.cells.lookup x = some c → c ≠ a := I.nocell ha (fun v z => nomatch z)
  have I1 : Inv X pins σ H { s with heap := ((s.heap.update a (Obj.mapSeq fun _ => (#[] : Array Value))).push (seqObj "tuple" vs.toArray 0)).push (seqObj "list" #[] 0) } :=
    I.turned (t' := s.toks) (it := a) (fun b o hb e => Heap.get?_push_of_some _ (Heap.get?_push_of_some _ ((emptied.2 b hb).trans e))) hn hL (.inr ho) hcell hP
  have hkn : s.heap.objs.size ≤ ((s.heap.update a (Obj.mapSeq fun _ => (#[] : Array Value))).push (seqObj "tuple" vs.toArray 0)).objs.size := by omega
  have hka : ((s.heap.update a (Obj.mapSeq fun _ => (#[] : Array Value))).push (seqObj "tuple" vs.toArray 0)).objs.size ≠ a := Nat.ne_of_gt (by rw [next_]; exact Nat.lt_succ_of_lt (Heap.lt_size ha))
  generalize ((s.heap.update a (Obj.mapSeq fun _ => (#[] : Array Value))).push (seqObj "tuple" vs.toArray 0)).objs.size = kS at hkn hka hk0 ⊢
  generalize ((s.heap.update a (Obj.mapSeq fun _ => (#[] : Array Value))).push (seqObj "tuple" vs.toArray 0)).push (seqObj "list" #[] 0) = h3 at I1 hk0 ha0 ⊢
  have kL : kS ≠ X.env.locals := Nat.ne_of_gt (Nat.lt_of_lt_of_le I.lt hkn)
  have kF : kS ∉ X.fs := I.nofs hkn
  have kP : ∀ p ∈ X.pn ++ pins, p.1 ≠ kS := fun p hp => Nat.ne_of_lt (Nat.lt_of_lt_of_le (Heap.lt_size (I.pin p hp).1) hkn)
  have kO : X.s_0.heap.objs.size ≤ kS := Nat.le_trans I.sz hkn
  have I2 : Inv X ([(kS, seqObj "list" ([] : List Value).toArray 0), (a, seqObj "list" #[] e1)] ++ pins) σ H { s with heap := h3 } := I1.pins_of fun p hp => by
    rcases List.mem_append.mp hp with hp | hp
    · rcases List.mem_cons.mp hp with rfl | hp
      · exact ⟨hk0, I.hok.fresh hkn, kL, kF, fun v z => nomatch z⟩
      · rw [List.mem_singleton.mp hp]
        exact ⟨ha0, hn, hL, hF, fun v z => nomatch z⟩
    · exact I1.pin p (List.mem_append_right _ hp)
  unfold ksk_rest
  refine wpAny_bind (wpAny_rule ?_)
  first
    | rw [List.forIn_toArray]
    | (rw [← Array.forIn_toList]; simp only [List.toList_toArray])
    | rw [← Array.forIn_toList]
  refine wpAny_bind (ksk_fold (fun i s' => ∃ (H' : Hp) (kA : List Value) (e : Nat), Inv X ([(kS, seqObj "list" kA.toArray e), (a, seqObj "list" #[] e1)] ++ pins) σ H' s' ∧ J H' ∧ kA.length = i ∧ KysAt H' key xs kA) vs 0 { s with heap := h3 }
    ⟨H, [], 0, I2, hJ, rfl, fun j kv e => by simp at e⟩ ?step ?done)
  case step =>
    rintro j u s' hu ⟨H', kA, e, I', hJ', hkl, hK⟩
    rw [Nat.zero_add] at hkl
    have hj : j < vs.length := (List.getElem?_eq_some_iff.mp hu).1
    obtain ⟨x, hx⟩ : ∃ x, xs[j]? = some x := ⟨_, List.getElem?_eq_getElem (by omega)⟩
    obtain ⟨u', hu', rx⟩ := r.get hx
    have eu : u' = u := by
      rw [hu] at hu'
      exact (Option.some.inj hu').symm
    subst eu
    refine wpAny_bind (wpAny_attempt (wpAny_mono (call_ x u' s' H' _ (List.mem_of_getElem? hx) rx I' hJ') (fun v s'' he => ?_) fun _ _ hF => hF.elim))
    obtain ⟨v', H2, J2, rv, hJ2, ht, t, ev, htt⟩ := he
    subst ev
    obtain rfl : v = Value.ref t := rv
    try dsimp only
    obtain ⟨nk, nkn, _, _, _⟩ := J2.pin (kS, seqObj "list" kA.toArray e) (List.mem_append_right _ (List.mem_append_left _ (.head _)))
    obtain ⟨na, nan, _, _, _⟩ := J2.pin (a, seqObj "list" #[] e1) (List.mem_append_right _ (List.mem_append_left _ (.tail _ (.head _))))
    obtain ⟨g, gg, gd, gt, gos⟩ := s''
    have hx1 := Heap.SameBut.update g kS (Obj.mapSeq (·.push (.ref t)))
    obtain ⟨c2, hc2⟩ : ∃ c2, (g.update kS (Obj.mapSeq (·.push (.ref t)))).get? kS = some (seqObj "list" (kA.toArray.push (.ref t)) c2) := ⟨_, get?_update_seq nk (·.push (.ref t))⟩
    refine wpAny_bind (listUpdate_at nk rfl ?_ (by rw [List.size_toArray]; omega) (by rw [Array.size_push, List.size_toArray]; omega))
    have J3 : Inv X pins σ H2 ⟨g, gg, gd, gt, gos⟩ := J2.pins_of fun p hp => J2.pin p (List.mem_append_right _ (List.mem_append_right _ hp))
    have J4 : Inv X pins σ H2 { (⟨g, gg, gd, gt, gos⟩ : Shared) with heap := g.update kS (Obj.mapSeq (·.push (.ref t))) } :=
      J3.turned (t' := gt) (it := kS) (fun b o hb q => (hx1.2 b hb).trans q) nkn kL (.inr kO) (J3.nocell nk (fun v z => nomatch z)) kP
    have eA : (kA ++ [Value.ref t]).toArray = kA.toArray.push (.ref t) := by simp
    refine wpAny_pure ⟨rfl, H2, kA ++ [.ref t], c2, J4.pins_of fun p hp => ?_, hJ2, by rw [List.length_append, List.length_singleton]; omega, (hK.up ht).snoc (by rw [hkl]; exact hx) htt⟩
    rcases List.mem_append.mp hp with hp | hp
    · rcases List.mem_cons.mp hp with rfl | hp
      · exact ⟨by rw [eA]; exact hc2, nkn, kL, kF, fun v z => nomatch z⟩
      · rw [List.mem_singleton.mp hp]
        exact ⟨(hx1.2 a hka.symm).trans na, nan, hL, hF, fun v z => nomatch z⟩
    · exact J4.pin p (List.mem_append_right _ hp)
  case done =>
    rintro s' ⟨H', kA, e, I', hJ', hkl, hK⟩
    rw [Nat.zero_add] at hkl
    obtain ⟨nk, nkn, _, _, _⟩ := I'.pin (kS, seqObj "list" kA.toArray e) (List.mem_append_right _ (List.mem_append_left _ (.head _)))
    obtain ⟨na, nan, _, _, _⟩ := I'.pin (a, seqObj "list" #[] e1) (List.mem_append_right _ (List.mem_append_left _ (.tail _ (.head _))))
    try dsimp only
    refine wpAny_bind (listItems_at nk rfl ?_)
    refine SrtKy.key_end (k := keyOfL H') nk na hka hkl hz (hK.is I') fun h' out c hp hs kp hA _ => ?_
    have J3 : Inv X pins σ H' s' := I'.pins_of fun p hp => I'.pin p (List.mem_append_right _ (List.mem_append_right _ hp))
    have lz : (kA.zip vs).length = xs.length := by rw [List.length_zip, hkl, Nat.min_self, hlen]
    obtain ⟨l', p1, p2⟩ := perm_lift Prod.fst hp ((kA.zip vs).zip xs) (by rw [List.map_fst_zip (by omega)])
    have every : ∀ p ∈ l', keyOfL H' p.1.1 = key p.2 ∧ RelV p.2 p.1.2 := fun p hm => by
      obtain ⟨j, hj⟩ := List.mem_iff_getElem?.mp (p1.mem_iff.mp hm)
      obtain ⟨⟨q1, q2⟩, q3⟩ := p
      rw [List.getElem?_zip_eq_some] at hj
      obtain ⟨hj1, hj2⟩ := hj
      rw [List.getElem?_zip_eq_some] at hj1
      obtain ⟨k1, k2⟩ := hj1
      obtain ⟨t, x, e3, e4, e5⟩ := hK j q1 k1
      obtain ⟨u, hu, ru⟩ := r.get hj2
      rw [k2] at hu
      cases hu
      rw [hj2] at e4
      cases e4
      subst e3
      exact ⟨keyOfL_at e5, ru⟩
    have py : (l'.map Prod.snd).Perm xs := by
      have q := p1.map Prod.snd
      rw [List.map_snd_zip (by omega)] at q
      exact q
    have pw : (l'.map Prod.snd).Pairwise (fun x y => SrtKy.isLt (key y) (key x) = false) := by
      rw [← p2, List.pairwise_map] at hs
      rw [List.pairwise_map]
      refine hs.imp_of_mem fun {p q} hm hm' hpq => ?_
      rw [← (every p hm).1, ← (every q hm').1]
      exact hpq
    have ev : Vals (l'.map Prod.snd) (out.map (·.2)) := by
      rw [← p2, List.map_map]
      exact vals_map l' fun p hm => (every p hm).2
    have hzy : (l'.map Prod.snd).length ≤ sizeLine := by rw [py.length_eq, hlen]; exact hz
    refine h _ H' _ py pw hJ' nan (J3.adopt2 (t' := s'.toks) (a := a) (a2 := kS) (o := .lst (l'.map Prod.snd)) (fun b u h1 h2 q => kp b u h2 h1 q) nan nkn (fun b hb => ?_) ⟨hzy, out.map (·.2), c, ev, hA⟩)
    rcases hb with rfl | rfl
    · exact ⟨.inr ho, hL, J3.nocell na (fun v z => nomatch z), hP⟩
    · exact ⟨.inr kO, kL, J3.nocell nk (fun v z => nomatch z), kP⟩
end
end L2


namespace L2
open PySem PySem.Spec PyProof.Rows LamX NdefX
/-- all that was told stays -/
def HKeep (H H' : Hp) : Prop := ∀ b o, H b = some o → H' b = some o
/-- the lambda as a function of the layer (its body is an expression: none of the statements' field is read) -/
def lamF (X : Cx) (params : Arguments) (scope : Scope) (c' : Addr) : NF := ⟨"<lambda>", X.env.qual ++ "<lambda>", params, [], scope, cloFrom X.env.cells scope.names [], c'⟩
/-- sorted(e, key=lambda ..): js: where the captured names stand among ours -/
def tSortLam (T : List (Addr × Str)) (q : Str) (N : List Str) (js : List Nat) (ta : TA) (tb : TE) : TE := fun σ H Q => ta σ H fun vs H1 => ∃ x : V, vs = [x] ∧ Tabs T H1 ∧ ∀ (c' : Addr) (H2 : Hp), ExtN H1 H2 → Tabs T H2 → H2 c' = some (CodeO c' q) →
  ∃ (a : Addr) (kvs : List (Key × V)) (ks : List Str) (key : Str → Int × Str), x = .ref a ∧ Rd H2 a (.dK kvs) ∧ kvs.map (·.1) = ks.map Sum.inr ∧ ks.length ≤ sizeLine ∧
    (∀ k ∈ ks, ∀ H, HKeep H2 H → tb (startF N [.str k] (js.map (NdefX.slotAt σ))) H fun v H3 => HKeep H H3 ∧ ∃ t, v = .ref t ∧ H3 t = some (.tup [.int (key k).1, .str (key k).2])) ∧
    ∀ (ys : List Str) (H3 : Hp) (p : Addr), ys.Perm ks → ys.Pairwise (fun x y => SrtKy.isLt (key y) (key x) = false) → HKeep H2 H3 → H3 p = none → Q (.ref p) (upd H3 p (.lst (ys.map V.str)))
section
variable {X : Cx}
theorem lam_call {pins : List (Addr × Obj)} {σ : St} {H : Hp} {s : Shared} {A' : Around} {f c' : Addr} {pm ctv : Value} {params : Arguments} {body : Expr} {scope : Scope} {N ps fr : List Str} {js : List Nat} {k : Nat} {us : List Value} {vs : List V} {tb : TE} {Q : VK}
    (I : Inv X pins σ H s) (hf : s.heap.get? f = some (PySem.W.kla_obj "<lambda>" (X.env.qual ++ "<lambda>") params body scope (cloFrom X.env.cells scope.names []) pm c' ctv)) (hc : H c' = some (CodeO c' (X.env.qual ++ "<lambda>")))
    (hb : bindArgs (PySem.W.kla_fn "<lambda>" (X.env.qual ++ "<lambda>") params body scope (cloFrom X.env.cells scope.names []) pm (.ref c') ctv) ⟨us, []⟩ = pure (ps.zip us)) (S : NScope N ps fr scope) (cp : Caps X (cloFrom X.env.cells scope.names []) fr js)
    (hr : Room (k + 1) A') (e0 : Env0 X.prog X.w X.K X.mg X.base A' X.stack s H) (hl : vs.length = ps.length) (r : Vals vs us)
    (hbody : ∀ (A : Around) (outer : List Env) (s : Shared) (H : Hp), Room k (A.deeper (envF (lamF X params scope c') f s.heap.objs.size)) → PE (ncx C8.CX0 X.prog X.w X.K X.mg X.base N (lamF X params scope c') f A outer s H C8.E0) body tb)
    (q : tb (startF N vs (js.map (NdefX.slotAt σ))) H Q) : wpAny (model X.prog X.w) A' (call (.ref f) us) (EP X pins σ fun v H2 => Q v H2 ∧ ∀ b ys, H b = some (.tup ys) → H2 b = some (.tup ys)) (fun _ _ => False) s := by
  obtain ⟨⟨oc, vs', t, hoc, hdc, hvc⟩, _, _⟩ := I.hok c' _ hc
  have rc : codeAny (model X.prog X.w) A' (.call (.ref f) ⟨us, []⟩) (CR C8.CX0 X.stack X.prog X.w H s (fun v H2 => Q v H2 ∧ ∀ b ys, H b = some (.tup ys) → H2 b = some (.tup ys)) C8.E0) s := by
    refine PySem.W.kla_callFunE hr.depth hf rfl S.co S.gen rfl ⟨c', oc, vs', t, rfl, hoc, hdc, hvc⟩ ?_
    rw [hb]
    refine wpAny_pure (wpAny_newFunctionEnv S.nocell (fun ⟨par, _⟩ mem => S.par par (List.of_mem_zip mem).1) (fun h₁ hns hsb => ⟨(e0.mod.nolimit.keeps fun b o e => (e0.bs b o e).1).fresh _ hsb, ?_⟩) S.kind)
    show codeAny _ _ (.expr body (envF (lamF X params scope c') f s.heap.objs.size)) _ _
    have stays : ∀ b o, s.heap.get? b = some o → h₁.get? b = some o := fun b o e => hsb.extBut b o (Nat.ne_of_lt (Heap.lt_size e)) (Heap.get?_push_of_some _ e)
    have J : Inv (ncx C8.CX0 X.prog X.w X.K X.mg X.base N (lamF X params scope c') f A' X.stack s H C8.E0) [] (startF N vs (js.map (NdefX.slotAt σ))) H { s with heap := h₁, toks := s.toks + (ps.zip us).length } :=
      inv_startN (F := lamF X params scope c') S hr.hd e0 hl r (cells_of I cp) hns stays
    refine PySem.W.kla_codeExpr (wpAny_mono ((hbody A' X.stack s H (hr.deeper _)).run [] _ _ H Q J q) (fun v s' hq => ?_) fun e s' hq => hq)
    obtain ⟨w', H', J', rv, hq'⟩ := hq
    exact ⟨w', H', J'.os, J'.bare, J'.base, J'.hok, rv, hq', J'.base.tups⟩
  refine wpAny_call (codeAny_mono rc fun r s' hq => ?_)
  cases r with
  | error e => exact (show False from hq).elim
  | ok fl =>
    cases fl with
    | ret u => exact I.after hq
    | next => exact False.elim hq
    | brk => exact False.elim hq
    | cont => exact False.elim hq
/-- THE RULE: sorted(e, key=lambda each: ..), e a dict of texts -/
theorem pe_sortedLam {T : List (Addr × Str)} {c P : Addr} {k : Nat} {params : Arguments} {body : Expr} {scope : Scope} {N fr : List Str} {js : List Nat} {each : Str} {e : Expr} {ta : TA} {tb : TE} {p pos kpos lpos : Pos} (hg : Gl X "sorted") (hm : X.mg "sorted" = none) (hcalm : X.calm = true) (ha : PA X [e] ta)
    (TB : TabB X.base X.mg c P) (hcode : X.env.code = .ref c) (hmT : (P, X.env.qual ++ "<lambda>") ∈ T) (hu : ∀ p ∈ T, p.1 = P → p.2 = X.env.qual ++ "<lambda>") (hdef : defaultsOf params X.env = ([], []))
    (hfree : ∀ y ∈ scope.names, y.2 = .free → X.env.scope.names.lookup y.1 = some .cell ∨ X.env.scope.names.lookup y.1 = some .free) (hfr : ∀ y ∈ fr, (y, NameKind.free) ∈ scope.names) (hjs : js.map (fun j => X.N[j]?) = fr.map some) (S : NScope N [each] fr scope)
    (hb : ∀ (q : Str) (cl : List (Str × Addr)) (pm cv ctv : Value) (u : Value), bindArgs (PySem.W.kla_fn "<lambda>" q params body scope cl pm cv ctv) ⟨[u], []⟩ = pure [(each, u)]) (hr : Room (k + 3) X.A)
    (hbody : ∀ (A : Around) (outer : List Env) (s : Shared) (H : Hp) (f c' : Addr), Room k (A.deeper (envF (lamF X params scope c') f s.heap.objs.size)) → PE (ncx C8.CX0 X.prog X.w X.K X.mg X.base N (lamF X params scope c') f A outer s H C8.E0) body tb)
    (hse : backTo pos (starEach [e] X.env) = (false, eval e X.env) :: backTo pos (starEach [] X.env) := by rfl) (hpl : (backTo pos (starEach [e] X.env)).any (·.1) = false := by rfl)
    (hall : (backToKw pos (keywordEach [⟨some "key", .Lambda params body scope lpos, kpos⟩] X.env)).all (·.1.isSome) = true := by rfl) (hnone : (backToKw pos (keywordEach [⟨some "key", .Lambda params body scope lpos, kpos⟩] X.env)).any (·.1.isNone) = false := by rfl)
    (hks : (backToKw pos (keywordEach [⟨some "key", .Lambda params body scope lpos, kpos⟩] X.env)).filterMap (·.1) = [Str.ofString "key"] := by rfl) :
    PE X (.Call (.Name "sorted" p) [e] [⟨some "key", .Lambda params body scope lpos, kpos⟩] pos) (tSortLam T (X.env.qual ++ "<lambda>") N js ta tb) := by
  refine ⟨fun pins s σ H Q I h => ?_⟩
  refine wpAny_Call_Name_kw (ld_blt I hg hm PyProof.Rows.Boot.«sorted» ?_ (by decide) (by decide))
  have hfr2 : ∀ y ∈ scope.names, y.2 = .free → ∃ c, X.env.cells.lookup y.1 = some c := fun y hy e => (hfree y hy e).elim (fun z => I.ok.has _ (.inl z)) fun z => I.ok.has _ (.inr z)
  refine PyProof.Rows.callWith_kw (thn (ha.run pos pins s σ H _ I h) fun us s1 hh => ?_) hse hpl hall hnone
  obtain ⟨vs, H1, I1, r1, x, ev, hT, hx⟩ := hh
  subst ev
  obtain ⟨ux, rfl, rx⟩ := vals1 r1
  rw [hks]
  show wpAny _ _ (evalAll ((do let v ← eval (.Lambda params body scope lpos) X.env; standAt pos; pure v) :: (backToKw pos (keywordEach [] X.env)).map (·.2))) _ _ s1
  refine wpAny_evalAll_cons (wpAny_bind (lam_make2 I1 TB hcode hmT hu hT hdef hfr2 fun f c' pm ctv H2 s2 I2 eN hT2 of f0 fF hc => ?_))
  refine wpAny_bind (wpAny_standAt (wpAny_pure (wpAny_evalAll_nil ?_)))
  obtain ⟨a, kvs, ks, key, rfl, hd, hkeys0, hz, hbs, hk⟩ := hx c' H2 eN hT2 hc
  cases rx
  show wpAny _ _ (call (.builtin "sorted") [.ref a] [(Str.ofString "key", .ref f)]) _ _ s2
  obtain ⟨z, lo, vs, rel, dd⟩ := dk_rd I2.hok hd
  obtain ⟨ep, hat⟩ := dd.dictAt
  have hkeys : vs.map (·.1) = ks.map Sum.inr := rel.keys.symm.trans hkeys0
  have hl : vs.length = ks.length := by
    have e := congrArg List.length hkeys
    rw [List.length_map, List.length_map] at e
    exact e
  have h16 : vs.length ≤ sizeLine := by rw [hl]; exact hz
  refine PyProof.Rows.call_function_entry_kw PyProof.Rows.kind_sorted PyProof.Rows.plain_sorted PyProof.Rows.entry_sorted (ksk_s1 _ _) ?_
  unfold Builtin.«sorted»
  refine wpAny_bind (m := checkCount "sorted" 1 1 _) (wpAny_pure ?_)
  refine wpAny_bind (PySem.W.kdu_collect (A := X.A.in1) (PySem.W.kdl_dict (knd := mixKind X.prog X.w) (kvs := vs) (ep := ep) lo) (I2.ok.hd hcalm) hat h16 fun h' tk acc hk2 hacc => ?_)
  have many : acc.toList.length = ks.length := by rw [Array.length_toList, hacc.1, hl]
  have hS : Vals (ks.map V.str) acc.toList := by
    have rows : Vals (vs.map fun p => kV p.1) acc.toList := keys_at (by rw [Array.length_toList]; exact hacc.1) fun j v e => hacc.2 j v (by rw [← Array.getElem?_toList]; exact e)
    have ek : (vs.map fun p => kV p.1) = ks.map V.str := by
      have e := congrArg (List.map kV) hkeys
      rw [List.map_map, List.map_map] at e
      exact e
    rw [ek] at rows
    exact rows
  have I3 : Inv X pins σ H2 { s2 with heap := h', toks := tk } := I2.kept hk2
  refine wpAny_bind (wpAny_newList ?_ (by rw [many]; exact hz))
  have laid_ : (h'.push (seqObj "list" acc.toList.toArray 0)).get? h'.objs.size = some (seqObj "list" acc.toList.toArray 0) := Heap.get?_push_size _ rfl
  show wpAny _ _ _ _ _ { s2 with heap := h'.push (seqObj "list" acc.toList.toArray 0), toks := tk }
  obtain ⟨fo, efo⟩ : ∃ fo, fo = PySem.W.kla_obj "<lambda>" (X.env.qual ++ "<lambda>") params body scope (cloFrom X.env.cells scope.names []) pm c' ctv := ⟨_, rfl⟩
  rw [← efo] at of
  have of3 : h'.get? f = some fo := hk2 _ _ of
  have fL : f ≠ X.env.locals := fun e => by
    obtain ⟨m, ⟨o, es, ep2, ho, hd2, _⟩, _⟩ := I2.loc
    rw [← e, of] at ho
    have ho' := Option.some.inj ho
    rw [← ho', efo] at hd2
    cases hd2
  have fFs : f ∉ X.fs := fun hm => fF (I2.ok.stk.elim (fun e => by rw [e]; exact hm) fun e => by rw [e.1]; exact (List.mem_filterMap.mpr (by
    obtain ⟨x, hx, q⟩ := List.mem_filterMap.mp hm
    exact ⟨x, List.mem_cons_of_mem _ hx, q⟩)))
  have I4 : Inv X ((f, fo) :: pins) σ H2 { s2 with heap := h'.push (seqObj "list" acc.toList.toArray 0), toks := tk } := (I3.kept (t' := tk) fun b u e => Heap.get?_push_of_some _ e).pins_of fun p hp => by
    rcases List.mem_cons.mp hp with rfl | hp
    · exact ⟨Heap.get?_push_of_some _ of3, f0, fL, fFs, fun v z => by
        rw [efo] at z
        cases z⟩
    · exact ⟨Heap.get?_push_of_some _ (I3.pin p (List.mem_append_right _ hp)).1, (I3.pin p (List.mem_append_right _ hp)).2⟩
  refine wpAny_bind (wpAny_holding (wpAny_call_entry_kw PyProof.Rows.slot_list_sort ⟨_, laid_, rfl⟩ PyProof.Rows.entry_list_sort ?_ (ksk_l1 _ _)))
  rw [ksk_t1]
  have hlt : ∀ p ∈ X.pn ++ ((f, fo) :: pins), p.1 ≠ h'.objs.size := fun p hp => by
    have lt : p.1 < h'.objs.size := by
      rcases List.mem_append.mp hp with hp | hp
      · exact Heap.lt_size (I3.pin p (List.mem_append_left _ hp)).1
      · rcases List.mem_cons.mp hp with rfl | hp
        · exact Heap.lt_size of3
        · exact Heap.lt_size (I3.pin p (List.mem_append_right _ hp)).1
    exact Nat.ne_of_lt lt
  refine key_sort (A' := X.A.in1.in1) (a := h'.objs.size) (xs := ks.map V.str) (key := fun v => match v with | .str y => key y | _ => (0, "")) (J := HKeep H2) I4 (fun _ _ e => e) hS laid_ (I3.hok.fresh (Nat.le_refl _)) I3.sz (Nat.ne_of_gt I3.lt) (I3.nofs (Nat.le_refl _)) hlt (by rw [many]; exact hz) (fun x u s' H' pins' hxm rx I' hJ => ?_) (fun ys H3 s3 py pw hJ hn J3 => ?_)
  · obtain ⟨y, hy, rfl⟩ := List.mem_map.mp hxm
    obtain ⟨of5, _, _, _, _⟩ := I'.pin (f, fo) (List.mem_append_right _ (List.mem_append_right _ (.head _)))
    rw [efo] at of5
    refine wpAny_mono (lam_call (vs := [V.str y]) (ps := [each]) (Q := fun v H3 => HKeep H' H3 ∧ ∃ t, v = .ref t ∧ H3 t = some (.tup [.int (key y).1, .str (key y).2])) I' of5 (hJ _ _ hc) (hb _ _ _ _ _ _) S (Caps.made I'.ok hfree hfr hjs) (hr.in1.in1) I'.env0.in1.in1 rfl (.cons rx .nil)
      (fun A outer s H hr2 => hbody A outer s H f c' hr2) (hbs y hy H' hJ)) (fun v s' hq => ?_) fun _ _ z => z
    obtain ⟨w, H4, I5, rv, ⟨q1, q2⟩, q3⟩ := hq
    exact ⟨w, H4, I5, rv, fun b o e => q1 b o (hJ b o e), q3, q2⟩
  · obtain ⟨zs, pz, ez⟩ := perm_lift V.str py ks rfl
    refine ⟨_, rfl, wpAny_pure ⟨_, rfl, .ref h'.objs.size, upd H3 h'.objs.size (.lst (zs.map V.str)), ?_, rfl, hk zs H3 _ pz ?_ hJ hn⟩⟩
    · rw [ez]
      exact J3.pins_of fun p hp => J3.pin p (List.mem_append_right _ (List.mem_cons_of_mem _ hp))
    · rw [← ez, List.pairwise_map] at pw
      exact pw
end
end L2


/-! heaps, lists, texts: what all the laws' proofs share. -/
namespace FT
open PySem L2 TL
abbrev Same (H H' : Hp) : Prop := ∀ b o, H b = some o → H' b = some o
theorem Same.refl {H : Hp} : Same H H := fun _ _ e => e
theorem Same.trans {H H1 H2 : Hp} (a : Same H H1) (b : Same H1 H2) : Same H H2 := fun x o e => b x o (a x o e)
theorem Same.free {H H' : Hp} {p : Addr} (s : Same H H') (n : H' p = none) : H p = none := by
  cases e : H p with
  | none => rfl
  | some o =>
    rw [s p o e] at n
    cases n
theorem Same.sql {K : PySem.W.Frag} {H H' : Hp} {a : Addr} {xs : List V} (e : Same H H') (h : SqL K H a xs) : SqL K H' a xs := by
  rcases h with (h | ⟨o, h⟩) | h
  · exact .inl (.inl (e _ _ h))
  · exact .inl (.inr ⟨o, e _ _ h⟩)
  · exact .inr h
theorem Same.sqt {K : PySem.W.Frag} {H H' : Hp} {a : Addr} {xs : List V} (e : Same H H') (h : SqT K H a xs) : SqT K H' a xs := by
  rcases h with (h | ⟨o, h⟩) | h
  · exact .inl (.inl (e _ _ h))
  · exact .inl (.inr ⟨o, e _ _ h⟩)
  · exact .inr h
theorem same_new {H : Hp} {p : Addr} {o : HO} (n : H p = none) : Same H (upd H p o) := fun b u e => by
  rw [upd_ne (ne_of_none e n)]
  exact e
theorem Same.put {H H' : Hp} {p : Addr} {o : HO} (s : Same H H') (n : H p = none) : Same H (upd H' p o) := fun b u e => by
  rw [upd_ne (ne_of_none e n)]
  exact s b u e
/-- what the text finds among the module's names -/
structure Nm (mg : Str → Option Value) : Prop where
  abs : mg "abs" = none
  len : mg "len" = none
  rng : mg "range" = none
  enu : mg "enumerate" = none
  zip : mg "zip" = none
  isi : mg "isinstance" = none
  all : mg "all" = none
  srt : mg "sorted" = none
  lst : mg "list" = none
  dct : mg "dict" = none
  str : mg "str" = none
  int : mg "int" = none
  tup : mg "tuple" = none
  sum : mg "sum" = none
  min : mg "min" = none
  max : mg "max" = none
  rep : mg "repr" = none
  bool : mg "bool" = none
  any : mg "any" = none
  vE : mg "ValueError" = none
theorem take_more {α : Type} {l : List α} {i : Nat} {x : α} (h : l[i]? = some x) : l.take (i + 1) = l.take i ++ [x] := by
  rw [List.take_succ, h] <;> rfl
theorem cut_ints (ns : List Int) (lo hi : Option Int) : ∃ ms : List Int, cutV (ns.map V.int) lo hi = ms.map V.int ∧ ms.length ≤ ns.length := by
  unfold cutV
  generalize HT.sIx (ns.map V.int).length 0 lo = i
  generalize HT.sIx (ns.map V.int).length (ns.map V.int).length hi = j
  refine ⟨(ns.drop i).take (j - i), by rw [List.map_take, List.map_drop], ?_⟩
  rw [List.length_take, List.length_drop]
  omega
theorem cut_take {xs : List V} {j : Nat} (h : j ≤ xs.length) : cutV xs none (some (j : Int)) = xs.take j := by
  have e : HT.sIx xs.length xs.length (some (j : Int)) = min j xs.length := HT.sIx_nat _ _ j
  show (xs.drop 0).take (HT.sIx xs.length xs.length (some (j : Int)) - 0) = xs.take j
  rw [e, List.drop_zero, Nat.sub_zero, Nat.min_eq_left h]
theorem map_at {α : Type} {f : α → V} {cells : List α} {j : Nat} {z : α} (h : cells[j]? = some z) : (cells.map f)[j]? = some (f z) := by
  rw [List.getElem?_map, h] <;> rfl
theorem map_of {α : Type} {f : α → V} {l : List α} {j : Nat} {x : V} (h : (l.map f)[j]? = some x) : ∃ z, l[j]? = some z ∧ x = f z := by
  rw [List.getElem?_map] at h
  obtain ⟨z, hz, rfl⟩ := Option.map_eq_some_iff.mp h
  exact ⟨z, hz, rfl⟩
theorem ixN_nat {n j : Nat} (h : j < n) : ixN n (j : Int) = some j := by
  unfold ixN
  rw [if_pos (by omega), if_pos (by omega)]
  simp
theorem map_erase {α β : Type} (f : α → β) : ∀ (l : List α) (i : Nat), (l.map f).eraseIdx i = (l.eraseIdx i).map f
  | [], _ => rfl
  | _ :: _, 0 => rfl
  | a :: l, i + 1 => congrArg (List.cons (f a)) (map_erase f l i)
theorem erase_perm {α : Type} : ∀ (l : List α) (i : Nat) (h : i < l.length), (l[i] :: l.eraseIdx i).Perm l
  | [], _, h => absurd h (Nat.not_lt_zero _)
  | _ :: _, 0, _ => .refl _
  | a :: l, i + 1, h => (List.Perm.swap a _ _).trans ((erase_perm l i (Nat.lt_of_succ_lt_succ h)).cons a)
/-- how many items stand there -/
def many (H : Hp) (a : Addr) : Nat := match H a with
  | some (.lst xs) => xs.length
  | _ => 0
theorem many_at {H : Hp} {a : Addr} {xs : List V} (h : H a = some (.lst xs)) : many H a = xs.length := by
  unfold many
  rw [h]
theorem items_strs {Pz : Str → Prop} {ws : List Str} (h : ∀ z ∈ ws, Pz z) : ∀ (i : Nat) (x : V), (ws.map V.str)[i]? = some x → ∃ z, x = .str z ∧ Pz z := fun i x e => by
  obtain ⟨z, hz, rfl⟩ := map_of e
  exact ⟨z, rfl, h z (List.mem_of_getElem? hz)⟩
theorem items_ints {Pz : Int → Prop} {ws : List Int} (h : ∀ z ∈ ws, Pz z) : ∀ (i : Nat) (x : V), (ws.map V.int)[i]? = some x → ∃ z, x = .int z ∧ Pz z := fun i x e => by
  obtain ⟨z, hz, rfl⟩ := map_of e
  exact ⟨z, rfl, h z (List.mem_of_getElem? hz)⟩
theorem inV_strs (x : Str) : ∀ fs : List Str, inV (.str x) (fs.map V.str) = decide (x ∈ fs)
  | [] => rfl
  | y :: fs => by
    show (eqV (.str y) (.str x) || inV (.str x) (fs.map V.str)) = _
    rw [inV_strs x fs]
    have e : eqV (.str y) (.str x) = decide (x = y) := by
      show (y == x) = decide (x = y)
      rw [Bool.eq_iff_iff, beq_iff_eq, decide_eq_true_eq]
      exact eq_comm
    rw [e, Bool.eq_iff_iff]
    simp only [Bool.or_eq_true, decide_eq_true_eq, List.mem_cons]
theorem flat_strs : ∀ fs : List Str, (fs.map V.str).all flatV = true
  | [] => rfl
  | _ :: fs => flat_strs fs
/-! ### texts -/
/-- a name: letters, one to eight, not self -/
def NameL (z : Str) : Prop := (∀ c ∈ tl z, 97 ≤ c ∧ c ≤ 122) ∧ 1 ≤ (tl z).length ∧ (tl z).length ≤ 8 ∧ z ≠ "self"
instance (z : Str) : Decidable (NameL z) := by unfold NameL; infer_instance
theorem NameL.len {z : Str} (h : NameL z) : 1 ≤ z.length ∧ z.length ≤ 8 := by
  rw [len_tl]
  exact ⟨h.2.1, h.2.2.1⟩
theorem NameL.self {z : Str} (h : NameL z) : z ≠ "self" := h.2.2.2
theorem NameL.ne {z : Str} (h : NameL z) : z ≠ "" := fun e => by
  subst e
  have := h.2.1
  revert this
  decide +kernel
theorem strOk_name {z : Str} (h : NameL z) : PyData.strOk z = true := by
  unfold PyData.strOk
  simp only [Bool.and_eq_true, decide_eq_true_eq, Array.all_eq_true_iff_forall_mem]
  intro c hc
  have := h.1 c (Array.mem_toList_iff.mpr hc)
  omega
theorem strOk_root : PyData.strOk "" = true := by decide +kernel
/-! ### order -/
theorem rising_all : ∀ (l : List Str) (p : Str), PyProof.Rows.risingS p l = true → (∀ y ∈ l, tl p ≤ tl y) ∧ l.Pairwise (fun a b => tl a ≤ tl b)
  | [], p, _ => ⟨fun y h => (by cases h), List.Pairwise.nil⟩
  | x :: r, p, h => by
    have h' : (!PySem.Spec.ltCps x.cps.toList p.cps.toList && PyProof.Rows.risingS x r) = true := h
    rw [Bool.and_eq_true, PyProof.Rows.ltCps_eq] at h'
    obtain ⟨h1, h2⟩ := h'
    have px : tl p ≤ tl x := by
      show ¬ (tl x < tl p)
      intro z
      rw [decide_eq_true z] at h1
      cases h1
    obtain ⟨i1, i2⟩ := rising_all r x h2
    refine ⟨fun y hy => ?_, List.pairwise_cons.mpr ⟨i1, i2⟩⟩
    rcases List.mem_cons.mp hy with rfl | hy
    · exact px
    · exact List.le_trans px (i1 y hy)
theorem sorted_pw {l : List Str} (h : PyProof.Rows.sortedS l = true) : l.Pairwise (fun a b => tl a ≤ tl b) := by
  cases l with
  | nil => exact .nil
  | cons x r =>
    obtain ⟨i1, i2⟩ := rising_all r x h
    exact List.pairwise_cons.mpr ⟨i1, i2⟩
/-- one order of the same texts -/
theorem sorted_one {l m : List Str} (p : l.Perm m) (hl : PyProof.Rows.sortedS l = true) (hm : PyProof.Rows.sortedS m = true) : l = m :=
  List.Perm.eq_of_pairwise (le := fun a b => tl a ≤ tl b) (fun a b _ _ h1 h2 => ext_tl (List.le_antisymm h1 h2)) (sorted_pw hl) (sorted_pw hm) p
/-! ### comprehensions of dicts, locks -/
/-- a dict comprehension over a walk: Pv by the turn and the heap (the new dict at D within) -/
theorem dc_it {J : It} {n : Nat} {G : Hp → Prop} {Y : Nat → Hp → V → Hp → Prop} (w : Walk J n G Y) {g : TG} {tt : TT} {tk tv : TE} {vs : List Nat} {σ : St} {H1 : Hp} {D : Addr} {Qd : Hp → Prop} (Pv : Nat → Hp → Prop) (h0 : Pv 0 (upd H1 D (.dK []))) (hG : ∀ i H, i ≤ n → Pv i H → G H)
    (hs : ∀ i x H H', i < n → Pv i H → Y i H x H' → g x (wipe σ vs) H' fun σ2 H2 => wipe σ2 vs = wipe σ vs ∧ tt σ2 H2 fun b H3 =>
      if b = true then tk σ2 H3 fun y H4 => tv σ2 H4 fun z H5 => ∃ kvs k, y = kV k ∧ H5 D = some (.dK kvs) ∧ kvs.length < sizeLine ∧ Pv (i + 1) (upd H5 D (.dK (putK kvs k z))) else Pv (i + 1) H3) (hd : ∀ H, Pv n H → Qd H) :
    ∃ W : Nat → Nat → Hp → Prop, (∃ m, W 0 m (upd H1 D (.dK []))) ∧ ∀ i m H, W i m H →
      (J.stop i H ∧ Qd H) ∨ (J.go i H ∧ ∃ Nx : Hp → Prop, (∀ H', Nx H' → ∃ m', m' < m ∧ W (i + 1) m' H') ∧ ∀ x H', J.yld i H x H' → g x (wipe σ vs) H' fun σ2 H2 => wipe σ2 vs = wipe σ vs ∧ tt σ2 H2 fun b H3 =>
        if b = true then tk σ2 H3 fun y H4 => tv σ2 H4 fun z H5 => ∃ kvs k, y = kV k ∧ H5 D = some (.dK kvs) ∧ kvs.length < sizeLine ∧ Nx (upd H5 D (.dK (putK kvs k z))) else Nx H3) := by
  refine ⟨fun i m H => m = n - i ∧ i ≤ n ∧ Pv i H, ⟨n, by simp, Nat.zero_le _, h0⟩, fun i m H ⟨em, hi, p⟩ => ?_⟩
  have gh := hG i H hi p
  rcases Nat.lt_or_ge i n with lt | ge
  · exact .inr ⟨w.goes i H lt gh, Pv (i + 1), fun H' p' => ⟨n - (i + 1), by omega, rfl, lt, p'⟩, fun x H' y => hs i x H H' lt p (w.yields i H x H' lt gh y)⟩
  · have ei : i = n := by omega
    subst ei
    exact .inl ⟨w.stops H gh, hd H p⟩
theorem unlock_same {H H' : Hp} {q : Addr} {u : HO} {o : Obj} (e : H q = some u) (s : Same (upd H q (.frz o u)) H') : Same H (upd H' q u) := fun b x h => by
  by_cases z : b = q
  · subst z
    rw [upd_same]
    exact e.symm.trans h |>.symm ▸ rfl
  · rw [upd_ne z]
    exact s b x (by rw [upd_ne z]; exact h)
/-! ### dicts with text keys, by any values -/
/-- a dict of values by texts -/
def kvT (t : List (Str × V)) : List (Key × V) := t.map fun p => (Sum.inr p.1, p.2)
theorem kvT_len (t : List (Str × V)) : (kvT t).length = t.length := by unfold kvT; rw [List.length_map]
theorem kvT_app (t : List (Str × V)) (f : Str) (z : V) : kvT t ++ [(Sum.inr f, z)] = kvT (t ++ [(f, z)]) := by
  unfold kvT
  rw [List.map_append] <;> rfl
theorem kvT_any (t : List (Str × V)) (f : Str) : ((kvT t).any fun kv => decide (kv.1 = Sum.inr f)) = decide (f ∈ t.map Prod.fst) := by
  induction t with
  | nil => rfl
  | cons p t ih =>
    show (decide ((Sum.inr p.1 : Key) = Sum.inr f) || ((kvT t).any fun kv => decide (kv.1 = Sum.inr f))) = _
    rw [ih, Bool.eq_iff_iff]
    simp only [Bool.or_eq_true, decide_eq_true_eq, List.map_cons, List.mem_cons]
    constructor
    · rintro (h | h)
      · exact .inl (Sum.inr.inj h).symm
      · exact .inr h
    · rintro (h | h)
      · exact .inl (by rw [h])
      · exact .inr h
theorem kvT_put {t : List (Str × V)} {f : Str} {z : V} (n : f ∉ t.map Prod.fst) : putK (kvT t) (Sum.inr f) z = kvT (t ++ [(f, z)]) := by
  unfold putK
  rw [kvT_any, decide_eq_false n, if_neg (by decide), kvT_app]
/-- the value of a key -/
def look (t : List (Str × V)) (f : Str) : Option V := (t.find? fun p => decide (p.1 = f)).map Prod.snd
theorem look_cons (p : Str × V) (t : List (Str × V)) (f : Str) : look (p :: t) f = if p.1 = f then some p.2 else look t f := by
  unfold look
  rw [List.find?_cons]
  by_cases e : p.1 = f
  · rw [if_pos e, decide_eq_true e] <;> rfl
  · rw [if_neg e, decide_eq_false e]
theorem kvT_val : ∀ (t : List (Str × V)) (f : Str), valV (kvT t) (Sum.inr f) = look t f
  | [], f => rfl
  | p :: t, f => by
    rw [look_cons]
    by_cases e : p.1 = f
    · rw [if_pos e]
      exact valV_pos (by show (Sum.inr p.1 : Key) = Sum.inr f; rw [e])
    · rw [if_neg e]
      exact (valV_neg (p := (Sum.inr p.1, p.2)) (fun z => e (Sum.inr.inj z))).trans (kvT_val t f)
theorem look_none {t : List (Str × V)} {f : Str} (n : f ∉ t.map Prod.fst) : look t f = none := by
  induction t with
  | nil => rfl
  | cons p t ih =>
    rw [List.map_cons, List.mem_cons] at n
    rw [look_cons, if_neg (fun e => n (.inl e.symm))]
    exact ih fun m => n (.inr m)
theorem look_some {t : List (Str × V)} {f : Str} (h : f ∈ t.map Prod.fst) : ∃ v, look t f = some v := by
  induction t with
  | nil => cases h
  | cons p t ih =>
    rw [look_cons]
    by_cases e : p.1 = f
    · exact ⟨_, if_pos e⟩
    · rw [if_neg e]
      exact ih ((List.mem_cons.mp h).resolve_left fun z => e z.symm)
theorem look_has {t : List (Str × V)} {f : Str} : (look t f).isSome = decide (f ∈ t.map Prod.fst) := by
  by_cases h : f ∈ t.map Prod.fst
  · obtain ⟨v, e⟩ := look_some h
    rw [e, decide_eq_true h] <;> rfl
  · rw [look_none h, decide_eq_false h] <;> rfl
theorem look_mem {t : List (Str × V)} {f : Str} {v : V} (h : look t f = some v) : (f, v) ∈ t := by
  induction t with
  | nil => cases h
  | cons p t ih =>
    rw [look_cons] at h
    by_cases e : p.1 = f
    · rw [if_pos e] at h
      cases h
      exact List.mem_cons.mpr (.inl (by rw [← e]))
    · rw [if_neg e] at h
      exact List.mem_cons_of_mem _ (ih h)
theorem look_of {t : List (Str × V)} {f : Str} {v : V} (nd : (t.map Prod.fst).Nodup) (h : (f, v) ∈ t) : look t f = some v := by
  induction t with
  | nil => cases h
  | cons p t ih =>
    obtain ⟨n1, n2⟩ := List.nodup_cons.mp nd
    rw [look_cons]
    rcases List.mem_cons.mp h with e | h
    · subst e
      exact if_pos rfl
    · rw [if_neg fun e => n1 (by rw [e]; exact List.mem_map.mpr ⟨_, h, rfl⟩)]
      exact ih n2 h
theorem look_app {t u : List (Str × V)} {f : Str} : look (t ++ u) f = (look t f).or (look u f) := by
  induction t with
  | nil => rfl
  | cons p t ih =>
    rw [List.cons_append, look_cons, look_cons, ih]
    by_cases e : p.1 = f
    · rw [if_pos e, if_pos e] <;> rfl
    · rw [if_neg e, if_neg e]
theorem look_perm {t u : List (Str × V)} (nd : (t.map Prod.fst).Nodup) (p : t.Perm u) (f : Str) : look t f = look u f := by
  cases e : look t f with
  | some v => exact (look_of ((p.map _).nodup_iff.mp nd) (p.mem_iff.mp (look_mem e))).symm
  | none =>
    cases e2 : look u f with
    | none => rfl
    | some v =>
      have := look_of nd (p.mem_iff.mpr (look_mem e2))
      rw [e] at this
      cases this
/-- a key's value, written anew -/
def putT (t : List (Str × V)) (f : Str) (z : V) : List (Str × V) := if f ∈ t.map Prod.fst then t.map fun p => if p.1 = f then (p.1, z) else p else t ++ [(f, z)]
theorem kvT_putT (t : List (Str × V)) (f : Str) (z : V) : putK (kvT t) (Sum.inr f) z = kvT (putT t f z) := by
  by_cases h : f ∈ t.map Prod.fst
  · unfold putK putT
    rw [kvT_any, decide_eq_true h, if_pos rfl, if_pos h]
    unfold kvT
    rw [List.map_map, List.map_map]
    refine List.map_congr_left fun p _ => ?_
    show (if (Sum.inr p.1 : Key) = Sum.inr f then ((Sum.inr p.1 : Key), z) else (Sum.inr p.1, p.2)) = (Sum.inr (if p.1 = f then (p.1, z) else p).1, (if p.1 = f then (p.1, z) else p).2)
    by_cases e : p.1 = f
    · rw [if_pos e, if_pos (by rw [e])]
    · rw [if_neg e, if_neg fun q => e (Sum.inr.inj q)]
  · rw [kvT_put h]
    unfold putT
    rw [if_neg h]
theorem putT_keys {t : List (Str × V)} {f : Str} {z : V} (h : f ∈ t.map Prod.fst) : (putT t f z).map Prod.fst = t.map Prod.fst := by
  unfold putT
  rw [if_pos h, List.map_map]
  refine List.map_congr_left fun p _ => ?_
  show (if p.1 = f then (p.1, z) else p).1 = p.1
  by_cases e : p.1 = f
  · rw [if_pos e]
  · rw [if_neg e]
theorem look_put (t : List (Str × V)) (f g : Str) (z : V) : look (putT t f z) g = if g = f then some z else look t g := by
  by_cases h : f ∈ t.map Prod.fst
  · unfold putT
    rw [if_pos h]
    have key : ∀ t : List (Str × V), look (t.map fun p => if p.1 = f then (p.1, z) else p) g = if g = f then (if f ∈ t.map Prod.fst then some z else none) else look t g := by
      intro t
      induction t with
      | nil =>
        show (none : Option V) = _
        by_cases e : g = f
        · rw [if_pos e]
          simp
        · rw [if_neg e] <;> rfl
      | cons p t ih =>
        rw [List.map_cons, look_cons, ih, look_cons]
        have e1 : (if p.1 = f then (p.1, z) else p).1 = p.1 := by
          by_cases e : p.1 = f
          · rw [if_pos e]
          · rw [if_neg e]
        rw [e1]
        by_cases e : g = f
        · subst e
          rw [if_pos rfl, if_pos rfl]
          by_cases q : p.1 = g
          · rw [if_pos q, if_pos q, if_pos (by rw [List.map_cons, ← q]; exact List.mem_cons_self ..)]
          · rw [if_neg q]
            by_cases m : g ∈ t.map Prod.fst
            · rw [if_pos m, if_pos (by rw [List.map_cons]; exact List.mem_cons_of_mem _ m)]
            · rw [if_neg m, if_neg (by rw [List.map_cons, List.mem_cons]; rintro (z | z); exact q z.symm; exact m z)]
        · rw [if_neg e, if_neg e]
          by_cases q : p.1 = g
          · rw [if_pos q, if_pos q, if_neg (by rw [q]; exact e)]
          · rw [if_neg q, if_neg q]
    rw [key]
    by_cases e : g = f
    · rw [if_pos e, if_pos e, if_pos h]
    · rw [if_neg e, if_neg e]
  · unfold putT
    rw [if_neg h, look_app]
    by_cases e : g = f
    · subst e
      rw [if_pos rfl, look_none h, look_cons, if_pos rfl] <;> rfl
    · rw [if_neg e, look_cons, if_neg (fun q => e q.symm)]
      cases look t g <;> rfl
end FT


/-! forests as pairs of a flag and its parent, in any order. -/
namespace FT
open PySem L2 TL
/-- a dict of texts by texts -/
def prs (t : List (Str × Str)) : List (Key × V) := kvT (t.map fun p => (p.1, V.str p.2))
theorem prs_len (t : List (Str × Str)) : (prs t).length = t.length := by unfold prs; rw [kvT_len, List.length_map]
theorem prs_fst (t : List (Str × Str)) : (t.map fun p => (p.1, V.str p.2)).map Prod.fst = t.map Prod.fst := by rw [List.map_map] <;> rfl
theorem prs_keys (t : List (Str × Str)) : (prs t).map (·.1) = (t.map Prod.fst).map Sum.inr := by unfold prs kvT; rw [List.map_map, List.map_map, List.map_map] <;> rfl
theorem keys_prs (t : List (Str × Str)) : ((prs t).map fun kv => kV kv.1) = (t.map Prod.fst).map V.str := by
  unfold prs kvT
  rw [List.map_map, List.map_map, List.map_map] <;> rfl
theorem put_new {t : List (Str × Str)} {f z : Str} (n : f ∉ t.map Prod.fst) : putK (prs t) (Sum.inr f) (V.str z) = prs (t ++ [(f, z)]) := by
  unfold prs
  rw [kvT_put (by rw [prs_fst]; exact n), List.map_append] <;> rfl
/-- the parent of a flag -/
def par (t : List (Str × Str)) (a : Str) : Option Str := (t.find? fun p => decide (p.1 = a)).map Prod.snd
theorem par_cons (p : Str × Str) (t : List (Str × Str)) (a : Str) : par (p :: t) a = if p.1 = a then some p.2 else par t a := by
  unfold par
  rw [List.find?_cons]
  by_cases e : p.1 = a
  · rw [if_pos e, decide_eq_true e] <;> rfl
  · rw [if_neg e, decide_eq_false e]
theorem val_prs (a : Str) : ∀ t : List (Str × Str), valV (prs t) (Sum.inr a) = (par t a).map V.str
  | [] => rfl
  | p :: t => by
    have ih := val_prs a t
    unfold prs at ih ⊢
    rw [List.map_cons, kvT_val, look_cons, par_cons]
    rw [kvT_val] at ih
    by_cases e : p.1 = a
    · rw [if_pos e, if_pos e] <;> rfl
    · rw [if_neg e, if_neg e, ih]
theorem par_mem {t : List (Str × Str)} {a z : Str} (h : par t a = some z) : (a, z) ∈ t := by
  induction t with
  | nil => cases h
  | cons p t ih =>
    rw [par_cons] at h
    by_cases e : p.1 = a
    · rw [if_pos e] at h
      cases h
      exact List.mem_cons.mpr (.inl (by rw [← e]))
    · rw [if_neg e] at h
      exact List.mem_cons_of_mem _ (ih h)
theorem par_of {t : List (Str × Str)} {a z : Str} (nd : (t.map Prod.fst).Nodup) (h : (a, z) ∈ t) : par t a = some z := by
  induction t with
  | nil => cases h
  | cons p t ih =>
    obtain ⟨n1, n2⟩ := List.nodup_cons.mp nd
    rw [par_cons]
    rcases List.mem_cons.mp h with e | h
    · subst e
      exact if_pos rfl
    · rw [if_neg fun e => n1 (by rw [e]; exact List.mem_map.mpr ⟨_, h, rfl⟩)]
      exact ih n2 h
theorem par_none {t : List (Str × Str)} {a : Str} (n : a ∉ t.map Prod.fst) : par t a = none := by
  cases e : par t a with
  | none => rfl
  | some z => exact absurd (List.mem_map.mpr ⟨_, par_mem e, rfl⟩) n
theorem par_some {t : List (Str × Str)} {a : Str} (nd : (t.map Prod.fst).Nodup) (h : a ∈ t.map Prod.fst) : ∃ z, par t a = some z := by
  obtain ⟨p, hp, rfl⟩ := List.mem_map.mp h
  exact ⟨p.2, par_of nd hp⟩
theorem par_perm {t u : List (Str × Str)} (nd : (t.map Prod.fst).Nodup) (p : t.Perm u) (a : Str) : par t a = par u a := by
  cases e : par t a with
  | some v => exact (par_of ((p.map _).nodup_iff.mp nd) (p.mem_iff.mp (par_mem e))).symm
  | none =>
    cases e2 : par u a with
    | none => rfl
    | some v =>
      have := par_of nd (p.mem_iff.mpr (par_mem e2))
      rw [e] at this
      cases this
/-- each parent has a lower rank -/
def Rk (t : List (Str × Str)) (rk : Str → Nat) : Prop := ∀ p ∈ t, rk p.1 < t.length ∧ (p.2 = "" ∨ (p.2 ∈ t.map Prod.fst ∧ rk p.2 < rk p.1))
/-- a forest of one to twelve flags -/
structure TreeOk (t : List (Str × Str)) : Prop where
  one : 1 ≤ t.length
  few : t.length ≤ 12
  nd : (t.map Prod.fst).Nodup
  nm : ∀ z ∈ t.map Prod.fst, NameL z
  up : ∃ rk : Str → Nat, Rk t rk
theorem TreeOk.perm {t u : List (Str × Str)} (p : t.Perm u) (o : TreeOk t) : TreeOk u := by
  obtain ⟨rk, hr⟩ := o.up
  have l := p.length_eq
  refine ⟨by have := o.one; omega, by have := o.few; omega, (p.map _).nodup_iff.mp o.nd, fun z h => o.nm z ((p.map _).mem_iff.mpr h), rk, fun q hq => ?_⟩
  obtain ⟨h1, h2⟩ := hr q (p.mem_iff.mpr hq)
  exact ⟨by omega, h2.imp id fun h => ⟨(p.map _).mem_iff.mp h.1, h.2⟩⟩
theorem TreeOk.root {t : List (Str × Str)} (o : TreeOk t) : ("" : Str) ∉ t.map Prod.fst := fun h => (o.nm _ h).ne rfl
/-- the step up -/
theorem TreeOk.step {t : List (Str × Str)} (o : TreeOk t) {rk : Str → Nat} (r : Rk t rk) {a : Str} (h : a ∈ t.map Prod.fst) : ∃ p : Str, par t a = some p ∧ (p = "" ∨ (p ∈ t.map Prod.fst ∧ rk p < rk a)) ∧ rk a < t.length := by
  obtain ⟨z, hz⟩ := par_some o.nd h
  obtain ⟨h1, h2⟩ := r _ (par_mem hz)
  exact ⟨z, hz, h2, h1⟩
/-! ### paths -/
/-- the flags from the top down to a place; n bounds the steps -/
def upN (t : List (Str × Str)) : Nat → Str → List Str
  | 0, _ => []
  | n + 1, a => if a = "" then [] else upN t n ((par t a).getD "") ++ [a]
def pathOf (t : List (Str × Str)) (a : Str) : List Str := upN t t.length a
/-- a place: the root or a flag -/
def Pl (t : List (Str × Str)) (a : Str) : Prop := a = "" ∨ a ∈ t.map Prod.fst
theorem upN_root (t : List (Str × Str)) (n : Nat) : upN t n "" = [] := by
  cases n with
  | zero => rfl
  | succ n => exact if_pos rfl
theorem upN_eq {t : List (Str × Str)} (o : TreeOk t) {rk : Str → Nat} (r : Rk t rk) : ∀ (n m : Nat) (a : Str), Pl t a → (a ≠ "" → rk a < n) → (a ≠ "" → rk a < m) → upN t n a = upN t m a := by
  intro n
  induction n with
  | zero =>
    intro m a hp h1 h2
    by_cases e : a = ""
    · subst e
      rw [upN_root, upN_root]
    · exact absurd (h1 e) (Nat.not_lt_zero _)
  | succ n ih =>
    intro m a hp h1 h2
    by_cases e : a = ""
    · subst e
      rw [upN_root, upN_root]
    · cases m with
      | zero => exact absurd (h2 e) (Nat.not_lt_zero _)
      | succ m =>
        obtain ⟨p, ep, hp2, _⟩ := o.step r (hp.resolve_left e)
        have q1 := h1 e
        have q2 := h2 e
        show (if a = "" then [] else upN t n ((par t a).getD "") ++ [a]) = if a = "" then [] else upN t m ((par t a).getD "") ++ [a]
        rw [if_neg e, if_neg e, ep]
        show upN t n p ++ [a] = upN t m p ++ [a]
        rw [ih m p (hp2.imp id And.left) (fun z => by have := (hp2.resolve_left z).2; omega) (fun z => by have := (hp2.resolve_left z).2; omega)]
theorem path_root (t : List (Str × Str)) : pathOf t "" = [] := upN_root _ _
theorem path_step {t : List (Str × Str)} (o : TreeOk t) {a p : Str} (h : a ∈ t.map Prod.fst) (e : par t a = some p) : pathOf t a = pathOf t p ++ [a] := by
  obtain ⟨rk, r⟩ := o.up
  have ne : a ≠ "" := fun z => o.root (by rw [← z]; exact h)
  obtain ⟨p', e', hp, la⟩ := o.step r h
  cases e.symm.trans e'
  have lt := o.one
  obtain ⟨n, hn⟩ : ∃ n, t.length = n + 1 := ⟨t.length - 1, by omega⟩
  unfold pathOf
  rw [hn]
  show (if a = "" then [] else upN t n ((par t a).getD "") ++ [a]) = _
  rw [if_neg ne, e]
  show upN t n p ++ [a] = _
  rw [upN_eq o r n (n + 1) p (hp.imp id And.left) (fun z => by have := (hp.resolve_left z).2; omega) (fun z => by have := (hp.resolve_left z).2; omega)]
theorem path_perm {t u : List (Str × Str)} (nd : (t.map Prod.fst).Nodup) (p : t.Perm u) (a : Str) : pathOf t a = pathOf u a := by
  unfold pathOf
  rw [p.length_eq]
  generalize u.length = n
  induction n generalizing a with
  | zero => rfl
  | succ n ih =>
    show (if a = "" then [] else upN t n ((par t a).getD "") ++ [a]) = if a = "" then [] else upN u n ((par u a).getD "") ++ [a]
    rw [ih, par_perm nd p]
theorem upN_len (t : List (Str × Str)) : ∀ (n : Nat) (a : Str), (upN t n a).length ≤ n
  | 0, _ => Nat.le_refl _
  | n + 1, a => by
    show (if a = "" then [] else upN t n ((par t a).getD "") ++ [a]).length ≤ n + 1
    by_cases e : a = ""
    · rw [if_pos e]
      exact Nat.zero_le _
    · rw [if_neg e, List.length_append]
      have := upN_len t n ((par t a).getD "")
      show _ + 1 ≤ n + 1
      omega
theorem path_len (t : List (Str × Str)) (a : Str) : (pathOf t a).length ≤ t.length := upN_len _ _ _
theorem upN_all {t : List (Str × Str)} (o : TreeOk t) : ∀ (n : Nat) (a : Str), Pl t a → ∀ z ∈ upN t n a, z ∈ t.map Prod.fst
  | 0, _, _, z, h => by cases h
  | n + 1, a, hp, z, h => by
    have h' : z ∈ (if a = "" then [] else upN t n ((par t a).getD "") ++ [a]) := h
    by_cases e : a = ""
    · rw [if_pos e] at h'
      cases h'
    · rw [if_neg e] at h'
      have ha := hp.resolve_left e
      obtain ⟨rk, r⟩ := o.up
      obtain ⟨p, ep, hp2, _⟩ := o.step r ha
      rw [ep] at h'
      rcases List.mem_append.mp h' with h' | h'
      · exact upN_all o n p (hp2.imp id And.left) z h'
      · rw [List.mem_singleton.mp h']
        exact ha
theorem path_all {t : List (Str × Str)} (o : TreeOk t) {a : Str} (h : Pl t a) : ∀ z ∈ pathOf t a, z ∈ t.map Prod.fst := upN_all o _ _ h
/-! ### sums over children -/
/-- the sum of sizes of the children of a place -/
def kids (t : List (Str × Str)) (p : Str) : List Str := (t.filter fun q => decide (q.2 = p)).map Prod.fst
def resid (t : List (Str × Str)) (n : Int) (sz : Str → Int) (p : Str) : Int := (if p = "" then n else sz p) - ((kids t p).map sz).sum
theorem kids_snoc (t : List (Str × Str)) (q : Str × Str) (p : Str) : kids (t ++ [q]) p = kids t p ++ (if q.2 = p then [q.1] else []) := by
  unfold kids
  rw [List.filter_append, List.map_append]
  by_cases e : q.2 = p
  · rw [if_pos e, List.filter_cons, decide_eq_true e, List.filter_nil] <;> rfl
  · rw [if_neg e, List.filter_cons, decide_eq_false e, List.filter_nil] <;> rfl
theorem kids_perm {t u : List (Str × Str)} (h : t.Perm u) (p : Str) : (kids t p).Perm (kids u p) := (h.filter _).map _
theorem sum_perm {l m : List Int} (h : l.Perm m) : l.sum = m.sum := by
  induction h with
  | nil => rfl
  | cons x _ ih => rw [List.sum_cons, List.sum_cons, ih]
  | swap x y l => rw [List.sum_cons, List.sum_cons, List.sum_cons, List.sum_cons]; omega
  | trans _ _ a b => rw [a, b]
theorem resid_perm {t u : List (Str × Str)} (h : t.Perm u) (n : Int) (sz : Str → Int) (p : Str) : resid t n sz p = resid u n sz p := by
  unfold resid
  rw [sum_perm ((kids_perm h p).map sz)]
theorem resid_snoc (t : List (Str × Str)) (q : Str × Str) (n : Int) (sz : Str → Int) (p : Str) : resid (t ++ [q]) n sz p = if q.2 = p then resid t n sz p - sz q.1 else resid t n sz p := by
  unfold resid
  rw [kids_snoc]
  by_cases e : q.2 = p
  · rw [if_pos e, if_pos e, List.map_append, List.sum_append]
    show _ - (_ + (sz q.1 + 0)) = _
    omega
  · rw [if_neg e, if_neg e, List.append_nil]
end FT


namespace FT
open PySem L2 TL ClX
def letters : Str := "abcdefghijklmnopqrstuvwxyz"
theorem in_letters {c : Nat} (h0 : 97 ≤ c) (h1 : c ≤ 122) : c ∈ letters.cps.toList := by
  have all : ∀ i : Fin 26, (97 + i.1) ∈ letters.cps.toList := by decide +kernel
  have q := all ⟨c - 97, by omega⟩
  rw [show 97 + (⟨c - 97, by omega⟩ : Fin 26).1 = c by show 97 + (c - 97) = c; omega] at q
  exact q
/-- the module's own constants -/
structure Cs (mg : Str → Option Value) : Prop where
  long : ∃ t, mg "LONGEST" = some (.int 8 t)
  lett : ∃ t, mg "LETTERS" = some (.str letters t)
/-- the class Forest: its two constants -/
structure Fc (K : PySem.W.Frag) (mg : Str → Option Value) (CF : Addr) (mc : Value) : Prop where
  gF : mg "Forest" = some (.ref CF)
  rd : CRead K CF mc
  most : ∃ u, CVal K CF mc "MOST" (.int 12) u
  root : ∃ u, CVal K CF mc "ROOT" (.str "") u
/-- one of the text's defs, called by place -/
structure Dn (P : Program) (w : World) (K : PySem.W.Frag) (mg : Str → Option Value) (base : Heap) (CX : CXT) (k : Nat) (x : Str) (ps : List Str) (sp : Sp) (f : Addr) (fd : FuncData) : Prop where
  ok : FnOk P w K mg base CX k f fd ps sp
  kp : PySem.W.keepIn K (.ref f) = true
  bn : Binds K fd ps []
  mgn : mg x = some (.ref f)
def spIsName : Sp := fun vs H Q _ => ∃ z : Str, vs = [.str z] ∧ NameL z ∧ ∀ H', Same H H' → Q (.bl true) H'
def spIsAnc : Sp := fun vs H Q _ => ∃ (q : Addr) (f : Str) (t : List (Str × Str)), vs = [.ref q, .str f] ∧ H q = some (.dK (prs t)) ∧ TreeOk t ∧ f ∈ t.map Prod.fst ∧ ∀ H', Same H H' → Q (.bl false) H'
def spNeed : Sp := fun vs H Q _ => ∃ (q : Addr) (t : List (Str × Str)), vs = [.ref q] ∧ H q = some (.dK (prs t)) ∧ TreeOk t ∧ ∀ H', Same H H' → Q .non H'
section
variable {P : Program} {w : World} {K : PySem.W.Frag} {mg : Str → Option Value} {base : Heap}
theorem scIsName : FnScope ["value", "letter"] ["value"] (defScope s_is_name) := ⟨rfl, rfl, rfl, by decide +kernel, rfl, by decide +kernel, by decide +kernel⟩
theorem ok_isName {f : Addr} {fd : FuncData} (F : Fun K "is_name" "is_name" s_is_name f fd) (T : Nm mg) (C : Cs mg) : FnOk P w K mg base CX0 1 f fd ["value"] spIsName := by
  obtain ⟨t1, g1⟩ := C.long
  obtain ⟨t2, g2⟩ := C.lett
  refine F.ok scIsName (fun vs H Q E h => ?_) (fun cdv A outer s H vs Q E hr h => ?_)
  · obtain ⟨z, rfl, _⟩ := h
    rfl
  · obtain ⟨z, rfl, nm, k⟩ := h
    refine ⟨_, pss_cons (ps_if (PW.pt (pw_or (pt_not (pt_val (pe_callB call_isi (by rfl) T.isi (by decide +kernel) (pa_cons (pv 0) (pa_cons (pe_bltn (v := .ty "str") (u := .type "str") (by rfl) T.str (by decide +kernel) rfl) pa_nil)))))
        (pw_or (pt_not (pt_chain op_le op_le pe_int (pe_callB call_len_str (by rfl) T.len PySem.boot_len (pa_cons (pv 0) pa_nil)) (pe_glob (v := .int 8) (by rfl) g1 ⟨_, rfl⟩))) (pw_or1 (pt_cmpR op_eq (pv 0) pe_str (nomark _))))))
        (pss_one (ps_ret pe_bl)) pss_nil)
      (pss_one (ps_ret (pe_callB (cr_all rfl) (by rfl) T.all (by decide +kernel) (pa_cons (pe_lc (own := [("letter", 1)]) (g := gName 1) (tt := tYes) (te := tOp (fun x y H Q => ∃ (c : Nat) (z : Str), x = .str ⟨#[c]⟩ ∧ y = .str z ∧ Q (.bl (decide (c ∈ z.cps.toList))) H) (tVar 1) (tC (.str letters))) rfl scIsName.nd (pi_str (pv 0))
        (blkOk_by (N := ["value", "letter"]) (sc := defScope s_is_name) (by decide +kernel))
        (fun _ _ _ _ _ => pg_name (i := 1) scIsName.nd rfl (Or.inl rfl)) (fun _ _ _ _ _ => pts_nil) (fun _ _ _ _ _ => pe_cmpR op_in_sign (pv 1) (pe_glob (v := .str letters) (by rfl) g2 ⟨_, rfl⟩) rfl)) pa_nil)))), ?_⟩
    have l := nm.len
    have big : 1000 ≤ sizeLine := by decide
    refine ⟨_, rfl, .str z, _, _, _, true, rfl, .ty _, .base (.str z), kit_ty (by decide +kernel), true, rfl, ?_⟩
    refine iteF ?_
    refine ⟨_, rfl, z, rfl, by omega, _, _, rfl, rfl, _, rfl, ?_⟩
    rw [if_pos (decide_eq_true (by omega))]
    refine ⟨_, _, rfl, rfl, _, rfl, ?_⟩
    rw [decide_eq_true (show (z.length : Int) ≤ 8 by omega)]
    refine iteF ?_
    refine ⟨_, rfl, rfl, _, rfl, ?_⟩
    rw [decide_eq_false (show ¬ V.str z = V.str "self" from fun e => nm.self (V.str.inj e))]
    refine iteF ?_
    refine ⟨_, rfl, z, rfl, fun D nD => lc_it walk_str (fun i H' => Same H H' ∧ H' D = some (.lst ((List.replicate i true).map V.bl))) ⟨same_new nD, upd_same⟩ (fun _ _ _ _ => trivial) ?_ ?_⟩
    · intro i x Ha Hb hi ⟨q1, q2⟩ ⟨e, ch, hc, ex⟩
      subst e
      subst ex
      have hm : ch ∈ letters.cps.toList := by
        have hz : ch ∈ tl z := by
          rw [← Array.getElem?_toList] at hc
          exact List.mem_of_getElem? hc
        exact in_letters (nm.1 ch hz).1 (nm.1 ch hz).2
      refine ⟨rfl, ?_⟩
      refine ⟨_, rfl, ch, letters, rfl, rfl, _, q2, ?_, ?_, ?_⟩
      · rw [List.length_map, List.length_replicate]
        have : z.cps.size = z.length := rfl
        omega
      · exact Same.put q1 nD
      · rw [upd_same, decide_eq_true hm, List.replicate_succ', List.map_append] <;> rfl
    · intro H' ⟨q1, q2⟩
      refine ⟨D, _, rfl, SqL.of q2, ?_⟩
      have e : (List.replicate z.cps.size true).all id = true := by simp
      rw [e]
      exact k H' q1
def rankS (t : List (Str × Str)) (rk : Str → Nat) (σ : St) : Nat := match σ[3]? with
  | some (some (V.str a)) => if a ∈ t.map Prod.fst then rk a + 1 else 0
  | _ => 0
theorem scIsAnc : FnScope ["parents", "name", "seen", "above"] ["parents", "name"] (defScope s_is_ancestor) := ⟨rfl, rfl, rfl, by decide +kernel, rfl, by decide +kernel, by decide +kernel⟩
theorem ok_isAnc {f : Addr} {fd : FuncData} (F : Fun K "is_ancestor" "is_ancestor" s_is_ancestor f fd) : FnOk P w K mg base CX0 1 f fd ["parents", "name"] spIsAnc := by
  refine F.ok scIsAnc (fun vs H Q E h => ?_) (fun cdv A outer s H vs Q E hr h => ?_)
  · obtain ⟨q, g, t, rfl, _⟩ := h
    rfl
  · obtain ⟨q, g, t, rfl, hq, o, hg, k⟩ := h
    have hu := hu_of hr
    obtain ⟨rk, r⟩ := o.up
    refine ⟨_, pss_cons (ps_set (i := 2) scIsAnc.nd rfl (.inl rfl) (pe_lst pa_nil))
      (pss_cons (ps_set (i := 3) scIsAnc.nd rfl (.inl rfl) (pe_dget hu (pv 0) (pv 1) (fun _ _ => rfl)))
      (pss_cons (ps_while PassesOwn.never (PW.pt (pw_and (pt_cmp (pc_din hu (pv 3) (pv 0))) (pw_and1 (pt_cmpR op_notIn_seq (pv 3) (pv 2) rfl))))
        (pss_cons (ps_if (pt_cmpR op_eq (pv 3) (pv 1) (nomark _)) (pss_one (ps_ret pe_bl)) pss_nil)
        (pss_cons (ps_expr (pe_bm PySem.F.plainAttrs_list PySem.F.slot_list_append PySem.F.type_list_append mt_append (pv 2) (pa_cons (pv 3) pa_nil)))
        (pss_one (ps_set (i := 3) scIsAnc.nd rfl (.inl rfl) (pe_dget hu (pv 0) (pv 3) (fun _ _ => rfl)))))))
      (pss_one (ps_ret pe_bl)))), ?_⟩
    obtain ⟨p0, v0, w0, i0⟩ := o.step r hg
    have few := o.few
    have big : 1000 ≤ sizeLine := by decide
    refine ⟨by show 0 ≤ sizeLine; omega, fun l nl => ?_⟩
    have hq1 : (upd H l (.lst [])) q = some (.dK (prs t)) := by rw [upd_ne (ne_of_none hq nl)]; exact hq
    have ql : q ≠ l := ne_of_none hq nl
    refine ⟨_, rfl, _, rfl, q, V.str p0, rfl, by have z := DGet.k (k := Sum.inr g) hq1; rw [val_prs, v0] at z; exact z, ?_⟩
    refine while_by (fun σ H' => ∃ (a : Str) (ws : List Str), σ = [some (.ref q), some (.str g), some (.ref l), some (.str a)] ∧ H' l = some (.lst (ws.map V.str)) ∧ (∀ b u, H b = some u → H' b = some u) ∧ (a = "" ∨ (a ∈ t.map Prod.fst ∧ rk a < rk g ∧ ws.length + rk a < t.length)))
      (fun σ _ => rankS t rk σ) ⟨p0, [], rfl, upd_same, same_new nl, w0.imp id fun z => ⟨z.1, z.2, by simp only [List.length_nil]; omega⟩⟩ ?_ ?_
    · rintro σ Hx ⟨a, ws, rfl, hl, sm, ha⟩
      have hqx := sm _ _ hq
      have dg := DGet.k (k := Sum.inr a) hqx
      rw [val_prs] at dg
      refine ⟨_, rfl, _, rfl, q, _, rfl, dg, _, rfl, ?_⟩
      rcases ha with rfl | ⟨ha, ia, la⟩
      · rw [par_none o.root]
        refine iteF ?_
        exact iteF (k Hx sm)
      · obtain ⟨p, hv, hp, il⟩ := o.step r ha
        rw [hv]
        show if true = true then _ else _
        rw [if_pos rfl]
        refine ⟨_, rfl, _, rfl, l, _, rfl, .inl (SqL.of hl), rfl, flat_strs ws, _, rfl, ?_⟩
        rw [inV_strs]
        by_cases hw : a ∈ ws
        · rw [decide_eq_true hw]
          exact iteF (k Hx sm)
        · rw [decide_eq_false hw]
          show if true = true then _ else _
          rw [if_pos rfl]
          refine ⟨_, rfl, _, rfl, rfl, _, rfl, ?_⟩
          rw [decide_eq_false (show ¬ V.str a = V.str g from fun e => by
            have := V.str.inj e
            subst this
            omega)]
          refine iteF ?_
          refine ⟨_, rfl, .inl ⟨rfl, _, SqL.of hl⟩, _, rfl, l, _, _, rfl, rfl, hl, by rw [List.length_map]; omega, ?_⟩
          have hq2 : (upd Hx l (.lst (ws.map V.str ++ [.str a]))) q = some (.dK (prs t)) := by rw [upd_ne ql]; exact hqx
          refine ⟨_, rfl, _, rfl, q, V.str p, rfl, by have z := DGet.k (k := Sum.inr a) hq2; rw [val_prs, hv] at z; exact z, ?_⟩
          refine ⟨⟨p, ws ++ [a], rfl, by rw [upd_same, List.map_append] <;> rfl, fun b u e => ?_, ?_⟩, ?_⟩
          · rw [upd_ne (ne_of_none e nl)]
            exact sm b u e
          · rcases hp with rfl | ⟨hp, ip⟩
            · exact .inl rfl
            · refine .inr ⟨hp, by omega, ?_⟩
              rw [List.length_append]
              show ws.length + 1 + rk p < t.length
              omega
          · show rankS t rk [some (.ref q), some (.str g), some (.ref l), some (.str p)] < rankS t rk [some (.ref q), some (.str g), some (.ref l), some (.str a)]
            have e1 : rankS t rk [some (.ref q), some (.str g), some (.ref l), some (.str a)] = rk a + 1 := if_pos ha
            rw [e1]
            rcases hp with rfl | ⟨hp, ip⟩
            · have e2 : rankS t rk [some (.ref q), some (.str g), some (.ref l), some (.str "")] = 0 := if_neg o.root
              rw [e2]
              omega
            · have e2 : rankS t rk [some (.ref q), some (.str g), some (.ref l), some (.str p)] = rk p + 1 := if_pos hp
              rw [e2]
              omega
    · intro σ Hx Qa Qb h
      rintro ⟨v, e1, w, e2, a, r, e3, g, d, e4, z⟩
      refine ⟨v, e1, w, e2, a, r, e3, g, d, e4, ?_⟩
      cases d with
      | false =>
        rw [if_neg (by decide)] at z ⊢
        exact h _ _ z
      | true =>
        rw [if_pos rfl] at z ⊢
        obtain ⟨v, e1, w, e2, p, xs, e3, e4, e5, e6, b, e7, z⟩ := z
        exact ⟨v, e1, w, e2, p, xs, e3, e4, e5, e6, b, e7, h _ _ z⟩
theorem scNeed : FnScope ["parents", "name", "above", "other"] ["parents"] (defScope s_need_parents) := ⟨rfl, rfl, rfl, by decide +kernel, rfl, by decide +kernel, by decide +kernel⟩
theorem ok_need {f fI fA CF : Addr} {mc : Value} {fd fdI fdA : FuncData} (F : Fun K "need_parents" "need_parents" s_need_parents f fd) (T : Nm mg) (C : Cs mg) (Z : Fc K mg CF mc)
    (FI : Dn P w K mg base CX0 1 "is_name" ["value"] spIsName fI fdI) (FA : Dn P w K mg base CX0 1 "is_ancestor" ["parents", "name"] spIsAnc fA fdA) : FnOk P w K mg base CX0 2 f fd ["parents"] spNeed := by
  obtain ⟨um, cm⟩ := Z.most
  obtain ⟨ur, cr⟩ := Z.root
  refine F.ok scNeed (fun vs H Q E h => ?_) (fun cdv A outer s H vs Q E hr h => ?_)
  · obtain ⟨q, t, rfl, _⟩ := h
    rfl
  · obtain ⟨q, t, rfl, hq, o, k⟩ := h
    have hu := hu_of hr
    obtain ⟨rk, r⟩ := o.up
    refine ⟨_, pss_cons (ps_if (PW.pt (pw_or (pt_not (pt_val (pe_callB call_isi (by rfl) T.isi (by decide +kernel) (pa_cons (pv 0) (pa_cons (pe_bltn (v := .ty "dict") (u := .type "dict") (by rfl) T.dct (by decide +kernel) rfl) pa_nil)))))
        (pw_or1 (pt_not (pt_chain op_le op_le pe_int (pe_callB call_lenD (by rfl) T.len PySem.boot_len (pa_cons (pv 0) pa_nil)) (pe_cval (pe_glob (v := .ref CF) (by rfl) Z.gF rfl))))))) pss_never pss_nil)
      (pss_cons (ps_if (pt_not (pt_val (pe_callB (cr_all rfl) (by rfl) T.all (by decide +kernel) (pa_cons (pe_lock (pe_lc (own := [("name", 1)]) (g := gName 1) (tt := tYes) rfl scNeed.nd (pi_keys (pv 0))
        (blkOk_by (N := ["parents", "name", "above", "other"]) (sc := defScope s_need_parents) (by decide +kernel))
        (fun _ _ _ _ _ => pg_name (i := 1) scNeed.nd rfl (Or.inl rfl)) (fun _ _ _ _ _ => pts_nil) (fun _ _ _ _ _ => pe_call FI.ok hr rfl FI.mgn FI.kp FI.bn .nil pass0 (pa_cons (pv 1) pa_nil)))) pa_nil)))) pss_never pss_nil)
      (pss_one (ps_for PassesOwn.never rfl (pi_list (pe_callB (call_sortedD rfl) (by rfl) T.srt (by decide +kernel) (pa_cons (pv 0) pa_nil))) (pg_name (i := 1) scNeed.nd rfl (.inl rfl))
        (pss_cons (ps_set (i := 2) scNeed.nd rfl (.inl rfl) (pe_dget hu (pv 0) (pv 1) (fun _ _ => rfl)))
        (pss_cons (ps_if (PW.pt (pw_or (pt_not (pt_val (pe_callB call_isi (by rfl) T.isi (by decide +kernel) (pa_cons (pv 2) (pa_cons (pe_bltn (v := .ty "str") (u := .type "str") (by rfl) T.str (by decide +kernel) rfl) pa_nil)))))
          (pw_or1 (PW.pt (pw_and (pt_cmpR op_ne (pv 2) (pe_cval (pe_glob (v := .ref CF) (by rfl) Z.gF rfl)) (nomark _)) (pw_and1 (pt_cmp (pc_dnotin hu (pv 2) (pv 0))))))))) pss_never pss_nil)
        (pss_one (ps_if (pt_val (pe_call FA.ok hr rfl FA.mgn FA.kp FA.bn .nil pass0 (pa_cons (pe_lock (pe_dc (own := [("other", 3)]) (g := gName 3) (tt := tB (tCB (rIsi K) (tCons (tDGet (tVar 0) (tVar 3)) (tCons (tC (.ty "str")) tNil)))) rfl scNeed.nd (pi_keys (pv 0))
          (blkOk_by (N := ["parents", "name", "above", "other"]) (sc := defScope s_need_parents) (by decide +kernel))
          (fun _ _ _ _ _ => pg_name (i := 3) scNeed.nd rfl (Or.inl rfl)) (fun _ _ _ _ _ => pts_one (pt_val (pe_callB call_isi (by rfl) T.isi (by decide +kernel) (pa_cons (pe_dget hu (pv 0) (pv 3) (fun _ _ => rfl)) (pa_cons (pe_bltn (v := .ty "str") (u := .type "str") (by rfl) T.str (by decide +kernel) rfl) pa_nil)))))
          (fun _ _ _ _ _ => pv 3) (fun _ _ _ _ _ => pe_dget hu (pv 0) (pv 3) (fun _ _ => rfl)))) (pa_cons (pv 1) pa_nil)))) pss_never pss_nil))))))), ?_⟩
    have few := o.few
    have one := o.one
    have big : 1000 ≤ sizeLine := by decide
    have lp := prs_len t
    -- a dict, of one to twelve
    refine ⟨_, rfl, .ref q, _, _, _, true, rfl, .ty _, .base (.dK hq), kit_ty (by decide +kernel), true, rfl, ?_⟩
    refine iteF ?_
    refine ⟨_, rfl, q, _, rfl, hq, _, _, rfl, rfl, _, rfl, ?_⟩
    rw [if_pos (decide_eq_true (by omega))]
    refine ⟨CF, mc, _, um, rfl, Z.rd, cm, _, _, rfl, rfl, _, rfl, ?_⟩
    rw [decide_eq_true (show ((prs t).length : Int) ≤ 12 by omega)]
    refine iteF ?_
    -- all are names
    refine ⟨q, .dK (prs t), hq, trivial, fun od => ⟨_, rfl, q, od, rfl, .inl ⟨prs t, upd_same, fun D nD => ?_⟩⟩⟩
    have Dq : D ≠ q := (ne_of_none upd_same nD).symm
    have key : ∀ {i : Nat} {k : Key} {v : V}, (prs t)[i]? = some (k, v) → ∃ a p : Str, k = Sum.inr a ∧ v = .str p ∧ t[i]? = some (a, p) := fun {i k v} h => by
      unfold prs kvT at h
      rw [List.map_map, List.getElem?_map] at h
      obtain ⟨⟨a, p⟩, hp, e⟩ := Option.map_eq_some_iff.mp h
      cases e
      exact ⟨a, p, rfl, rfl, hp⟩
    refine lc_it walk_keys (fun i H' => Same (upd H q (.frz od (.dK (prs t)))) H' ∧ H' D = some (.lst ((List.replicate i true).map V.bl))) ⟨same_new nD, upd_same⟩ (fun i H' _ z => z.1 q _ upd_same) ?_ ?_
    · intro i x Ha Hb hi ⟨q1, q2⟩ ⟨e, k', v, hk, ex⟩
      subst e
      subst ex
      obtain ⟨a, p, rfl, rfl, hp⟩ := key hk
      refine ⟨rfl, ?_⟩
      refine ⟨_, rfl, a, rfl, o.nm a (List.mem_map.mpr ⟨(a, p), List.mem_of_getElem? hp, rfl⟩), fun H' s' => ⟨_, s' D _ q2, ?_, ?_, ?_⟩⟩
      · rw [List.length_map, List.length_replicate]
        omega
      · intro b u e
        rw [upd_ne (ne_of_none e nD)]
        exact s' _ _ (q1 b u e)
      · rw [upd_same, List.replicate_succ', List.map_append] <;> rfl
    intro H1 ⟨q1, q2⟩
    refine ⟨q1 q _ upd_same, D, _, rfl, SqL.of (by rw [upd_ne Dq]; exact q2), true, by rw [show (List.replicate (prs t).length true).all id = true by simp], ?_⟩
    refine iteF ?_
    have s1 : Same H (upd H1 q (.dK (prs t))) := unlock_same hq q1
    -- one by one, in their order
    refine ⟨_, rfl, q, prs t, t.map Prod.fst, rfl, .inl upd_same, prs_keys t, by rw [List.length_map]; omega, fun ys p perm srt np => ⟨p, rfl, ⟨_, SqL.of upd_same⟩, ?_⟩⟩
    obtain ⟨H2, e2⟩ : ∃ X, X = upd (upd H1 q (.dK (prs t))) p (.lst (ys.map V.str)) := ⟨_, rfl⟩
    have s2 : Same H H2 := s1.trans (e2 ▸ same_new np)
    have at2 : H2 p = some (.lst (ys.map V.str)) := by rw [e2]; exact upd_same
    rw [← e2]
    refine for_it walk_list (fun j σ' H' => (∃ u1 u2 u3, σ' = [some (.ref q), u1, u2, u3]) ∧ Same H2 H') ⟨⟨_, _, _, rfl⟩, fun _ _ e => e⟩ (fun j σ' H' _ z => SqL.of (z.2 _ _ at2)) ?_ ?_
    · intro j x σ' Ha Hb hj ⟨⟨u1, u2, u3, e⟩, sa⟩ ⟨eb, ex⟩
      subst e
      subst eb
      rw [List.getElem?_map] at ex
      obtain ⟨a, ha, rfl⟩ := Option.map_eq_some_iff.mp ex
      have ma : a ∈ t.map Prod.fst := perm.mem_iff.mp (List.mem_of_getElem? ha)
      obtain ⟨pa, hv, hpa, ia⟩ := o.step r ma
      have s0a : Same H Hb := s2.trans sa
      have hqa := s0a _ _ hq
      refine ⟨_, rfl, _, rfl, q, V.str pa, rfl, by have z := DGet.k (k := Sum.inr a) hqa; rw [val_prs, hv] at z; exact z, ?_⟩
      refine ⟨_, rfl, .str pa, _, _, _, true, rfl, .ty _, .base (.str pa), kit_ty (by decide +kernel), true, rfl, ?_⟩
      refine iteF ?_
      have anc : tIfS (tB (tCall spIsAnc [] E0 (tCons (tLockE (tDc (iKeys (tVar 0)) (gName 3) (tB (tCB (rIsi K) (tCons (tDGet (tVar 0) (tVar 3)) (tCons (tC (.ty "str")) tNil)))) (tVar 3) (tDGet (tVar 0) (tVar 3)) [3])) (tCons (tVar 1) tNil)))) tNever tNext
          ⟨fun σ' H' => (∃ u1 u2 u3, σ' = [some (.ref q), u1, u2, u3]) ∧ Same H2 H', fun v H' => Q v H', fun σ' H' => Q .non H', fun σ' H' => (∃ u1 u2 u3, σ' = [some (.ref q), u1, u2, u3]) ∧ Same H2 H'⟩ [some (.ref q), some (.str a), some (.str pa), u3] Hb := by
        refine ⟨q, .dK (prs t), hqa, trivial, fun od => ⟨_, rfl, q, od, rfl, .inl ⟨prs t, upd_same, fun D nD => ?_⟩⟩⟩
        have Dq : D ≠ q := (ne_of_none upd_same nD).symm
        refine dc_it walk_keys (fun i H' => Same (upd Hb q (.frz od (.dK (prs t)))) H' ∧ H' D = some (.dK (prs (t.take i)))) ⟨same_new nD, upd_same⟩ (fun i H' _ z => z.1 q _ upd_same) ?_ ?_
        · intro i x Hc Hd hi ⟨q1, q2⟩ ⟨e, k', v, hk, ex⟩
          subst e
          subst ex
          obtain ⟨b, r', rfl, rfl, hp⟩ := key hk
          have fz := q1 q _ upd_same
          have dg : DGet Hd q (.str b) (some (.str r')) := .inl ⟨prs t, Sum.inr b, .inr ⟨od, fz⟩, rfl, by rw [val_prs, par_of o.nd (List.mem_of_getElem? hp)] <;> rfl⟩
          have nb : b ∉ (t.take i).map Prod.fst := fun hm => by
            rw [List.map_take] at hm
            obtain ⟨j, hj⟩ := List.mem_iff_getElem?.mp hm
            have jl := (List.getElem?_eq_some_iff.mp hj).1
            rw [List.length_take] at jl
            rw [List.getElem?_take, if_pos (by omega)] at hj
            have e0 : (t.map Prod.fst)[i]? = some b := by rw [List.getElem?_map, hp] <;> rfl
            have := (List.getElem?_inj (by omega) o.nd).mp (hj.trans e0.symm)
            omega
          refine ⟨rfl, ?_⟩
          refine ⟨_, rfl, _, rfl, q, _, rfl, dg, .str r', _, _, _, true, rfl, .ty _, .base (.str r'), kit_ty (by decide +kernel), true, rfl, ?_⟩
          show if true = true then _ else _
          rw [if_pos rfl]
          refine ⟨_, rfl, _, rfl, _, rfl, q, _, rfl, dg, prs (t.take i), Sum.inr b, rfl, q2, ?_, ?_, ?_⟩
          · rw [prs_len, List.length_take]
            omega
          · intro c u e
            rw [upd_ne (ne_of_none e nD)]
            exact q1 c u e
          · rw [upd_same, put_new nb, take_more hp]
        · intro Hc ⟨q1, q2⟩
          rw [lp, List.take_length] at q2
          refine ⟨q1 q _ upd_same, _, rfl, D, a, t, rfl, by rw [upd_ne Dq]; exact q2, o, ma, fun H' s' => ⟨false, rfl, iteF ⟨⟨_, _, _, rfl⟩, (sa.trans (unlock_same hqa q1)).trans s'⟩⟩⟩
      rcases hpa with rfl | ⟨hp, _⟩
      · refine ⟨_, rfl, CF, mc, _, ur, rfl, Z.rd, cr, rfl, _, rfl, ?_⟩
        rw [decide_eq_true rfl]
        refine iteF ?_
        exact iteF anc
      · obtain ⟨pp, hv2, _⟩ := o.step r hp
        refine ⟨_, rfl, CF, mc, _, ur, rfl, Z.rd, cr, rfl, _, rfl, ?_⟩
        have ne : ¬ V.str pa = V.str "" := fun e => o.root (by rw [← V.str.inj e]; exact hp)
        rw [decide_eq_false ne]
        show if true = true then _ else _
        rw [if_pos rfl]
        refine ⟨_, rfl, _, rfl, q, V.str pp, rfl, by have z := DGet.k (k := Sum.inr pa) hqa; rw [val_prs, hv2] at z; exact z, _, rfl, ?_⟩
        exact iteF anc
    · intro σ' H' ⟨_, sa⟩
      exact k H' (s2.trans sa)
/-! ### Forest -/
/-- a forest at x, its pairs ts -/
def FAt (CF : Addr) (H : Hp) (x : Addr) (ts : List (Str × Str)) : Prop := ∃ dx dq, H x = some (.ins CF dx [("above", .ref dq)]) ∧ H dq = some (.dK (prs ts))
theorem FAt.mono {CF x : Addr} {H H' : Hp} {ts : List (Str × Str)} (s : Same H H') (h : FAt CF H x ts) : FAt CF H' x ts := let ⟨dx, dq, e1, e2⟩ := h; ⟨dx, dq, s _ _ e1, s _ _ e2⟩
/-- in ascending order -/
def Asc (ts : List (Str × Str)) : Prop := PyProof.Rows.sortedS (ts.map Prod.fst) = true
/-- facts of a class of the text -/
structure FoC (K : PySem.W.Frag) (CF : Addr) : Prop where
  cl : Cls K CF
  nA : NoAttr K CF "above"
def spFInit (CF : Addr) : Sp := fun vs H Q _ => ∃ (x q dx : Addr) (t : List (Str × Str)), vs = [.ref x, .ref q] ∧ H x = some (.ins CF dx []) ∧ H q = some (.dK (prs t)) ∧ TreeOk t ∧
  ∀ (H' : Hp) (ts : List (Str × Str)), ts.Perm t → Asc ts → FAt CF H' x ts → (∀ b o, b ≠ x → H b = some o → H' b = some o) → Q .non H'
def spFFlags (CF : Addr) : Sp := fun vs H Q _ => ∃ (x : Addr) (ts : List (Str × Str)), vs = [.ref x] ∧ FAt CF H x ts ∧ ∀ p, H p = none → Q (.ref p) (upd H p (.lst ((ts.map Prod.fst).map V.str)))
def spFParents (CF : Addr) : Sp := fun vs H Q _ => ∃ (x : Addr) (ts : List (Str × Str)), vs = [.ref x] ∧ FAt CF H x ts ∧ ∀ p, H p = none → Q (.ref p) (upd H p (.dK (prs ts)))
theorem scFInit : FnScope ["self", "parents", "name"] ["self", "parents"] (defScope s_Forest___init__) := ⟨rfl, rfl, rfl, by decide +kernel, rfl, by decide +kernel, by decide +kernel⟩
theorem perm_pairs : ∀ {ts t : List (Str × Str)}, (t.map Prod.fst).Nodup → (ts.map Prod.fst).Perm (t.map Prod.fst) → (∀ p ∈ ts, p ∈ t) → ts.Perm t
  | [], t, _, pf, _ => by
    have := pf.length_eq
    rw [List.length_map, List.length_map] at this
    rw [List.length_eq_zero_iff.mp (this.symm : t.length = 0)]
  | p :: ts, t, nd, pf, h => by
    have mp := h p (List.mem_cons_self ..)
    have pe := List.perm_cons_erase mp
    have pk : (ts.map Prod.fst).Perm ((t.erase p).map Prod.fst) := (pf.trans (pe.map Prod.fst)).cons_inv
    have nk := (pe.map Prod.fst).nodup_iff.mp nd
    obtain ⟨n1, n2⟩ := List.nodup_cons.mp (show (p.1 :: (t.erase p).map Prod.fst).Nodup from nk)
    refine ((perm_pairs n2 pk fun q hq => ?_).cons p).trans pe.symm
    rcases List.mem_cons.mp (pe.mem_iff.mp (h q (List.mem_cons_of_mem _ hq))) with e | m
    · exfalso
      refine n1 (pk.mem_iff.mp (List.mem_map.mpr ⟨q, hq, ?_⟩))
      rw [e]
    · exact m
theorem ok_finit {f fN CF : Addr} {fd fdN : FuncData} (F : Fun K "__init__" "Forest.__init__" s_Forest___init__ f fd) (T : Nm mg) (O : FoC K CF) (GN : Dn P w K mg base CX0 2 "need_parents" ["parents"] spNeed fN fdN) :
    FnOk P w K mg base CX0 3 f fd ["self", "parents"] (spFInit CF) := by
  refine F.ok scFInit (fun vs H Q E h => ?_) (fun cdv A outer s H vs Q E hr h => ?_)
  · obtain ⟨x, q, dx, t, rfl, _⟩ := h
    rfl
  · obtain ⟨x, q, dx, t, rfl, hx, hq, o, k⟩ := h
    have hu := hu_of hr
    refine ⟨_, pss_cons (ps_expr (pe_call GN.ok hr rfl GN.mgn GN.kp GN.bn .nil pass0 (pa_cons (pv 1) pa_nil)))
      (pss_one (ps_fld (pv 0) (pe_dc (own := [("name", 2)]) (g := gName 2) (tt := tYes) rfl scFInit.nd (pi_list (pe_callB (call_sortedD rfl) (by rfl) T.srt (by decide +kernel) (pa_cons (pv 1) pa_nil)))
        (blkOk_by (N := ["self", "parents", "name"]) (sc := defScope s_Forest___init__) (by decide +kernel))
        (fun _ _ _ _ _ => pg_name (i := 2) scFInit.nd rfl (Or.inl rfl)) (fun _ _ _ _ _ => pts_nil) (fun _ _ _ _ _ => pv 2) (fun _ _ _ _ _ => pe_dget hu (pv 1) (pv 2) (fun _ _ => rfl))) rfl)), ?_⟩
    have few := o.few
    have big : 1000 ≤ sizeLine := by decide
    refine ⟨_, rfl, q, t, rfl, hq, o, fun H1 s1 => ?_⟩
    have hq1 := s1 _ _ hq
    refine ⟨_, rfl, q, prs t, t.map Prod.fst, rfl, .inl hq1, prs_keys t, by rw [List.length_map]; omega, fun ys p perm srt np => ⟨p, rfl, ⟨_, SqL.of upd_same⟩, fun D nD => ?_⟩⟩
    obtain ⟨H2, e2⟩ : ∃ X, X = upd H1 p (.lst (ys.map V.str)) := ⟨_, rfl⟩
    have s2 : Same H H2 := s1.trans (e2 ▸ same_new np)
    have at2 : H2 p = some (.lst (ys.map V.str)) := by rw [e2]; exact upd_same
    rw [← e2] at nD ⊢
    have ndy : ys.Nodup := perm.nodup_iff.mpr o.nd
    have ly := perm.length_eq
    rw [List.length_map] at ly
    refine dc_it walk_list (fun i H' => Same H2 H' ∧ ∃ ts : List (Str × Str), H' D = some (.dK (prs ts)) ∧ ts.map Prod.fst = ys.take i ∧ ∀ p ∈ ts, p ∈ t) ⟨same_new nD, [], upd_same, by rw [List.take_zero] <;> rfl, fun p h => by cases h⟩ (fun i H' _ z => SqL.of (z.1 _ _ at2)) ?_ ?_
    · intro i y Ha Hb hi ⟨q1, ts, hD, ets, hts⟩ ⟨eb, ex⟩
      subst eb
      rw [List.getElem?_map] at ex
      obtain ⟨a, ha, rfl⟩ := Option.map_eq_some_iff.mp ex
      have ma : a ∈ t.map Prod.fst := perm.mem_iff.mp (List.mem_of_getElem? ha)
      obtain ⟨pa, hv⟩ := par_some o.nd ma
      have hqa := q1 _ _ (s2 _ _ hq)
      have fresh : a ∉ ts.map Prod.fst := by
        rw [ets]
        intro hm
        obtain ⟨j, hj⟩ := List.mem_iff_getElem?.mp hm
        have jl := (List.getElem?_eq_some_iff.mp hj).1
        have il := (List.getElem?_eq_some_iff.mp ha).1
        rw [List.length_take] at jl
        rw [List.getElem?_take, if_pos (by omega)] at hj
        have := (List.getElem?_inj (by omega) ndy).mp (hj.trans ha.symm)
        omega
      have lt := congrArg List.length ets
      rw [List.length_map, List.length_take] at lt
      refine ⟨rfl, ?_⟩
      refine ⟨_, rfl, _, rfl, _, rfl, q, V.str pa, rfl, by have z := DGet.k (k := Sum.inr a) hqa; rw [val_prs, hv] at z; exact z, prs ts, Sum.inr a, rfl, hD, by rw [prs_len]; omega, ?_, ts ++ [(a, pa)], ?_, ?_, fun z hz => ?_⟩
      · intro b u e
        rw [upd_ne (ne_of_none e nD)]
        exact q1 b u e
      · rw [upd_same, put_new fresh]
      · rw [List.map_append, ets, take_more ha] <;> rfl
      · rcases List.mem_append.mp hz with h | h
        · exact hts z h
        · rw [List.mem_singleton.mp h]
          exact par_mem hv
    · intro H3 ⟨q1, ts, hD, ets, hts⟩
      rw [List.length_map, List.take_length] at ets
      have s3 : Same H H3 := s2.trans q1
      refine ⟨_, rfl, x, CF, dx, [], rfl, s3 _ _ hx, O.cl, O.nA, by show 0 < 1000; decide, ?_⟩
      have xD : D ≠ x := (ne_of_none (s2 _ _ hx) nD).symm
      refine k _ ts (perm_pairs o.nd (by rw [ets]; exact perm) hts) (by unfold Asc; rw [ets]; exact srt) ⟨dx, D, upd_same, by rw [upd_ne xD]; exact hD⟩ fun b u bx e => ?_
      rw [upd_ne bx]
      exact s3 b u e
theorem scFFlags : FnScope ["self"] ["self"] (defScope s_Forest_flags) := ⟨rfl, rfl, rfl, by decide +kernel, rfl, by decide +kernel, by decide +kernel⟩
theorem ok_fflags {f CF : Addr} {fd : FuncData} (F : Fun K "flags" "Forest.flags" s_Forest_flags f fd) (T : Nm mg) (O : FoC K CF) : FnOk P w K mg base CX0 1 f fd ["self"] (spFFlags CF) := by
  refine F.ok scFFlags (fun vs H Q E h => ?_) (fun cdv A outer s H vs Q E hr h => ?_)
  · obtain ⟨x, ts, rfl, _⟩ := h
    rfl
  · obtain ⟨x, ts, rfl, ⟨dx, dq, hx, hd⟩, k⟩ := h
    refine ⟨_, pss_one (ps_ret (pe_callTy (call_listD rfl) (by rfl) T.lst (by decide +kernel) (pa_cons (pe_fld (pv 0) rfl) pa_nil))), ?_⟩
    refine ⟨_, rfl, x, CF, dx, _, .ref dq, rfl, hx, O.cl, O.nA, rfl, dq, prs ts, rfl, .inl hd, fun p np => ?_⟩
    rw [keys_prs]
    exact k p np
theorem scFParents : FnScope ["self"] ["self"] (defScope s_Forest_parents) := ⟨rfl, rfl, rfl, by decide +kernel, rfl, by decide +kernel, by decide +kernel⟩
theorem ok_fparents {f CF : Addr} {fd : FuncData} (F : Fun K "parents" "Forest.parents" s_Forest_parents f fd) (T : Nm mg) (O : FoC K CF) : FnOk P w K mg base CX0 1 f fd ["self"] (spFParents CF) := by
  refine F.ok scFParents (fun vs H Q E h => ?_) (fun cdv A outer s H vs Q E hr h => ?_)
  · obtain ⟨x, ts, rfl, _⟩ := h
    rfl
  · obtain ⟨x, ts, rfl, ⟨dx, dq, hx, hd⟩, k⟩ := h
    refine ⟨_, pss_one (ps_ret (pe_callTy call_dictD (by rfl) T.dct (by decide +kernel) (pa_cons (pe_fld (pv 0) rfl) pa_nil))), ?_⟩
    exact ⟨_, rfl, x, CF, dx, _, .ref dq, rfl, hx, O.cl, O.nA, rfl, dq, prs ts, rfl, .inl hd, fun p np => k p np⟩
/-- a property of a class -/
structure Pr1 (P : Program) (w : World) (K : PySem.W.Frag) (mg : Str → Option Value) (base : Heap) (CF : Addr) (x : Str) (sp : Sp) (p g : Addr) (fd : FuncData) : Prop where
  pr : PropOf K CF x p g
  fn : FnOk P w K mg base CX0 1 g fd ["self"] sp
  bn : Binds K fd ["self"] []
def spPlacesOf (CF : Addr) : Sp := fun vs H Q _ => ∃ (x : Addr) (ts : List (Str × Str)), vs = [.ref x] ∧ FAt CF H x ts ∧ ts.length ≤ 12 ∧ ∀ p H', Same H H' → H p = none → H' p = some (.lst ((("" : Str) :: ts.map Prod.fst).map V.str)) → Q (.ref p) H'
theorem scPlacesOf : FnScope ["forest"] ["forest"] (defScope s_places_of) := ⟨rfl, rfl, rfl, by decide +kernel, rfl, by decide +kernel, by decide +kernel⟩
theorem ok_placesOf {f CF p1 g1 : Addr} {mc : Value} {fd fd1 : FuncData} (F : Fun K "places_of" "places_of" s_places_of f fd) (T : Nm mg) (O : FoC K CF) (Z : Fc K mg CF mc) (L : Pr1 P w K mg base CF "flags" (spFFlags CF) p1 g1 fd1) :
    FnOk P w K mg base CX0 3 f fd ["forest"] (spPlacesOf CF) := by
  obtain ⟨ur, cr⟩ := Z.root
  refine F.ok scPlacesOf (fun vs H Q E h => ?_) (fun cdv A outer s H vs Q E hr h => ?_)
  · obtain ⟨x, ts, rfl, _⟩ := h
    rfl
  · obtain ⟨x, ts, rfl, fa, few, k⟩ := h
    obtain ⟨dx, dq, hx, hd⟩ := id fa
    have big : 1000 ≤ sizeLine := by decide
    refine ⟨_, pss_one (ps_ret (pe_op op_cat (pe_lst (pa_cons (pe_cval (pe_glob (v := .ref CF) (by rfl) Z.gF rfl)) pa_nil)) (pe_prop (pv 0) O.cl L.pr L.fn hr L.bn .nil pass0 (by rfl)))), ?_⟩
    refine ⟨CF, mc, _, ur, rfl, Z.rd, cr, by show 1 ≤ sizeLine; omega, fun p1 n1 => ?_⟩
    have s1 : Same H (upd H p1 (.lst [.str ""])) := same_new n1
    refine ⟨_, rfl, x, dx, _, rfl, s1 _ _ hx, x, ts, rfl, fa.mono s1, fun p2 n2 => ⟨p1, p2, [.str ""], (ts.map Prod.fst).map V.str, rfl, rfl, by rw [upd_ne (ne_of_none upd_same n2), upd_same], upd_same, ?_, fun p3 n3 => ?_⟩⟩
    · rw [List.length_map, List.length_map]
      show 1 + _ ≤ sizeLine
      omega
    · have s3 : Same H (upd (upd (upd H p1 (.lst [.str ""])) p2 (.lst ((ts.map Prod.fst).map V.str))) p3 (.lst ([.str ""] ++ (ts.map Prod.fst).map V.str))) := (s1.trans (same_new n2)).trans (same_new n3)
      exact k p3 _ s3 (Same.free (s1.trans (same_new n2)) n3) upd_same
end
end FT


/-! the package's errors: their __init__, how they are raised. -/
namespace FT
open PySem L2 TL ClX
/-- what the top has written of an error class at C, its __init__ at I; f its attribute, or the empty text -/
structure Er (K : PySem.W.Frag) (mg : Str → Option Value) (nm f : Str) (C I : Addr) : Prop where
  g : mg nm = some (.ref C)
  x : XCls K C
  ini : PySem.W.findIn K (.ref C) "__init__" = some (some (.ref I))
  ity : PySem.W.typeIn K (.ref I) = some (.type "function")
  no : PySem.W.findIn K (.ref C) f = some none
theorem Er.xf {K : PySem.W.Frag} {mg : Str → Option Value} {nm f : Str} {C I : Addr} (e : Er K mg nm f C I) : XfC K C := ⟨e.x.ga, e.x.gg, e.x.exC, e.x.hdC⟩
/-- the base class -/
structure Rt (K : PySem.W.Frag) (mg : Str → Option Value) (R : Addr) : Prop where
  g : mg "RolloutError" = some (.ref R)
  ini : XIni K R
def spInit1 (C : Addr) (f : Str) : Sp := fun vs H Q _ => ∃ (a : Addr) (v : V), vs = [.ref a, v] ∧ H a = some (exo a C none) ∧ ∀ d, H d = none → d ≠ a → Q .non (upd (upd H d (exd d [(f, v)])) a (exo a C (some d)))
def spInit0 (C : Addr) : Sp := fun vs H Q _ => ∃ (a : Addr), vs = [.ref a] ∧ H a = some (exo a C none) ∧ Q .non H
/-- C(v): what is asked -/
theorem raise1 {C : Addr} {f : Str} {H1 : Hp} {Q : XK} {v : V} (k : ∀ d, H1 d = none → Q (.ref C) (some d) (upd H1 d (.xd [(f, v)]))) :
    [v].length ≤ 1000 ∧ ∀ a, H1 a = none → spInit1 C f (.ref a :: ([v] ++ [])) (upd H1 a (exo a C none))
      (fun w H2 => w = .non ∧ ∃ (d : Addr) (fs : List (Str × V)), H2 a = some (exo a C (some d)) ∧ H2 d = some (exd d fs) ∧ H1 d = none ∧ Q (.ref C) (some d) (upd (del H2 a) d (.xd fs))) (fun _ _ _ => False) := by
  refine ⟨by show 1 ≤ 1000; omega, fun a na => ⟨a, v, rfl, upd_same, fun d nd nda => ⟨rfl, d, [(f, v)], upd_same, by rw [upd_ne nda, upd_same], ?_, ?_⟩⟩⟩
  · rw [upd_ne nda] at nd
    exact nd
  · rw [upd_ne nda] at nd
    have e : upd (del (upd (upd (upd H1 a (exo a C none)) d (exd d [(f, v)])) a (exo a C (some d))) a) d (.xd [(f, v)]) = upd H1 d (.xd [(f, v)]) := by
      funext b
      by_cases h1 : b = d
      · subst h1
        rw [upd_same, upd_same]
      · rw [upd_ne h1, upd_ne h1]
        by_cases h2 : b = a
        · subst h2
          rw [del_same, na]
        · rw [del_ne h2, upd_ne h2, upd_ne h1, upd_ne h2]
    rw [e]
    exact k d nd
/-- C(): what is asked -/
theorem raise0 {C : Addr} {H1 : Hp} {Q : XK} (k : Q (.ref C) none H1) :
    ([] : List V).length ≤ 1000 ∧ ∀ a, H1 a = none → spInit0 C (.ref a :: ([] ++ [])) (upd H1 a (exo a C none)) (fun v H2 => v = .non ∧ H2 a = some (exo a C none) ∧ Q (.ref C) none (del H2 a)) (fun _ _ _ => False) := by
  refine ⟨Nat.zero_le _, fun a na => ⟨a, rfl, upd_same, rfl, upd_same, ?_⟩⟩
  have e : del (upd H1 a (exo a C none)) a = H1 := by
    funext b
    by_cases h : b = a
    · subst h
      rw [del_same, na]
    · rw [del_ne h, upd_ne h]
  rw [e]
  exact k
/-- an error class with its __init__, as a whole: with one value -/
structure Er1 (P : Program) (w : World) (K : PySem.W.Frag) (mg : Str → Option Value) (base : Heap) (nm f : Str) (C I : Addr) (fd : FuncData) : Prop where
  e : Er K mg nm f C I
  fn : FnOk P w K mg base CX0 1 I fd ["self", f] (spInit1 C f)
  bn : Binds K fd ["self", f] []
structure Er0 (P : Program) (w : World) (K : PySem.W.Frag) (mg : Str → Option Value) (base : Heap) (nm : Str) (C I : Addr) (fd : FuncData) : Prop where
  e : Er K mg nm "" C I
  fn : FnOk P w K mg base CX0 1 I fd ["self"] (spInit0 C)
  bn : Binds K fd ["self"] []
section
variable {X : Cx} {W : WX} {nm f : Str} {C I : Addr} {fd : FuncData} {ex : Expr} {te : TE} {p pos pos2 : Pos}
/-- raise C(e) -/
theorem ps_err1 (L : Er1 X.prog X.w X.K X.mg X.base nm f C I fd) (hc : X.calm = true) (tk : Takes X W) (hr : Room 2 X.A) (hg : Gl X nm) (he : PE X ex te) (hdb : (nm == ("__debug__" : Str)) = false := by decide)
    (hse : starEach (ex :: []) X.env = (false, eval ex X.env) :: starEach [] X.env := by rfl) (hpl : (backTo pos (starEach [] X.env)).any (·.1) = false := by rfl) :
    PS X (.Raise (some (.Call (.Name nm p) [ex] [] pos)) none pos2) (fun _ σ H => tMkO C (spInit1 C f) [] (tCons te tNil) σ H fun cls d H' => W cls d σ H') :=
  ps_raise hc tk (pmk_oex L.e.x.oex L.e.ini L.e.ity L.fn hr L.bn .nil (fun _ _ _ _ _ _ _ h => h.elim) hg L.e.g (pa_cons (hs := hse) he pa_nil) hdb hse hpl)
/-- raise C() -/
theorem ps_err0 (L : Er0 X.prog X.w X.K X.mg X.base nm C I fd) (hc : X.calm = true) (tk : Takes X W) (hr : Room 2 X.A) (hg : Gl X nm) (hdb : (nm == ("__debug__" : Str)) = false := by decide) :
    PS X (.Raise (some (.Call (.Name nm p) [] [] pos)) none pos2) (fun _ σ H => tMkO0 C (spInit0 C) [] tNil σ H fun cls d H' => W cls d σ H') :=
  ps_raise hc tk (pmk_none L.e.x.oex L.e.ini L.e.ity L.fn hr L.bn .nil (fun _ _ _ _ _ _ _ h => h.elim) hg L.e.g hdb)
end
end FT


namespace FT
open PySem L2 TL ClX
section
variable {P : Program} {w : World} {K : PySem.W.Frag} {mg : Str → Option Value} {base : Heap}
theorem sc_InvalidForest : FnScope ["self", "name"] ["self", "name"] (defScope s_InvalidForest___init__) := ⟨rfl, rfl, rfl, by decide +kernel, rfl, by decide +kernel, by decide +kernel⟩
theorem ok_InvalidForest {f R C I : Addr} {fd : FuncData} (F : Fun K "__init__" "InvalidForest.__init__" s_InvalidForest___init__ f fd) (T : Rt K mg R) (L : Er K mg "InvalidForest" "name" C I) : FnOk P w K mg base CX0 1 f fd ["self", "name"] (spInit1 C "name") := by
  refine F.ok sc_InvalidForest (fun vs H Q E h => ?_) (fun cdv A outer s H vs Q E hr h => ?_)
  · obtain ⟨a, v, rfl, _⟩ := h
    rfl
  · obtain ⟨a, v, rfl, ha, k⟩ := h
    refine ⟨_, pss_cons (ps_expr (pe_clsinit T.ini rfl T.g (pa_cons (pv 0) (pa_cons pe_str pa_nil)))) (pss_one (ps_ost (pv 0) (pv 1))), ?_⟩
    refine ⟨_, rfl, a, C, _, rfl, by show 1 ≤ 1000; omega, L.x.oex, ha, ?_⟩
    exact ⟨_, rfl, _, rfl, a, C, rfl, L.x.oex, L.no, .inl ⟨ha, fun d nd nda => k d nd nda⟩⟩
theorem sc_InvalidUsers : FnScope ["self"] ["self"] (defScope s_InvalidUsers___init__) := ⟨rfl, rfl, rfl, by decide +kernel, rfl, by decide +kernel, by decide +kernel⟩
theorem ok_InvalidUsers {f R C I : Addr} {fd : FuncData} (F : Fun K "__init__" "InvalidUsers.__init__" s_InvalidUsers___init__ f fd) (T : Rt K mg R) (L : Er K mg "InvalidUsers" "" C I) : FnOk P w K mg base CX0 1 f fd ["self"] (spInit0 C) := by
  refine F.ok sc_InvalidUsers (fun vs H Q E h => ?_) (fun cdv A outer s H vs Q E hr h => ?_)
  · obtain ⟨a, rfl, _⟩ := h
    rfl
  · obtain ⟨a, rfl, ha, k⟩ := h
    refine ⟨_, pss_one (ps_expr (pe_clsinit T.ini rfl T.g (pa_cons (pv 0) (pa_cons pe_str pa_nil)))), ?_⟩
    exact ⟨_, rfl, a, C, _, rfl, by show 1 ≤ 1000; omega, L.x.oex, ha, k⟩
theorem sc_InvalidSizes : FnScope ["self", "place"] ["self", "place"] (defScope s_InvalidSizes___init__) := ⟨rfl, rfl, rfl, by decide +kernel, rfl, by decide +kernel, by decide +kernel⟩
theorem ok_InvalidSizes {f R C I : Addr} {fd : FuncData} (F : Fun K "__init__" "InvalidSizes.__init__" s_InvalidSizes___init__ f fd) (T : Rt K mg R) (L : Er K mg "InvalidSizes" "place" C I) : FnOk P w K mg base CX0 1 f fd ["self", "place"] (spInit1 C "place") := by
  refine F.ok sc_InvalidSizes (fun vs H Q E h => ?_) (fun cdv A outer s H vs Q E hr h => ?_)
  · obtain ⟨a, v, rfl, _⟩ := h
    rfl
  · obtain ⟨a, v, rfl, ha, k⟩ := h
    refine ⟨_, pss_cons (ps_expr (pe_clsinit T.ini rfl T.g (pa_cons (pv 0) (pa_cons pe_str pa_nil)))) (pss_one (ps_ost (pv 0) (pv 1))), ?_⟩
    refine ⟨_, rfl, a, C, _, rfl, by show 1 ≤ 1000; omega, L.x.oex, ha, ?_⟩
    exact ⟨_, rfl, _, rfl, a, C, rfl, L.x.oex, L.no, .inl ⟨ha, fun d nd nda => k d nd nda⟩⟩
theorem sc_Mismatch : FnScope ["self"] ["self"] (defScope s_Mismatch___init__) := ⟨rfl, rfl, rfl, by decide +kernel, rfl, by decide +kernel, by decide +kernel⟩
theorem ok_Mismatch {f R C I : Addr} {fd : FuncData} (F : Fun K "__init__" "Mismatch.__init__" s_Mismatch___init__ f fd) (T : Rt K mg R) (L : Er K mg "Mismatch" "" C I) : FnOk P w K mg base CX0 1 f fd ["self"] (spInit0 C) := by
  refine F.ok sc_Mismatch (fun vs H Q E h => ?_) (fun cdv A outer s H vs Q E hr h => ?_)
  · obtain ⟨a, rfl, _⟩ := h
    rfl
  · obtain ⟨a, rfl, ha, k⟩ := h
    refine ⟨_, pss_one (ps_expr (pe_clsinit T.ini rfl T.g (pa_cons (pv 0) (pa_cons pe_str pa_nil)))), ?_⟩
    exact ⟨_, rfl, a, C, _, rfl, by show 1 ≤ 1000; omega, L.x.oex, ha, k⟩
theorem sc_InvalidNumber : FnScope ["self"] ["self"] (defScope s_InvalidNumber___init__) := ⟨rfl, rfl, rfl, by decide +kernel, rfl, by decide +kernel, by decide +kernel⟩
theorem ok_InvalidNumber {f R C I : Addr} {fd : FuncData} (F : Fun K "__init__" "InvalidNumber.__init__" s_InvalidNumber___init__ f fd) (T : Rt K mg R) (L : Er K mg "InvalidNumber" "" C I) : FnOk P w K mg base CX0 1 f fd ["self"] (spInit0 C) := by
  refine F.ok sc_InvalidNumber (fun vs H Q E h => ?_) (fun cdv A outer s H vs Q E hr h => ?_)
  · obtain ⟨a, rfl, _⟩ := h
    rfl
  · obtain ⟨a, rfl, ha, k⟩ := h
    refine ⟨_, pss_one (ps_expr (pe_clsinit T.ini rfl T.g (pa_cons (pv 0) (pa_cons pe_str pa_nil)))), ?_⟩
    exact ⟨_, rfl, a, C, _, rfl, by show 1 ≤ 1000; omega, L.x.oex, ha, k⟩
theorem sc_NotBest : FnScope ["self"] ["self"] (defScope s_NotBest___init__) := ⟨rfl, rfl, rfl, by decide +kernel, rfl, by decide +kernel, by decide +kernel⟩
theorem ok_NotBest {f R C I : Addr} {fd : FuncData} (F : Fun K "__init__" "NotBest.__init__" s_NotBest___init__ f fd) (T : Rt K mg R) (L : Er K mg "NotBest" "" C I) : FnOk P w K mg base CX0 1 f fd ["self"] (spInit0 C) := by
  refine F.ok sc_NotBest (fun vs H Q E h => ?_) (fun cdv A outer s H vs Q E hr h => ?_)
  · obtain ⟨a, rfl, _⟩ := h
    rfl
  · obtain ⟨a, rfl, ha, k⟩ := h
    refine ⟨_, pss_one (ps_expr (pe_clsinit T.ini rfl T.g (pa_cons (pv 0) (pa_cons pe_str pa_nil)))), ?_⟩
    exact ⟨_, rfl, a, C, _, rfl, by show 1 ≤ 1000; omega, L.x.oex, ha, k⟩
end
end FT


namespace FT
open PySem L2 TL ClX
/-! ### data of any kind -/
inductive Dat (K : PySem.W.Frag) (H : Hp) : V → String → Prop where
  | non : Dat K H .non "NoneType"
  | bl (b : Bool) : Dat K H (.bl b) "bool"
  | int (i : Int) : Dat K H (.int i) "int"
  | str (z : Str) : Dat K H (.str z) "str"
  | lst {a : Addr} {xs : List V} (h : H a = some (.lst xs)) : Dat K H (.ref a) "list"
  | tup {a : Addr} {xs : List V} (h : H a = some (.tup xs)) : Dat K H (.ref a) "tuple"
  | dct {a : Addr} {kvs : List (Key × V)} (h : H a = some (.dK kvs)) : Dat K H (.ref a) "dict"
theorem Dat.ty {K : PySem.W.Frag} {H : Hp} {v : V} {T : String} (d : Dat K H v T) : TyX K H v (.type T) := by
  cases d with
  | non => exact .base .non
  | bl b => exact .base (.bl b)
  | int i => exact .base (.int i)
  | str z => exact .base (.str z)
  | lst h => exact .base (.lst h)
  | tup h => exact .base (.tup h)
  | dct h => exact .base (.dK h)
theorem Dat.mono {K : PySem.W.Frag} {H H' : Hp} {v : V} {T : String} (s : Same H H') (d : Dat K H v T) : Dat K H' v T := by
  cases d with
  | non => exact .non
  | bl b => exact .bl b
  | int i => exact .int i
  | str z => exact .str z
  | lst h => exact .lst (s _ _ h)
  | tup h => exact .tup (s _ _ h)
  | dct h => exact .dct (s _ _ h)
def IsDat (K : PySem.W.Frag) (H : Hp) (v : V) : Prop := ∃ T, Dat K H v T
theorem IsDat.mono {K : PySem.W.Frag} {H H' : Hp} {v : V} (s : Same H H') (d : IsDat K H v) : IsDat K H' v := let ⟨T, d⟩ := d; ⟨T, d.mono s⟩
/-- isinstance(v, int) -/
def isIntV : V → Bool
  | .int _ => true
  | .bl _ => true
  | _ => false
def isBlV : V → Bool
  | .bl _ => true
  | _ => false
def isDictV (H : Hp) (v : V) : Bool := match v with
  | .ref a => match H a with
    | some (.dK _) => true
    | _ => false
  | _ => false
theorem Dat.int_ {K : PySem.W.Frag} {H : Hp} {v : V} {T : String} (d : Dat K H v T) : PySem.W.kitOne K (.type T) (.type "int") = some (isIntV v) := by
  cases d with
  | non => exact kit_ty (r := false) (by decide +kernel)
  | bl b => exact kit_ty (r := true) (by decide +kernel)
  | int i => exact kit_ty (r := true) (by decide +kernel)
  | str z => exact kit_ty (r := false) (by decide +kernel)
  | lst h => exact kit_ty (r := false) (by decide +kernel)
  | tup h => exact kit_ty (r := false) (by decide +kernel)
  | dct h => exact kit_ty (r := false) (by decide +kernel)
theorem Dat.bool_ {K : PySem.W.Frag} {H : Hp} {v : V} {T : String} (d : Dat K H v T) : PySem.W.kitOne K (.type T) (.type "bool") = some (isBlV v) := by
  cases d with
  | non => exact kit_ty (r := false) (by decide +kernel)
  | bl b => exact kit_ty (r := true) (by decide +kernel)
  | int i => exact kit_ty (r := false) (by decide +kernel)
  | str z => exact kit_ty (r := false) (by decide +kernel)
  | lst h => exact kit_ty (r := false) (by decide +kernel)
  | tup h => exact kit_ty (r := false) (by decide +kernel)
  | dct h => exact kit_ty (r := false) (by decide +kernel)
theorem Dat.dict_ {K : PySem.W.Frag} {H : Hp} {v : V} {T : String} (d : Dat K H v T) : PySem.W.kitOne K (.type T) (.type "dict") = some (decide (T = "dict")) := by
  cases d with
  | non => exact kit_ty (r := false) (by decide +kernel)
  | bl b => exact kit_ty (r := false) (by decide +kernel)
  | int i => exact kit_ty (r := false) (by decide +kernel)
  | str z => exact kit_ty (r := false) (by decide +kernel)
  | lst h => exact kit_ty (r := false) (by decide +kernel)
  | tup h => exact kit_ty (r := false) (by decide +kernel)
  | dct h => exact kit_ty (r := true) (by decide +kernel)
theorem Dat.str_ {K : PySem.W.Frag} {H : Hp} {v : V} {T : String} (d : Dat K H v T) : PySem.W.kitOne K (.type T) (.type "str") = some (decide (T = "str")) := by
  cases d with
  | non => exact kit_ty (r := false) (by decide +kernel)
  | bl b => exact kit_ty (r := false) (by decide +kernel)
  | int i => exact kit_ty (r := false) (by decide +kernel)
  | str z => exact kit_ty (r := true) (by decide +kernel)
  | lst h => exact kit_ty (r := false) (by decide +kernel)
  | tup h => exact kit_ty (r := false) (by decide +kernel)
  | dct h => exact kit_ty (r := false) (by decide +kernel)
/-- an integer, no bool, of at least l -/
def isGe (v : V) (l : Int) : Bool := match v with
  | .int i => decide (l ≤ i)
  | _ => false
/-! ### what is raised -/
inductive Err where
  | e0 (C : Addr)
  | e1 (C : Addr) (f : Str) (v : V)
/-- the way out of such an error, from the heap H -/
def Out (H : Hp) (E : XK) : Err → Prop
  | .e0 C => ∀ H', Same H H' → E (.ref C) none H'
  | .e1 C f v => ∀ d H', Same H H' → H d = none → H' d = some (.xd [(f, v)]) → E (.ref C) (some d) H'
theorem Out.mono {H H1 : Hp} {E : XK} {e : Err} (s : Same H H1) (o : Out H E e) : Out H1 E e := by
  cases e with
  | e0 C => exact fun H' s' => o H' (s.trans s')
  | e1 C f v => exact fun d H' s' n => o d H' (s.trans s') (s.free n)
/-- raise C(v) in a def that lets it out -/
theorem out1 {C : Addr} {f : Str} {v : V} {H H1 : Hp} {E : XK} (o : Out H E (.e1 C f v)) (s : Same H H1) :
    [v].length ≤ 1000 ∧ ∀ a, H1 a = none → spInit1 C f (.ref a :: ([v] ++ [])) (upd H1 a (exo a C none))
      (fun w H2 => w = .non ∧ ∃ (d : Addr) (fs : List (Str × V)), H2 a = some (exo a C (some d)) ∧ H2 d = some (exd d fs) ∧ H1 d = none ∧ E (.ref C) (some d) (upd (del H2 a) d (.xd fs))) (fun _ _ _ => False) :=
  raise1 (Q := fun cls d H' => E cls d H') fun d nd => o d _ (s.trans (same_new nd)) (s.free nd) upd_same
theorem out0 {C : Addr} {H H1 : Hp} {E : XK} (o : Out H E (.e0 C)) (s : Same H H1) :
    ([] : List V).length ≤ 1000 ∧ ∀ a, H1 a = none → spInit0 C (.ref a :: ([] ++ [])) (upd H1 a (exo a C none)) (fun v H2 => v = .non ∧ H2 a = some (exo a C none) ∧ E (.ref C) none (del H2 a)) (fun _ _ _ => False) :=
  raise0 (Q := fun cls d H' => E cls d H') (o _ s)
/-- a call of a def that may raise, in a def that lets it out -/
theorem passX {P : Program} {w : World} {X : Cx} {E : XK} (tk : Takes X (fun cls d _ H => E cls d H)) : Passes (L2.CX X.prog X.w) X E := passes_call tk (fun _ _ _ _ h => h)
/-! ### numbers by places -/
def tblI (l : List Str) (g : Str → Int) : List (Key × V) := kvT (l.map fun a => (a, V.int (g a)))
theorem tblI_len (l : List Str) (g : Str → Int) : (tblI l g).length = l.length := by unfold tblI; rw [kvT_len, List.length_map]
theorem tblI_fst (l : List Str) (g : Str → Int) : (l.map fun a => (a, V.int (g a))).map Prod.fst = l := by rw [List.map_map]; exact List.map_id _
theorem tblI_keys (l : List Str) (g : Str → Int) : (tblI l g).map (·.1) = l.map Sum.inr := by unfold tblI kvT; rw [List.map_map, List.map_map] <;> rfl
theorem tblI_at {l : List Str} {g : Str → Int} {i : Nat} {k : Key} {v : V} (h : (tblI l g)[i]? = some (k, v)) : ∃ a, l[i]? = some a ∧ k = Sum.inr a ∧ v = .int (g a) := by
  unfold tblI kvT at h
  rw [List.map_map, List.getElem?_map] at h
  obtain ⟨a, ha, e⟩ := Option.map_eq_some_iff.mp h
  cases e
  exact ⟨a, ha, rfl, rfl⟩
theorem tblI_val {l : List Str} {g : Str → Int} {a : Str} (h : a ∈ l) : valV (tblI l g) (Sum.inr a) = some (.int (g a)) := by
  unfold tblI
  rw [kvT_val]
  induction l with
  | nil => cases h
  | cons b l ih =>
    rw [List.map_cons, look_cons]
    by_cases e : b = a
    · subst e
      exact if_pos rfl
    · rw [if_neg e]
      exact ih ((List.mem_cons.mp h).resolve_left fun z => e z.symm)
theorem tblI_none {l : List Str} {g : Str → Int} {a : Str} (h : a ∉ l) : valV (tblI l g) (Sum.inr a) = none := by
  unfold tblI
  rw [kvT_val, look_none (by rw [tblI_fst]; exact h)]
theorem tblI_put {l : List Str} {g : Str → Int} {a : Str} {z : Int} (h : a ∈ l) : putK (tblI l g) (Sum.inr a) (.int z) = tblI l (fun p => if p = a then z else g p) := by
  unfold tblI
  rw [kvT_putT]
  unfold putT
  rw [if_pos (by rw [tblI_fst]; exact h), List.map_map]
  congr 1
  refine List.map_congr_left fun p _ => ?_
  show (if p = a then (p, V.int z) else (p, V.int (g p))) = (p, V.int (if p = a then z else g p))
  by_cases e : p = a
  · rw [if_pos e, if_pos e]
  · rw [if_neg e, if_neg e]
theorem tblI_snoc {l : List Str} {g : Str → Int} {a : Str} {z : Int} (h : a ∉ l) (e : z = g a) : putK (tblI l g) (Sum.inr a) (.int z) = tblI (l ++ [a]) g := by
  unfold tblI
  rw [kvT_put (by rw [tblI_fst]; exact h), List.map_append, e] <;> rfl
theorem tblI_congr {l : List Str} {g g' : Str → Int} (h : ∀ a ∈ l, g a = g' a) : tblI l g = tblI l g' := by
  unfold tblI
  rw [List.map_congr_left fun a ha => by rw [h a ha]]
/-! ### feasible sizes -/
/-- sizes: a dict, its pairs told, or another value -/
def SzV (K : PySem.W.Frag) (H : Hp) (sv : V) : Option (List (Key × V)) → Prop
  | some kvs => ∃ q, sv = .ref q ∧ H q = some (.dK kvs) ∧ ∀ p ∈ kvs, IsDat K H p.2
  | none => ∃ T, Dat K H sv T ∧ T ≠ "dict"
theorem SzV.mono {K : PySem.W.Frag} {H H' : Hp} {sv : V} {o : Option (List (Key × V))} (s : Same H H') (h : SzV K H sv o) : SzV K H' sv o := by
  cases o with
  | none => exact let ⟨T, d, n⟩ := h; ⟨T, d.mono s, n⟩
  | some kvs => exact let ⟨q, e, h, a⟩ := h; ⟨q, e, s _ _ h, fun p hp => (a p hp).mono s⟩
def szOf (kvs : List (Key × V)) (a : Str) : Int := match valV kvs (Sum.inr a) with
  | some (.int i) => i
  | _ => 0
def badKey (kvs : List (Key × V)) (a : Str) : Bool := !isGe ((valV kvs (Sum.inr a)).getD .non) 0
/-- the place of the first fault, as the error tells it -/
def feas (ts : List (Str × Str)) (n : Int) : Option (List (Key × V)) → Option V
  | none => some .non
  | some kvs => if kvs.length ≠ ts.length then some .non else if (ts.map Prod.fst).all (fun a => (valV kvs (Sum.inr a)).isSome) = false then some .non else
    match (ts.map Prod.fst).find? (badKey kvs) with
    | some a => some (.str a)
    | none => ((("" : Str) :: ts.map Prod.fst).find? fun p => decide (resid ts n (szOf kvs) p < 0)).map V.str
def usersOk (v : V) (m : Int) : Bool := match v with
  | .int i => decide (1 ≤ i) && decide (i ≤ m)
  | _ => false
def feE (CS : Addr) (ts : List (Str × Str)) (n : Int) (o : Option (List (Key × V))) : Option Err := (feas ts n o).map fun v => .e1 CS "place" v
def szE (CU CS : Addr) (ts : List (Str × Str)) (uv : V) (o : Option (List (Key × V))) : Option Err := if usersOk uv (10 ^ 30) = true then feE CS ts (match uv with | .int n => n | _ => 0) o else some (.e0 CU)
/-- a def that hands back None, or raises -/
def Res (H : Hp) (Q : VK) (E : XK) : Option Err → Prop
  | none => ∀ H', Same H H' → Q .non H'
  | some e => Out H E e
theorem Res.mono {H H1 : Hp} {Q : VK} {E : XK} {o : Option Err} (s : Same H H1) (r : Res H Q E o) : Res H1 Q E o := by
  cases o with
  | none => exact fun H' s' => r H' (s.trans s')
  | some e => exact Out.mono s r
def spIsInt (K : PySem.W.Frag) : Sp := fun vs H Q _ => ∃ (v : V) (l : Int), vs = [v, .int l] ∧ IsDat K H v ∧ Q (.bl (isGe v l)) H
def spUsers (K : PySem.W.Frag) (CU : Addr) : Sp := fun vs H Q E => ∃ (v : V) (m : Int), vs = [v, .int m] ∧ IsDat K H v ∧ Res H Q E (if usersOk v m = true then none else some (.e0 CU))
def spResid (CF : Addr) : Sp := fun vs H Q _ => ∃ (x q : Addr) (n : Int) (ts : List (Str × Str)) (kvs : List (Key × V)), vs = [.ref x, .int n, .ref q] ∧ FAt CF H x ts ∧ TreeOk ts ∧ H q = some (.dK kvs) ∧ (∀ a ∈ ts.map Prod.fst, valV kvs (Sum.inr a) = some (.int (szOf kvs a))) ∧
  ∀ p H', Same H H' → H p = none → H' p = some (.dK (tblI ("" :: ts.map Prod.fst) (resid ts n (szOf kvs)))) → Q (.ref p) H'
def spFeas (K : PySem.W.Frag) (CF CS : Addr) : Sp := fun vs H Q E => ∃ (x : Addr) (n : Int) (sv : V) (ts : List (Str × Str)) (o : Option (List (Key × V))), vs = [.ref x, .int n, sv] ∧ FAt CF H x ts ∧ TreeOk ts ∧ SzV K H sv o ∧ Res H Q E (feE CS ts n o)
def spNSizes (K : PySem.W.Frag) (CF CU CS : Addr) : Sp := fun vs H Q E => ∃ (x : Addr) (uv sv : V) (ts : List (Str × Str)) (o : Option (List (Key × V))), vs = [.ref x, uv, sv] ∧ FAt CF H x ts ∧ TreeOk ts ∧ IsDat K H uv ∧ SzV K H sv o ∧ Res H Q E (szE CU CS ts uv o)
section
variable {P : Program} {w : World} {K : PySem.W.Frag} {mg : Str → Option Value} {base : Heap}
theorem scIsInt : FnScope ["value", "least"] ["value", "least"] (defScope s_is_integer) := ⟨rfl, rfl, rfl, by decide +kernel, rfl, by decide +kernel, by decide +kernel⟩
theorem ok_isInt {f : Addr} {fd : FuncData} (F : Fun K "is_integer" "is_integer" s_is_integer f fd) (T : Nm mg) : FnOk P w K mg base CX0 1 f fd ["value", "least"] (spIsInt K) := by
  refine F.ok scIsInt (fun vs H Q E h => ?_) (fun cdv A outer s H vs Q E hr h => ?_)
  · obtain ⟨v, l, rfl, _⟩ := h
    rfl
  · obtain ⟨v, l, rfl, ⟨t, d⟩, k⟩ := h
    refine ⟨_, pss_one (ps_ret (pe_and (pe_callB call_isi (by rfl) T.isi (by decide +kernel) (pa_cons (pv 0) (pa_cons (pe_bltn (v := .ty "int") (u := .type "int") (by rfl) T.int (by decide +kernel) rfl) pa_nil)))
      (pe_and (pe_not (pe_callB call_isi (by rfl) T.isi (by decide +kernel) (pa_cons (pv 0) (pa_cons (pe_bltn (v := .ty "bool") (u := .type "bool") (by rfl) T.bool (by decide +kernel) rfl) pa_nil)))) (pe_one (pe_cmpR op_ge (pv 0) (pv 1) (nomark _)))))), ?_⟩
    refine ⟨_, rfl, v, _, _, _, _, rfl, .ty _, d.ty, d.int_, _, rfl, ?_⟩
    refine ite2 (fun yes => ⟨_, rfl, v, _, _, _, _, rfl, .ty _, d.ty, d.bool_, _, rfl, _, rfl, ?_⟩) (fun no => ?_)
    · refine ite2 (fun yes2 => ?_) (fun no2 => ?_)
      · cases v with
        | int i => exact ⟨_, rfl, _, rfl, i, l, rfl, rfl, k⟩
        | bl b => cases yes2
        | _ => cases yes
      · cases v with
        | int i => exact absurd rfl no2
        | bl b => exact k
        | _ => cases yes
    · cases v with
      | int i => exact absurd rfl no
      | bl b => exact absurd rfl no
      | _ => exact k
end
end FT


namespace FT
open PySem L2 TL ClX
section
variable {P : Program} {w : World} {K : PySem.W.Frag} {mg : Str → Option Value} {base : Heap}
abbrev NRes : List Str := ["forest", "users", "sizes", "found", "parents", "name", "place"]
theorem scRes : FnScope NRes ["forest", "users", "sizes"] (defScope s_residents_of) := ⟨rfl, rfl, rfl, by decide +kernel, rfl, by decide +kernel, by decide +kernel⟩
theorem ok_resid {f fP CF p1 g1 p2 g2 : Addr} {mc : Value} {fd fdP fd1 fd2 : FuncData} (F : Fun K "residents_of" "residents_of" s_residents_of f fd) (T : Nm mg) (O : FoC K CF) (Z : Fc K mg CF mc)
    (G : Dn P w K mg base CX0 3 "places_of" ["forest"] (spPlacesOf CF) fP fdP) (L1 : Pr1 P w K mg base CF "flags" (spFFlags CF) p1 g1 fd1) (L2 : Pr1 P w K mg base CF "parents" (spFParents CF) p2 g2 fd2) :
    FnOk P w K mg base CX0 4 f fd ["forest", "users", "sizes"] (spResid CF) := by
  obtain ⟨ur, cr⟩ := Z.root
  refine F.ok scRes (fun vs H Q E h => ?_) (fun cdv A outer s H vs Q E hr h => ?_)
  · obtain ⟨x, q, n, ts, kvs, rfl, _⟩ := h
    rfl
  · obtain ⟨x, q, n, ts, kvs, rfl, fa, o, hq, hv, k⟩ := h
    have hu := hu_of hr
    have hr2 : Room 2 _ := hr.mono (by decide)
    have big : 1000 ≤ sizeLine := by decide
    have few := o.few
    refine ⟨_, pss_cons (ps_setDc (i := 3) (own := [("place", 6)]) (g := gName 6) (tt := tYes) (tv := tIf (tTest (tOp rEq (tVar 6) (tCVal K (tC (.ref CF)) "ROOT"))) (tVar 1) (tDGet (tVar 2) (tVar 6))) rfl scRes.nd rfl rfl (swd_true rfl rfl rfl (by decide +kernel)) (pi_list (pe_call G.ok (hr.mono (by decide)) rfl G.mgn G.kp G.bn .nil pass0 (pa_cons (pv 0) pa_nil)))
        (blkOk_by (N := NRes) (sc := defScope s_residents_of) (by decide +kernel))
        (fun _ _ _ _ _ => pg_name (i := 6) scRes.nd rfl (Or.inl rfl)) (fun _ _ _ _ _ => pts_nil) (fun _ _ _ _ _ => pv 6)
        (fun _ _ _ _ _ => pe_ifExp (pt_cmpR op_eq (pv 6) (pe_cval (pe_glob (v := .ref CF) (by rfl) Z.gF rfl)) (nomark _)) (pv 1) (pe_dget hu (pv 2) (pv 6) (fun _ _ => rfl))))
      (pss_cons (ps_set (i := 4) scRes.nd rfl (.inl rfl) (pe_prop (pv 0) O.cl L2.pr L2.fn hr2 L2.bn .nil pass0 (by rfl)))
      (pss_cons (ps_for PassesOwn.never rfl (pi_list (pe_prop (pv 0) O.cl L1.pr L1.fn hr2 L1.bn .nil pass0 (by rfl))) (pg_name (i := 5) scRes.nd rfl (.inl rfl))
        (pss_one (ps_dput hu (pv 3) (pe_dget hu (pv 4) (pv 5) (fun _ _ => rfl)) (pe_op op_sub (pe_dget hu (pv 3) (pe_dget hu (pv 4) (pv 5) (fun _ _ => rfl)) (fun _ _ => rfl)) (pe_dget hu (pv 2) (pv 5) (fun _ _ => rfl))) rfl)))
      (pss_one (ps_ret (pv 3))))), ?_⟩
    obtain ⟨pls, epl⟩ : ∃ l, l = (("" : Str) :: ts.map Prod.fst) := ⟨_, rfl⟩
    have ndp : pls.Nodup := by rw [epl]; exact List.nodup_cons.mpr ⟨o.root, o.nd⟩
    have lpl : pls.length = ts.length + 1 := by rw [epl, List.length_cons, List.length_map]
    rw [← epl] at k
    refine ⟨_, rfl, x, ts, rfl, fa, few, fun p0 H0 s0 n0 a0 => ⟨p0, rfl, ⟨_, SqL.of a0⟩, fun D nD => ?_⟩⟩
    rw [← epl] at a0
    refine dc_it walk_list (fun i H' => Same H0 H' ∧ H' D = some (.dK (tblI (pls.take i) (resid [] n (szOf kvs))))) ⟨same_new nD, upd_same⟩ (fun i H' _ z => SqL.of (z.1 _ _ a0)) ?_ ?_
    · intro i y Ha Hb hi ⟨q1, q2⟩ ⟨eb, ex⟩
      subst eb
      obtain ⟨a, ha, rfl⟩ := map_of ex
      have ma : a ∈ pls := List.mem_of_getElem? ha
      have fresh : a ∉ pls.take i := fun hm => by
        obtain ⟨j, hj⟩ := List.mem_iff_getElem?.mp hm
        have jl := (List.getElem?_eq_some_iff.mp hj).1
        rw [List.length_take] at jl
        rw [List.getElem?_take, if_pos (by omega)] at hj
        have := (List.getElem?_inj (by omega) ndp).mp (hj.trans ha.symm)
        omega
      have fin : ∀ z, z = resid [] n (szOf kvs) a → ∃ kvs1 k1, V.str a = kV k1 ∧ Hb D = some (.dK kvs1) ∧ kvs1.length < sizeLine ∧ (Same H0 (upd Hb D (.dK (putK kvs1 k1 (.int z)))) ∧ (upd Hb D (.dK (putK kvs1 k1 (.int z)))) D = some (.dK (tblI (pls.take (i + 1)) (resid [] n (szOf kvs))))) := fun z ez =>
        ⟨_, Sum.inr a, rfl, q2, by rw [tblI_len, List.length_take]; omega, Same.put q1 nD, by rw [upd_same, tblI_snoc fresh ez, take_more ha]⟩
      refine ⟨rfl, ?_⟩
      refine ⟨_, rfl, ?_⟩
      refine ⟨_, rfl, CF, mc, _, ur, rfl, Z.rd, cr, rfl, _, rfl, ?_⟩
      by_cases e : a = ""
      · rw [decide_eq_true (show V.str a = V.str "" by rw [e])]
        refine iteT ⟨_, rfl, fin n ?_⟩
        rw [e]
        show n = n - 0
        omega
      · rw [decide_eq_false (show ¬ V.str a = V.str "" from fun z => e (V.str.inj z))]
        have mk : a ∈ ts.map Prod.fst := by
          rw [epl] at ma
          exact (List.mem_cons.mp ma).resolve_left e
        refine iteF ⟨_, rfl, _, rfl, q, .int (szOf kvs a), rfl, ?_, fin _ ?_⟩
        · have z := DGet.k (k := Sum.inr a) (q1 _ _ (s0 _ _ hq))
          rw [hv a mk] at z
          exact z
        · show szOf kvs a = (if a = "" then n else szOf kvs a) - 0
          rw [if_neg e]
          omega
    · intro H1 ⟨q1, q2⟩
      have lp2 : (pls.map V.str).length = pls.length := List.length_map _
      rw [lp2, List.take_length] at q2
      have s1 : Same H H1 := s0.trans q1
      have nD0 : H D = none := s0.free nD
      obtain ⟨dx, dq, hx, hd⟩ := id fa
      refine ⟨_, rfl, x, dx, _, rfl, s1 _ _ hx, x, ts, rfl, fa.mono s1, fun pp npp => ?_⟩
      have pD : D ≠ pp := ne_of_none q2 npp
      obtain ⟨H2, e2⟩ : ∃ X, X = upd H1 pp (.dK (prs ts)) := ⟨_, rfl⟩
      have s12 : Same H1 H2 := e2 ▸ same_new npp
      have a2 : H2 pp = some (.dK (prs ts)) := by rw [e2]; exact upd_same
      rw [← e2]
      have s2 := s1.trans s12
      refine ⟨_, rfl, x, dx, _, rfl, s2 _ _ hx, x, ts, rfl, fa.mono s2, fun pf npf => ⟨pf, rfl, ⟨_, SqL.of upd_same⟩, ?_⟩⟩
      obtain ⟨H3, e3⟩ : ∃ X, X = upd H2 pf (.lst ((ts.map Prod.fst).map V.str)) := ⟨_, rfl⟩
      have s23 : Same H2 H3 := e3 ▸ same_new npf
      have a3 : H3 pf = some (.lst ((ts.map Prod.fst).map V.str)) := by rw [e3]; exact upd_same
      rw [← e3]
      have s3 := s2.trans s23
      have pfD : pf ≠ D := fun z => by rw [z, s23 _ _ (s12 _ _ q2)] at a3; cases a3
      refine for_it walk_list (fun j σ' H' => (∃ u5, σ' = [some (.ref x), some (.int n), some (.ref q), some (.ref D), some (.ref pp), u5, none]) ∧ Same H H' ∧ H' pp = some (.dK (prs ts)) ∧ H' pf = some (.lst ((ts.map Prod.fst).map V.str)) ∧ H' D = some (.dK (tblI pls (resid (ts.take j) n (szOf kvs)))))
        ⟨⟨none, rfl⟩, s3, s23 _ _ a2, a3, s23 _ _ (s12 _ _ q2)⟩ (fun j σ' H' _ z => SqL.of z.2.2.2.1) ?_ ?_
      · intro j y σ' Ha Hb hj ⟨⟨u5, e⟩, sa, app, apf, aD⟩ ⟨eb, ex⟩
        subst e
        subst eb
        obtain ⟨a, ha, rfl⟩ := map_of ex
        obtain ⟨⟨a', pa⟩, hp, rfl⟩ := Option.map_eq_some_iff.mp (show (ts[j]?).map Prod.fst = some a by rw [← List.getElem?_map]; exact ha)
        have mp := List.mem_of_getElem? hp
        have mk : a' ∈ ts.map Prod.fst := List.mem_map.mpr ⟨_, mp, rfl⟩
        have ep := par_of o.nd mp
        obtain ⟨rk, r⟩ := o.up
        have mpa : pa ∈ pls := by
          rw [epl]
          exact List.mem_cons.mpr ((r _ mp).2.imp id And.left)
        have dg : DGet Hb pp (.str a') (some (.str pa)) := by
          have z := DGet.k (k := Sum.inr a') app
          rw [val_prs, ep] at z
          exact z
        refine ⟨_, rfl, _, rfl, _, rfl, pp, _, rfl, dg, D, .int (resid (ts.take j) n (szOf kvs) pa), rfl, ?_, ?_⟩
        · have z := DGet.k (k := Sum.inr pa) aD
          rw [tblI_val mpa] at z
          exact z
        · refine ⟨_, rfl, _, rfl, q, .int (szOf kvs a'), rfl, ?_, _, _, rfl, rfl, ?_⟩
          · have z := DGet.k (k := Sum.inr a') (sa _ _ hq)
            rw [hv a' mk] at z
            exact z
          · refine ⟨_, rfl, _, rfl, _, rfl, pp, _, rfl, dg, D, _, rfl, DPut.k (k := Sum.inr pa) aD (by rw [tblI_len]; omega), ?_⟩
            refine ⟨⟨_, rfl⟩, fun b u e => ?_, ?_, ?_, ?_⟩
            · rw [upd_ne (ne_of_none e nD0)]
              exact sa b u e
            · rw [upd_ne pD.symm]
              exact app
            · rw [upd_ne pfD]
              exact apf
            · rw [upd_same, tblI_put mpa]
              congr 2
              refine tblI_congr fun b _ => ?_
              rw [take_more hp, resid_snoc]
              by_cases e : b = pa
              · rw [if_pos e, if_pos e.symm, e]
              · rw [if_neg e, if_neg fun z => e z.symm]
      · intro σ' H4 ⟨⟨u5, e⟩, sa, app, apf, aD⟩
        subst e
        rw [List.length_map, List.length_map, List.take_length] at aD
        exact ⟨_, rfl, k D H4 sa nD0 aD⟩
end
end FT


namespace FT
open PySem L2 TL ClX
theorem valV_mem {kvs : List (Key × V)} {k : Key} {v : V} (h : valV kvs k = some v) : (k, v) ∈ kvs := by
  unfold valV at h
  obtain ⟨p, hp, e⟩ := Option.map_eq_some_iff.mp h
  have m := List.mem_of_find?_eq_some hp
  have q : p.1 = k := of_decide_eq_true (List.find?_some (p := fun kv : Key × V => decide (kv.1 = k)) hp)
  obtain ⟨k', v'⟩ := p
  cases e
  cases (show k' = k from q)
  exact m
theorem feas_some (ts : List (Str × Str)) (n : Int) (kvs : List (Key × V)) : feas ts n (some kvs) = if kvs.length ≠ ts.length then some .non else if (ts.map Prod.fst).all (fun a => (valV kvs (Sum.inr a)).isSome) = false then some .non else
    match (ts.map Prod.fst).find? (badKey kvs) with
    | some a => some (.str a)
    | none => ((("" : Str) :: ts.map Prod.fst).find? fun p => decide (resid ts n (szOf kvs) p < 0)).map V.str := rfl
theorem find_at {α : Type} {p : α → Bool} : ∀ {l : List α} {j : Nat} {a : α}, l[j]? = some a → (l.take j).find? p = none → p a = true → l.find? p = some a
  | [], j, a, h, _, _ => by simp at h
  | x :: l, 0, a, h, _, hp => by
    have e : x = a := Option.some.inj h
    subst e
    rw [List.find?_cons, hp]
  | x :: l, j + 1, a, h, hn, hp => by
    have hn' : (x :: l.take j).find? p = none := hn
    rw [List.find?_cons] at hn' ⊢
    cases e : p x with
    | true =>
      rw [e] at hn'
      cases hn'
    | false =>
      rw [e] at hn'
      exact find_at h hn' hp
theorem find_more {α : Type} {p : α → Bool} {l : List α} {j : Nat} {a : α} (h : l[j]? = some a) (hn : (l.take j).find? p = none) (hp : p a = false) : (l.take (j + 1)).find? p = none := by
  rw [take_more h, List.find?_append, hn]
  show [a].find? p = none
  rw [List.find?_cons, hp] <;> rfl
theorem len_int {a b : Nat} : decide (V.int (a : Int) = V.int (b : Int)) = decide (a = b) := by
  rw [Bool.eq_iff_iff, decide_eq_true_eq, decide_eq_true_eq]
  constructor
  · intro h
    have := V.int.inj h
    omega
  · intro h
    rw [h]
end FT


namespace FT
open PySem L2 TL ClX
section
variable {P : Program} {w : World} {K : PySem.W.Frag} {mg : Str → Option Value} {base : Heap}
abbrev NFe : List Str := ["forest", "users", "sizes", "name", "left", "place"]
theorem scFe : FnScope NFe ["forest", "users", "sizes"] (defScope s_need_feasible) := ⟨rfl, rfl, rfl, by decide +kernel, rfl, by decide +kernel, by decide +kernel⟩
theorem ok_feas {f fR fI CF CS IS p1 g1 : Addr} {fd fdR fdI dS fd1 : FuncData} (F : Fun K "need_feasible" "need_feasible" s_need_feasible f fd) (T : Nm mg) (O : FoC K CF) (S : Er1 P w K mg base "InvalidSizes" "place" CS IS dS)
    (R : Dn P w K mg base CX0 4 "residents_of" ["forest", "users", "sizes"] (spResid CF) fR fdR) (I : Dn P w K mg base CX0 1 "is_integer" ["value", "least"] (spIsInt K) fI fdI) (L1 : Pr1 P w K mg base CF "flags" (spFFlags CF) p1 g1 fd1) :
    FnOk P w K mg base (L2.CX P w) 5 f fd ["forest", "users", "sizes"] (spFeas K CF CS) := by
  refine F.okX scFe (fun vs H Q E h => ?_) (fun cdv A outer s H vs Q E hr h => ?_)
  · obtain ⟨x, n, sv, ts, o, rfl, _⟩ := h
    rfl
  · obtain ⟨x, n, sv, ts, so, rfl, fa, o, hz, k⟩ := h
    have hu := hu_of hr
    have hr2 : Room 2 _ := hr.mono (by decide)
    have big : 1000 ≤ sizeLine := by decide
    have few := o.few
    have flags : PE (cxOf (L2.CX P w) P w K mg base NFe "need_feasible" (defScope s_need_feasible) f cdv A outer s H E) (.Name "forest" ⟨0, 0, 0, 0⟩) (tVar 0) := pv 0
    refine ⟨_, pss_cons (ps_if (PW.pt (pw_or (pt_not (pt_val (pe_callB call_isi (by rfl) T.isi (by decide +kernel) (pa_cons (pv 2) (pa_cons (pe_bltn (v := .ty "dict") (u := .type "dict") (by rfl) T.dct (by decide +kernel) rfl) pa_nil)))))
        (pw_or1 (pt_cmpR op_ne (pe_callB call_lenD (by rfl) T.len PySem.boot_len (pa_cons (pv 2) pa_nil)) (pe_callB call_len_seq (by rfl) T.len PySem.boot_len (pa_cons (pe_prop (pv 0) O.cl L1.pr L1.fn hr2 L1.bn .nil pass0 (by rfl)) pa_nil)) (nomark _)))))
        (pss_one (ps_err1 S rfl (takes_of rfl rfl rfl rfl) hr2 rfl pe_non)) pss_nil)
      (pss_cons (ps_if (pt_not (pt_val (pe_callB (cr_all rfl) (by rfl) T.all (by decide +kernel) (pa_cons (pe_lc (own := [("name", 3)]) (g := gName 3) (tt := tYes) rfl scFe.nd (pi_list (pe_prop (pv 0) O.cl L1.pr L1.fn hr2 L1.bn .nil pass0 (by rfl)))
          (blkOk_by (N := NFe) (sc := defScope s_need_feasible) (by decide +kernel))
          (fun _ _ _ _ _ => pg_name (i := 3) scFe.nd rfl (Or.inl rfl)) (fun _ _ _ _ _ => pts_nil) (fun _ _ _ _ _ => pe_cmp (pc_din hu (pv 3) (pv 2)) rfl)) pa_nil))))
        (pss_one (ps_err1 S rfl (takes_of rfl rfl rfl rfl) hr2 rfl pe_non)) pss_nil)
      (pss_cons (ps_for (passes_of rfl) rfl (pi_list (pe_prop (pv 0) O.cl L1.pr L1.fn hr2 L1.bn .nil pass0 (by rfl))) (pg_name (i := 3) scFe.nd rfl (.inl rfl))
        (pss_one (ps_if (pt_not (pt_val (pe_call I.ok (hr.mono (by decide)) rfl I.mgn I.kp I.bn .nil pass0 (pa_cons (pe_dget hu (pv 2) (pv 3) (fun _ _ => rfl)) (pa_cons pe_int pa_nil))))) (pss_one (ps_err1 S rfl (takes_of rfl rfl rfl rfl) hr2 rfl (pv 3))) pss_nil)))
      (pss_cons (ps_set (i := 4) scFe.nd rfl (.inl rfl) (pe_call R.ok hr rfl R.mgn R.kp R.bn .nil pass0 (pa_cons (pv 0) (pa_cons (pv 1) (pa_cons (pv 2) pa_nil)))))
      (pss_one (ps_lock (ps_for (passes_of rfl) rfl (pi_keys (pv 4)) (pg_name (i := 5) scFe.nd rfl (.inl rfl))
        (pss_one (ps_if (pt_cmpR op_lt (pe_dget hu (pv 4) (pv 5) (fun _ _ => rfl)) pe_int (nomark _)) (pss_one (ps_err1 S rfl (takes_of rfl rfl rfl rfl) hr2 rfl (pv 5))) pss_nil)))))))), ?_⟩
    obtain ⟨dx, dq, hx, hd⟩ := id fa
    cases so with
    | none =>
      obtain ⟨t, d, nd⟩ := hz
      refine ⟨_, rfl, sv, _, _, _, _, rfl, .ty _, d.ty, d.dict_, _, rfl, ?_⟩
      rw [decide_eq_false nd]
      show if true = true then _ else _
      rw [if_pos rfl]
      exact iteT (out1 k Same.refl)
    | some kvs =>
      obtain ⟨q, rfl, hq, dat⟩ := hz
      refine ⟨_, rfl, .ref q, _, _, _, _, rfl, .ty _, (Dat.dct (K := K) hq).ty, (Dat.dct (K := K) hq).dict_, _, rfl, ?_⟩
      rw [decide_eq_true rfl]
      refine iteF ?_
      refine ⟨_, rfl, q, kvs, rfl, hq, ?_⟩
      refine ⟨_, rfl, x, dx, _, rfl, hx, x, ts, rfl, fa, fun pf nf => ⟨pf, _, rfl, .inl (SqL.of upd_same), rfl, _, rfl, ?_⟩⟩
      rw [List.length_map, List.length_map, len_int]
      have s1 := same_new (o := .lst ((ts.map Prod.fst).map V.str)) nf
      obtain ⟨H1, e1⟩ : ∃ X, X = upd H pf (.lst ((ts.map Prod.fst).map V.str)) := ⟨_, rfl⟩
      rw [← e1] at s1 ⊢
      by_cases el : kvs.length = ts.length
      · rw [decide_eq_true el]
        refine iteF ?_
        -- all there?
        refine ⟨_, rfl, x, dx, _, rfl, s1 _ _ hx, x, ts, rfl, fa.mono s1, fun pg ng => ⟨pg, rfl, ⟨_, SqL.of upd_same⟩, fun D nD => ?_⟩⟩
        obtain ⟨H2, e2⟩ : ∃ X, X = upd H1 pg (.lst ((ts.map Prod.fst).map V.str)) := ⟨_, rfl⟩
        have s12 : Same H1 H2 := e2 ▸ same_new ng
        have a2 : H2 pg = some (.lst ((ts.map Prod.fst).map V.str)) := by rw [e2]; exact upd_same
        have s2 := s1.trans s12
        rw [← e2] at nD ⊢
        refine lc_it walk_list (fun i H' => Same H2 H' ∧ H' D = some (.lst ((((ts.map Prod.fst).take i).map fun a => (valV kvs (Sum.inr a)).isSome).map V.bl))) ⟨same_new nD, upd_same⟩ (fun i H' _ z => SqL.of (z.1 _ _ a2)) ?_ ?_
        · intro i y Ha Hb hi ⟨q1, q2⟩ ⟨eb, ex⟩
          subst eb
          obtain ⟨a, ha, rfl⟩ := map_of ex
          refine ⟨rfl, ?_⟩
          refine ⟨_, rfl, _, rfl, q, _, rfl, DGet.k (k := Sum.inr a) (q1 _ _ (s2 _ _ hq)), _, q2, ?_, Same.put q1 nD, ?_⟩
          · rw [List.length_map, List.length_map, List.length_take, List.length_map]
            omega
          · rw [upd_same, take_more ha, List.map_append, List.map_append] <;> rfl
        · intro H3 ⟨q1, q2⟩
          have s3 := s2.trans q1
          rw [List.length_map, List.take_length] at q2
          refine ⟨D, _, rfl, SqL.of q2, _, rfl, ?_⟩
          have eall : (((ts.map Prod.fst).map fun a => (valV kvs (Sum.inr a)).isSome)).all id = (ts.map Prod.fst).all fun a => (valV kvs (Sum.inr a)).isSome := by rw [List.all_map] <;> rfl
          rw [eall]
          cases ea : (ts.map Prod.fst).all fun a => (valV kvs (Sum.inr a)).isSome with
          | false =>
            refine iteT (out1 (H := H) ?_ s3)
            have e : feE CS ts n (some kvs) = some (.e1 CS "place" .non) := by
              unfold feE
              rw [feas_some, if_neg (fun z => z el), if_pos ea] <;> rfl
            rw [e] at k
            exact k
          | true =>
            refine iteF ?_
            have there : ∀ a ∈ ts.map Prod.fst, ∃ v, valV kvs (Sum.inr a) = some v := fun a ha => Option.isSome_iff_exists.mp (List.all_eq_true.mp ea a ha)
            -- one by one
            refine ⟨_, rfl, x, dx, _, rfl, s3 _ _ hx, x, ts, rfl, fa.mono s3, fun ph nh => ⟨ph, rfl, ⟨_, SqL.of upd_same⟩, ?_⟩⟩
            obtain ⟨H4, e4⟩ : ∃ X, X = upd H3 ph (.lst ((ts.map Prod.fst).map V.str)) := ⟨_, rfl⟩
            have s4 : Same H H4 := s3.trans (e4 ▸ same_new nh)
            have a4 : H4 ph = some (.lst ((ts.map Prod.fst).map V.str)) := by rw [e4]; exact upd_same
            rw [← e4]
            refine for_it walk_list (fun j σ' H' => (∃ u3, σ' = [some (.ref x), some (.int n), some (.ref q), u3, none, none]) ∧ Same H4 H' ∧ ((ts.map Prod.fst).take j).find? (badKey kvs) = none)
              ⟨⟨none, rfl⟩, Same.refl, rfl⟩ (fun j σ' H' _ z => SqL.of (z.2.1 _ _ a4)) ?_ ?_
            · intro j y σ' Ha Hb hj ⟨⟨u3, e⟩, sa, good⟩ ⟨eb, ex⟩
              subst e
              subst eb
              obtain ⟨a, ha, rfl⟩ := map_of ex
              obtain ⟨v, hv⟩ := there a (List.mem_of_getElem? ha)
              have s0 := s4.trans sa
              refine ⟨_, rfl, _, rfl, q, v, rfl, by have z := DGet.k (k := Sum.inr a) (s0 _ _ hq); rw [hv] at z; exact z, v, 0, rfl, (dat _ (valV_mem hv)).mono s0, _, rfl, ?_⟩
              cases eg : isGe v 0 with
              | true => exact iteF ⟨⟨_, rfl⟩, sa, find_more ha good (by unfold badKey; rw [hv]; show (!isGe v 0) = false; rw [eg] <;> rfl)⟩
              | false =>
                refine iteT ⟨_, rfl, out1 (H := H) ?_ s0⟩
                have e : feE CS ts n (some kvs) = some (.e1 CS "place" (.str a)) := by
                  unfold feE
                  rw [feas_some, if_neg (fun z => z el), if_neg (by rw [ea]; decide), find_at ha good (by unfold badKey; rw [hv]; show (!isGe v 0) = true; rw [eg] <;> rfl)] <;> rfl
                rw [e] at k
                exact k
            · intro σ' H5 ⟨⟨u3, e⟩, sa, good⟩
              subst e
              rw [List.length_map, List.take_length] at good
              have s5 := s4.trans sa
              have nums : ∀ a ∈ ts.map Prod.fst, valV kvs (Sum.inr a) = some (.int (szOf kvs a)) := fun a ha => by
                obtain ⟨v, hv⟩ := there a ha
                have g := List.find?_eq_none.mp good a ha
                unfold badKey at g
                rw [hv] at g
                unfold szOf
                rw [hv]
                cases v with
                | int i => rfl
                | _ => exact absurd rfl g
              refine ⟨_, rfl, _, rfl, _, rfl, x, q, n, ts, kvs, rfl, fa.mono s5, o, s5 _ _ hq, nums, fun F H6 s56 nF aF => ?_⟩
              have s6 := s5.trans s56
              have nF0 := s5.free nF
              refine ⟨F, _, aF, trivial, fun od => ⟨_, rfl, F, od, rfl, .inl ⟨_, upd_same, ?_⟩⟩⟩
              obtain ⟨pls, epl⟩ : ∃ l, l = (("" : Str) :: ts.map Prod.fst) := ⟨_, rfl⟩
              rw [← epl] at aF ⊢
              have ek : feE CS ts n (some kvs) = ((pls.find? fun p => decide (resid ts n (szOf kvs) p < 0)).map V.str).map fun v => .e1 CS "place" v := by
                unfold feE
                rw [feas_some, if_neg (fun z => z el), if_neg (by rw [ea]; decide), good, epl]
              rw [ek] at k
              refine for_it walk_keys (fun j σ' H' => (∃ u5, σ' = [some (.ref x), some (.int n), some (.ref q), u3, some (.ref F), u5]) ∧ Same H H' ∧ H' F = some (.frz od (.dK (tblI pls (resid ts n (szOf kvs))))) ∧ (pls.take j).find? (fun p => decide (resid ts n (szOf kvs) p < 0)) = none)
                ⟨⟨none, rfl⟩, Same.put s6 nF0, upd_same, rfl⟩ (fun j σ' H' _ z => z.2.2.1) ?_ ?_
              · intro j y σ' Ha Hb hj ⟨⟨u5, e⟩, sa, aF', good'⟩ ⟨eb, kk, vv, hk, ey⟩
                subst e
                subst eb
                subst ey
                obtain ⟨a, ha, rfl, rfl⟩ := tblI_at hk
                refine ⟨_, rfl, _, rfl, F, .int (resid ts n (szOf kvs) a), rfl, .inl ⟨_, Sum.inr a, .inr ⟨od, aF'⟩, rfl, (tblI_val (List.mem_of_getElem? ha)).symm⟩, _, _, rfl, rfl, _, rfl, ?_⟩
                by_cases neg : resid ts n (szOf kvs) a < 0
                · rw [decide_eq_true neg]
                  refine iteT ⟨_, rfl, out1 (H := H) ?_ sa⟩
                  rw [find_at ha good' (decide_eq_true neg)] at k
                  exact k
                · rw [decide_eq_false neg]
                  exact iteF ⟨⟨_, rfl⟩, sa, aF', find_more ha good' (decide_eq_false neg)⟩
              · intro σ' H7 ⟨⟨u5, e⟩, sa, aF', good'⟩
                rw [tblI_len, List.take_length] at good'
                rw [good'] at k
                exact ⟨aF', k _ (Same.put sa nF0)⟩
      · rw [decide_eq_false el]
        show if true = true then _ else _
        rw [if_pos rfl]
        refine out1 (H := H) ?_ s1
        have e : feE CS ts n (some kvs) = some (.e1 CS "place" .non) := by
          unfold feE
          rw [feas_some, if_pos el] <;> rfl
        rw [e] at k
        exact k
end
end FT


namespace FT
open PySem L2 TL ClX
theorem feE_none {CS : Addr} {ts : List (Str × Str)} {n : Int} : feE CS ts n none ≠ none := fun h => nomatch h
theorem feE_ok {CS : Addr} {ts : List (Str × Str)} {n : Int} {kvs : List (Key × V)} (h : feE CS ts n (some kvs) = none) : kvs.length = ts.length ∧ (∀ a ∈ ts.map Prod.fst, valV kvs (Sum.inr a) = some (.int (szOf kvs a)) ∧ 0 ≤ szOf kvs a) ∧ ∀ p ∈ (("" : Str) :: ts.map Prod.fst), 0 ≤ resid ts n (szOf kvs) p := by
  unfold feE at h
  rw [feas_some] at h
  by_cases el : kvs.length = ts.length
  · rw [if_neg (fun z => z el)] at h
    cases ea : (ts.map Prod.fst).all fun a => (valV kvs (Sum.inr a)).isSome with
    | false =>
      rw [if_pos ea] at h
      cases h
    | true =>
      rw [if_neg (by rw [ea]; decide)] at h
      cases eb : (ts.map Prod.fst).find? (badKey kvs) with
      | some a =>
        rw [eb] at h
        cases h
      | none =>
        rw [eb] at h
        refine ⟨el, fun a ha => ?_, fun p hp => ?_⟩
        · obtain ⟨v, hv⟩ := Option.isSome_iff_exists.mp (List.all_eq_true.mp ea a ha)
          have g := List.find?_eq_none.mp eb a ha
          unfold badKey at g
          rw [hv] at g
          unfold szOf
          rw [hv]
          cases v with
          | int i =>
            refine ⟨rfl, ?_⟩
            show 0 ≤ i
            have g' : ¬ (!decide ((0 : Int) ≤ i)) = true := g
            by_cases z : (0 : Int) ≤ i
            · exact z
            · rw [decide_eq_false z] at g'
              exact absurd rfl g'
          | _ => exact absurd rfl g
        · cases ef : ((("" : Str) :: ts.map Prod.fst).find? fun p => decide (resid ts n (szOf kvs) p < 0)) with
          | some p =>
            rw [ef] at h
            cases h
          | none =>
            have z := List.find?_eq_none.mp ef p hp
            have z' : ¬ resid ts n (szOf kvs) p < 0 := fun q => z (decide_eq_true q)
            omega
  · rw [if_pos el] at h
    cases h
def kvsOf (o : Option (List (Key × V))) : List (Key × V) := o.getD []
def numV (v : V) : Int := match v with
  | .int n => n
  | _ => 0
/-- what amounts raises -/
def amE (CU CS : Addr) (ts : List (Str × Str)) (uv : V) (o1 o2 : Option (List (Key × V))) : Option Err := (szE CU CS ts uv o1).or (feE CS ts (numV uv) o2)
def amt (o1 o2 : Option (List (Key × V))) (a : Str) : Int := szOf (kvsOf o2) a - szOf (kvsOf o1) a
theorem szE_feE {CU CS : Addr} {ts : List (Str × Str)} {uv : V} {o : Option (List (Key × V))} (h : szE CU CS ts uv o = none) : ∃ n, uv = .int n ∧ 1 ≤ n ∧ n ≤ 10 ^ 30 ∧ feE CS ts n o = none := by
  unfold szE at h
  by_cases u : usersOk uv (10 ^ 30) = true
  · rw [if_pos u] at h
    cases uv with
    | int n =>
      have u' : (decide (1 ≤ n) && decide (n ≤ 10 ^ 30)) = true := u
      rw [Bool.and_eq_true, decide_eq_true_eq, decide_eq_true_eq] at u'
      exact ⟨n, rfl, u'.1, u'.2, h⟩
    | _ => cases u
  · rw [if_neg u] at h
    cases h
def absI (z : Int) : Int := if z < 0 then -z else z
def spAmtOf (CF : Addr) : Sp := fun vs H Q _ => ∃ (x q1 q2 : Addr) (ts : List (Str × Str)) (k1 k2 : List (Key × V)), vs = [.ref x, .ref q1, .ref q2] ∧ FAt CF H x ts ∧ TreeOk ts ∧ H q1 = some (.dK k1) ∧ H q2 = some (.dK k2) ∧
  (∀ a ∈ ts.map Prod.fst, valV k1 (Sum.inr a) = some (.int (szOf k1 a))) ∧ (∀ a ∈ ts.map Prod.fst, valV k2 (Sum.inr a) = some (.int (szOf k2 a))) ∧
  ∀ p H', Same H H' → H p = none → H' p = some (.dK (tblI (ts.map Prod.fst) fun a => szOf k2 a - szOf k1 a)) → Q (.ref p) H'
def spAmounts (K : PySem.W.Frag) (CF CU CS : Addr) : Sp := fun vs H Q E => ∃ (x : Addr) (uv sv nv : V) (ts : List (Str × Str)) (o1 o2 : Option (List (Key × V))), vs = [.ref x, uv, sv, nv] ∧ FAt CF H x ts ∧ TreeOk ts ∧ IsDat K H uv ∧ SzV K H sv o1 ∧ SzV K H nv o2 ∧
  match amE CU CS ts uv o1 o2 with
  | none => ∀ p H', Same H H' → H p = none → H' p = some (.dK (tblI (ts.map Prod.fst) (amt o1 o2))) → Q (.ref p) H'
  | some e => Out H E e
def spLeast (K : PySem.W.Frag) (CF CU CS : Addr) : Sp := fun vs H Q E => ∃ (x : Addr) (uv sv nv : V) (ts : List (Str × Str)) (o1 o2 : Option (List (Key × V))), vs = [.ref x, uv, sv, nv] ∧ FAt CF H x ts ∧ TreeOk ts ∧ IsDat K H uv ∧ SzV K H sv o1 ∧ SzV K H nv o2 ∧
  match amE CU CS ts uv o1 o2 with
  | none => ∀ H', Same H H' → Q (.int ((ts.map Prod.fst).map fun a => absI (amt o1 o2 a)).sum) H'
  | some e => Out H E e
end FT


namespace FT
open PySem L2 TL ClX
section
variable {P : Program} {w : World} {K : PySem.W.Frag} {mg : Str → Option Value} {base : Heap}
theorem scAmtOf : FnScope ["forest", "sizes", "new", "name"] ["forest", "sizes", "new"] (defScope s_amounts_of) := ⟨rfl, rfl, rfl, by decide +kernel, rfl, by decide +kernel, by decide +kernel⟩
theorem ok_amtOf {f CF p1 g1 : Addr} {fd fd1 : FuncData} (F : Fun K "amounts_of" "amounts_of" s_amounts_of f fd) (O : FoC K CF) (L1 : Pr1 P w K mg base CF "flags" (spFFlags CF) p1 g1 fd1) :
    FnOk P w K mg base CX0 3 f fd ["forest", "sizes", "new"] (spAmtOf CF) := by
  refine F.ok scAmtOf (fun vs H Q E h => ?_) (fun cdv A outer s H vs Q E hr h => ?_)
  · obtain ⟨x, q1, q2, ts, k1, k2, rfl, _⟩ := h
    rfl
  · obtain ⟨x, q1, q2, ts, k1, k2, rfl, fa, o, h1, h2, n1, n2, k⟩ := h
    have hu := hu_of hr
    have big : 1000 ≤ sizeLine := by decide
    have few := o.few
    refine ⟨_, pss_one (ps_ret (pe_dc (own := [("name", 3)]) (g := gName 3) (tt := tYes) rfl scAmtOf.nd (pi_list (pe_prop (pv 0) O.cl L1.pr L1.fn hr L1.bn .nil pass0 (by rfl)))
        (blkOk_by (N := ["forest", "sizes", "new", "name"]) (sc := defScope s_amounts_of) (by decide +kernel))
        (fun _ _ _ _ _ => pg_name (i := 3) scAmtOf.nd rfl (Or.inl rfl)) (fun _ _ _ _ _ => pts_nil) (fun _ _ _ _ _ => pv 3)
        (fun _ _ _ _ _ => pe_op op_sub (pe_dget hu (pv 2) (pv 3) (fun _ _ => rfl)) (pe_dget hu (pv 1) (pv 3) (fun _ _ => rfl))))), ?_⟩
    obtain ⟨dx, dq, hx, hd⟩ := id fa
    refine ⟨_, rfl, x, dx, _, rfl, hx, x, ts, rfl, fa, fun pf nf => ⟨pf, rfl, ⟨_, SqL.of upd_same⟩, fun D nD => ?_⟩⟩
    obtain ⟨H1, e1⟩ : ∃ X, X = upd H pf (.lst ((ts.map Prod.fst).map V.str)) := ⟨_, rfl⟩
    have s1 : Same H H1 := e1 ▸ same_new nf
    have a1 : H1 pf = some (.lst ((ts.map Prod.fst).map V.str)) := by rw [e1]; exact upd_same
    rw [← e1] at nD ⊢
    refine dc_it walk_list (fun i H' => Same H1 H' ∧ H' D = some (.dK (tblI ((ts.map Prod.fst).take i) fun a => szOf k2 a - szOf k1 a))) ⟨same_new nD, upd_same⟩ (fun i H' _ z => SqL.of (z.1 _ _ a1)) ?_ ?_
    · intro i y Ha Hb hi ⟨z1, z2⟩ ⟨eb, ex⟩
      subst eb
      obtain ⟨a, ha, rfl⟩ := map_of ex
      have ma := List.mem_of_getElem? ha
      have fresh : a ∉ (ts.map Prod.fst).take i := fun hm => by
        obtain ⟨j, hj⟩ := List.mem_iff_getElem?.mp hm
        have jl := (List.getElem?_eq_some_iff.mp hj).1
        rw [List.length_take] at jl
        rw [List.getElem?_take, if_pos (by omega)] at hj
        have := (List.getElem?_inj (by omega) o.nd).mp (hj.trans ha.symm)
        omega
      refine ⟨rfl, ?_⟩
      refine ⟨_, rfl, _, rfl, _, rfl, q2, .int (szOf k2 a), rfl, ?_, _, rfl, _, rfl, q1, .int (szOf k1 a), rfl, ?_, _, _, rfl, rfl, _, Sum.inr a, rfl, z2, ?_, Same.put z1 nD, ?_⟩
      · have z := DGet.k (k := Sum.inr a) (z1 _ _ (s1 _ _ h2))
        rw [n2 a ma] at z
        exact z
      · have z := DGet.k (k := Sum.inr a) (z1 _ _ (s1 _ _ h1))
        rw [n1 a ma] at z
        exact z
      · rw [tblI_len, List.length_take, List.length_map]
        omega
      · rw [upd_same, tblI_snoc fresh rfl, take_more ha]
    · intro H3 ⟨z1, z2⟩
      rw [List.length_map, List.take_length] at z2
      exact k D H3 (s1.trans z1) (s1.free nD) z2
end
end FT


namespace FT
open PySem L2 TL ClX LiI
/-! ### crossings -/
def crs (g : Str → Int) (ts : List (Str × Str)) : List (Str × Str × Int) := ts.flatMap fun p => if 0 < g p.1 then [(p.2, p.1, g p.1)] else if g p.1 < 0 then [(p.1, p.2, - g p.1)] else []
def EdG (H : Hp) (rs : List Addr) (es : List (Str × Str × Int)) : Prop := Paired (fun (r : Addr) (e : Str × Str × Int) => H r = some (.tup [.str e.1, .str e.2.1, .int e.2.2])) rs es
theorem EdG.mono {H H' : Hp} (s : Same H H') : ∀ {rs : List Addr} {es : List (Str × Str × Int)}, EdG H rs es → EdG H' rs es
  | _, _, .nil => .nil
  | _, _, .cons h t => .cons (s _ _ h) (EdG.mono s t)
theorem EdG.push {H : Hp} {D : Addr} {xs : List V} {o : HO} (e : H D = some (.lst xs)) : ∀ {rs : List Addr} {es : List (Str × Str × Int)}, EdG H rs es → EdG (upd H D o) rs es
  | _, _, .nil => .nil
  | _, _, .cons h t => .cons (by rw [upd_ne (ne_of h e (by intro z; cases z))]; exact h) (EdG.push e t)
theorem EdG.snoc {H : Hp} {r : Addr} {e : Str × Str × Int} (h : H r = some (.tup [.str e.1, .str e.2.1, .int e.2.2])) : ∀ {rs : List Addr} {es : List (Str × Str × Int)}, EdG H rs es → EdG H (rs ++ [r]) (es ++ [e])
  | _, _, .nil => .cons h .nil
  | _, _, .cons q t => .cons q (EdG.snoc h t)
theorem EdG.len {H : Hp} : ∀ {rs : List Addr} {es : List (Str × Str × Int)}, EdG H rs es → rs.length = es.length
  | _, _, .nil => rfl
  | _, _, .cons _ t => congrArg (· + 1) (EdG.len t)
theorem EdG.at_ {H : Hp} {rs : List Addr} {es : List (Str × Str × Int)} (p : EdG H rs es) {i : Nat} {r : Addr} (h : rs[i]? = some r) : ∃ e, es[i]? = some e ∧ H r = some (.tup [.str e.1, .str e.2.1, .int e.2.2]) := LiI.paired_get p h
theorem crs_snoc (g : Str → Int) (ts : List (Str × Str)) (p : Str × Str) : crs g (ts ++ [p]) = crs g ts ++ (if 0 < g p.1 then [(p.2, p.1, g p.1)] else if g p.1 < 0 then [(p.1, p.2, - g p.1)] else []) := by
  unfold crs
  rw [List.flatMap_append, List.flatMap_cons, List.flatMap_nil, List.append_nil]
theorem crs_len (g : Str → Int) : ∀ ts : List (Str × Str), (crs g ts).length ≤ ts.length
  | [] => Nat.le_refl _
  | p :: ts => by
    unfold crs
    rw [List.flatMap_cons, List.length_append, List.length_cons]
    have i := crs_len g ts
    unfold crs at i
    have : (if 0 < g p.1 then [(p.2, p.1, g p.1)] else if g p.1 < 0 then [(p.1, p.2, - g p.1)] else []).length ≤ 1 := by
      split
      · exact Nat.le_refl _
      · split
        · exact Nat.le_refl _
        · exact Nat.zero_le _
    omega
def spCross (CF : Addr) : Sp := fun vs H Q _ => ∃ (x q : Addr) (ts : List (Str × Str)) (g : Str → Int), vs = [.ref x, .ref q] ∧ FAt CF H x ts ∧ TreeOk ts ∧ H q = some (.dK (tblI (ts.map Prod.fst) g)) ∧
  ∀ p rs H', Same H H' → H p = none → H' p = some (.lst (rs.map V.ref)) → EdG H' rs (crs g ts) → Q (.ref p) H'
end FT


namespace FT
open PySem L2 TL ClX LiI
section
variable {P : Program} {w : World} {K : PySem.W.Frag} {mg : Str → Option Value} {base : Heap}
abbrev NCr : List Str := ["forest", "changed", "found", "name", "above"]
theorem scCr : FnScope NCr ["forest", "changed"] (defScope s_crossings) := ⟨rfl, rfl, rfl, by decide +kernel, rfl, by decide +kernel, by decide +kernel⟩
theorem ok_cross {f CF p1 g1 : Addr} {fd fd1 : FuncData} (F : Fun K "crossings" "crossings" s_crossings f fd) (O : FoC K CF) (L1 : Pr1 P w K mg base CF "flags" (spFFlags CF) p1 g1 fd1) : FnOk P w K mg base CX0 3 f fd ["forest", "changed"] (spCross CF) := by
  refine F.ok scCr (fun vs H Q E h => ?_) (fun cdv A outer s H vs Q E hr h => ?_)
  · obtain ⟨x, q, ts, g, rfl, _⟩ := h
    rfl
  · obtain ⟨x, q, ts, g, rfl, fa, o, hq, k⟩ := h
    have hu := hu_of hr
    have nd := scCr.nd
    have big : 1000 ≤ sizeLine := by decide
    have few := o.few
    refine ⟨_, pss_cons (ps_set (i := 2) nd rfl (.inl rfl) (pe_lst pa_nil))
      (pss_cons (ps_for PassesOwn.never rfl (pi_list (pe_prop (pv 0) O.cl L1.pr L1.fn hr L1.bn .nil pass0 (by rfl))) (pg_name (i := 3) nd rfl (.inl rfl))
        (pss_cons (ps_set (i := 4) nd rfl (.inl rfl) (pe_dget hu (pe_fld (pv 0) rfl) (pv 3) (fun _ _ => rfl)))
        (pss_cons (ps_if (pt_cmpR op_gt (pe_dget hu (pv 1) (pv 3) (fun _ _ => rfl)) pe_int (nomark _)) (pss_one (ps_expr (pe_bm PySem.F.plainAttrs_list PySem.F.slot_list_append PySem.F.type_list_append mt_append (pv 2) (pa_cons (pe_tup (pa_cons (pv 4) (pa_cons (pv 3) (pa_cons (pe_dget hu (pv 1) (pv 3) (fun _ _ => rfl)) pa_nil)))) pa_nil)))) pss_nil)
        (pss_one (ps_if (pt_cmpR op_lt (pe_dget hu (pv 1) (pv 3) (fun _ _ => rfl)) pe_int (nomark _)) (pss_one (ps_expr (pe_bm PySem.F.plainAttrs_list PySem.F.slot_list_append PySem.F.type_list_append mt_append (pv 2) (pa_cons (pe_tup (pa_cons (pv 3) (pa_cons (pv 4) (pa_cons (pe_un un_neg (pe_dget hu (pv 1) (pv 3) (fun _ _ => rfl))) pa_nil)))) pa_nil)))) pss_nil)))))
      (pss_one (ps_ret (pv 2)))), ?_⟩
    obtain ⟨dx, dq, hx, hd⟩ := id fa
    refine ⟨by show 0 ≤ sizeLine; omega, fun D nD => ?_⟩
    obtain ⟨H1, e1⟩ : ∃ X, X = upd H D (.lst []) := ⟨_, rfl⟩
    have s1 : Same H H1 := e1 ▸ same_new nD
    have a1 : H1 D = some (.lst []) := by rw [e1]; exact upd_same
    rw [← e1]
    refine ⟨_, rfl, x, dx, _, rfl, s1 _ _ hx, x, ts, rfl, fa.mono s1, fun pf npf => ⟨pf, rfl, ⟨_, SqL.of upd_same⟩, ?_⟩⟩
    obtain ⟨H2, e2⟩ : ∃ X, X = upd H1 pf (.lst ((ts.map Prod.fst).map V.str)) := ⟨_, rfl⟩
    have s12 : Same H1 H2 := e2 ▸ same_new npf
    have a2 : H2 pf = some (.lst ((ts.map Prod.fst).map V.str)) := by rw [e2]; exact upd_same
    have pfD : pf ≠ D := (ne_of_none a1 npf).symm
    rw [← e2]
    refine for_it walk_list (fun j σ' H' => (∃ u3 u4, σ' = [some (.ref x), some (.ref q), some (.ref D), u3, u4]) ∧ Same H H' ∧ H' pf = some (.lst ((ts.map Prod.fst).map V.str)) ∧ ∃ rs : List Addr, H' D = some (.lst (rs.map V.ref)) ∧ EdG H' rs (crs g (ts.take j)))
      ⟨⟨none, none, rfl⟩, s1.trans s12, a2, [], s12 _ _ a1, .nil⟩ (fun j σ' H' _ z => SqL.of z.2.2.1) ?_ ?_
    · intro j y σ' Ha Hb hj ⟨⟨u3, u4, e⟩, sa, apf, rs, hD, ed⟩ ⟨eb, ex⟩
      subst e
      subst eb
      obtain ⟨a, ha, rfl⟩ := map_of ex
      obtain ⟨⟨a', pa⟩, hp, rfl⟩ := Option.map_eq_some_iff.mp (show (ts[j]?).map Prod.fst = some a by rw [← List.getElem?_map]; exact ha)
      have mp := List.mem_of_getElem? hp
      have mk : a' ∈ ts.map Prod.fst := List.mem_map.mpr ⟨_, mp, rfl⟩
      have ep := par_of o.nd mp
      have dg : ∀ {H'}, Same H H' → DGet H' q (.str a') (some (.int (g a'))) := fun s => by
        have z := DGet.k (k := Sum.inr a') (s _ _ hq)
        rw [tblI_val mk] at z
        exact z
      have dp : DGet Hb dq (.str a') (some (.str pa)) := by
        have z := DGet.k (k := Sum.inr a') (sa _ _ hd)
        rw [val_prs, ep] at z
        exact z
      have lrs := ed.len
      have lc := crs_len g (ts.take j)
      rw [List.length_take] at lc
      have more := take_more hp
      have put : ∀ (e3 : Str × Str × Int) (tq : Addr), Hb tq = none → crs g (ts.take (j + 1)) = crs g (ts.take j) ++ [e3] → ∃ (l : Addr) (xs : List V) (y : V), V.ref D = .ref l ∧ [V.ref tq] = [y] ∧ (upd Hb tq (.tup [.str e3.1, .str e3.2.1, .int e3.2.2])) l = some (.lst xs) ∧ xs.length < sizeLine ∧
          (Same H (upd (upd Hb tq (.tup [.str e3.1, .str e3.2.1, .int e3.2.2])) l (.lst (xs ++ [y]))) ∧ (upd (upd Hb tq (.tup [.str e3.1, .str e3.2.1, .int e3.2.2])) l (.lst (xs ++ [y]))) pf = some (.lst ((ts.map Prod.fst).map V.str)) ∧
            ∃ rs : List Addr, (upd (upd Hb tq (.tup [.str e3.1, .str e3.2.1, .int e3.2.2])) l (.lst (xs ++ [y]))) D = some (.lst (rs.map V.ref)) ∧ EdG (upd (upd Hb tq (.tup [.str e3.1, .str e3.2.1, .int e3.2.2])) l (.lst (xs ++ [y]))) rs (crs g (ts.take (j + 1)))) := fun e3 tq nt ec => by
        have st : Same Hb (upd Hb tq (.tup [.str e3.1, .str e3.2.1, .int e3.2.2])) := same_new nt
        refine ⟨D, _, _, rfl, rfl, st _ _ hD, by rw [List.length_map]; omega, (sa.trans st).put nD, by rw [upd_ne pfD]; exact st _ _ apf, rs ++ [tq], by rw [upd_same, List.map_append] <;> rfl, ?_⟩
        rw [ec]
        exact EdG.push (st _ _ hD) (EdG.snoc upd_same (ed.mono st))
      refine ⟨_, rfl, x, CF, dx, _, .ref dq, rfl, sa _ _ hx, O.cl, O.nA, rfl, _, rfl, dq, .str pa, rfl, dp, ?_⟩
      refine ⟨_, rfl, _, rfl, q, .int (g a'), rfl, dg sa, _, _, rfl, rfl, _, rfl, ?_⟩
      have ecs := crs_snoc g (ts.take j) (a', pa)
      rw [← more] at ecs
      by_cases pos : 0 < g a'
      · rw [decide_eq_true pos]
        rw [if_pos pos] at ecs
        refine iteT ⟨_, rfl, .inl ⟨rfl, _, SqL.of hD⟩, _, rfl, _, rfl, _, rfl, _, rfl, q, .int (g a'), rfl, dg sa, by show 3 ≤ sizeLine; omega, fun tq nt => ?_⟩
        obtain ⟨l, xs, y, z1, z2, z3, z4, z5, z6, z7⟩ := put (pa, a', g a') tq nt ecs
        refine ⟨l, xs, y, z1, z2, z3, z4, ?_⟩
        refine ⟨_, rfl, _, rfl, q, .int (g a'), rfl, dg z5, _, _, rfl, rfl, _, rfl, ?_⟩
        rw [decide_eq_false (show ¬ g a' < 0 by omega)]
        exact iteF ⟨⟨_, _, rfl⟩, z5, z6, z7⟩
      · rw [decide_eq_false pos]
        rw [if_neg pos] at ecs
        refine iteF ⟨_, rfl, _, rfl, q, .int (g a'), rfl, dg sa, _, _, rfl, rfl, _, rfl, ?_⟩
        by_cases neg : g a' < 0
        · rw [decide_eq_true neg]
          rw [if_pos neg] at ecs
          refine iteT ⟨_, rfl, .inl ⟨rfl, _, SqL.of hD⟩, _, rfl, _, rfl, _, rfl, _, rfl, q, .int (g a'), rfl, dg sa, _, rfl, by show 3 ≤ sizeLine; omega, fun tq nt => ?_⟩
          obtain ⟨l, xs, y, z1, z2, z3, z4, z5, z6, z7⟩ := put (a', pa, - g a') tq nt ecs
          exact ⟨l, xs, y, z1, z2, z3, z4, ⟨_, _, rfl⟩, z5, z6, z7⟩
        · rw [decide_eq_false neg]
          rw [if_neg neg, List.append_nil] at ecs
          exact iteF ⟨⟨_, _, rfl⟩, sa, apf, rs, hD, by rw [ecs]; exact ed⟩
    · intro σ' H3 ⟨⟨u3, u4, e⟩, sa, apf, rs, hD, ed⟩
      subst e
      rw [List.length_map, List.length_map, List.take_length] at ed
      exact ⟨_, rfl, k D rs H3 sa nD hD ed⟩
end
end FT


/-! factorials, products: plain. -/
namespace FT
def fct : Nat → Nat
  | 0 => 1
  | n + 1 => (n + 1) * fct n
theorem fct_pos : ∀ n, 0 < fct n
  | 0 => Nat.one_pos
  | n + 1 => Nat.mul_pos (Nat.succ_pos n) (fct_pos n)
theorem fct_dvd : ∀ (s a b : Nat), a + b = s → fct a * fct b ∣ fct s
  | 0, a, b, h => by
    have ha : a = 0 := by omega
    have hb : b = 0 := by omega
    subst ha
    subst hb
    exact Nat.dvd_refl _
  | s + 1, 0, b, h => by
    have hb : b = s + 1 := by omega
    subst hb
    show 1 * fct (s + 1) ∣ _
    rw [Nat.one_mul]
    exact Nat.dvd_refl _
  | s + 1, a + 1, 0, h => by
    have ha : a + 1 = s + 1 := by omega
    rw [ha]
    show fct (s + 1) * 1 ∣ _
    rw [Nat.mul_one]
    exact Nat.dvd_refl _
  | s + 1, a + 1, b + 1, h => by
    have h1 := fct_dvd s a (b + 1) (by omega)
    have h2 := fct_dvd s (a + 1) b (by omega)
    have e : fct (s + 1) = (a + 1) * fct s + (b + 1) * fct s := by
      show (s + 1) * fct s = _
      rw [← Nat.add_mul, show a + 1 + (b + 1) = s + 1 from h]
    rw [e]
    refine Nat.dvd_add ?_ ?_
    · show (a + 1) * fct a * fct (b + 1) ∣ _
      rw [Nat.mul_assoc]
      exact Nat.mul_dvd_mul_left _ h1
    · rw [show fct (a + 1) * fct (b + 1) = (b + 1) * (fct (a + 1) * fct b) by
        show fct (a + 1) * ((b + 1) * fct b) = _
        rw [← Nat.mul_assoc, Nat.mul_comm (fct (a + 1)) (b + 1), Nat.mul_assoc]]
      exact Nat.mul_dvd_mul_left _ h2
/-- product -/
def prd : List Nat → Nat
  | [] => 1
  | x :: l => x * prd l
theorem prd_app : ∀ l m : List Nat, prd (l ++ m) = prd l * prd m
  | [], m => by
    show prd m = 1 * prd m
    rw [Nat.one_mul]
  | x :: l, m => by
    show x * prd (l ++ m) = x * prd l * prd m
    rw [prd_app l m, Nat.mul_assoc]
theorem prd_pos : ∀ {l : List Nat}, (∀ x ∈ l, 0 < x) → 0 < prd l
  | [], _ => Nat.one_pos
  | x :: l, h => Nat.mul_pos (h x (List.mem_cons_self ..)) (prd_pos fun y hy => h y (List.mem_cons_of_mem _ hy))
theorem prd_perm {l m : List Nat} (p : l.Perm m) : prd l = prd m := by
  induction p with
  | nil => rfl
  | cons x _ ih =>
    show x * prd _ = x * prd _
    rw [ih]
  | swap x y l =>
    show y * (x * prd l) = x * (y * prd l)
    rw [← Nat.mul_assoc, ← Nat.mul_assoc, Nat.mul_comm y x]
  | trans _ _ i1 i2 => exact i1.trans i2
theorem prd_mul {α : Type} (f g : α → Nat) : ∀ l : List α, prd (l.map fun x => f x * g x) = prd (l.map f) * prd (l.map g)
  | [] => rfl
  | x :: l => by
    show f x * g x * prd (l.map fun x => f x * g x) = f x * prd (l.map f) * (g x * prd (l.map g))
    rw [prd_mul f g l, Nat.mul_assoc, Nat.mul_assoc]
    congr 1
    rw [← Nat.mul_assoc, Nat.mul_comm (g x), Nat.mul_assoc]
/-- the product of the factorials -/
def fprod (l : List Nat) : Nat := prd (l.map fct)
theorem fprod_pos (l : List Nat) : 0 < fprod l := prd_pos fun x h => by
  obtain ⟨n, _, rfl⟩ := List.mem_map.mp h
  exact fct_pos n
theorem fprod_dvd : ∀ l : List Nat, fprod l ∣ fct l.sum
  | [] => Nat.dvd_refl _
  | x :: l => by
    show fct x * fprod l ∣ fct (x :: l).sum
    rw [List.sum_cons]
    exact Nat.dvd_trans (Nat.mul_dvd_mul_left _ (fprod_dvd l)) (fct_dvd _ x l.sum rfl)
/-- divided by one after the other -/
theorem div_chain : ∀ (l : List Nat) (x : Nat), l.foldl (fun f g => f / fct g) x = x / fprod l
  | [], x => by
    show x = x / 1
    rw [Nat.div_one]
  | g :: l, x => by
    show l.foldl _ (x / fct g) = x / (fct g * fprod l)
    rw [div_chain l, Nat.div_div_eq_div_mul]
theorem fct_lt : ∀ n : Nat, n ≤ 500 → fct n < 2 ^ (9 * n + 1)
  | 0, _ => by decide
  | n + 1, h => by
    have i := fct_lt n (by omega)
    show (n + 1) * fct n < _
    rw [show 9 * (n + 1) + 1 = 9 + (9 * n + 1) by omega, Nat.pow_add]
    exact Nat.mul_lt_mul'' (by omega) i
/-- a multinomial, exact -/
theorem multi {l : List Nat} {n f : Nat} (h : l.sum = n) : f * fct n / fprod l * fprod l = f * fct n := by
  subst h
  exact Nat.div_mul_cancel (Nat.dvd_trans (fprod_dvd l) (Nat.dvd_mul_left _ _))
end FT


namespace FT
open PySem L2 TL ClX LiI
/-! ### product_to -/
def spFct : Sp := fun vs H Q _ => ∃ k : Nat, vs = [.int (k : Int)] ∧ k ≤ 500 ∧ Q (.int (fct k : Int)) H
/-- the loop of product_to, from 2 on -/
theorem fct_end (k : Nat) : fct ((((k : Int) + 1 - 2).toNat) + 1) = fct k := by
  cases k with
  | zero => rfl
  | succ k => rw [show (((k + 1 : Nat) : Int) + 1 - 2).toNat = k by omega]
theorem fct_more (j : Nat) : (fct (j + 1) : Int) * (2 + (j : Int)) = (fct (j + 1 + 1) : Int) := by
  show _ = (((j + 1 + 1) * fct (j + 1) : Nat) : Int)
  rw [Int.natCast_mul, Int.mul_comm]
  congr 1
  omega
/-! ### ways -/
def arr (es : List (Str × Str × Int)) (p : Str) : Int := ((es.filter fun e => decide (e.2.1 = p)).map fun e => e.2.2).sum
def lvs (es : List (Str × Str × Int)) (p : Str) : List Int := (es.filter fun e => decide (e.1 = p)).map fun e => e.2.2
def grp (pre : Str → Nat) (out : Str → List Nat) (p : Str) : List Nat := out p ++ [pre p - (out p).sum]
def wyN (pre : Str → Nat) (out : Str → List Nat) : List Str → Nat → Nat := fun keys f => keys.foldl (fun f p => f * fct (pre p) / fprod (grp pre out p)) f
def spWays : Sp := fun vs H Q _ => ∃ (q e : Addr) (rs : List Addr) (keys : List Str) (res : Str → Int) (es : List (Str × Str × Int)) (pre : Str → Nat) (out : Str → List Nat), vs = [.ref q, .ref e] ∧ H q = some (.dK (tblI keys res)) ∧ keys.length ≤ 13 ∧
  H e = some (.lst (rs.map V.ref)) ∧ EdG H rs es ∧ es.length ≤ 100 ∧ (∀ p ∈ keys, res p + arr es p = (pre p : Int) ∧ lvs es p = (out p).map (fun x : Nat => (x : Int)) ∧ (out p).sum ≤ pre p ∧ pre p ≤ 300) ∧
  ∀ H', Same H H' → Q (.int (wyN pre out keys 1 : Int)) H'
theorem wyN_lt {pre : Str → Nat} {out : Str → List Nat} : ∀ {keys : List Str} {f a : Nat}, (∀ p ∈ keys, pre p ≤ 300) → f < 2 ^ a → wyN pre out keys f < 2 ^ (a + 2701 * keys.length)
  | [], f, a, _, h => h
  | p :: keys, f, a, hp, h => by
    have e : wyN pre out (p :: keys) f = wyN pre out keys (f * fct (pre p) / fprod (grp pre out p)) := rfl
    rw [e, List.length_cons, show a + 2701 * (keys.length + 1) = (a + 2701) + 2701 * keys.length by omega]
    refine wyN_lt (fun q hq => hp q (List.mem_cons_of_mem _ hq)) (Nat.lt_of_le_of_lt (Nat.div_le_self _ _) ?_)
    have h3 := hp p (List.mem_cons_self ..)
    have f3 := fct_lt (pre p) (by omega)
    rw [Nat.pow_add]
    exact Nat.mul_lt_mul'' h (Nat.lt_of_lt_of_le f3 (Nat.pow_le_pow_right (by decide) (by omega)))
theorem log_lt {n b : Nat} (h : n < 2 ^ b) (h0 : 0 < b) : n.log2 < b := PySem.Flt.log2_lt_of h0 h
section
variable {P : Program} {w : World} {K : PySem.W.Frag} {mg : Str → Option Value} {base : Heap}
theorem scProd : FnScope ["number", "found", "factor"] ["number"] (defScope s_product_to) := ⟨rfl, rfl, rfl, by decide +kernel, rfl, by decide +kernel, by decide +kernel⟩
theorem ok_prod {f : Addr} {fd : FuncData} (F : Fun K "product_to" "product_to" s_product_to f fd) (N : Nm mg) : FnOk P w K mg base CX0 1 f fd ["number"] spFct := by
  refine F.ok scProd (fun vs H Q E h => ?_) (fun cdv A outer s H vs Q E hr h => ?_)
  · obtain ⟨k, rfl, _⟩ := h
    rfl
  · obtain ⟨k, rfl, lk, q⟩ := h
    refine ⟨_, pss_cons (ps_set (i := 1) scProd.nd rfl (.inl rfl) pe_int)
      (pss_cons (ps_for PassesOwn.never rfl (pi_range2 rfl N.rng (pa_cons pe_int (pa_cons (pe_op op_add (pv 0) pe_int) pa_nil))) (pg_name (i := 2) scProd.nd rfl (.inl rfl))
        (pss_one (ps_set (i := 1) scProd.nd rfl (.inl rfl) (pe_op op_mul (pv 1) (pv 2)))))
      (pss_one (ps_ret (pv 1)))), ?_⟩
    refine ⟨_, rfl, _, _, rfl, rfl, 2, (k : Int) + 1, rfl, ⟨by decide, by decide, by omega, by omega⟩, ?_⟩
    refine for_it (walk_range (lo := 2) (n := ((k : Int) + 1 - 2).toNat)) (fun j σ' H' => (∃ u2, σ' = [some (.int k), some (.int (fct (j + 1) : Int)), u2]) ∧ H' = H) ⟨⟨_, rfl⟩, rfl⟩ (fun _ _ _ _ _ => trivial) ?_ ?_
    · intro j x σ' Ha Hb hj ⟨⟨u2, e⟩, eH⟩ ⟨e1, e2⟩
      subst e
      subst e1
      subst eH
      subst e2
      refine ⟨_, rfl, _, rfl, _, _, rfl, rfl, .inr ⟨by omega, by omega⟩, ⟨some (.int (2 + (j : Int))), ?_⟩, rfl⟩
      · show [some (V.int k), some (V.int ((fct (j + 1) : Int) * (2 + (j : Int)))), some (V.int (2 + (j : Int)))] = _
        rw [fct_more]
    · intro σ' H' ⟨⟨u2, e⟩, eH⟩
      subst e
      subst eH
      refine ⟨_, rfl, ?_⟩
      rw [fct_end]
      exact q
end
end FT


namespace FT
open PySem L2 TL ClX LiI
theorem flt_yes {c : Str × Str × Int → Bool} {es : List (Str × Str × Int)} {i : Nat} {e : Str × Str × Int} (h : es[i]? = some e) (y : c e = true) : ((es.take (i + 1)).filter c).map (fun e => e.2.2) = ((es.take i).filter c).map (fun e => e.2.2) ++ [e.2.2] := by
  rw [take_more h, List.filter_append, List.filter_cons, y, List.filter_nil, List.map_append] <;> rfl
theorem flt_no {c : Str × Str × Int → Bool} {es : List (Str × Str × Int)} {i : Nat} {e : Str × Str × Int} (h : es[i]? = some e) (y : c e = false) : ((es.take (i + 1)).filter c).map (fun e => e.2.2) = ((es.take i).filter c).map (fun e => e.2.2) := by
  rw [take_more h, List.filter_append, List.filter_cons, y, List.filter_nil, if_neg Bool.false_ne_true, List.append_nil]
theorem mem_sum {x : Nat} : ∀ {l : List Nat}, x ∈ l → x ≤ l.sum
  | y :: l, h => by
    rw [List.sum_cons]
    rcases List.mem_cons.mp h with rfl | h
    · omega
    · have := mem_sum h
      omega
theorem cast_sum : ∀ l : List Nat, (l.map fun x : Nat => (x : Int)).sum = (l.sum : Int)
  | [] => rfl
  | x :: l => by
    rw [List.map_cons, List.sum_cons, List.sum_cons, cast_sum l]
    omega
theorem wyN_snoc {pre : Str → Nat} {out : Str → List Nat} {keys : List Str} {p : Str} {f : Nat} : wyN pre out (keys ++ [p]) f = wyN pre out keys f * fct (pre p) / fprod (grp pre out p) := by
  unfold wyN
  rw [List.foldl_append] <;> rfl
theorem nat_lt_natAbs {n b : Nat} (h : n < 2 ^ b) : ((n : Int)).natAbs < 2 ^ b := by rw [Int.natAbs_natCast]; exact h
section
variable {P : Program} {w : World} {K : PySem.W.Frag} {mg : Str → Option Value} {base : Heap}
abbrev NWy : List Str := ["here", "edges", "found", "place", "arriving", "leaving", "present", "group", "start", "goal", "amount"]
theorem scWy : FnScope NWy ["here", "edges"] (defScope s_ways) := ⟨rfl, rfl, rfl, by decide +kernel, rfl, by decide +kernel, by decide +kernel⟩
theorem ok_ways {f fD : Addr} {fd fdD : FuncData} (F : Fun K "ways" "ways" s_ways f fd) (N : Nm mg) (D : Dn P w K mg base CX0 1 "product_to" ["number"] spFct fD fdD) : FnOk P w K mg base CX0 2 f fd ["here", "edges"] spWays := by
  refine F.ok scWy (fun vs H Q E h => ?_) (fun cdv A outer s H vs Q E hr h => ?_)
  · obtain ⟨q, e, rs, keys, res, es, pre, out, rfl, _⟩ := h
    rfl
  · obtain ⟨q, e, rs, keys, res, es, pre, out, rfl, hq, lk, he, ed, le, good, k⟩ := h
    have hu := hu_of hr
    have nd := scWy.nd
    have big : 1000 ≤ sizeLine := by decide
    refine ⟨_, pss_cons (ps_set (i := 2) nd rfl (.inl rfl) pe_int)
      (pss_cons (ps_lock (ps_for PassesOwn.never rfl (pi_keys (pv 0)) (pg_name (i := 3) nd rfl (.inr rfl))
        (pss_cons (ps_set (i := 4) nd rfl (.inl rfl) (pe_callB (cr_sum rfl) (by rfl) N.sum (by decide +kernel) (pa_cons (pe_lc (own := [("start", 8), ("goal", 9), ("amount", 10)]) (g := gTup K 3 (gCons (gName 8) (gCons (gName 9) (gCons (gName 10) gNil)))) (tt := tTest (tOp rEq (tVar 9) (tVar 3))) (te := tVar 10) rfl nd (pi_list (pv 1))
          (blkOk_by (N := NWy) (sc := defScope s_ways) (by decide +kernel)) (fun _ _ _ _ _ => pg_tup rfl (pgs_cons (pg_name (i := 8) nd rfl (Or.inl rfl)) (pgs_cons (pg_name (i := 9) nd rfl (Or.inl rfl)) (pgs_cons (pg_name (i := 10) nd rfl (Or.inl rfl)) pgs_nil)))) (fun _ _ _ _ _ => pts_one (pt_cmpR op_eq (pv 9) (pv 3) (nomark _))) (fun _ _ _ _ _ => pv 10)) pa_nil)))
        (pss_cons (ps_setLc (i := 5) (own := [("start", 8), ("goal", 9), ("amount", 10)]) (g := gTup K 3 (gCons (gName 8) (gCons (gName 9) (gCons (gName 10) gNil)))) (tt := tTest (tOp rEq (tVar 8) (tVar 3))) (te := tVar 10) rfl nd rfl rfl (sw_true rfl rfl rfl (by decide +kernel)) (pi_list (pv 1))
          (blkOk_by (N := NWy) (sc := defScope s_ways) (by decide +kernel)) (fun _ _ _ _ _ => pg_tup rfl (pgs_cons (pg_name (i := 8) nd rfl (Or.inl rfl)) (pgs_cons (pg_name (i := 9) nd rfl (Or.inl rfl)) (pgs_cons (pg_name (i := 10) nd rfl (Or.inl rfl)) pgs_nil)))) (fun _ _ _ _ _ => pts_one (pt_cmpR op_eq (pv 8) (pv 3) (nomark _))) (fun _ _ _ _ _ => pv 10))
        (pss_cons (ps_set (i := 6) nd rfl (.inl rfl) (pe_op op_add (pe_dget hu (pv 0) (pv 3) (fun _ _ => rfl)) (pv 4)))
        (pss_cons (ps_set (i := 2) nd rfl (.inl rfl) (pe_op op_mulW (pv 2) (pe_call D.ok hr rfl D.mgn D.kp D.bn .nil pass0 (pa_cons (pv 6) pa_nil))))
        (pss_one (ps_for PassesOwn.never rfl (pi_list (pe_op op_cat (pv 5) (pe_lst (pa_cons (pe_op op_sub (pv 6) (pe_callB (cr_sum rfl) (by rfl) N.sum (by decide +kernel) (pa_cons (pv 5) pa_nil))) pa_nil)))) (pg_name (i := 7) nd rfl (.inl rfl))
          (pss_one (ps_set (i := 2) nd rfl (.inl rfl) (pe_op op_fdivW (pv 2) (pe_call D.ok hr rfl D.mgn D.kp D.bn .nil pass0 (pa_cons (pv 7) pa_nil)))))))))))))
      (pss_one (ps_ret (pv 2)))), ?_⟩
    refine ⟨q, _, hq, trivial, fun od => ⟨_, rfl, q, od, rfl, .inl ⟨_, upd_same, ?_⟩⟩⟩
    refine for_it walk_keys (fun j σ' H' => (∃ u3 u4 u5 u6 u7 u8 u9 u10, σ' = [some (.ref q), some (.ref e), some (.int (wyN pre out (keys.take j) 1 : Int)), u3, u4, u5, u6, u7, u8, u9, u10]) ∧ Same (upd H q (.frz od (.dK (tblI keys res)))) H')
      ⟨⟨_, _, _, _, _, _, _, _, rfl⟩, Same.refl⟩ (fun j σ' H' _ z => z.2 _ _ upd_same) ?_ ?_
    · intro j y σ' Ha Hb hj ⟨⟨u3, u4, u5, u6, u7, u8, u9, u10, eσ⟩, sa⟩ ⟨eb, kk, vv, hk, ey⟩
      subst eσ
      subst eb
      subst ey
      obtain ⟨a, ha, rfl, rfl⟩ := tblI_at hk
      rw [show kV (Sum.inr a) = V.str a from rfl]
      have ma := List.mem_of_getElem? ha
      obtain ⟨g1, g2, g3, g4⟩ := good a ma
      have qe : e ≠ q := ne_of he hq (by intro z; cases z)
      have heb : Hb e = some (.lst (rs.map V.ref)) := sa _ _ (by rw [upd_ne qe]; exact he)
      have edb : EdG Hb rs es := by
        have m : ∀ {rs : List Addr} {es : List (Str × Str × Int)}, EdG H rs es → EdG Hb rs es := by
          intro rs es ed
          induction ed with
          | nil => exact .nil
          | cons h _ ih => exact .cons (sa _ _ (by rw [upd_ne (ne_of h hq (by intro z; cases z))]; exact h)) ih
        exact m ed
      have lr := ed.len
      -- arriving
      refine ⟨_, rfl, e, rfl, ⟨_, SqL.of heb⟩, fun D1 nD1 => ?_⟩
      refine lc_it walk_list (fun i H' => Same Hb H' ∧ H' D1 = some (.lst ((((es.take i).filter fun e => decide (e.2.1 = a)).map fun e => e.2.2).map V.int))) ⟨same_new nD1, upd_same⟩ (fun i H' _ z => SqL.of (z.1 _ _ heb)) ?_ ?_
      · intro i y2 Hc Hd hi ⟨q1, q2⟩ ⟨eb2, ey2⟩
        subst eb2
        obtain ⟨r, hr0, rfl⟩ := map_of ey2
        obtain ⟨e1, he1, hrb⟩ := edb.at_ hr0
        refine ⟨r, [.str e1.1, .str e1.2.1, .int e1.2.2], rfl, .inl (.inl (q1 _ _ hrb)), rfl, _, _, rfl, _, _, rfl, _, _, rfl, rfl, rfl, ?_⟩
        refine ⟨_, rfl, _, rfl, rfl, _, rfl, ?_⟩
        by_cases c : e1.2.1 = a
        · rw [decide_eq_true (show V.str e1.2.1 = V.str a by rw [c])]
          show if true = true then _ else _
          rw [if_pos rfl]
          refine ⟨_, rfl, _, q2, ?_, Same.put q1 nD1, ?_⟩
          · have := List.length_filter_le (fun e : Str × Str × Int => decide (e.2.1 = a)) (es.take i)
            rw [List.length_map, List.length_map]
            rw [List.length_take] at this
            omega
          · rw [upd_same, flt_yes he1 (decide_eq_true c), List.map_append] <;> rfl
        · rw [decide_eq_false (show ¬ V.str e1.2.1 = V.str a from fun z => c (V.str.inj z))]
          exact iteF ⟨q1, by rw [q2, flt_no he1 (decide_eq_false c)]⟩
      intro H1 ⟨s1, hD1⟩
      rw [List.length_map, lr, List.take_length] at hD1
      refine ⟨D1, _, rfl, SqL.of hD1, ?_⟩
      -- leaving
      refine ⟨_, rfl, e, rfl, ⟨_, SqL.of (s1 _ _ heb)⟩, fun D2 nD2 => ?_⟩
      refine lc_it walk_list (fun i H' => Same H1 H' ∧ H' D2 = some (.lst ((((es.take i).filter fun e => decide (e.1 = a)).map fun e => e.2.2).map V.int))) ⟨same_new nD2, upd_same⟩ (fun i H' _ z => SqL.of (z.1 _ _ (s1 _ _ heb))) ?_ ?_
      · intro i y2 Hc Hd hi ⟨q1, q2⟩ ⟨eb2, ey2⟩
        subst eb2
        obtain ⟨r, hr0, rfl⟩ := map_of ey2
        obtain ⟨e1, he1, hrb⟩ := edb.at_ hr0
        refine ⟨r, [.str e1.1, .str e1.2.1, .int e1.2.2], rfl, .inl (.inl (q1 _ _ (s1 _ _ hrb))), rfl, _, _, rfl, _, _, rfl, _, _, rfl, rfl, rfl, ?_⟩
        refine ⟨_, rfl, _, rfl, rfl, _, rfl, ?_⟩
        by_cases c : e1.1 = a
        · rw [decide_eq_true (show V.str e1.1 = V.str a by rw [c])]
          show if true = true then _ else _
          rw [if_pos rfl]
          refine ⟨_, rfl, _, q2, ?_, Same.put q1 nD2, ?_⟩
          · have := List.length_filter_le (fun e : Str × Str × Int => decide (e.1 = a)) (es.take i)
            rw [List.length_map, List.length_map]
            rw [List.length_take] at this
            omega
          · rw [upd_same, flt_yes he1 (decide_eq_true c), List.map_append] <;> rfl
        · rw [decide_eq_false (show ¬ V.str e1.1 = V.str a from fun z => c (V.str.inj z))]
          exact iteF ⟨q1, by rw [q2, flt_no he1 (decide_eq_false c)]⟩
      intro H2 ⟨s2, hD2⟩
      rw [List.length_map, lr, List.take_length, show ((es.filter fun e => decide (e.1 = a)).map fun e => e.2.2) = lvs es a from rfl, g2] at hD2
      have sb2 : Same Hb H2 := Same.trans s1 s2
      -- present
      refine ⟨_, rfl, _, rfl, q, .int (res a), rfl, .inl ⟨_, Sum.inr a, .inr ⟨od, sb2 _ _ (sa _ _ upd_same)⟩, rfl, (tblI_val ma).symm⟩, _, rfl, _, _, rfl, rfl, ?_⟩
      show gName 6 (V.int (res a + arr es a)) _ _ _
      rw [g1]
      -- found * present!
      have fb : wyN pre out (keys.take j) 1 < 2 ^ (1 + 2701 * 13) := by
        refine Nat.lt_of_lt_of_le (wyN_lt (a := 1) (fun p hp => (good p (List.mem_of_mem_take hp)).2.2.2) (by decide)) (Nat.pow_le_pow_right (by decide) ?_)
        rw [List.length_take]
        omega
      have pb := fct_lt (pre a) (by omega)
      refine ⟨_, rfl, _, rfl, pre a, rfl, by omega, _, _, rfl, rfl, ?_, ?_⟩
      · show ((wyN pre out (keys.take j) 1 : Int)).natAbs.log2 + ((fct (pre a) : Int)).natAbs.log2 < 1000000
        rw [Int.natAbs_natCast, Int.natAbs_natCast]
        have l1 := log_lt fb (by omega)
        have l2 := log_lt pb (by omega)
        omega
      show gName 2 (V.int ((wyN pre out (keys.take j) 1 : Int) * (fct (pre a) : Int))) _ _ _
      rw [← Int.natCast_mul]
      obtain ⟨F0, eF⟩ : ∃ F0, F0 = wyN pre out (keys.take j) 1 * fct (pre a) := ⟨_, rfl⟩
      rw [← eF]
      -- the groups
      have lo : (out a).length ≤ 100 := by
        have z := congrArg List.length g2
        unfold lvs at z
        rw [List.length_map, List.length_map] at z
        have := List.length_filter_le (fun e : Str × Str × Int => decide (e.1 = a)) es
        omega
      refine ⟨_, rfl, _, rfl, _, rfl, D2, _, rfl, SqL.of hD2, _, _, rfl, rfl, by show 1 ≤ sizeLine; omega, fun p1 np1 => ?_⟩
      have s3 : Same H2 (upd H2 p1 (.lst [.int ((pre a : Int) - ((out a).map fun x : Nat => (x : Int)).sum)])) := same_new np1
      refine ⟨D2, p1, _, _, rfl, rfl, s3 _ _ hD2, upd_same, by rw [List.length_map, List.length_map]; show _ + 1 ≤ sizeLine; omega, fun p2 np2 => ⟨p2, rfl, ⟨_, SqL.of upd_same⟩, ?_⟩⟩
      have eg : ((out a).map fun x : Nat => (x : Int)).map V.int ++ [V.int ((pre a : Int) - ((out a).map fun x : Nat => (x : Int)).sum)] = (grp pre out a).map fun x : Nat => V.int (x : Int) := by
        unfold grp
        rw [cast_sum, List.map_append, List.map_map, show (pre a : Int) - ((out a).sum : Int) = ((pre a - (out a).sum : Nat) : Int) by omega] <;> rfl
      rw [eg]
      obtain ⟨H4, e4⟩ : ∃ X, X = upd (upd H2 p1 (.lst [.int ((pre a : Int) - ((out a).map fun x : Nat => (x : Int)).sum)])) p2 (.lst ((grp pre out a).map fun x : Nat => V.int (x : Int))) := ⟨_, rfl⟩
      have sb4 : Same Hb H4 := e4 ▸ (sb2.trans s3).trans (same_new np2)
      have h4 : H4 p2 = some (.lst ((grp pre out a).map fun x : Nat => V.int (x : Int))) := by rw [e4]; exact upd_same
      rw [← e4]
      refine for_it walk_list (fun i σ' H' => (∃ u7, σ' = [some (.ref q), some (.ref e), some (.int ((((grp pre out a).take i).foldl (fun f g => f / fct g) F0 : Nat) : Int)), some (.str a), some (.int (arr es a)), some (.ref D2), some (.int (pre a : Int)), u7, u8, u9, u10]) ∧ H' = H4)
        ⟨⟨_, rfl⟩, rfl⟩ (fun i σ' H' _ z => by rw [z.2]; exact SqL.of h4) ?_ ?_
      · intro i y2 σ2 Hc Hd hi ⟨⟨u7', eσ⟩, eH⟩ ⟨eb2, ey2⟩
        subst eσ
        subst eb2
        obtain ⟨g, hg, rfl⟩ := map_of ey2
        have mg' := List.mem_of_getElem? hg
        have gl : g ≤ 300 := by
          unfold grp at mg'
          rcases List.mem_append.mp mg' with m | m
          · have := mem_sum m
            omega
          · obtain rfl := List.mem_singleton.mp m
            omega
        have gb := fct_lt g (by omega)
        refine ⟨_, rfl, _, rfl, g, rfl, by omega, _, _, rfl, rfl, wide_div (b := 2701) (by have := fct_pos g; omega) (nat_lt_natAbs (Nat.lt_of_lt_of_le gb (Nat.pow_le_pow_right (by decide) (by omega)))) (by decide) (by decide), ⟨some (.int (g : Int)), ?_⟩, eH⟩
        rw [take_more hg, List.foldl_append, List.foldl_cons, List.foldl_nil, Int.natCast_ediv] <;> rfl
      · intro σ2 H5 ⟨⟨u7', eσ⟩, eH⟩
        subst eσ
        subst eH
        rw [List.length_map, List.take_length, div_chain]
        rw [take_more ha, wyN_snoc, ← eF]
        exact ⟨⟨_, _, _, _, _, _, _, _, rfl⟩, Same.trans sa sb4⟩
    · intro σ' H' ⟨⟨u3, u4, u5, u6, u7, u8, u9, u10, eσ⟩, sa⟩
      subst eσ
      rw [tblI_len, List.take_length]
      exact ⟨sa _ _ upd_same, _, rfl, k _ (unlock_same hq sa)⟩
end
end FT


/-! lists of pairs of a text and a value; dict(..) of them. -/
namespace FT
open PySem L2 TL ClX
/-- pairs (a, g a) at the addresses rs -/
def PrG (g : Str → V) (H : Hp) (rs : List Addr) (l : List Str) : Prop := Paired (fun (r : Addr) (a : Str) => H r = some (.tup [.str a, g a])) rs l
theorem PrG.imp {g : Str → V} {H H' : Hp} (m : ∀ r (a : Str), H r = some (.tup [.str a, g a]) → H' r = some (.tup [.str a, g a])) : ∀ {rs : List Addr} {l : List Str}, PrG g H rs l → PrG g H' rs l
  | _, _, .nil => .nil
  | _, _, .cons h t => .cons (m _ _ h) (PrG.imp m t)
theorem PrG.mono {g : Str → V} {H H' : Hp} {rs : List Addr} {l : List Str} (s : Same H H') (p : PrG g H rs l) : PrG g H' rs l := p.imp fun r a e => s _ _ e
theorem PrG.push {g : Str → V} {H : Hp} {rs : List Addr} {l : List Str} {D : Addr} {xs : List V} {o : HO} (e : H D = some (.lst xs)) (p : PrG g H rs l) : PrG g (upd H D o) rs l := p.imp fun r a q => by
  rw [upd_ne (ne_of q e (by intro z; cases z))]
  exact q
theorem PrG.snoc {g : Str → V} {H : Hp} {r : Addr} {a : Str} (h : H r = some (.tup [.str a, g a])) : ∀ {rs : List Addr} {l : List Str}, PrG g H rs l → PrG g H (rs ++ [r]) (l ++ [a])
  | _, _, .nil => .cons h .nil
  | _, _, .cons q t => .cons q (PrG.snoc h t)
theorem PrG.len {g : Str → V} {H : Hp} : ∀ {rs : List Addr} {l : List Str}, PrG g H rs l → rs.length = l.length
  | _, _, .nil => rfl
  | _, _, .cons _ t => congrArg (· + 1) (PrG.len t)
theorem PrG.at_ {g : Str → V} {H : Hp} {rs : List Addr} {l : List Str} (p : PrG g H rs l) {i : Nat} {r : Addr} (h : rs[i]? = some r) : ∃ a, l[i]? = some a ∧ H r = some (.tup [.str a, g a]) := LiI.paired_get p h
/-- as dict(..) asks it -/
theorem PrG.kvs {K : PySem.W.Frag} {g : Str → V} {H : Hp} : ∀ {rs : List Addr} {l : List Str}, PrG g H rs l → Paired (fun (p : Addr) (kv : Key × V) => SqT K H p [kV kv.1, kv.2]) rs (kvT (l.map fun a => (a, g a)))
  | _, _, .nil => .nil
  | _, _, .cons h t => .cons (.inl (.inl h)) (PrG.kvs t)
theorem merge_app : ∀ (more : List (Str × V)) (acc : List (Str × V)), ((acc ++ more).map Prod.fst).Nodup → mergeK (kvT acc) (kvT more) = kvT (acc ++ more)
  | [], acc, _ => by rw [List.append_nil] <;> rfl
  | p :: more, acc, nd => by
    have e : acc ++ p :: more = (acc ++ [p]) ++ more := by rw [List.append_assoc] <;> rfl
    have fresh : p.1 ∉ acc.map Prod.fst := fun h => by
      rw [List.map_append] at nd
      obtain ⟨_, _, d⟩ := List.nodup_append.mp nd
      exact d _ h _ (List.mem_cons_self ..) rfl
    show mergeK (putK (kvT acc) (Sum.inr p.1) p.2) (kvT more) = _
    rw [kvT_put fresh, e]
    rw [e] at nd
    exact merge_app more _ nd
theorem merge_nd {l : List (Str × V)} (nd : (l.map Prod.fst).Nodup) : mergeK [] (kvT l) = kvT l := merge_app l [] nd
theorem map_fst (l : List Str) (g : Str → V) : (l.map fun a => (a, g a)).map Prod.fst = l := by rw [List.map_map]; exact List.map_id _
theorem put_old {t : List (Str × Str)} {f z z' : Str} (n : f ∉ t.map Prod.fst) : putK (prs (t ++ [(f, z)])) (Sum.inr f) (V.str z') = prs (t ++ [(f, z')]) := by
  have key : ∀ t : List (Str × Str), f ∉ t.map Prod.fst → ((t.map fun p => (p.1, V.str p.2)).map fun p => if p.1 = f then (p.1, V.str z') else p) = t.map fun p => (p.1, V.str p.2) := by
    intro t
    induction t with
    | nil => intro _; rfl
    | cons p t ih =>
      intro n
      rw [List.map_cons, List.mem_cons] at n
      rw [List.map_cons, List.map_cons, ih fun h => n (.inr h), if_neg (fun e => n (.inl e.symm))]
  unfold prs
  rw [kvT_putT]
  unfold putT
  rw [prs_fst, if_pos (by rw [List.map_append]; exact List.mem_append_right _ (List.mem_cons_self ..)), List.map_append, List.map_append, List.map_append, key t n]
  congr 2
  show [if f = f then (f, V.str z') else (f, V.str z)] = [(f, V.str z')]
  rw [if_pos rfl]
/-- the place of an item -/
theorem idx_at {l : List Str} {i : Nat} {a : Str} (nd : l.Nodup) (h : l[i]? = some a) : l.idxOf a = i := by
  have m : a ∈ l := List.mem_of_getElem? h
  have lt := List.idxOf_lt_length_of_mem m
  have e : l[l.idxOf a]? = some a := by rw [List.getElem?_eq_getElem lt, List.getElem_idxOf lt]
  exact (List.getElem?_inj lt nd).mp (e.trans h.symm)
/-- a tree from the order of its making -/
theorem tree_of {t : List (Str × Str)} (h1 : 1 ≤ t.length) (h2 : t.length ≤ 12) (nd : (t.map Prod.fst).Nodup) (nm : ∀ z ∈ t.map Prod.fst, NameL z) (up : ∀ (i : Nat) (p : Str × Str), t[i]? = some p → p.2 = "" ∨ p.2 ∈ (t.map Prod.fst).take i) : TreeOk t := by
  refine ⟨h1, h2, nd, nm, fun a => (t.map Prod.fst).idxOf a, fun p hp => ?_⟩
  obtain ⟨i, hi⟩ := List.mem_iff_getElem?.mp hp
  have il := (List.getElem?_eq_some_iff.mp hi).1
  have hk : (t.map Prod.fst)[i]? = some p.1 := by rw [List.getElem?_map, hi] <;> rfl
  refine ⟨by show (t.map Prod.fst).idxOf p.1 < _; rw [idx_at nd hk]; exact il, (up i p hi).imp id fun m => ⟨List.mem_of_mem_take m, ?_⟩⟩
  show (t.map Prod.fst).idxOf p.2 < (t.map Prod.fst).idxOf p.1
  rw [idx_at nd hk]
  obtain ⟨j, hj⟩ := List.mem_iff_getElem?.mp m
  have jl := (List.getElem?_eq_some_iff.mp hj).1
  rw [List.length_take] at jl
  rw [List.getElem?_take, if_pos (by omega)] at hj
  rw [idx_at nd hj]
  omega
end FT


/-! lists of texts as data, for == and !=. -/
namespace FT
open PySem L2 TL
theorem dps_strs {K : PySem.W.Frag} {H : Hp} : ∀ ts : List Str, DpAll K H (ts.map V.str) (ts.map PyData.str)
  | [] => .nil
  | t :: ts => .cons (.str t) (dps_strs ts)
theorem strs_lay : ∀ {ts : List Str}, (∀ t ∈ ts, PyData.strOk t = true) → PyData.canLayAll0 (ts.map PyData.str) = true ∧ PyData.depthAll (ts.map PyData.str) ≤ 0
  | [], _ => ⟨rfl, Nat.le_refl _⟩
  | t :: ts, h => by
    obtain ⟨h1, h2⟩ := strs_lay (ts := ts) fun b hb => h b (List.mem_cons_of_mem _ hb)
    constructor
    · show (PyData.strOk t && PyData.canLayAll0 (ts.map PyData.str)) = true
      rw [h t (List.mem_cons_self ..), h1] <;> rfl
    · show max 0 (PyData.depthAll (ts.map PyData.str)) ≤ 0
      omega
theorem strs_shaped {ts : List Str} (h : ∀ t ∈ ts, PyData.strOk t = true) : SeqAt.shaped (.list (ts.map PyData.str)) = true := by
  obtain ⟨h1, h2⟩ := strs_lay h
  unfold SeqAt.shaped
  have c : (PyData.list (ts.map PyData.str)).canLay0 = true := h1
  rw [c]
  have d : (PyData.list (ts.map PyData.str)).depth ≤ 64 := by
    show PyData.depthAll (ts.map PyData.str) + 1 ≤ 64
    omega
  rw [decide_eq_true d] <;> rfl
end FT


/-! the drawing state of four items; take, pick, order, names. -/
namespace FT
open PySem L2 TL ClX
/-- the drawing state: at d the list [cells, next, mixed, number], the cells at c -/
def DrawAt (H : Hp) (d c : Addr) : Prop := ∃ (nx mx ct : Int) (cells : List Int), H d = some (.lst [.ref c, .int nx, .int mx, .int ct]) ∧ H c = some (.lst (cells.map V.int)) ∧ cells ≠ [] ∧ cells.length ≤ 63 ∧ (∀ z ∈ cells, 0 ≤ z) ∧ 0 ≤ nx ∧ 0 ≤ mx ∧ mx < 2147483647 ∧ 0 ≤ ct
/-- all that was tracked, but d and c, is as it was -/
def Keep (d c : Addr) (H H' : Hp) : Prop := ∀ b o, b ≠ d → b ≠ c → H b = some o → H' b = some o
theorem Keep.refl {d c : Addr} {H : Hp} : Keep d c H H := fun _ _ _ _ e => e
theorem Keep.trans {d c : Addr} {H H1 H2 : Hp} (a : Keep d c H H1) (b : Keep d c H1 H2) : Keep d c H H2 := fun x o h h' e => b x o h h' (a x o h h' e)
theorem Keep.of_same {d c : Addr} {H H' : Hp} (s : Same H H') : Keep d c H H' := fun b o _ _ e => s b o e
theorem DrawAt.mono {H H' : Hp} {d c : Addr} (s : Same H H') (x : DrawAt H d c) : DrawAt H' d c := by
  obtain ⟨nx, mx, ct, cells, h1, h2, r⟩ := x
  exact ⟨nx, mx, ct, cells, s _ _ h1, s _ _ h2, r⟩
theorem DrawAt.apart {H : Hp} {d c p : Addr} (x : DrawAt H d c) (n : H p = none) : p ≠ d ∧ p ≠ c := by
  obtain ⟨nx, mx, ct, cells, h1, h2, r⟩ := x
  exact ⟨(ne_of_none h1 n).symm, (ne_of_none h2 n).symm⟩
theorem ints_ne {ns : List Int} {c : Addr} {r : List V} : ns.map V.int ≠ V.ref c :: r := by
  cases ns with
  | nil => intro h; cases h
  | cons a t => intro h; cases h
theorem DrawAt.ne {H : Hp} {d c : Addr} (x : DrawAt H d c) : c ≠ d := by
  obtain ⟨_, _, _, _, h1, h2, _⟩ := x
  exact ne_of h2 h1 fun z => ints_ne (HO.lst.inj z)
def spBegin (K : PySem.W.Frag) : Sp := fun vs H Q _ => ∃ (a : Addr) (ns : List Int), vs = [.ref a] ∧ SqL K H a (ns.map V.int) ∧ ns.length ≤ 63 ∧
  ∀ (H' : Hp) (d c : Addr), Same H H' → H d = none → H c = none → DrawAt H' d c → Q (.ref d) H'
def spDraw : Sp := fun vs H Q _ => ∃ (d c : Addr) (n : Int), vs = [.ref d, .int n] ∧ DrawAt H d c ∧ 0 < n ∧ n.natAbs < 2 ^ 200 ∧
  ∀ (k : Int) (H' : Hp), 0 ≤ k → k < n → DrawAt H' d c → Keep d c H H' → Q (.int k) H'
/-- an item of a list, a sign of a text -/
def Items (K : PySem.W.Frag) (H : Hp) (d c : Addr) (v : V) (n : Nat) (P : Nat → V → Prop) : Prop :=
  (∃ (l : Addr) (xs : List V), v = .ref l ∧ l ≠ d ∧ l ≠ c ∧ H l = some (.lst xs) ∧ xs.length = n ∧ ∀ i x, xs[i]? = some x → P i x) ∨
  (∃ z : Str, v = .str z ∧ z.length = n ∧ ∀ i s, z.cps.toList[i]? = some s → P i (.str ⟨#[s]⟩))
def spPick (K : PySem.W.Frag) : Sp := fun vs H Q _ => ∃ (d c : Addr) (v : V) (n : Nat) (P : Nat → V → Prop), vs = [.ref d, v] ∧ DrawAt H d c ∧ Items K H d c v n P ∧ 0 < n ∧ n < 1000 ∧
  ∀ (i : Nat) (x : V) (H' : Hp), P i x → DrawAt H' d c → Keep d c H H' → Q x H'
/-- the list of the magnitudes -/
def mags (ms : List Int) : List Int := ms.map fun i => if i < 0 then -i else i
theorem mags_nn (ms : List Int) : ∀ z ∈ mags ms, 0 ≤ z := fun z h => by
  obtain ⟨i, _, rfl⟩ := List.mem_map.mp h
  split <;> omega
theorem at_mod {cells : List Int} {nx : Int} (ne : cells ≠ []) : ∃ (j : Nat) (z : Int), nx % ((cells.map V.int).length : Int) = (j : Int) ∧ j < cells.length ∧ cells[j]? = some z ∧ z ∈ cells := by
  have l0 : 0 < cells.length := List.length_pos_iff.mpr ne
  rw [List.length_map]
  have h1 : 0 ≤ nx % (cells.length : Int) := Int.emod_nonneg _ (by omega)
  have h2 : nx % (cells.length : Int) < (cells.length : Int) := Int.emod_lt_of_pos _ (by omega)
  refine ⟨(nx % (cells.length : Int)).toNat, cells[(nx % (cells.length : Int)).toNat]'(by omega), by omega, by omega, by simp, List.getElem_mem _⟩
section
variable {P : Program} {w : World} {K : PySem.W.Frag} {mg : Str → Option Value} {base : Heap}
theorem scBegin : FnScope ["_law_script", "_law_cell"] ["_law_script"] (defScope s__law_begin) := ⟨rfl, rfl, rfl, by decide +kernel, rfl, by decide +kernel, by decide +kernel⟩
theorem ok_begin {f : Addr} {fd : FuncData} (F : Fun K "_law_begin" "_law_begin" s__law_begin f fd) (T : Nm mg) : FnOk P w K mg base CX0 1 f fd ["_law_script"] (spBegin K) := by
  refine F.ok scBegin (fun vs H Q E h => ?_) (fun cdv A outer s H vs Q E hr h => ?_)
  · obtain ⟨a, ns, rfl, _⟩ := h
    rfl
  · obtain ⟨a, ns, rfl, hS, hlen, k⟩ := h
    refine ⟨_, pss_one (ps_ret (pe_lst (pa_cons (pe_orT (pe_lc (own := [("_law_cell", 1)]) (g := gName 1) (tt := tYes) rfl scBegin.nd (pi_list (pe_slice sl_list (pv 0) po_none (po_some pe_int))) (blkOk_by (N := ["_law_script", "_law_cell"]) (sc := defScope s__law_begin) (by decide +kernel))
      (fun _ _ _ _ _ => pg_name (i := 1) scBegin.nd rfl (Or.inl rfl)) (fun _ _ _ _ _ => pts_nil) (fun _ _ _ _ _ => pe_callB call_abs (by rfl) T.abs (by decide +kernel) (pa_cons (pv 1) pa_nil))) (pe_one (pe_lst (pa_cons pe_int pa_nil))))
      (pa_cons pe_int (pa_cons pe_int (pa_cons pe_int pa_nil)))))), ?_⟩
    obtain ⟨ms, em, lm⟩ := cut_ints ns none (some 63)
    refine ⟨_, rfl, _, rfl, a, _, rfl, hS, fun p np => ?_⟩
    rw [em]
    have s1 : Same H (upd H p (.lst (ms.map V.int))) := same_new np
    refine ⟨p, rfl, ⟨_, SqL.of upd_same⟩, fun D nD => lc_list (xs := ms.map V.int) (fun i H' => Same (upd H p (.lst (ms.map V.int))) H' ∧ H' D = some (.lst ((mags (ms.take i)).map V.int))) ?_ ?_ ?_ ?_⟩
    · exact ⟨same_new nD, by rw [upd_same, List.take_zero] <;> rfl⟩
    · exact fun i H' _ q => Same.sql q.1 (SqL.of upd_same)
    · intro i x H' hx ⟨q1, q2⟩
      obtain ⟨z, hz, rfl⟩ : ∃ z, ms[i]? = some z ∧ x = V.int z := by
        rw [List.getElem?_map] at hx
        obtain ⟨z, hz, rfl⟩ := Option.map_eq_some_iff.mp hx
        exact ⟨z, hz, rfl⟩
      refine ⟨rfl, ?_⟩
      refine ⟨_, rfl, z, rfl, _, q2, ?_, ?_⟩
      · rw [List.length_map]
        unfold mags
        rw [List.length_map, List.length_take]
        exact Nat.lt_of_le_of_lt (Nat.min_le_right _ _) (Nat.lt_of_le_of_lt (Nat.le_trans lm hlen) (by decide))
      · refine ⟨fun b o e => ?_, ?_⟩
        · rw [upd_ne (ne_of_none e nD)]
          exact q1 b o e
        · rw [upd_same, take_more hz]
          unfold mags
          rw [List.map_append, List.map_append] <;> rfl
    · intro H' ⟨q1, q2⟩
      rw [List.length_map, List.take_length] at q2
      have sH : Same H H' := Same.trans s1 q1
      refine ⟨_, .inl ⟨_, SqL.of q2, rfl⟩, ?_⟩
      have hD : H D = none := Same.free s1 nD
      refine ite2 (fun nz => ?_) (fun nz => ?_)
      · refine ⟨by show 4 ≤ sizeLine; decide, fun d nd => ?_⟩
        have ncd : D ≠ d := ne_of_none q2 nd
        refine k _ d D (Same.trans sH (same_new nd)) (Same.free sH nd) hD ⟨0, 1, 0, mags ms, upd_same, by rw [upd_ne ncd]; exact q2, fun z => ?_, ?_, mags_nn ms, by omega, by omega, by omega, by omega⟩
        · rw [z] at nz
          cases nz
        · unfold mags
          rw [List.length_map]
          exact Nat.le_trans lm hlen
      · refine ⟨by show 1 ≤ sizeLine; decide, fun c nc => ?_⟩
        refine ⟨by show 4 ≤ sizeLine; decide, fun d nd => ?_⟩
        have ncd : c ≠ d := ne_of_none upd_same nd
        have nd' : H' d = none := by
          rw [upd_ne (Ne.symm ncd)] at nd
          exact nd
        exact k _ d c (Same.trans sH (Same.trans (same_new nc) (same_new nd))) (Same.free sH nd') (Same.free sH nc) ⟨0, 1, 0, [7], upd_same, by rw [upd_ne ncd, upd_same] <;> rfl, by simp, by decide, by simp, by omega, by omega, by omega, by omega⟩
theorem scDraw : FnScope ["_law_draw", "_law_size", "_law_cells", "_law_at", "_law_cell"] ["_law_draw", "_law_size"] (defScope s__law_take) := ⟨rfl, rfl, rfl, by decide +kernel, rfl, by decide +kernel, by decide +kernel⟩
theorem ok_draw {f : Addr} {fd : FuncData} (F : Fun K "_law_take" "_law_take" s__law_take f fd) (T : Nm mg) : FnOk P w K mg base CX0 1 f fd ["_law_draw", "_law_size"] spDraw := by
  refine F.ok scDraw (fun vs H Q E h => ?_) (fun cdv A outer s H vs Q E hr h => ?_)
  · obtain ⟨d, c, n, rfl, _⟩ := h
    rfl
  · obtain ⟨d, c, n, rfl, hD, n0, n1, k⟩ := h
    have ncd := hD.ne
    obtain ⟨nx, mx, ct, cells, hd, hc, ne, len, nn, a0, m0, m1, c0⟩ := hD
    refine ⟨_, pss_cons (ps_set (i := 2) scDraw.nd rfl (.inl rfl) (pe_ix ix_list (pv 0) pe_int (fun _ _ => rfl)))
      (pss_cons (ps_set (i := 3) scDraw.nd rfl (.inl rfl) (pe_op op_mod (pe_ix ix_list (pv 0) pe_int (fun _ _ => rfl)) (pe_callB call_len_seq (by rfl) T.len PySem.boot_len (pa_cons (pv 2) pa_nil))))
      (pss_cons (ps_set (i := 4) scDraw.nd rfl (.inl rfl) (pe_ix ix_list (pv 2) (pv 3) (fun _ _ => rfl)))
      (pss_cons (ps_if (pt_cmpR op_ge (pv 4) (pe_op op_pow pe_int pe_int) (nomark _))
        (pss_cons (ps_asg (pe_op op_fdivW (pv 4) (pv 1)) (pg_sub (pv 2) (pv 3) set_list)) (pss_one (ps_ret (pe_op op_mod (pv 4) (pv 1))))) pss_nil)
      (pss_cons (ps_asg (pe_op op_add (pe_ix ix_list (pv 0) pe_int (fun _ _ => rfl)) pe_int) (pg_sub (pv 0) pe_int set_list))
      (pss_cons (ps_asg (pe_op op_add (pe_ix ix_list (pv 0) pe_int (fun _ _ => rfl)) pe_int) (pg_sub (pv 0) pe_int set_list))
      (pss_cons (ps_asg (pe_op op_mod (pe_op op_add (pe_op op_add (pe_op op_add (pe_op op_mul (pe_ix ix_list (pv 0) pe_int (fun _ _ => rfl)) pe_int) (pv 4)) (pe_op op_mul pe_int (pe_ix ix_list (pv 0) pe_int (fun _ _ => rfl)))) pe_int) pe_int) (pg_sub (pv 0) pe_int set_list))
      (pss_one (ps_ret (pe_op op_mod (pe_op op_fdiv (pe_op op_mod (pe_op op_mul (pe_ix ix_list (pv 0) pe_int (fun _ _ => rfl)) (pe_ix ix_list (pv 0) pe_int (fun _ _ => rfl))) pe_int) pe_int) (pv 1)))))))))), ?_⟩
    obtain ⟨j, z, ej, jl, hz, zm⟩ := at_mod (nx := nx) ne
    have z0 := nn z zm
    have l0 : (0 : Int) < ((cells.map V.int).length : Int) := by
      have := List.length_pos_iff.mpr ne
      rw [List.length_map]
      omega
    refine ⟨_, rfl, d, _, 0, .ref c, rfl, rfl, SqL.of hd, rfl, ?_⟩
    refine ⟨_, rfl, d, _, 1, .int nx, rfl, rfl, SqL.of hd, rfl, _, rfl, c, _, rfl, .inl (SqL.of hc), _, _, rfl, rfl, l0, ?_⟩
    refine ⟨_, rfl, _, rfl, c, _, _, .int z, rfl, rfl, SqL.of hc, by rw [ej]; exact atI_nat (map_at hz), ?_⟩
    refine ⟨_, rfl, 10, 18, rfl, rfl, ⟨by decide, by decide, by decide⟩, _, _, rfl, rfl, _, rfl, ?_⟩
    refine ite2 (fun _ => ?_) (fun _ => ?_)
    · refine ⟨_, rfl, _, rfl, _, _, rfl, rfl, wide_div n0 n1 (by decide) (by decide), _, rfl, _, rfl, c, _, _, j, rfl, rfl, hc, by rw [ej]; exact ixN_nat (by rw [List.length_map]; exact jl), ?_⟩
      rw [show (cells.map V.int).set j (.int (z / n)) = (cells.set j (z / n)).map V.int by rw [List.map_set]]
      refine ⟨_, rfl, _, rfl, _, _, rfl, rfl, n0, ?_⟩
      refine k _ _ (Int.emod_nonneg _ (by omega)) (Int.emod_lt_of_pos _ n0) ⟨nx, mx, ct, _, by rw [upd_ne ncd.symm]; exact hd, upd_same, ?_, by rw [List.length_set]; exact len, ?_, a0, m0, m1, c0⟩ (fun b o _ h2 e => by rw [upd_ne h2]; exact e)
      · intro e
        have := congrArg List.length e
        rw [List.length_set] at this
        exact ne (List.length_eq_zero_iff.mp this)
      · intro y hy
        rcases List.mem_or_eq_of_mem_set hy with h | h
        · exact nn y h
        · rw [h]
          exact Int.ediv_nonneg z0 (by omega)
    · refine ⟨_, rfl, d, _, 1, .int nx, rfl, rfl, SqL.of hd, rfl, _, _, rfl, rfl, _, rfl, d, _, 1, 1, rfl, rfl, hd, rfl, ?_⟩
      refine ⟨_, rfl, d, _, 3, .int ct, rfl, rfl, SqL.of upd_same, rfl, _, _, rfl, rfl, _, rfl, d, _, 3, 3, rfl, rfl, upd_same, rfl, ?_⟩
      rw [upd_upd]
      refine ⟨_, rfl, d, _, 2, .int mx, rfl, rfl, SqL.of upd_same, rfl, _, _, rfl, rfl, .inl ⟨by omega, by omega⟩, _, rfl, _, _, rfl, rfl, _, rfl, d, _, 3, .int (ct + 1), rfl, rfl, SqL.of upd_same, rfl, _, _, rfl, rfl, .inl ⟨by decide, by decide⟩,
        _, _, rfl, rfl, _, _, rfl, rfl, _, _, rfl, rfl, (by show (0 : Int) < 2147483647; decide), _, rfl, d, _, 2, 2, rfl, rfl, upd_same, rfl, ?_⟩
      rw [upd_upd]
      obtain ⟨m, em⟩ : ∃ m, m = (mx * 48271 + z + 7919 * (ct + 1) + 12345) % 2147483647 := ⟨_, rfl⟩
      have h0 : 0 ≤ m := by rw [em]; exact Int.emod_nonneg _ (by decide)
      have h1 : m < 2147483647 := by rw [em]; exact Int.emod_lt_of_pos _ (by decide)
      refine ⟨_, rfl, d, _, 2, .int m, rfl, rfl, SqL.of upd_same, by rw [em] <;> rfl, _, rfl, d, _, 2, .int m, rfl, rfl, SqL.of upd_same, by rw [em] <;> rfl, _, _, rfl, rfl, .inl ⟨by omega, by omega⟩, _, _, rfl, rfl, (by show (0 : Int) < 2147483629; decide), _, _, rfl, rfl, ⟨by decide, by decide⟩,
        _, rfl, _, _, rfl, rfl, n0, ?_⟩
      exact k _ _ (Int.emod_nonneg _ (by omega)) (Int.emod_lt_of_pos _ n0) ⟨nx + 1, m, ct + 1, cells, by rw [upd_same, em] <;> rfl, by rw [upd_ne ncd]; exact hc, ne, len, nn, by omega, h0, h1, by omega⟩ (fun b o h2 _ e => by rw [upd_ne h2]; exact e)
theorem scPick : FnScope ["_law_draw", "_law_some"] ["_law_draw", "_law_some"] (defScope s__law_pick) := ⟨rfl, rfl, rfl, by decide +kernel, rfl, by decide +kernel, by decide +kernel⟩
theorem ok_pick {f fT : Addr} {fd fdT : FuncData} (F : Fun K "_law_pick" "_law_pick" s__law_pick f fd) (T : Nm mg) (FT : Fun K "_law_take" "_law_take" s__law_take fT fdT) (bT : Binds K fdT ["_law_draw", "_law_size"] []) (gT : mg "_law_take" = some (.ref fT)) :
    FnOk P w K mg base CX0 2 f fd ["_law_draw", "_law_some"] (spPick K) := by
  have GT : FnOk P w K mg base CX0 1 fT fdT ["_law_draw", "_law_size"] spDraw := ok_draw FT T
  refine F.ok scPick (fun vs H Q E h => ?_) (fun cdv A outer s H vs Q E hr h => ?_)
  · obtain ⟨d, c, v, n, P, rfl, _⟩ := h
    rfl
  · obtain ⟨d, c, v, n, Pr, rfl, hD, it, x0, x1, k⟩ := h
    have hr1 : Room 1 _ := hr.mono (by decide)
    refine ⟨_, pss_one (ps_ret (pe_ix ix_seq (pv 1) (pe_call GT hr1 rfl gT FT.kp bT .nil pass0 (pa_cons (pv 0) (pa_cons (pe_callB call_len (by rfl) T.len PySem.boot_len (pa_cons (pv 1) pa_nil)) pa_nil))) (fun _ _ => rfl))), ?_⟩
    have small : ∀ n : Nat, n < 1000 → ((n : Int)).natAbs < 2 ^ 200 := fun n hn => by
      rw [Int.natAbs_natCast]
      exact Nat.lt_trans hn (by decide)
    rcases it with ⟨l, xs, rfl, nd, nc, hl, en, hp⟩ | ⟨z, rfl, en, hp⟩
    · refine ⟨_, rfl, _, rfl, _, rfl, _, xs.length, rfl, .inl ⟨xs, SqL.of hl, rfl⟩, d, c, _, rfl, hD, by omega, small _ (by omega), fun i H' i0 i1 hD' off => ?_⟩
      have hi : i.toNat < xs.length := by omega
      have e : xs[i.toNat]? = some xs[i.toNat] := List.getElem?_eq_getElem hi
      have e2 := atI_nat e
      rw [show ((i.toNat : Nat) : Int) = i by omega] at e2
      exact .inl ⟨l, xs, i, xs[i.toNat], rfl, rfl, SqL.of (off l _ nd nc hl), e2, k i.toNat _ H' (hp _ _ e) hD' off⟩
    · have zl : z.length ≤ sizeLine := Nat.le_trans (by omega : z.length ≤ 1000) (by decide)
      refine ⟨_, rfl, _, rfl, _, rfl, _, z.length, rfl, ⟨zl, rfl⟩, d, c, _, rfl, hD, by omega, small _ (by omega), fun i H' i0 i1 hD' off => ?_⟩
      have hi : i.toNat < z.cps.toList.length := by
        have : z.length = z.cps.toList.length := by simp [Str.length]
        omega
      have e : z.cps.toList[i.toNat]? = some z.cps.toList[i.toNat] := List.getElem?_eq_getElem hi
      have e2 := atI_nat e
      rw [show ((i.toNat : Nat) : Int) = i by omega] at e2
      exact .inr (.inr ⟨z, i, _, rfl, rfl, zl, e2, k i.toNat _ H' (hp _ _ e) hD' off⟩)
end

/-- list(x): x a list of texts, or a dict of texts -/
def Texts (K : PySem.W.Frag) (H : Hp) (a : Addr) (ts : List Str) : Prop := SqL K H a (ts.map V.str) ∨ ∃ kvs, Rd H a (.dK kvs) ∧ kvs.map (·.1) = ts.map Sum.inr
theorem call_texts {X : Cx} (hcalm : X.calm = true) : CallR X (.type "list") (fun xs H Q => ∃ (a : Addr) (ts : List Str), xs = [.ref a] ∧ Texts X.K H a ts ∧ ∀ p, H p = none → Q (.ref p) (upd H p (.lst (ts.map V.str)))) := by
  intro pins s σ H xs us Q I r h
  obtain ⟨a, ts, rfl, t, q⟩ := h
  rcases t with t | ⟨kvs, t, e⟩
  · exact call_list_of pins s σ H _ us Q I r ⟨a, _, rfl, .inl t, q⟩
  · refine call_listD hcalm pins s σ H _ us Q I r ⟨a, kvs, rfl, t, fun p np => ?_⟩
    have ek : (kvs.map fun kv => kV kv.1) = ts.map V.str := by
      have z := congrArg (List.map kV) e
      rw [List.map_map, List.map_map] at z
      exact z
    rw [ek]
    exact q p np
theorem DrawAt.off {H : Hp} {d c p : Addr} {o : HO} (x : DrawAt H d c) (n1 : p ≠ d) (n2 : p ≠ c) : DrawAt (upd H p o) d c := by
  obtain ⟨nx, mx, ct, cells, h1, h2, r⟩ := x
  exact ⟨nx, mx, ct, cells, by rw [upd_ne n1.symm]; exact h1, by rw [upd_ne n2.symm]; exact h2, r⟩
def spOrder (K : PySem.W.Frag) : Sp := fun vs H Q _ => ∃ (d c a : Addr) (ts : List Str), vs = [.ref d, .ref a] ∧ DrawAt H d c ∧ Texts K H a ts ∧ ts.length < 900 ∧ (∀ t ∈ ts, PyData.strOk t = true) ∧
  ∀ (p : Addr) (ys : List Str) (H' : Hp), ys.Perm ts → H p = none → H' p = some (.lst (ys.map V.str)) → DrawAt H' d c → Keep d c H H' → Q (.ref p) H'
section
variable {P : Program} {w : World} {K : PySem.W.Frag} {mg : Str → Option Value} {base : Heap}
theorem scOrder : FnScope ["_law_draw", "_law_some", "_law_rest", "_law_found"] ["_law_draw", "_law_some"] (defScope s__law_order) := ⟨rfl, rfl, rfl, by decide +kernel, rfl, by decide +kernel, by decide +kernel⟩
theorem ok_order {f fT : Addr} {fd fdT : FuncData} (F : Fun K "_law_order" "_law_order" s__law_order f fd) (T : Nm mg) (FT : Fun K "_law_take" "_law_take" s__law_take fT fdT) (bT : Binds K fdT ["_law_draw", "_law_size"] []) (gT : mg "_law_take" = some (.ref fT)) :
    FnOk P w K mg base CX0 2 f fd ["_law_draw", "_law_some"] (spOrder K) := by
  have GT : FnOk P w K mg base CX0 1 fT fdT ["_law_draw", "_law_size"] spDraw := ok_draw FT T
  refine F.ok scOrder (fun vs H Q E h => ?_) (fun cdv A outer s H vs Q E hr h => ?_)
  · obtain ⟨d, c, a, ts, rfl, _⟩ := h
    rfl
  · obtain ⟨d, c, a, ts, rfl, hD, ht, few, sok, k⟩ := h
    have hr1 : Room 1 _ := hr.mono (by decide)
    refine ⟨_, pss_cons (ps_par (i := 2) (j := 3) rfl scOrder.nd rfl rfl (by decide) rfl rfl (pa_cons (pe_callTy (call_texts rfl) (by rfl) T.lst (by decide +kernel) (pa_cons (pv 1) pa_nil)) (pa_cons (pe_lst pa_nil) pa_nil)) (by rfl))
      (pss_cons (ps_while PassesOwn.never (pt_cmpR (op_neD hr.units) (pv 2) (pe_lst pa_nil) (nomark _))
        (pss_one (ps_expr (pe_bm PySem.F.plainAttrs_list PySem.F.slot_list_append PySem.F.type_list_append mt_append (pv 3) (pa_cons (pe_bm PySem.F.plainAttrs_list PySem.F.slot_list_pop PySem.F.type_list_pop mt_popAt (pv 2) (pa_cons (pe_call GT hr1 rfl gT FT.kp bT .nil pass0 (pa_cons (pv 0) (pa_cons (pe_callB call_len_seq (by rfl) T.len PySem.boot_len (pa_cons (pv 2) pa_nil)) pa_nil))) pa_nil)) pa_nil)))))
      (pss_one (ps_ret (pv 3)))), ?_⟩
    refine ⟨_, rfl, a, ts, rfl, ht, fun r nr => ⟨by show 0 ≤ sizeLine; omega, fun q nq => ⟨_, _, rfl, ?_⟩⟩⟩
    have rq : r ≠ q := ne_of_none upd_same nq
    have rd := hD.apart nr
    have qd := (hD.mono (same_new nr)).apart nq
    refine while_by (fun σ H' => σ = [some (.ref d), some (.ref a), some (.ref r), some (.ref q)] ∧ DrawAt H' d c ∧ Keep d c H H' ∧ ∃ rest found : List Str, H' r = some (.lst (rest.map V.str)) ∧ H' q = some (.lst (found.map V.str)) ∧ (found ++ rest).Perm ts) (fun _ H' => many H' r)
      ⟨rfl, (hD.mono (same_new nr)).mono (same_new nq), Keep.of_same ((same_new nr).trans (same_new nq)), ts, [], by rw [upd_ne rq, upd_same], upd_same, .refl _⟩ ?_ ?_
    · rintro σ H1 ⟨rfl, d1, k1, rest, found, er, eq, pm⟩
      have lens := pm.length_eq
      rw [List.length_append] at lens
      refine ⟨_, rfl, by show 0 ≤ sizeLine; omega, fun e ne => ⟨_, _, .lst (SqL.of (by rw [upd_ne (ne_of_none er ne)]; exact er)) (dps_strs rest), .lst (SqL.of upd_same) .nil, ?_, rfl, ?_⟩⟩
      · exact strs_shaped fun t m => sok t (pm.mem_iff.mp (List.mem_append_right _ m))
      · have s1 := same_new (o := .lst []) ne
        obtain ⟨H2, e2⟩ : ∃ X, X = upd H1 e (.lst []) := ⟨_, rfl⟩
        rw [← e2] at s1 ⊢
        have d2 := d1.mono s1
        refine ⟨_, rfl, ?_⟩
        refine ite2 (fun t => ?_) (fun t => ?_)
        · cases rest with
          | nil => cases t
          | cons y rest =>
            have er2 := s1 _ _ er
            have eq2 := s1 _ _ eq
            refine ⟨_, rfl, .inl ⟨rfl, _, SqL.of eq2⟩, _, rfl, .inl ⟨rfl, _, SqL.of er2⟩, _, rfl, _, rfl, r, _, rfl, .inl (SqL.of er2), d, c, _, rfl, d2, ?_, ?_, fun i H3 i0 i1 d3 k3 => ?_⟩
            · rw [List.length_map, List.length_cons]
              omega
            · rw [List.length_map, List.length_cons, Int.natAbs_natCast]
              rw [List.length_cons] at lens
              exact Nat.lt_trans (by omega : rest.length + 1 < 1000) (by decide)
            · rw [List.length_map] at i1
              have er3 := k3 r _ rd.1 rd.2 er2
              have eq3 := k3 q _ qd.1 qd.2 eq2
              have hi : i.toNat < (y :: rest).length := by omega
              have e0 : ((y :: rest).map V.str)[i.toNat]? = some (V.str (y :: rest)[i.toNat]) := by rw [List.getElem?_map, List.getElem?_eq_getElem hi] <;> rfl
              obtain ⟨sx, _, _, _⟩ := ixN_seq (ixN_nat (n := ((y :: rest).map V.str).length) (j := i.toNat) (by rw [List.length_map]; exact hi))
              rw [show ((i.toNat : Nat) : Int) = i by omega] at sx
              rw [List.length_cons] at lens i1
              refine ⟨r, _, i, i.toNat, _, rfl, rfl, er3, by omega, by omega, sx, e0, ?_⟩
              refine ⟨q, _, _, rfl, rfl, by rw [upd_ne rq.symm]; exact eq3, ?_, ?_⟩
              · rw [List.length_map]
                exact Nat.lt_of_lt_of_le (by omega : found.length < 1000) (by decide)
              · have er4 : (upd (upd H3 r (.lst (((y :: rest).map V.str).eraseIdx i.toNat))) q (.lst (found.map V.str ++ [V.str (y :: rest)[i.toNat]]))) r = some (.lst (((y :: rest).eraseIdx i.toNat).map V.str)) := by
                  rw [upd_ne rq, upd_same, map_erase]
                have pe : ((y :: rest)[i.toNat] :: (y :: rest).eraseIdx i.toNat).Perm (y :: rest) := erase_perm _ _ hi
                refine ⟨⟨rfl, (d3.off rd.1 rd.2).off qd.1 qd.2, fun b o b1 b2 eb => ?_, _, found ++ [(y :: rest)[i.toNat]], er4, by rw [upd_same, List.map_append] <;> rfl, ?_⟩, ?_⟩
                · have n1 : b ≠ r := ne_of_none eb nr
                  have n2 : b ≠ q := ne_of_none (same_new nr b o eb) nq
                  rw [upd_ne n2, upd_ne n1]
                  exact k3 b o b1 b2 (s1 b o (k1 b o b1 b2 eb))
                · rw [List.append_assoc]
                  exact ((List.Perm.refl found).append pe).trans pm
                · show many _ r < many H1 r
                  rw [many_at er4, many_at er, List.length_map, List.length_map, List.length_eraseIdx, if_pos hi, List.length_cons]
                  omega
        · cases rest with
          | cons y rest => exact absurd rfl t
          | nil =>
            have k2 : Keep d c H H2 := k1.trans (Keep.of_same s1)
            rw [List.append_nil] at pm
            have nq0 : H q = none := by
              cases z : H q with
              | none => rfl
              | some o =>
                rw [same_new nr q o z] at nq
                cases nq
            exact ⟨_, rfl, k q found H2 pm nq0 (s1 _ _ eq) d2 k2⟩
    · exact fun σ H Q Q' hm ⟨v, e, z, f⟩ => ⟨v, e, z, fun p np => let ⟨d1, d2, a1, a2, a3, a4, b, eb, q⟩ := f p np; ⟨d1, d2, a1, a2, a3, a4, b, eb, hm _ _ q⟩⟩
end

def pool1 : List Str := ["a", "b", "c", "aa", "ab", "z", "zz", "new", "old", "abcdefgh", "zzzzzzzz", "size", "must", "users", "none"]
def pool2 : List Str := ["a", "b", "c", "d", "e", "f", "g", "h", "i", "j", "k", "l"]
theorem pool_ok : (∀ z ∈ pool1, NameL z) ∧ (∀ z ∈ pool2, NameL z) := by decide +kernel
theorem pool_nd : pool1.Nodup ∧ pool2.Nodup := by decide +kernel
theorem pool_str : (∀ z ∈ pool1, PyData.strOk z = true) ∧ (∀ z ∈ pool2, PyData.strOk z = true) := by decide +kernel
def spNames : Sp := fun vs H Q _ => ∃ (d c : Addr) (n : Nat), vs = [.ref d, .int (n : Int)] ∧ DrawAt H d c ∧ 1 ≤ n ∧ n ≤ 12 ∧
  ∀ (l : Addr) (fs : List Str) (H' : Hp), fs.length = n → fs.Nodup → (∀ z ∈ fs, NameL z) → (∀ z ∈ fs, PyData.strOk z = true) → H l = none → H' l = some (.lst (fs.map V.str)) → DrawAt H' d c → Keep d c H H' → Q (.ref l) H'
theorem Keep.put {d c p : Addr} {H H' : Hp} {o : HO} (k : Keep d c H H') (n : H p = none) : Keep d c H (upd H' p o) := fun b u h1 h2 e => by
  rw [upd_ne (ne_of_none e n)]
  exact k b u h1 h2 e
theorem Keep.free {d c p : Addr} {H H' : Hp} (k : Keep d c H H') (n : H' p = none) (n1 : p ≠ d) (n2 : p ≠ c) : H p = none := by
  cases e : H p with
  | none => rfl
  | some o =>
    rw [k p o n1 n2 e] at n
    cases n
section
variable {P : Program} {w : World} {K : PySem.W.Frag} {mg : Str → Option Value} {base : Heap}
theorem scNames : FnScope ["_law_draw", "_law_many", "_law_pool"] ["_law_draw", "_law_many"] (defScope s__law_names) := ⟨rfl, rfl, rfl, by decide +kernel, rfl, by decide +kernel, by decide +kernel⟩
theorem ok_names {f fT fO : Addr} {fd fdT fdO : FuncData} (F : Fun K "_law_names" "_law_names" s__law_names f fd) (T : Nm mg) (FT : Fun K "_law_take" "_law_take" s__law_take fT fdT) (bT : Binds K fdT ["_law_draw", "_law_size"] []) (gT : mg "_law_take" = some (.ref fT))
    (FO : Fun K "_law_order" "_law_order" s__law_order fO fdO) (bO : Binds K fdO ["_law_draw", "_law_some"] []) (gO : mg "_law_order" = some (.ref fO)) : FnOk P w K mg base CX0 3 f fd ["_law_draw", "_law_many"] spNames := by
  have GT : FnOk P w K mg base CX0 1 fT fdT ["_law_draw", "_law_size"] spDraw := ok_draw FT T
  have GO : FnOk P w K mg base CX0 2 fO fdO ["_law_draw", "_law_some"] (spOrder K) := ok_order FO T FT bT gT
  refine F.ok scNames (fun vs H Q E h => ?_) (fun cdv A outer s H vs Q E hr h => ?_)
  · obtain ⟨d, c, n, rfl, _⟩ := h
    rfl
  · obtain ⟨d, c, n, rfl, hD, n1, n12, k⟩ := h
    have hr1 : Room 1 _ := hr.mono (by decide)
    have hr2 : Room 2 _ := hr.mono (by decide)
    refine ⟨_, pss_cons (ps_set (i := 2) scNames.nd rfl (.inl rfl) (pe_lst (pa_cons pe_str (pa_cons pe_str (pa_cons pe_str (pa_cons pe_str (pa_cons pe_str (pa_cons pe_str (pa_cons pe_str (pa_cons pe_str (pa_cons pe_str (pa_cons pe_str (pa_cons pe_str (pa_cons pe_str (pa_cons pe_str (pa_cons pe_str (pa_cons pe_str pa_nil)))))))))))))))))
      (pss_cons (ps_if (pt_cmpR op_eq (pe_call GT hr1 rfl gT FT.kp bT .nil pass0 (pa_cons (pv 0) (pa_cons pe_int pa_nil))) pe_int (nomark _))
        (pss_one (ps_set (i := 2) scNames.nd rfl (.inl rfl) (pe_lst (pa_cons pe_str (pa_cons pe_str (pa_cons pe_str (pa_cons pe_str (pa_cons pe_str (pa_cons pe_str (pa_cons pe_str (pa_cons pe_str (pa_cons pe_str (pa_cons pe_str (pa_cons pe_str (pa_cons pe_str pa_nil))))))))))))))) pss_nil)
      (pss_one (ps_ret (pe_slice sl_list (pe_call GO hr2 rfl gO FO.kp bO .nil pass0 (pa_cons (pv 0) (pa_cons (pv 2) pa_nil))) po_none (po_some (pv 1)))))), ?_⟩
    have big : 1000 ≤ sizeLine := by decide
    -- the rest, from any pool
    have rest : ∀ (pool : List Str) (p : Addr) (H1 : Hp), H1 p = some (.lst (pool.map V.str)) → p ≠ d → p ≠ c → DrawAt H1 d c → Keep d c H H1 → 12 ≤ pool.length → pool.length < 900 → pool.Nodup → (∀ z ∈ pool, NameL z) → (∀ z ∈ pool, PyData.strOk z = true) →
        tRet (tSl (rSlL K) (tCall (spOrder K) [] E0 (tCons (tVar 0) (tCons (tVar 2) tNil))) tNoPart (tPart (tVar 1))) { nx := fun _ H' => Q .non H', rt := Q } [some (.ref d), some (.int (n : Int)), some (.ref p)] H1 := by
      intro pool p H1 e1 pd pc d1 k1 l12 few nd ok sok
      refine ⟨_, rfl, _, rfl, d, c, p, pool, rfl, d1, .inl (SqL.of e1), few, sok, fun r ys H2 pm nr er d2 k2 => ?_⟩
      have ly := pm.length_eq
      have rd := d1.apart nr
      refine ⟨_, rfl, _, rfl, r, ys.map V.str, rfl, SqL.of er, fun q nq => ?_⟩
      rw [cut_take (by rw [List.length_map]; omega), ← List.map_take]
      have qd := d2.apart nq
      have sub : ∀ z ∈ ys.take n, z ∈ pool := fun z hz => pm.mem_iff.mp (List.mem_of_mem_take hz)
      exact k q _ _ (by rw [List.length_take]; omega) ((pm.nodup_iff.mpr nd).sublist (List.take_sublist _ _)) (fun z hz => ok z (sub z hz)) (fun z hz => sok z (sub z hz)) ((k1.trans k2).free nq qd.1 qd.2) upd_same (d2.mono (same_new nq)) ((k1.trans k2).trans (Keep.of_same (same_new nq)))
    refine ⟨by show 15 ≤ sizeLine; omega, fun p np => ?_⟩
    have s1 := same_new (o := .lst (pool1.map V.str)) np
    have pd := hD.apart np
    refine ⟨_, rfl, d, c, 2, rfl, hD.mono s1, by decide, by decide, fun i H2 i0 i1 d2 k2 => ?_⟩
    have e2 := k2 p _ pd.1 pd.2 (upd_same : upd H p (.lst (pool1.map V.str)) p = some (.lst (pool1.map V.str)))
    have K2 : Keep d c H H2 := (Keep.of_same s1).trans k2
    refine ⟨rfl, _, rfl, ?_⟩
    refine ite2 (fun _ => ?_) (fun _ => ?_)
    · refine ⟨by show 12 ≤ sizeLine; omega, fun q nq => ?_⟩
      have qd := d2.apart nq
      exact rest pool2 q _ upd_same qd.1 qd.2 (d2.mono (same_new nq)) (K2.trans (Keep.of_same (same_new nq))) (by decide) (by decide) pool_nd.2 pool_ok.2 pool_str.2
    · exact rest pool1 p _ e2 pd.1 pd.2 d2 K2 (by decide) (by decide) pool_nd.1 pool_ok.1 pool_str.1
end
end FT


namespace FT
open PySem L2 TL ClX
def spParents : Sp := fun vs H Q _ => ∃ (d c : Addr) (n : Nat), vs = [.ref d, .int (n : Int)] ∧ DrawAt H d c ∧ 1 ≤ n ∧ n ≤ 12 ∧
  ∀ (q : Addr) (t : List (Str × Str)) (H' : Hp), TreeOk t → t.length = n → H q = none → H' q = some (.dK (prs t)) → DrawAt H' d c → Keep d c H H' → Q (.ref q) H'
def spPath : Sp := fun vs H Q _ => ∃ (q : Addr) (a : Str) (t : List (Str × Str)), vs = [.ref q, .str a] ∧ Rd H q (.dK (prs t)) ∧ TreeOk t ∧ Pl t a ∧ ∀ p H', Same H H' → H p = none → H' p = some (.tup ((pathOf t a).map V.str)) → Q (.ref p) H'
theorem fresh_at {fs l : List Str} {j : Nat} {f : Str} (nd : fs.Nodup) (h : fs[j]? = some f) (e : l = fs.take j) : f ∉ l := by
  rw [e]
  intro hm
  obtain ⟨i, hi⟩ := List.mem_iff_getElem?.mp hm
  have hi2 := (List.getElem?_eq_some_iff.mp hi).1
  have jl := (List.getElem?_eq_some_iff.mp h).1
  rw [List.length_take] at hi2
  rw [List.getElem?_take, if_pos (by omega)] at hi
  have := (List.getElem?_inj (by omega) nd).mp (hi.trans h.symm)
  omega
section
variable {P : Program} {w : World} {K : PySem.W.Frag} {mg : Str → Option Value} {base : Heap}
abbrev NPa : List Str := ["_law_draw", "_law_many", "_law_names_here", "_law_way", "_law_found", "_law_at", "_law_name"]
theorem scPa : FnScope NPa ["_law_draw", "_law_many"] (defScope s__law_parents) := ⟨rfl, rfl, rfl, by decide +kernel, rfl, by decide +kernel, by decide +kernel⟩
theorem ok_parents {f fT fP fO fN : Addr} {fd fdT fdP fdO fdN : FuncData} (F : Fun K "_law_parents" "_law_parents" s__law_parents f fd) (T : Nm mg) (DT : Dn P w K mg base CX0 1 "_law_take" ["_law_draw", "_law_size"] spDraw fT fdT) (DP : Dn P w K mg base CX0 2 "_law_pick" ["_law_draw", "_law_some"] (spPick K) fP fdP)
    (DO : Dn P w K mg base CX0 2 "_law_order" ["_law_draw", "_law_some"] (spOrder K) fO fdO) (DN : Dn P w K mg base CX0 3 "_law_names" ["_law_draw", "_law_many"] spNames fN fdN) : FnOk P w K mg base CX0 4 f fd ["_law_draw", "_law_many"] spParents := by
  refine F.ok scPa (fun vs H Q E h => ?_) (fun cdv A outer s H vs Q E hr h => ?_)
  · obtain ⟨d, c, n, rfl, _⟩ := h
    rfl
  · obtain ⟨d, c, n, rfl, hD, n1, n12, k⟩ := h
    have hu := hu_of hr
    have hr1 : Room 1 _ := hr.mono (by decide)
    have hr2 : Room 2 _ := hr.mono (by decide)
    have big : 1000 ≤ sizeLine := by decide
    refine ⟨_, pss_cons (ps_asg (pe_tup (pa_cons (pe_call DN.ok hr rfl DN.mgn DN.kp DN.bn .nil pass0 (pa_cons (pv 0) (pa_cons (pv 1) pa_nil))) (pa_cons (pe_call DT.ok hr1 rfl DT.mgn DT.kp DT.bn .nil pass0 (pa_cons (pv 0) (pa_cons pe_int pa_nil))) (pa_cons pe_dnewK pa_nil))))
        (pg_tup rfl (pgs_cons (pg_name (i := 2) scPa.nd rfl (.inl rfl)) (pgs_cons (pg_name (i := 3) scPa.nd rfl (.inl rfl)) (pgs_cons (pg_name (i := 4) scPa.nd rfl (.inr rfl)) pgs_nil)))))
      (pss_cons (ps_for PassesOwn.never rfl (pi_enum rfl T.enu (pa_cons (pv 2) pa_nil)) (pg_tup rfl (pgs_cons (pg_name (i := 5) scPa.nd rfl (.inl rfl)) (pgs_cons (pg_name (i := 6) scPa.nd rfl (.inl rfl)) pgs_nil)))
        (pss_cons (ps_dput hu (pv 4) (pv 6) (pe_call DP.ok hr2 rfl DP.mgn DP.kp DP.bn .nil pass0 (pa_cons (pv 0) (pa_cons (pe_op op_cat (pe_lst (pa_cons pe_str pa_nil)) (pe_slice sl_list (pv 2) po_none (po_some (pv 5)))) pa_nil))) rfl)
        (pss_cons (ps_if (pt_cmpR op_eq (pv 3) pe_int (nomark _)) (pss_one (ps_dput hu (pv 4) (pv 6) (pe_ix ix_list (pe_op op_cat (pe_lst (pa_cons pe_str pa_nil)) (pv 2)) (pv 5) (fun _ _ => rfl)) rfl)) pss_nil)
        (pss_one (ps_if (pt_cmpR op_eq (pv 3) pe_int (nomark _)) (pss_one (ps_dput hu (pv 4) (pv 6) (pe_ix ix_list (pe_op op_cat (pe_lst (pa_cons pe_str (pa_cons pe_str pa_nil))) (pv 2)) (pv 5) (fun _ _ => rfl)) rfl)) pss_nil)))))
      (pss_one (ps_ret (pe_callTy (call_dictP rfl) (by rfl) T.dct (by decide +kernel) (pa_cons (pe_lc (own := [("_law_name", 6)]) (g := gName 6) (tt := tYes) (te := tTup (tCons (tVar 6) (tCons (tDGet (tVar 4) (tVar 6)) tNil))) rfl scPa.nd (pi_list (pe_call DO.ok hr2 rfl DO.mgn DO.kp DO.bn .nil pass0 (pa_cons (pv 0) (pa_cons (pv 2) pa_nil))))
        (blkOk_by (N := NPa) (sc := defScope s__law_parents) (by decide +kernel))
        (fun _ _ _ _ _ => pg_name (i := 6) scPa.nd rfl (Or.inl rfl)) (fun _ _ _ _ _ => pts_nil) (fun _ _ _ _ _ => pe_tup (pa_cons (pv 6) (pa_cons (pe_dget hu (pv 4) (pv 6) (fun _ _ => rfl)) pa_nil)))) pa_nil))))), ?_⟩
    refine ⟨_, rfl, _, rfl, d, c, n, rfl, hD, n1, n12, fun pn fs H1 ln nd ok sok npn hn dr1 k1 => ?_⟩
    have pnd := hD.apart npn
    refine ⟨_, rfl, d, c, 5, rfl, dr1, by decide, by decide, fun way H2 w0 w5 dr2 k2 q nq => ⟨by show 3 ≤ sizeLine; omega, fun tp ntp => ⟨tp, _, rfl, .inl (.inl upd_same), rfl, ?_⟩⟩⟩
    have hn2 := k2 pn _ pnd.1 pnd.2 hn
    have K2 : Keep d c H H2 := k1.trans k2
    obtain ⟨H3, e3⟩ : ∃ X, X = upd (upd H2 q (.dK [])) tp (.tup [.ref pn, .int way, .ref q]) := ⟨_, rfl⟩
    have s23 : Same H2 H3 := e3 ▸ (same_new nq).trans (same_new ntp)
    have dr3 := dr2.mono s23
    have qd := dr2.apart nq
    have hq3 : H3 q = some (.dK []) := by rw [e3]; exact same_new ntp _ _ upd_same
    have hn3 := s23 _ _ hn2
    rw [← e3]
    have nq0 : H q = none := K2.free nq qd.1 qd.2
    refine ⟨_, _, rfl, _, _, rfl, _, _, rfl, rfl, ?_⟩
    refine ⟨_, rfl, pn, fs.map V.str, rfl, SqL.of hn3, ?_⟩
    refine for_it walk_enum (fun j σ' H' => (∃ u5 u6, σ' = [some (.ref d), some (.int (n : Int)), some (.ref pn), some (.int way), some (.ref q), u5, u6]) ∧ DrawAt H' d c ∧ H' pn = some (.lst (fs.map V.str)) ∧ Keep d c H H' ∧
      ∃ t : List (Str × Str), H' q = some (.dK (prs t)) ∧ t.map Prod.fst = fs.take j ∧ ∀ (i : Nat) (p : Str × Str), t[i]? = some p → p.2 = "" ∨ p.2 ∈ fs.take i)
      ⟨⟨_, _, rfl⟩, dr3, hn3, K2.trans (Keep.of_same s23), [], hq3, by rw [List.take_zero] <;> rfl, fun i p h => by simp at h⟩ (fun j σ' H' _ q => SqL.of q.2.2.1) ?_ ?_
    · intro j TT σ' Ha Hb hj ⟨⟨u5, u6, e⟩, da, hna, ka, t, hq, et, up⟩ ⟨T', y, z, eT, nT, eH, ey, ez⟩
      subst e
      subst eT
      subst eH
      cases ey
      rw [List.length_map] at hj
      obtain ⟨f, hf, rfl⟩ := map_of (show (fs.map V.str)[j]? = some z from ez)
      have tlen := congrArg List.length et
      rw [List.length_map, List.length_take] at tlen
      have fresh : f ∉ t.map Prod.fst := fresh_at nd hf et
      obtain ⟨H4, e4⟩ : ∃ X, X = upd Ha T' (.tup [.int (j : Int), .str f]) := ⟨_, rfl⟩
      have sT : Same Ha H4 := e4 ▸ same_new nT
      have a4 : H4 T' = some (.tup [.int (j : Int), .str f]) := by rw [e4]; exact upd_same
      rw [← e4]
      have hna4 := sT _ _ hna
      have hq4 := sT _ _ hq
      have da4 := da.mono sT
      refine ⟨T', _, rfl, .inl (.inl a4), rfl, ?_⟩
      refine ⟨_, _, rfl, _, _, rfl, rfl, ?_⟩
      -- the drawn parent
      refine ⟨_, rfl, by show 1 ≤ sizeLine; omega, fun p1 m1 => ⟨_, rfl, _, rfl, _, rfl, pn, fs.map V.str, rfl, SqL.of (by rw [upd_ne (ne_of_none hna4 m1)]; exact hna4), fun p2 m2 => ⟨p1, p2, [.str ""], _, rfl, rfl, by rw [upd_ne (ne_of_none upd_same m2), upd_same], upd_same, ?_, fun pa ma => ?_⟩⟩⟩
      · have := cutV_length (fs.map V.str) none (some (j : Int))
        rw [List.length_map] at this
        show 1 + _ ≤ sizeLine
        omega
      rw [cut_take (by rw [List.length_map]; omega), ← List.map_take] at ma ⊢
      obtain ⟨H5, e5⟩ : ∃ X, X = upd (upd (upd H4 p1 (.lst [.str ""])) p2 (.lst ((fs.take j).map V.str))) pa (.lst ([.str ""] ++ (fs.take j).map V.str)) := ⟨_, rfl⟩
      have s5 : Same H4 H5 := e5 ▸ ((same_new m1).trans (same_new m2)).trans (same_new ma)
      have at5 : H5 pa = some (.lst ((("" : Str) :: fs.take j).map V.str)) := by rw [e5, upd_same] <;> rfl
      have pad : pa ≠ d ∧ pa ≠ c := ((da4.mono (same_new m1)).mono (same_new m2)).apart ma
      rw [← e5]
      have dr5 := da4.mono s5
      refine ⟨d, c, _, (("" : Str) :: fs.take j).length, (fun _ x => ∃ z, x = .str z ∧ z ∈ (("" : Str) :: fs.take j)), rfl, dr5, .inl ⟨pa, _, rfl, pad.1, pad.2, at5, by rw [List.length_map], items_strs fun z hz => hz⟩, Nat.succ_pos _, by rw [List.length_cons, List.length_take]; omega, fun i x H6 px dr6 k6 => ?_⟩
      obtain ⟨z, rfl, mz⟩ := px
      have hz0 : z = "" ∨ z ∈ fs.take j := List.mem_cons.mp mz
      have hq6 := k6 q _ qd.1 qd.2 (s5 _ _ hq4)
      have hn6 := k6 pn _ pnd.1 pnd.2 (s5 _ _ hna4)
      refine ⟨_, rfl, _, rfl, q, _, rfl, DPut.k (k := Sum.inr f) hq6 (by rw [prs_len]; omega), ?_⟩
      rw [put_new fresh]
      have K6 : Keep d c H H6 := ((ka.trans (Keep.of_same sT)).trans (Keep.of_same s5)).trans k6
      obtain ⟨H7, e7⟩ : ∃ X, X = upd H6 q (.dK (prs (t ++ [(f, z)]))) := ⟨_, rfl⟩
      have hq7 : H7 q = some (.dK (prs (t ++ [(f, z)]))) := by rw [e7]; exact upd_same
      have dr7 : DrawAt H7 d c := by rw [e7]; exact dr6.off qd.1 qd.2
      have qn : pn ≠ q := ne_of hn6 hq6 (by intro z; cases z)
      have hn7 : H7 pn = some (.lst (fs.map V.str)) := by rw [e7, upd_ne qn]; exact hn6
      have K7 : Keep d c H H7 := by rw [e7]; exact K6.put nq0
      rw [← e7]
      have lj : j < fs.length := by omega
      -- an item of the list with roots in front
      have row : ∀ (m : Nat) (hm : 1 ≤ m), ∃ zz, ((List.replicate m (V.str "")) ++ fs.map V.str)[j]? = some (.str zz) ∧ (zz = "" ∨ zz ∈ fs.take j) := fun m hm => by
        by_cases lt : j < m
        · exact ⟨"", by rw [List.getElem?_append_left (by rw [List.length_replicate]; exact lt), List.getElem?_replicate, if_pos lt], .inl rfl⟩
        · refine ⟨fs[j - m]'(by omega), ?_, .inr ?_⟩
          · rw [List.getElem?_append_right (by rw [List.length_replicate]; omega), List.length_replicate, List.getElem?_map, List.getElem?_eq_getElem (by omega)] <;> rfl
          · rw [List.mem_take_iff_getElem]
            exact ⟨j - m, by omega, rfl⟩
      -- the end of a turn
      have fin : ∀ (z' : Str) (H' : Hp), (z' = "" ∨ z' ∈ fs.take j) → DrawAt H' d c → H' pn = some (.lst (fs.map V.str)) → Keep d c H H' → H' q = some (.dK (prs (t ++ [(f, z')]))) →
          (∃ u5 u6, ([some (.ref d), some (.int (n : Int)), some (.ref pn), some (.int way), some (.ref q), some (.int (j : Int)), some (.str f)] : St) = [some (.ref d), some (.int (n : Int)), some (.ref pn), some (.int way), some (.ref q), u5, u6]) ∧ DrawAt H' d c ∧ H' pn = some (.lst (fs.map V.str)) ∧ Keep d c H H' ∧
          ∃ t : List (Str × Str), H' q = some (.dK (prs t)) ∧ t.map Prod.fst = fs.take (j + 1) ∧ ∀ (i : Nat) (p : Str × Str), t[i]? = some p → p.2 = "" ∨ p.2 ∈ fs.take i := fun z' H' hz' d' n' k' q' => by
        refine ⟨⟨_, _, rfl⟩, d', n', k', t ++ [(f, z')], q', by rw [List.map_append, et, take_more hf] <;> rfl, fun i p h => ?_⟩
        by_cases hi : i < t.length
        · rw [List.getElem?_append_left hi] at h
          exact up i p h
        · have hl := (List.getElem?_eq_some_iff.mp h).1
          rw [List.length_append] at hl
          have one : ([(f, z')] : List (Str × Str)).length = 1 := rfl
          have ei : i = t.length := by omega
          subst ei
          rw [List.getElem?_append_right (Nat.le_refl _), Nat.sub_self] at h
          have ep : (f, z') = p := Option.some.inj h
          subst ep
          rw [show t.length = j by omega]
          exact hz'
      refine ⟨_, rfl, rfl, _, rfl, ?_⟩
      refine ite2 (fun y0 => ?_) (fun n0 => ?_)
      · -- a chain
        have e0 : way = 0 := V.int.inj (of_decide_eq_true y0)
        subst e0
        obtain ⟨zz, hz, hz'⟩ := row 1 (Nat.le_refl _)
        refine ⟨by show 1 ≤ sizeLine; omega, fun p1 m1 => ⟨_, rfl, p1, pn, [.str ""], fs.map V.str, rfl, rfl, upd_same, by rw [upd_ne (ne_of_none hn7 m1)]; exact hn7, by rw [List.length_map]; show 1 + _ ≤ sizeLine; omega, fun p2 m2 => ?_⟩⟩
        obtain ⟨H8, e8⟩ : ∃ X, X = upd (upd H7 p1 (.lst [.str ""])) p2 (.lst ([.str ""] ++ fs.map V.str)) := ⟨_, rfl⟩
        have s8 : Same H7 H8 := e8 ▸ (same_new m1).trans (same_new m2)
        have a8 : H8 p2 = some (.lst ([.str ""] ++ fs.map V.str)) := by rw [e8]; exact upd_same
        rw [← e8]
        refine ⟨_, rfl, p2, _, _, .str zz, rfl, rfl, SqL.of a8, atI_nat hz, ?_⟩
        have hq8 := s8 _ _ hq7
        refine ⟨_, rfl, _, rfl, q, _, rfl, DPut.k (k := Sum.inr f) hq8 (by rw [prs_len, List.length_append]; show _ + 1 < _; omega), ?_⟩
        rw [put_old fresh]
        refine ⟨_, rfl, rfl, _, rfl, iteF ?_⟩
        exact fin zz _ hz' ((dr7.mono s8).off qd.1 qd.2) (by rw [upd_ne qn]; exact s8 _ _ hn7) ((K7.trans (Keep.of_same s8)).put nq0) upd_same
      · refine ⟨_, rfl, rfl, _, rfl, ?_⟩
        refine ite2 (fun y1 => ?_) (fun n1 => ?_)
        · -- two chains
          have e0 : way = 1 := V.int.inj (of_decide_eq_true y1)
          subst e0
          obtain ⟨zz, hz, hz'⟩ := row 2 (by omega)
          refine ⟨by show 2 ≤ sizeLine; omega, fun p1 m1 => ⟨_, rfl, p1, pn, [.str "", .str ""], fs.map V.str, rfl, rfl, upd_same, by rw [upd_ne (ne_of_none hn7 m1)]; exact hn7, by rw [List.length_map]; show 2 + _ ≤ sizeLine; omega, fun p2 m2 => ?_⟩⟩
          obtain ⟨H8, e8⟩ : ∃ X, X = upd (upd H7 p1 (.lst [.str "", .str ""])) p2 (.lst ([.str "", .str ""] ++ fs.map V.str)) := ⟨_, rfl⟩
          have s8 : Same H7 H8 := e8 ▸ (same_new m1).trans (same_new m2)
          have a8 : H8 p2 = some (.lst ([.str "", .str ""] ++ fs.map V.str)) := by rw [e8]; exact upd_same
          rw [← e8]
          refine ⟨_, rfl, p2, _, _, .str zz, rfl, rfl, SqL.of a8, atI_nat hz, ?_⟩
          have hq8 := s8 _ _ hq7
          refine ⟨_, rfl, _, rfl, q, _, rfl, DPut.k (k := Sum.inr f) hq8 (by rw [prs_len, List.length_append]; show _ + 1 < _; omega), ?_⟩
          rw [put_old fresh]
          exact fin zz _ hz' ((dr7.mono s8).off qd.1 qd.2) (by rw [upd_ne qn]; exact s8 _ _ hn7) ((K7.trans (Keep.of_same s8)).put nq0) upd_same
        · exact fin z H7 hz0 dr7 hn7 K7 hq7
    · intro σ' H4 ⟨⟨u5, u6, e⟩, da, hna, ka, t, hq, et, up⟩
      subst e
      rw [List.length_map, List.take_length] at et
      have lt := congrArg List.length et
      rw [List.length_map] at lt
      have tr : TreeOk t := tree_of (by omega) (by omega) (by rw [et]; exact nd) (by rw [et]; exact ok) (by rw [et]; exact up)
      refine ⟨_, rfl, _, rfl, d, c, pn, fs, rfl, da, .inl (SqL.of hna), by omega, sok, fun r ys H5 pm nr er d5 k5 => ⟨r, rfl, ⟨_, SqL.of er⟩, fun D nD => ?_⟩⟩
      have hq5 := k5 q _ qd.1 qd.2 hq
      have rd := da.apart nr
      have Dd := d5.apart nD
      have ly := pm.length_eq
      refine lc_it walk_list (fun i H' => Same H5 H' ∧ ∃ rs : List Addr, H' D = some (.lst (rs.map V.ref)) ∧ PrG (fun a => .str ((par t a).getD "")) H' rs (ys.take i)) ⟨same_new nD, [], upd_same, .nil⟩ (fun i H' _ z => SqL.of (z.1 _ _ er)) ?_ ?_
      · intro i y Ha Hb hi ⟨q1, rs, hD, pr⟩ ⟨eb, ex⟩
        subst eb
        obtain ⟨a, ha, rfl⟩ := map_of ex
        have ma : a ∈ t.map Prod.fst := by rw [et]; exact pm.mem_iff.mp (List.mem_of_getElem? ha)
        obtain ⟨pa, hp⟩ := par_some tr.nd ma
        have lr := pr.len
        rw [List.length_take] at lr
        refine ⟨rfl, ?_⟩
        refine ⟨_, rfl, _, rfl, _, rfl, q, .str pa, rfl, ?_, by show 2 ≤ sizeLine; omega, fun tq ntq => ?_⟩
        · have z := DGet.k (k := Sum.inr a) (q1 _ _ hq5)
          rw [val_prs, hp] at z
          exact z
        · have sq : Same Hb (upd Hb tq (.tup [.str a, .str pa])) := same_new ntq
          refine ⟨_, sq _ _ hD, by rw [List.length_map]; omega, (q1.trans sq).put nD, rs ++ [tq], by rw [upd_same, List.map_append] <;> rfl, ?_⟩
          rw [take_more ha]
          refine PrG.push (sq _ _ hD) (PrG.snoc ?_ (pr.mono sq))
          rw [upd_same, hp] <;> rfl
      · intro H6 ⟨q1, rs, hD, pr⟩
        rw [List.length_map, List.take_length] at pr
        refine ⟨D, rs, _, rfl, SqL.of hD, pr.kvs, fun p np => ?_⟩
        have ndy : ys.Nodup := pm.nodup_iff.mpr nd
        rw [merge_nd (by rw [map_fst]; exact ndy)]
        have K5 : Keep d c H H6 := (ka.trans k5).trans (Keep.of_same q1)
        have d6 := d5.mono q1
        have pd := d6.apart np
        have pairs : (ys.map fun a => (a, (par t a).getD "")).Perm t := by
          refine perm_pairs tr.nd ?_ fun x hx => ?_
          · rw [List.map_map, et]
            have e : (Prod.fst ∘ fun a : Str => (a, (par t a).getD "")) = id := rfl
            rw [e, List.map_id]
            exact pm
          · obtain ⟨a, ha, rfl⟩ := List.mem_map.mp hx
            obtain ⟨pa, hp⟩ := par_some tr.nd (show a ∈ t.map Prod.fst by rw [et]; exact pm.mem_iff.mp ha)
            rw [hp]
            exact par_mem hp
        refine k p (ys.map fun a => (a, (par t a).getD "")) _ (tr.perm pairs.symm) (by rw [List.length_map]; omega) (K5.free np pd.1 pd.2) ?_ (d6.mono (same_new np)) (K5.trans (Keep.of_same (same_new np)))
        rw [upd_same]
        unfold prs
        rw [List.map_map] <;> rfl
end
end FT


/-! feasible sizes, dealt out name by name (plain maths) -/
namespace FT
open PySem L2 TL ClX
/-! ### sizes that are drawn -/
theorem szOf_tbl {l : List Str} {sz : Str → Int} {a : Str} (h : a ∈ l) : szOf (tblI l sz) a = sz a := by
  unfold szOf
  rw [tblI_val h]
theorem kids_sub {t : List (Str × Str)} {p a : Str} (h : a ∈ kids t p) : a ∈ t.map Prod.fst := by
  obtain ⟨q, hq, rfl⟩ := List.mem_map.mp h
  exact List.mem_map.mpr ⟨q, (List.mem_filter.mp hq).1, rfl⟩
theorem resid_congr {t : List (Str × Str)} {n : Int} {sz sz' : Str → Int} {p : Str} (h : ∀ a ∈ t.map Prod.fst, sz a = sz' a) (hp : p = "" ∨ sz p = sz' p) : resid t n sz p = resid t n sz' p := by
  unfold resid
  rw [List.map_congr_left fun a ha => h a (kids_sub ha)]
  by_cases e : p = ""
  · rw [if_pos e, if_pos e]
  · rw [if_neg e, if_neg e, hp.resolve_left e]
/-- feasible sizes for n users -/
structure Fea (t : List (Str × Str)) (n : Int) (sz : Str → Int) : Prop where
  nn : ∀ a ∈ t.map Prod.fst, 0 ≤ sz a
  res : ∀ p ∈ (("" : Str) :: t.map Prod.fst), 0 ≤ resid t n sz p
theorem Fea.perm {t u : List (Str × Str)} {n : Int} {sz : Str → Int} (p : t.Perm u) (f : Fea t n sz) : Fea u n sz :=
  ⟨fun a ha => f.nn a ((p.map _).mem_iff.mpr ha), fun q hq => by rw [← resid_perm p]; exact f.res q ((List.mem_cons.mp hq).elim (fun e => e ▸ List.mem_cons_self ..) fun m => List.mem_cons_of_mem _ ((p.map Prod.fst).mem_iff.mpr m))⟩
theorem Fea.ok {CS : Addr} {ts : List (Str × Str)} {n : Int} {sz : Str → Int} {l : List Str} (f : Fea ts n sz) (p : l.Perm (ts.map Prod.fst)) : feE CS ts n (some (tblI l sz)) = none := by
  have e1 : ∀ a ∈ ts.map Prod.fst, valV (tblI l sz) (Sum.inr a) = some (.int (sz a)) := fun a ha => tblI_val (p.mem_iff.mpr ha)
  have ll := p.length_eq
  rw [List.length_map] at ll
  unfold feE
  rw [feas_some, if_neg (by rw [tblI_len]; exact fun z => z ll), if_neg]
  · have e2 : (ts.map Prod.fst).find? (badKey (tblI l sz)) = none := List.find?_eq_none.mpr fun a ha z => by
      unfold badKey at z
      rw [e1 a ha] at z
      have z' : (!decide ((0 : Int) ≤ sz a)) = true := z
      rw [decide_eq_true (f.nn a ha)] at z'
      cases z'
    rw [e2]
    have e3 : ((("" : Str) :: ts.map Prod.fst).find? fun p => decide (resid ts n (szOf (tblI l sz)) p < 0)) = none := List.find?_eq_none.mpr fun q hq z => by
      have z' := of_decide_eq_true z
      rw [resid_congr (sz' := sz) (fun a ha => szOf_tbl (p.mem_iff.mpr ha)) ((List.mem_cons.mp hq).imp id fun h => szOf_tbl (p.mem_iff.mpr h))] at z'
      have := f.res q hq
      omega
    show Option.map _ (Option.map V.str (List.find? _ _)) = none
    rw [e3] <;> rfl
  · intro z
    have : ((ts.map Prod.fst).all fun a => (valV (tblI l sz) (Sum.inr a)).isSome) = true := List.all_eq_true.mpr fun a ha => by rw [e1 a ha] <;> rfl
    rw [this] at z
    cases z
/-- what has been dealt out -/
structure Dealt (t : List (Str × Str)) (n : Int) (l : List Str) (t' : List (Str × Str)) (sz : Str → Int) : Prop where
  keys : t'.map Prod.fst = l
  sub : ∀ p ∈ t', p ∈ t
  par_ : ∀ p ∈ t', p.2 = "" ∨ p.2 ∈ l
  nn : ∀ a ∈ l, 0 ≤ sz a
  res : ∀ p ∈ (("" : Str) :: l), 0 ≤ resid t' n sz p
  top_ : ∀ p ∈ (("" : Str) :: l), resid t' n sz p ≤ n
theorem Dealt.nil {t : List (Str × Str)} {n : Int} {sz : Str → Int} (n0 : 0 ≤ n) : Dealt t n [] [] sz := by
  refine ⟨rfl, fun p h => (by cases h), fun p h => (by cases h), fun a h => (by cases h), fun p h => ?_, fun p h => ?_⟩
  · rw [List.mem_singleton.mp h]
    show 0 ≤ n - 0
    omega
  · rw [List.mem_singleton.mp h]
    show n - 0 ≤ n
    omega
theorem Dealt.step {t t' : List (Str × Str)} {n : Int} {l : List Str} {sz : Str → Int} (d : Dealt t n l t' sz) {a pa : Str} {z : Int} (na : a ∉ l) (ne : a ≠ "") (mt : (a, pa) ∈ t) (mp : pa = "" ∨ pa ∈ l) (z0 : 0 ≤ z) (z1 : z ≤ resid t' n sz pa) :
    Dealt t n (l ++ [a]) (t' ++ [(a, pa)]) (fun x => if x = a then z else sz x) ∧
    (∀ p ∈ (("" : Str) :: (l ++ [a])), resid (t' ++ [(a, pa)]) n (fun x => if x = a then z else sz x) p = if p = pa then resid t' n sz pa - z else if p = a then z else resid t' n sz p) := by
  have kid : kids t' a = [] := by
    unfold kids
    rw [List.filter_eq_nil_iff.mpr fun q hq z => ?_] <;> try rfl
    have e := of_decide_eq_true z
    rcases d.par_ q hq with h | h
    · exact ne (e.symm.trans h)
    · exact na (by rw [← e]; exact h)
  have pne : pa ≠ a := fun e => mp.elim (fun h => ne (e.symm.trans h)) fun h => na (by rw [← e]; exact h)
  have old : ∀ p, p ≠ a → resid t' n (fun x => if x = a then z else sz x) p = resid t' n sz p := fun p hp =>
    resid_congr (fun x hx => if_neg fun e => na (by rw [← e, ← d.keys]; exact hx)) (.inr (if_neg hp))
  have eq : ∀ p ∈ (("" : Str) :: (l ++ [a])), resid (t' ++ [(a, pa)]) n (fun x => if x = a then z else sz x) p = if p = pa then resid t' n sz pa - z else if p = a then z else resid t' n sz p := fun p _ => by
    rw [resid_snoc]
    by_cases h1 : p = pa
    · rw [if_pos h1.symm, if_pos h1, old p (by rw [h1]; exact pne), h1]
      show _ - (if a = a then z else sz a) = _
      rw [if_pos rfl]
    · rw [if_neg (fun e => h1 e.symm), if_neg h1]
      by_cases h2 : p = a
      · rw [if_pos h2, h2]
        unfold resid
        rw [kid, if_neg ne]
        show (if a = a then z else sz a) - 0 = z
        rw [if_pos rfl]
        omega
      · rw [if_neg h2, old p h2]
  refine ⟨⟨by rw [List.map_append, d.keys] <;> rfl, fun p hp => ?_, fun p hp => ?_, fun x hx => ?_, fun p hp => ?_, fun p hp => ?_⟩, eq⟩
  · rcases List.mem_append.mp hp with h | h
    · exact d.sub p h
    · rw [List.mem_singleton.mp h]
      exact mt
  · rcases List.mem_append.mp hp with h | h
    · exact (d.par_ p h).imp id fun m => List.mem_append_left _ m
    · rw [List.mem_singleton.mp h]
      exact mp.imp id fun m => List.mem_append_left _ m
  · show 0 ≤ if x = a then z else sz x
    by_cases e : x = a
    · rw [if_pos e]
      exact z0
    · rw [if_neg e]
      exact d.nn x ((List.mem_append.mp hx).resolve_right fun m => e (List.mem_singleton.mp m))
  · rw [eq p hp]
    by_cases h1 : p = pa
    · rw [if_pos h1]
      omega
    · rw [if_neg h1]
      by_cases h2 : p = a
      · rw [if_pos h2]
        exact z0
      · rw [if_neg h2]
        refine d.res p ((List.mem_cons.mp hp).elim (fun e => e ▸ List.mem_cons_self ..) fun m => List.mem_cons_of_mem _ ?_)
        exact (List.mem_append.mp m).resolve_right fun m => h2 (List.mem_singleton.mp m)
  · rw [eq p hp]
    have tp := d.top_ pa (List.mem_cons.mpr mp)
    by_cases h1 : p = pa
    · rw [if_pos h1]
      omega
    · rw [if_neg h1]
      by_cases h2 : p = a
      · rw [if_pos h2]
        omega
      · rw [if_neg h2]
        refine d.top_ p ((List.mem_cons.mp hp).elim (fun e => e ▸ List.mem_cons_self ..) fun m => List.mem_cons_of_mem _ ?_)
        exact (List.mem_append.mp m).resolve_right fun m => h2 (List.mem_singleton.mp m)
end FT


/-! Own: repr over the layer. repr asks what calls of repr are under way (A.guards), and the layer's contracts do not tell it: a contract FnG that tells it too, its rule for a def's body, its call, the end. -/
namespace L2
open PySem PySem.Spec PyProof.Rows
/-- no repr is under way -/
abbrev Clr (A : Around) : Prop := A.guards = some []
theorem Clr.deeper {A : Around} {env : Env} (h : Clr A) : Clr (A.deeper env) := by
  have h' : A.guards = some [] := h
  show (A.deeper env).guards = some []
  first
    | exact h'
    | (simp [Around.deeper, h', pushGuards, Code.guards, Code.isGuard])
structure FnG (P : Program) (w : World) (K : PySem.W.Frag) (mg : Str → Option Value) (base : Heap) (CX : CXT) (k : Nat) (f : Addr) (fd : FuncData) (ps : List Str) (sp : Sp) : Prop where
  len : ∀ vs H Q E, sp vs H Q E → vs.length = ps.length
  run : ∀ (A : Around) (outer : List Env) (s : Shared) (H : Hp) (args : Args) (us : List Value) (vs : List V) (Q : VK) (E : XK), Clr A → Room k A → Env0 P w K mg base A outer s H → BindsTo s fd args (ps.zip us) → Vals vs us → sp vs H Q E →
    codeAny (model P w) A (.call (.ref f) args) (CR CX outer P w H s Q E) s
theorem FnOk.g {P : Program} {w : World} {K : PySem.W.Frag} {mg : Str → Option Value} {base : Heap} {CX : CXT} {k : Nat} {f : Addr} {fd : FuncData} {ps : List Str} {sp : Sp} (F : FnOk P w K mg base CX k f fd ps sp) : FnG P w K mg base CX k f fd ps sp :=
  ⟨F.len, fun A outer s H args us vs Q E _ => F.run A outer s H args us vs Q E⟩
section
variable {P : Program} {w : World} {K : PySem.W.Frag} {mg : Str → Option Value} {base : Heap}
/-- a def by its body, where nothing is raised out of it -/
theorem Fun.okG {x qual : Str} {st : Stmt} {f : Addr} {fd : FuncData} {N ps : List Str} {k : Nat} {sp : Sp} (F : Fun K x qual st f fd) (S : FnScope N ps (defScope st)) (len : ∀ vs H Q E, sp vs H Q E → vs.length = ps.length)
    (body : ∀ (cdv : Value) (A : Around) (outer : List Env) (s : Shared) (H : Hp) (vs : List V) (Q : VK) (E : XK), Clr A → Room k (A.deeper (envOfC qual (defScope st) s.heap.objs.size f cdv)) → sp vs H Q E →
      ∃ t, PSs (cxOf CX0 P w K mg base N qual (defScope st) f cdv A outer s H E).nox (defBody st) t ∧ t { nx := fun _ H' => Q .non H', rt := Q } (start N vs) H) : FnG P w K mg base CX0 (k + 1) f fd ps sp := by
  obtain ⟨oc, od, kV, doc, pm, an, cdv, ct, osl, rfl, lk, code⟩ := F.ex
  refine ⟨len, fun A outer s H args us vs Q E clr room e0 binds rel want => ?_⟩
  have nps := len _ _ _ _ want
  have KX : K.In s.heap := e0.mod.kin.keeps fun b o e => (e0.bs b o e).1
  have lim : s.heap.NoLimit := e0.mod.nolimit.keeps fun b o e => (e0.bs b o e).1
  refine codeAny_call_function room.depth (KX _ _ lk) rfl S.co S.gen rfl (PySem.W.codeRec_of KX code) (binds _ _ _ _ (wpAny_newFunctionEnv_cells S.kind (fun y hy => ?_) fun env he s1 x => ?_))
  · obtain ⟨n, v⟩ := y
    exact (S.par n (List.of_mem_zip hy).1).elim .inl fun q => .inr ⟨q, PySem.W.cellsFrom_some _ _ _ (.inl q)⟩
  · subst he
    obtain ⟨t, term, q⟩ := body cdv A outer s H vs Q E clr (room.deeper _) want
    have I : Inv (cxOf CX0 P w K mg base N qual (defScope st) f cdv A outer s H E) [] (start N vs) H s1 := inv_start S room.hd e0 nps rel x
    refine ⟨lim.keeps x.toInCall.keep, codeAny_func (wpAny_mono (term.nox.run [] s1 (start N vs) H _ I q) (fun fl s' z => ?_) fun _ _ z => z)⟩
    match fl, z with
    | .ret u, ⟨v, _, H', J, rv, q⟩ => exact ⟨v, H', J.os, J.bare, J.base, J.hok, rv, q⟩
    | .next, ⟨_, H', J, q⟩ => exact ⟨.non, H', J.os, J.bare, J.base, J.hok, rfl, q⟩
    | .brk, ⟨_, _, _, q⟩ => exact q.elim
    | .cont, ⟨_, _, _, q⟩ => exact q.elim
end
section
variable {X : Cx} {CX : CXT} {k : Nat} {f : Addr} {fd : FuncData} {ps : List Str} {sp : Sp} {dvs : List V} {ds : List Value} {E : XK} {x : Str} {p pos : Pos} {e : Expr} {es : List Expr} {t : TA}
/-- f(e, ..), f of such a contract -/
theorem pe_callG (F : FnG X.prog X.w X.K X.mg X.base CX k f fd ps sp) (clr : Clr X.A) (hr : Room k X.A) (hg : Gl X x) (hm : X.mg x = some (.ref f)) (hk : PySem.W.keepIn X.K (.ref f) = true) (hb : Binds X.K fd ps ds) (hd : Vals dvs ds) (hx : Passes CX X E)
    (ha : PA X (e :: es) t) (dbg : (x == ("__debug__" : Str)) = false := by decide) (one : starEach (e :: es) X.env = (false, eval e X.env) :: starEach es X.env := by rfl) (plain : (backTo pos (starEach es X.env)).any (·.1) = false := by rfl) :
    PE X (.Call (.Name x p) (e :: es) [] pos) (tCall sp dvs E t) := by
  refine ⟨fun pins s σ H Q I h => wpAny_Call_Name_kw (ld_glob I hg hm ?_ dbg)⟩
  refine PySem.W.callWith_K (h₀ := X.base) I.ok.mod.kin hk (thn (ha.run pos pins s σ H _ I h) fun us s1 ⟨vs, H1, J, rel, want⟩ => ⟨J.kIn, ?_⟩) one plain
  have r2 : Vals (vs ++ dvs) (us ++ ds) := rel.append hd
  have len : (us ++ ds).length = ps.length := r2.length.symm.trans (F.len _ _ _ _ want)
  refine wpAny_call (codeAny_mono (F.run X.A X.stack s1 H1 ⟨us, []⟩ (us ++ ds) (vs ++ dvs) Q E clr hr J.env0 (hb s1 us J.kIn len) r2 want) fun r s' z => ?_)
  match r, z with
  | .error er, z => exact hx pins σ H1 s1 er s' J z
  | .ok (.ret u), z => exact J.after z
  | .ok .next, z => exact z.elim
  | .ok .brk, z => exact z.elim
  | .ok .cont, z => exact z.elim
/-! ### repr -/
/-- what is shown: data without dicts, or the empty dict -/
def Shw (K : PySem.W.Frag) (H : Hp) (x : V) (d : PyData) : Prop := (Dp K H x d ∧ d.hasDict = false) ∨ ∃ a, x = .ref a ∧ H a = some (.dK []) ∧ d = .dict []
def rRepr (K : PySem.W.Frag) : List V → Hp → VK → Prop := fun xs H Q => ∃ (x : V) (d : PyData), xs = [x] ∧ Shw K H x d ∧ d.showable = true ∧ d.depth ≤ 60 ∧ d.shown.length ≤ sizeLine ∧ Q (.str d.shown) H
theorem Shw.reads {pins : List (Addr × Obj)} {σ : St} {H : Hp} {s : Shared} {x : V} {u : Value} {d : PyData} (h : Shw X.K H x d) (I : Inv X pins σ H s) (r : RelV x u) : ∃ as, Reads s.heap u d as ∧ (d.hasDict = true → sysModules ∉ as) := by
  rcases h with ⟨h, nd⟩ | ⟨a, rfl, e, rfl⟩
  · obtain ⟨as, q⟩ := Dp.reads I d x u h r
    exact ⟨as, q, PyData.noDict_hsm nd⟩
  · obtain rfl : u = Value.ref a := r
    obtain ⟨_, ns, vs, kv, o, es, ep, h1, h2, h3, h4⟩ := (show ObjOk X.prog X.w H s.heap a (.dK []) from I.hok a _ e)
    cases kv
    have hes : es.toList = [] := by
      obtain ⟨_, h5, _⟩ := h4
      revert h5
      generalize es.toList = l
      intro h5
      cases h5
      rfl
    refine ⟨a :: [] ++ [], .dict h1 h2.1 h3 (by rw [hes]; exact .nil) (by rw [hes]; exact .nil), fun _ hm => ?_⟩
    have hm' : sysModules = a := by simpa using hm
    rw [hm'] at ns
    simp at ns
theorem call_repr (clr : Clr X.A) (hu : X.A.units + 64 < cLine) : CallR X (.builtin "repr") (rRepr X.K) := by
  intro pins s σ H xs us Q I r h
  obtain ⟨x, d, rfl, sh, ok, dep, few, q⟩ := h
  obtain ⟨u, rfl, ru⟩ := vals1 r
  obtain ⟨as, rd, sm⟩ := sh.reads I ru
  have fin : ∀ h' (t : Tok) tk, (∀ b o, s.heap.get? b = some o → h'.get? b = some o) → EP X pins σ Q (.str d.shown t) { s with heap := h', toks := tk } := fun h' t tk kp => ⟨.str d.shown, H, I.kept kp, ⟨t, rfl⟩, q⟩
  cases u with
  | ref a => exact repr_of_reads' rd ok sm clr (by omega) (fun _ _ z => z) fin few
  | none => cases rd; exact PySem.P.repr_of_none (fin _ _ _ fun _ _ z => z)
  | bool b => cases rd; exact PySem.P.repr_of_bool (fin _ _ _ fun _ _ z => z)
  | int i t => cases rd; exact PySem.P.repr_of_int (by simpa [PyData.showable] using ok) (fin _ _ _ fun _ _ z => z)
  | str y t => cases rd; exact PySem.P.repr_of_str (fin _ _ _ fun _ _ z => z) few
  | _ => cases rd
end
end L2


/-! Own: the end of a law's row from a contract FnG (the library's walk_of asks FnOk). -/
namespace L2
open PySem PySem.Spec PyProof.Rows
section
variable {P : Program} {w : World} {K : PySem.W.Frag} {mg mb : Str → Option Value} {k : Nat} {fa a : Addr} {fd : FuncData} {x : Str} {sp : Sp} {s : Shared} {vs : List Value} {ns : List Int}
/-- the abstract heap at the law's entry: the script alone, locked; or nothing, where the script is the module's own -/
abbrev Entry (K : PySem.W.Frag) (a : Addr) (H : Hp) : Prop := (∀ b, H b ≠ none → b = a) ∧ (H a ≠ none → K.lookup a = none)
theorem entry_run (KX : K.In s.heap) (hns : s.heap.Ns mainGlobals mg) (hb : s.heap.Ns builtinsNs mb) (hbb : ∀ y : Str, y ≠ "__name__" → mb y = bootBuiltins y) (lim : s.heap.NoLimit) (gens : s.gens = #[])
    (oa : s.heap.get? a = some { cls := .type "list", data := .seq vs.toArray }) (room : Room k callerA) (F : ∀ base : Heap, K.In base → base.Ns mainGlobals mg → FnG P w K mg base CX0 k fa fd [x] sp)
    (bind : ∀ (s : Shared) (u : Value), BindsTo s fd ⟨[u], []⟩ [(x, u)]) {H : Hp} (only : Only H) (ok : HOk P w H s.heap) (en : Entry K a H) (want : sp [.ref a] H (fun v _ => v = .bl true) fun _ _ _ => False) :
    codeAny (model P w) callerA (.call (.ref fa) ⟨[.ref a], []⟩) (fun r s' => r = .ok (.ret (.bool true)) ∧ OldK s.heap s'.heap ∧ s'.os = s.os ∧ AllBare s'.gens) s := by
  obtain ⟨e1, e2⟩ := en
  have isA : ∀ {b : Addr} {u : HO}, H b = some u → b = a := fun {b u} q => e1 b fun z => by
    rw [z] at q
    cases q
  -- an address at which another object stands is not tracked
  have out : ∀ {b : Addr}, b ≠ a → H b = none := fun {b} ne => by
    cases q : H b with
    | none => rfl
    | some u => exact absurd (isA q) ne
  have dictNe : ∀ {b : Addr} {o : Obj} {es : Array DictEntry} {ep : Nat}, s.heap.get? b = some o → o.data = .dict es ep → b ≠ a := fun {b o es ep} q d z => by
    subst z
    rw [oa] at q
    cases q
    cases (show Data.seq vs.toArray _ = Data.dict es ep from d)
  have seen : ∀ {b : Addr} {o : Obj}, s.heap.get? b = some o → H b = none → (hidT s.heap H).get? b = some o := fun q n => hidT_get q n
  have nsT : ∀ {b : Addr} {m : Str → Option Value}, s.heap.Ns b m → (hidT s.heap H).Ns b m := fun ⟨o, es, ep, q, d, r⟩ => ⟨o, es, ep, seen q (out (dictNe q d)), d, r⟩
  have KT : K.In (hidT s.heap H) := fun b o q => seen (KX b o q) (by
    by_cases z : b = a
    · subst z
      cases r : H b with
      | none => rfl
      | some u =>
        rw [e2 (by rw [r]; exact fun z => nomatch z)] at q
        cases q
    · exact out z)
  have e0 : Env0 P w K mg (hidT s.heap H) callerA [] s H :=
    ⟨rfl, ⟨KT, nsT hns, ⟨mb, nsT hb, hbb⟩, let ⟨m, z1, z2⟩ := lim; ⟨m, nsT z1, z2⟩⟩, fun b o q => of_hidT q, Nat.le_of_eq (hidT_size _ _), trivial, fun b z => absurd (show b ∈ ([] : List Addr) from z) (by simp), ok, .of_eq gens⟩
  refine codeAny_mono ((F _ KT (nsT hns)).run callerA [] s H ⟨[.ref a], []⟩ [.ref a] [.ref a] _ _ rfl room e0 (bind s (.ref a)) (.cons rfl .nil) want) fun r s' z => ?_
  match r, z with
  | .error _, z => exact z.elim
  | .ok .next, z => exact z.elim
  | .ok .brk, z => exact z.elim
  | .ok .cont, z => exact z.elim
  | .ok (.ret u), ⟨v, H', os, bare, un, ok', rv, q⟩ =>
    obtain rfl : v = .bl true := q
    obtain rfl : u = Value.bool true := rv
    refine ⟨rfl, .of_keep fun b o q => ?_, os, bare⟩
    rcases only b with n | ⟨o2, xs, n⟩
    · exact un.keep b o q n (fun z => absurd (show b ∈ ([] : List Addr) from z) (by simp)) (by simp)
    · have q1 := (ok b _ n).1
      rw [q] at q1
      cases q1
      exact (ok' b _ (un.frzs b o _ n)).1
theorem entry_call (KX : K.In s.heap) (hns : s.heap.Ns mainGlobals mg) (hb : s.heap.Ns builtinsNs mb) (hbb : ∀ y : Str, y ≠ "__name__" → mb y = bootBuiltins y) (lim : s.heap.NoLimit) (gens : s.gens = #[])
    (oa : s.heap.get? a = some { cls := .type "list", data := .seq vs.toArray }) (hi : IntsAre vs ns) (few : ns.length ≤ sizeLine) (room : Room k callerA) (F : ∀ base : Heap, K.In base → base.Ns mainGlobals mg → FnG P w K mg base CX0 k fa fd [x] sp)
    (bind : ∀ (s : Shared) (u : Value), BindsTo s fd ⟨[u], []⟩ [(x, u)]) (want : ∀ H : Hp, Only H → SqL K H a (ns.map V.int) → sp [.ref a] H (fun v _ => v = .bl true) fun _ _ _ => False) :
    codeAny (model P w) callerA (.call (.ref fa) ⟨[.ref a], []⟩) (fun r s' => r = .ok (.ret (.bool true)) ∧ OldK s.heap s'.heap ∧ s'.os = s.os ∧ AllBare s'.gens) s := by
  have rv := vals_ints hi
  have len := hi.length
  cases own : K.lookup a with
  | some o =>
    have q := KX a o own
    rw [oa] at q
    cases q
    have no : ∀ b, ¬ ((fun _ => none : Hp) b ≠ none) := fun b z => z rfl
    exact entry_run KX hns hb hbb lim gens oa room F bind (H := fun _ => none) (fun _ => .inl rfl) (fun b u z => nomatch (show (none : Option HO) = some u from z)) ⟨fun b z => (no b z).elim, fun z => (no a z).elim⟩
      (want _ (fun _ => .inl rfl) (.inr ⟨_, vs.toArray, _, own, rfl, rfl, rfl, by rw [List.size_toArray, len]; exact few, by simpa using rv⟩))
  | none =>
    obtain ⟨H, hH⟩ : ∃ H : Hp, H = fun b => if b = a then some (.frz { cls := .type "list", data := .seq vs.toArray } (.lst (ns.map V.int))) else none := ⟨_, rfl⟩
    have at_ : H a = some (.frz { cls := .type "list", data := .seq vs.toArray } (.lst (ns.map V.int))) := by rw [hH]; exact if_pos rfl
    have off : ∀ {b}, b ≠ a → H b = none := fun {b} z => by rw [hH]; exact if_neg z
    have only : Only H := fun b => (Decidable.em (b = a)).elim (fun z => .inr ⟨_, _, z ▸ at_⟩) fun z => .inl (off z)
    refine entry_run KX hns hb hbb lim gens oa room F bind only (fun b u z => ?_) ⟨fun b z => Decidable.byContradiction fun n => z (off n), fun _ => own⟩ (want _ only (.inl (.inr ⟨_, at_⟩)))
    by_cases n : b = a
    · subst n
      rw [at_] at z
      cases z
      exact ⟨oa, by rw [List.length_map]; exact few, vs, _, rv, oa⟩
    · rw [off n] at z
      cases z
end
/-- the goal behind the head, from the law's promise as an FnG -/
theorem walk_ofG {l : PySem.W.OpenLaw} {n k : Nat} {q : Program} {loose : List Str} {XP : (Str → Option Value) → Heap → Prop} {YP : World → Heap → Prop} {d : DefRec} {K : Params → PySem.W.Frag} {sp : World → Sp} {x : Str}
    (most : l.most = some n) (few : n ≤ sizeLine) (nodf : d.params.defaults = []) (room : Room k callerA) (hY : ∀ (w : World) (h : Heap), YP w h → (K w.params).In h)
    (F : ∀ (w : World) (mg : Str → Option Value) (fa : Addr) (h : Heap), (K w.params).In h → h.Ns mainGlobals mg → mg d.name = some (.ref fa) →
      ∃ fd : FuncData, (∀ (s : Shared) (u : Value), BindsTo s fd ⟨[u], []⟩ [(x, u)]) ∧ ∀ base : Heap, (K w.params).In base → base.Ns mainGlobals mg → FnG l.prog w (K w.params) mg base CX0 k fa fd [x] (sp w))
    (want : ∀ (w : World) (H : Hp) (a : Addr) (ns : List Int), ns.length ≤ n → Only H → SqL (K w.params) H a (ns.map V.int) → sp w [.ref a] H (fun v _ => v = .bl true) fun _ _ _ => False) :
    PySem.W.WalkO q loose XP YP l.row.toRowW d [] (fun f vs => PySem.call f vs) :=
  Att.attach_call most nodf fun w _ s mg mb fa _ _ _ _ a vs ns G Y _ _ _ hmg hobj hints hlen hg => by
    have KX := hY w _ Y
    obtain ⟨fd, bind, hF⟩ := F w mg fa _ KX G.T.g hmg
    exact entry_call KX G.T.g G.T.b G.T.builtins G.T.nolimit hg hobj hints (Nat.le_trans hlen few) room hF bind fun H only sq => want w H a ns hlen only sq
end L2


/-! Own: defs that make lambdas (their code object known), and the end of a law's row from a contract FnG with tables of code objects. -/
namespace L2
open PySem PySem.Spec PyProof.Rows LamX
/-- as Fun, the code object's place told -/
structure FunC (K : PySem.W.Frag) (x qual : Str) (st : Stmt) (f : Addr) (fd : FuncData) (c : Addr) : Prop where
  ex : ∃ (oc : Value) (od : Option Addr) (kV doc pm : Value) (an : Option Addr) (ct : Value) (osl : Array (Option Value)),
    fd = PySem.W.fnOf x qual (defArgs st) (defBody st) (defScope st) .none kV doc pm an (.ref c) ct ∧ K.lookup f = some ⟨oc, od, .func fd, osl⟩ ∧ PySem.W.codeIn K (.ref c) qual = true
  kp : PySem.W.keepIn K (.ref f) = true
theorem FunC.fun {K : PySem.W.Frag} {x qual : Str} {st : Stmt} {f c : Addr} {fd : FuncData} (F : FunC K x qual st f fd c) : Fun K x qual st f fd :=
  let ⟨oc, od, kV, doc, pm, an, ct, osl, e1, e2, e3⟩ := F.ex
  ⟨⟨oc, od, kV, doc, pm, an, .ref c, ct, osl, e1, e2, e3⟩, F.kp⟩
theorem funC_mk {K : PySem.W.Frag} {x qual : Str} {st : Stmt} {f c : Addr} {oc : Value} {od an : Option Addr} {osl : Array (Option Value)} {kV doc pm ct : Value} (l : K.lookup f = some ⟨oc, od, .func (PySem.W.fnOf x qual (defArgs st) (defBody st) (defScope st) .none kV doc pm an (.ref c) ct), osl⟩)
    (e : PySem.W.codeIn K (.ref c) qual = true) (k : PySem.W.keepIn K (.ref f) = true) : FunC K x qual st f (PySem.W.fnOf x qual (defArgs st) (defBody st) (defScope st) .none kV doc pm an (.ref c) ct) c := ⟨⟨oc, od, kV, doc, pm, an, ct, osl, rfl, l, e⟩, k⟩
section
variable {P : Program} {w : World} {K : PySem.W.Frag} {mg : Str → Option Value} {base : Heap}
theorem FunC.ok {x qual : Str} {st : Stmt} {f c : Addr} {fd : FuncData} {N ps : List Str} {k : Nat} {sp : Sp} (F : FunC K x qual st f fd c) (S : FnScope N ps (defScope st)) (len : ∀ vs H Q E, sp vs H Q E → vs.length = ps.length)
    (body : ∀ (A : Around) (outer : List Env) (s : Shared) (H : Hp) (vs : List V) (Q : VK) (E : XK), Room k (A.deeper (envOfC qual (defScope st) s.heap.objs.size f (.ref c))) → sp vs H Q E →
      ∃ t, PSs (cxOf CX0 P w K mg base N qual (defScope st) f (.ref c) A outer s H E).nox (defBody st) t ∧ t { nx := fun _ H' => Q .non H', rt := Q } (start N vs) H) : FnOk P w K mg base CX0 (k + 1) f fd ps sp := by
  obtain ⟨oc, od, kV, doc, pm, an, ct, osl, rfl, lk, code⟩ := F.ex
  refine fn_of lk code S len fun A outer s H vs Q E room want => ?_
  obtain ⟨t, h, q⟩ := body A outer s H vs Q E room want
  exact ⟨t, h.nox, q⟩
theorem FunC.okG {x qual : Str} {st : Stmt} {f c : Addr} {fd : FuncData} {N ps : List Str} {k : Nat} {sp : Sp} (F : FunC K x qual st f fd c) (S : FnScope N ps (defScope st)) (len : ∀ vs H Q E, sp vs H Q E → vs.length = ps.length)
    (body : ∀ (A : Around) (outer : List Env) (s : Shared) (H : Hp) (vs : List V) (Q : VK) (E : XK), Clr A → Room k (A.deeper (envOfC qual (defScope st) s.heap.objs.size f (.ref c))) → sp vs H Q E →
      ∃ t, PSs (cxOf CX0 P w K mg base N qual (defScope st) f (.ref c) A outer s H E).nox (defBody st) t ∧ t { nx := fun _ H' => Q .non H', rt := Q } (start N vs) H) : FnG P w K mg base CX0 (k + 1) f fd ps sp := by
  obtain ⟨oc, od, kV, doc, pm, an, ct, osl, rfl, lk, code⟩ := F.ex
  refine ⟨len, fun A outer s H args us vs Q E clr room e0 binds rel want => ?_⟩
  have nps := len _ _ _ _ want
  have KX : K.In s.heap := e0.mod.kin.keeps fun b o e => (e0.bs b o e).1
  have lim : s.heap.NoLimit := e0.mod.nolimit.keeps fun b o e => (e0.bs b o e).1
  refine codeAny_call_function room.depth (KX _ _ lk) rfl S.co S.gen rfl (PySem.W.codeRec_of KX code) (binds _ _ _ _ (wpAny_newFunctionEnv_cells S.kind (fun y hy => ?_) fun env he s1 x => ?_))
  · obtain ⟨n, v⟩ := y
    exact (S.par n (List.of_mem_zip hy).1).elim .inl fun q => .inr ⟨q, PySem.W.cellsFrom_some _ _ _ (.inl q)⟩
  · subst he
    obtain ⟨t, term, q⟩ := body A outer s H vs Q E clr (room.deeper _) want
    have I : Inv (cxOf CX0 P w K mg base N qual (defScope st) f (.ref c) A outer s H E) [] (start N vs) H s1 := inv_start S room.hd e0 nps rel x
    refine ⟨lim.keeps x.toInCall.keep, codeAny_func (wpAny_mono (term.nox.run [] s1 (start N vs) H _ I q) (fun fl s' z => ?_) fun _ _ z => z)⟩
    match fl, z with
    | .ret u, ⟨v, _, H', J, rv, q⟩ => exact ⟨v, H', J.os, J.bare, J.base, J.hok, rv, q⟩
    | .next, ⟨_, H', J, q⟩ => exact ⟨.non, H', J.os, J.bare, J.base, J.hok, rfl, q⟩
    | .brk, ⟨_, _, _, q⟩ => exact q.elim
    | .cont, ⟨_, _, _, q⟩ => exact q.elim
end
section
variable {P : Program} {w : World} {K : PySem.W.Frag} {mg mb : Str → Option Value} {k : Nat} {fa a : Addr} {fd : FuncData} {x : Str} {sp : Sp} {s : Shared} {vs : List Value} {ns : List Int} {cs : List (Addr × Addr)}
/-- the code objects and their tables: empty, not of the written part -/
abbrev TabsIn (K : PySem.W.Frag) (h : Heap) (cs : List (Addr × Addr)) : Prop := ∀ p ∈ cs, PySem.W.CodeHd h p.1 p.2 ∧ h.get? p.2 = some (PySem.W.tabObj #[]) ∧ K.lookup p.2 = none
/-- the abstract heap at the law's entry: the tables, and the script, locked, or where it is the module's own the tables alone -/
structure EntT (K : PySem.W.Frag) (cs : List (Addr × Addr)) (a : Addr) (vs : List Value) (ns : List Int) (H : Hp) : Prop where
  tab : ∀ p ∈ cs, H p.2 = some (.tbl #[])
  dom : ∀ b u, H b = some u → (b = a ∧ u = .frz { cls := .type "list", data := .seq vs.toArray } (.lst (ns.map V.int))) ∨ ∃ p ∈ cs, b = p.2
  own : H a ≠ none → K.lookup a = none
theorem entT_run (KX : K.In s.heap) (hns : s.heap.Ns mainGlobals mg) (hb : s.heap.Ns builtinsNs mb) (hbb : ∀ y : Str, y ≠ "__name__" → mb y = bootBuiltins y) (lim : s.heap.NoLimit) (gens : s.gens = #[]) (ti : TabsIn K s.heap cs)
    (bmain : ∃ (bm : Addr) (ob : Obj), mg "__builtins__" = some (.ref bm) ∧ bm ≠ builtinsNs ∧ s.heap.get? bm = some ob ∧ ob.cls = .type "module" ∧ ob.dict = some builtinsNs ∧ ob.data = .plain)
    (oa : s.heap.get? a = some { cls := .type "list", data := .seq vs.toArray }) (rv : Vals (ns.map V.int) vs) (few : ns.length ≤ sizeLine) (room : Room k callerA)
    (F : ∀ base : Heap, K.In base → base.Ns mainGlobals mg → (∀ p ∈ cs, TabB base mg p.1 p.2) → FnG P w K mg base CX0 k fa fd [x] sp)
    (bind : ∀ (s : Shared) (u : Value), BindsTo s fd ⟨[u], []⟩ [(x, u)]) {H : Hp} (en : EntT K cs a vs ns H) (want : sp [.ref a] H (fun v _ => v = .bl true) fun _ _ _ => False) :
    codeAny (model P w) callerA (.call (.ref fa) ⟨[.ref a], []⟩) (fun r s' => r = .ok (.ret (.bool true)) ∧ OldK s.heap s'.heap ∧ s'.os = s.os ∧ AllBare s'.gens) s := by
  -- what is tracked: a list or a table
  have kinds : ∀ {b : Addr} {o : Obj}, s.heap.get? b = some o → H b ≠ none → o = { cls := .type "list", data := .seq vs.toArray } ∨ o = PySem.W.tabObj #[] := fun {b o} q n => by
    cases r : H b with
    | none => exact absurd r n
    | some u =>
      rcases en.dom b u r with ⟨rfl, _⟩ | ⟨p, hp, rfl⟩
      · rw [oa] at q
        exact .inl (Option.some.inj q).symm
      · rw [(ti p hp).2.1] at q
        exact .inr (Option.some.inj q).symm
  have loose : ∀ {b : Addr} {o : Obj}, s.heap.get? b = some o → (∀ vs n, o.data ≠ .seq vs n) → (o.data = .fields #[] → False) → H b = none := fun {b o} q h1 h2 => by
    refine Decidable.byContradiction fun n => ?_
    rcases kinds q n with e | e
    · exact h1 _ _ (by rw [e])
    · exact h2 (by rw [e])
  have seen : ∀ {b : Addr} {o : Obj}, s.heap.get? b = some o → H b = none → (hidT s.heap H).get? b = some o := fun q n => hidT_get q n
  have dict : ∀ {b : Addr} {o : Obj} {es : Array DictEntry} {ep : Nat}, s.heap.get? b = some o → o.data = .dict es ep → (hidT s.heap H).get? b = some o := fun q d => seen q (loose q (fun vs n z => nomatch d.symm.trans z) fun z => nomatch d.symm.trans z)
  have nsT : ∀ {b : Addr} {m : Str → Option Value}, s.heap.Ns b m → (hidT s.heap H).Ns b m := fun ⟨o, es, ep, q, d, r⟩ => ⟨o, es, ep, dict q d, d, r⟩
  have KT : K.In (hidT s.heap H) := fun b o q => seen (KX b o q) (Decidable.byContradiction fun n => by
    cases r : H b with
    | none => exact n r
    | some u =>
      rcases en.dom b u r with ⟨rfl, _⟩ | ⟨p, hp, rfl⟩
      · rw [en.own n] at q
        cases q
      · rw [(ti p hp).2.2] at q
        cases q)
  have isTab : ∀ b u, H b = some u → ∀ q, u = .tbl q → s.heap.get? b = some (PySem.W.tabObj #[]) ∧ q = #[] := fun b u r q e => by
    rcases en.dom b u r with ⟨_, z⟩ | ⟨p, hp, rfl⟩
    · rw [e] at z
      cases z
    · refine ⟨(ti p hp).2.1, ?_⟩
      have z := en.tab p hp
      rw [r, e] at z
      cases z
      rfl
  have ok : HOk P w H s.heap := fun b u r => by
    rcases en.dom b u r with ⟨rfl, rfl⟩ | ⟨p, hp, rfl⟩
    · exact ⟨oa, by rw [List.length_map]; exact few, vs, _, rv, oa⟩
    · rw [en.tab p hp] at r
      cases r
      exact (ti p hp).2.1
  have TB : ∀ p ∈ cs, TabB (hidT s.heap H) mg p.1 p.2 := fun p hp => by
    obtain ⟨C, tp, _⟩ := ti p hp
    refine ⟨?_, ?_, fun z => ?_⟩
    · obtain ⟨o, us, file, tf, flags, tg, inF, text, tt, e1, r1, r2, r3, r⟩ := C
      refine ⟨o, us, file, tf, flags, tg, inF, text, tt, seen e1 (loose e1 (fun vs n z => nomatch r2.symm.trans z) fun z => ?_), r1, r2, r3, r⟩
      have e := r2.symm.trans z
      cases e
      simp at r3
    · obtain ⟨bm, ob, b1, b2, b3, b4, b5, b6⟩ := bmain
      refine ⟨bm, ob, b1, b2, fun q => ?_, fun q => ?_, seen b3 (loose b3 (fun vs n z => nomatch b6.symm.trans z) fun z => nomatch b6.symm.trans z), b4, b5, b6⟩
      · obtain ⟨o, es, ep, e, hd, _⟩ := hns
        rw [q, e] at b3
        cases b3
        cases hd.symm.trans b6
      · rw [q, tp] at b3
        cases b3
        cases b6
    · obtain ⟨o, es, ep, e, hd, _⟩ := hns
      rw [z, tp] at e
      cases e
      cases hd
  have e0 : Env0 P w K mg (hidT s.heap H) callerA [] s H :=
    ⟨rfl, ⟨KT, nsT hns, ⟨mb, nsT hb, hbb⟩, let ⟨m, z1, z2⟩ := lim; ⟨m, nsT z1, z2⟩⟩, fun b o q => of_hidT q, Nat.le_of_eq (hidT_size _ _), trivial, fun b z => absurd (show b ∈ ([] : List Addr) from z) (by simp), ok, .of_eq gens⟩
  refine codeAny_mono ((F _ KT (nsT hns) TB).run callerA [] s H ⟨[.ref a], []⟩ [.ref a] [.ref a] _ _ rfl room e0 (bind s (.ref a)) (.cons rfl .nil) want) fun r s' z => ?_
  match r, z with
  | .error _, z => exact z.elim
  | .ok .next, z => exact z.elim
  | .ok .brk, z => exact z.elim
  | .ok .cont, z => exact z.elim
  | .ok (.ret u), ⟨v, H', os, bare, un, ok', rv', q⟩ =>
    obtain rfl : v = .bl true := q
    obtain rfl : u = Value.bool true := rv'
    -- an object stays, or is a table that has grown
    have way : ∀ b o, s.heap.get? b = some o → s'.heap.get? b = some o ∨ ∃ p ∈ cs, b = p.2 ∧ ∃ more : Array Value, s'.heap.get? b = some (PySem.W.tabObj more) := fun b o q => by
      cases r : H b with
      | none => exact .inl (un.keep b o q r (fun z => absurd (show b ∈ ([] : List Addr) from z) (by simp)) (by simp))
      | some u =>
        rcases en.dom b u r with ⟨rfl, rfl⟩ | ⟨p, hp, rfl⟩
        · have q1 := (ok b _ r).1
          rw [q] at q1
          cases q1
          exact .inl (ok' b _ (un.frzs b _ _ r)).1
        · obtain ⟨more, z⟩ := un.tbls p.2 #[] (en.tab p hp)
          exact .inr ⟨p, hp, rfl, _, ok' p.2 _ z⟩
    refine ⟨rfl, ⟨fun b o q => ?_, fun b o q => ?_⟩, os, bare⟩
    · rcases way b o q with z | ⟨p, hp, rfl, more, z⟩
      · exact .inl z
      · obtain ⟨C, tp, _⟩ := ti p hp
        rw [tp] at q
        cases q
        exact .inr (.inl ⟨(C.tab tp).isCodeTable, rfl, #[], more, rfl, by rw [Array.empty_append]; exact z⟩)
    · rcases way b o q with z | ⟨_, _, _, more, z⟩
      · exact ⟨o, z⟩
      · exact ⟨_, z⟩
end
/-- the law's promise with its tables -/
def LawTG (l : PySem.W.OpenLaw) (w : World) (K : PySem.W.Frag) (k n : Nat) (x : Str) (mg : Str → Option Value) (fa : Addr) (h : Heap) : Prop :=
  ∃ (fd : FuncData) (cs : List (Addr × Addr)) (sp : Sp), TabsIn K h cs ∧ (∀ (s : Shared) (u : Value), BindsTo s fd ⟨[u], []⟩ [(x, u)]) ∧
    (∀ (H : Hp) (a : Addr) (ns : List Int), ns.length ≤ n → (∀ p ∈ cs, H p.2 = some (.tbl #[])) → SqL K H a (ns.map V.int) → sp [.ref a] H (fun v _ => v = .bl true) fun _ _ _ => False) ∧
    ∀ base : Heap, K.In base → base.Ns mainGlobals mg → (∀ p ∈ cs, TabB base mg p.1 p.2) → FnG l.prog w K mg base CX0 k fa fd [x] sp
/-- what the head tells of a def's table -/
abbrev TabsOf (q : Program) (K : PySem.W.Frag) (h : Heap) : Prop := ∀ (y : Str) (c P : Addr), ((recsOf q).find? (fun e => e.name == y)).isSome = true → PySem.W.tabIn K y = some (c, P) → PySem.W.CodeHd h c P ∧ h.get? P = some (PySem.W.tabObj #[])
/-- the goal behind the head, from such a promise -/
theorem walk_tabG {l : PySem.W.OpenLaw} {n k : Nat} {q : Program} {loose : List Str} {XP : (Str → Option Value) → Heap → Prop} {YP : World → Heap → Prop} {d : DefRec} {K : Params → PySem.W.Frag} {x : Str}
    (most : l.most = some n) (few : n ≤ sizeLine) (nodf : d.params.defaults = []) (room : Room k callerA) (hY : ∀ (w : World) (h : Heap), YP w h → (K w.params).In h)
    (F : ∀ (w : World) (mg : Str → Option Value) (fa : Addr) (h : Heap), (K w.params).In h → h.Ns mainGlobals mg → mg d.name = some (.ref fa) → TabsOf q (K w.params) h → XP mg h → LawTG l w (K w.params) k n x mg fa h) :
    PySem.W.WalkO q loose XP YP l.row.toRowW d [] (fun f vs => PySem.call f vs) :=
  Att.attach_call most nodf fun w _ s mg mb fa _ _ _ _ a vs ns G Y _ _ _ hmg hobj hints hlen hg => by
    have KX := hY w _ Y
    obtain ⟨fd, cs, sp, ti, bind, hsp, hF⟩ := F w mg fa _ KX G.T.g hmg (fun y c P hr ht => let ⟨d', hd⟩ := Option.isSome_iff_exists.mp hr; PySem.W.tab_of G.T KX hd ht) G.X
    have rv := vals_ints hints
    have len := hints.length
    have tne : ∀ p ∈ cs, p.2 ≠ a := fun p hp z => by
      have e := (ti p hp).2.1
      rw [z, hobj] at e
      cases e
    cases own : (K w.params).lookup a with
    | some o =>
      have e := KX a o own
      rw [hobj] at e
      cases e
      obtain ⟨H, eH⟩ : ∃ H : Hp, H = fun b => if b ∈ cs.map (·.2) then some (.tbl #[]) else none := ⟨_, rfl⟩
      have inT : ∀ p ∈ cs, H p.2 = some (.tbl #[]) := fun p hp => by
        rw [eH]
        exact if_pos (List.mem_map.mpr ⟨p, hp, rfl⟩)
      have outT : ∀ b, b ∉ cs.map (·.2) → H b = none := fun b n => by
        rw [eH]
        exact if_neg n
      have na : a ∉ cs.map (·.2) := fun m => by
        obtain ⟨p, hp, e⟩ := List.mem_map.mp m
        exact tne p hp e
      refine entT_run KX G.T.g G.T.b G.T.builtins G.T.nolimit hg ti G.T.bmain hobj rv (Nat.le_trans hlen few) room hF bind (H := H) ⟨inT, fun b u r => .inr ?_, fun z => absurd (outT a na) z⟩
        (hsp H a ns hlen inT (.inr ⟨_, vs.toArray, _, own, rfl, rfl, rfl, by rw [List.size_toArray, len]; exact Nat.le_trans hlen few, by simpa using rv⟩))
      refine Decidable.byContradiction fun n => ?_
      rw [outT b fun m => n (let ⟨p, hp, e⟩ := List.mem_map.mp m; ⟨p, hp, e.symm⟩)] at r
      cases r
    | none =>
      obtain ⟨H, eH⟩ : ∃ H : Hp, H = fun b => if b = a then some (.frz { cls := .type "list", data := .seq vs.toArray } (.lst (ns.map V.int))) else if b ∈ cs.map (·.2) then some (.tbl #[]) else none := ⟨_, rfl⟩
      have atA : H a = some (.frz { cls := .type "list", data := .seq vs.toArray } (.lst (ns.map V.int))) := by rw [eH]; exact if_pos rfl
      have inT : ∀ p ∈ cs, H p.2 = some (.tbl #[]) := fun p hp => by
        rw [eH]
        exact (if_neg (tne p hp)).trans (if_pos (List.mem_map.mpr ⟨p, hp, rfl⟩))
      refine entT_run KX G.T.g G.T.b G.T.builtins G.T.nolimit hg ti G.T.bmain hobj rv (Nat.le_trans hlen few) room hF bind (H := H) ⟨inT, fun b u r => ?_, fun _ => own⟩ (hsp H a ns hlen inT (.inl (.inr ⟨_, atA⟩)))
      by_cases n : b = a
      · subst n
        rw [atA] at r
        exact .inl ⟨rfl, (Option.some.inj r).symm⟩
      · refine .inr (Decidable.byContradiction fun m => ?_)
        rw [eH] at r
        have r' := (if_neg n).symm.trans r
        rw [if_neg fun z => m (let ⟨p, hp, e⟩ := List.mem_map.mp z; ⟨p, hp, e.symm⟩)] at r'
        cases r'
end L2


namespace FT
open PySem L2 TL ClX LamX NdefX
/-! ### tables -/
/-- as Keep, but for the tables of code objects -/
def KeepN (d c : Addr) (H H' : Hp) : Prop := ∀ b o, b ≠ d → b ≠ c → H b = some o → (∀ ps, o ≠ .tbl ps) → H' b = some o
theorem KeepN.trans {d c : Addr} {H H1 H2 : Hp} (a : KeepN d c H H1) (b : KeepN d c H1 H2) : KeepN d c H H2 := fun x o h h' e n => b x o h h' (a x o h h' e n) n
theorem Keep.n {d c : Addr} {H H' : Hp} (k : Keep d c H H') : KeepN d c H H' := fun b o h h' e _ => k b o h h' e
theorem KeepN.of_ext {d c : Addr} {H H' : Hp} (e : ExtN H H') : KeepN d c H H' := fun b o _ _ q n => e b o q n
theorem KeepN.free {d c p : Addr} {H H' : Hp} (k : KeepN d c H H') (n : H' p = none) (n1 : p ≠ d) (n2 : p ≠ c) (t : ∀ ps, H p ≠ some (.tbl ps)) : H p = none := by
  cases e : H p with
  | none => rfl
  | some o =>
    rw [k p o n1 n2 e (fun ps z => t ps (by rw [e, z]))] at n
    cases n
theorem tabs_keep {T : List (Addr × Str)} {d c : Addr} {H H' : Hp} (t : Tabs T H) (dr : DrawAt H d c) (k : Keep d c H H') : Tabs T H' := fun p hp => by
  obtain ⟨nx, mx, ct, cells, h1, h2, _⟩ := dr
  obtain ⟨ps, e1, e2, e3⟩ := t p hp
  have off : ∀ {b : Addr} {o : HO}, H b = some o → (∀ xs, o ≠ .lst xs) → H' b = some o := fun {b o} e n => k b o (fun z => by
    rw [z, h1] at e
    exact n _ (Option.some.inj e).symm) (fun z => by
    rw [z, h2] at e
    exact n _ (Option.some.inj e).symm) e
  refine ⟨ps, off e1 (fun xs z => nomatch z), e2, fun pos cv hc => ?_⟩
  obtain ⟨c', q1, q2⟩ := e3 pos cv hc
  exact ⟨c', q1, off q2 (fun xs z => by unfold CodeO at z; cases z)⟩
/-- neither a table nor a code object -/
def NTab (u : HO) : Prop := (∀ ps, u ≠ .tbl ps) ∧ ∀ c q, u ≠ CodeO c q
theorem NTab.dK {kvs : List (Key × V)} : NTab (.dK kvs) := ⟨fun ps z => (nomatch z), fun c q z => (by unfold CodeO at z; cases z)⟩
theorem NTab.dT {kvs : List (List Key × V)} : NTab (.dT kvs) := ⟨fun ps z => (nomatch z), fun c q z => (by unfold CodeO at z; cases z)⟩
theorem NTab.lst {xs : List V} : NTab (.lst xs) := ⟨fun ps z => (nomatch z), fun c q z => (by unfold CodeO at z; cases z)⟩
theorem NTab.ins {C dx : Addr} {fs : List (Str × V)} : NTab (.ins C dx fs) := ⟨fun ps z => (nomatch z), fun c q z => (by unfold CodeO at z; cases z)⟩
theorem tabs_put {T : List (Addr × Str)} {H : Hp} {p : Addr} {u o : HO} (t : Tabs T H) (e : H p = some u) (n : NTab u) : Tabs T (upd H p o) := fun x hx => by
  obtain ⟨ps, e1, e2, e3⟩ := t x hx
  refine ⟨ps, ?_, e2, fun pos cv hc => ?_⟩
  · rw [upd_ne fun z => ?_]
    · exact e1
    · rw [z, e] at e1
      exact n.1 _ (Option.some.inj e1)
  · obtain ⟨c, q1, q2⟩ := e3 pos cv hc
    refine ⟨c, q1, ?_⟩
    rw [upd_ne fun z => ?_]
    · exact q2
    · rw [z, e] at q2
      exact n.2 _ _ (Option.some.inj q2)
theorem tabs_new {T : List (Addr × Str)} {H : Hp} {p : Addr} {o : HO} (t : Tabs T H) (n : H p = none) : Tabs T (upd H p o) := t.ext (same_new n)
theorem DrawAt.ext {H H' : Hp} {d c : Addr} (x : DrawAt H d c) (e : ExtN H H') : DrawAt H' d c := by
  obtain ⟨nx, mx, ct, cells, h1, h2, r⟩ := x
  exact ⟨nx, mx, ct, cells, e _ _ h1 (fun ps z => nomatch z), e _ _ h2 (fun ps z => nomatch z), r⟩
theorem capt_by {sc scope : Scope} (h : (scope.names.all fun y => !decide (y.2 = .free) || decide (sc.names.lookup y.1 = some .cell) || decide (sc.names.lookup y.1 = some .free)) = true) :
    ∀ y ∈ scope.names, y.2 = .free → sc.names.lookup y.1 = some .cell ∨ sc.names.lookup y.1 = some .free := fun y hy e => by
  have z := List.all_eq_true.mp h y hy
  simp only [Bool.or_eq_true, Bool.not_eq_true', decide_eq_false_iff_not, decide_eq_true_eq] at z
  rcases z with (z | z) | z
  · exact absurd e z
  · exact .inl z
  · exact .inr z
def rLenS (K : PySem.W.Frag) : List V → Hp → VK → Prop := fun xs H Q => ∃ p ys, xs = [.ref p] ∧ (SqL K H p ys ∨ SqT K H p ys) ∧ Q (.int ys.length) H
def spSizes (T : List (Addr × Str)) : Sp := fun vs H Q _ => ∃ (d c q : Addr) (n : Int) (t : List (Str × Str)), vs = [.ref d, .ref q, .int n] ∧ DrawAt H d c ∧ H q = some (.dK (prs t)) ∧ TreeOk t ∧ 0 ≤ n ∧ n ≤ 10 ^ 30 ∧ Tabs T H ∧
  ∀ (p : Addr) (l : List Str) (sz : Str → Int) (H' : Hp), l.Perm (t.map Prod.fst) → Fea t n sz → (∀ b o, H b = some o → (∀ ps, o ≠ .tbl ps) → b ≠ p) → H' p = some (.dK (tblI l sz)) → DrawAt H' d c → Tabs T H' → KeepN d c H H' → Q (.ref p) H'
section
variable {P : Program} {w : World} {K : PySem.W.Frag} {mg : Str → Option Value} {base : Heap}
theorem scPath : FnScope ["_law_above", "_law_spot", "_law_way"] ["_law_above", "_law_spot"] (defScope s__law_path) := ⟨rfl, rfl, rfl, by decide +kernel, rfl, by decide +kernel, by decide +kernel⟩
def rankP (t : List (Str × Str)) (rk : Str → Nat) (σ : St) : Nat := match σ[1]? with
  | some (some (V.str a)) => if a ∈ t.map Prod.fst then rk a + 1 else 0
  | _ => 0
theorem ok_path {f : Addr} {fd : FuncData} (F : Fun K "_law_path" "_law_path" s__law_path f fd) : FnOk P w K mg base CX0 1 f fd ["_law_above", "_law_spot"] spPath := by
  refine F.ok scPath (fun vs H Q E h => ?_) (fun cdv A outer s H vs Q E hr h => ?_)
  · obtain ⟨q, a, t, rfl, _⟩ := h
    rfl
  · obtain ⟨q, a, t, rfl, hq, o, pl, k⟩ := h
    have hu := hu_of hr
    obtain ⟨rk, r⟩ := o.up
    refine ⟨_, pss_cons (ps_set (i := 2) scPath.nd rfl (.inl rfl) (pe_tup pa_nil))
      (pss_cons (ps_while PassesOwn.never (pt_cmpR op_ne (pv 1) pe_str (nomark _))
        (pss_cons (ps_set (i := 2) scPath.nd rfl (.inl rfl) (pe_op op_catT (pe_tup (pa_cons (pv 1) pa_nil)) (pv 2)))
        (pss_one (ps_set (i := 1) scPath.nd rfl (.inl rfl) (pe_dget hu (pv 0) (pv 1) (fun _ _ => rfl))))))
      (pss_one (ps_ret (pv 2)))), ?_⟩
    have big : 1000 ≤ sizeLine := by decide
    have few := o.few
    have rdm : ∀ {H'}, Same H H' → Rd H' q (.dK (prs t)) := fun s => hq.imp (s _ _) fun ⟨ob, e⟩ => ⟨ob, s _ _ e⟩
    refine ⟨by show 0 ≤ sizeLine; omega, fun p0 n0 => ?_⟩
    refine while_by (fun σ H' => ∃ (x : Str) (pw : Addr) (ws : List Str), σ = [some (.ref q), some (.str x), some (.ref pw)] ∧ Same H H' ∧ H pw = none ∧ H' pw = some (.tup (ws.map V.str)) ∧ Pl t x ∧ pathOf t a = pathOf t x ++ ws)
      (fun σ _ => rankP t rk σ) ⟨a, p0, [], rfl, same_new n0, n0, upd_same, pl, by rw [List.append_nil]⟩ ?_ ?_
    · rintro σ H1 ⟨x, pw, ws, rfl, s1, npw, aw, px, epath⟩
      refine ⟨_, rfl, rfl, _, rfl, ?_⟩
      have lws : ws.length ≤ 12 := by
        have z := congrArg List.length epath
        rw [List.length_append] at z
        have := path_len t a
        omega
      by_cases e : x = ""
      · rw [decide_eq_true (show V.str x = V.str "" by rw [e])]
        refine iteF ?_
        rw [e, path_root, List.nil_append] at epath
        exact ⟨_, rfl, k pw H1 s1 npw (by rw [epath]; exact aw)⟩
      · rw [decide_eq_false (show ¬ V.str x = V.str "" from fun z => e (V.str.inj z))]
        show if true = true then _ else _
        rw [if_pos rfl]
        have mx := px.resolve_left e
        obtain ⟨pa, ep, hpa, lx⟩ := o.step r mx
        have st := path_step o mx ep
        have fin : ∀ (p3 : Addr) (H3 : Hp), Same H1 H3 → H p3 = none → H3 p3 = some (.tup ((x :: ws).map V.str)) →
            DGet H3 q (.str x) (some (.str pa)) ∧ (∃ (x' : Str) (pw' : Addr) (ws' : List Str), ([some (.ref q), some (.str pa), some (.ref p3)] : St) = [some (.ref q), some (.str x'), some (.ref pw')] ∧ Same H H3 ∧ H pw' = none ∧ H3 pw' = some (.tup (ws'.map V.str)) ∧ Pl t x' ∧ pathOf t a = pathOf t x' ++ ws') ∧
            rankP t rk [some (.ref q), some (.str pa), some (.ref p3)] < rankP t rk [some (.ref q), some (.str x), some (.ref pw)] := fun p3 H3 s3 n3 a3 => by
          refine ⟨.inl ⟨_, Sum.inr x, rdm (s1.trans s3), rfl, by rw [val_prs, ep] <;> rfl⟩, ⟨pa, p3, x :: ws, rfl, s1.trans s3, n3, a3, hpa.imp id And.left, by rw [epath, st, List.append_assoc] <;> rfl⟩, ?_⟩
          have e1 : rankP t rk [some (.ref q), some (.str x), some (.ref pw)] = rk x + 1 := if_pos mx
          rw [e1]
          rcases hpa with z | ⟨mp, lp⟩
          · have e2 : rankP t rk [some (.ref q), some (.str pa), some (.ref p3)] = 0 := if_neg (by rw [z]; exact o.root)
            show rankP t rk [some (.ref q), some (.str pa), some (.ref p3)] < _
            rw [e2]
            omega
          · have e2 : rankP t rk [some (.ref q), some (.str pa), some (.ref p3)] = rk pa + 1 := if_pos mp
            show rankP t rk [some (.ref q), some (.str pa), some (.ref p3)] < _
            rw [e2]
            omega
        refine ⟨_, rfl, by show 1 ≤ sizeLine; omega, fun p2 n2 => ⟨_, rfl, p2, pw, [.str x], ws.map V.str, rfl, rfl, .inl (.inl upd_same), .inl (.inl (by rw [upd_ne (ne_of_none aw n2)]; exact aw)), by simp, by rw [List.length_map]; show 1 + _ ≤ sizeLine; omega, fun ew => ?_, fun _ p3 n3 => ?_⟩⟩
        · have ew' : ws = [] := List.map_eq_nil_iff.mp ew
          obtain ⟨f1, f2, f3⟩ := fin p2 _ (same_new n2) (s1.free n2) (by rw [upd_same, ew'] <;> rfl)
          exact ⟨_, rfl, _, rfl, q, .str pa, rfl, f1, f2, f3⟩
        · obtain ⟨f1, f2, f3⟩ := fin p3 _ ((same_new n2).trans (same_new n3)) (s1.free ((same_new n2).free n3)) upd_same
          exact ⟨_, rfl, _, rfl, q, .str pa, rfl, f1, f2, f3⟩
    · rintro σ H' Qa Qb h ⟨v, e1, e2, b, e3, z⟩
      exact ⟨v, e1, e2, b, e3, h _ _ z⟩
end
end FT


/-! the number of best changes, plain. -/
namespace FT
open PySem
def posP (z : Int) : Int := if 0 < z then z else 0
theorem arr_app (es fs : List (Str × Str × Int)) (p : Str) : arr (es ++ fs) p = arr es p + arr fs p := by
  unfold arr
  rw [List.filter_append, List.map_append, List.sum_append]
theorem lvs_app (es fs : List (Str × Str × Int)) (p : Str) : lvs (es ++ fs) p = lvs es p ++ lvs fs p := by
  unfold lvs
  rw [List.filter_append, List.map_append]
theorem crs_cons (g : Str → Int) (p : Str × Str) (ts : List (Str × Str)) : crs g (p :: ts) = (if 0 < g p.1 then [(p.2, p.1, g p.1)] else if g p.1 < 0 then [(p.1, p.2, - g p.1)] else []) ++ crs g ts := by
  unfold crs
  rw [List.flatMap_cons]
theorem arr_one (a b : Str) (z : Int) (p : Str) : arr [(a, b, z)] p = if b = p then z else 0 := by
  unfold arr
  by_cases e : b = p
  · rw [if_pos e, List.filter_cons, decide_eq_true e, List.filter_nil]
    show z + 0 = z
    omega
  · rw [if_neg e, List.filter_cons, decide_eq_false e, List.filter_nil] <;> rfl
theorem lvs_one (a b : Str) (z : Int) (p : Str) : (lvs [(a, b, z)] p).sum = if a = p then z else 0 := by
  unfold lvs
  by_cases e : a = p
  · rw [if_pos e, List.filter_cons, decide_eq_true e, List.filter_nil]
    show z + 0 = z
    omega
  · rw [if_neg e, List.filter_cons, decide_eq_false e, List.filter_nil] <;> rfl
def sOf (ts : List (Str × Str)) (c : Str × Str → Bool) (f : Str → Int) : Int := ((ts.filter c).map fun x => f x.1).sum
theorem sOf_cons (x : Str × Str) (ts : List (Str × Str)) (c : Str × Str → Bool) (f : Str → Int) : sOf (x :: ts) c f = (if c x = true then f x.1 else 0) + sOf ts c f := by
  unfold sOf
  by_cases e : c x = true
  · rw [if_pos e, List.filter_cons, if_pos e, List.map_cons, List.sum_cons]
  · rw [if_neg e, List.filter_cons, if_neg e, Int.zero_add]
theorem arr_eq (g : Str → Int) (p : Str) : ∀ ts : List (Str × Str), arr (crs g ts) p = sOf ts (fun x => decide (x.1 = p)) (fun a => posP (g a)) + sOf ts (fun x => decide (x.2 = p)) (fun a => posP (- g a))
  | [] => rfl
  | x :: ts => by
    rw [crs_cons, arr_app, arr_eq g p ts, sOf_cons, sOf_cons]
    simp only [decide_eq_true_eq]
    unfold posP
    by_cases h1 : 0 < g x.1
    · rw [if_pos h1, arr_one, if_neg (show ¬ 0 < - g x.1 by omega)]
      split <;> split <;> simp_all <;> omega
    · rw [if_neg h1]
      by_cases h2 : g x.1 < 0
      · rw [if_pos h2, arr_one, if_pos (show 0 < - g x.1 by omega)]
        split <;> split <;> simp_all <;> omega
      · rw [if_neg h2, if_neg (show ¬ 0 < - g x.1 by omega), show arr [] p = 0 from rfl]
        split <;> split <;> omega
theorem lvs_eq (g : Str → Int) (p : Str) : ∀ ts : List (Str × Str), (lvs (crs g ts) p).sum = sOf ts (fun x => decide (x.1 = p)) (fun a => posP (- g a)) + sOf ts (fun x => decide (x.2 = p)) (fun a => posP (g a))
  | [] => rfl
  | x :: ts => by
    rw [crs_cons, lvs_app, List.sum_append, lvs_eq g p ts, sOf_cons, sOf_cons]
    simp only [decide_eq_true_eq]
    unfold posP
    by_cases h1 : 0 < g x.1
    · rw [if_pos h1, lvs_one, if_neg (show ¬ 0 < - g x.1 by omega)]
      split <;> split <;> simp_all <;> omega
    · rw [if_neg h1]
      by_cases h2 : g x.1 < 0
      · rw [if_pos h2, lvs_one, if_pos (show 0 < - g x.1 by omega)]
        split <;> split <;> simp_all <;> omega
      · rw [if_neg h2, if_neg (show ¬ 0 < - g x.1 by omega), show (lvs [] p).sum = 0 from rfl]
        split <;> split <;> omega
theorem own_none (f : Str → Int) {p : Str} : ∀ {ts : List (Str × Str)}, p ∉ ts.map Prod.fst → sOf ts (fun x => decide (x.1 = p)) f = 0
  | [], _ => rfl
  | x :: ts, h => by
    rw [List.map_cons, List.mem_cons] at h
    rw [sOf_cons, if_neg (by rw [decide_eq_true_eq]; exact fun z => h (.inl z.symm)), own_none f fun z => h (.inr z)] <;> rfl
theorem own_one (f : Str → Int) {p : Str} : ∀ {ts : List (Str × Str)}, (ts.map Prod.fst).Nodup → p ∈ ts.map Prod.fst → sOf ts (fun x => decide (x.1 = p)) f = f p
  | [], _, h => by cases h
  | x :: ts, nd, h => by
    obtain ⟨n1, n2⟩ := List.nodup_cons.mp nd
    rw [sOf_cons]
    by_cases e : x.1 = p
    · rw [if_pos (decide_eq_true e), e, own_none f (by rw [← e]; exact n1)]
      omega
    · rw [if_neg (by rw [decide_eq_true_eq]; exact e), own_one f n2 ((List.mem_cons.mp h).resolve_left fun z => e z.symm)]
      omega
theorem kids_sOf (ts : List (Str × Str)) (p : Str) (f : Str → Int) : sOf ts (fun x => decide (x.2 = p)) f = ((kids ts p).map f).sum := by
  unfold sOf kids
  rw [List.map_map] <;> rfl
theorem sum_add (f g : Str → Int) : ∀ l : List Str, (l.map fun a => f a + g a).sum = (l.map f).sum + (l.map g).sum
  | [] => rfl
  | a :: l => by
    rw [List.map_cons, List.map_cons, List.map_cons, List.sum_cons, List.sum_cons, List.sum_cons, sum_add f g l]
    omega
theorem sum_nn {f : Str → Int} : ∀ {l : List Str}, (∀ a ∈ l, 0 ≤ f a) → 0 ≤ (l.map f).sum
  | [], _ => Int.le_refl _
  | a :: l, h => by
    rw [List.map_cons, List.sum_cons]
    have := h a (List.mem_cons_self ..)
    have := sum_nn fun b hb => h b (List.mem_cons_of_mem a hb)
    omega
theorem le_sum {f : Str → Int} {b : Str} : ∀ {l : List Str}, (∀ a ∈ l, 0 ≤ f a) → b ∈ l → f b ≤ (l.map f).sum
  | a :: l, h, m => by
    rw [List.map_cons, List.sum_cons]
    have h1 := h a (List.mem_cons_self ..)
    have h2 : ∀ c ∈ l, 0 ≤ f c := fun b hb => h b (List.mem_cons_of_mem a hb)
    rcases List.mem_cons.mp m with rfl | m
    · have := sum_nn h2
      omega
    · have := le_sum h2 m
      omega
/-! ### those present -/
def preC (ts : List (Str × Str)) (n : Int) (s1 s2 : Str → Int) (p : Str) : Int := (if p = "" then n else max (s1 p) (s2 p)) - ((kids ts p).map fun c => min (s1 c) (s2 c)).sum
theorem pre_eq {ts : List (Str × Str)} {n : Int} {s1 s2 : Str → Int} (o : TreeOk ts) {p : Str} (hp : p = "" ∨ p ∈ ts.map Prod.fst) : resid ts n s1 p + arr (crs (fun a => s2 a - s1 a) ts) p = preC ts n s1 s2 p := by
  rw [arr_eq, kids_sOf]
  unfold resid preC
  have e : ((kids ts p).map s1).sum = ((kids ts p).map fun c => min (s1 c) (s2 c)).sum + ((kids ts p).map fun c => posP (-(s2 c - s1 c))).sum := by
    rw [← sum_add]
    congr 1
    refine List.map_congr_left fun a _ => ?_
    unfold posP
    split <;> omega
  rw [e]
  rcases hp with rfl | hp
  · rw [own_none _ o.root, if_pos rfl, if_pos rfl]
    omega
  · have ne : p ≠ "" := fun z => o.root (by rw [← z]; exact hp)
    rw [own_one _ o.nd hp, if_neg ne, if_neg ne]
    have : s1 p + posP (s2 p - s1 p) = max (s1 p) (s2 p) := by
      unfold posP
      split <;> omega
    omega
theorem rem_eq {ts : List (Str × Str)} {n : Int} {s1 s2 : Str → Int} (o : TreeOk ts) {p : Str} (hp : p = "" ∨ p ∈ ts.map Prod.fst) : preC ts n s1 s2 p - (lvs (crs (fun a => s2 a - s1 a) ts) p).sum = resid ts n s2 p := by
  rw [lvs_eq, kids_sOf]
  unfold resid preC
  have e : ((kids ts p).map s2).sum = ((kids ts p).map fun c => min (s1 c) (s2 c)).sum + ((kids ts p).map fun c => posP (s2 c - s1 c)).sum := by
    rw [← sum_add]
    congr 1
    refine List.map_congr_left fun a _ => ?_
    unfold posP
    split <;> omega
  rw [e]
  rcases hp with rfl | hp
  · rw [own_none _ o.root, if_pos rfl, if_pos rfl]
    omega
  · have ne : p ≠ "" := fun z => o.root (by rw [← z]; exact hp)
    rw [own_one _ o.nd hp, if_neg ne, if_neg ne]
    have : max (s1 p) (s2 p) - posP (-(s2 p - s1 p)) = s2 p := by
      unfold posP
      split <;> omega
    omega
theorem kids_mem {ts : List (Str × Str)} {a p : Str} (h : (a, p) ∈ ts) : a ∈ kids ts p := by
  unfold kids
  exact List.mem_map.mpr ⟨(a, p), List.mem_filter.mpr ⟨h, decide_eq_true rfl⟩, rfl⟩
theorem fea_le {ts : List (Str × Str)} {n : Int} {s : Str → Int} (o : TreeOk ts) (f : Fea ts n s) : ∀ a ∈ ts.map Prod.fst, s a ≤ n := by
  obtain ⟨rk, r⟩ := o.up
  have key : ∀ (m : Nat) (a : Str), a ∈ ts.map Prod.fst → rk a ≤ m → s a ≤ n := by
    intro m
    induction m with
    | zero =>
      intro a ha hm
      obtain ⟨p, hp, h, _⟩ := o.step r ha
      rcases h with e | ⟨_, l⟩
      · have := f.res p (by rw [e]; exact List.mem_cons_self ..)
        have l1 := le_sum (f := s) (fun c hc => f.nn c (kids_sub hc)) (kids_mem (par_mem hp))
        unfold resid at this
        rw [if_pos e] at this
        omega
      · omega
    | succ m ih =>
      intro a ha hm
      obtain ⟨p, hp, h, _⟩ := o.step r ha
      have l1 := le_sum (f := s) (fun c hc => f.nn c (kids_sub hc)) (kids_mem (par_mem hp))
      rcases h with e | ⟨mp, l⟩
      · have := f.res p (by rw [e]; exact List.mem_cons_self ..)
        unfold resid at this
        rw [if_pos e] at this
        omega
      · have := f.res p (List.mem_cons_of_mem _ mp)
        have ne : p ≠ "" := fun z => o.root (by rw [← z]; exact mp)
        unfold resid at this
        rw [if_neg ne] at this
        have := ih p mp (by omega)
        omega
  exact fun a ha => key (rk a) a ha (Nat.le_refl _)
theorem pre_le {ts : List (Str × Str)} {n : Int} {s1 s2 : Str → Int} (o : TreeOk ts) (f1 : Fea ts n s1) (f2 : Fea ts n s2) {p : Str} (hp : p = "" ∨ p ∈ ts.map Prod.fst) : preC ts n s1 s2 p ≤ n := by
  have nn : 0 ≤ ((kids ts p).map fun c => min (s1 c) (s2 c)).sum := sum_nn fun a ha => by
    have := f1.nn a (kids_sub ha)
    have := f2.nn a (kids_sub ha)
    omega
  unfold preC
  rcases hp with rfl | hp
  · rw [if_pos rfl]
    omega
  · have ne : p ≠ "" := fun z => o.root (by rw [← z]; exact hp)
    rw [if_neg ne]
    have := fea_le o f1 p hp
    have := fea_le o f2 p hp
    omega
theorem crs_pos {g : Str → Int} {ts : List (Str × Str)} {e : Str × Str × Int} (h : e ∈ crs g ts) : 0 < e.2.2 ∧ ∃ x ∈ ts, e.1 = x.1 ∨ e.1 = x.2 := by
  unfold crs at h
  obtain ⟨x, hx, h⟩ := List.mem_flatMap.mp h
  split at h
  · rename_i q
    obtain rfl := List.mem_singleton.mp h
    exact ⟨q, x, hx, .inr rfl⟩
  · split at h
    · rename_i q
      obtain rfl := List.mem_singleton.mp h
      exact ⟨by show 0 < - g x.1; omega, x, hx, .inl rfl⟩
    · cases h
/-! ### the number -/
def preN (ts : List (Str × Str)) (n : Int) (s1 s2 : Str → Int) (p : Str) : Nat := (preC ts n s1 s2 p).toNat
def outN (ts : List (Str × Str)) (s1 s2 : Str → Int) (p : Str) : List Nat := (lvs (crs (fun a => s2 a - s1 a) ts) p).map Int.toNat
def plc (ts : List (Str × Str)) : List Str := ("" : Str) :: ts.map Prod.fst
def cntN (ts : List (Str × Str)) (n : Int) (s1 s2 : Str → Int) : Nat := wyN (preN ts n s1 s2) (outN ts s1 s2) (plc ts) 1
theorem lvs_pos {g : Str → Int} {ts : List (Str × Str)} {p : Str} {z : Int} (h : z ∈ lvs (crs g ts) p) : 0 < z := by
  obtain ⟨e, he, rfl⟩ := List.mem_map.mp h
  exact (crs_pos (List.mem_filter.mp he).1).1
theorem toNats {l : List Int} (h : ∀ z ∈ l, 0 < z) : (l.map Int.toNat).map (fun x : Nat => (x : Int)) = l := by
  rw [List.map_map]
  refine (List.map_congr_left fun z hz => ?_).trans (List.map_id _)
  have := h z hz
  show ((z.toNat : Nat) : Int) = z
  omega
theorem out_sum {ts : List (Str × Str)} {s1 s2 : Str → Int} {p : Str} : ((outN ts s1 s2 p).sum : Int) = (lvs (crs (fun a => s2 a - s1 a) ts) p).sum := by
  unfold outN
  rw [← cast_sum, toNats fun z hz => lvs_pos hz]
theorem pre_nn {ts : List (Str × Str)} {n : Int} {s1 s2 : Str → Int} (o : TreeOk ts) (f2 : Fea ts n s2) {p : Str} (hp : p ∈ plc ts) : 0 ≤ preC ts n s1 s2 p ∧ ((outN ts s1 s2 p).sum : Int) ≤ preC ts n s1 s2 p := by
  have e := rem_eq (n := n) (s1 := s1) (s2 := s2) o (List.mem_cons.mp hp)
  have := f2.res p hp
  rw [← out_sum] at e
  have := Int.natCast_nonneg (outN ts s1 s2 p).sum
  omega
theorem ways_good {ts : List (Str × Str)} {n : Int} {s1 s2 : Str → Int} (o : TreeOk ts) (f1 : Fea ts n s1) (f2 : Fea ts n s2) (n3 : n ≤ 300) : ∀ p ∈ plc ts, resid ts n s1 p + arr (crs (fun a => s2 a - s1 a) ts) p = (preN ts n s1 s2 p : Int) ∧ lvs (crs (fun a => s2 a - s1 a) ts) p = (outN ts s1 s2 p).map (fun x : Nat => (x : Int)) ∧
    (outN ts s1 s2 p).sum ≤ preN ts n s1 s2 p ∧ preN ts n s1 s2 p ≤ 300 := fun p hp => by
  have hp' := List.mem_cons.mp hp
  obtain ⟨a, b⟩ := pre_nn (s1 := s1) o f2 hp
  have c := pre_le o f1 f2 hp'
  unfold preN
  refine ⟨?_, ?_, by omega, by omega⟩
  · rw [pre_eq o hp']
    omega
  · unfold outN
    rw [toNats fun z hz => lvs_pos hz]
theorem fprod_snoc (l : List Nat) (x : Nat) : fprod (l ++ [x]) = fprod l * fct x := by
  unfold fprod
  rw [List.map_append, prd_app]
  show _ * (fct x * 1) = _
  rw [Nat.mul_one]
theorem wy_mul {pre : Str → Nat} {out : Str → List Nat} : ∀ (keys : List Str) (f : Nat), (∀ p ∈ keys, (out p).sum ≤ pre p) → wyN pre out keys f * prd (keys.map fun p => fprod (grp pre out p)) = f * prd (keys.map fun p => fct (pre p))
  | [], f, _ => rfl
  | p :: keys, f, h => by
    have i := wy_mul keys (f * fct (pre p) / fprod (grp pre out p)) fun q hq => h q (List.mem_cons_of_mem _ hq)
    have hs : (grp pre out p).sum = pre p := by
      have := h p (List.mem_cons_self ..)
      unfold grp
      rw [List.sum_append, List.sum_cons, List.sum_nil]
      omega
    show wyN pre out keys (f * fct (pre p) / fprod (grp pre out p)) * (fprod (grp pre out p) * prd (keys.map fun p => fprod (grp pre out p))) = f * (fct (pre p) * prd (keys.map fun p => fct (pre p)))
    rw [Nat.mul_comm (fprod (grp pre out p)), ← Nat.mul_assoc, i, Nat.mul_assoc, Nat.mul_comm (prd _), ← Nat.mul_assoc, multi hs, Nat.mul_assoc]
theorem prd_one {h : Nat} {p : Str} : ∀ {keys : List Str}, keys.Nodup → p ∈ keys → prd (keys.map fun q => if p = q then h else 1) = h
  | k :: keys, nd, m => by
    obtain ⟨n1, n2⟩ := List.nodup_cons.mp nd
    show (if p = k then h else 1) * prd (keys.map fun q => if p = q then h else 1) = h
    by_cases e : p = k
    · rw [if_pos e]
      have : prd (keys.map fun q => if p = q then h else 1) = 1 := by
        subst e
        clear nd m
        induction keys with
        | nil => rfl
        | cons c keys ih =>
          rw [List.mem_cons] at n1
          show (if p = c then h else 1) * prd (keys.map fun q => if p = q then h else 1) = 1
          rw [if_neg fun z => n1 (.inl z), ih (List.nodup_cons.mp n2).2 (fun z => n1 (.inr z))]
      rw [this, Nat.mul_one]
    · rw [if_neg e, Nat.one_mul]
      exact prd_one n2 ((List.mem_cons.mp m).resolve_left e)
theorem part {α : Type} (st : α → Str) (h : α → Nat) {keys : List Str} (nd : keys.Nodup) : ∀ es : List α, (∀ e ∈ es, st e ∈ keys) → prd (keys.map fun p => prd ((es.filter fun e => decide (st e = p)).map h)) = prd (es.map h)
  | [], _ => by
    show prd (keys.map fun _ => 1) = 1
    clear nd
    induction keys with
    | nil => rfl
    | cons k keys ih =>
      show 1 * prd (keys.map fun _ => 1) = 1
      rw [ih (fun _ z => nomatch z)]
  | e :: es, hm => by
    have i := part st h nd es fun x hx => hm x (List.mem_cons_of_mem _ hx)
    have eq : (keys.map fun p => prd (((e :: es).filter fun e => decide (st e = p)).map h)) = keys.map fun p => (if st e = p then h e else 1) * prd ((es.filter fun e => decide (st e = p)).map h) := List.map_congr_left fun p _ => by
      by_cases c : st e = p
      · rw [List.filter_cons, if_pos (decide_eq_true c), if_pos c] <;> rfl
      · rw [List.filter_cons, if_neg (by rw [decide_eq_true_eq]; exact c), if_neg c, Nat.one_mul]
    rw [eq, prd_mul, i, prd_one nd (hm e (List.mem_cons_self ..))] <;> rfl
theorem amount_prd (g : Str → Int) : ∀ ts : List (Str × Str), prd ((crs g ts).map fun e => fct e.2.2.toNat) = prd (ts.map fun x => fct (g x.1).natAbs)
  | [] => rfl
  | x :: ts => by
    rw [crs_cons, List.map_append, prd_app, amount_prd g ts]
    show _ = fct (g x.1).natAbs * prd (ts.map fun x => fct (g x.1).natAbs)
    congr 1
    split
    · rename_i h
      show fct (g x.1).toNat * 1 = _
      rw [Nat.mul_one, show (g x.1).natAbs = (g x.1).toNat by omega]
    · split
      · rename_i h
        show fct (- g x.1).toNat * 1 = _
        rw [Nat.mul_one, show (g x.1).natAbs = (- g x.1).toNat by omega]
      · rw [show (g x.1).natAbs = 0 by omega] <;> rfl
/-- the products that do not hang on the order -/
def Apr (ts : List (Str × Str)) (s1 s2 : Str → Int) : Nat := prd (ts.map fun x => fct (s2 x.1 - s1 x.1).natAbs)
def Rpr (ts : List (Str × Str)) (n : Int) (s : Str → Int) : Nat := prd ((plc ts).map fun p => fct (resid ts n s p).toNat)
def Ppr (ts : List (Str × Str)) (n : Int) (s1 s2 : Str → Int) : Nat := prd ((plc ts).map fun p => fct (preC ts n s1 s2 p).toNat)
theorem plc_nd {ts : List (Str × Str)} (o : TreeOk ts) : (plc ts).Nodup := List.nodup_cons.mpr ⟨o.root, o.nd⟩
theorem cnt_eq {ts : List (Str × Str)} {n : Int} {s1 s2 : Str → Int} (o : TreeOk ts) (f2 : Fea ts n s2) : cntN ts n s1 s2 * (Apr ts s1 s2 * Rpr ts n s2) = Ppr ts n s1 s2 := by
  have m := wy_mul (pre := preN ts n s1 s2) (out := outN ts s1 s2) (plc ts) 1 fun p hp => by
    obtain ⟨a, b⟩ := pre_nn (s1 := s1) o f2 hp
    unfold preN
    omega
  have e : ((plc ts).map fun p => fprod (grp (preN ts n s1 s2) (outN ts s1 s2) p)) = (plc ts).map fun p => prd (((crs (fun a => s2 a - s1 a) ts).filter fun e => decide (e.1 = p)).map fun e => fct e.2.2.toNat) * fct (resid ts n s2 p).toNat := List.map_congr_left fun p hp => by
    unfold grp
    rw [fprod_snoc]
    congr 1
    · unfold fprod outN lvs
      rw [List.map_map, List.map_map] <;> rfl
    · obtain ⟨a, b⟩ := pre_nn (s1 := s1) o f2 hp
      have r := rem_eq (n := n) (s1 := s1) (s2 := s2) o (List.mem_cons.mp hp)
      rw [← out_sum] at r
      unfold preN
      congr 1
      omega
  rw [e, prd_mul, part (fun e : Str × Str × Int => e.1) _ (plc_nd o), amount_prd] at m
  · rw [Nat.one_mul] at m
    exact m
  · intro x hx
    obtain ⟨_, y, hy, h⟩ := crs_pos hx
    rcases h with h | h
    · show x.1 ∈ plc ts
      rw [h]
      exact List.mem_cons_of_mem _ (List.mem_map.mpr ⟨_, hy, rfl⟩)
    · show x.1 ∈ plc ts
      rw [h]
      obtain ⟨rk, r⟩ := o.up
      exact List.mem_cons.mpr ((r _ hy).2.imp id And.left)
theorem Apr_pos (ts : List (Str × Str)) (s1 s2 : Str → Int) : 0 < Apr ts s1 s2 := prd_pos fun x h => by
  obtain ⟨n, _, rfl⟩ := List.mem_map.mp h
  exact fct_pos _
theorem Rpr_pos (ts : List (Str × Str)) (n : Int) (s : Str → Int) : 0 < Rpr ts n s := prd_pos fun x h => by
  obtain ⟨n, _, rfl⟩ := List.mem_map.mp h
  exact fct_pos _
end FT


/-! plain: lists of users by place, how a change of sizes moves them, that the way back restores them. No program here. -/
namespace FT
open PySem L2 TL
/-! ### sums -/
theorem sum_map_add {α : Type} (f g : α → Int) : ∀ l : List α, (l.map fun x => f x + g x).sum = (l.map f).sum + (l.map g).sum
  | [] => rfl
  | a :: l => by
    rw [List.map_cons, List.map_cons, List.map_cons, List.sum_cons, List.sum_cons, List.sum_cons, sum_map_add f g l]
    omega
theorem sum_map_sub {α : Type} (f g : α → Int) : ∀ l : List α, (l.map fun x => f x - g x).sum = (l.map f).sum - (l.map g).sum
  | [] => rfl
  | a :: l => by
    rw [List.map_cons, List.map_cons, List.map_cons, List.sum_cons, List.sum_cons, List.sum_cons, sum_map_sub f g l]
    omega
theorem sum_map_mul {α : Type} (f : α → Int) (c : Int) : ∀ l : List α, (l.map fun x => c * f x).sum = c * (l.map f).sum
  | [] => by simp
  | a :: l => by
    rw [List.map_cons, List.map_cons, List.sum_cons, List.sum_cons, sum_map_mul f c l, Int.mul_add]
theorem sum_map_zero {α : Type} {f : α → Int} : ∀ {l : List α}, (∀ x ∈ l, f x = 0) → (l.map f).sum = 0
  | [], _ => rfl
  | a :: l, h => by
    rw [List.map_cons, List.sum_cons, h a (List.mem_cons_self ..), sum_map_zero fun x hx => h x (List.mem_cons_of_mem _ hx)]
    rfl
theorem sum_swap {α β : Type} (f : α → β → Int) (m : List β) : ∀ l : List α, (l.map fun x => (m.map fun y => f x y).sum).sum = (m.map fun y => (l.map fun x => f x y).sum).sum
  | [] => by
    rw [sum_map_zero (l := m) (f := fun y => (([] : List α).map fun x => f x y).sum) fun _ _ => rfl] <;> rfl
  | a :: l => by
    rw [List.map_cons, List.sum_cons, sum_swap f m l, ← sum_map_add] <;> rfl
theorem sum_one {α : Type} [DecidableEq α] {f : α → Int} {a : α} : ∀ {l : List α}, l.Nodup → (l.map fun x => if x = a then f x else 0).sum = if a ∈ l then f a else 0
  | [], _ => rfl
  | b :: l, nd => by
    obtain ⟨n1, n2⟩ := List.nodup_cons.mp nd
    rw [List.map_cons, List.sum_cons, sum_one n2]
    by_cases e : b = a
    · subst e
      rw [if_pos rfl, if_neg n1, if_pos (List.mem_cons_self ..)]
      omega
    · rw [if_neg e, Int.zero_add]
      by_cases m : a ∈ l
      · rw [if_pos m, if_pos (List.mem_cons_of_mem _ m)]
      · rw [if_neg m, if_neg fun z => (List.mem_cons.mp z).elim (fun z => e z.symm) m]
/-! ### places, neighbours -/
def pls (ts : List (Str × Str)) : List Str := "" :: ts.map Prod.fst
theorem pls_nd {ts : List (Str × Str)} (o : TreeOk ts) : (pls ts).Nodup := List.nodup_cons.mpr ⟨o.root, o.nd⟩
theorem mem_pls {ts : List (Str × Str)} {a : Str} : a ∈ pls ts ↔ Pl ts a := List.mem_cons
theorem pls_len (ts : List (Str × Str)) : (pls ts).length = ts.length + 1 := by unfold pls; rw [List.length_cons, List.length_map]
theorem kids_cons (q : Str × Str) (ts : List (Str × Str)) (p : Str) : kids (q :: ts) p = (if q.2 = p then [q.1] else []) ++ kids ts p := by
  unfold kids
  rw [List.filter_cons]
  by_cases e : q.2 = p
  · rw [if_pos e, if_pos (decide_eq_true e)] <;> rfl
  · rw [if_neg e, if_neg (by rw [decide_eq_false e]; decide)] <;> rfl
/-- a sum over the children of places is a sum over the flags -/
theorem kids_sum {F : List Str} (nd : F.Nodup) (f : Str → Str → Int) : ∀ ts : List (Str × Str), (F.map fun p => ((kids ts p).map fun k => f k p).sum).sum = (ts.map fun q => if q.2 ∈ F then f q.1 q.2 else 0).sum
  | [] => sum_map_zero fun _ _ => rfl
  | q :: ts => by
    rw [List.map_cons, List.sum_cons, ← kids_sum nd f ts]
    rw [show (F.map fun p => ((kids (q :: ts) p).map fun k => f k p).sum) = F.map fun p => (if p = q.2 then f q.1 p else 0) + ((kids ts p).map fun k => f k p).sum from List.map_congr_left fun p _ => ?_, sum_map_add, sum_one nd]
    rw [kids_cons, List.map_append, List.sum_append]
    by_cases e : q.2 = p
    · rw [if_pos e, if_pos e.symm]
      show f q.1 p + 0 + _ = _
      omega
    · rw [if_neg e, if_neg fun z => e z.symm] <;> rfl
theorem mem_kids {ts : List (Str × Str)} {k p : Str} : k ∈ kids ts p ↔ (k, p) ∈ ts := by
  unfold kids
  constructor
  · intro h
    obtain ⟨q, hq, e⟩ := List.mem_map.mp h
    obtain ⟨h1, h2⟩ := List.mem_filter.mp hq
    rw [← e, ← of_decide_eq_true h2]
    exact h1
  · exact fun h => List.mem_map.mpr ⟨_, List.mem_filter.mpr ⟨h, decide_eq_true rfl⟩, rfl⟩
theorem kid_par {ts : List (Str × Str)} (o : TreeOk ts) {k p : Str} : k ∈ kids ts p ↔ par ts k = some p := ⟨fun h => par_of o.nd (mem_kids.mp h), fun h => mem_kids.mpr (par_mem h)⟩
theorem kids_nd {ts : List (Str × Str)} (o : TreeOk ts) (p : Str) : (kids ts p).Nodup := o.nd.sublist ((List.filter_sublist (p := fun q : Str × Str => decide (q.2 = p)) (l := ts)).map Prod.fst)
theorem par_flag {ts : List (Str × Str)} {a z : Str} (h : par ts a = some z) : a ∈ ts.map Prod.fst := List.mem_map.mpr ⟨_, par_mem h, rfl⟩
theorem par_pl {ts : List (Str × Str)} (o : TreeOk ts) {a z : Str} (h : par ts a = some z) : Pl ts z := by
  obtain ⟨rk, r⟩ := o.up
  exact (r _ (par_mem h)).2.imp id And.left
theorem par_root {ts : List (Str × Str)} (o : TreeOk ts) : par ts "" = none := par_none o.root
/-- no flag is above its parent -/
theorem par_once {ts : List (Str × Str)} (o : TreeOk ts) {a b : Str} (h : par ts a = some b) (h2 : par ts b = some a) : False := by
  obtain ⟨rk, r⟩ := o.up
  have h3 := (r _ (par_mem h)).2
  have h4 := (r _ (par_mem h2)).2
  rcases h3 with e | ⟨_, h3⟩
  · have e : b = "" := e
    rw [e, par_root o] at h2
    cases h2
  · rcases h4 with e | ⟨_, h4⟩
    · have e : a = "" := e
      rw [e, par_root o] at h
      cases h
    · have h3 : rk b < rk a := h3
      have h4 : rk a < rk b := h4
      omega
/-- the other ends of the edges of a place -/
def adj (ts : List (Str × Str)) (p : Str) : List Str := (if p = "" then [] else [(par ts p).getD ""]) ++ kids ts p
theorem mem_adj {ts : List (Str × Str)} (o : TreeOk ts) {a b : Str} (h : Pl ts b) : a ∈ adj ts b ↔ par ts b = some a ∨ par ts a = some b := by
  unfold adj
  rw [List.mem_append, kid_par o]
  refine or_congr ?_ .rfl
  by_cases e : b = ""
  · subst e
    rw [if_pos rfl, par_root o]
    exact ⟨(fun z => nomatch z), (fun z => nomatch z)⟩
  · rw [if_neg e, List.mem_singleton]
    obtain ⟨z, hz⟩ := par_some o.nd (h.resolve_left e)
    rw [hz]
    exact ⟨fun q => by rw [q] <;> rfl, fun q => (Option.some.inj q).symm⟩
theorem adj_nd {ts : List (Str × Str)} (o : TreeOk ts) {p : Str} (h : Pl ts p) : (adj ts p).Nodup := by
  unfold adj
  by_cases e : p = ""
  · rw [if_pos e]
    exact kids_nd o p
  · rw [if_neg e]
    refine List.nodup_cons.mpr ⟨fun m => ?_, kids_nd o p⟩
    obtain ⟨z, hz⟩ := par_some o.nd (h.resolve_left e)
    rw [hz] at m
    exact par_once o hz ((kid_par o).mp m)
theorem adj_pl {ts : List (Str × Str)} (o : TreeOk ts) {a b : Str} (h : Pl ts b) (m : a ∈ adj ts b) : Pl ts a := by
  rcases (mem_adj o h).mp m with z | z
  · exact par_pl o z
  · exact .inr (par_flag z)
theorem adj_sym {ts : List (Str × Str)} (o : TreeOk ts) {a b : Str} (h : Pl ts b) (m : a ∈ adj ts b) : b ∈ adj ts a := (mem_adj o (adj_pl o h m)).mpr ((mem_adj o h).mp m).symm
/-! ### how many users cross an edge -/
def lv (ts : List (Str × Str)) (c : Str → Int) (p o : Str) : Nat := if par ts o = some p ∧ 0 < c o then (c o).toNat else if par ts p = some o ∧ c p < 0 then (- c p).toNat else 0
theorem lv_neg {ts : List (Str × Str)} (o : TreeOk ts) {c d : Str → Int} (hd : ∀ x, d x = - c x) (a b : Str) : lv ts d a b = lv ts c b a := by
  have da := hd a
  have db := hd b
  unfold lv
  by_cases h1 : par ts b = some a
  · have h2 : ¬ par ts a = some b := fun z => par_once o h1 z
    rw [if_neg (show ¬ (par ts a = some b ∧ d a < 0) from fun z => h2 z.1), if_neg (show ¬ (par ts a = some b ∧ 0 < c a) from fun z => h2 z.1)]
    by_cases n : c b < 0
    · rw [if_pos ⟨h1, by omega⟩, if_pos ⟨h1, n⟩, db]
    · rw [if_neg fun z => n (by have := z.2; omega), if_neg fun z => n z.2]
  · rw [if_neg (show ¬ (par ts b = some a ∧ 0 < d b) from fun z => h1 z.1), if_neg (show ¬ (par ts b = some a ∧ c b < 0) from fun z => h1 z.1)]
    by_cases h2 : par ts a = some b
    · by_cases n : 0 < c a
      · rw [if_pos ⟨h2, by omega⟩, if_pos ⟨h2, n⟩, da]
        congr 1
        omega
      · rw [if_neg fun z => n (by have := z.2; omega), if_neg fun z => n z.2]
    · rw [if_neg fun z => h2 z.1, if_neg fun z => h2 z.1]
theorem lv_adj {ts : List (Str × Str)} (o : TreeOk ts) {c : Str → Int} {a b : Str} (h : 0 < lv ts c a b) : Pl ts a ∧ Pl ts b ∧ a ∈ adj ts b ∧ ((par ts b = some a ∧ 0 < c b) ∨ (par ts a = some b ∧ c a < 0)) := by
  unfold lv at h
  by_cases h1 : par ts b = some a ∧ 0 < c b
  · have hb : Pl ts b := .inr (par_flag h1.1)
    exact ⟨par_pl o h1.1, hb, (mem_adj o hb).mpr (.inl h1.1), .inl h1⟩
  · rw [if_neg h1] at h
    by_cases h2 : par ts a = some b ∧ c a < 0
    · have hb := par_pl o h2.1
      exact ⟨.inr (par_flag h2.1), hb, (mem_adj o hb).mpr (.inr h2.1), .inr h2⟩
    · rw [if_neg h2] at h
      omega
/-- what a place gets less what it gives -/
theorem lv_net {ts : List (Str × Str)} (o : TreeOk ts) (c : Str → Int) {p : Str} (h : Pl ts p) : ((adj ts p).map fun x => (lv ts c x p : Int)).sum - ((adj ts p).map fun x => (lv ts c p x : Int)).sum = (if p = "" then 0 else c p) - ((kids ts p).map c).sum := by
  have kid : ∀ k ∈ kids ts p, (lv ts c k p : Int) - (lv ts c p k : Int) = - c k := fun k hk => by
    have e := (kid_par o).mp hk
    have n : ¬ par ts p = some k := fun z => par_once o e z
    unfold lv
    rw [if_neg fun z => n z.1, if_neg (show ¬ (par ts p = some k ∧ c p < 0) from fun z => n z.1)]
    by_cases h1 : c k < 0
    · rw [if_pos ⟨e, h1⟩, if_neg fun z => by have := z.2; omega]
      omega
    · rw [if_neg fun z => h1 z.2]
      by_cases h2 : 0 < c k
      · rw [if_pos ⟨e, h2⟩]
        omega
      · rw [if_neg fun z => h2 z.2]
        omega
  have ks : ((kids ts p).map fun x => (lv ts c x p : Int)).sum - ((kids ts p).map fun x => (lv ts c p x : Int)).sum = - ((kids ts p).map c).sum := by
    rw [← sum_map_sub, List.map_congr_left kid]
    have := sum_map_mul c (-1) (kids ts p)
    rw [show (fun x => -1 * c x) = fun x => - c x from funext fun x => by omega] at this
    omega
  unfold adj
  rw [List.map_append, List.map_append, List.sum_append, List.sum_append]
  by_cases e : p = ""
  · rw [if_pos e, if_pos e]
    show (0 + _) - (0 + _) = _
    omega
  · rw [if_neg e, if_neg e]
    obtain ⟨z, hz⟩ := par_some o.nd (h.resolve_left e)
    rw [hz]
    have n : ¬ par ts z = some p := fun w => par_once o hz w
    have one : (lv ts c z p : Int) - (lv ts c p z : Int) = c p := by
      unfold lv
      rw [if_neg (show ¬ (par ts z = some p ∧ 0 < c z) from fun w => n w.1), if_neg (show ¬ (par ts z = some p ∧ c z < 0) from fun w => n w.1)]
      by_cases h1 : 0 < c p
      · rw [if_pos ⟨hz, h1⟩, if_neg fun w => by have := w.2; omega]
        omega
      · rw [if_neg fun w => h1 w.2]
        by_cases h2 : c p < 0
        · rw [if_pos ⟨hz, h2⟩]
          omega
        · rw [if_neg fun w => h2 w.2]
          omega
    show ((lv ts c z p : Int) + 0 + _) - ((lv ts c p z : Int) + 0 + _) = _
    omega
/-! ### an order of the places that all moves follow -/
def sg (z : Int) : Int := if 0 < z then 1 else if z < 0 then -1 else 0
def phi (ts : List (Str × Str)) (c : Str → Int) (p : Str) : Int := ((pathOf ts p).map fun x => sg (c x)).sum
theorem sg_sum (c : Str → Int) : ∀ l : List Str, - (l.length : Int) ≤ (l.map fun x => sg (c x)).sum
  | [] => by simp
  | a :: l => by
    have i := sg_sum c l
    rw [List.map_cons, List.sum_cons, List.length_cons]
    have : -1 ≤ sg (c a) := by unfold sg; split <;> (try split) <;> omega
    omega
def lvl (ts : List (Str × Str)) (c : Str → Int) (p : Str) : Nat := (phi ts c p + 12).toNat
theorem lvl_up {ts : List (Str × Str)} (o : TreeOk ts) {c : Str → Int} {a b : Str} (h : 0 < lv ts c a b) : lvl ts c a < lvl ts c b := by
  have low : ∀ p, 0 ≤ phi ts c p + 12 := fun p => by
    have h1 := sg_sum c (pathOf ts p)
    have h2 := path_len ts p
    have h3 := o.few
    unfold phi
    omega
  have key : phi ts c a < phi ts c b := by
    obtain ⟨_, _, _, h1 | h1⟩ := lv_adj o h
    · unfold phi
      rw [path_step o (par_flag h1.1) h1.1, List.map_append, List.sum_append]
      show _ < _ + (sg (c b) + 0)
      have : sg (c b) = 1 := if_pos h1.2
      omega
    · unfold phi
      rw [path_step o (par_flag h1.1) h1.1, List.map_append, List.sum_append]
      show _ + (sg (c a) + 0) < _
      have : sg (c a) = -1 := by
        have h2 := h1.2
        unfold sg
        rw [if_neg (by omega), if_pos h2]
      omega
  have := low a
  unfold lvl
  omega
/-! ### a change moves the lists -/
/-- groups that come to a place, in the order in which they are put behind its list -/
def ins (ts : List (Str × Str)) (G : Str → Str → List Int) (p : Str) : List Int := ((adj ts p).reverse.map fun o => G o p).flatten
/-- groups that leave a place -/
def outs (ts : List (Str × Str)) (G : Str → Str → List Int) (p : Str) : List Int := ((adj ts p).reverse.map fun o => G p o).flatten
def Moved (ts : List (Str × Str)) (c : Str → Int) (L L' : Str → List Int) : Prop := ∃ G : Str → Str → List Int, (∀ p, Pl ts p → ∀ o ∈ adj ts p, (G p o).length = lv ts c p o) ∧ ∀ p, Pl ts p → L p ++ ins ts G p = L' p ++ outs ts G p
theorem moved_back {ts : List (Str × Str)} (o : TreeOk ts) {c : Str → Int} {L L' : Str → List Int} {d : Str → Int} (hd : ∀ x, d x = - c x) (m : Moved ts c L L') : Moved ts d L' L := by
  obtain ⟨G, g1, g2⟩ := m
  refine ⟨fun a b => G b a, fun p hp q hq => ?_, fun p hp => (g2 p hp).symm⟩
  rw [lv_neg o hd]
  exact g1 q (adj_pl o hp hq) p (adj_sym o hp hq)
theorem flat_len {α β : Type} (f : α → List β) : ∀ l : List α, (l.map f).flatten.length = (l.map fun x => (f x).length).sum
  | [] => rfl
  | a :: l => by rw [List.map_cons, List.flatten_cons, List.length_append, flat_len f l] <;> rfl
theorem flat_inj {α β : Type} {f g : α → List β} : ∀ {l : List α}, (∀ x ∈ l, (f x).length = (g x).length) → (l.map f).flatten = (l.map g).flatten → ∀ x ∈ l, f x = g x
  | [], _, _, x, h => nomatch h
  | a :: l, hl, e, x, h => by
    rw [List.map_cons, List.map_cons, List.flatten_cons, List.flatten_cons] at e
    obtain ⟨e1, e2⟩ := List.append_inj e (hl a (List.mem_cons_self ..))
    rcases List.mem_cons.mp h with rfl | h
    · exact e1
    · exact flat_inj (fun y hy => hl y (List.mem_cons_of_mem _ hy)) e2 x h
theorem flat_congr {α β : Type} {f g : α → List β} {l : List α} (h : ∀ x ∈ l, f x = g x) : (l.map f).flatten = (l.map g).flatten := by rw [List.map_congr_left h]
/-- a change leads to one result -/
theorem moved_one {ts : List (Str × Str)} (o : TreeOk ts) {c : Str → Int} {L A B : Str → List Int} (ma : Moved ts c L A) (mb : Moved ts c L B) : ∀ p, Pl ts p → A p = B p := by
  obtain ⟨G, g1, g2⟩ := ma
  obtain ⟨G', g1', g2'⟩ := mb
  have key : ∀ (n : Nat) (p : Str), lvl ts c p < n → Pl ts p → A p = B p ∧ ∀ q ∈ adj ts p, G p q = G' p q := by
    intro n
    induction n with
    | zero => exact fun p h => absurd h (Nat.not_lt_zero _)
    | succ n ih =>
      intro p hn hp
      have ei : ins ts G p = ins ts G' p := flat_congr fun q hq => by
        have hq := List.mem_reverse.mp hq
        have hq2 := adj_pl o hp hq
        have l1 := g1 q hq2 p (adj_sym o hp hq)
        have l2 := g1' q hq2 p (adj_sym o hp hq)
        rcases Nat.eq_zero_or_pos (lv ts c q p) with z | z
        · rw [z] at l1 l2
          rw [List.length_eq_zero_iff.mp l1, List.length_eq_zero_iff.mp l2]
        · have lt := lvl_up o z
          exact (ih q (by omega) hq2).2 p (adj_sym o hp hq)
      have e := (g2 p hp).symm.trans ((congrArg (L p ++ ·) ei).trans (g2' p hp))
      have hl : ∀ q ∈ (adj ts p).reverse, (G p q).length = (G' p q).length := fun q hq => by
        have hq := List.mem_reverse.mp hq
        rw [g1 p hp q hq, g1' p hp q hq]
      have el : (outs ts G p).length = (outs ts G' p).length := by
        unfold outs
        rw [flat_len, flat_len, List.map_congr_left hl]
      obtain ⟨e1, e2⟩ := List.append_inj' e el
      exact ⟨e1, fun q hq => flat_inj hl e2 q (List.mem_reverse.mpr hq)⟩
  exact fun p hp => (key _ p (Nat.lt_succ_self _) hp).1
/-- there and back -/
theorem there_back {ts : List (Str × Str)} (o : TreeOk ts) {c : Str → Int} {L A B : Str → List Int} {d : Str → Int} (hd : ∀ x, d x = - c x) (ma : Moved ts c L A) (mb : Moved ts d A B) : ∀ p, Pl ts p → B p = L p := moved_one o mb (moved_back o hd ma)
theorem int_sum (l : List Nat) : ((l.sum : Nat) : Int) = (l.map fun x : Nat => (x : Int)).sum := by
  induction l with
  | nil => rfl
  | cons a l ih =>
    rw [List.sum_cons, List.map_cons, List.sum_cons, ← ih]
    omega
theorem sum_rev (l : List Int) : l.reverse.sum = l.sum := sum_perm (List.reverse_perm l)
theorem ins_len {ts : List (Str × Str)} (G : Str → Str → List Int) (p : Str) : ((ins ts G p).length : Int) = ((adj ts p).map fun o => ((G o p).length : Int)).sum := by
  unfold ins
  rw [flat_len, int_sum, List.map_map, List.map_reverse, sum_rev] <;> rfl
theorem outs_len {ts : List (Str × Str)} (G : Str → Str → List Int) (p : Str) : ((outs ts G p).length : Int) = ((adj ts p).map fun o => ((G p o).length : Int)).sum := by
  unfold outs
  rw [flat_len, int_sum, List.map_map, List.map_reverse, sum_rev] <;> rfl
/-- the lengths are the residents -/
def Lens (ts : List (Str × Str)) (n : Int) (sz : Str → Int) (L : Str → List Int) : Prop := ∀ p, Pl ts p → ((L p).length : Int) = resid ts n sz p
theorem moved_lens {ts : List (Str × Str)} (o : TreeOk ts) {n : Int} {sz c : Str → Int} {L L' : Str → List Int} (m : Moved ts c L L') (h : Lens ts n sz L) : Lens ts n (fun x => sz x + c x) L' := by
  obtain ⟨G, g1, g2⟩ := m
  intro p hp
  have e := congrArg (fun l : List Int => (l.length : Int)) (g2 p hp)
  have e : ((L p ++ ins ts G p).length : Int) = ((L' p ++ outs ts G p).length : Int) := e
  rw [List.length_append, List.length_append, Int.natCast_add, Int.natCast_add, ins_len, outs_len, h p hp, List.map_congr_left (fun q hq => by rw [g1 q (adj_pl o hp hq) p (adj_sym o hp hq)]),
    List.map_congr_left (l := adj ts p) (f := fun o => ((G p o).length : Int)) (fun q hq => by rw [g1 p hp q hq])] at e
  have net := lv_net o c hp
  show _ = (if p = "" then n else sz p + c p) - ((kids ts p).map fun x => sz x + c x).sum
  unfold resid at e
  rw [sum_map_add]
  by_cases z : p = ""
  · rw [if_pos z] at e net ⊢
    omega
  · rw [if_neg z] at e net ⊢
    omega
end FT


/-! plain: sizes of lists; every user at one place; a user's way through the tree. -/
namespace FT
open PySem L2 TL
/-! ### sizes and lengths -/
def under (ts : List (Str × Str)) (a : Str) : List Str := (ts.map Prod.fst).filter fun b => decide (a ∈ pathOf ts b)
def lsz (ts : List (Str × Str)) (L : Str → List Int) (a : Str) : Int := ((under ts a).map fun b => ((L b).length : Int)).sum
theorem sum_filter {α : Type} (c : α → Bool) (f : α → Int) : ∀ l : List α, ((l.filter c).map f).sum = (l.map fun x => if c x = true then f x else 0).sum
  | [] => rfl
  | a :: l => by
    rw [List.filter_cons, List.map_cons, List.sum_cons, ← sum_filter c f l]
    by_cases e : c a = true
    · rw [if_pos e, if_pos e, List.map_cons, List.sum_cons]
    · rw [if_neg e, if_neg e, Int.zero_add]
/-- the paths' flags rank no higher -/
theorem path_rank {ts : List (Str × Str)} (o : TreeOk ts) {rk : Str → Nat} (r : Rk ts rk) : ∀ (n : Nat) (a : Str), Pl ts a → (a ≠ "" → rk a < n) → ∀ z ∈ pathOf ts a, rk z ≤ rk a := by
  intro n
  induction n with
  | zero =>
    intro a ha h z hz
    by_cases e : a = ""
    · subst e
      rw [path_root] at hz
      cases hz
    · exact absurd (h e) (Nat.not_lt_zero _)
  | succ n ih =>
    intro a ha h z hz
    by_cases e : a = ""
    · subst e
      rw [path_root] at hz
      cases hz
    · obtain ⟨p, ep, hp, _⟩ := o.step r (ha.resolve_left e)
      rw [path_step o (ha.resolve_left e) ep] at hz
      rcases List.mem_append.mp hz with hz | hz
      · have hh := h e
        rcases hp with e0 | ⟨hp, lt⟩
        · subst e0
          rw [path_root] at hz
          cases hz
        · have := ih p (.inr hp) (fun _ => by omega) z hz
          omega
      · rw [List.mem_singleton.mp hz]
        exact Nat.le_refl _
theorem not_above {ts : List (Str × Str)} (o : TreeOk ts) {a p : Str} (h : par ts a = some p) : a ∉ pathOf ts p := fun hm => by
  obtain ⟨rk, r⟩ := o.up
  have lt := (r _ (par_mem h)).2
  rcases lt with e | ⟨hp, lt⟩
  · have e : p = "" := e
    rw [e, path_root] at hm
    cases hm
  · have lt : rk p < rk a := lt
    have := path_rank o r (rk p + 1) p (.inr hp) (fun _ => Nat.lt_succ_self _) a hm
    omega
theorem path_nd {ts : List (Str × Str)} (o : TreeOk ts) {a : Str} (h : Pl ts a) : (pathOf ts a).Nodup := by
  obtain ⟨rk, r⟩ := o.up
  have key : ∀ (n : Nat) (a : Str), Pl ts a → (a ≠ "" → rk a < n) → (pathOf ts a).Nodup := by
    intro n
    induction n with
    | zero =>
      intro a ha h
      by_cases e : a = ""
      · subst e
        rw [path_root]
        exact List.nodup_nil
      · exact absurd (h e) (Nat.not_lt_zero _)
    | succ n ih =>
      intro a ha h
      by_cases e : a = ""
      · subst e
        rw [path_root]
        exact List.nodup_nil
      · obtain ⟨p, ep, hp, _⟩ := o.step r (ha.resolve_left e)
        rw [path_step o (ha.resolve_left e) ep]
        refine List.nodup_append.mpr ⟨ih p (hp.imp id And.left) (fun z => ?_), by simp, fun x hx y hy e => ?_⟩
        · have := (hp.resolve_left z).2
          have := h e
          omega
        · rw [List.mem_singleton.mp hy] at e
          subst e
          exact not_above o ep hx
  exact key (rk a + 1) a h fun _ => Nat.lt_succ_self _
def inP (ts : List (Str × Str)) (a x : Str) : Int := if a ∈ pathOf ts x then 1 else 0
theorem inP_step {ts : List (Str × Str)} (o : TreeOk ts) {x p : Str} (h : par ts x = some p) (a : Str) : inP ts a x = inP ts a p + if a = x then 1 else 0 := by
  unfold inP
  rw [path_step o (par_flag h) h]
  by_cases e : a = x
  · subst e
    rw [if_pos (List.mem_append_right _ (List.mem_singleton.mpr rfl)), if_neg (not_above o h), if_pos rfl] <;> rfl
  · rw [if_neg e]
    by_cases m : a ∈ pathOf ts p
    · rw [if_pos (List.mem_append_left _ m), if_pos m] <;> rfl
    · rw [if_neg (fun z => (List.mem_append.mp z).elim m fun z => e (List.mem_singleton.mp z)), if_neg m] <;> rfl
theorem inP_root (ts : List (Str × Str)) (a : Str) : inP ts a "" = 0 := by
  unfold inP
  rw [path_root]
  exact if_neg (by simp)
theorem lsz_inP (ts : List (Str × Str)) (L : Str → List Int) (a : Str) : lsz ts L a = ((ts.map Prod.fst).map fun b => inP ts a b * ((L b).length : Int)).sum := by
  unfold lsz under
  rw [sum_filter]
  congr 1
  refine List.map_congr_left fun b _ => ?_
  unfold inP
  by_cases m : a ∈ pathOf ts b
  · rw [if_pos (decide_eq_true m), if_pos m, Int.one_mul]
  · rw [if_neg (by rw [decide_eq_false m]; decide), if_neg m, Int.zero_mul]
/-- from lengths to sizes -/
theorem lens_lsz {ts : List (Str × Str)} (o : TreeOk ts) {n : Int} {sz : Str → Int} {L : Str → List Int} (h : Lens ts n sz L) {a : Str} (ha : a ∈ ts.map Prod.fst) : lsz ts L a = sz a := by
  rw [lsz_inP]
  have e1 : ((ts.map Prod.fst).map fun b => inP ts a b * ((L b).length : Int)) = (ts.map Prod.fst).map fun b => inP ts a b * sz b - ((kids ts b).map fun k => inP ts a b * sz k).sum := List.map_congr_left fun b hb => by
    have nb : b ≠ "" := fun z => o.root (by rw [← z]; exact hb)
    rw [h b (.inr hb), sum_map_mul, ← Int.mul_sub]
    unfold resid
    rw [if_neg nb]
  rw [e1, sum_map_sub, kids_sum o.nd (fun k b => inP ts a b * sz k), List.map_map, ← sum_map_sub]
  have e2 : (ts.map fun q => ((fun b => inP ts a b * sz b) ∘ Prod.fst) q - if q.2 ∈ ts.map Prod.fst then inP ts a q.2 * sz q.1 else 0) = ts.map fun q => if q.1 = a then sz q.1 else 0 := List.map_congr_left fun q hq => by
    have hp := par_of o.nd (show (q.1, q.2) ∈ ts from hq)
    show inP ts a q.1 * sz q.1 - _ = _
    have z : (if q.2 ∈ ts.map Prod.fst then inP ts a q.2 * sz q.1 else 0) = inP ts a q.2 * sz q.1 := by
      rcases par_pl o hp with e | m
      · rw [e, inP_root, Int.zero_mul]
        split <;> rfl
      · rw [if_pos m]
    rw [z, inP_step o hp, Int.add_mul]
    by_cases e : q.1 = a
    · rw [if_pos e.symm, if_pos e, Int.one_mul]
      omega
    · rw [if_neg (fun z => e z.symm), if_neg e, Int.zero_mul]
      omega
  rw [e2]
  have e3 := sum_one (f := sz) (a := a) o.nd
  rw [if_pos ha, List.map_map] at e3
  exact e3
/-- from sizes to lengths -/
theorem lsz_lens {ts : List (Str × Str)} (o : TreeOk ts) {n : Int} {L : Str → List Int} (h : ((pls ts).map fun p => ((L p).length : Int)).sum = n) : Lens ts n (lsz ts L) L := by
  intro p hp
  have co : ∀ (m : Nat) (rk : Str → Nat), Rk ts rk → ∀ x, Pl ts x → (x ≠ "" → rk x < m) → (if p = "" then 1 else inP ts p x) - ((kids ts p).map fun k => inP ts k x).sum = if x = p then 1 else 0 := by
    intro m rk r
    induction m with
    | zero =>
      intro x hx hm
      by_cases e : x = ""
      · subst e
        rw [sum_map_zero fun k _ => inP_root ts k, inP_root]
        by_cases z : p = ""
        · rw [if_pos z, if_pos z.symm] <;> rfl
        · rw [if_neg z, if_neg fun w => z w.symm] <;> rfl
      · exact absurd (hm e) (Nat.not_lt_zero _)
    | succ m ih =>
      intro x hx hm
      by_cases e : x = ""
      · subst e
        rw [sum_map_zero fun k _ => inP_root ts k, inP_root]
        by_cases z : p = ""
        · rw [if_pos z, if_pos z.symm] <;> rfl
        · rw [if_neg z, if_neg fun w => z w.symm] <;> rfl
      · obtain ⟨q, eq, hq, _⟩ := o.step r (hx.resolve_left e)
        have hh := hm e
        have i := ih q (hq.imp id And.left) fun z => by
          have := (hq.resolve_left z).2
          omega
        have ks : ((kids ts p).map fun k => inP ts k x).sum = ((kids ts p).map fun k => inP ts k q).sum + if q = p then 1 else 0 := by
          rw [List.map_congr_left (g := fun k => inP ts k q + if k = x then 1 else 0) fun k _ => inP_step o eq k, sum_map_add, sum_one (f := fun _ => 1) (kids_nd o p)]
          congr 1
          by_cases w : q = p
          · rw [if_pos w, if_pos ((kid_par o).mpr (by rw [← w]; exact eq))]
          · rw [if_neg w, if_neg fun z => w (Option.some.inj (eq.symm.trans ((kid_par o).mp z)))]
        rw [ks]
        by_cases z : p = ""
        · rw [if_pos z] at i ⊢
          have nx : ¬ x = p := fun w => e (w.trans z)
          rw [if_neg nx]
          omega
        · rw [if_neg z] at i ⊢
          rw [inP_step o eq p]
          by_cases w : x = p
          · rw [if_pos w, if_pos w.symm]
            omega
          · rw [if_neg w, if_neg fun v => w v.symm]
            omega
  obtain ⟨rk, r⟩ := o.up
  have co' : ∀ x ∈ pls ts, (if p = "" then 1 else inP ts p x) - ((kids ts p).map fun k => inP ts k x).sum = if x = p then 1 else 0 := fun x hx => co (rk x + 1) rk r x (mem_pls.mp hx) fun _ => Nat.lt_succ_self _
  -- sizes as sums over all places
  have sz_pls : ∀ a, lsz ts L a = ((pls ts).map fun x => inP ts a x * ((L x).length : Int)).sum := fun a => by
    rw [lsz_inP]
    unfold pls
    rw [List.map_cons, List.sum_cons, inP_root, Int.zero_mul, Int.zero_add]
  have u : (if p = "" then n else lsz ts L p) = ((pls ts).map fun x => (if p = "" then 1 else inP ts p x) * ((L x).length : Int)).sum := by
    by_cases z : p = ""
    · rw [if_pos z, ← h]
      congr 1
      refine List.map_congr_left fun x _ => ?_
      rw [if_pos z, Int.one_mul]
    · rw [if_neg z, sz_pls]
      congr 1
      refine List.map_congr_left fun x _ => ?_
      rw [if_neg z]
  unfold resid
  rw [u, List.map_congr_left (f := lsz ts L) (fun k _ => sz_pls k), sum_swap, ← sum_map_sub]
  have fin : ((pls ts).map fun x => (if p = "" then 1 else inP ts p x) * ((L x).length : Int) - ((kids ts p).map fun k => inP ts k x * ((L x).length : Int)).sum) = (pls ts).map fun x => if x = p then ((L x).length : Int) else 0 := List.map_congr_left fun x hx => by
    have c := co' x hx
    have mul : ((kids ts p).map fun k => inP ts k x * ((L x).length : Int)).sum = ((L x).length : Int) * ((kids ts p).map fun k => inP ts k x).sum := by
      rw [← sum_map_mul]
      congr 1
      exact List.map_congr_left fun k _ => Int.mul_comm _ _
    rw [mul, Int.mul_comm _ ((L x).length : Int), ← Int.mul_sub, c]
    by_cases w : x = p
    · rw [if_pos w, if_pos w, Int.mul_one]
    · rw [if_neg w, if_neg w, Int.mul_zero]
  rw [fin, sum_one (f := fun x => ((L x).length : Int)) (pls_nd o), if_pos (mem_pls.mpr hp)]
/-! ### every user at one place -/
def usr (n : Nat) : List Int := (List.range n).map fun k : Nat => (k : Int)
theorem usr_nd (n : Nat) : (usr n).Nodup := by
  unfold usr
  refine List.nodup_iff_pairwise_ne.mpr (List.pairwise_map.mpr ((List.nodup_iff_pairwise_ne.mp List.nodup_range).imp fun h e => h ?_))
  omega
theorem mem_usr {n : Nat} {u : Int} : u ∈ usr n ↔ 0 ≤ u ∧ u < n := by
  unfold usr
  rw [List.mem_map]
  constructor
  · rintro ⟨k, hk, rfl⟩
    have := List.mem_range.mp hk
    omega
  · rintro ⟨h1, h2⟩
    exact ⟨u.toNat, List.mem_range.mpr (by omega), by omega⟩
def Val (ts : List (Str × Str)) (n : Nat) (L : Str → List Int) : Prop := ((pls ts).flatMap L).Perm (usr n)
theorem adj_sum {ts : List (Str × Str)} (o : TreeOk ts) (h : Str → Str → Int) : ((pls ts).map fun p => ((adj ts p).map fun x => h x p).sum).sum = (ts.map fun q => h q.2 q.1 + h q.1 q.2).sum := by
  have e : ((pls ts).map fun p => ((adj ts p).map fun x => h x p).sum) = (pls ts).map fun p : Str => (if p = "" then 0 else h ((par ts p).getD "") p) + ((kids ts p).map fun k => h k p).sum := List.map_congr_left fun p _ => by
    unfold adj
    rw [List.map_append, List.sum_append]
    by_cases z : p = ""
    · rw [if_pos z, if_pos z] <;> rfl
    · rw [if_neg z, if_neg z]
      show (h _ p + 0) + _ = _
      omega
  rw [e, sum_map_add, kids_sum (pls_nd o), sum_map_add]
  congr 1
  · unfold pls
    rw [List.map_cons, List.sum_cons, if_pos rfl, Int.zero_add, List.map_map]
    congr 1
    refine List.map_congr_left fun q hq => ?_
    have hp := par_of o.nd (show (q.1, q.2) ∈ ts from hq)
    have nq : q.1 ≠ "" := fun z => o.root (by rw [← z]; exact par_flag hp)
    show (if q.1 = "" then 0 else h ((par ts q.1).getD "") q.1) = _
    rw [if_neg nq, hp] <;> rfl
  · congr 1
    refine List.map_congr_left fun q hq => ?_
    rw [if_pos (mem_pls.mpr (par_pl o (par_of o.nd (show (q.1, q.2) ∈ ts from hq))))]
theorem count_flat (u : Int) (L : Str → List Int) (l : List Str) : ((l.flatMap L).count u : Int) = (l.map fun p => ((L p).count u : Int)).sum := by
  rw [List.count_flatMap, int_sum, List.map_map] <;> rfl
theorem count_flat2 (u : Int) (f : Str → List Int) (l : List Str) : (((l.reverse.map f).flatten).count u : Int) = (l.map fun p => ((f p).count u : Int)).sum := by
  rw [← List.flatMap_def, count_flat, List.map_reverse, sum_rev]
theorem moved_val {ts : List (Str × Str)} (o : TreeOk ts) {c : Str → Int} {n : Nat} {L L' : Str → List Int} (m : Moved ts c L L') (h : Val ts n L) : Val ts n L' := by
  obtain ⟨G, g1, g2⟩ := m
  refine List.Perm.trans (List.perm_iff_count.mpr fun u => ?_) h
  have e : ((pls ts).map fun p => ((L p).count u : Int) + ((ins ts G p).count u : Int)).sum = ((pls ts).map fun p => ((L' p).count u : Int) + ((outs ts G p).count u : Int)).sum := by
    congr 1
    refine List.map_congr_left fun p hp => ?_
    have q := congrArg (fun l : List Int => (l.count u : Int)) (g2 p (mem_pls.mp hp))
    have q : (((L p ++ ins ts G p).count u : Nat) : Int) = (((L' p ++ outs ts G p).count u : Nat) : Int) := q
    rw [List.count_append, List.count_append, Int.natCast_add, Int.natCast_add] at q
    exact q
  rw [sum_map_add, sum_map_add, ← count_flat u L, ← count_flat u L'] at e
  have ei : ((pls ts).map fun p => ((ins ts G p).count u : Int)).sum = (ts.map fun q => ((G q.2 q.1).count u : Int) + ((G q.1 q.2).count u : Int)).sum := by
    rw [← adj_sum o fun a b => ((G a b).count u : Int)]
    congr 1
    exact List.map_congr_left fun p _ => count_flat2 u (fun x => G x p) (adj ts p)
  have eo : ((pls ts).map fun p => ((outs ts G p).count u : Int)).sum = (ts.map fun q => ((G q.1 q.2).count u : Int) + ((G q.2 q.1).count u : Int)).sum := by
    rw [← adj_sum o fun a b => ((G b a).count u : Int)]
    congr 1
    exact List.map_congr_left fun p _ => count_flat2 u (fun x => G p x) (adj ts p)
  rw [ei, eo, List.map_congr_left (g := fun q : Str × Str => ((G q.1 q.2).count u : Int) + ((G q.2 q.1).count u : Int)) fun q _ => Int.add_comm _ _] at e
  omega
theorem val_len {ts : List (Str × Str)} {n : Nat} {L : Str → List Int} (h : Val ts n L) : ((pls ts).map fun p => ((L p).length : Int)).sum = n := by
  have e := h.length_eq
  rw [List.length_flatMap] at e
  unfold usr at e
  rw [List.length_map, List.length_range] at e
  rw [← e, int_sum, List.map_map] <;> rfl
/-- the place of a user -/
def plOf (ts : List (Str × Str)) (L : Str → List Int) (u : Int) : Str := ((pls ts).find? fun p => decide (u ∈ L p)).getD ""
theorem plOf_at {ts : List (Str × Str)} {n : Nat} {L : Str → List Int} (h : Val ts n L) {u : Int} (h0 : 0 ≤ u) (h1 : u < n) : Pl ts (plOf ts L u) ∧ u ∈ L (plOf ts L u) := by
  have m : u ∈ (pls ts).flatMap L := h.mem_iff.mpr (mem_usr.mpr ⟨h0, h1⟩)
  obtain ⟨p, hp, hu⟩ := List.mem_flatMap.mp m
  unfold plOf
  cases e : (pls ts).find? fun p => decide (u ∈ L p) with
  | none => exact absurd (decide_eq_true hu) (List.find?_eq_none.mp e p hp)
  | some q => exact ⟨mem_pls.mp (List.mem_of_find?_eq_some e), of_decide_eq_true (List.find?_some (p := fun p => decide (u ∈ L p)) e)⟩
theorem one_place {ts : List (Str × Str)} {n : Nat} {L : Str → List Int} (h : Val ts n L) {u : Int} {p q : Str} (hp : Pl ts p) (hq : Pl ts q) (up : u ∈ L p) (uq : u ∈ L q) : p = q := by
  have nd : ((pls ts).flatMap L).Nodup := h.nodup_iff.mpr (usr_nd n)
  obtain ⟨_, pw⟩ := List.pairwise_flatMap.mp (List.nodup_iff_pairwise_ne.mp nd)
  obtain ⟨i, hi, ei⟩ := List.mem_iff_getElem.mp (mem_pls.mpr hp)
  obtain ⟨j, hj, ej⟩ := List.mem_iff_getElem.mp (mem_pls.mpr hq)
  have pw := List.pairwise_iff_getElem.mp pw
  rcases Nat.lt_trichotomy i j with lt | e | lt
  · exact absurd rfl (pw i j hi hj lt u (by rw [ei]; exact up) u (by rw [ej]; exact uq))
  · subst e
    exact ei.symm.trans ej
  · exact absurd rfl (pw j i hj hi lt u (by rw [ej]; exact uq) u (by rw [ei]; exact up))
theorem plOf_of {ts : List (Str × Str)} {n : Nat} {L : Str → List Int} (h : Val ts n L) {u : Int} {p : Str} (hp : Pl ts p) (up : u ∈ L p) : plOf ts L u = p := by
  have m : u ∈ (pls ts).flatMap L := List.mem_flatMap.mpr ⟨p, mem_pls.mpr hp, up⟩
  obtain ⟨h0, h1⟩ := mem_usr.mp (h.mem_iff.mp m)
  obtain ⟨a, b⟩ := plOf_at h h0 h1
  exact one_place h a hp b up
/-! ### a user's way -/
inductive Rc (ts : List (Str × Str)) (c : Str → Int) (p : Str) : Str → Prop where
  | refl : Rc ts c p p
  | step {q x : Str} : Rc ts c p q → 0 < lv ts c q x → Rc ts c p x
theorem rc_dir {ts : List (Str × Str)} (o : TreeOk ts) {c : Str → Int} {p x : Str} (h : Rc ts c p x) : ∀ f, (f ∈ pathOf ts p → f ∉ pathOf ts x → c f < 0) ∧ (f ∉ pathOf ts p → f ∈ pathOf ts x → 0 < c f) := by
  induction h with
  | refl => exact fun f => ⟨fun a b => absurd a b, fun a b => absurd b a⟩
  | @step q x _ hl ih =>
    intro f
    obtain ⟨_, _, _, ⟨e, pos⟩ | ⟨e, neg⟩⟩ := lv_adj o hl
    · rw [path_step o (par_flag e) e]
      refine ⟨fun a b => (ih f).1 a fun z => b (List.mem_append_left _ z), fun a b => ?_⟩
      rcases List.mem_append.mp b with b | b
      · exact (ih f).2 a b
      · rw [List.mem_singleton.mp b]
        exact pos
    · have ps := path_step o (par_flag e) e
      refine ⟨fun a b => ?_, fun a b => (ih f).2 a (by rw [ps]; exact List.mem_append_left _ b)⟩
      by_cases z : f ∈ pathOf ts q
      · rw [ps] at z
        rcases List.mem_append.mp z with z | z
        · exact absurd z b
        · rw [List.mem_singleton.mp z]
          exact neg
      · exact (ih f).1 a z
theorem moved_rc {ts : List (Str × Str)} (o : TreeOk ts) {c : Str → Int} {L L' : Str → List Int} (m : Moved ts c L L') {u : Int} {x : Str} (hx : Pl ts x) (hu : u ∈ L' x) : ∃ p, Pl ts p ∧ u ∈ L p ∧ Rc ts c p x := by
  obtain ⟨G, g1, g2⟩ := m
  have key : ∀ (n : Nat) (x : Str), lvl ts c x < n → Pl ts x → u ∈ L x ++ ins ts G x → ∃ p, Pl ts p ∧ u ∈ L p ∧ Rc ts c p x := by
    intro n
    induction n with
    | zero => exact fun x h => absurd h (Nat.not_lt_zero _)
    | succ n ih =>
      intro x hn hx hu
      rcases List.mem_append.mp hu with hu | hu
      · exact ⟨x, hx, hu, .refl⟩
      · obtain ⟨l, hl, hul⟩ := List.mem_flatten.mp hu
        obtain ⟨q, hq, rfl⟩ := List.mem_map.mp hl
        have hq := List.mem_reverse.mp hq
        have hq2 := adj_pl o hx hq
        have len := g1 q hq2 x (adj_sym o hx hq)
        have pos : 0 < lv ts c q x := by
          rw [← len]
          exact List.length_pos_of_mem hul
        have lt := lvl_up o pos
        have mo : u ∈ L q ++ ins ts G q := by
          rw [g2 q hq2]
          refine List.mem_append_right _ (List.mem_flatten.mpr ⟨_, List.mem_map.mpr ⟨x, List.mem_reverse.mpr (adj_sym o hx hq), rfl⟩, hul⟩)
        obtain ⟨p, hp, up, rc⟩ := ih q (by omega) hq2 mo
        exact ⟨p, hp, up, .step rc pos⟩
  exact key _ x (Nat.lt_succ_self _) hx (by rw [g2 x hx]; exact List.mem_append_left _ hu)
end FT


/-! one user walks along the edges of a change: all ends together (plain maths) -/
namespace FT
open PySem
theorem nsum_add {α : Type} (f g : α → Nat) : ∀ l : List α, (l.map fun x => f x + g x).sum = (l.map f).sum + (l.map g).sum
  | [] => rfl
  | x :: l => by
    rw [List.map_cons, List.map_cons, List.map_cons, List.sum_cons, List.sum_cons, List.sum_cons, nsum_add f g l]
    omega
theorem nsum_mul {α : Type} (f : α → Nat) (c : Nat) : ∀ l : List α, (l.map fun x => c * f x).sum = c * (l.map f).sum
  | [] => rfl
  | x :: l => by
    rw [List.map_cons, List.map_cons, List.sum_cons, List.sum_cons, nsum_mul f c l, Nat.mul_add]
theorem nsum_zero {α : Type} : ∀ l : List α, (l.map fun _ => 0).sum = 0
  | [] => rfl
  | x :: l => by rw [List.map_cons, List.sum_cons, nsum_zero l]
theorem nsum_swap {α β : Type} (f : α → β → Nat) (m : List β) : ∀ l : List α, (l.map fun x => (m.map fun y => f x y).sum).sum = (m.map fun y => (l.map fun x => f x y).sum).sum
  | [] => (nsum_zero m).symm
  | x :: l => by
    rw [List.map_cons, List.sum_cons, nsum_swap f m l, ← nsum_add]
    rfl
theorem nsum_one {z : Nat} {a : Str} : ∀ {l : List Str}, l.Nodup → a ∈ l → (l.map fun x => if x = a then z else 0).sum = z
  | b :: l, nd, h => by
    obtain ⟨n1, n2⟩ := List.nodup_cons.mp nd
    rw [List.map_cons, List.sum_cons]
    by_cases e : b = a
    · rw [if_pos e]
      have : (l.map fun x => if x = a then z else 0) = l.map fun _ => 0 := List.map_congr_left fun x hx => if_neg fun w => n1 (by rw [e, ← w]; exact hx)
      rw [this, nsum_zero]
      rfl
    · rw [if_neg e, nsum_one n2 ((List.mem_cons.mp h).resolve_left fun w => e w.symm), Nat.zero_add]
theorem prd_off {a : Str} {F G : Str → Nat} : ∀ {l : List Str}, l.Nodup → a ∈ l → (∀ b ∈ l, b ≠ a → F b = G b) → prd (l.map F) * G a = prd (l.map G) * F a
  | b :: l, nd, h, off => by
    obtain ⟨n1, n2⟩ := List.nodup_cons.mp nd
    show F b * prd (l.map F) * G a = G b * prd (l.map G) * F a
    by_cases e : b = a
    · have : l.map F = l.map G := List.map_congr_left fun x hx => off x (List.mem_cons_of_mem _ hx) fun w => n1 (by rw [e, ← w]; exact hx)
      rw [this, e, Nat.mul_comm (F a), Nat.mul_comm (G a), Nat.mul_assoc, Nat.mul_assoc, Nat.mul_comm (F a)]
    · rw [off b (List.mem_cons_self ..) e, Nat.mul_assoc, Nat.mul_assoc, prd_off n2 ((List.mem_cons.mp h).resolve_left fun w => e w.symm) fun x hx => off x (List.mem_cons_of_mem _ hx)]
theorem prd_ones {α : Type} : ∀ l : List α, prd (l.map fun _ => 1) = 1
  | [] => rfl
  | x :: l => by
    show 1 * prd (l.map fun _ => 1) = 1
    rw [prd_ones l]
def inB (ts : List (Str × Str)) (a x : Str) : Bool := decide (a ∈ pathOf ts x)
def inR (ts : List (Str × Str)) (q x : Str) : Bool := decide (q = "") || inB ts q x
section
variable {ts : List (Str × Str)}
theorem inB_root (a : Str) : inB ts a "" = false := by
  unfold inB
  rw [path_root]
  exact decide_eq_false fun h => nomatch h
theorem inB_step (o : TreeOk ts) {x p : Str} (h : par ts x = some p) (a : Str) : inB ts a x = (inB ts a p || decide (a = x)) := by
  unfold inB
  rw [path_step o (par_flag h) h]
  by_cases e : a = x
  · simp [e]
  · simp [e]
theorem inB_self (o : TreeOk ts) {x p : Str} (h : par ts x = some p) : inB ts x x = true := by
  rw [inB_step o h, decide_eq_true rfl, Bool.or_true]
theorem inB_up (o : TreeOk ts) {x p : Str} (h : par ts x = some p) : inB ts x p = false := decide_eq_false (not_above o h)
theorem pl_ind (o : TreeOk ts) {C : Str → Prop} (h0 : C "") (hs : ∀ x p, par ts x = some p → Pl ts p → C p → C x) : ∀ x, Pl ts x → C x := by
  obtain ⟨rk, r⟩ := o.up
  have key : ∀ (n : Nat) (x : Str), x ∈ ts.map Prod.fst → rk x ≤ n → C x := by
    intro n
    induction n with
    | zero =>
      intro x hx hn
      obtain ⟨p, hp, h, _⟩ := o.step r hx
      rcases h with e | ⟨_, l⟩
      · subst e
        exact hs x "" hp (.inl rfl) h0
      · omega
    | succ n ih =>
      intro x hx hn
      obtain ⟨p, hp, h, _⟩ := o.step r hx
      rcases h with e | ⟨m, l⟩
      · subst e
        exact hs x "" hp (.inl rfl) h0
      · exact hs x p hp (.inr m) (ih p m (by omega))
  intro x hx
  rcases hx with rfl | hx
  · exact h0
  · exact key _ x hx (Nat.le_refl _)
theorem par_ne (o : TreeOk ts) {x p : Str} (h : par ts x = some p) : p ≠ x := fun e => by
  have a := inB_self o h
  have b := inB_up o h
  rw [e] at b
  rw [a] at b
  cases b
theorem flag_ne (o : TreeOk ts) {x p : Str} (h : par ts x = some p) : x ≠ "" := fun e => by
  rw [e, par_root o] at h
  cases h
theorem inR_self (o : TreeOk ts) {x : Str} (h : Pl ts x) : inR ts x x = true := by
  unfold inR
  rcases h with rfl | h
  · rfl
  · obtain ⟨p, hp⟩ := par_some o.nd h
    rw [inB_self o hp, Bool.or_true]
theorem kid_cnt (o : TreeOk ts) (q : Str) : ∀ x, Pl ts x → ((kids ts q).map fun k => if inB ts k x = true then (1 : Int) else 0).sum = if (inR ts q x && !decide (q = x)) = true then 1 else 0 := by
  refine pl_ind o ?_ fun x p hp pl ih => ?_
  · rw [sum_map_zero fun k _ => by rw [inB_root]; rfl]
    unfold inR
    rw [inB_root]
    by_cases e : q = "" <;> simp [e]
  · have e1 : ((kids ts q).map fun k => if inB ts k x = true then (1 : Int) else 0) = (kids ts q).map fun k => (if inB ts k p = true then (1 : Int) else 0) + if k = x then 1 else 0 := List.map_congr_left fun k _ => by
      rw [inB_step o hp]
      by_cases e : k = x
      · rw [e, inB_up o hp]
        simp
      · simp [e]
    rw [e1, sum_map_add, ih, sum_one (f := fun _ => (1 : Int)) (kids_nd o q)]
    have mk : x ∈ kids ts q ↔ q = p := by
      rw [kid_par o, hp]
      exact ⟨fun h => (Option.some.inj h).symm, fun h => by rw [h]⟩
    by_cases e : q = p
    · subst e
      have r : inR ts q x = true := by
        unfold inR
        rw [inB_step o hp]
        rcases pl with e0 | m
        · rw [e0] <;> rfl
        · obtain ⟨z, hz⟩ := par_some o.nd m
          rw [inB_self o hz]
          simp
      rw [if_pos (mk.mpr rfl), r, decide_eq_false (par_ne o hp), decide_eq_true rfl]
      simp
    · rw [if_neg fun h => e (mk.mp h), decide_eq_false e]
      by_cases e2 : q = x
      · rw [e2]
        have : inR ts x p = false := by
          unfold inR
          rw [inB_up o hp, decide_eq_false (flag_ne o hp)] <;> rfl
        rw [this, decide_eq_true rfl]
        simp
      · have : inR ts q x = inR ts q p := by
          unfold inR
          rw [inB_step o hp, decide_eq_false e2, Bool.or_false]
        rw [this, decide_eq_false e2]
        simp
/-- the places on the way from one to another one -/
def onW (ts : List (Str × Str)) (x g q : Str) : Bool := (inR ts q x || inR ts q g) && (kids ts q).all fun k => !(inB ts k x && inB ts k g)
/-- all edges on the way lead this way -/
def alB (ts : List (Str × Str)) (c : Str → Int) (x g : Str) : Bool := (ts.map Prod.fst).all fun f => if inB ts f x = inB ts f g then true else if inB ts f g = true then decide (0 < c f) else decide (c f < 0)
def aP (ts : List (Str × Str)) (c : Str → Int) (x g : Str) : Nat := prd ((ts.map Prod.fst).map fun f => if inB ts f x = inB ts f g then 1 else (c f).natAbs)
def vP (ts : List (Str × Str)) (v : Str → Nat) (x g : Str) : Nat := prd ((plc ts).map fun q => if onW ts x g q = true then 1 else v q)
def tok (ts : List (Str × Str)) (c : Str → Int) (r v : Str → Nat) (x g : Str) : Nat := if alB ts c x g = true then r g * (aP ts c x g * vP ts v x g) else 0
theorem alB_iff {c : Str → Int} {x g : Str} : alB ts c x g = true ↔ ∀ f ∈ ts.map Prod.fst, inB ts f x ≠ inB ts f g → if inB ts f g = true then 0 < c f else c f < 0 := by
  unfold alB
  rw [List.all_eq_true]
  refine ⟨fun h f hf ne => ?_, fun h f hf => ?_⟩
  · have z := h f hf
    rw [if_neg ne] at z
    by_cases e : inB ts f g = true
    · rw [if_pos e] at z ⊢
      exact of_decide_eq_true z
    · rw [if_neg e] at z ⊢
      exact of_decide_eq_true z
  · by_cases ne : inB ts f x = inB ts f g
    · rw [if_pos ne]
    · have z := h f hf ne
      rw [if_neg ne]
      by_cases e : inB ts f g = true
      · rw [if_pos e] at z ⊢
        exact decide_eq_true z
      · rw [if_neg e] at z ⊢
        exact decide_eq_true z
theorem edge_gen (o : TreeOk ts) {c : Str → Int} {r v : Str → Nat} {x y g e : Str} {u : Nat} (he : e ∈ ts.map Prod.fst) (hx : x ∈ plc ts) (off : ∀ f ∈ ts.map Prod.fst, f ≠ e → inB ts f x = inB ts f y) (h1 : inB ts e x ≠ inB ts e g) (h2 : inB ts e y = inB ts e g)
    (hw : ∀ q ∈ plc ts, q ≠ x → onW ts x g q = onW ts y g q) (w1 : onW ts x g x = true) (w2 : onW ts y g x = false)
    (dir : ((if inB ts e g = true then 0 < c e else c e < 0) ∧ u = (c e).natAbs) ∨ (¬ (if inB ts e g = true then 0 < c e else c e < 0) ∧ u = 0)) : v x * tok ts c r v x g = u * tok ts c r v y g := by
  rcases dir with ⟨d, hu⟩ | ⟨d, hu⟩
  · have ea : aP ts c x g = aP ts c y g * u := by
      have z := prd_off (F := fun f => if inB ts f x = inB ts f g then 1 else (c f).natAbs) (G := fun f => if inB ts f y = inB ts f g then 1 else (c f).natAbs) o.nd he fun b hb ne => by
        show (if _ then _ else _) = if _ then _ else _
        rw [off b hb ne]
      have z' : aP ts c x g * (if inB ts e y = inB ts e g then 1 else (c e).natAbs) = aP ts c y g * (if inB ts e x = inB ts e g then 1 else (c e).natAbs) := z
      rw [if_pos h2, if_neg h1, Nat.mul_one] at z'
      rw [z', hu]
    have ev : vP ts v x g * v x = vP ts v y g := by
      have z := prd_off (F := fun q => if onW ts x g q = true then 1 else v q) (G := fun q => if onW ts y g q = true then 1 else v q) (plc_nd o) hx fun b hb ne => by
        show (if _ then _ else _) = if _ then _ else _
        rw [hw b hb ne]
      have z' : vP ts v x g * (if onW ts y g x = true then 1 else v x) = vP ts v y g * (if onW ts x g x = true then 1 else v x) := z
      rw [if_pos w1, if_neg (by rw [w2]; decide), Nat.mul_one] at z'
      exact z'
    have al : alB ts c x g = true ↔ alB ts c y g = true := by
      rw [alB_iff, alB_iff]
      refine ⟨fun h f hf ne => ?_, fun h f hf ne => ?_⟩
      · by_cases e1 : f = e
        · rw [e1, h2] at ne
          exact absurd rfl ne
        · exact h f hf (by rw [off f hf e1]; exact ne)
      · by_cases e1 : f = e
        · rw [e1]
          exact d
        · exact h f hf (by rw [← off f hf e1]; exact ne)
    unfold tok
    by_cases q : alB ts c y g = true
    · rw [if_pos q, if_pos (al.mpr q), ea, ← ev]
      ac_rfl
    · rw [if_neg q, if_neg fun w => q (al.mp w)]
      rfl
  · have : alB ts c x g = false := by
      rw [← Bool.not_eq_true]
      exact fun w => d (alB_iff.mp w e he h1)
    unfold tok
    rw [this, hu]
    simp
theorem pl_plc {x : Str} (h : Pl ts x) : x ∈ plc ts := List.mem_cons.mpr h
theorem onW_at (o : TreeOk ts) {x g : Str} (h : Pl ts x) : onW ts x g x = true := by
  unfold onW
  rw [inR_self o h, Bool.true_or, Bool.true_and, List.all_eq_true]
  intro k hk
  rw [inB_up o ((kid_par o).mp hk)]
  rfl
theorem edge_kid (o : TreeOk ts) {c : Str → Int} {r v : Str → Nat} {x g k : Str} (px : Pl ts x) (hk : par ts k = some x) (hg : inB ts k g = true) : v x * tok ts c r v x g = (c k).toNat * tok ts c r v k g := by
  refine edge_gen o (e := k) (par_flag hk) (pl_plc px) (fun f _ ne => ?_) (by rw [inB_up o hk, hg]; decide) (by rw [inB_self o hk, hg]) (fun q hq ne => ?_) (onW_at o px) ?_ ?_
  · rw [inB_step o hk, decide_eq_false ne, Bool.or_false]
  · unfold onW
    have e1 : (inR ts q x || inR ts q g) = (inR ts q k || inR ts q g) := by
      by_cases e : q = k
      · have : inR ts q g = true := by
          unfold inR
          rw [e, hg, Bool.or_true]
        rw [this, Bool.or_true, Bool.or_true]
      · congr 1
        unfold inR
        rw [inB_step o hk, decide_eq_false e, Bool.or_false]
    have e2 : ((kids ts q).all fun z => !(inB ts z x && inB ts z g)) = (kids ts q).all fun z => !(inB ts z k && inB ts z g) := by
      rw [Bool.eq_iff_iff, List.all_eq_true, List.all_eq_true]
      have e3 : ∀ z ∈ kids ts q, inB ts z k = inB ts z x := fun z hz => by
        rw [inB_step o hk, decide_eq_false, Bool.or_false]
        intro w
        rw [w, kid_par o, hk] at hz
        exact ne (Option.some.inj hz).symm
      exact ⟨fun h z hz => by rw [e3 z hz]; exact h z hz, fun h z hz => by rw [← e3 z hz]; exact h z hz⟩
    rw [e1, e2]
  · unfold onW
    have : ((kids ts x).all fun z => !(inB ts z k && inB ts z g)) = false := by
      rw [← Bool.not_eq_true, List.all_eq_true]
      intro h
      have := h k ((kid_par o).mpr hk)
      rw [inB_self o hk, hg] at this
      cases this
    rw [this, Bool.and_false]
  · rw [if_pos hg]
    by_cases h : 0 < c k
    · exact .inl ⟨h, by omega⟩
    · exact .inr ⟨h, by omega⟩
theorem edge_par (o : TreeOk ts) {c : Str → Int} {r v : Str → Nat} {x g z : Str} (hk : par ts x = some z) (hg : inB ts x g = false) : v x * tok ts c r v x g = (- c x).toNat * tok ts c r v z g := by
  have px : Pl ts x := .inr (par_flag hk)
  refine edge_gen o (e := x) (par_flag hk) (pl_plc px) (fun f _ ne => ?_) (by rw [inB_self o hk, hg]; decide) (by rw [inB_up o hk, hg]) (fun q hq ne => ?_) (onW_at o px) ?_ ?_
  · rw [inB_step o hk, decide_eq_false ne, Bool.or_false]
  · unfold onW
    have e1 : inR ts q x = inR ts q z := by
      unfold inR
      rw [inB_step o hk, decide_eq_false ne, Bool.or_false]
    have e2 : ((kids ts q).all fun y => !(inB ts y x && inB ts y g)) = (kids ts q).all fun y => !(inB ts y z && inB ts y g) := by
      have e3 : ∀ y : Str, (inB ts y x && inB ts y g) = (inB ts y z && inB ts y g) := fun y => by
        by_cases e : y = x
        · rw [e, hg, Bool.and_false, Bool.and_false]
        · rw [inB_step o hk, decide_eq_false e, Bool.or_false]
      simp only [e3]
    rw [e1, e2]
  · unfold onW
    have a : inR ts x z = false := by
      unfold inR
      rw [inB_up o hk, decide_eq_false (flag_ne o hk)] <;> rfl
    have b : inR ts x g = false := by
      unfold inR
      rw [hg, decide_eq_false (flag_ne o hk)] <;> rfl
    rw [a, b]
    rfl
  · rw [if_neg (by rw [hg]; decide)]
    by_cases h : c x < 0
    · exact .inl ⟨h, by omega⟩
    · exact .inr ⟨h, by omega⟩
theorem onW_own (o : TreeOk ts) {x : Str} (px : Pl ts x) (q : Str) : onW ts x x q = decide (q = x) := by
  by_cases e : q = x
  · rw [e, onW_at o px, decide_eq_true rfl]
  · rw [decide_eq_false e]
    unfold onW
    rw [Bool.or_self]
    cases h : inR ts q x with
    | false => rfl
    | true =>
      rw [Bool.true_and, ← Bool.not_eq_true, List.all_eq_true]
      intro w
      have z := kid_cnt o q x px
      rw [h, decide_eq_false e, if_pos (show (true && !false) = true from rfl), sum_map_zero fun k hk => if_neg fun y => by
        have := w k hk
        rw [y] at this
        cases this] at z
      cases z
theorem tok_self (o : TreeOk ts) {c : Str → Int} {r v : Str → Nat} {x : Str} (px : Pl ts x) : v x * tok ts c r v x x = r x * prd ((plc ts).map v) := by
  have al : alB ts c x x = true := alB_iff.mpr fun f _ ne => absurd rfl ne
  have a1 : aP ts c x x = 1 := by
    unfold aP
    have : ((ts.map Prod.fst).map fun f => if inB ts f x = inB ts f x then 1 else (c f).natAbs) = (ts.map Prod.fst).map fun _ => 1 := List.map_congr_left fun f _ => if_pos rfl
    rw [this, prd_ones]
  have ev : vP ts v x x * v x = prd ((plc ts).map v) := by
    have z := prd_off (F := fun q => if onW ts x x q = true then 1 else v q) (G := v) (plc_nd o) (pl_plc px) fun b hb ne => by
      show (if _ then _ else _) = _
      rw [onW_own o px, decide_eq_false ne]
      rfl
    have z' : vP ts v x x * v x = prd ((plc ts).map v) * (if onW ts x x x = true then 1 else v x) := z
    rw [if_pos (onW_at o px), Nat.mul_one] at z'
    exact z'
  unfold tok
  rw [if_pos al, a1, Nat.one_mul, ← ev]
  ac_rfl
/-- no way against the edges -/
theorem tok_kid0 (o : TreeOk ts) {c : Str → Int} {r v : Str → Nat} {x g k : Str} (hk : par ts k = some x) (hg : inB ts k g = false) : (c k).toNat * tok ts c r v k g = 0 := by
  by_cases h : 0 < c k
  · have : alB ts c k g = false := by
      rw [← Bool.not_eq_true]
      intro w
      have z := alB_iff.mp w k (par_flag hk) (by rw [inB_self o hk, hg]; decide)
      rw [if_neg (by rw [hg]; decide)] at z
      omega
    unfold tok
    rw [this]
    simp
  · rw [show (c k).toNat = 0 by omega, Nat.zero_mul]
theorem tok_par0 (o : TreeOk ts) {c : Str → Int} {r v : Str → Nat} {x g z : Str} (hk : par ts x = some z) (hg : inB ts x g = true) : (- c x).toNat * tok ts c r v z g = 0 := by
  by_cases h : c x < 0
  · have : alB ts c z g = false := by
      rw [← Bool.not_eq_true]
      intro w
      have z := alB_iff.mp w x (par_flag hk) (by rw [inB_up o hk, hg]; decide)
      rw [if_pos hg] at z
      omega
    unfold tok
    rw [this]
    simp
  · rw [show (- c x).toNat = 0 by omega, Nat.zero_mul]
def upA (ts : List (Str × Str)) (c : Str → Int) (x : Str) : Nat := if x = "" then 0 else (- c x).toNat
def upT (ts : List (Str × Str)) (c : Str → Int) (T : Str → Nat) (x : Str) : Nat := match par ts x with
  | some z => (- c x).toNat * T z
  | none => 0
/-- what comes by the kids -/
theorem kids_part (o : TreeOk ts) {c : Str → Int} {r v : Str → Nat} {x g : Str} (px : Pl ts x) (pg : Pl ts g) : ((kids ts x).map fun k => (c k).toNat * tok ts c r v k g).sum = if (inR ts x g && !decide (x = g)) = true then v x * tok ts c r v x g else 0 := by
  have e1 : ((kids ts x).map fun k => (c k).toNat * tok ts c r v k g) = (kids ts x).map fun k => v x * tok ts c r v x g * if inB ts k g = true then 1 else 0 := List.map_congr_left fun k hk => by
    have pk := (kid_par o).mp hk
    by_cases h : inB ts k g = true
    · rw [if_pos h, Nat.mul_one, edge_kid o px pk h]
    · rw [if_neg h, Nat.mul_zero]
      exact tok_kid0 o pk (by rw [← Bool.not_eq_true]; exact h)
  rw [e1, nsum_mul]
  have z := kid_cnt o x g pg
  have cast : ∀ l : List Str, (((l.map fun k => if inB ts k g = true then (1 : Nat) else 0).sum : Nat) : Int) = (l.map fun k => if inB ts k g = true then (1 : Int) else 0).sum := by
    intro l
    induction l with
    | nil => rfl
    | cons k l ih =>
      rw [List.map_cons, List.map_cons, List.sum_cons, List.sum_cons, Int.natCast_add, ih]
      congr 1
      split <;> rfl
  rw [← cast] at z
  split at z
  · rename_i h
    rw [if_pos h, show ((kids ts x).map fun k => if inB ts k g = true then (1 : Nat) else 0).sum = 1 by omega, Nat.mul_one]
  · rename_i h
    rw [if_neg h, show ((kids ts x).map fun k => if inB ts k g = true then (1 : Nat) else 0).sum = 0 by omega, Nat.mul_zero]
theorem tok_step (o : TreeOk ts) {c : Str → Int} {r v : Str → Nat} {x g : Str} (px : Pl ts x) (pg : Pl ts g) : v x * tok ts c r v x g = (if g = x then r x * prd ((plc ts).map v) else 0) + (upT ts c (fun z => tok ts c r v z g) x + ((kids ts x).map fun k => (c k).toNat * tok ts c r v k g).sum) := by
  rw [kids_part o px pg]
  by_cases e : g = x
  · subst e
    rw [if_pos rfl, tok_self o px, decide_eq_true rfl, Bool.not_true, Bool.and_false, if_neg (by decide)]
    have : upT ts c (fun z => tok ts c r v z g) g = 0 := by
      unfold upT
      cases h : par ts g with
      | none => rfl
      | some z => exact tok_par0 o h (inB_self o h)
    rw [this]
    rfl
  · rw [if_neg e, Nat.zero_add, decide_eq_false (fun w => e w.symm), Bool.not_false, Bool.and_true]
    rcases px with rfl | mx
    · have : inR ts "" g = true := rfl
      rw [if_pos this]
      unfold upT
      rw [par_root o, Nat.zero_add]
    · obtain ⟨z, hz⟩ := par_some o.nd mx
      have er : inR ts x g = inB ts x g := by
        unfold inR
        rw [decide_eq_false (flag_ne o hz), Bool.false_or]
      rw [er]
      unfold upT
      rw [hz]
      by_cases h : inB ts x g = true
      · rw [if_pos h]
        show _ = _ * _ + _
        rw [tok_par0 o hz h, Nat.zero_add]
      · rw [if_neg h, Nat.add_zero]
        exact edge_par o hz (by rw [← Bool.not_eq_true]; exact h)
theorem sg_le (c : Str → Int) : ∀ l : List Str, (l.map fun x => sg (c x)).sum ≤ (l.length : Int)
  | [] => by simp
  | a :: l => by
    have i := sg_le c l
    rw [List.map_cons, List.sum_cons, List.length_cons]
    have : sg (c a) ≤ 1 := by unfold sg; split <;> (try split) <;> omega
    omega
theorem lvl_le (o : TreeOk ts) (c : Str → Int) (x : Str) : lvl ts c x ≤ 24 := by
  have h1 := sg_le c (pathOf ts x)
  have h2 := path_len ts x
  have h3 := o.few
  unfold lvl phi
  omega
theorem tok_sum (o : TreeOk ts) {c : Str → Int} {r v : Str → Nat} {live : Str → Prop} (vpos : ∀ x, 0 < v x) (hv : ∀ x, Pl ts x → live x → v x = r x + (upA ts c x + ((kids ts x).map fun k => (c k).toNat).sum))
    (up : ∀ x z, par ts x = some z → live x → c x < 0 → live z) (dn : ∀ k x, par ts k = some x → live x → 0 < c k → live k) : ∀ (m : Nat) (x : Str), Pl ts x → live x → 25 ≤ m + lvl ts c x → ((plc ts).map (tok ts c r v x)).sum = prd ((plc ts).map v) := by
  intro m
  induction m with
  | zero =>
    intro x _ _ h
    have := lvl_le o c x
    omega
  | succ m ih =>
    intro x px lx hm
    refine Nat.eq_of_mul_eq_mul_left (vpos x) ?_
    have e0 : ((plc ts).map fun g => v x * tok ts c r v x g) = (plc ts).map fun g => (if g = x then r x * prd ((plc ts).map v) else 0) + (upT ts c (fun z => tok ts c r v z g) x + ((kids ts x).map fun k => (c k).toNat * tok ts c r v k g).sum) := List.map_congr_left fun g hg => tok_step o px (List.mem_cons.mp hg)
    rw [← nsum_mul, e0, nsum_add, nsum_add, nsum_swap, nsum_one (plc_nd o) (pl_plc px)]
    have e1 : ((plc ts).map fun g => upT ts c (fun z => tok ts c r v z g) x).sum = upA ts c x * prd ((plc ts).map v) := by
      rcases px with rfl | mx
      · have : ((plc ts).map fun g => upT ts c (fun z => tok ts c r v z g) "") = (plc ts).map fun _ => 0 := List.map_congr_left fun g _ => by
          unfold upT
          rw [par_root o]
        rw [this, nsum_zero]
        unfold upA
        rw [if_pos rfl, Nat.zero_mul]
      · obtain ⟨z, hz⟩ := par_some o.nd mx
        have : ((plc ts).map fun g => upT ts c (fun z => tok ts c r v z g) x) = (plc ts).map fun g => (- c x).toNat * tok ts c r v z g := List.map_congr_left fun g _ => by
          unfold upT
          rw [hz]
        rw [this, nsum_mul]
        unfold upA
        rw [if_neg (flag_ne o hz)]
        by_cases h : c x < 0
        · have lv0 : 0 < lv ts c x z := by
            unfold lv
            rw [if_neg (fun w => par_once o hz w.1), if_pos ⟨hz, h⟩]
            omega
          have l := lvl_up o lv0
          rw [ih z (par_pl o hz) (up x z hz lx h) (by omega)]
        · rw [show (- c x).toNat = 0 by omega, Nat.zero_mul, Nat.zero_mul]
    have e2 : ((kids ts x).map fun k => ((plc ts).map fun g => (c k).toNat * tok ts c r v k g).sum) = (kids ts x).map fun k => prd ((plc ts).map v) * (c k).toNat := List.map_congr_left fun k hk => by
      have pk := (kid_par o).mp hk
      rw [nsum_mul]
      by_cases h : 0 < c k
      · have lv0 : 0 < lv ts c x k := by
          unfold lv
          rw [if_pos ⟨pk, h⟩]
          omega
        have l := lvl_up o lv0
        rw [ih k (.inr (par_flag pk)) (dn k x pk lx h) (by omega), Nat.mul_comm]
      · rw [show (c k).toNat = 0 by omega, Nat.zero_mul, Nat.mul_zero]
    rw [e1, e2, nsum_mul, hv x px lx, Nat.add_mul, Nat.add_mul, Nat.mul_comm (prd _) (List.sum _)]
end
end FT


/-! the number of best changes, user by user (plain maths) -/
namespace FT
open PySem
def bz (b : Bool) : Int := if b = true then 1 else 0
section
variable {ts : List (Str × Str)}
/-- sizes without a user at a place -/
def lessS (ts : List (Str × Str)) (s : Str → Int) (g : Str) : Str → Int := fun a => s a - bz (inB ts a g)
theorem resid_less (o : TreeOk ts) {n : Int} {s : Str → Int} {g q : Str} (pg : Pl ts g) (hq : Pl ts q) : resid ts n (lessS ts s g) q = resid ts (n + 1) s q - if q = g then 1 else 0 := by
  have kc := kid_cnt o q g pg
  have e : ((kids ts q).map (lessS ts s g)).sum = ((kids ts q).map s).sum - ((kids ts q).map fun k => if inB ts k g = true then (1 : Int) else 0).sum := by
    rw [← sum_map_sub]
    rfl
  unfold resid
  rw [e, kc]
  rcases hq with rfl | mq
  · rw [if_pos rfl, if_pos rfl]
    have : inR ts "" g = true := rfl
    rw [this, Bool.true_and]
    by_cases h : ("" : Str) = g
    · rw [if_pos h, decide_eq_true h]
      show n - (_ - if false = true then 1 else 0) = _
      rw [if_neg (by decide)]
      omega
    · rw [if_neg h, decide_eq_false h]
      show n - (_ - if true = true then 1 else 0) = _
      rw [if_pos rfl]
      omega
  · obtain ⟨z, hz⟩ := par_some o.nd mq
    have ne := flag_ne o hz
    rw [if_neg ne, if_neg ne]
    unfold lessS inR bz
    rw [decide_eq_false ne, Bool.false_or]
    by_cases h : q = g
    · subst h
      rw [inB_self o hz, if_pos rfl, if_pos rfl, decide_eq_true rfl]
      show _ - (_ - if false = true then 1 else 0) = _
      rw [if_neg (by decide)]
      omega
    · rw [if_neg h, decide_eq_false h, Bool.not_false, Bool.and_true]
      split <;> omega
theorem path_pos (o : TreeOk ts) {n : Int} {s : Str → Int} (f : Fea ts n s) : ∀ x, Pl ts x → (x = "" ∨ 1 ≤ s x) → ∀ a, inB ts a x = true → 1 ≤ s a := by
  refine pl_ind o (fun _ a h => ?_) fun x p hp pp ih hx a h => ?_
  · rw [inB_root] at h
    cases h
  · have sx : 1 ≤ s x := hx.resolve_left (flag_ne o hp)
    rw [inB_step o hp] at h
    by_cases e : a = x
    · rw [e]
      exact sx
    · rw [decide_eq_false e, Bool.or_false] at h
      refine ih ?_ a h
      rcases pp with rfl | mp
      · exact .inl rfl
      · refine .inr ?_
        have l1 := le_sum (f := s) (fun c hc => f.nn c (kids_sub hc)) (kids_mem (par_mem hp))
        have r := f.res p (List.mem_cons_of_mem _ mp)
        unfold resid at r
        rw [if_neg fun z => o.root (by rw [← z]; exact mp)] at r
        omega
theorem fea_less (o : TreeOk ts) {n : Int} {s : Str → Int} {g : Str} (f : Fea ts (n + 1) s) (pg : Pl ts g) (h : 1 ≤ resid ts (n + 1) s g) : Fea ts n (lessS ts s g) := by
  have pos := path_pos o f g pg (by
    rcases pg with rfl | mg
    · exact .inl rfl
    · refine .inr ?_
      have l1 := sum_nn (f := s) (l := kids ts g) fun c hc => f.nn c (kids_sub hc)
      unfold resid at h
      rw [if_neg fun z => o.root (by rw [← z]; exact mg)] at h
      omega)
  refine ⟨fun a ha => ?_, fun p hp => ?_⟩
  · have := f.nn a ha
    unfold lessS bz
    split
    · rename_i e
      have := pos a e
      omega
    · omega
  · rw [resid_less o pg (List.mem_cons.mp hp)]
    have := f.res p hp
    split
    · rename_i e
      rw [e] at this ⊢
      omega
    · omega
section
variable {n : Int} {s1 s2 : Str → Int} {p g : Str}
theorem al_max (h : alB ts (fun a => s2 a - s1 a) p g = true) {f : Str} (hf : f ∈ ts.map Prod.fst) : max (lessS ts s1 p f) (lessS ts s2 g f) = max (s1 f) (s2 f) - bz (inB ts f p || inB ts f g) ∧ min (lessS ts s1 p f) (lessS ts s2 g f) = min (s1 f) (s2 f) - bz (inB ts f p && inB ts f g) ∧
    (s2 f - s1 f).natAbs = (lessS ts s2 g f - lessS ts s1 p f).natAbs + if inB ts f p = inB ts f g then 0 else 1 := by
  have z := alB_iff.mp h f hf
  unfold lessS bz
  cases hp : inB ts f p <;> cases hg : inB ts f g <;> rw [hp, hg] at z <;> simp at z ⊢ <;> omega
theorem pre_less (o : TreeOk ts) (h : alB ts (fun a => s2 a - s1 a) p g = true) (pp : Pl ts p) {q : Str} (hq : Pl ts q) : preC ts n (lessS ts s1 p) (lessS ts s2 g) q = preC ts (n + 1) s1 s2 q - if onW ts p g q = true then 1 else 0 := by
  have e : ((kids ts q).map fun c => min (lessS ts s1 p c) (lessS ts s2 g c)).sum = ((kids ts q).map fun c => min (s1 c) (s2 c)).sum - ((kids ts q).map fun k => bz (inB ts k p && inB ts k g)).sum := by
    rw [← sum_map_sub]
    congr 1
    exact List.map_congr_left fun k hk => (al_max h (kids_sub hk)).2.1
  obtain ⟨B, eB⟩ : ∃ B, B = ((kids ts q).map fun k => bz (inB ts k p && inB ts k g)).sum := ⟨_, rfl⟩
  rw [← eB] at e
  have kc := kid_cnt o q p pp
  have nn : 0 ≤ B := by
    rw [eB]
    exact sum_nn fun k _ => by unfold bz; split <;> omega
  have le : B ≤ if (inR ts q p && !decide (q = p)) = true then 1 else 0 := by
    rw [eB, ← kc]
    have key : ∀ l : List Str, (l.map fun k => bz (inB ts k p && inB ts k g)).sum ≤ (l.map fun k => if inB ts k p = true then (1 : Int) else 0).sum := by
      intro l
      induction l with
      | nil => exact Int.le_refl _
      | cons k l ih =>
        rw [List.map_cons, List.map_cons, List.sum_cons, List.sum_cons]
        have : bz (inB ts k p && inB ts k g) ≤ if inB ts k p = true then (1 : Int) else 0 := by
          unfold bz
          cases inB ts k p <;> cases inB ts k g <;> simp
        omega
    exact key _
  have al : ((kids ts q).all fun k => !(inB ts k p && inB ts k g)) = decide (B = 0) := by
    rw [Bool.eq_iff_iff, List.all_eq_true, decide_eq_true_eq, eB]
    refine ⟨fun w => sum_map_zero fun k hk => ?_, fun w k hk => ?_⟩
    · have := w k hk
      unfold bz
      rw [if_neg]
      intro y
      rw [y] at this
      cases this
    · have l1 := le_sum (f := fun k => bz (inB ts k p && inB ts k g)) (fun a _ => by unfold bz; split <;> omega) hk
      rw [w] at l1
      have l2 : bz (inB ts k p && inB ts k g) ≤ 0 := l1
      cases y : (inB ts k p && inB ts k g) with
      | false => rfl
      | true =>
        rw [y] at l2
        exact absurd l2 (by decide)
  unfold preC
  rw [e]
  unfold onW
  rw [al]
  rcases hq with rfl | mq
  · rw [if_pos rfl, if_pos rfl]
    have t : (inR ts "" p || inR ts "" g) = true := rfl
    rw [t, Bool.true_and]
    split at le
    · by_cases b : B = 0
      · rw [decide_eq_true b, if_pos rfl]
        omega
      · rw [decide_eq_false b, if_neg (by decide)]
        omega
    · have b : B = 0 := by omega
      rw [decide_eq_true b, if_pos rfl]
      omega
  · obtain ⟨z, hz⟩ := par_some o.nd mq
    have ne := flag_ne o hz
    rw [if_neg ne, if_neg ne, (al_max h mq).1]
    unfold inR at le ⊢
    rw [decide_eq_false ne, Bool.false_or] at le
    rw [decide_eq_false ne, Bool.false_or, Bool.false_or]
    unfold bz
    cases hp : inB ts q p with
    | false =>
      rw [hp, Bool.false_and, if_neg (by decide)] at le
      have b : B = 0 := by omega
      rw [decide_eq_true b, Bool.and_true, b]
      omega
    | true =>
      rw [Bool.true_or, Bool.true_and, if_pos rfl]
      have : B ≤ 1 := by
        split at le <;> omega
      by_cases b : B = 0
      · rw [decide_eq_true b, if_pos rfl]
        omega
      · rw [decide_eq_false b, if_neg (by decide)]
        omega
theorem apr_less (h : alB ts (fun a => s2 a - s1 a) p g = true) : Apr ts s1 s2 = Apr ts (lessS ts s1 p) (lessS ts s2 g) * aP ts (fun a => s2 a - s1 a) p g := by
  unfold Apr aP
  rw [List.map_map, ← prd_mul]
  congr 1
  refine List.map_congr_left fun x hx => ?_
  have z := (al_max h (f := x.1) (List.mem_map.mpr ⟨x, hx, rfl⟩)).2.2
  show fct _ = fct _ * (if inB ts x.1 p = inB ts x.1 g then 1 else (s2 x.1 - s1 x.1).natAbs)
  by_cases e : inB ts x.1 p = inB ts x.1 g
  · rw [if_pos e] at z
    rw [if_pos e, Nat.mul_one, z, Nat.add_zero]
  · rw [if_neg e] at z
    rw [if_neg e, z]
    show (_ + 1) * fct _ = _
    rw [Nat.mul_comm]
theorem rpr_less (o : TreeOk ts) (pg : Pl ts g) (h : 1 ≤ resid ts (n + 1) s2 g) : Rpr ts (n + 1) s2 = Rpr ts n (lessS ts s2 g) * (resid ts (n + 1) s2 g).toNat := by
  have z := prd_off (F := fun q => fct (resid ts (n + 1) s2 q).toNat) (G := fun q => fct (resid ts n (lessS ts s2 g) q).toNat) (plc_nd o) (pl_plc pg) fun b hb ne => by
    show fct _ = fct _
    rw [resid_less o pg (List.mem_cons.mp hb), if_neg ne, Int.sub_zero]
  have z' : Rpr ts (n + 1) s2 * fct (resid ts n (lessS ts s2 g) g).toNat = Rpr ts n (lessS ts s2 g) * fct (resid ts (n + 1) s2 g).toNat := z
  have e : fct (resid ts (n + 1) s2 g).toNat = (resid ts (n + 1) s2 g).toNat * fct (resid ts n (lessS ts s2 g) g).toNat := by
    rw [resid_less o pg pg, if_pos rfl]
    obtain ⟨k, hk⟩ : ∃ k : Nat, resid ts (n + 1) s2 g = (k : Int) + 1 := ⟨(resid ts (n + 1) s2 g - 1).toNat, by omega⟩
    rw [hk, show ((k : Int) + 1).toNat = k + 1 by omega, show ((k : Int) + 1 - 1).toNat = k by omega]
    rfl
  rw [e, ← Nat.mul_assoc] at z'
  exact Nat.eq_of_mul_eq_mul_right (fct_pos _) z'
theorem ppr_less (o : TreeOk ts) (f2 : Fea ts n (lessS ts s2 g)) (h : alB ts (fun a => s2 a - s1 a) p g = true) (pp : Pl ts p) : Ppr ts (n + 1) s1 s2 = Ppr ts n (lessS ts s1 p) (lessS ts s2 g) * prd ((plc ts).map fun q => if onW ts p g q = true then (preC ts (n + 1) s1 s2 q).toNat else 1) := by
  unfold Ppr
  rw [← prd_mul]
  congr 1
  refine List.map_congr_left fun q hq => ?_
  have z := pre_less (n := n) o h pp (List.mem_cons.mp hq)
  have nn := (pre_nn (s1 := lessS ts s1 p) o f2 hq).1
  by_cases e : onW ts p g q = true
  · rw [if_pos e] at z
    rw [if_pos e]
    obtain ⟨k, hk⟩ : ∃ k : Nat, preC ts n (lessS ts s1 p) (lessS ts s2 g) q = (k : Int) := ⟨_, (Int.toNat_of_nonneg nn).symm⟩
    rw [hk] at z ⊢
    rw [show preC ts (n + 1) s1 s2 q = (k : Int) + 1 by omega, show ((k : Int) + 1).toNat = k + 1 by omega, show ((k : Int)).toNat = k by omega]
    show (k + 1) * fct k = _
    rw [Nat.mul_comm]
  · rw [if_neg e] at z
    rw [if_neg e, Nat.mul_one, z, Int.sub_zero]
end
theorem posP_sum (c : Str → Int) (l : List Str) : (((l.map fun k => (c k).toNat).sum : Nat) : Int) = (l.map fun k => posP (c k)).sum := by
  induction l with
  | nil => rfl
  | cons k l ih =>
    rw [List.map_cons, List.map_cons, List.sum_cons, List.sum_cons, Int.natCast_add, ih]
    congr 1
    unfold posP
    split <;> omega
theorem posP_nn (z : Int) : 0 ≤ posP z := by unfold posP; split <;> omega
def oneN (k : Nat) : Nat := if k = 0 then 1 else k
/-- the number, by what the first user does -/
theorem cnt_rec (o : TreeOk ts) {n : Int} {s1 s2 : Str → Int} {p : Str} (f1 : Fea ts (n + 1) s1) (f2 : Fea ts (n + 1) s2) (pp : Pl ts p) (h1 : 1 ≤ resid ts (n + 1) s1 p) :
    ((plc ts).map fun g => if alB ts (fun a => s2 a - s1 a) p g = true ∧ 1 ≤ resid ts (n + 1) s2 g then cntN ts n (lessS ts s1 p) (lessS ts s2 g) else 0).sum = cntN ts (n + 1) s1 s2 := by
  obtain ⟨c, ec⟩ : ∃ c : Str → Int, c = fun a => s2 a - s1 a := ⟨_, rfl⟩
  obtain ⟨r, er⟩ : ∃ r : Str → Nat, r = fun g => (resid ts (n + 1) s2 g).toNat := ⟨_, rfl⟩
  obtain ⟨v, ev⟩ : ∃ v : Str → Nat, v = fun q => oneN (preC ts (n + 1) s1 s2 q).toNat := ⟨_, rfl⟩
  have vpos : ∀ x, 0 < v x := fun x => by
    rw [ev]
    show 0 < oneN _
    unfold oneN
    split <;> omega
  have arr_nn : ∀ q, 0 ≤ arr (crs c ts) q := fun q => by
    rw [arr_eq]
    have a : ∀ f : Str → Int, (∀ a, 0 ≤ f a) → ∀ cc, 0 ≤ sOf ts cc f := fun f hf cc => by
      unfold sOf
      generalize ts.filter cc = l
      induction l with
      | nil => exact Int.le_refl _
      | cons x l ih =>
        rw [List.map_cons, List.sum_cons]
        have := hf x.1
        omega
    have x1 := a (fun a => posP (c a)) (fun a => posP_nn _) fun x => decide (x.1 = q)
    have x2 := a (fun a => posP (- c a)) (fun a => posP_nn _) fun x => decide (x.2 = q)
    omega
  have prq : ∀ q, Pl ts q → preC ts (n + 1) s1 s2 q = resid ts (n + 1) s1 q + arr (crs c ts) q := fun q hq => by
    rw [ec]
    exact (pre_eq o hq).symm
  have lp : 1 ≤ preC ts (n + 1) s1 s2 p := by
    have := arr_nn p
    have := prq p pp
    omega
  have main := tok_sum o (c := c) (r := r) (v := v) (live := fun q => 1 ≤ preC ts (n + 1) s1 s2 q) vpos (fun x px lx => by
      have e := rem_eq (n := n + 1) (s1 := s1) (s2 := s2) o px
      rw [← ec, lvs_eq, kids_sOf] at e
      have ks := posP_sum c (kids ts x)
      have rr := f2.res x (pl_plc px)
      rw [ev, er]
      show oneN _ = (resid ts (n + 1) s2 x).toNat + _
      unfold oneN upA
      rw [if_neg (by omega)]
      rcases px with rfl | mx
      · rw [own_none _ o.root] at e
        rw [if_pos rfl]
        omega
      · rw [own_one _ o.nd mx] at e
        rw [if_neg fun z => o.root (by rw [← z]; exact mx)]
        have : posP (- c x) = ((- c x).toNat : Int) := by unfold posP; split <;> omega
        omega)
    (fun x z hz lx cx => by
      have a := prq z (par_pl o hz)
      have b := f1.res z (pl_plc (par_pl o hz))
      rw [arr_eq, kids_sOf] at a
      have k1 := le_sum (f := fun a => posP (- c a)) (fun a _ => posP_nn _) ((kid_par o).mpr hz)
      have k2 : posP (- c x) = - c x := if_pos (by omega)
      have k3 : posP (- c x) ≤ ((kids ts z).map fun a => posP (- c a)).sum := k1
      have k4 : 0 ≤ sOf ts (fun x => decide (x.1 = z)) (fun a => posP (c a)) := by
        rcases par_pl o hz with rfl | mz
        · rw [own_none _ o.root]
          exact Int.le_refl _
        · rw [own_one _ o.nd mz]
          exact posP_nn _
      omega)
    (fun k x hk lx ck => by
      have a := prq k (.inr (par_flag hk))
      have b := f1.res k (pl_plc (.inr (par_flag hk)))
      rw [arr_eq, own_one _ o.nd (par_flag hk), kids_sOf] at a
      have k1 := sum_nn (f := fun a => posP (- c a)) (l := kids ts k) fun a _ => posP_nn _
      have k2 : posP (c k) = c k := if_pos ck
      omega) 25 p pp lp (by omega)
  obtain ⟨V, eV⟩ : ∃ V, V = prd ((plc ts).map v) := ⟨_, rfl⟩
  rw [← eV] at main
  have Vpos : 0 < V := by
    rw [eV]
    exact prd_pos fun x hx => by
      obtain ⟨q, _, rfl⟩ := List.mem_map.mp hx
      exact vpos q
  obtain ⟨D, eD⟩ : ∃ D, D = Apr ts s1 s2 * Rpr ts (n + 1) s2 := ⟨_, rfl⟩
  have Dpos : 0 < D := by
    rw [eD]
    exact Nat.mul_pos (Apr_pos _ _ _) (Rpr_pos _ _ _)
  have W := cnt_eq (s1 := s1) o f2
  rw [← eD] at W
  rw [← ec]
  have each : ∀ g ∈ plc ts, (D * V) * (if alB ts c p g = true ∧ 1 ≤ resid ts (n + 1) s2 g then cntN ts n (lessS ts s1 p) (lessS ts s2 g) else 0) = Ppr ts (n + 1) s1 s2 * tok ts c r v p g := fun g hg => by
    have pg : Pl ts g := List.mem_cons.mp hg
    by_cases ha : alB ts c p g = true
    · by_cases hr : 1 ≤ resid ts (n + 1) s2 g
      · rw [if_pos ⟨ha, hr⟩]
        have fl := fea_less o f2 pg hr
        have ha' := ha
        rw [ec] at ha'
        have W' := cnt_eq (s1 := lessS ts s1 p) o fl
        have a1 := apr_less ha'
        have a2 := rpr_less (n := n) o pg hr
        have a3 := ppr_less (n := n) o fl ha' pp
        have eV2 : V = prd ((plc ts).map fun q => if onW ts p g q = true then (preC ts (n + 1) s1 s2 q).toNat else 1) * vP ts v p g := by
          rw [eV]
          unfold vP
          rw [← prd_mul]
          congr 1
          refine List.map_congr_left fun q hq => ?_
          by_cases w : onW ts p g q = true
          · rw [if_pos w, if_pos w, Nat.mul_one, ev]
            have z := pre_less (n := n) o ha' pp (List.mem_cons.mp hq)
            have nn := (pre_nn (s1 := lessS ts s1 p) o fl hq).1
            rw [if_pos w] at z
            show oneN _ = _
            unfold oneN
            rw [if_neg (by omega)]
          · rw [if_neg w, if_neg w, Nat.one_mul]
        unfold tok
        rw [if_pos ha, eD, a1, a2, eV2, a3, ← W', ← ec, er]
        show _ = _ * ((resid ts (n + 1) s2 g).toNat * _)
        ac_rfl
      · rw [if_neg fun w => hr w.2]
        unfold tok
        have : r g = 0 := by
          rw [er]
          show (resid ts (n + 1) s2 g).toNat = 0
          omega
        rw [this, Nat.zero_mul]
        split <;> simp
    · rw [if_neg fun w => ha w.1]
      unfold tok
      rw [if_neg ha]
      simp
  refine Nat.eq_of_mul_eq_mul_left (Nat.mul_pos Dpos Vpos) ?_
  rw [← nsum_mul, List.map_congr_left each, nsum_mul, main, ← W]
  ac_rfl
end
end FT


/-! xs.count(y), flat items -/
namespace L2
open PySem PySem.Spec PyProof.Rows
theorem countP_eqU {x : V} : ∀ {xs : List V} {us : List Value}, Vals xs us → xs.all flatV = true → us.countP (eqU x) = xs.countP fun y => eqV y x
  | _, _, .nil, _ => rfl
  | y :: xs, u :: us, .cons r t, f => by
    rw [List.all_cons, Bool.and_eq_true] at f
    rw [List.countP_cons, List.countP_cons, countP_eqU t f.2, eqU_of r f.1]
def rCntF (K : PySem.W.Frag) : V → List V → Hp → VK → Prop := fun x xs H Q => ∃ (a : Addr) (ys : List V) (y : V), x = .ref a ∧ xs = [y] ∧ SqL K H a ys ∧ flatV y = true ∧ ys.all flatV = true ∧ Q (.int ((ys.countP fun z => eqV z y : Nat) : Int)) H
variable {X : Cx}
theorem mt_countF : MtR X "list.count" (rCntF X.K) := by
  intro pins s σ H x xs v us Q I rx rxs ⟨a, ys, y, ex, exs, hs, fy, fys, q⟩
  subst ex
  subst exs
  cases rx
  match us, rxs with
  | [uy], .cons ry .nil =>
    obtain ⟨its, rv, ⟨⟨cls, dd, data, sl⟩, n, ho, hc, hdn, hd⟩, hlen⟩ := I.list hs
    simp only at hc hd
    subst hc hd
    refine call_meets PySem.F.slot_list_count ⟨_, ho, rfl⟩ PySem.F.entry_list_count (PySem.F.args_list_count_2 _ _)
      (SeqAt.list_countAt a its.toArray n dd sl uy (eqU y)) ⟨ho, fun u hu => mem_eqAt ry fy rv fys u (by simpa using hu), ?_⟩
    refine ⟨.int ((ys.countP fun z => eqV z y : Nat) : Int), H, I.tok _, ⟨s.toks, ?_⟩, q⟩
    show Value.int ((its.toArray.toList.countP (eqU y) : Nat) : Int) s.toks = Value.int ((ys.countP fun z => eqV z y : Nat) : Int) s.toks
    rw [show its.toArray.toList = its from rfl, countP_eqU rv fys]
end L2


/-! sums -/
namespace FT
open PySem
theorem sum_upd {f f' : Str → Int} {g : Str} {d : Int} {l : List Str} (nd : l.Nodup) (hg : g ∈ l) (h : ∀ x ∈ l, f' x = f x + if x = g then d else 0) : (l.map f').sum = (l.map f).sum + d := by
  rw [List.map_congr_left h, sum_map_add, sum_one (f := fun _ => d) nd, if_pos hg]
theorem pair_lenZ {α β : Type} {F : α → β → Prop} : ∀ {xs : List α} {ys : List β}, Paired F xs ys → xs.length = ys.length
  | _, _, .nil => rfl
  | _, _, .cons _ t => congrArg (· + 1) (pair_lenZ t)
theorem filter_more {c : Str → Bool} {l : List Str} {i : Nat} {a : Str} (h : l[i]? = some a) : (l.take (i + 1)).filter c = (l.take i).filter c ++ if c a = true then [a] else [] := by
  rw [take_more h, List.filter_append, List.filter_cons, List.filter_nil]
theorem sums_eq {l : List Str} {f g : Str → Int} (h : ∀ a ∈ l, f a ≤ g a) : (l.map f).sum ≤ (l.map g).sum ∧ ((l.map g).sum = (l.map f).sum ↔ ∀ a ∈ l, g a = f a) := by
  induction l with
  | nil => exact ⟨Int.le_refl _, fun _ a ha => (by cases ha), fun _ => rfl⟩
  | cons b l ih =>
    obtain ⟨h1, h2⟩ := ih fun a ha => h a (List.mem_cons_of_mem _ ha)
    have hb := h b (List.mem_cons_self ..)
    rw [List.map_cons, List.map_cons, List.sum_cons, List.sum_cons]
    refine ⟨by omega, fun e a ha => ?_, fun e => ?_⟩
    · rcases List.mem_cons.mp ha with rfl | ha
      · omega
      · exact h2.mp (by omega) a ha
    · have := e b (List.mem_cons_self ..)
      have := h2.mpr fun a ha => e a (List.mem_cons_of_mem _ ha)
      omega
end FT


/-! the law's toggles of a user -/
namespace FT
open PySem L2 TL ClX LiI
def distT (t : List (Str × Str)) (p g : Str) : Int := (((t.map Prod.fst).filter fun b => decide (b ∈ pathOf t p) != decide (b ∈ pathOf t g)).length : Int)
def spFar : Sp := fun vs H Q _ => ∃ (q : Addr) (p g : Str) (t : List (Str × Str)), vs = [.ref q, .str p, .str g] ∧ H q = some (.dK (prs t)) ∧ TreeOk t ∧ Pl t p ∧ Pl t g ∧ ∀ H', Same H H' → Q (.int (distT t p g)) H'
section
variable {P : Program} {w : World} {K : PySem.W.Frag} {mg : Str → Option Value} {base : Heap}
abbrev NFa : List Str := ["_law_above", "_law_spot", "_law_goal", "_law_here", "_law_there", "_law_name"]
theorem scFa : FnScope NFa ["_law_above", "_law_spot", "_law_goal"] (defScope s__law_far) := ⟨rfl, rfl, rfl, by decide +kernel, rfl, by decide +kernel, by decide +kernel⟩
theorem ok_far {f fP : Addr} {fd fdP : FuncData} (F : Fun K "_law_far" "_law_far" s__law_far f fd) (T : Nm mg) (DP : Dn P w K mg base CX0 1 "_law_path" ["_law_above", "_law_spot"] spPath fP fdP) : FnOk P w K mg base CX0 2 f fd ["_law_above", "_law_spot", "_law_goal"] spFar := by
  refine F.ok scFa (fun vs H Q E h => ?_) (fun cdv A outer s H vs Q E hr h => ?_)
  · obtain ⟨q, p, g, t, rfl, _⟩ := h
    rfl
  · obtain ⟨q, p, g, t, rfl, hq, o, pp, pg, k⟩ := h
    have hu := hu_of hr
    have nd := scFa.nd
    have big : 1000 ≤ sizeLine := by decide
    have few := o.few
    refine ⟨_, pss_cons (ps_asg (pe_tup (pa_cons (pe_call DP.ok hr rfl DP.mgn DP.kp DP.bn .nil pass0 (pa_cons (pv 0) (pa_cons (pv 1) pa_nil))) (pa_cons (pe_call DP.ok hr rfl DP.mgn DP.kp DP.bn .nil pass0 (pa_cons (pv 0) (pa_cons (pv 2) pa_nil))) pa_nil)))
        (pg_tup rfl (pgs_cons (pg_name (i := 3) nd rfl (.inr rfl)) (pgs_cons (pg_name (i := 4) nd rfl (.inr rfl)) pgs_nil))))
      (pss_one (ps_ret (pe_callB call_len_seq (by rfl) T.len PySem.boot_len (pa_cons (pe_lock (pe_lc (own := [("_law_name", 5)]) (g := gName 5) (tt := tTest (tOp rNe (tOp (rIn K false) (tVar 5) (tVar 3)) (tOp (rIn K false) (tVar 5) (tVar 4)))) (te := tVar 5) rfl nd (pi_keys (pv 0)) (blkOk_by (N := NFa) (sc := defScope s__law_far) (by decide +kernel))
        (fun _ _ _ _ _ => pg_name (i := 5) nd rfl (Or.inl rfl)) (fun _ _ _ _ _ => pts_one (pt_cmpR op_ne (pe_cmpR op_in_seq (pv 5) (pv 3) rfl) (pe_cmpR op_in_seq (pv 5) (pv 4) rfl) (nomark _))) (fun _ _ _ _ _ => pv 5))) pa_nil)))), ?_⟩
    refine ⟨_, rfl, _, rfl, q, p, t, rfl, .inl hq, o, pp, fun p1 H1 s1 n1 h1 => ?_⟩
    refine ⟨_, rfl, _, rfl, q, g, t, rfl, .inl (s1 _ _ hq), o, pg, fun p2 H2 s2 n2 h2 => ?_⟩
    refine ⟨by show 2 ≤ sizeLine; omega, fun tp ntp => ⟨tp, _, rfl, .inl (.inl upd_same), rfl, _, _, rfl, _, _, rfl, rfl, ?_⟩⟩
    have tt := same_new (o := .tup [.ref p1, .ref p2]) ntp
    obtain ⟨H3, e3⟩ : ∃ X, X = upd H2 tp (.tup [.ref p1, .ref p2]) := ⟨_, rfl⟩
    have s03 : Same H H3 := e3 ▸ (s1.trans s2).trans tt
    have h1 : H3 p1 = some (.tup ((pathOf t p).map V.str)) := by rw [e3]; exact tt _ _ (s2 _ _ h1)
    have h2 : H3 p2 = some (.tup ((pathOf t g).map V.str)) := by rw [e3]; exact tt _ _ h2
    rw [← e3]
    have hq3 := s03 _ _ hq
    refine ⟨q, _, hq3, trivial, fun od => ⟨_, rfl, q, od, rfl, .inl ⟨_, upd_same, fun D nD => ?_⟩⟩⟩
    have Dq : D ≠ q := (ne_of_none upd_same nD).symm
    have offq : ∀ {b u}, b ≠ q → H3 b = some u → (upd H3 q (.frz od (.dK (prs t)))) b = some u := fun {b u} n e => by rw [upd_ne n]; exact e
    have p1q : p1 ≠ q := ne_of h1 hq3 (by intro z; cases z)
    have p2q : p2 ≠ q := ne_of h2 hq3 (by intro z; cases z)
    refine lc_it walk_keys (fun i H' => Same (upd H3 q (.frz od (.dK (prs t)))) H' ∧ H' D = some (.lst ((((t.map Prod.fst).take i).filter fun b => decide (b ∈ pathOf t p) != decide (b ∈ pathOf t g)).map V.str))) ⟨same_new nD, upd_same⟩ (fun i H' _ z => z.1 _ _ upd_same) ?_ ?_
    · intro i y Hz Ha hi ⟨q1, q2⟩ ⟨eb, kk, vv, hk, ey⟩
      subst eb
      subst ey
      obtain ⟨⟨b, pb⟩, hp, ee⟩ : ∃ z : Str × Str, t[i]? = some z ∧ (kk, vv) = (Sum.inr z.1, V.str z.2) := by
        unfold prs kvT at hk
        rw [List.map_map, List.getElem?_map] at hk
        obtain ⟨z, hz, e⟩ := Option.map_eq_some_iff.mp hk
        exact ⟨z, hz, e.symm⟩
      cases ee
      rw [show kV (Sum.inr b) = V.str b from rfl]
      have hb : (t.map Prod.fst)[i]? = some b := by rw [List.getElem?_map, hp] <;> rfl
      refine ⟨rfl, ?_⟩
      refine ⟨_, rfl, _, rfl, p1, _, rfl, .inr (.inl (.inl (q1 _ _ (offq p1q h1)))), rfl, flat_strs _, ?_⟩
      refine ⟨_, rfl, _, rfl, p2, _, rfl, .inr (.inl (.inl (q1 _ _ (offq p2q h2)))), rfl, flat_strs _, ?_⟩
      rw [show (if false = true then !inV (V.str b) ((pathOf t p).map V.str) else inV (V.str b) ((pathOf t p).map V.str)) = decide (b ∈ pathOf t p) from inV_strs b _,
        show (if false = true then !inV (V.str b) ((pathOf t g).map V.str) else inV (V.str b) ((pathOf t g).map V.str)) = decide (b ∈ pathOf t g) from inV_strs b _]
      refine ⟨rfl, _, rfl, ?_⟩
      have more := filter_more (c := fun b => decide (b ∈ pathOf t p) != decide (b ∈ pathOf t g)) hb
      have lf := List.length_filter_le (fun b => decide (b ∈ pathOf t p) != decide (b ∈ pathOf t g)) ((t.map Prod.fst).take i)
      rw [List.length_take, List.length_map] at lf
      rw [show (!decide (V.bl (decide (b ∈ pathOf t p)) = V.bl (decide (b ∈ pathOf t g)))) = (decide (b ∈ pathOf t p) != decide (b ∈ pathOf t g)) by
        cases decide (b ∈ pathOf t p) <;> cases decide (b ∈ pathOf t g) <;> rfl]
      refine ite2 (fun yes => ?_) (fun no => ?_)
      · rw [if_pos yes] at more
        exact ⟨_, rfl, _, q2, by rw [List.length_map]; omega, q1.put nD, by rw [upd_same, more, List.map_append] <;> rfl⟩
      · rw [if_neg no, List.append_nil] at more
        exact ⟨q1, by rw [more]; exact q2⟩
    · intro H4 ⟨q1, q2⟩
      rw [prs_len, ← List.length_map (f := Prod.fst) (as := t), List.take_length] at q2
      refine ⟨q1 _ _ upd_same, D, _, rfl, .inl (SqL.of (by rw [upd_ne Dq]; exact q2)), ?_⟩
      rw [List.length_map]
      exact k _ (s03.trans (unlock_same hq3 q1))
end
end FT


/-! d.values() as a value, sum of it -/
namespace L2
open PySem PySem.Spec PyProof.Rows
/-- at v: the view of the values of the dict at d -/
def VwO (v d : Addr) : HO := .ext fun h => h.get? v = some ({ cls := .type "dict_values", data := .fields #[.ref d] } : Obj)
theorem vwo_ok {P : Program} {w : World} {H : Hp} {h : Heap} {v d : Addr} (e : h.get? v = some ({ cls := .type "dict_values", data := .fields #[.ref d] } : Obj)) : ObjOk P w H h v (VwO v d) :=
  ⟨e, ⟨_, e⟩, fun h1 h2 z k => k _ z⟩
theorem vwo_at {P : Program} {w : World} {H : Hp} {h : Heap} {v d : Addr} (ok : HOk P w H h) (e : H v = some (VwO v d)) : h.get? v = some ({ cls := .type "dict_values", data := .fields #[.ref d] } : Obj) := by
  have x : ObjOk P w H h v (.ext fun h => h.get? v = some ({ cls := .type "dict_values", data := .fields #[.ref d] } : Obj)) := ok v _ e
  exact x.1
theorem preSum_list : ∀ ns : List Int, preSum (fun i => (ns[i]?).getD 0) ns.length = ns.sum
  | [] => rfl
  | n :: ns => by
    show preSum _ (ns.length + 1) = _
    rw [PySem.W.kdu_shift, List.sum_cons, ← preSum_list ns] <;> rfl
section
variable {X : Cx}
def rDVals : V → List V → Hp → VK → Prop := fun x xs H Q => ∃ (a : Addr) (kvs : List (Key × V)), x = .ref a ∧ xs = [] ∧ H a = some (.dK kvs) ∧ ∀ v, H v = none → Q (.ref v) (upd H v (VwO v a))
theorem mt_dvals : MtR X "dict.values" rDVals := by
  intro pins s σ H x xs v us Q I rx rxs ⟨a, kvs, ex, exs, e, q⟩
  subst ex
  subst exs
  cases rx
  cases rxs
  obtain ⟨z, lo, vs, rel, dd⟩ := dk_of I.hok e
  refine call_meetsIn PySem.F.slot_dict_values dd.typeIs PySem.F.entry_dict_values (PySem.F.args_dict_values_1 _) (meets_dict_values (mixKind X.prog X.w) a lo) ⟨⟨vs, dd⟩, ?_⟩
  have at_ : (s.heap.push ({ cls := .type "dict_values", data := .fields #[.ref a] } : Obj)).get? s.heap.objs.size = some ({ cls := .type "dict_values", data := .fields #[.ref a] } : Obj) := Heap.get?_push_size _ rfl
  exact ⟨.ref s.heap.objs.size, upd H s.heap.objs.size (VwO s.heap.objs.size a), I.laid (t' := s.toks) (fun b u e => Heap.get?_push_of_some _ e) (Nat.le_refl _) (vwo_ok at_), rfl, q _ (I.hok.fresh (Nat.le_refl _))⟩
def rSumV : List V → Hp → VK → Prop := fun xs H Q => ∃ (v d : Addr) (kvs : List (Key × V)) (ns : List Int), xs = [.ref v] ∧ H v = some (VwO v d) ∧ H d = some (.dK kvs) ∧ kvs.map (·.2) = ns.map V.int ∧ Q (.int ns.sum) H
theorem cr_sumV (hc : X.calm = true) : CallR X (.builtin "sum") rSumV := by
  intro pins s σ H xs us Q I r ⟨v, d, kvs, ns, ex, ev, ed, en, q⟩
  subst ex
  obtain ⟨u, rfl, ru⟩ := vals1 r
  cases ru
  obtain ⟨z, lo, vs, rel, dd⟩ := dk_of I.hok ed
  obtain ⟨ep, hat⟩ := dd.dictAt
  have av := vwo_at I.hok ev
  have lv : kvs.length = vs.length := rel.length
  have ln : kvs.length = ns.length := by
    have e := congrArg List.length en
    rw [List.length_map, List.length_map] at e
    exact e
  have items : ∀ (i : Nat) (k : Key) (y : Value), vs[i]? = some (k, y) → ∃ t : Tok, y = Value.int ((ns[i]?).getD 0) t := fun i k y h => by
    have il := (List.getElem?_eq_some_iff.mp h).1
    obtain ⟨kv, hk⟩ : ∃ kv, kvs[i]? = some kv := ⟨_, List.getElem?_eq_getElem (by omega)⟩
    obtain ⟨b, hb, r1, r2⟩ := paired_get (show Paired _ kvs vs from rel) hk
    rw [h] at hb
    cases hb
    have e1 : (kvs.map (·.2))[i]? = some kv.2 := by rw [List.getElem?_map, hk] <;> rfl
    rw [en, List.getElem?_map] at e1
    obtain ⟨n, hn, e2⟩ := Option.map_eq_some_iff.mp e1
    rw [hn]
    rw [← e2] at r2
    exact r2
  refine PySem.call_sum_walkAnyS ?_
  obtain ⟨oI, St, hit, W, st⟩ := (PySem.W.kdl_values (knd := mixKind X.prog X.w) (kvs := vs) (ep := ep) (r := v) (d := d)).iter X.A.in1 s (I.ok.hd hc) ⟨⟨_, av, rfl, rfl⟩, hat⟩
  refine hit _ _ ⟨s.heap.objs.size, _, _, _, vs.length, _, _, (fun i => (ns[i]?).getD 0), rfl, W.toS, st, fun b hb => ?_, fun i y ⟨k, hy⟩ => items i k y hy, fun s' t' hm => ?_⟩
  · show b < (s.heap.push oI).objs.size
    rw [Heap.size_push]
    rcases List.mem_cons.mp hb with e | hb
    · rw [e]
      exact Nat.lt_succ_self _
    · rw [List.mem_singleton.mp hb]
      exact Nat.lt_succ_of_lt hat.lt_size
  · have hk : ∀ b o, s.heap.get? b = some o → s'.heap.get? b = some o := fun b o e =>
      hm.heap b o (fun hI => absurd (Heap.lt_size e) (by rw [List.mem_singleton.mp hI]; exact Nat.lt_irrefl _)) (Heap.get?_push_of_some _ e)
    rw [PySem.Moved.eq_with hm]
    rw [show vs.length = ns.length by omega, preSum_list]
    exact ⟨.int ns.sum, H, I.kept (t' := s'.toks) hk, ⟨_, rfl⟩, q⟩
end
end L2


/-! dicts from texts to any values; lists by place in the heap. -/
namespace FT
open PySem L2 TL ClX
def tblV (l : List Str) (g : Str → V) : List (Key × V) := kvT (l.map fun a => (a, g a))
theorem tblV_int (l : List Str) (g : Str → Int) : tblI l g = tblV l fun a => .int (g a) := rfl
theorem tblV_len (l : List Str) (g : Str → V) : (tblV l g).length = l.length := by unfold tblV; rw [kvT_len, List.length_map]
theorem tblV_fst (l : List Str) (g : Str → V) : (l.map fun a => (a, g a)).map Prod.fst = l := by rw [List.map_map]; exact List.map_id _
theorem tblV_keys (l : List Str) (g : Str → V) : (tblV l g).map (·.1) = l.map Sum.inr := by unfold tblV kvT; rw [List.map_map, List.map_map] <;> rfl
theorem tblV_at {l : List Str} {g : Str → V} {i : Nat} {k : Key} {v : V} (h : (tblV l g)[i]? = some (k, v)) : ∃ a, l[i]? = some a ∧ k = Sum.inr a ∧ v = g a := by
  unfold tblV kvT at h
  rw [List.map_map, List.getElem?_map] at h
  obtain ⟨a, ha, e⟩ := Option.map_eq_some_iff.mp h
  cases e
  exact ⟨a, ha, rfl, rfl⟩
theorem tblV_val {l : List Str} {g : Str → V} {a : Str} (h : a ∈ l) : valV (tblV l g) (Sum.inr a) = some (g a) := by
  unfold tblV
  rw [kvT_val]
  induction l with
  | nil => cases h
  | cons b l ih =>
    rw [List.map_cons, look_cons]
    by_cases e : b = a
    · subst e
      exact if_pos rfl
    · rw [if_neg e]
      exact ih ((List.mem_cons.mp h).resolve_left fun z => e z.symm)
theorem tblV_none {l : List Str} {g : Str → V} {a : Str} (h : a ∉ l) : valV (tblV l g) (Sum.inr a) = none := by
  unfold tblV
  rw [kvT_val, look_none (by rw [tblV_fst]; exact h)]
theorem tblV_put {l : List Str} {g : Str → V} {a : Str} {z : V} (h : a ∈ l) : putK (tblV l g) (Sum.inr a) z = tblV l (fun p => if p = a then z else g p) := by
  unfold tblV
  rw [kvT_putT]
  unfold putT
  rw [if_pos (by rw [tblV_fst]; exact h), List.map_map]
  congr 1
  refine List.map_congr_left fun p _ => ?_
  show (if p = a then (p, z) else (p, g p)) = (p, if p = a then z else g p)
  by_cases e : p = a
  · rw [if_pos e, if_pos e]
  · rw [if_neg e, if_neg e]
theorem tblV_snoc {l : List Str} {g : Str → V} {a : Str} {z : V} (h : a ∉ l) (e : z = g a) : putK (tblV l g) (Sum.inr a) z = tblV (l ++ [a]) g := by
  unfold tblV
  rw [kvT_put (by rw [tblV_fst]; exact h), List.map_append, e] <;> rfl
theorem tblV_congr {l : List Str} {g g' : Str → V} (h : ∀ a ∈ l, g a = g' a) : tblV l g = tblV l g' := by
  unfold tblV
  rw [List.map_congr_left fun a ha => by rw [h a ha]]
theorem keys_tblV (l : List Str) (g : Str → V) : ((tblV l g).map fun kv => kV kv.1) = l.map V.str := by
  unfold tblV kvT
  rw [List.map_map, List.map_map] <;> rfl
theorem nat_fresh {l : List Str} {i : Nat} {a : Str} (nd : l.Nodup) (h : l[i]? = some a) : a ∉ l.take i := fun hm => by
  obtain ⟨j, hj⟩ := List.mem_iff_getElem?.mp hm
  have jl := (List.getElem?_eq_some_iff.mp hj).1
  rw [List.length_take] at jl
  rw [List.getElem?_take, if_pos (by omega)] at hj
  have := (List.getElem?_inj (by omega) nd).mp (hj.trans h.symm)
  omega
/-- lists by place: the dict at q, the list of p at r p -/
def LsAt (H : Hp) (q : Addr) (l : List Str) (r : Str → Addr) (L : Str → List Int) : Prop := H q = some (.dK (tblV l fun p => .ref (r p))) ∧ ∀ p ∈ l, H (r p) = some (.lst ((L p).map V.int))
theorem LsAt.mono {H H' : Hp} {q : Addr} {l : List Str} {r : Str → Addr} {L : Str → List Int} (s : Same H H') (h : LsAt H q l r L) : LsAt H' q l r L := ⟨s _ _ h.1, fun p hp => s _ _ (h.2 p hp)⟩
theorem LsAt.congr {H : Hp} {q : Addr} {l : List Str} {r : Str → Addr} {L L' : Str → List Int} (h : LsAt H q l r L) (e : ∀ p ∈ l, L p = L' p) : LsAt H q l r L' := ⟨h.1, fun p hp => by rw [h.2 p hp, e p hp]⟩
theorem LsAt.get {H : Hp} {q : Addr} {l : List Str} {r : Str → Addr} {L : Str → List Int} (h : LsAt H q l r L) {p : Str} (hp : p ∈ l) : DGet H q (.str p) (some (.ref (r p))) := by
  have z := DGet.k (k := Sum.inr p) h.1
  rw [tblV_val hp] at z
  exact z
end FT


/-! all lists of places with given residents -/
namespace FT
open PySem L2 TL ClX LiI
def lessF (f : Str → Int) (p : Str) : Str → Int := fun q => if q = p then f p - 1 else f q
def evN (ks : List Str) : Nat → (Str → Int) → List (List Str)
  | 0, _ => [[]]
  | m + 1, f => ks.flatMap fun p => if 0 < f p then (evN ks m (lessF f p)).map (p :: ·) else []
theorem evN_len (ks : List Str) : ∀ (m : Nat) (f : Str → Int), (evN ks m f).length ≤ ks.length ^ m
  | 0, _ => Nat.le_refl _
  | m + 1, f => by
    have key : ∀ l : List Str, (l.flatMap fun p => if 0 < f p then (evN ks m (lessF f p)).map (p :: ·) else []).length ≤ l.length * ks.length ^ m := by
      intro l
      induction l with
      | nil => exact Nat.zero_le _
      | cons a l ih =>
        rw [List.flatMap_cons, List.length_append, List.length_cons, Nat.succ_mul]
        have : (if 0 < f a then (evN ks m (lessF f a)).map (a :: ·) else []).length ≤ ks.length ^ m := by
          split
          · rw [List.length_map]
            exact evN_len ks m _
          · exact Nat.zero_le _
        omega
    have z := key ks
    rw [Nat.pow_succ, Nat.mul_comm]
    exact z
theorem less_sum {ks : List Str} (nd : ks.Nodup) {f : Str → Int} {p : Str} (hp : p ∈ ks) : (ks.map (lessF f p)).sum = (ks.map f).sum - 1 := by
  have z := sum_upd (f := f) (f' := lessF f p) (d := -1) nd hp fun x _ => by
    unfold lessF
    by_cases e : x = p
    · rw [if_pos e, if_pos e, e]
      omega
    · rw [if_neg e, if_neg e]
      omega
  omega
theorem evN_mem {ks : List Str} (nd : ks.Nodup) : ∀ (m : Nat) (f : Str → Int), (∀ a ∈ ks, 0 ≤ f a) → (ks.map f).sum = m → ∀ W, W ∈ evN ks m f ↔ W.length = m ∧ (∀ z ∈ W, z ∈ ks) ∧ ∀ p ∈ ks, (W.count p : Int) = f p
  | 0, f, nn, sm, W => by
    have z0 : ∀ a ∈ ks, f a = 0 := by
      have := (sums_eq (l := ks) (f := fun _ => 0) (g := f) nn).2.mp (by rw [sm, sum_map_zero fun _ _ => rfl] <;> rfl)
      exact this
    show W ∈ [[]] ↔ _
    rw [List.mem_singleton]
    constructor
    · rintro rfl
      exact ⟨rfl, fun z h => (by cases h), fun p hp => by rw [z0 p hp] <;> rfl⟩
    · rintro ⟨h, _, _⟩
      exact List.length_eq_zero_iff.mp h
  | m + 1, f, nn, sm, W => by
    show W ∈ ks.flatMap _ ↔ _
    rw [List.mem_flatMap]
    have sub : ∀ {p}, p ∈ ks → 0 < f p → (∀ a ∈ ks, 0 ≤ lessF f p a) ∧ (ks.map (lessF f p)).sum = m := fun {p} hp pos => by
      refine ⟨fun a ha => ?_, by rw [less_sum nd hp, sm]; omega⟩
      unfold lessF
      split
      · omega
      · exact nn a ha
    constructor
    · rintro ⟨p, hp, h⟩
      by_cases pos : 0 < f p
      · rw [if_pos pos] at h
        obtain ⟨R, hR, rfl⟩ := List.mem_map.mp h
        obtain ⟨r1, r2, r3⟩ := (evN_mem nd m _ (sub hp pos).1 (sub hp pos).2 R).mp hR
        refine ⟨by rw [List.length_cons, r1], fun z hz => (List.mem_cons.mp hz).elim (fun e => e ▸ hp) (r2 z), fun q hq => ?_⟩
        have z := r3 q hq
        unfold lessF at z
        rw [List.count_cons]
        by_cases e : q = p
        · rw [if_pos e] at z
          subst e
          rw [if_pos (beq_self_eq_true _)]
          omega
        · rw [if_neg e] at z
          rw [if_neg (by rw [beq_iff_eq]; exact fun w => e w.symm)]
          omega
      · rw [if_neg pos] at h
        cases h
    · rintro ⟨h1, h2, h3⟩
      cases W with
      | nil => cases h1
      | cons p R =>
        have hp := h2 p (List.mem_cons_self ..)
        have z := h3 p hp
        rw [List.count_cons, if_pos (beq_self_eq_true _)] at z
        have pos : 0 < f p := by omega
        refine ⟨p, hp, ?_⟩
        rw [if_pos pos]
        refine List.mem_map.mpr ⟨R, (evN_mem nd m _ (sub hp pos).1 (sub hp pos).2 R).mpr ⟨by rw [List.length_cons] at h1; omega, fun w hw => h2 w (List.mem_cons_of_mem _ hw), fun q hq => ?_⟩, rfl⟩
        have y := h3 q hq
        rw [List.count_cons] at y
        unfold lessF
        by_cases e : q = p
        · rw [if_pos e]
          subst e
          omega
        · rw [if_neg e]
          rw [if_neg (by rw [beq_iff_eq]; exact fun w => e w.symm)] at y
          omega
def spEvery (m : Nat) : Sp := fun vs H Q _ => ∃ (q ql : Addr) (ks0 ks : List Str) (f : Str → Int), vs = [.ref q, .ref ql] ∧ H ql = some (.dK (tblI ks0 f)) ∧ ks0.Nodup ∧ ks.Perm ks0 ∧ PyProof.Rows.sortedS ks = true ∧ ks0.length ≤ 5 ∧ m ≤ 5 ∧ (∀ a ∈ ks0, 0 ≤ f a) ∧ (ks0.map f).sum = m ∧
  ∀ (p : Addr) (rs : List Addr) (H' : Hp), Same H H' → H p = none → H' p = some (.lst (rs.map V.ref)) → Paired (fun (r : Addr) (W : List Str) => H' r = some (.lst (W.map V.str))) rs (evN ks m f) → Q (.ref p) H'
theorem pair_app2 {α β : Type} {F : α → β → Prop} : ∀ {xs xs' : List α} {ys ys' : List β}, Paired F xs ys → Paired F xs' ys' → Paired F (xs ++ xs') (ys ++ ys')
  | _, _, _, _, .nil, q => q
  | _, _, _, _, .cons h t, q => .cons h (pair_app2 t q)
theorem pair_imp2 {α β : Type} {F G : α → β → Prop} (m : ∀ x y, F x y → G x y) : ∀ {xs : List α} {ys : List β}, Paired F xs ys → Paired G xs ys
  | _, _, .nil => .nil
  | _, _, .cons h t => .cons (m _ _ h) (pair_imp2 m t)
section
variable {P : Program} {w : World} {K : PySem.W.Frag} {mg : Str → Option Value} {base : Heap}
abbrev NEv : List Str := ["_law_above", "_law_left", "_law_found", "_law_spot", "_law_fewer", "_law_rest"]
theorem scEv : FnScope NEv ["_law_above", "_law_left"] (defScope s__law_every) := ⟨rfl, rfl, rfl, by decide +kernel, rfl, by decide +kernel, by decide +kernel⟩
theorem tblI_snd (l : List Str) (f : Str → Int) : (tblI l f).map (·.2) = (l.map f).map V.int := by
  rw [tblV_int]
  unfold tblV kvT
  rw [List.map_map, List.map_map, List.map_map] <;> rfl
theorem ok_every0 {f : Addr} {fd : FuncData} (F : Fun K "_law_every" "_law_every" s__law_every f fd) (T : Nm mg) : FnOk P w K mg base CX0 1 f fd ["_law_above", "_law_left"] (spEvery 0) := by
  refine F.ok scEv (fun vs H Q E h => ?_) (fun cdv A outer s H vs Q E hr h => ?_)
  · obtain ⟨q, ql, ks0, ks, g, rfl, _⟩ := h
    rfl
  · obtain ⟨q, ql, ks0, ks, g, rfl, hl, nd0, pk, srt, l5, m5, nn, sm, k⟩ := h
    have hu := hu_of hr
    have big : 1000 ≤ sizeLine := by decide
    refine ⟨_, pss_cons (ps_if (pt_cmpR op_eq (pe_callB (cr_sumV rfl) (by rfl) T.sum (by decide +kernel) (pa_cons (pe_bm0 PySem.F.plainAttrs_dict PySem.F.slot_dict_values PySem.F.type_dict_values mt_dvals (pv 1)) pa_nil)) pe_int (nomark _))
        (pss_one (ps_ret (pe_lst (pa_cons (pe_lst pa_nil) pa_nil)))) pss_nil) pss_never, ?_⟩
    refine ⟨_, rfl, .inr (.inr (.inl ⟨rfl, .inl ⟨_, hl⟩⟩)), ql, _, rfl, rfl, hl, fun v nv => ?_⟩
    have tv := same_new (o := VwO v ql) nv
    refine ⟨v, ql, _, ks0.map g, rfl, upd_same, tv _ _ hl, tblI_snd _ _, rfl, _, rfl, ?_⟩
    rw [sm]
    show if true = true then _ else _
    rw [if_pos rfl]
    refine ⟨by show 0 ≤ sizeLine; omega, fun r nr => ⟨by show 1 ≤ sizeLine; omega, fun p np => ?_⟩⟩
    have tr := same_new (o := .lst ([] : List V)) nr
    have tp := same_new (o := .lst [V.ref r]) np
    refine k p [r] _ ((tv.trans tr).trans tp) (tv.free (tr.free np)) upd_same (.cons ?_ .nil)
    exact tp _ _ upd_same
theorem ok_everyS {m : Nat} {f : Addr} {fd : FuncData} (F : Fun K "_law_every" "_law_every" s__law_every f fd) (T : Nm mg) (D : Dn P w K mg base CX0 (m + 1) "_law_every" ["_law_above", "_law_left"] (spEvery m) f fd) : FnOk P w K mg base CX0 (m + 2) f fd ["_law_above", "_law_left"] (spEvery (m + 1)) := by
  refine F.ok scEv (fun vs H Q E h => ?_) (fun cdv A outer s H vs Q E hr h => ?_)
  · obtain ⟨q, ql, ks0, ks, g, rfl, _⟩ := h
    rfl
  · obtain ⟨q, ql, ks0, ks, g, rfl, hl, nd0, pk, srt, l5, m5, nn, sm, k⟩ := h
    have hu := hu_of hr
    have nd := scEv.nd
    have big : 4000 ≤ sizeLine := by decide
    refine ⟨_, pss_cons (ps_if (pt_cmpR op_eq (pe_callB (cr_sumV rfl) (by rfl) T.sum (by decide +kernel) (pa_cons (pe_bm0 PySem.F.plainAttrs_dict PySem.F.slot_dict_values PySem.F.type_dict_values mt_dvals (pv 1)) pa_nil)) pe_int (nomark _)) pss_never pss_nil)
      (pss_cons (ps_set (i := 2) nd rfl (.inl rfl) (pe_lst pa_nil))
      (pss_cons (ps_for PassesOwn.never rfl (pi_list (pe_callB (call_sortedD rfl) (by rfl) T.srt (by decide +kernel) (pa_cons (pv 1) pa_nil))) (pg_name (i := 3) nd rfl (.inr rfl))
        (pss_one (ps_if (pt_cmpR op_gt (pe_dget hu (pv 1) (pv 3) (fun _ _ => rfl)) pe_int (nomark _))
          (pss_cons (ps_set (i := 4) nd rfl (.inl rfl) (pe_callTy call_dictD (by rfl) T.dct (by decide +kernel) (pa_cons (pv 1) pa_nil)))
          (pss_cons (ps_dput hu (pv 4) (pv 3) (pe_op op_sub (pe_dget hu (pv 4) (pv 3) (fun _ _ => rfl)) pe_int) rfl)
          (pss_one (ps_set (i := 2) nd rfl (.inl rfl) (pe_op op_cat (pv 2) (pe_lc (own := [("_law_rest", 5)]) (g := gName 5) (tt := tYes) rfl nd (pi_list (pe_call D.ok hr rfl D.mgn D.kp D.bn .nil pass0 (pa_cons (pv 0) (pa_cons (pv 4) pa_nil))))
            (blkOk_by (N := NEv) (sc := defScope s__law_every) (by decide +kernel)) (fun _ _ _ _ _ => pg_name (i := 5) nd rfl (Or.inl rfl)) (fun _ _ _ _ _ => pts_nil) (fun _ _ _ _ _ => pe_op op_cat (pe_lst (pa_cons (pv 3) pa_nil)) (pv 5)))))))) pss_nil)))
      (pss_one (ps_ret (pv 2))))), ?_⟩
    refine ⟨_, rfl, .inr (.inr (.inl ⟨rfl, .inl ⟨_, hl⟩⟩)), ql, _, rfl, rfl, hl, fun v nv => ?_⟩
    have tv := same_new (o := VwO v ql) nv
    refine ⟨v, ql, _, ks0.map g, rfl, upd_same, tv _ _ hl, tblI_snd _ _, rfl, _, rfl, ?_⟩
    rw [decide_eq_false (show ¬ V.int (ks0.map g).sum = V.int 0 from fun z => by have := V.int.inj z; omega)]
    refine iteF ?_
    refine ⟨by show 0 ≤ sizeLine; omega, fun fo0 nfo0 => ?_⟩
    have tfo := same_new (o := .lst ([] : List V)) nfo0
    refine ⟨_, rfl, ql, _, ks0, rfl, .inl (tfo _ _ (tv _ _ hl)), ?_, by omega, fun ks' pl' pk' srt' npl => ?_⟩
    · rw [tblV_int, tblV_keys]
    have ek : ks' = ks := sorted_one (pk'.trans pk.symm) srt' srt
    subst ek
    have tpl := same_new (o := .lst (ks'.map V.str)) npl
    have ndk : ks'.Nodup := pk.nodup_iff.mpr nd0
    have lk := pk.length_eq
    obtain ⟨H1, e1⟩ : ∃ X, X = upd (upd (upd H v (VwO v ql)) fo0 (.lst ([] : List V))) pl' (.lst (ks'.map V.str)) := ⟨_, rfl⟩
    have s1 : Same H H1 := e1 ▸ (tv.trans tfo).trans tpl
    have hpl : H1 pl' = some (.lst (ks'.map V.str)) := by rw [e1, upd_same]
    have hfo : H1 fo0 = some (.lst (([] : List Addr).map V.ref)) := by rw [e1]; exact tpl _ _ upd_same
    have nfoH : H fo0 = none := tv.free nfo0
    refine ⟨pl', rfl, ⟨_, SqL.of upd_same⟩, ?_⟩
    rw [← e1]
    obtain ⟨G, eG⟩ : ∃ G : Str → List (List Str), G = fun p => if 0 < g p then (evN ks' m (lessF g p)).map (p :: ·) else [] := ⟨_, rfl⟩
    refine for_it walk_list (fun j σ' H' => Same H1 H' ∧ ∃ (fo : Addr) (rs : List Addr) (u3 u4 : Option V), σ' = [some (.ref q), some (.ref ql), some (.ref fo), u3, u4, none] ∧ H fo = none ∧ H' fo = some (.lst (rs.map V.ref)) ∧ Paired (fun (r : Addr) (W : List Str) => H' r = some (.lst (W.map V.str))) rs ((ks'.take j).flatMap G))
      ⟨Same.refl, fo0, [], _, _, rfl, nfoH, hfo, .nil⟩ (fun j σ' H' _ z => SqL.of (z.1 _ _ hpl)) ?_ ?_
    · intro j y σ' Hz Ha hj ⟨sa, fo, rs, u3, u4, eσ, nfo, hfo', pr⟩ ⟨eb, ex⟩
      subst eσ
      subst eb
      obtain ⟨p, hp, rfl⟩ := map_of ex
      have mp := List.mem_of_getElem? hp
      have mp0 := pk.mem_iff.mp mp
      have fr := nat_fresh ndk hp
      have hla := sa _ _ (s1 _ _ hl)
      have dg : ∀ {H' : Hp} {b : Addr} {f : Str → Int}, H' b = some (.dK (tblI ks0 f)) → DGet H' b (.str p) (some (.int (f p))) := fun {H' b f} h => by
        have w := DGet.k (k := Sum.inr p) h
        rw [tblI_val mp0] at w
        exact w
      have tot : ((ks'.take (j + 1)).flatMap G).length ≤ 3125 := by
        have e : (ks'.flatMap G).length = ((ks'.take (j + 1)).flatMap G).length + ((ks'.drop (j + 1)).flatMap G).length := by
          rw [← List.length_append, ← List.flatMap_append, List.take_append_drop]
        have z := evN_len ks' (m + 1) g
        have z2 : ks'.length ^ (m + 1) ≤ 5 ^ 5 := Nat.le_trans (Nat.pow_le_pow_left (by omega) _) (Nat.pow_le_pow_right (by decide) m5)
        have z3 : (evN ks' (m + 1) g).length = (ks'.flatMap G).length := by rw [eG] <;> rfl
        have : (5 : Nat) ^ 5 = 3125 := by decide
        omega
      have tm : (ks'.take (j + 1)).flatMap G = (ks'.take j).flatMap G ++ G p := by
        rw [take_more hp, List.flatMap_append, List.flatMap_cons, List.flatMap_nil, List.append_nil]
      have lr := pair_lenZ pr
      refine ⟨_, rfl, _, rfl, ql, _, rfl, dg hla, _, _, rfl, rfl, _, rfl, ?_⟩
      refine ite2 (fun yes => ?_) (fun no => ?_)
      · have pos : 0 < g p := of_decide_eq_true yes
        have eGp : G p = (evN ks' m (lessF g p)).map (p :: ·) := by rw [eG]; exact if_pos pos
        refine ⟨_, rfl, ql, _, rfl, .inl hla, fun pf npf => ?_⟩
        have tf := same_new (o := .dK (tblI ks0 g)) npf
        have npfH : H pf = none := s1.free (sa.free npf)
        refine ⟨_, rfl, _, rfl, pf, _, rfl, dg upd_same, _, _, rfl, rfl, _, rfl, _, rfl, pf, _, rfl, DPut.k (k := Sum.inr p) upd_same (by rw [tblI_len]; omega), ?_⟩
        rw [tblI_put mp0, upd_upd, show (fun x => if x = p then g p - 1 else g x) = lessF g p from rfl]
        obtain ⟨Hb, eb2⟩ : ∃ X, X = upd Ha pf (.dK (tblI ks0 (lessF g p))) := ⟨_, rfl⟩
        have sb : Same Ha Hb := eb2 ▸ same_new npf
        have hpf : Hb pf = some (.dK (tblI ks0 (lessF g p))) := by rw [eb2, upd_same]
        rw [← eb2]
        refine ⟨_, rfl, _, rfl, _, rfl, q, pf, ks0, ks', lessF g p, rfl, hpf, nd0, pk, srt, l5, by omega, fun a ha => ?_, by rw [less_sum nd0 mp0, sm]; omega, fun pe rs2 Hc sc npe hpe prc => ⟨pe, rfl, ⟨_, SqL.of hpe⟩, fun D nD => ?_⟩⟩
        · unfold lessF
          split
          · omega
          · exact nn a ha
        obtain ⟨EV, eEV⟩ : ∃ EV, EV = evN ks' m (lessF g p) := ⟨_, rfl⟩
        rw [← eEV] at prc eGp
        have lr2 := pair_lenZ prc
        have lEV : EV.length ≤ 3125 := by
          have := tot
          rw [tm, List.length_append, eGp, List.length_map] at this
          omega
        refine lc_it walk_list (fun i H' => Same Hc H' ∧ ∃ rs3 : List Addr, H' D = some (.lst (rs3.map V.ref)) ∧ Paired (fun (r : Addr) (W : List Str) => H' r = some (.lst (W.map V.str)) ∧ r ≠ D) rs3 ((EV.take i).map (p :: ·))) ⟨same_new nD, [], upd_same, .nil⟩ (fun i H' _ z => SqL.of (z.1 _ _ hpe)) ?_ ?_
        · intro i v2 Hy Hd hi ⟨q1, rs3, hD, pr3⟩ ⟨eb, ex2⟩
          subst eb
          obtain ⟨r, hr2, rfl⟩ := map_of (f := V.ref) (l := rs2) ex2
          obtain ⟨W, hW, hrW⟩ := LiI.paired_get prc hr2
          have mW := List.mem_of_getElem? hW
          have lW : W.length ≤ 5 := by
            rw [eEV] at mW
            have z := (evN_mem ndk m (lessF g p) (fun a ha => by
              unfold lessF
              split
              · omega
              · exact nn a (pk.mem_iff.mp ha)) (by rw [sum_perm (pk.map _), less_sum nd0 mp0, sm]; omega) W).mp mW
            omega
          have l3 := pair_lenZ pr3
          rw [List.length_map, List.length_take] at l3
          refine ⟨rfl, ?_⟩
          refine ⟨_, rfl, by show 1 ≤ sizeLine; omega, fun x1 nx1 => ⟨_, rfl, ?_⟩⟩
          have tx1 := same_new (o := .lst [V.str p]) nx1
          refine ⟨x1, r, _, _, rfl, rfl, upd_same, tx1 _ _ (q1 _ _ hrW), by rw [List.length_map]; show 1 + _ ≤ _; omega, fun x2 nx2 => ?_⟩
          have tx2 := same_new (o := .lst ([V.str p] ++ W.map V.str)) nx2
          have sx := tx1.trans tx2
          have x2D : x2 ≠ D := (ne_of_none (tx1 _ _ hD) nx2).symm
          refine ⟨_, sx _ _ hD, by rw [List.length_map]; omega, (q1.trans sx).put nD, rs3 ++ [x2], by rw [upd_same, List.map_append] <;> rfl, ?_⟩
          rw [take_more hW, List.map_append]
          refine pair_app2 (pair_imp2 (fun r W ⟨e, n⟩ => ⟨by rw [upd_ne n]; exact sx _ _ e, n⟩) pr3) (.cons ⟨?_, x2D⟩ .nil)
          rw [upd_ne x2D, upd_same] <;> rfl
        · intro Hd ⟨sd, rs3, hD, pr3⟩
          rw [List.length_map, lr2, List.take_length] at pr3
          have l3 := pair_lenZ pr3
          rw [List.length_map] at l3
          have sad : Same Ha Hd := (sb.trans sc).trans sd
          refine ⟨fo, D, _, _, rfl, rfl, sad _ _ hfo', hD, ?_, fun x5 nx5 => ?_⟩
          · rw [List.length_map, List.length_map]
            have := tot
            rw [tm, List.length_append, eGp, List.length_map] at this
            omega
          have t5 := same_new (o := .lst (rs.map V.ref ++ rs3.map V.ref)) nx5
          refine ⟨sa.trans (sad.trans t5), x5, rs ++ rs3, _, _, rfl, s1.free (sa.free (sad.free nx5)), by rw [upd_same, List.map_append], ?_⟩
          rw [tm, eGp]
          exact pair_app2 (pair_imp2 (fun r W e => t5 _ _ (sad _ _ e)) pr) (pair_imp2 (fun r W e => t5 _ _ e.1) pr3)
      · have neg : ¬ 0 < g p := fun z => no (decide_eq_true z)
        have eGp : G p = [] := by rw [eG]; exact if_neg neg
        refine ⟨sa, fo, rs, _, _, rfl, nfo, hfo', ?_⟩
        rw [tm, eGp, List.append_nil]
        exact pr
    · intro σ' H2 ⟨s2, fo, rs, u3, u4, eσ, nfo, hfo2, pr⟩
      subst eσ
      rw [List.length_map, List.take_length] at pr
      refine ⟨_, rfl, k fo rs H2 (s1.trans s2) nfo hfo2 ?_⟩
      show Paired _ rs (ks'.flatMap fun p => if 0 < g p then (evN ks' m (lessF g p)).map (p :: ·) else [])
      rw [eG] at pr
      exact pr
/-- at every number of users up to five -/
theorem ok_every {f : Addr} {fd : FuncData} (F : Fun K "_law_every" "_law_every" s__law_every f fd) (T : Nm mg) (b : Binds K fd ["_law_above", "_law_left"] []) (g : mg "_law_every" = some (.ref f)) : ∀ m, FnOk P w K mg base CX0 (m + 1) f fd ["_law_above", "_law_left"] (spEvery m)
  | 0 => ok_every0 F T
  | m + 1 => ok_everyS F T ⟨ok_every F T b g m, F.kp, b, g⟩
end
end FT


namespace FT
open PySem
theorem sum_if {z : Int} {q : Str} : ∀ {keys : List Str}, keys.Nodup → q ∈ keys → (keys.map fun p => if q = p then z else 0).sum = z
  | k :: keys, nd, m => by
    obtain ⟨n1, n2⟩ := List.nodup_cons.mp nd
    rw [List.map_cons, List.sum_cons]
    by_cases e : q = k
    · rw [if_pos e]
      have : (keys.map fun p => if q = p then z else 0).sum = 0 := by
        subst e
        clear nd m
        induction keys with
        | nil => rfl
        | cons c keys ih =>
          rw [List.mem_cons] at n1
          rw [List.map_cons, List.sum_cons, if_neg fun z => n1 (.inl z), ih (List.nodup_cons.mp n2).2 (fun z => n1 (.inr z))] <;> rfl
      rw [this]
      omega
    · rw [if_neg e, sum_if n2 ((List.mem_cons.mp m).resolve_left e)]
      omega
theorem sum_part {s : Str → Int} {keys : List Str} (nd : keys.Nodup) : ∀ ts : List (Str × Str), (∀ x ∈ ts, x.2 ∈ keys) → (keys.map fun p => sOf ts (fun x => decide (x.2 = p)) s).sum = (ts.map fun x => s x.1).sum
  | [], _ => by
    show (keys.map fun _ => (0 : Int)).sum = 0
    clear nd
    induction keys with
    | nil => rfl
    | cons k keys ih =>
      rw [List.map_cons, List.sum_cons, ih fun _ z => nomatch z] <;> rfl
  | x :: ts, hm => by
    have i := sum_part (s := s) nd ts fun y hy => hm y (List.mem_cons_of_mem _ hy)
    have e : (keys.map fun p => sOf (x :: ts) (fun x => decide (x.2 = p)) s) = keys.map fun p => (if x.2 = p then s x.1 else 0) + sOf ts (fun x => decide (x.2 = p)) s := List.map_congr_left fun p _ => by
      rw [sOf_cons]
      simp only [decide_eq_true_eq]
    rw [e, sum_add, i, sum_if nd (hm x (List.mem_cons_self ..)), List.map_cons, List.sum_cons]
theorem plc_par {ts : List (Str × Str)} (o : TreeOk ts) {x : Str × Str} (h : x ∈ ts) : x.2 ∈ plc ts := by
  obtain ⟨rk, r⟩ := o.up
  exact List.mem_cons.mpr ((r _ h).2.imp id And.left)
theorem resid_sum {ts : List (Str × Str)} {n : Int} {s : Str → Int} (o : TreeOk ts) : ((plc ts).map (resid ts n s)).sum = n := by
  have e1 := sum_part (s := s) (plc_nd o) ts fun x hx => plc_par o hx
  have e2 : ((plc ts).map fun p : Str => if p = ("" : Str) then n else s p).sum = n + (ts.map fun x => s x.1).sum := by
    unfold plc
    rw [List.map_cons, List.sum_cons, if_pos rfl, List.map_map]
    congr 2
    refine List.map_congr_left fun x hx => ?_
    show (if x.1 = "" then n else s x.1) = s x.1
    rw [if_neg fun z => o.root (by rw [← z]; exact List.mem_map.mpr ⟨_, hx, rfl⟩)]
  have e3 : ((plc ts).map fun p : Str => if p = ("" : Str) then n else s p) = (plc ts).map fun p => resid ts n s p + sOf ts (fun x => decide (x.2 = p)) s := List.map_congr_left fun p _ => by
    rw [kids_sOf]
    unfold resid
    omega
  rw [e3, sum_add, e1] at e2
  have : (plc ts).map (resid ts n s) = (plc ts).map fun p => resid ts n s p := rfl
  omega
theorem nat_sum {f : Str → Int} : ∀ {l : List Str}, (∀ a ∈ l, 0 ≤ f a) → ((l.map fun a => (f a).toNat).sum : Int) = (l.map f).sum
  | [], _ => rfl
  | a :: l, h => by
    have i := nat_sum (f := f) fun b hb => h b (List.mem_cons_of_mem a hb)
    have := h a (List.mem_cons_self ..)
    rw [List.map_cons, List.map_cons, List.sum_cons, List.sum_cons]
    omega
/-- how many assignments have these sizes -/
def resN (ts : List (Str × Str)) (n : Int) (s : Str → Int) : List Nat := (plc ts).map fun p => (resid ts n s p).toNat
def mwN (ts : List (Str × Str)) (n : Int) (s : Str → Int) : Nat := fct n.toNat / fprod (resN ts n s)
theorem resN_prd (ts : List (Str × Str)) (n : Int) (s : Str → Int) : fprod (resN ts n s) = Rpr ts n s := by
  unfold fprod resN Rpr
  rw [List.map_map] <;> rfl
theorem mw_eq {ts : List (Str × Str)} {n : Int} {s : Str → Int} (o : TreeOk ts) (f : Fea ts n s) : mwN ts n s * Rpr ts n s = fct n.toNat := by
  have hs : (resN ts n s).sum = n.toNat := by
    have e1 := nat_sum (f := resid ts n s) (l := plc ts) fun a ha => f.res a ha
    have e2 := resid_sum (n := n) (s := s) o
    unfold resN
    omega
  have m := multi (f := 1) hs
  rw [Nat.one_mul] at m
  unfold mwN
  rw [← resN_prd]
  exact m
theorem Apr_symm (ts : List (Str × Str)) (s1 s2 : Str → Int) : Apr ts s1 s2 = Apr ts s2 s1 := by
  unfold Apr
  congr 1
  refine List.map_congr_left fun x _ => ?_
  congr 1
  omega
theorem preC_symm (ts : List (Str × Str)) (n : Int) (s1 s2 : Str → Int) (p : Str) : preC ts n s1 s2 p = preC ts n s2 s1 p := by
  unfold preC
  have e : ((kids ts p).map fun c => min (s1 c) (s2 c)) = (kids ts p).map fun c => min (s2 c) (s1 c) := List.map_congr_left fun a _ => Int.min_comm _ _
  rw [e, Int.max_comm]
theorem Ppr_symm (ts : List (Str × Str)) (n : Int) (s1 s2 : Str → Int) : Ppr ts n s1 s2 = Ppr ts n s2 s1 := by
  unfold Ppr
  congr 1
  refine List.map_congr_left fun p _ => ?_
  rw [preC_symm]
theorem both_ways {ts : List (Str × Str)} {n : Int} {s1 s2 : Str → Int} (o : TreeOk ts) (f1 : Fea ts n s1) (f2 : Fea ts n s2) : mwN ts n s1 * cntN ts n s1 s2 = mwN ts n s2 * cntN ts n s2 s1 := by
  have a1 := mw_eq o f1
  have a2 := mw_eq o f2
  have c1 := cnt_eq (s1 := s1) o f2
  have c2 := cnt_eq (s1 := s2) o f1
  rw [Apr_symm, ← Ppr_symm] at c2
  obtain ⟨A, eA⟩ : ∃ A, A = Apr ts s1 s2 := ⟨_, rfl⟩
  obtain ⟨R1, e1⟩ : ∃ A, A = Rpr ts n s1 := ⟨_, rfl⟩
  obtain ⟨R2, e2⟩ : ∃ A, A = Rpr ts n s2 := ⟨_, rfl⟩
  have pA : 0 < A := by rw [eA]; exact Apr_pos ..
  have p1 : 0 < R1 := by rw [e1]; exact Rpr_pos ..
  have p2 : 0 < R2 := by rw [e2]; exact Rpr_pos ..
  rw [← e1] at a1 c2
  rw [← e2] at a2 c1
  rw [← eA] at c1 c2
  refine Nat.eq_of_mul_eq_mul_right (Nat.mul_pos p1 (Nat.mul_pos pA p2)) ?_
  have l : mwN ts n s1 * cntN ts n s1 s2 * (R1 * (A * R2)) = mwN ts n s1 * R1 * (cntN ts n s1 s2 * (A * R2)) := by ac_rfl
  have r : mwN ts n s2 * cntN ts n s2 s1 * (R1 * (A * R2)) = mwN ts n s2 * R2 * (cntN ts n s2 s1 * (A * R1)) := by ac_rfl
  rw [l, r, a1, a2, c1, c2]
/-! ### other orders, other names -/
theorem Apr_perm {t u : List (Str × Str)} (h : t.Perm u) (s1 s2 : Str → Int) : Apr t s1 s2 = Apr u s1 s2 := prd_perm (h.map _)
theorem plc_perm {t u : List (Str × Str)} (h : t.Perm u) : (plc t).Perm (plc u) := (h.map Prod.fst).cons _
theorem Rpr_perm {t u : List (Str × Str)} (h : t.Perm u) (n : Int) (s : Str → Int) : Rpr t n s = Rpr u n s := by
  unfold Rpr
  rw [prd_perm ((plc_perm h).map _)]
  congr 1
  exact List.map_congr_left fun p _ => by rw [resid_perm h]
theorem preC_perm {t u : List (Str × Str)} (h : t.Perm u) (n : Int) (s1 s2 : Str → Int) (p : Str) : preC t n s1 s2 p = preC u n s1 s2 p := by
  unfold preC
  rw [sum_perm ((kids_perm h p).map _)]
theorem Ppr_perm {t u : List (Str × Str)} (h : t.Perm u) (n : Int) (s1 s2 : Str → Int) : Ppr t n s1 s2 = Ppr u n s1 s2 := by
  unfold Ppr
  rw [prd_perm ((plc_perm h).map _)]
  congr 1
  exact List.map_congr_left fun p _ => by rw [preC_perm h]
theorem nd_of_map {α β : Type} (f : α → β) : ∀ {l : List α}, (l.map f).Nodup → l.Nodup
  | [], _ => .nil
  | a :: l, h => by
    obtain ⟨n1, n2⟩ := List.nodup_cons.mp h
    exact List.nodup_cons.mpr ⟨fun m => n1 (List.mem_map.mpr ⟨a, m, rfl⟩), nd_of_map f n2⟩
structure Ren (t : List (Str × Str)) (φ ψ : Str → Str) : Prop where
  inv : ∀ a ∈ t.map Prod.fst, ψ (φ a) = a
  nm : ∀ a ∈ t.map Prod.fst, NameL (φ a)
def ph0 (φ : Str → Str) (p : Str) : Str := if p = "" then "" else φ p
def renT (φ : Str → Str) (t : List (Str × Str)) : List (Str × Str) := t.map fun x => (φ x.1, ph0 φ x.2)
theorem renT_keys (φ : Str → Str) (t : List (Str × Str)) : (renT φ t).map Prod.fst = (t.map Prod.fst).map φ := by
  unfold renT
  rw [List.map_map, List.map_map] <;> rfl
section
variable {t : List (Str × Str)} {φ ψ : Str → Str} (o : TreeOk t) (R : Ren t φ ψ)
include o R
theorem ph0_key {a : Str} (h : a ∈ t.map Prod.fst) : ph0 φ a = φ a := if_neg fun z => o.root (by rw [← z]; exact h)
theorem ph0_inj {p q : Str} (hp : p ∈ plc t) (hq : q ∈ plc t) (e : ph0 φ p = ph0 φ q) : p = q := by
  rcases List.mem_cons.mp hp with rfl | hp
  · rcases List.mem_cons.mp hq with rfl | hq
    · rfl
    · rw [ph0_key o R hq] at e
      exact absurd e.symm (R.nm q hq).ne
  · rw [ph0_key o R hp] at e
    rcases List.mem_cons.mp hq with rfl | hq
    · exact absurd e (R.nm p hp).ne
    · rw [ph0_key o R hq] at e
      rw [← R.inv p hp, e, R.inv q hq]
theorem ren_plc : plc (renT φ t) = (plc t).map (ph0 φ) := by
  unfold plc
  rw [renT_keys, List.map_cons]
  congr 1
  exact List.map_congr_left fun a ha => (ph0_key o R ha).symm
theorem ren_kids {p : Str} (hp : p ∈ plc t) : kids (renT φ t) (ph0 φ p) = (kids t p).map φ := by
  unfold kids renT
  rw [List.filter_map, List.map_map, List.map_map]
  have e : t.filter ((fun q : Str × Str => decide (q.2 = ph0 φ p)) ∘ fun x => (φ x.1, ph0 φ x.2)) = t.filter fun q => decide (q.2 = p) := List.filter_congr fun x hx => by
    show decide (ph0 φ x.2 = ph0 φ p) = decide (x.2 = p)
    rw [decide_eq_decide]
    exact ⟨fun e => ph0_inj o R (plc_par o hx) hp e, fun e => by rw [e]⟩
  rw [e] <;> rfl
theorem ren_nd : ((renT φ t).map Prod.fst).Nodup := by
  rw [renT_keys]
  refine nd_of_map ψ ?_
  rw [List.map_map]
  have : (t.map Prod.fst).map (ψ ∘ φ) = t.map Prod.fst := (List.map_congr_left fun a ha => R.inv a ha).trans (List.map_id _)
  rw [this]
  exact o.nd
theorem ren_tree : TreeOk (renT φ t) := by
  have len : (renT φ t).length = t.length := List.length_map _
  obtain ⟨rk, r⟩ := o.up
  refine ⟨by rw [len]; exact o.one, by rw [len]; exact o.few, ren_nd o R, fun z hz => ?_, fun z => rk (ψ z), fun p hp => ?_⟩
  · rw [renT_keys] at hz
    obtain ⟨a, ha, rfl⟩ := List.mem_map.mp hz
    exact R.nm a ha
  · obtain ⟨x, hx, rfl⟩ := List.mem_map.mp hp
    obtain ⟨h1, h2⟩ := r x hx
    have m1 : x.1 ∈ t.map Prod.fst := List.mem_map.mpr ⟨_, hx, rfl⟩
    rw [len, renT_keys]
    refine ⟨by show rk (ψ (φ x.1)) < t.length; rw [R.inv _ m1]; exact h1, h2.imp (fun e => by show ph0 φ x.2 = ""; rw [e] <;> rfl) fun ⟨m2, l⟩ => ?_⟩
    show ph0 φ x.2 ∈ _ ∧ rk (ψ (ph0 φ x.2)) < rk (ψ (φ x.1))
    rw [ph0_key o R m2, R.inv _ m2, R.inv _ m1]
    exact ⟨List.mem_map.mpr ⟨_, m2, rfl⟩, l⟩
theorem ren_resid (n : Int) (s : Str → Int) {p : Str} (hp : p ∈ plc t) : resid (renT φ t) n (fun z => s (ψ z)) (ph0 φ p) = resid t n s p := by
  unfold resid
  rw [ren_kids o R hp, List.map_map]
  have e : (kids t p).map ((fun z => s (ψ z)) ∘ φ) = (kids t p).map s := List.map_congr_left fun a ha => by
    show s (ψ (φ a)) = s a
    rw [R.inv a (kids_sub ha)]
  rw [e]
  rcases List.mem_cons.mp hp with rfl | hp
  · rw [if_pos rfl, if_pos (show ph0 φ "" = "" from rfl)]
  · have ne : p ≠ "" := fun z => o.root (by rw [← z]; exact hp)
    rw [if_neg ne, ph0_key o R hp, if_neg (R.nm p hp).ne]
    show s (ψ (φ p)) - _ = _
    rw [R.inv p hp]
theorem ren_preC (n : Int) (s1 s2 : Str → Int) {p : Str} (hp : p ∈ plc t) : preC (renT φ t) n (fun z => s1 (ψ z)) (fun z => s2 (ψ z)) (ph0 φ p) = preC t n s1 s2 p := by
  unfold preC
  rw [ren_kids o R hp, List.map_map]
  have e : (kids t p).map ((fun c => min (s1 (ψ c)) (s2 (ψ c))) ∘ φ) = (kids t p).map fun c => min (s1 c) (s2 c) := List.map_congr_left fun a ha => by
    show min (s1 (ψ (φ a))) (s2 (ψ (φ a))) = min (s1 a) (s2 a)
    rw [R.inv a (kids_sub ha)]
  rw [e]
  rcases List.mem_cons.mp hp with rfl | hp
  · rw [if_pos rfl, if_pos (show ph0 φ "" = "" from rfl)]
  · have ne : p ≠ "" := fun z => o.root (by rw [← z]; exact hp)
    rw [if_neg ne, ph0_key o R hp, if_neg (R.nm p hp).ne]
    show max (s1 (ψ (φ p))) (s2 (ψ (φ p))) - _ = _
    rw [R.inv p hp]
theorem ren_fea {n : Int} {s : Str → Int} (f : Fea t n s) : Fea (renT φ t) n fun z => s (ψ z) := by
  refine ⟨fun a ha => ?_, fun p hp => ?_⟩
  · rw [renT_keys] at ha
    obtain ⟨b, hb, rfl⟩ := List.mem_map.mp ha
    show 0 ≤ s (ψ (φ b))
    rw [R.inv b hb]
    exact f.nn b hb
  · have hp' : p ∈ plc (renT φ t) := hp
    rw [ren_plc o R] at hp'
    obtain ⟨b, hb, rfl⟩ := List.mem_map.mp hp'
    rw [ren_resid o R n s hb]
    exact f.res b hb
/-- another forest with other names, in any order: the same number -/
theorem cnt_ren {u : List (Str × Str)} {n : Int} {s1 s2 : Str → Int} (f2 : Fea t n s2) (pu : u.Perm (renT φ t)) : cntN u n (fun z => s1 (ψ z)) (fun z => s2 (ψ z)) = cntN t n s1 s2 := by
  have o' := (ren_tree o R).perm pu.symm
  have f2' := Fea.perm pu.symm (ren_fea o R f2)
  have c1 := cnt_eq (s1 := s1) o f2
  have c2 := cnt_eq (s1 := fun z => s1 (ψ z)) o' f2'
  have eA : Apr u (fun z => s1 (ψ z)) (fun z => s2 (ψ z)) = Apr t s1 s2 := by
    rw [Apr_perm pu]
    unfold Apr renT
    rw [List.map_map]
    congr 1
    refine List.map_congr_left fun x hx => ?_
    have m : x.1 ∈ t.map Prod.fst := List.mem_map.mpr ⟨_, hx, rfl⟩
    show fct (s2 (ψ (φ x.1)) - s1 (ψ (φ x.1))).natAbs = _
    rw [R.inv _ m]
  have eR : Rpr u n (fun z => s2 (ψ z)) = Rpr t n s2 := by
    rw [Rpr_perm pu]
    unfold Rpr
    rw [ren_plc o R, List.map_map]
    congr 1
    refine List.map_congr_left fun p hp => ?_
    show fct (resid (renT φ t) n (fun z => s2 (ψ z)) (ph0 φ p)).toNat = _
    rw [ren_resid o R n s2 hp]
  have eP : Ppr u n (fun z => s1 (ψ z)) (fun z => s2 (ψ z)) = Ppr t n s1 s2 := by
    rw [Ppr_perm pu]
    unfold Ppr
    rw [ren_plc o R, List.map_map]
    congr 1
    refine List.map_congr_left fun p hp => ?_
    show fct (preC (renT φ t) n (fun z => s1 (ψ z)) (fun z => s2 (ψ z)) (ph0 φ p)).toNat = _
    rw [ren_preC o R n s1 s2 hp]
  rw [eA, eR, eP] at c2
  exact Nat.eq_of_mul_eq_mul_right (Nat.mul_pos (Apr_pos t s1 s2) (Rpr_pos t n s2)) (c2.trans c1.symm)
end
end FT


/-! the number of best changes is the number of lists with the fewest toggles (plain maths) -/
namespace FT
open PySem
section
variable {t : List (Str × Str)}
def szL (t : List (Str × Str)) (zs : List Str) (a : Str) : Int := (zs.map fun z => bz (inB t a z)).sum
def dS (t : List (Str × Str)) (zs W : List Str) : Int := ((zs.zip W).map fun e => distT t e.1 e.2).sum
def lS (t : List (Str × Str)) (s : Str → Int) (zs : List Str) : Int := ((t.map Prod.fst).map fun a => ((s a - szL t zs a).natAbs : Int)).sum
theorem szL_cons (p : Str) (L : List Str) (a : Str) : szL t (p :: L) a = bz (inB t a p) + szL t L a := by
  unfold szL
  rw [List.map_cons, List.sum_cons]
theorem less_szL (p : Str) (L : List Str) : lessS t (szL t (p :: L)) p = szL t L := by
  funext a
  unfold lessS
  rw [szL_cons]
  omega
theorem resid_szL (o : TreeOk t) {p q : Str} {L : List Str} (pp : Pl t p) (hq : Pl t q) : resid t ((L.length : Int) + 1) (szL t (p :: L)) q = resid t (L.length : Int) (szL t L) q + if q = p then 1 else 0 := by
  have z := resid_less o (n := (L.length : Int)) (s := szL t (p :: L)) pp hq
  rw [less_szL] at z
  omega
theorem bz_nn (b : Bool) : 0 ≤ bz b := by unfold bz; split <;> omega
theorem szL_nn (zs : List Str) (a : Str) : 0 ≤ szL t zs a := by
  induction zs with
  | nil => exact Int.le_refl _
  | cons z zs ih =>
    rw [szL_cons]
    have := bz_nn (inB t a z)
    omega
theorem fea_szL (o : TreeOk t) : ∀ zs : List Str, (∀ z ∈ zs, Pl t z) → Fea t (zs.length : Int) (szL t zs)
  | [], _ => ⟨fun a _ => Int.le_refl _, fun p hp => by
    show 0 ≤ resid t 0 (fun a => szL t [] a) p
    unfold resid
    have : ((kids t p).map fun a => szL t [] a) = (kids t p).map fun _ => 0 := rfl
    rw [this, sum_map_zero fun _ _ => rfl]
    split <;> exact Int.le_refl _⟩
  | z :: zs, h => by
    have i := fea_szL o zs fun y hy => h y (List.mem_cons_of_mem _ hy)
    refine ⟨fun a _ => szL_nn _ _, fun p hp => ?_⟩
    rw [List.length_cons, Int.natCast_add]
    show 0 ≤ resid t ((zs.length : Int) + 1) _ p
    rw [resid_szL o (h z (List.mem_cons_self ..)) (List.mem_cons.mp hp)]
    have := i.res p hp
    split <;> omega
theorem dist_bz (p g : Str) : distT t p g = ((t.map Prod.fst).map fun a => if inB t a p = inB t a g then (0 : Int) else 1).sum := by
  unfold distT inB
  generalize t.map Prod.fst = l
  induction l with
  | nil => rfl
  | cons b l ih =>
    rw [List.map_cons, List.sum_cons, ← ih, List.filter_cons]
    by_cases e : decide (b ∈ pathOf t p) = decide (b ∈ pathOf t g)
    · rw [if_pos e, e]
      simp
    · rw [if_neg e, if_pos (by rw [bne_iff_ne]; exact e), List.length_cons]
      omega
theorem sum_add2 (f g : Str → Int) (l : List Str) : (l.map f).sum + (l.map g).sum = (l.map fun a => f a + g a).sum := (sum_map_add f g l).symm
theorem least_step (p g : Str) (L : List Str) (s : Str → Int) : lS t s (p :: L) ≤ distT t p g + lS t (lessS t s g) L ∧ (distT t p g + lS t (lessS t s g) L = lS t s (p :: L) ↔ alB t (fun a => s a - szL t (p :: L) a) p g = true) := by
  rw [dist_bz]
  unfold lS
  rw [sum_add2]
  have key : ∀ a : Str, ((s a - szL t (p :: L) a).natAbs : Int) ≤ (if inB t a p = inB t a g then (0 : Int) else 1) + ((lessS t s g a - szL t L a).natAbs : Int) ∧
      ((if inB t a p = inB t a g then (0 : Int) else 1) + ((lessS t s g a - szL t L a).natAbs : Int) = ((s a - szL t (p :: L) a).natAbs : Int) ↔ (inB t a p ≠ inB t a g → if inB t a g = true then 0 < s a - szL t (p :: L) a else s a - szL t (p :: L) a < 0)) := fun a => by
    rw [szL_cons]
    unfold lessS bz
    cases inB t a p <;> cases inB t a g <;> simp <;> omega
  obtain ⟨h1, h2⟩ := sums_eq (l := t.map Prod.fst) (f := fun a => ((s a - szL t (p :: L) a).natAbs : Int)) (g := fun a => (if inB t a p = inB t a g then (0 : Int) else 1) + ((lessS t s g a - szL t L a).natAbs : Int)) fun a _ => (key a).1
  refine ⟨h1, h2.trans ?_⟩
  rw [alB_iff]
  exact ⟨fun h a ha => (key a).2.mp (h a ha), fun h a ha => (key a).2.mpr (h a ha)⟩
theorem evN_congr {ks : List Str} : ∀ (m : Nat) {f g : Str → Int}, (∀ a ∈ ks, f a = g a) → evN ks m f = evN ks m g
  | 0, _, _, _ => rfl
  | m + 1, f, g, h => by
    show ks.flatMap _ = ks.flatMap _
    have : ∀ a ∈ ks, (if 0 < f a then (evN ks m (lessF f a)).map (a :: ·) else []) = if 0 < g a then (evN ks m (lessF g a)).map (a :: ·) else [] := fun a ha => by
      rw [h a ha, evN_congr m (f := lessF f a) (g := lessF g a) fun b hb => by
        unfold lessF
        rw [h a ha, h b hb]]
    rw [List.flatMap_def, List.flatMap_def, List.map_congr_left this]
theorem ev_less (o : TreeOk t) {ks : List Str} (pk : ks.Perm (plc t)) (m : Nat) {n : Int} {s : Str → Int} {g : Str} (pg : Pl t g) : evN ks m (lessF (resid t (n + 1) s) g) = evN ks m (resid t n (lessS t s g)) := evN_congr m fun a ha => by
  have pa : Pl t a := List.mem_cons.mp (pk.mem_iff.mp ha)
  rw [resid_less o pg pa]
  unfold lessF
  by_cases e : a = g
  · rw [if_pos e, if_pos e, e]
  · rw [if_neg e, if_neg e, Int.sub_zero]
theorem ev_low (o : TreeOk t) {ks : List Str} (pk : ks.Perm (plc t)) : ∀ (zs : List Str) (s : Str → Int), Fea t (zs.length : Int) s → ∀ W ∈ evN ks zs.length (resid t (zs.length : Int) s), lS t s zs ≤ dS t zs W
  | [], s, f, W, h => by
    have : lS t s [] = 0 := by
      unfold lS
      refine sum_map_zero fun a ha => ?_
      have h1 := f.nn a ha
      have h2 := fea_le o f a ha
      have e : szL t [] a = 0 := rfl
      rw [e]
      have : s a = 0 := by
        have : ((([] : List Str).length : Nat) : Int) = 0 := rfl
        omega
      rw [this]
      rfl
    rw [this]
    exact Int.le_refl _
  | p :: L, s, f, W, h => by
    have h' : W ∈ evN ks (L.length + 1) (resid t ((L.length : Int) + 1) s) := h
    have h2 : W ∈ ks.flatMap fun g => if 0 < resid t ((L.length : Int) + 1) s g then (evN ks L.length (lessF (resid t ((L.length : Int) + 1) s) g)).map (g :: ·) else [] := h'
    obtain ⟨g, hg, hW⟩ := List.mem_flatMap.mp h2
    have pg : Pl t g := List.mem_cons.mp (pk.mem_iff.mp hg)
    by_cases pos : 0 < resid t ((L.length : Int) + 1) s g
    · rw [if_pos pos, ev_less o pk _ pg] at hW
      obtain ⟨R, hR, rfl⟩ := List.mem_map.mp hW
      have i := ev_low o pk L (lessS t s g) (fea_less o f pg pos) R hR
      have l := (least_step (t := t) p g L s).1
      show _ ≤ distT t p g + dS t L R
      omega
    · rw [if_neg pos] at hW
      cases hW
theorem cnt_same (o : TreeOk t) {n : Int} {s1 s2 : Str → Int} (f2 : Fea t n s2) (h : ∀ a ∈ t.map Prod.fst, s1 a = s2 a) : cntN t n s1 s2 = 1 := by
  have W := cnt_eq (s1 := s1) o f2
  have a1 : Apr t s1 s2 = 1 := by
    unfold Apr
    have : (t.map fun x => fct (s2 x.1 - s1 x.1).natAbs) = t.map fun _ => 1 := List.map_congr_left fun x hx => by
      rw [h x.1 (List.mem_map.mpr ⟨x, hx, rfl⟩), Int.sub_self] <;> rfl
    rw [this, prd_ones]
  have a2 : Ppr t n s1 s2 = Rpr t n s2 := by
    unfold Ppr Rpr
    congr 1
    refine List.map_congr_left fun p hp => ?_
    unfold preC resid
    have e : ((kids t p).map fun c => min (s1 c) (s2 c)) = (kids t p).map s2 := List.map_congr_left fun k hk => by
      rw [h k (kids_sub hk)]
      omega
    rw [e]
    rcases List.mem_cons.mp hp with e | m
    · rw [if_pos e, if_pos e]
    · rw [h p m]
      congr 4
      omega
  rw [a1, a2, Nat.one_mul] at W
  exact Nat.eq_of_mul_eq_mul_right (Rpr_pos t n s2) (by rw [W, Nat.one_mul])
theorem flat_filter {α β : Type} (c : β → Bool) (F : α → List β) : ∀ l : List α, ((l.flatMap F).filter c).length = (l.map fun a => ((F a).filter c).length).sum
  | [] => rfl
  | a :: l => by rw [List.flatMap_cons, List.filter_append, List.length_append, List.map_cons, List.sum_cons, flat_filter c F l]
theorem best_cnt (o : TreeOk t) {ks : List Str} (pk : ks.Perm (plc t)) : ∀ (zs : List Str) (s : Str → Int), (∀ z ∈ zs, Pl t z) → Fea t (zs.length : Int) s → ((evN ks zs.length (resid t (zs.length : Int) s)).filter fun W => decide (dS t zs W = lS t s zs)).length = cntN t (zs.length : Int) (szL t zs) s
  | [], s, _, f => by
    have z : ∀ a ∈ t.map Prod.fst, s a = 0 := fun a ha => by
      have h1 := f.nn a ha
      have h2 := fea_le o f a ha
      have : ((([] : List Str).length : Nat) : Int) = 0 := rfl
      omega
    have e : lS t s [] = 0 := by
      unfold lS
      refine sum_map_zero fun a ha => ?_
      rw [z a ha]
      rfl
    rw [cnt_same o f fun a ha => (z a ha).symm ▸ rfl, e]
    rfl
  | p :: L, s, pl, f => by
    have pp := pl p (List.mem_cons_self ..)
    have plL : ∀ z ∈ L, Pl t z := fun y hy => pl y (List.mem_cons_of_mem _ hy)
    have f1 := fea_szL o (p :: L) pl
    have eN : (((p :: L).length : Nat) : Int) = (L.length : Int) + 1 := by rw [List.length_cons]; omega
    rw [eN] at f f1 ⊢
    have h1 : 1 ≤ resid t ((L.length : Int) + 1) (szL t (p :: L)) p := by
      rw [resid_szL o pp pp, if_pos rfl]
      have := (fea_szL o L plL).res p (pl_plc pp)
      omega
    rw [← cnt_rec o f1 f pp h1, List.length_cons]
    show ((ks.flatMap fun g => if 0 < resid t ((L.length : Int) + 1) s g then (evN ks L.length (lessF (resid t ((L.length : Int) + 1) s) g)).map (g :: ·) else []).filter _).length = _
    rw [flat_filter]
    have sp : ∀ {l m : List Nat}, l.Perm m → l.sum = m.sum := fun {l m} h => by
      induction h with
      | nil => rfl
      | cons x _ ih => rw [List.sum_cons, List.sum_cons, ih]
      | swap x y l => rw [List.sum_cons, List.sum_cons, List.sum_cons, List.sum_cons]; omega
      | trans _ _ a b => exact a.trans b
    rw [sp (pk.map _)]
    congr 1
    refine List.map_congr_left fun g hg => ?_
    have pg : Pl t g := List.mem_cons.mp hg
    obtain ⟨l1, l2⟩ := least_step (t := t) p g L s
    by_cases pos : 0 < resid t ((L.length : Int) + 1) s g
    · rw [if_pos pos, ev_less o pk _ pg, List.filter_map, List.length_map]
      have fl := fea_less o f pg pos
      have i := best_cnt o pk L (lessS t s g) plL fl
      have low := ev_low o pk L (lessS t s g) fl
      by_cases al : alB t (fun a => s a - szL t (p :: L) a) p g = true
      · rw [if_pos ⟨al, pos⟩, less_szL, ← i]
        congr 1
        refine List.filter_congr fun R hR => ?_
        have e := l2.mpr al
        show decide (distT t p g + dS t L R = lS t s (p :: L)) = decide (dS t L R = lS t (lessS t s g) L)
        congr 1
        refine propext ⟨fun w => by omega, fun w => by omega⟩
      · rw [if_neg fun w => al w.1]
        rw [List.length_eq_zero_iff, List.filter_eq_nil_iff]
        intro R hR w
        have w' : distT t p g + dS t L R = lS t s (p :: L) := of_decide_eq_true w
        have lo := low R hR
        exact al (l2.mp (by omega))
    · rw [if_neg pos, if_neg fun w => pos w.2]
      rfl
theorem cnt_pos (o : TreeOk t) {n : Int} {s1 s2 : Str → Int} (f2 : Fea t n s2) : 0 < cntN t n s1 s2 := by
  have W := cnt_eq (s1 := s1) o f2
  have : 0 < Ppr t n s1 s2 := prd_pos fun x h => by
    obtain ⟨q, _, rfl⟩ := List.mem_map.mp h
    exact fct_pos _
  rcases Nat.eq_zero_or_pos (cntN t n s1 s2) with e | h
  · rw [e, Nat.zero_mul] at W
    omega
  · exact h
theorem cnt_perm {u : List (Str × Str)} (p : t.Perm u) (o : TreeOk t) {n : Int} {s1 s2 : Str → Int} (f2 : Fea t n s2) : cntN t n s1 s2 = cntN u n s1 s2 := by
  have W := cnt_eq (s1 := s1) o f2
  have W' := cnt_eq (s1 := s1) (o.perm p) (f2.perm p)
  rw [Apr_perm p, Rpr_perm p, Ppr_perm p] at W
  rw [← W'] at W
  exact Nat.eq_of_mul_eq_mul_right (Nat.mul_pos (Apr_pos _ _ _) (Rpr_pos _ _ _)) W
end
end FT


namespace FT
open PySem L2 TL ClX LamX NdefX
/-- the name of the lambdas of a def -/
abbrev lamQ (x : Str) : Str := x ++ ".<locals>." ++ "<lambda>"
def keyP (t : List (Str × Str)) (a : Str) : Int × Str := (((pathOf t a).length : Int), a)
/-- a parent stands ahead of its children -/
theorem par_ahead {t : List (Str × Str)} (o : TreeOk t) {ys : List Str} (pm : ys.Perm (t.map Prod.fst)) (pw : ys.Pairwise (fun x y => SrtKy.isLt (keyP t y) (keyP t x) = false)) {j : Nat} {a pa : Str} (hj : ys[j]? = some a) (hp : par t a = some pa) : pa = "" ∨ pa ∈ ys.take j := by
  obtain ⟨rk, r⟩ := o.up
  have ma := pm.mem_iff.mp (List.mem_of_getElem? hj)
  obtain ⟨p', e', hpa, _⟩ := o.step r ma
  cases hp.symm.trans e'
  rcases hpa with z | ⟨mp, _⟩
  · exact .inl z
  · refine .inr ?_
    obtain ⟨i, hi⟩ := List.mem_iff_getElem?.mp (pm.mem_iff.mpr mp)
    have il := (List.getElem?_eq_some_iff.mp hi).1
    have jl := (List.getElem?_eq_some_iff.mp hj).1
    have st := congrArg List.length (path_step o ma hp)
    rw [List.length_append] at st
    have st' : (pathOf t a).length = (pathOf t pa).length + 1 := st
    have lt : SrtKy.isLt (keyP t pa) (keyP t a) = true := SrtKy.isLt_iff.mpr (.inl (by show ((pathOf t pa).length : Int) < ((pathOf t a).length : Int); omega))
    have ij : i < j := by
      refine Decidable.byContradiction fun n => ?_
      by_cases e : i = j
      · subst e
        rw [hi] at hj
        cases hj
        omega
      · have g := List.pairwise_iff_getElem.mp pw j i jl il (by omega)
        rw [(List.getElem?_eq_some_iff.mp hi).2, (List.getElem?_eq_some_iff.mp hj).2, lt] at g
        cases g
    rw [List.mem_take_iff_getElem]
    exact ⟨i, by omega, (List.getElem?_eq_some_iff.mp hi).2⟩
section
variable {P : Program} {w : World} {K : PySem.W.Frag} {mg : Str → Option Value} {base : Heap}
abbrev NSz : List Str := ["_law_draw", "_law_above", "_law_many", "_law_found", "_law_left", "_law_name", "_law_most", "_law_size"]
theorem scSz : FnScope NSz ["_law_draw", "_law_above", "_law_many"] (defScope s__law_sizes) := ⟨rfl, rfl, rfl, by decide +kernel, rfl, by decide +kernel, by decide +kernel⟩
theorem ok_sizes {f fT fP fO fH co ta : Addr} {T : List (Addr × Str)} {fd fdT fdP fdO fdH : FuncData} (F : FunC K "_law_sizes" "_law_sizes" s__law_sizes f fd co) (N : Nm mg) (DT : Dn P w K mg base CX0 1 "_law_take" ["_law_draw", "_law_size"] spDraw fT fdT) (DP : Dn P w K mg base CX0 2 "_law_pick" ["_law_draw", "_law_some"] (spPick K) fP fdP)
    (DO : Dn P w K mg base CX0 2 "_law_order" ["_law_draw", "_law_some"] (spOrder K) fO fdO) (DH : Dn P w K mg base CX0 1 "_law_path" ["_law_above", "_law_spot"] spPath fH fdH) (TB : TabB base mg co ta) (hmT : (ta, lamQ "_law_sizes") ∈ T) (hut : ∀ p ∈ T, p.1 = ta → p.2 = lamQ "_law_sizes") :
    FnOk P w K mg base CX0 5 f fd ["_law_draw", "_law_above", "_law_many"] (spSizes T) := by
  refine F.ok scSz (fun vs H Q E h => ?_) (fun A outer s H vs Q E hr h => ?_)
  · obtain ⟨d, c, q, n, t, rfl, _⟩ := h
    rfl
  · obtain ⟨d, c, q, n, t, rfl, dr, hq, o, n0, n1, tT, k⟩ := h
    have hu := hu_of hr
    have hr1 : Room 1 _ := hr.mono (by decide)
    have hr2 : Room 2 _ := hr.mono (by decide)
    have big : 1000 ≤ sizeLine := by decide
    have few := o.few
    refine ⟨_, pss_cons (ps_asg (pe_tup (pa_cons pe_dnewK (pa_cons (pe_disp (pps_cons pe_str (pv 2) pps_nil) (by rfl) (by rfl) (fun z => by cases z) (by decide)) pa_nil)))
        (pg_tup rfl (pgs_cons (pg_name (i := 3) scSz.nd rfl (.inr rfl)) (pgs_cons (pg_name (i := 4) scSz.nd rfl (.inl rfl)) pgs_nil))))
      (pss_cons (ps_for PassesOwn.never rfl (pi_list (pe_sortedLam (T := T) (N := ["_law_each", "_law_above"]) (fr := ["_law_above"]) (js := [1]) (each := "_law_each") (k := 1) rfl N.srt rfl (pa_cons (pv 1) pa_nil) TB rfl hmT hut rfl
          (capt_by (sc := defScope s__law_sizes) (by decide +kernel)) (by decide +kernel) rfl (nscope_by (by decide +kernel)) (fun _ _ _ _ _ _ => rfl) hr
          (tb := tTup (tCons (tCB (rLenS K) (tCons (tCall spPath [] E0 (tCons (tVar 1) (tCons (tVar 0) tNil))) tNil)) (tCons (tVar 0) tNil)))
          (fun A outer s H f c' hr2 => pe_tup (pa_cons (pe_callB call_len_seq (by rfl) N.len PySem.boot_len (pa_cons (pe_call DH.ok hr2 rfl DH.mgn DH.kp DH.bn .nil pass0 (pa_cons (pv 1) (pa_cons (pv 0) pa_nil))) pa_nil)) (pa_cons (pv 0) pa_nil))))) (pg_name (i := 5) scSz.nd rfl (.inl rfl))
        (pss_cons (ps_set (i := 6) scSz.nd rfl (.inl rfl) (pe_dget hu (pv 4) (pe_dget hu (pv 1) (pv 5) (fun _ _ => rfl)) (fun _ _ => rfl)))
        (pss_cons (ps_set (i := 7) scSz.nd rfl (.inl rfl) (pe_call DP.ok hr2 rfl DP.mgn DP.kp DP.bn .nil pass0 (pa_cons (pv 0) (pa_cons (pe_lst (pa_cons pe_int (pa_cons (pv 6) (pa_cons (pe_call DT.ok hr1 rfl DT.mgn DT.kp DT.bn .nil pass0 (pa_cons (pv 0) (pa_cons (pe_op op_add (pv 6) pe_int) pa_nil)))
          (pa_cons (pe_call DT.ok hr1 rfl DT.mgn DT.kp DT.bn .nil pass0 (pa_cons (pv 0) (pa_cons (pe_op op_add (pv 6) pe_int) pa_nil))) (pa_cons (pe_op op_fdiv (pv 6) pe_int) pa_nil)))))) pa_nil))))
        (pss_cons (ps_asg (pe_tup (pa_cons (pv 7) (pa_cons (pv 7) pa_nil))) (pg_tup rfl (pgs_cons (pg_sub (pv 3) (pv 5) (set_dict hu)) (pgs_cons (pg_sub (pv 4) (pv 5) (set_dict hu)) pgs_nil))))
        (pss_one (ps_dput hu (pv 4) (pe_dget hu (pv 1) (pv 5) (fun _ _ => rfl)) (pe_op op_sub (pv 6) (pv 7)) rfl))))))
      (pss_one (ps_ret (pe_callTy (call_dictP rfl) (by rfl) N.dct (by decide +kernel) (pa_cons (pe_lc (own := [("_law_name", 5)]) (g := gName 5) (tt := tYes) (te := tTup (tCons (tVar 5) (tCons (tDGet (tVar 3) (tVar 5)) tNil))) rfl scSz.nd (pi_list (pe_call DO.ok hr2 rfl DO.mgn DO.kp DO.bn .nil pass0 (pa_cons (pv 0) (pa_cons (pv 1) pa_nil))))
        (blkOk_by (N := NSz) (sc := defScope s__law_sizes) (by decide +kernel))
        (fun _ _ _ _ _ => pg_name (i := 5) scSz.nd rfl (Or.inl rfl)) (fun _ _ _ _ _ => pts_nil) (fun _ _ _ _ _ => pe_tup (pa_cons (pv 5) (pa_cons (pe_dget hu (pv 3) (pv 5) (fun _ _ => rfl)) pa_nil)))) pa_nil))))), ?_⟩
    -- the two tables
    refine fun qf nqf ql nql => ⟨_, rfl, upd_same, [(Sum.inr "", V.int n)], rfl, by show 1 ≤ 15; omega, ?_⟩
    refine ⟨by show 2 ≤ sizeLine; omega, fun tp ntp => ⟨tp, _, rfl, .inl (.inl upd_same), rfl, _, _, rfl, _, _, rfl, rfl, ?_⟩⟩
    have qfl : qf ≠ ql := ne_of_none upd_same nql
    obtain ⟨H3, e3⟩ : ∃ X, X = upd (upd (upd (upd H qf (.dK [])) ql (.dK [])) ql (.dK (mergeK [] [(Sum.inr "", V.int n)]))) tp (.tup [.ref qf, .ref ql]) := ⟨_, rfl⟩
    have nql0 : H ql = none := by rw [upd_ne qfl.symm] at nql; exact nql
    have s0l : Same H (upd (upd (upd H qf (.dK [])) ql (.dK [])) ql (.dK (mergeK [] [(Sum.inr "", V.int n)]))) := ((same_new nqf).put nql0).put nql0
    have s03 : Same H H3 := e3 ▸ s0l.trans (same_new ntp)
    have hf3 : H3 qf = some (.dK (tblI [] fun _ => 0)) := by
      rw [e3, upd_ne (ne_of_none (by rw [upd_ne qfl, upd_ne qfl, upd_same]) ntp), upd_ne qfl, upd_ne qfl, upd_same] <;> rfl
    have hl3 : H3 ql = some (.dK (tblI [""] (resid [] n fun _ => 0))) := by
      rw [e3, upd_ne (ne_of_none upd_same ntp), upd_same]
      show some (HO.dK [(Sum.inr "", V.int n)]) = some (HO.dK [(Sum.inr "", V.int (n - 0))])
      rw [Int.sub_zero]
    have dr3 := dr.mono s03
    have qfd := dr.apart nqf
    have qld := dr.apart nql0
    have qqf : q ≠ qf := ne_of_none hq nqf
    have qql : q ≠ ql := ne_of_none hq nql0
    rw [← e3]
    -- in the order of their paths
    refine ⟨_, rfl, .ref q, rfl, tT.ext s03, fun c' H4 x34 t4 hc4 => ⟨q, prs t, t.map Prod.fst, keyP t, rfl, .inl (x34 _ _ (s03 _ _ hq) (fun ps z => nomatch z)), prs_keys t, by rw [List.length_map]; omega, ?_, fun ys H5 p pm pw k45 np => ⟨p, rfl, ⟨_, SqL.of upd_same⟩, ?_⟩⟩⟩
    · intro a ha H' k'
      refine ⟨_, rfl, _, rfl, q, a, t, rfl, .inl (k' _ _ (x34 _ _ (s03 _ _ hq) (fun ps z => nomatch z))), o, .inr ha, fun p2 H2 s2 n2 a2 => ⟨p2, _, rfl, .inr (.inl (.inl a2)), _, rfl, by show 2 ≤ sizeLine; omega, fun t2 nt2 => ⟨fun b u e => ?_, t2, rfl, ?_⟩⟩⟩
      · rw [upd_ne (ne_of_none (s2 _ _ e) nt2)]
        exact s2 _ _ e
      · rw [upd_same]
        show some (HO.tup [V.int (((pathOf t a).map V.str).length : Int), V.str a]) = some (HO.tup [V.int ((pathOf t a).length : Int), V.str a])
        rw [List.length_map]
    obtain ⟨H6, e6⟩ : ∃ X, X = upd H5 p (.lst (ys.map V.str)) := ⟨_, rfl⟩
    have x36 : ExtN H3 H6 := x34.trans (ExtN.of fun b u e => by rw [e6, upd_ne (ne_of_none (k45 b u e) np)]; exact k45 b u e)
    have t6 : Tabs T H6 := t4.ext fun b u e => by rw [e6, upd_ne (ne_of_none (k45 b u e) np)]; exact k45 b u e
    have a6 : H6 p = some (.lst (ys.map V.str)) := by rw [e6]; exact upd_same
    have dr6 := dr3.ext x36
    have pd : p ≠ d ∧ p ≠ c := ((dr3.ext x34).mono k45).apart np
    have hq6 := x36 _ _ (s03 _ _ hq) (fun ps z => nomatch z)
    have hf6 := x36 _ _ hf3 (fun ps z => nomatch z)
    have hl6 := x36 _ _ hl3 (fun ps z => nomatch z)
    have kn6 : KeepN d c H H6 := (Keep.of_same s03).n.trans (KeepN.of_ext x36)
    rw [← e6]
    have qd : q ≠ d ∧ q ≠ c := by
      obtain ⟨nx, mx, ct, cells, z1, z2, _⟩ := dr
      exact ⟨ne_of hq z1 (by intro z; cases z), ne_of hq z2 (by intro z; cases z)⟩
    have ppf : p ≠ qf := ne_of a6 hf6 (by intro z; cases z)
    have ppl : p ≠ ql := ne_of a6 hl6 (by intro z; cases z)
    have ly := pm.length_eq
    rw [List.length_map] at ly
    have ndy : ys.Nodup := pm.nodup_iff.mpr o.nd
    -- the loop's state
    refine for_it walk_list (fun j σ' H' => (∃ u5 u6 u7, σ' = [some (.ref d), some (.ref q), some (.int n), some (.ref qf), some (.ref ql), u5, u6, u7]) ∧ DrawAt H' d c ∧ Tabs T H' ∧ KeepN d c H H' ∧ H' p = some (.lst (ys.map V.str)) ∧ H' q = some (.dK (prs t)) ∧
      ∃ (t' : List (Str × Str)) (sz : Str → Int), Dealt t n (ys.take j) t' sz ∧ H' qf = some (.dK (tblI (ys.take j) sz)) ∧ H' ql = some (.dK (tblI ("" :: ys.take j) (resid t' n sz))))
      ⟨⟨_, _, _, rfl⟩, dr6, t6, kn6, a6, hq6, [], (fun _ => 0), Dealt.nil n0, hf6, hl6⟩ (fun j σ' H' _ z => SqL.of z.2.2.2.2.1) ?_ ?_
    · intro j y σ' Ha Hb hj ⟨⟨u5, u6, u7, e⟩, da, ta', ka, apa, aqa, t', sz, dl, hfa, hla⟩ ⟨eb, ex⟩
      subst e
      subst eb
      obtain ⟨a, hja, rfl⟩ := map_of ex
      have ma : a ∈ t.map Prod.fst := pm.mem_iff.mp (List.mem_of_getElem? hja)
      have anr : a ≠ "" := fun z => o.root (by rw [← z]; exact ma)
      have fresh : a ∉ ys.take j := fresh_at ndy hja rfl
      have jl := (List.getElem?_eq_some_iff.mp hja).1
      obtain ⟨pa, hpa⟩ := par_some o.nd ma
      have mpa := par_ahead o pm pw hja hpa
      have mpl : pa ∈ (("" : Str) :: ys.take j) := List.mem_cons.mpr mpa
      obtain ⟨m, em⟩ : ∃ m, m = resid t' n sz pa := ⟨_, rfl⟩
      have m0 : 0 ≤ m := by rw [em]; exact dl.res pa mpl
      have mn : m ≤ 10 ^ 30 := by
        have := dl.top_ pa mpl
        omega
      have dgp : ∀ {H'}, H' q = some (.dK (prs t)) → DGet H' q (.str a) (some (.str pa)) := fun {H'} hq' => by
        have z := DGet.k (k := Sum.inr a) hq'
        rw [val_prs, hpa] at z
        exact z
      refine ⟨_, rfl, _, rfl, _, rfl, q, .str pa, rfl, dgp aqa, ql, .int m, rfl, ?_, ?_⟩
      · have z := DGet.k (k := Sum.inr pa) hla
        rw [tblI_val mpl, ← em] at z
        exact z
      have bnd : (m + 1).natAbs < 2 ^ 200 := by omega
      refine ⟨_, rfl, _, rfl, _, rfl, _, rfl, _, _, rfl, rfl, d, c, m + 1, rfl, da, by omega, bnd, fun k1 H7 k10 k11 d7 kp7 => ?_⟩
      refine ⟨_, rfl, _, rfl, _, _, rfl, rfl, d, c, m + 1, rfl, d7, by omega, bnd, fun k2 H8 k20 k21 d8 kp8 => ?_⟩
      refine ⟨_, rfl, _, _, rfl, rfl, ⟨by decide, by decide⟩, by show 5 ≤ sizeLine; omega, fun pl npl => ?_⟩
      have pld := d8.apart npl
      refine ⟨d, c, _, 5, (fun _ x => ∃ z, x = .int z ∧ 0 ≤ z ∧ z ≤ m), rfl, d8.off pld.1 pld.2, .inl ⟨pl, ([0, m, k1, k2, m / 2] : List Int).map V.int, rfl, pld.1, pld.2, upd_same, rfl, items_ints fun z hz => ?_⟩, by decide, by decide, fun i x H9 px d9 k9 => ?_⟩
      · simp only [List.mem_cons, List.not_mem_nil, or_false] at hz
        rcases hz with rfl | rfl | rfl | rfl | rfl <;> omega
      obtain ⟨z, rfl, z0, z1⟩ := px
      have kpa9 : Keep d c Hb H9 := ((kp7.trans kp8).trans (Keep.of_same (same_new npl))).trans k9
      have hf9 := kpa9 _ _ qfd.1 qfd.2 hfa
      have hl9 := kpa9 _ _ qld.1 qld.2 hla
      have hq9 := kpa9 _ _ qd.1 qd.2 aqa
      have hp9 := kpa9 _ _ pd.1 pd.2 apa
      have t9 : Tabs T H9 := tabs_keep ta' da kpa9
      have kn9 : KeepN d c H H9 := ka.trans kpa9.n
      obtain ⟨dl', req⟩ := dl.step fresh anr (par_mem hpa) mpa z0 (by rw [← em]; exact z1)
      refine ⟨_, rfl, _, rfl, by show 2 ≤ sizeLine; omega, fun t2 nt2 => ⟨t2, _, rfl, .inl (.inl upd_same), rfl, ?_⟩⟩
      obtain ⟨H10, e10⟩ : ∃ X, X = upd H9 t2 (.tup [.int z, .int z]) := ⟨_, rfl⟩
      have s10 : Same H9 H10 := e10 ▸ same_new nt2
      rw [← e10]
      refine ⟨_, _, rfl, _, rfl, _, rfl, qf, _, rfl, DPut.k (k := Sum.inr a) (s10 _ _ hf9) (by rw [tblI_len, List.length_take]; omega), ?_⟩
      rw [tblI_congr (g' := fun x => if x = a then z else sz x) (fun b hb => (if_neg fun e => fresh (by rw [← e]; exact hb)).symm), tblI_snoc (g := fun x => if x = a then z else sz x) fresh (if_pos rfl).symm, ← take_more hja]
      refine ⟨_, _, rfl, _, rfl, _, rfl, ql, _, rfl, DPut.k (k := Sum.inr a) (by rw [upd_ne qfl.symm]; exact s10 _ _ hl9) (by rw [tblI_len, List.length_cons, List.length_take]; omega), rfl, ?_⟩
      have lkeep : (ys.take j).length = j := by rw [List.length_take]; omega
      have nin : a ∉ (("" : Str) :: ys.take j) := fun h => (List.mem_cons.mp h).elim anr fresh
      obtain ⟨g, eg⟩ : ∃ g : Str → Int, g = fun p => if p = a then z else resid t' n sz p := ⟨_, rfl⟩
      rw [tblI_congr (l := "" :: ys.take j) (g' := g) (fun b hb => by rw [eg]; exact (if_neg fun e => nin (by rw [← e]; exact hb)).symm), tblI_snoc (g := g) nin (by rw [eg]; exact (if_pos rfl).symm), List.cons_append, ← take_more hja]
      obtain ⟨H11, e11⟩ : ∃ X, X = upd (upd H10 qf (.dK (tblI (ys.take (j + 1)) fun x => if x = a then z else sz x))) ql (.dK (tblI ("" :: ys.take (j + 1)) g)) := ⟨_, rfl⟩
      have hq11 : H11 q = some (.dK (prs t)) := by rw [e11, upd_ne qql, upd_ne qqf]; exact s10 _ _ hq9
      have hl11 : H11 ql = some (.dK (tblI ("" :: ys.take (j + 1)) g)) := by rw [e11]; exact upd_same
      have mpl' : pa ∈ (("" : Str) :: ys.take (j + 1)) := by rw [take_more hja]; exact (List.mem_cons.mp mpl).elim (fun e => e ▸ List.mem_cons_self ..) fun m => List.mem_cons_of_mem _ (List.mem_append_left _ m)
      rw [← e11]
      refine ⟨_, rfl, _, rfl, _, _, rfl, rfl, _, rfl, _, rfl, _, rfl, q, .str pa, rfl, dgp hq11, ql, _, rfl, DPut.k (k := Sum.inr pa) hl11 (by rw [tblI_len, List.length_cons, List.length_take]; omega), ?_⟩
      rw [tblI_put mpl']
      refine ⟨⟨_, _, _, rfl⟩, ?_, ?_, fun b u b1 b2 eb nt => ?_, ?_, ?_, t' ++ [(a, pa)], (fun x => if x = a then z else sz x), by rw [take_more hja]; exact dl', ?_, ?_⟩
      · rw [e11]
        exact (((d9.mono s10).off qfd.1 qfd.2).off qld.1 qld.2).off qld.1 qld.2
      · refine tabs_put (u := .dK (tblI ("" :: ys.take (j + 1)) g)) ?_ hl11 NTab.dK
        rw [e11]
        exact tabs_put (tabs_put (t9.ext s10) (s10 _ _ hf9) NTab.dK) (by rw [upd_ne qfl.symm]; exact s10 _ _ hl9) NTab.dK
      · have n1 : b ≠ qf := ne_of_none eb nqf
        have n2 : b ≠ ql := ne_of_none eb nql0
        rw [upd_ne n2, e11, upd_ne n2, upd_ne n1]
        exact s10 _ _ (kn9 b u b1 b2 eb nt)
      · rw [upd_ne ppl, e11, upd_ne ppl, upd_ne ppf]
        exact s10 _ _ hp9
      · rw [upd_ne qql]
        exact hq11
      · rw [upd_ne qfl, e11, upd_ne qfl, upd_same]
      · rw [upd_same]
        congr 2
        refine tblI_congr fun b hb => ?_
        rw [take_more hja] at hb
        rw [req b hb, eg, em]
    · intro σ' H7 ⟨⟨u5, u6, u7, e⟩, da, ta', ka, apa, aqa, t', sz, dl, hfa, hla⟩
      subst e
      rw [List.length_map, List.take_length] at dl hfa
      have fe : Fea t n sz := by
        have pt : t'.Perm t := perm_pairs o.nd (by rw [dl.keys]; exact pm) dl.sub
        exact Fea.perm pt ⟨fun a ha => dl.nn a (by rw [← dl.keys]; exact ha), fun p hp => dl.res p (by rw [← dl.keys]; exact hp)⟩
      refine ⟨_, rfl, _, rfl, d, c, q, t.map Prod.fst, rfl, da, .inr ⟨prs t, .inl aqa, prs_keys t⟩, by rw [List.length_map]; omega, fun z hz => strOk_name (o.nm z hz), fun r zs H8 pz nr er d8 k8 => ⟨r, rfl, ⟨_, SqL.of er⟩, fun D nD => ?_⟩⟩
      have hf8 := k8 _ _ qfd.1 qfd.2 hfa
      have lz := pz.length_eq
      rw [List.length_map] at lz
      refine lc_it walk_list (fun i H' => Same H8 H' ∧ ∃ rs : List Addr, H' D = some (.lst (rs.map V.ref)) ∧ PrG (fun a => .int (sz a)) H' rs (zs.take i)) ⟨same_new nD, [], upd_same, .nil⟩ (fun i H' _ z => SqL.of (z.1 _ _ er)) ?_ ?_
      · intro i y Ha Hb hi ⟨q1, rs, hD, pr⟩ ⟨eb, ex⟩
        subst eb
        obtain ⟨a, ha, rfl⟩ := map_of ex
        have ma : a ∈ ys := pm.mem_iff.mpr (pz.mem_iff.mp (List.mem_of_getElem? ha))
        have lr := pr.len
        rw [List.length_take] at lr
        refine ⟨rfl, ?_⟩
        refine ⟨_, rfl, _, rfl, _, rfl, qf, .int (sz a), rfl, ?_, by show 2 ≤ sizeLine; omega, fun tq ntq => ?_⟩
        · have z := DGet.k (k := Sum.inr a) (q1 _ _ hf8)
          rw [tblI_val ma] at z
          exact z
        · have sq : Same Hb (upd Hb tq (.tup [.str a, .int (sz a)])) := same_new ntq
          refine ⟨_, sq _ _ hD, by rw [List.length_map]; omega, (q1.trans sq).put nD, rs ++ [tq], by rw [upd_same, List.map_append] <;> rfl, ?_⟩
          rw [take_more ha]
          exact PrG.push (sq _ _ hD) (PrG.snoc upd_same (pr.mono sq))
      · intro H9 ⟨q1, rs, hD, pr⟩
        rw [List.length_map, List.take_length] at pr
        refine ⟨D, rs, _, rfl, SqL.of hD, pr.kvs, fun p np => ?_⟩
        have ndz : zs.Nodup := pz.nodup_iff.mpr o.nd
        rw [merge_nd (by rw [map_fst]; exact ndz)]
        have K9 : Keep d c H7 H9 := k8.trans (Keep.of_same q1)
        have d9 := d8.mono q1
        have pd := d9.apart np
        have t9 : Tabs T H9 := tabs_keep ta' da K9
        have np7 := K9.free np pd.1 pd.2
        have npH : ∀ b o, H b = some o → (∀ ps, o ≠ .tbl ps) → b ≠ p := fun b u e nt z => by
          subst z
          rw [ka b u pd.1 pd.2 e nt] at np7
          cases np7
        exact k p zs sz _ pz fe npH upd_same (d9.mono (same_new np)) (tabs_new t9 np) (ka.trans (K9.trans (Keep.of_same (same_new np))).n)
end
end FT


/-! Own: a lambda handed to a def that calls it in a try: what is raised is wished for at the caller's very slots (the library's rule asks it for all slots). -/
namespace L2
open PySem PySem.Spec PyProof.Rows LamX
section
variable {X : Cx} {pins : List (Addr × Obj)} {σ : St} {H : Hp} {s : Shared}
theorem pe_actS {CXg : CXT} {Eg : XK} {Ng : List Str} {qg : Str} {sg : Scope} {g f c' : Addr} {cdg pm ctv : Value} {params : Arguments} {body : Expr} {scope : Scope} {k i : Nat} {a : Str} {pn : List (Addr × Obj)} {xe : Value → Shared → Prop} {W : WX} {tb : XK → TE} {p1 p2 : Pos}
    (I : Inv X pins σ H s) (L : LamS X.env.scope scope) (here : s.heap.get? f = some (PySem.W.kla_obj "<lambda>" (X.env.qual ++ "<lambda>") params body scope (cloFrom X.env.cells scope.names []) pm c' ctv)) (fno : H f = none) (ffr : f ∉ frs X.stack)
    (bd : bindArgs (PySem.W.kla_fn "<lambda>" (X.env.qual ++ "<lambda>") params body scope (cloFrom X.env.cells scope.names []) pm (.ref c') ctv) ⟨[], []⟩ = pure []) (tk : Takes ((cxOf CXg X.prog X.w X.K X.mg X.base Ng qg sg g cdg X.A X.stack s H Eg).tr pn xe) W)
    (room : Room (k + 1) (X.A.deeper (envOfC qg sg s.heap.objs.size g cdg))) (walk : ∀ (A : Around) (outer : List Env) (s : Shared) (H : Hp) (E : XK), Room k (A.deeper (lamEnv X scope s.heap.objs.size f c')) → PE (lamCx X A outer s H E scope f c') body (tb E))
    (hN : Ng[i]? = some a) (hv : Vis sg a) (hd : (a == ("__debug__" : Str)) = false := by decide) (hcd : (a == ("__classdict__" : Str)) = false := by decide) :
    PE ((cxOf CXg X.prog X.w X.K X.mg X.base Ng qg sg g cdg X.A X.stack s H Eg).tr pn xe) (.Call (.Name a p1) [] [] p2)
      (fun τ HZ Q => ∃ (Ech : XK) (Qn : VK), (∀ cls d H', Ech cls d H' → W cls d τ H') ∧ (∀ v H', Qn v H' → Q v H') ∧ τ[i]? = some (some (.ref f)) ∧ HZ c' = some (CodeO c' (X.env.qual ++ "<lambda>")) ∧ tb Ech σ HZ Qn) := by
  constructor
  intro pz sz τ HZ Q IZ ⟨Ech, Qn, imp, impQ, slot, code, want⟩
  refine wpAny_Call_Name_kw (thn ((pe_var (pos := p1) (i := i) hN hv hd hcd).run pz sz τ HZ (fun v H1 => v = .ref f ∧ H1 = HZ) IZ ⟨.ref f, slot, rfl, rfl⟩) fun u s1 ⟨v, H1, I1, r1, ev, eH⟩ => ?_)
  subst ev
  subst eH
  cases (show u = Value.ref f from r1)
  have still : s1.heap.get? f = some (PySem.W.kla_obj "<lambda>" (X.env.qual ++ "<lambda>") params body scope (cloFrom X.env.cells scope.names []) pm c' ctv) := I1.base.keep f _ here fno ffr (by simp [cxOf, Cx.tr])
  have grown : Un (frs X.stack) [] H H1 s.heap s1.heap := I1.base
  obtain ⟨⟨oc, ws, t, e1, e2, e3⟩, _, _⟩ := I1.hok c' _ code
  refine PySem.W.callWith_F0 ⟨_, _, _, _, still⟩ (wpAny_call (codeAny_mono (R := CR (L2.CX X.prog X.w) (envOfC qg sg s.heap.objs.size g cdg :: X.stack) X.prog X.w H1 s1 Qn Ech) ?_ fun r s' z => ?_))
  · show codeAny _ _ (.call (.ref f) ⟨[], []⟩) _ s1
    refine PySem.W.kla_callFunE room.depth still rfl L.co L.gen rfl ⟨c', oc, ws, t, rfl, e1, e2, e3⟩ ?_
    rw [bd]
    refine wpAny_pure (wpAny_newFunctionEnv (fun y hy => (L.own y hy).2) (fun y hy => absurd hy (by simp)) (fun h₁ ns sb => ⟨I1.nolimit.fresh _ sb, ?_⟩) L.kind)
    have kp : ∀ b o, s1.heap.get? b = some o → h₁.get? b = some o := fun b o e => sb.extBut b o (Nat.ne_of_lt (Heap.lt_size e)) (Heap.get?_push_of_some _ e)
    have J : Inv (lamCx X (X.A.deeper (envOfC qg sg s.heap.objs.size g cdg)) (envOfC qg sg s.heap.objs.size g cdg :: X.stack) s1 H1 Ech scope f c') [] σ H1 { s1 with heap := h₁, toks := s1.toks + ([] : List (Str × Value)).length } := lam_start2 I L I1.env0 room.hd grown ns kp
    exact PySem.W.kla_codeExpr (wpAny_mono ((walk _ _ s1 H1 _ (room.deeper _)).run [] _ _ H1 Qn J want) (fun v s' ⟨w, H', J', rv, q⟩ => ⟨w, H', J'.os, J'.bare, J'.base, J'.hok, rv, q⟩) fun _ _ z => z)
  · match r, z with
    | .error e, z => exact tk e s' (XE.of_call I1 (fun cls d H' h => imp cls d H' h) z)
    | .ok (.ret u), z =>
      obtain ⟨v, H2, J2, rv, q⟩ := I1.after z
      exact ⟨v, H2, J2, rv, impQ v H2 q⟩
    | .ok .next, z => exact z.elim
    | .ok .brk, z => exact z.elim
    | .ok .cont, z => exact z.elim
end
/-- the def that calls what it got, in its slot 0 -/
def GivesS (X : Cx) (Ng : List Str) (x : Str) (sg : Scope) (g : Addr) (cdg : Value) (bg : List Stmt) (a : Str) (q : Str) (TT : (XK → Hp → VK → Prop) → Hp → VK → Prop) : Prop :=
  ∀ (f c' : Addr) (s : Shared) (H : Hp) (Q : VK) (tl : XK → Hp → VK → Prop),
    (∀ (W : WX) (pn : List (Addr × Obj)) (xe : Value → Shared → Prop) (p1 p2 : Pos), Takes ((cxOf C8.CX0 X.prog X.w X.K X.mg X.base Ng x sg g cdg X.A X.stack s H C8.E0).tr pn xe) W →
      PE ((cxOf C8.CX0 X.prog X.w X.K X.mg X.base Ng x sg g cdg X.A X.stack s H C8.E0).tr pn xe) (.Call (.Name a p1) [] [] p2) (fun τ HZ Q => ∃ (Ech : XK) (Qn : VK), (∀ cls d H', Ech cls d H' → W cls d τ H') ∧ (∀ v H', Qn v H' → Q v H') ∧ τ[0]? = some (some (.ref f)) ∧ HZ c' = some (CodeO c' q) ∧ tl Ech HZ Qn)) →
    H c' = some (CodeO c' q) → TT tl H Q → ∃ t, PSs (cxOf C8.CX0 X.prog X.w X.K X.mg X.base Ng x sg g cdg X.A X.stack s H C8.E0).nox bg t ∧ t { nx := fun _ H' => Q .non H', rt := Q } (L2.start Ng [.ref f]) H
/-- x(lambda: body), x such a def -/
theorem pe_lamS {X : Cx} {T : List (Addr × Str)} {TT : (XK → Hp → VK → Prop) → Hp → VK → Prop} {x a : Str} {g c P : Addr} {k : Nat} {st : Stmt} {fd : FuncData} {Ng : List Str} {params : Arguments} {body : Expr} {scope : Scope} {t : XK → TE} {p lpos pos : Pos} (hg : Gl X x) (hm : X.mg x = some (.ref g))
    (F : Fun X.K x x st g fd) (hb : Binds X.K fd [a] []) (Sg : FnScope Ng [a] (defScope st)) (hNg : Ng[0]? = some a) (hva : Vis (defScope st) a) (gives : ∀ cdg, GivesS X Ng x (defScope st) g cdg (defBody st) a (X.env.qual ++ "<lambda>") TT)
    (TB : TabB X.base X.mg c P) (code : X.env.code = .ref c) (mT : (P, X.env.qual ++ "<lambda>") ∈ T) (uT : ∀ p ∈ T, p.1 = P → p.2 = X.env.qual ++ "<lambda>") (room : Room (k + 2) X.A) (L : LamS X.env.scope scope) (dfl : defaultsOf params X.env = ([], []))
    (bd : ∀ (q : Str) (cl : List (Str × Addr)) (pm cv ctv : Value), bindArgs (PySem.W.kla_fn "<lambda>" q params body scope cl pm cv ctv) ⟨[], []⟩ = pure [])
    (walk : ∀ (A : Around) (outer : List Env) (s : Shared) (H : Hp) (E : XK) (f c' : Addr), Room k (A.deeper (lamEnv X scope s.heap.objs.size f c')) → PE (lamCx X A outer s H E scope f c') body (t E))
    (hdb : (x == ("__debug__" : Str)) = false := by decide) (hd : (a == ("__debug__" : Str)) = false := by decide) (hcd : (a == ("__classdict__" : Str)) = false := by decide) : PE X (.Call (.Name x p) [.Lambda params body scope lpos] [] pos) (tLam T TT t) := by
  constructor
  intro pins s σ H Q I ⟨hT, want⟩
  refine wpAny_Call_Name_kw (ld_glob I hg hm ?_ hdb)
  refine PySem.W.callWith_K (h₀ := X.base) I.ok.mod.kin F.kp (pos := pos) ?_ (by rfl) (by rfl)
  show wpAny _ _ (spliced ((false, eval (.Lambda params body scope lpos) X.env) :: backTo pos (starEach [] X.env))) _ _ s
  refine Calls.spliced_cons (lam_make2 I TB code mT uT hT dfl (L.has I.ok) fun f c' pm' ctv H1 s' I1 eN T1 of fn fr co => Calls.spliced_nil ⟨I1.kIn, wpAny_call (codeAny_mono (R := CR C8.CX0 X.stack X.prog X.w H1 s' Q C8.E0) ?_ fun r s2 z => ?_)⟩)
  · obtain ⟨oc, od, kV, doc, pm, an, cdv, ct, osl, rfl, lk, cin⟩ := F.ex
    refine run_ofS (N := Ng) (ps := [a]) (us := [.ref f]) (vs := [.ref f]) lk cin Sg room I1.env0 (hb s' [.ref f] I1.kIn rfl) (.cons rfl .nil) rfl fun room' => ?_
    obtain ⟨t', term, q⟩ := gives cdv f c' s' H1 Q (fun E H' Q' => t E σ H' Q') (fun W pn xe p1 p2 tk => pe_actS (i := 0) I1 L of fn fr (bd _ _ _ _ _) tk room' (fun A outer s H E hr2 => walk A outer s H E f c' hr2) hNg hva hd hcd) co (want H1 eN T1)
    exact ⟨t', term.nox, q⟩
  · match r, z with
    | .error e, z => exact (show False from z).elim
    | .ok (.ret u), z => exact I1.after z
    | .ok .next, z => exact z.elim
    | .ok .brk, z => exact z.elim
    | .ok .cont, z => exact z.elim
end L2


/-! _law_error: what it makes of a lambda -/
namespace FT
open PySem L2 TL ClX LamX NdefX
/-- an error that is caught: one of the classes C i, with its word -/
def TError (C : Nat → Addr) (wd : Nat → Str) (n : Nat) : (XK → Hp → VK → Prop) → Hp → VK → Prop := fun tl H Q =>
  tl (fun cls d H' => ∃ i, i < n ∧ cls = .ref (C i) ∧ (d = none ∨ ∃ dd fs, d = some dd ∧ H' dd = some (.xd fs)) ∧ ∀ H'', Same H' H'' → Q (.str (wd i)) H'') H fun _ H' => ∀ H'', Same H' H'' → Q .non H''
/-- the five classes of _law_error -/
def cn5 (i : Nat) : Str := (["InvalidUsers", "InvalidSizes", "Mismatch", "InvalidNumber", "NotBest"] : List Str).getD i ""
def wd5 (i : Nat) : Str := (["users", "sizes", "mismatch", "number", "notbest"] : List Str).getD i ""
structure Cl5 (K : PySem.W.Frag) (mg : Str → Option Value) (R : Addr) (C : Nat → Addr) : Prop where
  gR : mg "RolloutError" = some (.ref R)
  g : ∀ i, i < 5 → mg (cn5 i) = some (.ref (C i))
  x : ∀ i, i < 5 → XCls K (C i)
  kit : ∀ i j, i < 5 → j < 5 → PySem.W.kitOne K (.ref (C i)) (.ref (C j)) = some (decide (i = j))
  kitV : ∀ i, i < 5 → PySem.W.kitOne K (.ref (C i)) (.type "ValueError") = some true
  te : ∀ i, i < 5 → PySem.W.exmOne K (.ref (C i)) (.ref R) = some true
theorem XV_mono {H H' : Hp} {a C : Addr} {fs : List (Str × V)} (s : Same H H') (x : XV H a C fs) : XV H' a C fs := by
  rcases x with ⟨x, e⟩ | ⟨dx, x, y⟩
  · exact .inl ⟨x.elim (fun q => .inl (s _ _ q)) (fun q => .inr (s _ _ q)), e⟩
  · exact .inr ⟨dx, x.elim (fun q => .inl (s _ _ q)) (fun q => .inr (s _ _ q)), y.elim (fun q => .inl (s _ _ q)) (fun q => .inr (s _ _ q))⟩
def marks5 (i : Nat) : List V := (List.range 5).map fun j => .bl (decide (i = j))
theorem upTo5 {Pr : Nat → Prop} (h0 : Pr 0) (h1 : Pr 1) (h2 : Pr 2) (h3 : Pr 3) (h4 : Pr 4) : ∀ i, i < 5 → Pr i := by
  intro i hi
  match i, hi with
  | 0, _ => exact h0
  | 1, _ => exact h1
  | 2, _ => exact h2
  | 3, _ => exact h3
  | 4, _ => exact h4
theorem marks_flat (i : Nat) : (marks5 i).all flatV = true := rfl
theorem marks_count : ∀ i, i < 5 → (marks5 i).countP (fun z => eqV z (.bl true)) = 1 := upTo5 rfl rfl rfl rfl rfl
theorem marks_at : ∀ i, i < 5 → (marks5 i)[i]? = some (.bl true) ∧ ∀ (m : Nat) (z' : V), m < i → (marks5 i)[m]? = some z' → eqV z' (.bl true) = false := fun i hi => by
  have e : ∀ m, m < 5 → (marks5 i)[m]? = some (.bl (decide (i = m))) := upTo5 rfl rfl rfl rfl rfl
  refine ⟨by rw [e i hi, decide_eq_true rfl], fun m z' lt h => ?_⟩
  rw [e m (by omega), decide_eq_false (by omega)] at h
  cases h
  rfl
theorem words_at : ∀ i, i < 5 → ([V.str "users", .str "sizes", .str "mismatch", .str "number", .str "notbest"] : List V)[i]? = some (.str (wd5 i)) := upTo5 rfl rfl rfl rfl rfl
/-- [..] + [..]: the second list new -/
theorem cat_seg {H : Hp} {l : Addr} {xs ys : List V} {Q : VK} (hl : H l = some (.lst xs)) (few : xs.length + ys.length ≤ 1000) (k : ∀ p H', Same H H' → H p = none → H' p = some (.lst (xs ++ ys)) → Q (.ref p) H') :
    ys.length ≤ sizeLine ∧ ∀ q, H q = none → rCat (.ref l) (.ref q) (upd H q (.lst ys)) Q := by
  have big : 1000 ≤ sizeLine := by decide
  refine ⟨by omega, fun q nq => ⟨l, q, xs, ys, rfl, rfl, by rw [upd_ne (ne_of_none hl nq)]; exact hl, upd_same, by omega, fun p np => ?_⟩⟩
  have s1 := same_new (o := .lst ys) nq
  exact k p _ (s1.trans (same_new np)) (s1.free np) upd_same
abbrev NEr : List Str := ["_law_work", "_law_error_here", "e", "_law_marks"]
theorem scEr : FnScope NEr ["_law_work"] (defScope s__law_error) := ⟨rfl, rfl, rfl, by decide +kernel, rfl, by decide +kernel, by decide +kernel⟩
theorem isi_rd {K : PySem.W.Frag} {σ : St} {H : Hp} {a Ci D : Addr} {fs : List (Str × V)} {b : Bool} {Q : VK} (h0 : σ[1]? = some (some (.ref a))) (X : XCls K Ci) (xv : XV H a Ci fs) (kit : PySem.W.kitOne K (.ref Ci) (.ref D) = some b) (q : Q (.bl b) H) :
    tCB (rIsX K) (tCons (tVar 1) (tCons (tC (.ref D)) tNil)) σ H Q := ⟨_, h0, a, Ci, fs, .ref D, _, b, rfl, .own _, X, xv, kit, q⟩
theorem error_gives {X : Cx} {g R : Addr} {C : Nat → Addr} {cdg : Value} {q : Str} (N : Nm X.mg) (L : Cl5 X.K X.mg R C) : GivesS X NEr "_law_error" (defScope s__law_error) g cdg (defBody s__law_error) "_law_work" q (TError C wd5 5) := by
  intro f c' s H Q tl act hc h
  refine ⟨_, pss_cons (ps_set (i := 1) scEr.nd rfl (.inl rfl) pe_non)
    (pss_cons (ps_try_keep (X := (cxOf C8.CX0 X.prog X.w X.K X.mg X.base NEr "_law_error" (defScope s__law_error) g cdg X.A X.stack s H C8.E0).nox) (c := .ref R) (i := 2)
      rfl rfl rfl scEr.nd rfl rfl ⟨rfl, by decide, .inl L.gR⟩ LamX.takes0 (fun W pn xe tk _ => pss_one (ps_expr (act W pn xe _ _ tk))) (fun a oe cls d pn hz hf => pss_one (ps_set (i := 1) scEr.nd rfl (.inl rfl) (pv 2))))
    (pss_cons (ps_if (pt_cmpR op_isN (pv 1) pe_non (nomark _)) (pss_one (ps_ret pe_non)) pss_nil)
    (pss_cons (ps_set (i := 3) scEr.nd rfl (.inl rfl) (pe_lst (pa_cons (pe_callB call_isX (by rfl) N.isi (by decide +kernel) (pa_cons (pv 1) (pa_cons (pe_glob (v := .ref (C 0)) rfl (L.g 0 (by decide)) rfl) pa_nil))) (pa_cons (pe_callB call_isX (by rfl) N.isi (by decide +kernel) (pa_cons (pv 1) (pa_cons (pe_glob (v := .ref (C 1)) rfl (L.g 1 (by decide)) rfl) pa_nil)))
      (pa_cons (pe_callB call_isX (by rfl) N.isi (by decide +kernel) (pa_cons (pv 1) (pa_cons (pe_glob (v := .ref (C 2)) rfl (L.g 2 (by decide)) rfl) pa_nil))) pa_nil)))))
    (pss_cons (ps_set (i := 3) scEr.nd rfl (.inl rfl) (pe_op op_cat (pv 3) (pe_lst (pa_cons (pe_callB call_isX (by rfl) N.isi (by decide +kernel) (pa_cons (pv 1) (pa_cons (pe_glob (v := .ref (C 3)) rfl (L.g 3 (by decide)) rfl) pa_nil))) (pa_cons (pe_callB call_isX (by rfl) N.isi (by decide +kernel) (pa_cons (pv 1) (pa_cons (pe_glob (v := .ref (C 4)) rfl (L.g 4 (by decide)) rfl) pa_nil))) pa_nil)))))
    (pss_cons (ps_if (PW.pt (pw_or (pt_cmpR op_ne (pe_bm PySem.F.plainAttrs_list PySem.F.slot_list_count PySem.F.type_list_count mt_countF (pv 3) (pa_cons pe_bl pa_nil)) pe_int (nomark _)) (pw_or1 (pt_not (pt_val (pe_callB call_isX (by rfl) N.isi (by decide +kernel) (pa_cons (pv 1) (pa_cons (pe_bltn (v := .ty "ValueError") (u := .type "ValueError") (by rfl) N.vE (by decide +kernel) rfl) pa_nil)))))))) (pss_one (ps_ret pe_str)) pss_nil)
    (pss_one (ps_ret (pe_ix ix_list (pe_lst (pa_cons pe_str (pa_cons pe_str (pa_cons pe_str (pa_cons pe_str (pa_cons pe_str pa_nil)))))) (pe_bm PySem.F.plainAttrs_list PySem.F.slot_list_index PySem.F.type_list_index mt_index (pv 3) (pa_cons pe_bl pa_nil)) (fun _ _ => rfl))))))))), ?_⟩
  refine ⟨_, _, fun cls d H' z => ?_, fun v H' z => ?_, rfl, hc, h⟩
  · obtain ⟨i, hi, rfl, hd, k⟩ := z
    refine ⟨true, C i, rfl, L.te i hi, fun _ a ha => ⟨_, rfl, ?_⟩, fun z => nomatch z⟩
    obtain ⟨H2, e2⟩ : ∃ X, X = upd H' a (exg a (C i) d) := ⟨_, rfl⟩
    have s2 : Same H' H2 := e2 ▸ same_new ha
    have big : 1000 ≤ sizeLine := by decide
    obtain ⟨fs, xv⟩ : ∃ fs, XV H2 a (C i) fs := by
      rcases hd with rfl | ⟨dd, fs, rfl, hdd⟩
      · exact ⟨[], .inl ⟨.inr (by rw [e2]; exact upd_same), rfl⟩⟩
      · exact ⟨fs, .inr ⟨dd, .inr (by rw [e2]; exact upd_same), .inr (s2 _ _ hdd)⟩⟩
    subst e2
    have Xi := L.x i hi
    refine ⟨_, rfl, rfl, _, rfl, iteF ?_⟩
    refine isi_rd rfl Xi xv (L.kit i 0 hi (by decide)) (isi_rd rfl Xi xv (L.kit i 1 hi (by decide)) (isi_rd rfl Xi xv (L.kit i 2 hi (by decide)) ⟨by show 3 ≤ sizeLine; omega, fun p0 n0 => ?_⟩))
    have s3 := same_new (o := .lst ([.bl (decide (i = 0)), .bl (decide (i = 1)), .bl (decide (i = 2))] : List V)) n0
    have a3 := upd_same (H := upd H' a (exg a (C i) d)) (a := p0) (o := .lst ([.bl (decide (i = 0)), .bl (decide (i = 1)), .bl (decide (i = 2))] : List V))
    have xv3 := XV_mono s3 xv
    refine ⟨_, rfl, isi_rd rfl Xi xv3 (L.kit i 3 hi (by decide)) (isi_rd rfl Xi xv3 (L.kit i 4 hi (by decide)) (cat_seg a3 (by show 3 + 2 ≤ 1000; omega) fun p1 H4 s4 n1 a4 => ?_))⟩
    have a4' : H4 p1 = some (.lst (marks5 i)) := a4
    have xv4 := XV_mono s4 xv3
    refine ⟨_, rfl, .inl ⟨rfl, _, SqL.of a4'⟩, p1, marks5 i, .bl true, rfl, rfl, SqL.of a4', rfl, marks_flat i, rfl, _, rfl, ?_⟩
    rw [marks_count i hi]
    refine iteF ?_
    refine ⟨_, rfl, a, C i, fs, .ty "ValueError", .type "ValueError", true, rfl, .ty _, Xi, xv4, L.kitV i hi, true, rfl, iteF ?_⟩
    refine ⟨by show 5 ≤ sizeLine; omega, fun pl npl => ?_⟩
    have s5 : Same H4 (upd H4 pl (.lst [.str "users", .str "sizes", .str "mismatch", .str "number", .str "notbest"])) := same_new npl
    obtain ⟨m1, m2⟩ := marks_at i hi
    refine ⟨_, rfl, .inl ⟨rfl, _, SqL.of (s5 _ _ a4')⟩, p1, marks5 i, .bl true, i, .bl true, rfl, rfl, SqL.of (s5 _ _ a4'), rfl, marks_flat i, m1, rfl, m2, ?_⟩
    exact ⟨pl, _, _, .str (wd5 i), rfl, rfl, SqL.of upd_same, atI_nat (words_at i hi), k _ (((s2.trans s3).trans s4).trans s5)⟩
  · exact ⟨_, rfl, rfl, _, rfl, iteT (z H' Same.refl)⟩
end FT


/-! _law_place: what it makes of a lambda -/
namespace FT
open PySem L2 TL ClX LamX NdefX
/-- _law_place(work) -/
def TPlace (CS : Addr) : (XK → Hp → VK → Prop) → Hp → VK → Prop := fun tl H Q =>
  tl (fun cls d H' => cls = .ref CS ∧ ∃ (dd : Addr) (v : V), d = some dd ∧ H' dd = some (.xd [("place", v)]) ∧ Q v H') H fun _ H' => Q (.str "none") H'
abbrev NPl : List Str := ["_law_work", "_law_found", "e"]
theorem scPl : FnScope NPl ["_law_work"] (defScope s__law_place) := ⟨rfl, rfl, rfl, by decide +kernel, rfl, by decide +kernel, by decide +kernel⟩
theorem place_gives {X : Cx} {g CS IS : Addr} {cdg : Value} {q : Str} (S : Er X.K X.mg "InvalidSizes" "place" CS IS) (te : PySem.W.exmOne X.K (.ref CS) (.ref CS) = some true) :
    GivesS X NPl "_law_place" (defScope s__law_place) g cdg (defBody s__law_place) "_law_work" q (TPlace CS) := by
  intro f c' s H Q tl act hc h
  refine ⟨_, pss_cons (ps_set (i := 1) scPl.nd rfl (.inl rfl) pe_str)
    (pss_cons (ps_try_as (X := (cxOf C8.CX0 X.prog X.w X.K X.mg X.base NPl "_law_place" (defScope s__law_place) g cdg X.A X.stack s H C8.E0).nox) (c := .ref CS) (i := 2)
      rfl rfl scPl.nd rfl rfl ⟨rfl, by decide, .inl S.g⟩ LamX.takes0 (fun W pn xe tk _ => pss_one (ps_expr (act W pn xe _ _ tk))) (fun a oe cls d pn hz hf => pss_one (ps_set (i := 1) scPl.nd rfl (.inl rfl) (pe_xf S.xf S.no hz hf (pv 2)))))
    (pss_one (ps_ret (pv 1)))), ?_⟩
  refine ⟨_, _, fun cls d H' z => ?_, fun v H' z => ?_, rfl, hc, h⟩
  · obtain ⟨rfl, dd, v, rfl, hd, qv⟩ := z
    exact ⟨true, te, fun _ a ha => ⟨_, rfl, rfl, rfl, dd, _, v, rfl, hd, by simp [List.lookup], _, rfl, qv⟩, fun z => nomatch z⟩
  · exact ⟨_, rfl, z⟩
end FT


namespace FT
open PySem L2 TL ClX LamX NdefX LiI
/-! ### repr of a name -/
theorem repr_small {z : Str} (h : NameL z ∨ z = "") : (reprText z).length ≤ sizeLine := by
  have big : 1000 ≤ sizeLine := by decide
  rcases h with h | rfl
  · have one : ∀ c : Nat, 97 ≤ c → c ≤ 122 → ∀ q : Nat, q = 34 ∨ q = 39 → (Builtin.Str.reprChar q c).length ≤ 1 := fun c h0 h1 q hq => by
      have all : ∀ i : Fin 26, (Builtin.Str.reprChar 34 (97 + i.1)).length ≤ 1 ∧ (Builtin.Str.reprChar 39 (97 + i.1)).length ≤ 1 := by decide +kernel
      obtain ⟨a, b⟩ := all ⟨c - 97, by omega⟩
      have e : 97 + (⟨c - 97, by omega⟩ : Fin 26).1 = c := by show 97 + (c - 97) = c; omega
      rw [e] at a b
      rcases hq with rfl | rfl
      · exact a
      · exact b
    have q2 : reprQuote z = 34 ∨ reprQuote z = 39 := by
      unfold reprQuote
      split
      · exact .inl rfl
      · exact .inr rfl
    rw [← reprLen_eq, ← Array.foldl_toList]
    have fold : ∀ (l : List Nat) (n : Nat), (∀ c ∈ l, 97 ≤ c ∧ c ≤ 122) → l.foldl (fun n c => n + (Builtin.Str.reprChar (reprQuote z) c).length) n ≤ n + l.length := by
      intro l
      induction l with
      | nil => intro n _; exact Nat.le_refl _
      | cons c l ih =>
        intro n hl
        have hc := hl c (List.mem_cons_self ..)
        have o := one c hc.1 hc.2 _ q2
        have i := ih (n + (Builtin.Str.reprChar (reprQuote z) c).length) fun x hx => hl x (List.mem_cons_of_mem _ hx)
        show List.foldl _ (n + (Builtin.Str.reprChar (reprQuote z) c).length) l ≤ _
        rw [List.length_cons]
        omega
    have f := fold z.cps.toList 2 h.1
    have l8 := h.2.2.1
    have e : z.cps.toList.length = (tl z).length := rfl
    omega
  · decide +kernel
/-! ### the same dict the other way about -/
theorem paired_snoc {α β : Type} {F : α → β → Prop} {x : α} {y : β} (h : F x y) : ∀ {xs : List α} {ys : List β}, Paired F xs ys → Paired F (xs ++ [x]) (ys ++ [y])
  | _, _, .nil => .cons h .nil
  | _, _, .cons q t => .cons q (paired_snoc h t)
theorem paired_imp {α β : Type} {F G : α → β → Prop} (m : ∀ x y, F x y → G x y) : ∀ {xs : List α} {ys : List β}, Paired F xs ys → Paired G xs ys
  | _, _, .nil => .nil
  | _, _, .cons h t => .cons (m _ _ h) (paired_imp m t)
theorem paired_rev {α β : Type} {F : α → β → Prop} : ∀ {xs : List α} {ys : List β}, Paired F xs ys → Paired F xs.reverse ys.reverse
  | _, _, .nil => .nil
  | _, _, .cons h t => by
    rw [List.reverse_cons, List.reverse_cons]
    exact paired_snoc h (paired_rev t)
theorem tblI_rev (l : List Str) (g : Str → Int) : (tblI l g).reverse = tblI l.reverse g := by
  unfold tblI kvT
  rw [← List.map_reverse, ← List.map_reverse]
theorem merge_tbl {l : List Str} {g : Str → Int} (nd : l.Nodup) : mergeK [] (tblI l g) = tblI l g := merge_nd (by rw [tblI_fst]; exact nd)
def spTurned : Sp := fun vs H Q _ => ∃ (q : Addr) (l : List Str) (g : Str → Int), vs = [.ref q] ∧ H q = some (.dK (tblI l g)) ∧ l.Nodup ∧ ∀ p H', Same H H' → H p = none → H' p = some (.dK (tblI l.reverse g)) → Q (.ref p) H'
section
variable {P : Program} {w : World} {K : PySem.W.Frag} {mg : Str → Option Value} {base : Heap}
theorem scTurned : FnScope ["_law_some"] ["_law_some"] (defScope s__law_turned) := ⟨rfl, rfl, rfl, by decide +kernel, rfl, by decide +kernel, by decide +kernel⟩
theorem ok_turned {f : Addr} {fd : FuncData} (F : Fun K "_law_turned" "_law_turned" s__law_turned f fd) (T : Nm mg) : FnOk P w K mg base CX0 1 f fd ["_law_some"] spTurned := by
  refine F.ok scTurned (fun vs H Q E h => ?_) (fun cdv A outer s H vs Q E hr h => ?_)
  · obtain ⟨q, l, g, rfl, _⟩ := h
    rfl
  · obtain ⟨q, l, g, rfl, hq, nd, k⟩ := h
    refine ⟨_, pss_one (ps_ret (pe_callTy (call_dictP rfl) (by rfl) T.dct (by decide +kernel) (pa_cons (pe_revL (pe_listItems rfl (pv 0) (by rfl) T.lst (by decide +kernel))) pa_nil))), ?_⟩
    refine ⟨_, rfl, q, tblI l g, rfl, hq, fun H1 p ts same np nts pnts ap pr => ⟨p, _, rfl, SqL.of ap, fun p2 n2 => ⟨p2, ts.reverse, (tblI l g).reverse, rfl, SqL.of (by rw [upd_same, List.map_reverse]), ?_, fun p3 n3 => ?_⟩⟩⟩
    · refine paired_rev ?_
      have s2 : Same H1 (upd H1 p2 (.lst (ts.map V.ref).reverse)) := same_new n2
      exact paired_imp (fun x y h => .inl (.inl (s2 _ _ h))) pr
    · rw [tblI_rev, merge_tbl ((List.reverse_perm l).nodup_iff.mpr nd)]
      have s : Same H (upd (upd H1 p2 (.lst (ts.map V.ref).reverse)) p3 (.dK (tblI l.reverse g))) := (Same.trans same (same_new n2)).trans (same_new n3)
      exact k p3 _ s (Same.free (Same.trans same (same_new n2)) n3) upd_same
end
/-! ### sizes that are refused -/
theorem feas_len {ts : List (Str × Str)} {n : Int} {kvs : List (Key × V)} (h : kvs.length ≠ ts.length) : feas ts n (some kvs) = some .non := by rw [feas_some, if_pos h]
/-- one size that is none -/
theorem feas_bad {ts : List (Str × Str)} {n : Int} {l : List Str} {sz : Str → Int} {a : Str} {v : V} (p : l.Perm (ts.map Prod.fst)) (nn : ∀ b ∈ ts.map Prod.fst, 0 ≤ sz b) (ma : a ∈ ts.map Prod.fst) (hv : isGe v 0 = false) :
    feas ts n (some (kvT (putT (l.map fun b => (b, V.int (sz b))) a v))) = some (.str a) := by
  have kl : (l.map fun b => (b, V.int (sz b))).map Prod.fst = l := by rw [List.map_map]; exact List.map_id _
  have al : a ∈ (l.map fun b => (b, V.int (sz b))).map Prod.fst := by rw [kl]; exact p.mem_iff.mpr ma
  have len : (kvT (putT (l.map fun b => (b, V.int (sz b))) a v)).length = ts.length := by
    rw [kvT_len]
    have e := congrArg List.length (putT_keys (z := v) al)
    rw [kl, List.length_map] at e
    rw [e, p.length_eq, List.length_map]
  have val : ∀ b ∈ ts.map Prod.fst, valV (kvT (putT (l.map fun b => (b, V.int (sz b))) a v)) (Sum.inr b) = some (if b = a then v else .int (sz b)) := fun b hb => by
    rw [kvT_val, look_put]
    by_cases e : b = a
    · rw [if_pos e, if_pos e]
    · rw [if_neg e, if_neg e]
      have z := tblI_val (g := sz) (p.mem_iff.mpr hb)
      unfold tblI at z
      rw [kvT_val] at z
      exact z
  rw [feas_some, if_neg (fun z => z len), if_neg]
  · have f : (ts.map Prod.fst).find? (badKey (kvT (putT (l.map fun b => (b, V.int (sz b))) a v))) = some a := by
      have bad : ∀ b ∈ ts.map Prod.fst, badKey (kvT (putT (l.map fun b => (b, V.int (sz b))) a v)) b = decide (b = a) := fun b hb => by
        unfold badKey
        rw [val b hb]
        by_cases e : b = a
        · rw [if_pos e, decide_eq_true e]
          show (!isGe v 0) = true
          rw [hv] <;> rfl
        · rw [if_neg e, decide_eq_false e]
          show (!decide ((0 : Int) ≤ sz b)) = false
          rw [decide_eq_true (nn b hb)] <;> rfl
      obtain ⟨i, hi⟩ := List.mem_iff_getElem?.mp ma
      cases e : (ts.map Prod.fst).find? (badKey (kvT (putT (l.map fun b => (b, V.int (sz b))) a v))) with
      | none =>
        have := List.find?_eq_none.mp e a ma
        rw [bad a ma, decide_eq_true rfl] at this
        exact absurd rfl this
      | some b =>
        have mb := List.mem_of_find?_eq_some e
        have hb := List.find?_some e
        rw [bad b mb] at hb
        rw [of_decide_eq_true hb]
    rw [f]
  · intro z
    have : ((ts.map Prod.fst).all fun b => (valV (kvT (putT (l.map fun b => (b, V.int (sz b))) a v)) (Sum.inr b)).isSome) = true := List.all_eq_true.mpr fun b hb => by rw [val b hb] <;> rfl
    rw [this] at z
    cases z
/-- a top flag that is too large -/
theorem feas_large {ts : List (Str × Str)} {n : Int} {l : List Str} {a : Str} (o : TreeOk ts) (p : l.Perm (ts.map Prod.fst)) (ma : par ts a = some ("" : Str)) (n0 : 0 ≤ n) : feas ts n (some (tblI l fun b => if b = a then n + 1 else 0)) = some (.str "") := by
  have e1 : ∀ b ∈ ts.map Prod.fst, valV (tblI l fun b => if b = a then n + 1 else 0) (Sum.inr b) = some (.int (if b = a then n + 1 else 0)) := fun b hb => tblI_val (p.mem_iff.mpr hb)
  have ll := p.length_eq
  rw [List.length_map] at ll
  rw [feas_some, if_neg (by rw [tblI_len]; exact fun z => z ll), if_neg]
  · have e2 : (ts.map Prod.fst).find? (badKey (tblI l fun b => if b = a then n + 1 else 0)) = none := List.find?_eq_none.mpr fun b hb z => by
      unfold badKey at z
      rw [e1 b hb] at z
      have z' : (!decide ((0 : Int) ≤ if b = a then n + 1 else 0)) = true := z
      have : (0 : Int) ≤ if b = a then n + 1 else 0 := by split <;> omega
      rw [decide_eq_true this] at z'
      cases z'
    rw [e2]
    have e3 : resid ts n (szOf (tblI l fun b => if b = a then n + 1 else 0)) "" < 0 := by
      have mk : a ∈ ts.map Prod.fst := List.mem_map.mpr ⟨_, par_mem ma, rfl⟩
      rw [resid_congr (sz' := fun b => if b = a then n + 1 else 0) (fun b hb => szOf_tbl (p.mem_iff.mpr hb)) (.inl rfl)]
      unfold resid
      rw [if_pos rfl]
      have ka : a ∈ kids ts "" := by
        unfold kids
        exact List.mem_map.mpr ⟨(a, ""), List.mem_filter.mpr ⟨par_mem ma, decide_eq_true rfl⟩, rfl⟩
      have sum_ge : ∀ m : List Str, a ∈ m → n + 1 ≤ (m.map fun b => if b = a then n + 1 else 0).sum := by
        have nn : ∀ m : List Str, 0 ≤ (m.map fun b => if b = a then n + 1 else 0).sum := by
          intro m
          induction m with
          | nil => exact Int.le_refl _
          | cons b m ih =>
            rw [List.map_cons, List.sum_cons]
            have : (0 : Int) ≤ if b = a then n + 1 else 0 := by split <;> omega
            omega
        intro m
        induction m with
        | nil => intro h; cases h
        | cons b m ih =>
          intro h
          rw [List.map_cons, List.sum_cons]
          by_cases e : b = a
          · rw [if_pos e]
            have := nn m
            omega
          · rw [if_neg e]
            have := ih ((List.mem_cons.mp h).resolve_left fun z => e z.symm)
            omega
      have := sum_ge _ ka
      omega
    show Option.map V.str (List.find? _ (("" : Str) :: ts.map Prod.fst)) = _
    rw [List.find?_cons, decide_eq_true e3] <;> rfl
  · intro z
    have : ((ts.map Prod.fst).all fun b => (valV (tblI l fun b => if b = a then n + 1 else 0) (Sum.inr b)).isSome) = true := List.all_eq_true.mpr fun b hb => by rw [e1 b hb] <;> rfl
    rw [this] at z
    cases z
/-- a forest has a top flag -/
theorem has_top {t : List (Str × Str)} (o : TreeOk t) : ∃ a, par t a = some ("" : Str) := by
  obtain ⟨rk, r⟩ := o.up
  have key : ∀ (n : Nat) (a : Str), a ∈ t.map Prod.fst → rk a ≤ n → ∃ b, par t b = some ("" : Str) := by
    intro n
    induction n with
    | zero =>
      intro a ha hn
      obtain ⟨p, hp, h, _⟩ := o.step r ha
      rcases h with e | ⟨_, l⟩
      · exact ⟨a, by rw [hp, e]⟩
      · omega
    | succ n ih =>
      intro a ha hn
      obtain ⟨p, hp, h, _⟩ := o.step r ha
      rcases h with e | ⟨m, l⟩
      · exact ⟨a, by rw [hp, e]⟩
      · exact ih p m (by omega)
  have one := o.one
  obtain ⟨p, hp⟩ : ∃ p, p ∈ t := ⟨t[0], List.getElem_mem _⟩
  exact key (rk p.1) p.1 (List.mem_map.mpr ⟨p, hp, rfl⟩) (Nat.le_refl _)
end FT


/-! _law_turned of any dict by texts -/
namespace FT
open PySem L2 TL ClX LamX NdefX LiI
def spTurnG : Sp := fun vs H Q _ => ∃ (q : Addr) (l : List (Str × V)), vs = [.ref q] ∧ H q = some (.dK (kvT l)) ∧ (l.map Prod.fst).Nodup ∧ ∀ p H', Same H H' → H p = none → H' p = some (.dK (kvT l.reverse)) → Q (.ref p) H'
section
variable {P : Program} {w : World} {K : PySem.W.Frag} {mg : Str → Option Value} {base : Heap}
theorem ok_turnG {f : Addr} {fd : FuncData} (F : Fun K "_law_turned" "_law_turned" s__law_turned f fd) (T : Nm mg) : FnOk P w K mg base CX0 1 f fd ["_law_some"] spTurnG := by
  refine F.ok scTurned (fun vs H Q E h => ?_) (fun cdv A outer s H vs Q E hr h => ?_)
  · obtain ⟨q, l, rfl, _⟩ := h
    rfl
  · obtain ⟨q, l, rfl, hq, nd, k⟩ := h
    refine ⟨_, pss_one (ps_ret (pe_callTy (call_dictP rfl) (by rfl) T.dct (by decide +kernel) (pa_cons (pe_revL (pe_listItems rfl (pv 0) (by rfl) T.lst (by decide +kernel))) pa_nil))), ?_⟩
    refine ⟨_, rfl, q, kvT l, rfl, hq, fun H1 p ts same np nts pnts ap pr => ⟨p, _, rfl, SqL.of ap, fun p2 n2 => ⟨p2, ts.reverse, (kvT l).reverse, rfl, SqL.of (by rw [upd_same, List.map_reverse]), ?_, fun p3 n3 => ?_⟩⟩⟩
    · refine paired_rev ?_
      have s2 : Same H1 (upd H1 p2 (.lst (ts.map V.ref).reverse)) := same_new n2
      exact paired_imp (fun x y h => .inl (.inl (s2 _ _ h))) pr
    · have e : mergeK [] (kvT l).reverse = kvT l.reverse := by
        unfold kvT
        rw [← List.map_reverse]
        exact merge_nd (by rw [List.map_reverse]; exact (List.reverse_perm _).nodup_iff.mpr nd)
      rw [e]
      have s : Same H (upd (upd H1 p2 (.lst (ts.map V.ref).reverse)) p3 (.dK (kvT l.reverse))) := (Same.trans same (same_new n2)).trans (same_new n3)
      exact k p3 _ s (Same.free (Same.trans same (same_new n2)) n3) upd_same
end
theorem tblI_kvT (l : List Str) (g : Str → Int) : tblI l g = kvT (l.map fun a => (a, V.int (g a))) := rfl
theorem tblI_turn (l : List Str) (g : Str → Int) : kvT (l.map fun a => (a, V.int (g a))).reverse = tblI l.reverse g := by
  unfold tblI
  rw [List.map_reverse]
theorem prs_turn (t : List (Str × Str)) : kvT (t.map fun p => (p.1, V.str p.2)).reverse = prs t.reverse := by
  unfold prs
  rw [List.map_reverse]
end FT


/-! amounts and errors of tables; what stands while the draws go on. -/
namespace FT
open PySem L2 TL ClX LamX NdefX LiI
theorem DrawAt.notD {H : Hp} {d c b : Addr} {o : HO} (x : DrawAt H d c) (e : H b = some o) (n : ∀ xs, o ≠ .lst xs) : b ≠ d ∧ b ≠ c := by
  obtain ⟨nx, mx, ct, cells, z1, z2, _⟩ := x
  exact ⟨ne_of e z1 (n _), ne_of e z2 (n _)⟩
theorem Dat.keepN {K : PySem.W.Frag} {H H' : Hp} {d c : Addr} {v : V} {T : String} (dr : DrawAt H d c) (dr' : DrawAt H' d c) (k : KeepN d c H H') (x : Dat K H v T) : Dat K H' v T := by
  cases x with
  | non => exact .non
  | bl b => exact .bl b
  | int i => exact .int i
  | str z => exact .str z
  | @lst a xs h =>
    obtain ⟨nx, mx, ct, cells, z1, z2, _⟩ := dr'
    by_cases e1 : a = d
    · subst e1
      exact .lst z1
    · by_cases e2 : a = c
      · subst e2
        exact .lst z2
      · exact .lst (k _ _ e1 e2 h fun ps z => nomatch z)
  | tup h => exact let ⟨e1, e2⟩ := dr.notD h (fun xs z => nomatch z); .tup (k _ _ e1 e2 h fun ps z => nomatch z)
  | dct h => exact let ⟨e1, e2⟩ := dr.notD h (fun xs z => nomatch z); .dct (k _ _ e1 e2 h fun ps z => nomatch z)
theorem SzV.keepN {K : PySem.W.Frag} {H H' : Hp} {d c : Addr} {sv : V} {o : Option (List (Key × V))} (dr : DrawAt H d c) (dr' : DrawAt H' d c) (k : KeepN d c H H') (x : SzV K H sv o) : SzV K H' sv o := by
  cases o with
  | none => exact let ⟨T, x, n⟩ := x; ⟨T, x.keepN dr dr' k, n⟩
  | some kvs =>
    obtain ⟨q, e, h, a⟩ := x
    obtain ⟨e1, e2⟩ := dr.notD h (fun xs z => nomatch z)
    exact ⟨q, e, k _ _ e1 e2 h (fun ps z => nomatch z), fun p hp => let ⟨T, x⟩ := a p hp; ⟨T, x.keepN dr dr' k⟩⟩
theorem FAt.keepN {CF x : Addr} {H H' : Hp} {d c : Addr} {ts : List (Str × Str)} (dr : DrawAt H d c) (k : KeepN d c H H') (h : FAt CF H x ts) : FAt CF H' x ts := by
  obtain ⟨dx, dq, h1, h2⟩ := h
  obtain ⟨a1, a2⟩ := dr.notD h1 (fun xs z => nomatch z)
  obtain ⟨b1, b2⟩ := dr.notD h2 (fun xs z => nomatch z)
  exact ⟨dx, dq, k _ _ a1 a2 h1 (fun ps z => nomatch z), k _ _ b1 b2 h2 (fun ps z => nomatch z)⟩
theorem KeepN.dk {H H' : Hp} {d c b : Addr} {kvs : List (Key × V)} (dr : DrawAt H d c) (k : KeepN d c H H') (h : H b = some (.dK kvs)) : H' b = some (.dK kvs) := let ⟨a1, a2⟩ := dr.notD h (fun xs z => nomatch z); k _ _ a1 a2 h (fun ps z => nomatch z)
theorem cut_one (ts : List Addr) : cutV (ts.map V.ref) (some 1) none = (ts.drop 1).map V.ref := by
  cases ts with
  | nil => rfl
  | cons a ts =>
    have e : HT.sIx ((a :: ts).map V.ref).length 0 (some 1) = 1 := by
      rw [show (1 : Int) = ((1 : Nat) : Int) from rfl, HT.sIx_nat, List.length_map, List.length_cons]
      omega
    show (((a :: ts).map V.ref).drop (HT.sIx ((a :: ts).map V.ref).length 0 (some 1))).take (((a :: ts).map V.ref).length - HT.sIx ((a :: ts).map V.ref).length 0 (some 1)) = _
    rw [e, List.map_cons, List.drop_one, List.tail_cons, List.length_cons, Nat.add_sub_cancel, List.take_length] <;> rfl
theorem paired_drop {α β : Type} {F : α → β → Prop} {xs : List α} {ys : List β} (h : Paired F xs ys) : Paired F (xs.drop 1) (ys.drop 1) := by
  cases h with
  | nil => exact .nil
  | cons _ t => exact t
theorem tblI_drop (l : List Str) (g : Str → Int) : (tblI l g).drop 1 = tblI (l.drop 1) g := by
  cases l <;> rfl
theorem am_none {CU CS : Addr} {ts : List (Str × Str)} {n : Int} {l1 l2 : List Str} {s1 s2 : Str → Int} (n1 : 1 ≤ n) (n2 : n ≤ 10 ^ 30) (f1 : Fea ts n s1) (f2 : Fea ts n s2) (p1 : l1.Perm (ts.map Prod.fst)) (p2 : l2.Perm (ts.map Prod.fst)) :
    amE CU CS ts (.int n) (some (tblI l1 s1)) (some (tblI l2 s2)) = none := by
  have u : usersOk (.int n) (10 ^ 30) = true := by
    show (decide (1 ≤ n) && decide (n ≤ 10 ^ 30)) = true
    rw [decide_eq_true n1, decide_eq_true n2] <;> rfl
  unfold amE szE
  rw [if_pos u]
  show (feE CS ts n _).or (feE CS ts n _) = none
  rw [f1.ok p1, f2.ok p2] <;> rfl
theorem am_first {CU CS : Addr} {ts : List (Str × Str)} {n : Int} {o1 o2 : Option (List (Key × V))} {e : Err} (n1 : 1 ≤ n) (n2 : n ≤ 10 ^ 30) (h : feE CS ts n o1 = some e) : amE CU CS ts (.int n) o1 o2 = some e := by
  have u : usersOk (.int n) (10 ^ 30) = true := by
    show (decide (1 ≤ n) && decide (n ≤ 10 ^ 30)) = true
    rw [decide_eq_true n1, decide_eq_true n2] <;> rfl
  unfold amE szE
  rw [if_pos u]
  show (feE CS ts n _).or _ = _
  rw [h] <;> rfl
theorem am_second {CU CS : Addr} {ts : List (Str × Str)} {n : Int} {l1 : List Str} {s1 : Str → Int} {o2 : Option (List (Key × V))} {e : Err} (n1 : 1 ≤ n) (n2 : n ≤ 10 ^ 30) (f1 : Fea ts n s1) (p1 : l1.Perm (ts.map Prod.fst)) (h : feE CS ts n o2 = some e) :
    amE CU CS ts (.int n) (some (tblI l1 s1)) o2 = some e := by
  have u : usersOk (.int n) (10 ^ 30) = true := by
    show (decide (1 ≤ n) && decide (n ≤ 10 ^ 30)) = true
    rw [decide_eq_true n1, decide_eq_true n2] <;> rfl
  unfold amE szE
  rw [if_pos u]
  show (feE CS ts n _).or (feE CS ts n _) = _
  rw [f1.ok p1, h] <;> rfl
theorem am_users {CU CS : Addr} {ts : List (Str × Str)} {uv : V} {o1 o2 : Option (List (Key × V))} (h : usersOk uv (10 ^ 30) = false) : amE CU CS ts uv o1 o2 = some (.e0 CU) := by
  unfold amE szE
  rw [if_neg (by rw [h]; decide)] <;> rfl
theorem amt_tbl {l1 l2 : List Str} {s1 s2 : Str → Int} {a : Str} (h1 : a ∈ l1) (h2 : a ∈ l2) : amt (some (tblI l1 s1)) (some (tblI l2 s2)) a = s2 a - s1 a := by
  unfold amt
  rw [show kvsOf (some (tblI l2 s2)) = tblI l2 s2 from rfl, show kvsOf (some (tblI l1 s1)) = tblI l1 s1 from rfl, szOf_tbl h1, szOf_tbl h2]
theorem sz_tbl {K : PySem.W.Frag} {H : Hp} {q : Addr} {l : List Str} {s : Str → Int} (h : H q = some (.dK (tblI l s))) : SzV K H (.ref q) (some (tblI l s)) :=
  ⟨q, rfl, h, fun p hp => by
    obtain ⟨i, hi⟩ := List.mem_iff_getElem?.mp hp
    obtain ⟨k, v⟩ := p
    obtain ⟨a, _, _, rfl⟩ := tblI_at hi
    exact ⟨_, .int _⟩⟩
theorem absI_nn {z : Int} (h : 0 ≤ z) : absI z = z := if_neg (by omega)
theorem fea_zero {t : List (Str × Str)} {n : Int} (n0 : 0 ≤ n) : Fea t n fun _ => 0 := by
  have z : ∀ m : List Str, (m.map fun _ => (0 : Int)).sum = 0 := by
    intro m
    induction m with
    | nil => rfl
    | cons b m ih => rw [List.map_cons, List.sum_cons, ih] <;> rfl
  refine ⟨fun a ha => Int.le_refl _, fun p hp => ?_⟩
  unfold resid
  rw [z]
  by_cases e : p = ""
  · rw [if_pos e]
    omega
  · rw [if_neg e]
    show 0 ≤ (0 : Int) - 0
    omega
theorem isFrz_tup {H : Hp} {r q : Addr} {xs : List V} {o : Obj} {u : HO} (h1 : H r = some (.tup xs)) (h2 : H q = some (.frz o u)) : r ≠ q := ne_of h1 h2 (by intro z; cases z)
theorem keys_walk {t : List (Str × Str)} {i : Nat} {k : Key} {v : V} (h : (prs t)[i]? = some (k, v)) : ∃ a p : Str, k = Sum.inr a ∧ v = .str p ∧ t[i]? = some (a, p) := by
  unfold prs kvT at h
  rw [List.map_map, List.getElem?_map] at h
  obtain ⟨⟨a, p⟩, hp, e⟩ := Option.map_eq_some_iff.mp h
  cases e
  exact ⟨a, p, rfl, rfl, hp⟩
end FT


namespace FT
open PySem L2 TL ClX LiI
def spResidents (K : PySem.W.Frag) (CF CU CS : Addr) : Sp := fun vs H Q E => ∃ (x : Addr) (uv sv : V) (ts : List (Str × Str)) (o1 : Option (List (Key × V))), vs = [.ref x, uv, sv] ∧ FAt CF H x ts ∧ TreeOk ts ∧ IsDat K H uv ∧ SzV K H sv o1 ∧
  match szE CU CS ts uv o1 with
  | none => ∀ p H', Same H H' → H p = none → H' p = some (.dK (tblI (plc ts) (resid ts (numV uv) (szOf (kvsOf o1))))) → Q (.ref p) H'
  | some e => Out H E e
def spCount (K : PySem.W.Frag) (CF CU CS : Addr) : Sp := fun vs H Q E => ∃ (x : Addr) (uv sv nv : V) (ts : List (Str × Str)) (o1 o2 : Option (List (Key × V))), vs = [.ref x, uv, sv, nv] ∧ FAt CF H x ts ∧ TreeOk ts ∧ IsDat K H uv ∧ SzV K H sv o1 ∧ SzV K H nv o2 ∧
  match amE CU CS ts uv o1 o2 with
  | none => numV uv ≤ 300 ∧ ∀ H', Same H H' → Q (.int (cntN ts (numV uv) (szOf (kvsOf o1)) (szOf (kvsOf o2)) : Int)) H'
  | some e => Out H E e
theorem amE_ok {CU CS : Addr} {ts : List (Str × Str)} {uv : V} {o1 o2 : Option (List (Key × V))} (h : amE CU CS ts uv o1 o2 = none) : ∃ n k1 k2, uv = .int n ∧ 1 ≤ n ∧ n ≤ 10 ^ 30 ∧ o1 = some k1 ∧ o2 = some k2 ∧ feE CS ts n (some k1) = none ∧ feE CS ts n (some k2) = none := by
  unfold amE at h
  cases e1 : szE CU CS ts uv o1 with
  | some e =>
    rw [e1] at h
    cases h
  | none =>
    rw [e1] at h
    obtain ⟨n, rfl, n1, n2, f1⟩ := szE_feE e1
    have h2 : feE CS ts n o2 = none := h
    cases o1 with
    | none => exact absurd f1 feE_none
    | some k1 =>
      cases o2 with
      | none => exact absurd h2 feE_none
      | some k2 => exact ⟨n, k1, k2, rfl, n1, n2, rfl, rfl, f1, h2⟩
theorem fea_of {CS : Addr} {ts : List (Str × Str)} {n : Int} {k : List (Key × V)} (h : feE CS ts n (some k) = none) : Fea ts n (szOf k) := let z := feE_ok h; ⟨fun a ha => (z.2.1 a ha).2, fun p hp => z.2.2 p hp⟩
section
variable {P : Program} {w : World} {K : PySem.W.Frag} {mg : Str → Option Value} {base : Heap}
abbrev NCo : List Str := ["forest", "users", "sizes", "new", "changed"]
theorem scCo : FnScope NCo ["forest", "users", "sizes", "new"] (defScope s_count) := ⟨rfl, rfl, rfl, by decide +kernel, rfl, by decide +kernel, by decide +kernel⟩
theorem ok_count {f fM fW fR fC CF CU CS : Addr} {fd fdM fdW fdR fdC : FuncData} (F : Fun K "count" "count" s_count f fd) (M : Dn P w K mg base (L2.CX P w) 7 "amounts" ["forest", "users", "sizes", "new"] (spAmounts K CF CU CS) fM fdM)
    (R : Dn P w K mg base CX0 4 "residents_of" ["forest", "users", "sizes"] (spResid CF) fR fdR) (C : Dn P w K mg base CX0 3 "crossings" ["forest", "changed"] (spCross CF) fC fdC) (W : Dn P w K mg base CX0 2 "ways" ["here", "edges"] spWays fW fdW) :
    FnOk P w K mg base (L2.CX P w) 8 f fd ["forest", "users", "sizes", "new"] (spCount K CF CU CS) := by
  refine F.okX scCo (fun vs H Q E h => ?_) (fun cdv A outer s H vs Q E hr h => ?_)
  · obtain ⟨x, uv, sv, nv, ts, o1, o2, rfl, _⟩ := h
    rfl
  · obtain ⟨x, uv, sv, nv, ts, o1, o2, rfl, fa, o, du, z1, z2, k⟩ := h
    refine ⟨_, pss_cons (ps_set (i := 4) scCo.nd rfl (.inl rfl) (pe_call M.ok hr rfl M.mgn M.kp M.bn .nil (passes_call (takes_of rfl rfl rfl rfl) (fun _ _ _ _ h => h)) (pa_cons (pv 0) (pa_cons (pv 1) (pa_cons (pv 2) (pa_cons (pv 3) pa_nil))))))
      (pss_one (ps_ret (pe_call W.ok (hr.mono (by decide)) rfl W.mgn W.kp W.bn .nil pass0 (pa_cons (pe_call R.ok (hr.mono (by decide)) rfl R.mgn R.kp R.bn .nil pass0 (pa_cons (pv 0) (pa_cons (pv 1) (pa_cons (pv 2) pa_nil)))) (pa_cons (pe_call C.ok (hr.mono (by decide)) rfl C.mgn C.kp C.bn .nil pass0 (pa_cons (pv 0) (pa_cons (pv 4) pa_nil))) pa_nil))))), ?_⟩
    refine ⟨_, rfl, _, rfl, _, rfl, _, rfl, x, uv, sv, nv, ts, o1, o2, rfl, fa, o, du, z1, z2, ?_⟩
    cases e1 : amE CU CS ts uv o1 o2 with
    | some e =>
      rw [e1] at k
      exact k
    | none =>
      rw [e1] at k
      obtain ⟨n, k1, k2, rfl, n1, n2, rfl, rfl, f1, f2⟩ := amE_ok e1
      obtain ⟨n3, k⟩ := k
      have n3 : n ≤ 300 := n3
      obtain ⟨q1, rfl, h1, _⟩ := z1
      have few := o.few
      have g1 := fea_of f1
      have g2 := fea_of f2
      intro p H1 s1 np ap
      refine ⟨_, rfl, _, rfl, _, rfl, x, q1, n, ts, k1, rfl, fa.mono s1, o, s1 _ _ h1, fun a ha => ((feE_ok f1).2.1 a ha).1, fun r H2 s2 nr ar => ?_⟩
      refine ⟨_, rfl, _, rfl, x, p, ts, _, rfl, (fa.mono s1).mono s2, o, s2 _ _ ap, fun e rs H3 s3 ne he ed => ?_⟩
      have lc := crs_len (amt (some k1) (some k2)) ts
      refine ⟨r, e, rs, plc ts, resid ts n (szOf k1), crs (amt (some k1) (some k2)) ts, preN ts n (szOf k1) (szOf k2), outN ts (szOf k1) (szOf k2), rfl, s3 _ _ ar, ?_, he, ed, by omega, ways_good o g1 g2 n3, fun H4 s4 => k H4 (((s1.trans s2).trans s3).trans s4)⟩
      show (("" : Str) :: ts.map Prod.fst).length ≤ 13
      rw [List.length_cons, List.length_map]
      omega
end
end FT


/-! the checks' readings and bounds of k10 -/
namespace FT
open PySem L2 TL ClX LamX NdefX LiI
section
variable {t : List (Str × Str)}
theorem someone (o : TreeOk t) {n : Int} {s : Str → Int} (f : Fea t n s) (h : 1 ≤ n) : ∃ p, Pl t p ∧ 1 ≤ resid t n s p := by
  have z := resid_sum (n := n) (s := s) o
  refine Classical.byContradiction fun no => ?_
  have e : ∀ p ∈ plc t, resid t n s p = 0 := fun p hp => by
    have a := f.res p hp
    have b : ¬ 1 ≤ resid t n s p := fun w => no ⟨p, List.mem_cons.mp hp, w⟩
    omega
  rw [sum_map_zero e] at z
  omega
theorem cnt_le (o : TreeOk t) : ∀ (n : Nat) (s1 s2 : Str → Int), Fea t (n : Int) s1 → Fea t (n : Int) s2 → cntN t (n : Int) s1 s2 ≤ (t.length + 1) ^ n
  | 0, s1, s2, f1, f2 => by
    have z : ∀ {s : Str → Int}, Fea t ((0 : Nat) : Int) s → ∀ a ∈ t.map Prod.fst, s a = 0 := fun f a ha => by
      have h1 := f.nn a ha
      have h2 := fea_le o f a ha
      omega
    rw [cnt_same o f2 fun a ha => by rw [z f1 a ha, z f2 a ha]]
    exact Nat.le_refl _
  | n + 1, s1, s2, f1, f2 => by
    have e : (((n + 1 : Nat)) : Int) = (n : Int) + 1 := by omega
    rw [e] at f1 f2 ⊢
    obtain ⟨p, pp, hp⟩ := someone o f1 (by omega)
    rw [← cnt_rec o f1 f2 pp hp]
    have le : ∀ l : List Str, (∀ g ∈ l, g ∈ plc t) → (l.map fun g => if alB t (fun a => s2 a - s1 a) p g = true ∧ 1 ≤ resid t ((n : Int) + 1) s2 g then cntN t (n : Int) (lessS t s1 p) (lessS t s2 g) else 0).sum ≤ l.length * (t.length + 1) ^ n := by
      intro l
      induction l with
      | nil => intro _; exact Nat.zero_le _
      | cons g l ih =>
        intro h
        rw [List.map_cons, List.sum_cons, List.length_cons, Nat.succ_mul]
        have i := ih fun y hy => h y (List.mem_cons_of_mem _ hy)
        have : (if alB t (fun a => s2 a - s1 a) p g = true ∧ 1 ≤ resid t ((n : Int) + 1) s2 g then cntN t (n : Int) (lessS t s1 p) (lessS t s2 g) else 0) ≤ (t.length + 1) ^ n := by
          split
          · rename_i c
            exact cnt_le o n _ _ (fea_less o f1 pp hp) (fea_less o f2 (List.mem_cons.mp (h g (List.mem_cons_self ..))) c.2)
          · exact Nat.zero_le _
        omega
    have z := le (plc t) fun g hg => hg
    have lp : (plc t).length = t.length + 1 := by unfold plc; rw [List.length_cons, List.length_map]
    rw [lp] at z
    rw [Nat.pow_succ, Nat.mul_comm]
    exact z
theorem cnt_log (o : TreeOk t) {n : Int} {s1 s2 : Str → Int} (n0 : 0 ≤ n) (n3 : n ≤ 300) (f1 : Fea t n s1) (f2 : Fea t n s2) : ((cntN t n s1 s2 : Int)).natAbs.log2 < 1920 := by
  obtain ⟨m, rfl⟩ : ∃ m : Nat, n = (m : Int) := ⟨n.toNat, by omega⟩
  have a := cnt_le o m s1 s2 f1 f2
  have few := o.few
  have b : (t.length + 1) ^ m ≤ (2 ^ 4) ^ 300 := Nat.le_trans (Nat.pow_le_pow_left (by omega) _) (Nat.pow_le_pow_right (by decide) (by omega))
  rw [← Nat.pow_mul] at b
  rw [Int.natAbs_natCast]
  have c : cntN t (m : Int) s1 s2 < 2 ^ 1300 := Nat.lt_of_le_of_lt (Nat.le_trans a b) (Nat.pow_lt_pow_right (by decide) (by decide))
  have := log_lt c (by decide)
  omega
end
theorem pick2L (b : Bool) (x y : Int) : atI [V.int x, V.int y] (if b then 1 else 0) = some (.int (if b then y else x)) := by cases b <;> rfl
theorem ifNeL {a b : Int} {A B : Prop} (e : a = b) (h : B) : if (!decide (V.int a = V.int b)) = true then A else B := by
  rw [e, decide_eq_true rfl]
  exact iteF h
/-- an if whose block ends as it began -/
theorem join_if {i : Nat} {b : Bool} {tb : TS} {D : Ends} {σ : St} {H : Hp} (h : σ[i]? = some (some (.bl b))) (R : St → Hp → Prop) (hb : b = true → ∀ D' : Ends, (∀ σ' H', R σ' H' → D'.nx σ' H') → tb D' σ H) (k0 : b = false → R σ H) (k : ∀ σ' H', R σ' H' → D.nx σ' H') : tIfS (tB (tVar i)) tb tNext D σ H := by
  refine ⟨_, h, b, rfl, ?_⟩
  cases b with
  | false => exact iteF (k _ _ (k0 rfl))
  | true => exact iteT (hb rfl D k)
/-- `_law_place(lambda: ..) != name` -/
theorem chk_placeN {CS : Addr} {T : List (Addr × Str)} {σ : St} {i : Nat} {z : Str} {t : XK → TE} {tr : TS} {D : Ends} {H1 : Hp} (G : Hp → Prop) (hi : σ[i]? = some (some (.str z))) (hT : Tabs T H1)
    (call : ∀ H2, ExtN H1 H2 → Tabs T H2 → ∀ (E : XK) (Q' : VK), (∀ H3, G H3 → Out H3 E (.e1 CS "place" (.str z))) → t E σ H2 Q') (k : ∀ H3 H4, G H3 → Same H3 H4 → D.nx σ H4) :
    tIfS (tTest (tOp rNe (tLam T (TPlace CS) t) (tVar i))) tr tNext D σ H1 := by
  refine ⟨hT, fun H2 e2 t2 => call H2 e2 t2 _ _ (fun H3 g d H4 s4 nd hd => ⟨rfl, d, .str z, rfl, hd, _, hi, rfl, _, rfl, ?_⟩)⟩
  rw [decide_eq_true rfl]
  exact iteF (k H3 H4 g s4)
/-- `_law_error(lambda: ..) != word` -/
theorem chk_errorI {C5 : Nat → Addr} {T : List (Addr × Str)} {σ : St} {t : XK → TE} {tr : TS} {D : Ends} {H1 : Hp} (j : Nat) (hj : j < 5) (G : Hp → Prop) (hT : Tabs T H1)
    (call : ∀ H2, ExtN H1 H2 → Tabs T H2 → ∀ (E : XK) (Q' : VK), (∀ d H3, G H3 → (d = none ∨ ∃ dd fs, d = some dd ∧ H3 dd = some (.xd fs)) → E (.ref (C5 j)) d H3) → t E σ H2 Q') (k : ∀ H3 H4, G H3 → Same H3 H4 → D.nx σ H4) :
    tIfS (tTest (tOp rNe (tLam T (TError C5 wd5 5) t) (tC (.str (wd5 j))))) tr tNext D σ H1 := by
  refine ⟨hT, fun H2 e2 t2 => call H2 e2 t2 _ _ (fun d H3 g hd => ⟨j, hj, rfl, hd, fun H4 s4 => ⟨rfl, _, rfl, ?_⟩⟩)⟩
  rw [decide_eq_true rfl]
  exact iteF (k H3 H4 g s4)
end FT
namespace FT
open PySem L2 TL ClX LamX NdefX LiI
theorem cnt_congr {t : List (Str × Str)} (o : TreeOk t) {n : Int} {s1 s2 r1 r2 : Str → Int} (f2 : Fea t n s2) (g2 : Fea t n r2) (e1 : ∀ a ∈ t.map Prod.fst, s1 a = r1 a) (e2 : ∀ a ∈ t.map Prod.fst, s2 a = r2 a) : cntN t n s1 s2 = cntN t n r1 r2 := by
  have W := cnt_eq (s1 := s1) o f2
  have W' := cnt_eq (s1 := r1) o g2
  have a1 : Apr t s1 s2 = Apr t r1 r2 := by
    unfold Apr
    congr 1
    refine List.map_congr_left fun x hx => ?_
    have m : x.1 ∈ t.map Prod.fst := List.mem_map.mpr ⟨x, hx, rfl⟩
    rw [e1 _ m, e2 _ m]
  have a2 : Rpr t n s2 = Rpr t n r2 := by
    unfold Rpr
    congr 1
    refine List.map_congr_left fun p hp => ?_
    rw [resid_congr e2 ((List.mem_cons.mp hp).imp id (e2 p))]
  have a3 : Ppr t n s1 s2 = Ppr t n r1 r2 := by
    unfold Ppr
    congr 1
    refine List.map_congr_left fun p hp => ?_
    unfold preC
    have e : ((kids t p).map fun c => min (s1 c) (s2 c)) = (kids t p).map fun c => min (r1 c) (r2 c) := List.map_congr_left fun k hk => by
      rw [e1 k (kids_sub hk), e2 k (kids_sub hk)]
    rw [e]
    rcases List.mem_cons.mp hp with e | m
    · rw [if_pos e, if_pos e]
    · rw [e1 p m, e2 p m]
  rw [a1, a2, a3, ← W'] at W
  exact Nat.eq_of_mul_eq_mul_right (Nat.mul_pos (Apr_pos _ _ _) (Rpr_pos _ _ _)) W
theorem cnt_val {t u : List (Str × Str)} {n : Int} {l1 l2 : List Str} {s1 s2 : Str → Int} (o : TreeOk t) (p : u.Perm t) (f2 : Fea t n s2) (p1 : l1.Perm (t.map Prod.fst)) (p2 : l2.Perm (t.map Prod.fst)) :
    cntN u (numV (.int n)) (szOf (kvsOf (some (tblI l1 s1)))) (szOf (kvsOf (some (tblI l2 s2)))) = cntN t n s1 s2 := by
  have g2 : Fea t n (szOf (tblI l2 s2)) := ⟨fun a ha => by rw [szOf_tbl (p2.mem_iff.mpr ha)]; exact f2.nn a ha, fun q hq => by
    rw [resid_congr (sz' := s2) (fun a ha => szOf_tbl (p2.mem_iff.mpr ha)) ((List.mem_cons.mp hq).imp id fun m => szOf_tbl (p2.mem_iff.mpr m))]
    exact f2.res q hq⟩
  show cntN u n (szOf (tblI l1 s1)) (szOf (tblI l2 s2)) = _
  rw [← cnt_perm p.symm o g2]
  exact cnt_congr o g2 f2 (fun a ha => szOf_tbl (p1.mem_iff.mpr ha)) fun a ha => szOf_tbl (p2.mem_iff.mpr ha)
/-- values that hang on no heap -/
def Simp (v : V) : Prop := (∃ i, v = .int i) ∨ v = .non ∨ ∃ b, v = .bl b
theorem Simp.dat {K : PySem.W.Frag} {H : Hp} {v : V} (h : Simp v) : IsDat K H v := by
  rcases h with ⟨i, rfl⟩ | rfl | ⟨b, rfl⟩
  · exact ⟨_, .int _⟩
  · exact ⟨_, .non⟩
  · exact ⟨_, .bl _⟩
theorem sz_sim {K : PySem.W.Frag} {H : Hp} {q : Addr} {kvs : List (Key × V)} (h : H q = some (.dK kvs)) (a : ∀ p ∈ kvs, Simp p.2) : SzV K H (.ref q) (some kvs) := ⟨q, rfl, h, fun p hp => (a p hp).dat⟩
theorem simp_put {l : List Str} {s : Str → Int} {a : Str} {v : V} (hv : Simp v) : ∀ p ∈ kvT (putT (l.map fun b => (b, V.int (s b))) a v), Simp p.2 := fun p hp => by
  unfold kvT putT at hp
  obtain ⟨p', hp', rfl⟩ := List.mem_map.mp hp
  split at hp'
  · obtain ⟨p2, hp2, rfl⟩ := List.mem_map.mp hp'
    obtain ⟨b, _, rfl⟩ := List.mem_map.mp hp2
    by_cases e : b = a
    · rw [if_pos e]
      exact hv
    · rw [if_neg e]
      exact .inl ⟨_, rfl⟩
  · rcases List.mem_append.mp hp' with h | h
    · obtain ⟨b, _, rfl⟩ := List.mem_map.mp h
      exact .inl ⟨_, rfl⟩
    · obtain rfl := List.mem_singleton.mp h
      exact hv
theorem bad_fe {CS : Addr} {ts : List (Str × Str)} {n : Int} {l : List Str} {s : Str → Int} {a : Str} {v : V} (p : l.Perm (ts.map Prod.fst)) (nn : ∀ b ∈ ts.map Prod.fst, 0 ≤ s b) (ma : a ∈ ts.map Prod.fst) (hv : isGe v 0 = false) :
    feE CS ts n (some (kvT (putT (l.map fun b => (b, V.int (s b))) a v))) = some (.e1 CS "place" (.str a)) := by
  unfold feE
  rw [feas_bad p nn ma hv] <;> rfl
theorem odd_fe {CS : Addr} {ts : List (Str × Str)} {n : Int} {l : List Str} {s : Str → Int} {a : Str} {v : V} (o : TreeOk ts) (p : l.Perm (ts.map Prod.fst)) (nn : ∀ b ∈ ts.map Prod.fst, 0 ≤ s b) (ma : a ∈ ts.map Prod.fst) (hv : isGe v 0 = false ∨ v = .int (n + 1)) :
    ∃ pv, feE CS ts n (some (kvT (putT (l.map fun b => (b, V.int (s b))) a v))) = some (.e1 CS "place" pv) := by
  rcases hv with h | rfl
  · exact ⟨_, bad_fe p nn ma h⟩
  · have al := p.mem_iff.mpr ma
    have e : kvT (putT (l.map fun b => (b, V.int (s b))) a (V.int (n + 1))) = tblI l fun b => if b = a then n + 1 else s b := by
      rw [← kvT_putT]
      exact tblI_put al
    rw [e]
    cases h : feas ts n (some (tblI l fun b => if b = a then n + 1 else s b)) with
    | some pv =>
      refine ⟨pv, ?_⟩
      unfold feE
      rw [h] <;> rfl
    | none =>
      have z : feE CS ts n (some (tblI l fun b => if b = a then n + 1 else s b)) = none := by
        unfold feE
        rw [h] <;> rfl
      have f := fea_le o (fea_of z) a ma
      rw [szOf_tbl al, if_pos rfl] at f
      omega
/-- what stands -/
structure Fx10 (T : List (Addr × Str)) (CF d c q qo ql x : Addr) (t ts : List (Str × Str)) (lo ll : List Str) (so sl : Str → Int) (H : Hp) : Prop where
  dr : DrawAt H d c
  tb : Tabs T H
  hq : H q = some (.dK (prs t))
  ho : H qo = some (.dK (tblI lo so))
  hl : H ql = some (.dK (tblI ll sl))
  fa : FAt CF H x ts
section
variable {T : List (Addr × Str)} {CF d c q qo ql x : Addr} {t ts : List (Str × Str)} {lo ll : List Str} {so sl : Str → Int} {H H' : Hp}
theorem Fx10.same (f : Fx10 T CF d c q qo ql x t ts lo ll so sl H) (s : Same H H') : Fx10 T CF d c q qo ql x t ts lo ll so sl H' := ⟨f.dr.mono s, f.tb.ext s, s _ _ f.hq, s _ _ f.ho, s _ _ f.hl, f.fa.mono s⟩
theorem Fx10.keep (f : Fx10 T CF d c q qo ql x t ts lo ll so sl H) (dr : DrawAt H' d c) (k : Keep d c H H') : Fx10 T CF d c q qo ql x t ts lo ll so sl H' := ⟨dr, tabs_keep f.tb f.dr k, k.n.dk f.dr f.hq, k.n.dk f.dr f.ho, k.n.dk f.dr f.hl, f.fa.keepN f.dr k.n⟩
theorem Fx10.ext (f : Fx10 T CF d c q qo ql x t ts lo ll so sl H) (e : ExtN H H') (tb : Tabs T H') : Fx10 T CF d c q qo ql x t ts lo ll so sl H' := ⟨f.dr.ext e, tb, (KeepN.of_ext e).dk f.dr f.hq, (KeepN.of_ext e).dk f.dr f.ho, (KeepN.of_ext e).dk f.dr f.hl, f.fa.keepN f.dr (KeepN.of_ext e)⟩
end
end FT


/-! _law_counted -/
namespace FT
open PySem L2 TL ClX LiI
theorem szL_more {ts : List (Str × Str)} {zs : List Str} {z a : Str} {j : Nat} (h : zs[j]? = some z) : szL ts (zs.take (j + 1)) a = szL ts (zs.take j) a + if a ∈ pathOf ts z then 1 else 0 := by
  unfold szL
  rw [take_more h, List.map_append, List.sum_append]
  show _ + (bz (inB ts a z) + 0) = _
  unfold bz inB
  by_cases m : a ∈ pathOf ts z
  · rw [if_pos m, decide_eq_true m]
    simp
  · rw [if_neg m, decide_eq_false m]
    simp
def spCounted : Sp := fun vs H Q _ => ∃ (q l : Addr) (t : List (Str × Str)) (zs : List Str), vs = [.ref q, .ref l] ∧ H q = some (.dK (prs t)) ∧ TreeOk t ∧ H l = some (.lst (zs.map V.str)) ∧ (∀ z ∈ zs, Pl t z) ∧
  ∀ (p : Addr) (ks : List Str) (H' : Hp), Same H H' → H p = none → ks.Perm (t.map Prod.fst) → H' p = some (.dK (tblI ks (szL t zs))) → Q (.ref p) H'
section
variable {P : Program} {w : World} {K : PySem.W.Frag} {mg : Str → Option Value} {base : Heap}
abbrev NCd : List Str := ["_law_above", "_law_spots", "_law_name", "_law_found", "_law_spot"]
theorem scCd : FnScope NCd ["_law_above", "_law_spots"] (defScope s__law_counted) := ⟨rfl, rfl, rfl, by decide +kernel, rfl, by decide +kernel, by decide +kernel⟩
theorem ok_counted {f fP : Addr} {fd fdP : FuncData} (F : Fun K "_law_counted" "_law_counted" s__law_counted f fd) (T : Nm mg) (DP : Dn P w K mg base CX0 1 "_law_path" ["_law_above", "_law_spot"] spPath fP fdP) : FnOk P w K mg base CX0 2 f fd ["_law_above", "_law_spots"] spCounted := by
  refine F.ok scCd (fun vs H Q E h => ?_) (fun cdv A outer s H vs Q E hr h => ?_)
  · obtain ⟨q, l, t, zs, rfl, _⟩ := h
    rfl
  · obtain ⟨q, l, t, zs, rfl, hq, o, hl, pl, k⟩ := h
    have hu := hu_of hr
    have nd := scCd.nd
    have big : 1000 ≤ sizeLine := by decide
    have few := o.few
    refine ⟨_, pss_cons (ps_set (i := 3) nd rfl (.inl rfl) (pe_callTy (call_dictP rfl) (by rfl) T.dct (by decide +kernel) (pa_cons (pe_lc (own := [("_law_name", 2)]) (g := gName 2) (tt := tYes) rfl nd (pi_list (pe_callB (call_sortedD rfl) (by rfl) T.srt (by decide +kernel) (pa_cons (pv 0) pa_nil)))
          (blkOk_by (N := NCd) (sc := defScope s__law_counted) (by decide +kernel)) (fun _ _ _ _ _ => pg_name (i := 2) nd rfl (Or.inl rfl)) (fun _ _ _ _ _ => pts_nil) (fun _ _ _ _ _ => pe_tup (pa_cons (pv 2) (pa_cons pe_int pa_nil)))) pa_nil)))
      (pss_cons (ps_for PassesOwn.never rfl (pi_list (pv 1)) (pg_name (i := 4) nd rfl (.inl rfl))
        (pss_one (ps_for PassesOwn.never rfl (pi_tup (pe_call DP.ok hr rfl DP.mgn DP.kp DP.bn .nil pass0 (pa_cons (pv 0) (pa_cons (pv 4) pa_nil)))) (pg_name (i := 2) nd rfl (.inl rfl))
          (pss_one (ps_dput hu (pv 3) (pv 2) (pe_op op_add (pe_dget hu (pv 3) (pv 2) (fun _ _ => rfl)) pe_int) rfl)))))
      (pss_one (ps_ret (pv 3)))), ?_⟩
    refine ⟨_, rfl, q, prs t, t.map Prod.fst, rfl, .inl hq, prs_keys t, by rw [List.length_map]; omega, fun ks pf perm srt nf => ⟨pf, rfl, ⟨_, SqL.of upd_same⟩, fun D nD => ?_⟩⟩
    have lk := perm.length_eq
    rw [List.length_map] at lk
    have ndk : ks.Nodup := perm.nodup_iff.mpr o.nd
    obtain ⟨H1, e1⟩ : ∃ X, X = upd H pf (.lst (ks.map V.str)) := ⟨_, rfl⟩
    have s1 : Same H H1 := e1 ▸ same_new nf
    have a1 : H1 pf = some (.lst (ks.map V.str)) := by rw [e1]; exact upd_same
    rw [← e1] at nD ⊢
    refine lc_it walk_list (fun i H' => Same H1 H' ∧ ∃ rs : List Addr, H' D = some (.lst (rs.map V.ref)) ∧ PrG (fun _ => .int 0) H' rs (ks.take i)) ⟨same_new nD, [], upd_same, .nil⟩ (fun i H' _ z => SqL.of (z.1 _ _ a1)) ?_ ?_
    · intro i y Hz Ha hi ⟨z1, rs, hD, pr⟩ ⟨eb, ex⟩
      subst eb
      obtain ⟨a, ha, rfl⟩ := map_of ex
      have lr := pr.len
      rw [List.length_take] at lr
      refine ⟨rfl, ?_⟩
      refine ⟨_, rfl, by show 2 ≤ sizeLine; omega, fun tq ntq => ?_⟩
      have sq : Same Ha (upd Ha tq (.tup [.str a, .int 0])) := same_new ntq
      refine ⟨_, sq _ _ hD, by rw [List.length_map]; omega, (z1.trans sq).put nD, rs ++ [tq], by rw [upd_same, List.map_append] <;> rfl, ?_⟩
      rw [take_more ha]
      exact PrG.push (sq _ _ hD) (PrG.snoc upd_same (pr.mono sq))
    intro H2 ⟨z1, rs, hD, pr⟩
    rw [List.length_map, List.take_length] at pr
    refine ⟨D, rs, _, rfl, SqL.of hD, pr.kvs, fun pd npd => ?_⟩
    rw [merge_nd (by rw [map_fst]; exact ndk)]
    have s02 : Same H H2 := s1.trans z1
    have np0 : H pd = none := s02.free npd
    obtain ⟨H3, e3⟩ : ∃ X, X = upd H2 pd (.dK (kvT (ks.map fun a => (a, V.int 0)))) := ⟨_, rfl⟩
    have s03 : Same H H3 := e3 ▸ s02.trans (same_new npd)
    have hp3 : H3 pd = some (.dK (tblI ks (szL t []))) := by rw [e3, upd_same] <;> rfl
    rw [← e3]
    refine ⟨_, rfl, l, rfl, ⟨_, SqL.of (s03 _ _ hl)⟩, ?_⟩
    refine for_it walk_list (fun j σ' H' => (∃ u2 u4, σ' = [some (.ref q), some (.ref l), u2, some (.ref pd), u4]) ∧ Same H H' ∧ H' pd = some (.dK (tblI ks (szL t (zs.take j))))) ⟨⟨_, _, rfl⟩, s03, by rw [List.take_zero]; exact hp3⟩ (fun j σ' H' _ z => SqL.of (z.2.1 _ _ hl)) ?_ ?_
    · intro j y σ' Hz Ha hj ⟨⟨u2, u4, e⟩, sa, hpd⟩ ⟨eb, ex⟩
      subst e
      subst eb
      obtain ⟨z, hz, rfl⟩ := map_of ex
      have mz := pl z (List.mem_of_getElem? hz)
      refine ⟨_, rfl, _, rfl, q, z, t, rfl, .inl (sa _ _ hq), o, mz, fun pt H4 s4 npt hpt => ?_⟩
      have pdt : pd ≠ pt := ne_of_none hpd npt
      have nt0 : H pt = none := sa.free npt
      refine ⟨pt, rfl, ⟨_, .inl (.inl hpt)⟩, ?_⟩
      have nodup := path_nd o mz
      refine for_it walk_tup (fun i σ' H' => (∃ u2, σ' = [some (.ref q), some (.ref l), u2, some (.ref pd), some (.str z)]) ∧ Same H H' ∧ H' pt = some (.tup ((pathOf t z).map V.str)) ∧ H' pd = some (.dK (tblI ks fun a => szL t (zs.take j) a + if a ∈ (pathOf t z).take i then 1 else 0)))
        ⟨⟨_, rfl⟩, sa.trans s4, hpt, by rw [s4 _ _ hpd]; congr 2; exact tblI_congr fun a _ => by rw [List.take_zero, if_neg (fun h => nomatch h), Int.add_zero]⟩ (fun i σ' H' _ w => .inl (.inl w.2.2.1)) ?_ ?_
      · intro i y2 σ2 Hy Hb hi ⟨⟨u2', e⟩, sb, hpt', hpd'⟩ ⟨eb, ex⟩
        subst e
        subst eb
        obtain ⟨b, hb, rfl⟩ := map_of ex
        have mb := perm.mem_iff.mpr (path_all o mz b (List.mem_of_getElem? hb))
        have nb := nat_fresh nodup hb
        have dg : DGet Hb pd (.str b) (some (.int (szL t (zs.take j) b + 0))) := by
          have w := DGet.k (k := Sum.inr b) hpd'
          rw [tblI_val mb, if_neg nb] at w
          exact w
        refine ⟨_, rfl, _, rfl, pd, _, rfl, dg, _, _, rfl, rfl, _, rfl, _, rfl, pd, _, rfl, DPut.k (k := Sum.inr b) hpd' (by rw [tblI_len]; omega), ?_⟩
        rw [tblI_put mb]
        refine ⟨⟨_, rfl⟩, sb.put np0, by rw [upd_ne pdt.symm]; exact hpt', ?_⟩
        rw [upd_same, take_more hb]
        congr 2
        refine tblI_congr fun a _ => ?_
        by_cases w : a = b
        · rw [if_pos w, w, if_pos (List.mem_append_right _ (List.mem_singleton_self _)), Int.add_zero]
        · rw [if_neg w]
          by_cases m : a ∈ (pathOf t z).take i
          · rw [if_pos m, if_pos (List.mem_append_left _ m)]
          · rw [if_neg m, if_neg fun h => (List.mem_append.mp h).elim m fun h => w (List.mem_singleton.mp h)]
      · intro σ2 Hb ⟨⟨u2', e⟩, sb, hpt', hpd'⟩
        subst e
        rw [List.length_map, List.take_length] at hpd'
        refine ⟨⟨_, _, rfl⟩, sb, ?_⟩
        rw [hpd']
        congr 2
        exact tblI_congr fun a _ => (szL_more hz).symm
    · intro σ' H4 ⟨⟨u2, u4, e⟩, sa, hpd⟩
      subst e
      rw [List.length_map, List.take_length] at hpd
      exact ⟨_, rfl, k pd ks H4 sa np0 perm hpd⟩
end
end FT


/-! _law_residents -/
namespace FT
open PySem L2 TL ClX LiI
def spLawRes : Sp := fun vs H Q _ => ∃ (q qh : Addr) (n : Int) (t : List (Str × Str)) (l : List Str) (s : Str → Int), vs = [.ref q, .int n, .ref qh] ∧ H q = some (.dK (prs t)) ∧ TreeOk t ∧ H qh = some (.dK (tblI l s)) ∧ l.Perm (t.map Prod.fst) ∧
  ∀ (p : Addr) (H' : Hp) (ks : List Str), Same H H' → H p = none → ks.Perm (t.map Prod.fst) → PyProof.Rows.sortedS ks = true → H' p = some (.dK (tblI (("" : Str) :: ks) (resid t n s))) → Q (.ref p) H'
abbrev NLr : List Str := ["_law_above", "_law_many", "_law_how", "_law_found", "_law_name"]
theorem resid_nil (n : Int) (s : Str → Int) (a : Str) : resid [] n s a = if a = "" then n else s a := by
  unfold resid
  show (if a = "" then n else s a) - 0 = _
  omega
section
variable {P : Program} {w : World} {K : PySem.W.Frag} {mg : Str → Option Value} {base : Heap}
theorem scLr : FnScope NLr ["_law_above", "_law_many", "_law_how"] (defScope s__law_residents) := ⟨rfl, rfl, rfl, by decide +kernel, rfl, by decide +kernel, by decide +kernel⟩
theorem ok_lawRes {f : Addr} {fd : FuncData} (F : Fun K "_law_residents" "_law_residents" s__law_residents f fd) (N : Nm mg) : FnOk P w K mg base CX0 1 f fd ["_law_above", "_law_many", "_law_how"] spLawRes := by
  refine F.ok scLr (fun vs H Q E h => ?_) (fun cdv A outer s H vs Q E hr h => ?_)
  · obtain ⟨q, qh, n, t, l, s, rfl, _⟩ := h
    rfl
  · obtain ⟨q, qh, n, t, l, s, rfl, hq, o, hh, pl, k⟩ := h
    have hu := hu_of hr
    have nd := scLr.nd
    have big : 1000 ≤ sizeLine := by decide
    have few := o.few
    refine ⟨_, pss_cons (ps_set (i := 3) nd rfl (.inl rfl) (pe_disp (pps_cons pe_str (pv 1) pps_nil) (by rfl) (by rfl) (fun z => by cases z) (by decide)))
      (pss_cons (ps_for PassesOwn.never rfl (pi_list (pe_callB (call_sortedD rfl) (by rfl) N.srt (by decide +kernel) (pa_cons (pv 0) pa_nil))) (pg_name (i := 4) nd rfl (.inl rfl))
        (pss_one (ps_dput hu (pv 3) (pv 4) (pe_dget hu (pv 2) (pv 4) (fun _ _ => rfl)) rfl)))
      (pss_cons (ps_lock (ps_for PassesOwn.never rfl (pi_keys (pv 0)) (pg_name (i := 4) nd rfl (.inl rfl))
        (pss_one (ps_dput hu (pv 3) (pe_dget hu (pv 0) (pv 4) (fun _ _ => rfl)) (pe_op op_sub (pe_dget hu (pv 3) (pe_dget hu (pv 0) (pv 4) (fun _ _ => rfl)) (fun _ _ => rfl)) (pe_dget hu (pv 2) (pv 4) (fun _ _ => rfl))) rfl))))
      (pss_one (ps_ret (pv 3))))), ?_⟩
    refine fun D nD => ⟨_, rfl, upd_same, [(Sum.inr "", V.int n)], rfl, by show 1 ≤ 15; omega, ?_⟩
    obtain ⟨H1, e1⟩ : ∃ X, X = upd (upd H D (.dK [])) D (.dK (mergeK [] [(Sum.inr "", V.int n)])) := ⟨_, rfl⟩
    have s1 : Same H H1 := e1 ▸ (same_new nD).put nD
    have a1 : H1 D = some (.dK (tblI [""] (resid [] n s))) := by
      rw [e1, upd_same]
      show some (HO.dK [(Sum.inr "", V.int n)]) = some (HO.dK [(Sum.inr "", V.int (resid [] n s ""))])
      rw [resid_nil, if_pos rfl]
    rw [← e1]
    have Dq : D ≠ q := (ne_of_none hq nD).symm
    refine ⟨_, rfl, q, prs t, t.map Prod.fst, rfl, .inl (s1 _ _ hq), prs_keys t, by rw [List.length_map]; omega, fun ks p perm srt np => ⟨p, rfl, ⟨_, SqL.of upd_same⟩, ?_⟩⟩
    have lk := perm.length_eq
    rw [List.length_map] at lk
    have ndk : ks.Nodup := perm.nodup_iff.mpr o.nd
    have rk0 : ("" : Str) ∉ ks := fun z => o.root (perm.mem_iff.mp z)
    have pD : p ≠ D := (ne_of_none a1 np).symm
    obtain ⟨H2, e2⟩ : ∃ X, X = upd H1 p (.lst (ks.map V.str)) := ⟨_, rfl⟩
    have s12 : Same H1 H2 := e2 ▸ same_new np
    have a2 : H2 p = some (.lst (ks.map V.str)) := by rw [e2]; exact upd_same
    rw [← e2]
    refine for_it walk_list (fun j σ' H' => (∃ u4, σ' = [some (.ref q), some (.int n), some (.ref qh), some (.ref D), u4]) ∧ Same H H' ∧ H' p = some (.lst (ks.map V.str)) ∧ H' D = some (.dK (tblI ("" :: ks.take j) (resid [] n s))))
      ⟨⟨_, rfl⟩, s1.trans s12, a2, s12 _ _ a1⟩ (fun j σ' H' _ z => SqL.of z.2.2.1) ?_ ?_
    · intro j y σ' Ha Hb hj ⟨⟨u4, e⟩, sa, ap, aD⟩ ⟨eb, ex⟩
      subst e
      subst eb
      obtain ⟨a, ha, rfl⟩ := map_of ex
      have ma := List.mem_of_getElem? ha
      have mt := perm.mem_iff.mp ma
      have an : a ≠ "" := fun z => rk0 (by rw [← z]; exact ma)
      have dg : DGet Hb qh (.str a) (some (.int (s a))) := by
        have z := DGet.k (k := Sum.inr a) (sa _ _ hh)
        rw [tblI_val (pl.mem_iff.mpr mt)] at z
        exact z
      have fresh : a ∉ ("" : Str) :: ks.take j := fun m => (List.mem_cons.mp m).elim an (fresh_at ndk ha rfl)
      refine ⟨_, rfl, _, rfl, qh, .int (s a), rfl, dg, _, rfl, _, rfl, D, _, rfl, DPut.k (k := Sum.inr a) aD (by rw [tblI_len, List.length_cons, List.length_take]; omega), ⟨_, rfl⟩, Same.put sa nD, by rw [upd_ne pD]; exact ap, ?_⟩
      rw [upd_same, tblI_snoc fresh (by rw [resid_nil, if_neg an]), take_more ha] <;> rfl
    intro σ' H3 ⟨⟨u4, e⟩, sa, ap, aD⟩
    subst e
    rw [List.length_map, List.take_length] at aD
    have hq3 := sa _ _ hq
    refine ⟨q, _, hq3, trivial, fun od => ⟨_, rfl, q, od, rfl, .inl ⟨_, upd_same, ?_⟩⟩⟩
    have Dq' : D ≠ q := Dq
    have qhq : qh ≠ D := ne_of_none hh nD
    refine for_it walk_keys (fun j σ' H' => (∃ u4, σ' = [some (.ref q), some (.int n), some (.ref qh), some (.ref D), u4]) ∧ H' q = some (.frz od (.dK (prs t))) ∧ (∀ b u, b ≠ q → H b = some u → H' b = some u) ∧ H' D = some (.dK (tblI ("" :: ks) (resid (t.take j) n s))))
      ⟨⟨_, rfl⟩, upd_same, fun b u nb e => by rw [upd_ne nb]; exact sa _ _ e, by rw [upd_ne Dq]; exact aD⟩ (fun j σ' H' _ z => z.2.1) ?_ ?_
    · intro j y σ' Ha Hb hj ⟨⟨u4, e⟩, aq, sb, aD⟩ ⟨eb, kk, vv, hk, ey⟩
      subst e
      subst eb
      subst ey
      obtain ⟨⟨a, pa⟩, hp, ee⟩ : ∃ x : Str × Str, t[j]? = some x ∧ (kk, vv) = (Sum.inr x.1, V.str x.2) := by
        unfold prs kvT at hk
        rw [List.map_map, List.getElem?_map] at hk
        obtain ⟨x, hx, z⟩ := Option.map_eq_some_iff.mp hk
        exact ⟨x, hx, z.symm⟩
      cases ee
      rw [show kV (Sum.inr a) = V.str a from rfl]
      have mp := List.mem_of_getElem? hp
      have mk : a ∈ t.map Prod.fst := List.mem_map.mpr ⟨_, mp, rfl⟩
      have ep := par_of o.nd mp
      obtain ⟨rk, r⟩ := o.up
      have mpa : pa ∈ ("" : Str) :: ks := List.mem_cons.mpr ((r _ mp).2.imp id fun z => perm.mem_iff.mpr z.1)
      have dg : DGet Hb q (.str a) (some (.str pa)) := .inl ⟨_, Sum.inr a, .inr ⟨od, aq⟩, rfl, by rw [val_prs, ep] <;> rfl⟩
      have nqh : qh ≠ q := ne_of hh hq (by
        intro z
        have := HO.dK.inj z
        have l1 := congrArg List.length this
        cases t with
        | nil => cases mp
        | cons x t =>
          cases l with
          | nil => cases l1
          | cons y l => cases this)
      refine ⟨_, rfl, _, rfl, _, rfl, q, _, rfl, dg, D, .int (resid (t.take j) n s pa), rfl, ?_, ?_⟩
      · have z := DGet.k (k := Sum.inr pa) aD
        rw [tblI_val mpa] at z
        exact z
      · refine ⟨_, rfl, _, rfl, qh, .int (s a), rfl, ?_, _, _, rfl, rfl, ?_⟩
        · have z := DGet.k (k := Sum.inr a) (sb _ _ nqh hh)
          rw [tblI_val (pl.mem_iff.mpr mk)] at z
          exact z
        · refine ⟨_, rfl, _, rfl, _, rfl, q, _, rfl, dg, D, _, rfl, DPut.k (k := Sum.inr pa) aD (by rw [tblI_len, List.length_cons]; omega), ⟨_, rfl⟩, by rw [upd_ne Dq.symm]; exact aq, fun b u nb e => ?_, ?_⟩
          · rw [upd_ne (ne_of_none e nD)]
            exact sb b u nb e
          · rw [upd_same, tblI_put mpa, take_more hp]
            congr 2
            refine tblI_congr fun b hb => ?_
            rw [resid_snoc]
            show (if b = pa then _ else _) = if pa = b then _ else _
            by_cases e : b = pa
            · rw [if_pos e, if_pos e.symm, e]
            · rw [if_neg e, if_neg fun z => e z.symm]
    · intro σ' H4 ⟨⟨u4, e⟩, aq, sb, aD⟩
      subst e
      rw [show (prs t).length = t.length from prs_len t, List.take_length] at aD
      refine ⟨aq, _, rfl, k D _ ks (fun b u e => ?_) nD perm srt (by rw [upd_ne Dq]; exact aD)⟩
      by_cases z : b = q
      · subst z
        rw [hq] at e
        rw [upd_same]
        exact e
      · rw [upd_ne z]
        exact sb b u z e
end
end FT


/-! _law_best_lists: all lists with the fewest toggles -/
namespace FT
open PySem L2 TL ClX LiI
def spBestLists : Sp := fun vs H Q _ => ∃ (q l ql : Addr) (t : List (Str × Str)) (zs : List Str) (lo : List Str) (sl : Str → Int), vs = [.ref q, .ref l, .ref ql] ∧ H q = some (.dK (prs t)) ∧ TreeOk t ∧ t.length ≤ 4 ∧ H l = some (.lst (zs.map V.str)) ∧ (∀ z ∈ zs, Pl t z) ∧ 1 ≤ zs.length ∧ zs.length ≤ 5 ∧ H ql = some (.dK (tblI lo sl)) ∧ lo.Perm (t.map Prod.fst) ∧ Fea t (zs.length : Int) sl ∧
  ∀ (p : Addr) (xs : List V) (H' : Hp), Same H H' → H' p = some (.lst xs) → xs.length = cntN t (zs.length : Int) (szL t zs) sl → Q (.ref p) H'
theorem root_firstL {ks : List Str} (h : PyProof.Rows.sortedS ks = true) : PyProof.Rows.sortedS (("" : Str) :: ks) = true := by
  cases ks with
  | nil => rfl
  | cons x r =>
    show PyProof.Rows.risingS ("" : Str) (x :: r) = true
    have h' : PyProof.Rows.risingS x r = true := h
    unfold PyProof.Rows.risingS
    rw [h']
    generalize x.cps.toList = xs
    cases xs <;> rfl
theorem ev_all (o : TreeOk t) {ks : List Str} (pk : ks.Perm (plc t)) : ∀ (n : Nat) (s : Str → Int), Fea t (n : Int) s → ∀ W ∈ evN ks n (resid t (n : Int) s), W.length = n ∧ ∀ z ∈ W, Pl t z
  | 0, s, f, W, h => by
    have : W = [] := List.mem_singleton.mp h
    rw [this]
    exact ⟨rfl, fun z hz => nomatch hz⟩
  | n + 1, s, f, W, h => by
    have h2 : W ∈ ks.flatMap fun g => if 0 < resid t ((n : Int) + 1) s g then (evN ks n (lessF (resid t ((n : Int) + 1) s) g)).map (g :: ·) else [] := h
    obtain ⟨g, hg, hW⟩ := List.mem_flatMap.mp h2
    have pg : Pl t g := List.mem_cons.mp (pk.mem_iff.mp hg)
    by_cases pos : 0 < resid t ((n : Int) + 1) s g
    · rw [if_pos pos, ev_less o pk _ pg] at hW
      obtain ⟨R, hR, rfl⟩ := List.mem_map.mp hW
      obtain ⟨i1, i2⟩ := ev_all o pk n (lessS t s g) (fea_less o f pg pos) R hR
      exact ⟨by rw [List.length_cons, i1], fun z hz => (List.mem_cons.mp hz).elim (fun e => e ▸ pg) (i2 z)⟩
    · rw [if_neg pos] at hW
      cases hW
theorem res_plc (o : TreeOk t) {n : Int} {s : Str → Int} {ks : List Str} (pk : ks.Perm (plc t)) : (ks.map (resid t n s)).sum = n := by
  rw [sum_perm (pk.map _)]
  exact resid_sum o
section
variable {P : Program} {w : World} {K : PySem.W.Frag} {mg : Str → Option Value} {base : Heap}
abbrev NBl : List Str := ["_law_above", "_law_here", "_law_later", "_law_every_here", "_law_rows", "_law_there", "_law_at", "_law_spot", "_law_far_here"]
theorem scBl : FnScope NBl ["_law_above", "_law_here", "_law_later"] (defScope s__law_best_lists) := ⟨rfl, rfl, rfl, by decide +kernel, rfl, by decide +kernel, by decide +kernel⟩
theorem ok_bestLists {f fE fR fF : Addr} {fd fdE fdR fdF : FuncData} (F : Fun K "_law_best_lists" "_law_best_lists" s__law_best_lists f fd) (T : Nm mg) (EV : ∀ m, Dn P w K mg base CX0 (m + 1) "_law_every" ["_law_above", "_law_left"] (spEvery m) fE fdE)
    (LR : Dn P w K mg base CX0 1 "_law_residents" ["_law_above", "_law_many", "_law_how"] spLawRes fR fdR) (FA : Dn P w K mg base CX0 2 "_law_far" ["_law_above", "_law_spot", "_law_goal"] spFar fF fdF) : FnOk P w K mg base CX0 7 f fd ["_law_above", "_law_here", "_law_later"] spBestLists := by
  refine F.ok scBl (fun vs H Q E h => ?_) (fun cdv A outer s H vs Q E hr h => ?_)
  · obtain ⟨q, l, ql, t, zs, lo, sl, rfl, _⟩ := h
    rfl
  · obtain ⟨q, l, ql, t, zs, lo, sl, rfl, hq, o, t4, hl, pl, n1, n5, hql, plo, fe, k⟩ := h
    have nd := scBl.nd
    have hr1 : Room 1 _ := hr.mono (by decide)
    have hr2 : Room 2 _ := hr.mono (by decide)
    have hre : Room (zs.length + 1) _ := hr.mono (by omega)
    have big : 4000 ≤ sizeLine := by decide
    refine ⟨_, pss_cons (ps_set (i := 3) nd rfl (.inl rfl) (pe_call (EV zs.length).ok hre rfl (EV zs.length).mgn (EV zs.length).kp (EV zs.length).bn .nil pass0 (pa_cons (pv 0) (pa_cons (pe_call LR.ok hr1 rfl LR.mgn LR.kp LR.bn .nil pass0 (pa_cons (pv 0) (pa_cons (pe_callB call_len_seq (by rfl) T.len PySem.boot_len (pa_cons (pv 1) pa_nil)) (pa_cons (pv 2) pa_nil)))) pa_nil))))
      (pss_cons (ps_set (i := 4) nd rfl (.inr rfl) (pe_lst pa_nil))
      (pss_cons (ps_for PassesOwn.never rfl (pi_list (pv 3)) (pg_name (i := 5) nd rfl (.inr rfl))
        (pss_one (ps_expr (pe_bm PySem.F.plainAttrs_list PySem.F.slot_list_append PySem.F.type_list_append mt_append (pv 4) (pa_cons (pe_callB (cr_sum rfl) (by rfl) T.sum (by decide +kernel) (pa_cons (pe_lc (own := [("_law_at", 6), ("_law_spot", 7)]) (g := gTup K 2 (gCons (gName 6) (gCons (gName 7) gNil))) (tt := tYes) (te := tCall spFar [] E0 (tCons (tVar 0) (tCons (tVar 7) (tCons (tOp (rIxL K) (tVar 5) (tVar 6)) tNil)))) rfl nd (pi_enum rfl T.enu (pa_cons (pv 1) pa_nil)) (blkOk_by (N := NBl) (sc := defScope s__law_best_lists) (by decide +kernel))
            (fun _ _ _ _ _ => pg_tup rfl (pgs_cons (pg_name (i := 6) nd rfl (Or.inl rfl)) (pgs_cons (pg_name (i := 7) nd rfl (Or.inl rfl)) pgs_nil))) (fun _ _ _ _ _ => pts_nil) (fun _ _ _ _ _ => pe_call FA.ok hr2 rfl FA.mgn FA.kp FA.bn .nil pass0 (pa_cons (pv 0) (pa_cons (pv 7) (pa_cons (pe_ix ix_list (pv 5) (pv 6) (fun _ _ => rfl)) pa_nil))))) pa_nil)) pa_nil)))))
      (pss_one (ps_ret (pe_lc (own := [("_law_there", 5), ("_law_far_here", 8)]) (g := gTup K 2 (gCons (gName 5) (gCons (gName 8) gNil))) (tt := tTest (tOp rEq (tVar 8) (tCB (rMin K) (tCons (tVar 4) tNil)))) (te := tVar 5) rfl nd (pi_zip rfl T.zip (pa_cons (pv 3) (pa_cons (pv 4) pa_nil))) (blkOk_by (N := NBl) (sc := defScope s__law_best_lists) (by decide +kernel))
            (fun _ _ _ _ _ => pg_tup rfl (pgs_cons (pg_name (i := 5) nd rfl (Or.inl rfl)) (pgs_cons (pg_name (i := 8) nd rfl (Or.inl rfl)) pgs_nil))) (fun _ _ _ _ _ => pts_one (pt_cmpR op_eq (pv 8) (pe_callB (cr_min rfl) (by rfl) T.min (by decide +kernel) (pa_cons (pv 4) pa_nil)) (nomark _))) (fun _ _ _ _ _ => pv 5)))))), ?_⟩
    refine ⟨_, rfl, _, rfl, _, rfl, l, _, rfl, .inl (SqL.of hl), _, rfl, q, ql, (zs.length : Int), t, lo, sl, by rw [List.length_map] <;> rfl, hq, o, hql, plo, fun pr H4 ks s04 npr pks sks hpr => ?_⟩
    have pk0 : (("" : Str) :: ks).Perm (plc t) := pks.cons _
    have lks := pks.length_eq
    rw [List.length_map] at lks
    refine ⟨q, pr, "" :: ks, "" :: ks, resid t (zs.length : Int) sl, rfl, hpr, pk0.nodup_iff.mpr (plc_nd o), .refl _, root_firstL sks, by rw [List.length_cons]; omega, n5, fun a ha => fe.res a (pk0.mem_iff.mp ha), res_plc o pk0, fun pe rs H5 s45 npe hpe prd => ?_⟩
    have cnt := best_cnt o pk0 zs sl pl fe
    have low := ev_low o pk0 zs sl fe
    have eva := ev_all o pk0 zs.length sl fe
    obtain ⟨EW, eEW⟩ : ∃ EW, EW = evN (("" : Str) :: ks) zs.length (resid t (zs.length : Int) sl) := ⟨_, rfl⟩
    have lev : EW.length ≤ 3125 := by
      have z := evN_len (("" : Str) :: ks) zs.length (resid t (zs.length : Int) sl)
      have z2 : (("" : Str) :: ks).length ^ zs.length ≤ 5 ^ 5 := Nat.le_trans (Nat.pow_le_pow_left (by rw [List.length_cons]; omega) _) (Nat.pow_le_pow_right (by decide) n5)
      have : (5 : Nat) ^ 5 = 3125 := by decide
      rw [eEW]
      omega
    rw [← eEW] at prd cnt low eva
    have lrs := pair_lenZ prd
    have s5 := s04.trans s45
    refine ⟨by show 0 ≤ sizeLine; omega, fun fl nfl => ?_⟩
    have s56 := same_new (o := .lst []) nfl
    obtain ⟨H6, e6⟩ : ∃ X, X = upd H5 fl (.lst []) := ⟨_, rfl⟩
    rw [← e6] at s56 ⊢
    have hfl6 : H6 fl = some (.lst []) := by rw [e6]; exact upd_same
    have off : ∀ {b : Addr} {u : HO}, H5 b = some u → b ≠ fl := fun e => ne_of_none e nfl
    have hl5 := s5 _ _ hl
    have hq5 := s5 _ _ hq
    have hpe6 := s56 _ _ hpe
    have pfl := off hpe
    have lfl := off hl5
    have qfl := off hq5
    refine ⟨_, rfl, pe, rfl, ⟨_, SqL.of hpe6⟩, ?_⟩
    refine for_it walk_list (fun i σ' H' => (∃ u5, σ' = [some (.ref q), some (.ref l), some (.ref ql), some (.ref pe), some (.ref fl), u5, none, none, none]) ∧ (∀ b u, b ≠ fl → H6 b = some u → H' b = some u) ∧ H' fl = some (.lst (((EW.take i).map fun W => dS t zs W).map V.int))) ⟨⟨_, rfl⟩, fun _ _ _ e => e, hfl6⟩ (fun i σ' H' _ z => SqL.of (z.2.1 _ _ pfl hpe6)) ?_ ?_
    · intro i yv σ' Hz Ha hi ⟨⟨u4, eσ⟩, sa, hfl⟩ ⟨eb, ex⟩
      subst eσ
      subst eb
      obtain ⟨r, hr', rfl⟩ := map_of (f := V.ref) (l := rs) ex
      obtain ⟨W, hW, hrW⟩ := LiI.paired_get prd hr'
      have mW := eva W (List.mem_of_getElem? hW)
      have il := (List.getElem?_eq_some_iff.mp hW).1
      have rfl' : r ≠ fl := off hrW
      have ka : ∀ {b u}, H5 b = some u → Ha b = some u := fun h => sa _ _ (off h) (s56 _ _ h)
      refine ⟨_, rfl, .inl ⟨rfl, _, SqL.of hfl⟩, _, rfl, l, _, rfl, SqL.of (ka hl5), fun D nD => ?_⟩
      refine lc_it walk_enum (fun j H' => Same Ha H' ∧ H' D = some (.lst ((((zs.zip W).take j).map fun e => distT t e.1 e.2).map V.int))) ⟨same_new nD, upd_same⟩ (fun j H' _ w => SqL.of (w.1 _ _ (ka hl5))) ?_ ?_
      · intro j TT Hx Hb hj ⟨q1, q2⟩ ⟨T', y1, z, eT, nT, eH, ey, ez⟩
        subst eT
        subst eH
        cases ey
        obtain ⟨b, hb, rfl⟩ := map_of (f := V.str) (l := zs) (show (zs.map V.str)[j]? = some z from ez)
        have jl := (List.getElem?_eq_some_iff.mp hb).1
        have lW := mW.1
        have hb' : W[j]? = some W[j] := List.getElem?_eq_getElem (by omega)
        obtain ⟨b', eb'⟩ : ∃ b', b' = W[j] := ⟨_, rfl⟩
        rw [← eb'] at hb'
        have ez' : (zs.zip W)[j]? = some (b, b') := by
          rw [List.getElem?_zip_eq_some]
          exact ⟨hb, hb'⟩
        have sT := q1.trans (same_new (o := .tup [.int (j : Int), .str b]) nT)
        refine ⟨T', [.int (j : Int), .str b], rfl, .inl (.inl upd_same), rfl, _, _, rfl, _, _, rfl, rfl, rfl, ?_⟩
        refine ⟨_, rfl, _, rfl, _, rfl, _, rfl, r, _, _, .str b', rfl, rfl, SqL.of (sT _ _ (ka hrW)), atI_nat (by rw [List.getElem?_map, hb'] <;> rfl), q, b, b', t, rfl, sT _ _ (ka hq5), o, pl b (List.mem_of_getElem? hb), mW.2 b' (List.mem_of_getElem? hb'), fun Hd sd => ?_⟩
        exact ⟨_, sd _ _ (same_new nT _ _ q2), by rw [List.length_map, List.length_map, List.length_take, List.length_zip]; omega, (sT.trans sd).put nD, by rw [upd_same, take_more ez', List.map_append, List.map_append] <;> rfl⟩
      intro Hb ⟨q1, q2⟩
      rw [List.length_map, show zs.length = (zs.zip W).length by rw [List.length_zip, mW.1]; omega, List.take_length] at q2
      refine ⟨D, _, rfl, SqL.of q2, fl, _, _, rfl, rfl, q1 _ _ hfl, by rw [List.length_map, List.length_map, List.length_take]; omega, ?_⟩
      refine ⟨⟨_, rfl⟩, fun b u n e => by rw [upd_ne n]; exact q1 _ _ (sa _ _ n e), ?_⟩
      rw [upd_same, take_more hW, List.map_append, List.map_append] <;> rfl
    intro σ' H9 ⟨⟨u4, eσ⟩, sa, hfl⟩
    subst eσ
    rw [List.length_map, lrs, List.take_length] at hfl
    have k9 : ∀ {b u}, H5 b = some u → H9 b = some u := fun h => sa _ _ (off h) (s56 _ _ h)
    have hpe9 := k9 hpe
    have cpos := cnt_pos (s1 := szL t zs) o fe
    rw [← cnt] at cpos
    obtain ⟨W0, mW0⟩ := List.exists_mem_of_length_pos cpos
    obtain ⟨mE0, dW0⟩ := List.mem_filter.mp mW0
    have dW0 : dS t zs W0 = lS t sl zs := of_decide_eq_true dW0
    refine ⟨_, rfl, _, rfl, pe, fl, _, _, rfl, SqL.of hpe9, SqL.of hfl, fun D nD => ?_⟩
    refine lc_it (walk_zip rfl) (fun i H' => Same H9 H' ∧ ∃ xs : List V, H' D = some (.lst xs) ∧ xs.length = ((EW.take i).filter fun W => decide (dS t zs W = lS t sl zs)).length) ⟨same_new nD, [], upd_same, rfl⟩ (fun i H' _ z => ⟨SqL.of (z.1 _ _ hpe9), SqL.of (z.1 _ _ hfl)⟩) ?_ ?_
    · intro i TT Hx He hi ⟨z1, xs, hD, lx⟩ ⟨T', x, y, eT, nT, eH, ex, ey⟩
      subst eT
      subst eH
      obtain ⟨r, hr', rfl⟩ := map_of (f := V.ref) (l := rs) ex
      obtain ⟨z, hz, rfl⟩ := map_of (f := V.int) (l := EW.map fun W => dS t zs W) ey
      rw [List.getElem?_map] at hz
      obtain ⟨W, hW, rfl⟩ := Option.map_eq_some_iff.mp hz
      have sT : Same Hx (upd Hx T' (.tup [.ref r, .int (dS t zs W)])) := same_new nT
      refine ⟨T', _, rfl, .inl (.inl upd_same), rfl, _, _, rfl, _, _, rfl, rfl, rfl, ?_⟩
      refine ⟨_, rfl, _, rfl, fl, _, rfl, SqL.of (sT _ _ (z1 _ _ hfl)), by rw [List.length_map]; exact List.length_pos_of_mem mE0, fun m hm lo' => ⟨rfl, _, rfl, ?_⟩⟩
      have mE : m = lS t sl zs := by
        obtain ⟨W1, h1, e1⟩ := List.mem_map.mp hm
        have a := lo' _ (List.mem_map.mpr ⟨W0, mE0, rfl⟩)
        have b := low W1 h1
        omega
      have more : ((EW.take (i + 1)).filter fun W => decide (dS t zs W = lS t sl zs)) = ((EW.take i).filter fun W => decide (dS t zs W = lS t sl zs)) ++ if dS t zs W = lS t sl zs then [W] else [] := by
        rw [take_more hW, List.filter_append, List.filter_cons, List.filter_nil]
        by_cases e : dS t zs W = lS t sl zs
        · rw [if_pos e, if_pos (decide_eq_true e)]
        · rw [if_neg e, if_neg (by rw [decide_eq_false e]; decide)]
      have lf := List.length_filter_le (fun W => decide (dS t zs W = lS t sl zs)) (EW.take i)
      rw [List.length_take] at lf
      rw [mE]
      by_cases e : dS t zs W = lS t sl zs
      · rw [decide_eq_true (show V.int (dS t zs W) = V.int (lS t sl zs) by rw [e])]
        show if true = true then _ else _
        rw [if_pos rfl]
        refine ⟨_, rfl, xs, sT _ _ hD, by omega, (z1.trans sT).put nD, xs ++ [.ref r], upd_same, ?_⟩
        rw [more, if_pos e, List.length_append, List.length_append, lx] <;> rfl
      · rw [decide_eq_false (show ¬ V.int (dS t zs W) = V.int (lS t sl zs) from fun w => e (V.int.inj w))]
        refine iteF ⟨z1.trans sT, xs, sT _ _ hD, ?_⟩
        rw [more, if_neg e, List.append_nil, lx]
    · intro H10 ⟨z1, xs, hD, lx⟩
      rw [List.length_map, List.length_map, lrs, List.length_map, Nat.min_self, List.take_length, cnt] at lx
      exact k D xs H10 (fun b u h => z1 _ _ (k9 (s5 _ _ h))) hD lx
end
end FT


/-! _law_choose; the number of best changes place by place -/
namespace FT
open PySem L2 TL ClX LiI
def chN (n : Nat) : Nat → Nat
  | 0 => 1
  | k + 1 => chN n k * (n - k) / (k + 1)
theorem chN_mul (n : Nat) : ∀ k : Nat, k ≤ n → chN n k * (fct k * fct (n - k)) = fct n
  | 0, _ => by
    show 1 * (1 * fct (n - 0)) = fct n
    rw [Nat.one_mul, Nat.one_mul, Nat.sub_zero]
  | k + 1, h => by
    have i := chN_mul n k (by omega)
    obtain ⟨m, hm⟩ := fct_dvd n (k + 1) (n - (k + 1)) (by omega)
    obtain ⟨j, hj⟩ : ∃ j, n - k = j + 1 := ⟨n - k - 1, by omega⟩
    have hj' : n - (k + 1) = j := by omega
    rw [hj] at i
    rw [hj'] at hm ⊢
    have e1 : chN n k * (j + 1) * (fct k * fct j) = (k + 1) * m * (fct k * fct j) := by
      have a : chN n k * (j + 1) * (fct k * fct j) = chN n k * (fct k * fct (j + 1)) := by
        show _ = chN n k * (fct k * ((j + 1) * fct j))
        ac_rfl
      have b : (k + 1) * m * (fct k * fct j) = fct (k + 1) * fct j * m := by
        show _ = (k + 1) * fct k * fct j * m
        ac_rfl
      rw [a, b, i, hm]
    have e2 : chN n k * (j + 1) = (k + 1) * m := Nat.eq_of_mul_eq_mul_right (Nat.mul_pos (fct_pos _) (fct_pos _)) e1
    show chN n k * (n - k) / (k + 1) * (fct (k + 1) * fct j) = fct n
    rw [hj, e2, Nat.mul_div_cancel_left _ (Nat.succ_pos k), hm, Nat.mul_comm]
theorem chN_le {n k : Nat} (h : k ≤ n) : chN n k ≤ fct n := by
  rw [← chN_mul n k h]
  exact Nat.le_mul_of_pos_right _ (Nat.mul_pos (fct_pos _) (fct_pos _))
/-- the groups that leave, one after the other -/
def pwN (P : Nat) : List Nat → Nat
  | [] => 1
  | a :: as => chN P a * pwN (P - a) as
theorem pwN_snoc : ∀ (as : List Nat) (P a : Nat), pwN P (as ++ [a]) = pwN P as * chN (P - as.sum) a
  | [], P, a => by
    show chN P a * 1 = 1 * chN (P - 0) a
    rw [Nat.mul_one, Nat.one_mul, Nat.sub_zero]
  | b :: as, P, a => by
    show chN P b * pwN (P - b) (as ++ [a]) = chN P b * pwN (P - b) as * chN (P - (b :: as).sum) a
    rw [pwN_snoc as, List.sum_cons, Nat.mul_assoc, Nat.sub_sub]
theorem pwN_mul : ∀ (as : List Nat) (P : Nat), as.sum ≤ P → pwN P as * (fprod as * fct (P - as.sum)) = fct P
  | [], P, _ => by
    show 1 * (1 * fct (P - 0)) = fct P
    rw [Nat.one_mul, Nat.one_mul, Nat.sub_zero]
  | a :: as, P, h => by
    rw [List.sum_cons] at h
    have i := pwN_mul as (P - a) (by omega)
    have c := chN_mul P a (by omega)
    rw [List.sum_cons]
    show chN P a * pwN (P - a) as * (fct a * fprod as * fct (P - (a + as.sum))) = fct P
    rw [Nat.sub_sub] at i
    rw [← c, ← i]
    ac_rfl
theorem pwN_le {as : List Nat} {P : Nat} (h : as.sum ≤ P) : pwN P as ≤ fct P := by
  rw [← pwN_mul as P h]
  exact Nat.le_mul_of_pos_right _ (Nat.mul_pos (fprod_pos _) (fct_pos _))
theorem prd_lt {b : Nat} : ∀ {l : List Nat}, (∀ x ∈ l, x < 2 ^ b) → prd l < 2 ^ (b * l.length + 1)
  | [], _ => by
    show 1 < 2 ^ (b * 0 + 1)
    rw [Nat.mul_zero]
    decide
  | x :: l, h => by
    have i := prd_lt fun y hy => h y (List.mem_cons_of_mem x hy)
    rw [List.length_cons, Nat.mul_add, Nat.mul_one, show b * l.length + b + 1 = b + (b * l.length + 1) by omega, Nat.pow_add]
    exact Nat.mul_lt_mul'' (h x (List.mem_cons_self ..)) i
/-- the law's number, place by place -/
def lwN (ts : List (Str × Str)) (n : Int) (s1 s2 : Str → Int) (ds : List Str) : Nat := prd (ds.map fun p => pwN (preN ts n s1 s2 p) (outN ts s1 s2 p))
theorem lwN_snoc {ts : List (Str × Str)} {n : Int} {s1 s2 : Str → Int} {ds : List Str} {p : Str} : lwN ts n s1 s2 (ds ++ [p]) = lwN ts n s1 s2 ds * pwN (preN ts n s1 s2 p) (outN ts s1 s2 p) := by
  unfold lwN
  rw [List.map_append, prd_app]
  show _ * (_ * 1) = _
  rw [Nat.mul_one]
theorem lwN_cnt {ts : List (Str × Str)} {n : Int} {s1 s2 : Str → Int} (o : TreeOk ts) (f2 : Fea ts n s2) {ds : List Str} (p : ds.Perm (plc ts)) : lwN ts n s1 s2 ds = cntN ts n s1 s2 := by
  have le : ∀ q ∈ plc ts, (outN ts s1 s2 q).sum ≤ preN ts n s1 s2 q := fun q hq => by
    obtain ⟨a, b⟩ := pre_nn (s1 := s1) o f2 hq
    unfold preN
    omega
  have m := wy_mul (pre := preN ts n s1 s2) (out := outN ts s1 s2) (plc ts) 1 le
  have e : lwN ts n s1 s2 ds * prd ((plc ts).map fun p => fprod (grp (preN ts n s1 s2) (outN ts s1 s2) p)) = 1 * prd ((plc ts).map fun p => fct (preN ts n s1 s2 p)) := by
    unfold lwN
    rw [prd_perm (p.map _), ← prd_mul, Nat.one_mul]
    congr 1
    refine List.map_congr_left fun q hq => ?_
    unfold grp
    rw [fprod_snoc]
    exact pwN_mul _ _ (le q hq)
  have W : cntN ts n s1 s2 * prd ((plc ts).map fun p => fprod (grp (preN ts n s1 s2) (outN ts s1 s2) p)) = 1 * prd ((plc ts).map fun p => fct (preN ts n s1 s2 p)) := m
  rw [← W] at e
  exact Nat.eq_of_mul_eq_mul_right (prd_pos fun x h => by
    obtain ⟨q, _, rfl⟩ := List.mem_map.mp h
    exact fprod_pos _) e
def spChoose : Sp := fun vs H Q _ => ∃ n k : Nat, vs = [.int (n : Int), .int (k : Int)] ∧ k ≤ n ∧ n ≤ 300 ∧ Q (.int (chN n k : Int)) H
section
variable {P : Program} {w : World} {K : PySem.W.Frag} {mg : Str → Option Value} {base : Heap}
abbrev NCh : List Str := ["_law_many", "_law_some", "_law_found", "_law_at"]
theorem scCh : FnScope NCh ["_law_many", "_law_some"] (defScope s__law_choose) := ⟨rfl, rfl, rfl, by decide +kernel, rfl, by decide +kernel, by decide +kernel⟩
theorem ok_choose {f : Addr} {fd : FuncData} (F : Fun K "_law_choose" "_law_choose" s__law_choose f fd) (N : Nm mg) : FnOk P w K mg base CX0 1 f fd ["_law_many", "_law_some"] spChoose := by
  refine F.ok scCh (fun vs H Q E h => ?_) (fun cdv A outer s H vs Q E hr h => ?_)
  · obtain ⟨n, k, rfl, _⟩ := h
    rfl
  · obtain ⟨n, k, rfl, kn, n3, q⟩ := h
    have nd := scCh.nd
    refine ⟨_, pss_cons (ps_set (i := 2) nd rfl (.inl rfl) pe_int)
      (pss_cons (ps_for PassesOwn.never rfl (pi_range1 rfl N.rng (pa_cons (pv 1) pa_nil)) (pg_name (i := 3) nd rfl (.inl rfl))
        (pss_one (ps_set (i := 2) nd rfl (.inl rfl) (pe_op op_fdiv (pe_op op_mul (pv 2) (pe_op op_sub (pv 0) (pv 3))) (pe_op op_add (pv 3) pe_int)))))
      (pss_one (ps_ret (pv 2)))), ?_⟩
    refine ⟨_, rfl, (k : Int), rfl, by omega, by omega, ?_⟩
    refine for_it (walk_range (lo := 0) (n := ((k : Int)).toNat)) (fun j σ' H' => (∃ u3, σ' = [some (.int n), some (.int k), some (.int (chN n j : Int)), u3]) ∧ H' = H) ⟨⟨_, rfl⟩, rfl⟩ (fun _ _ _ _ _ => trivial) ?_ ?_
    · intro j x σ' Ha Hb hj ⟨⟨u3, e⟩, eH⟩ ⟨e1, e2⟩
      subst e
      subst e1
      subst eH
      subst e2
      have jk : j < k := by omega
      have ej : (n : Int) - (0 + (j : Int)) = ((n - j : Nat) : Int) := by omega
      refine ⟨_, rfl, _, rfl, _, rfl, _, _, rfl, rfl, _, _, rfl, rfl, .inr ⟨by omega, by omega⟩, _, rfl, _, _, rfl, rfl, _, _, rfl, rfl, ⟨by omega, by omega⟩, ⟨some (.int (0 + (j : Int))), ?_⟩, rfl⟩
      show [some (V.int n), some (V.int k), some (V.int ((chN n j : Int) * ((n : Int) - (0 + (j : Int))) / (0 + (j : Int) + 1))), some (V.int (0 + (j : Int)))] = _
      rw [ej, show (0 + (j : Int) + 1) = ((j + 1 : Nat) : Int) by omega, ← Int.natCast_mul, ← Int.natCast_ediv] <;> rfl
    · intro σ' H' ⟨⟨u3, e⟩, eH⟩
      subst e
      subst eH
      rw [show ((k : Int)).toNat = k by omega]
      exact ⟨_, rfl, q⟩
end
end FT


/-! edges of a change, in an order (plain maths) -/
namespace FT
open PySem L2 TL ClX LiI
theorem mem_crs {ts : List (Str × Str)} {c : Str → Int} {e : Str × Str × Int} : e ∈ crs c ts ↔ ∃ q ∈ ts, (0 < c q.1 ∧ e = (q.2, q.1, c q.1)) ∨ (c q.1 < 0 ∧ e = (q.1, q.2, - c q.1)) := by
  unfold crs
  rw [List.mem_flatMap]
  refine exists_congr fun q => and_congr .rfl ?_
  by_cases h1 : 0 < c q.1
  · rw [if_pos h1, List.mem_singleton]
    exact ⟨fun h => .inl ⟨h1, h⟩, fun h => h.elim And.right fun z => by have := z.1; omega⟩
  · rw [if_neg h1]
    by_cases h2 : c q.1 < 0
    · rw [if_pos h2, List.mem_singleton]
      exact ⟨fun h => .inr ⟨h2, h⟩, fun h => h.elim (fun z => absurd z.1 h1) And.right⟩
    · rw [if_neg h2]
      exact ⟨(fun h => by cases h), fun h => h.elim (fun z => absurd z.1 h1) fun z => absurd z.1 h2⟩
theorem crs_lv {ts : List (Str × Str)} (o : TreeOk ts) {c : Str → Int} {s g : Str} {a : Int} (h : (s, g, a) ∈ crs c ts) : a = (lv ts c s g : Int) ∧ 0 < lv ts c s g := by
  obtain ⟨⟨f, p⟩, hq, ⟨pos, e⟩ | ⟨neg, e⟩⟩ := mem_crs.mp h
  · cases e
    have hp := par_of o.nd hq
    have pos : 0 < c f := pos
    have : lv ts c p f = (c f).toNat := by
      unfold lv
      rw [if_pos ⟨hp, pos⟩]
    show c f = (lv ts c p f : Int) ∧ 0 < lv ts c p f
    omega
  · cases e
    have hp := par_of o.nd hq
    have neg : c f < 0 := neg
    have n : ¬ par ts p = some f := fun z => par_once o hp z
    have : lv ts c f p = (- c f).toNat := by
      unfold lv
      rw [if_neg fun z => n z.1, if_pos ⟨hp, neg⟩]
    show - c f = (lv ts c f p : Int) ∧ 0 < lv ts c f p
    omega
theorem lv_crs {ts : List (Str × Str)} (o : TreeOk ts) {c : Str → Int} {s g : Str} (h : 0 < lv ts c s g) : (s, g, (lv ts c s g : Int)) ∈ crs c ts := by
  have m : ∃ a, (s, g, a) ∈ crs c ts := by
    obtain ⟨_, _, _, ⟨e, pos⟩ | ⟨e, neg⟩⟩ := lv_adj o h
    · exact ⟨c g, mem_crs.mpr ⟨_, par_mem e, .inl ⟨pos, rfl⟩⟩⟩
    · exact ⟨- c s, mem_crs.mpr ⟨_, par_mem e, .inr ⟨neg, rfl⟩⟩⟩
  obtain ⟨a, m⟩ := m
  rw [← (crs_lv o m).1]
  exact m
theorem min_mem (f : Str → Nat) : ∀ {l : List Str}, l ≠ [] → ∃ p ∈ l, ∀ q ∈ l, f p ≤ f q
  | [], h => absurd rfl h
  | [a], _ => ⟨a, List.mem_cons_self .., fun q hq => by rw [List.mem_singleton.mp hq]; exact Nat.le_refl _⟩
  | a :: b :: l, _ => by
    obtain ⟨p, hp, h⟩ := min_mem f (l := b :: l) (by simp)
    by_cases e : f a ≤ f p
    · refine ⟨a, List.mem_cons_self .., fun q hq => ?_⟩
      rcases List.mem_cons.mp hq with rfl | hq
      · exact Nat.le_refl _
      · exact Nat.le_trans e (h q hq)
    · refine ⟨p, List.mem_cons_of_mem _ hp, fun q hq => ?_⟩
      rcases List.mem_cons.mp hq with rfl | hq
      · omega
      · exact h q hq
/-- each place behind all from which users move to it -/
def Topo (ts : List (Str × Str)) (c : Str → Int) (ds : List Str) : Prop := ∀ (i : Nat) (p : Str), ds[i]? = some p → ∀ q, 0 < lv ts c q p → q ∈ ds.take i
def spEdgeOrder (CF : Addr) : Sp := fun vs H Q _ => ∃ (x q : Addr) (ts : List (Str × Str)) (c : Str → Int), vs = [.ref x, .ref q] ∧ FAt CF H x ts ∧ TreeOk ts ∧ H q = some (.dK (tblI (ts.map Prod.fst) c)) ∧
  ∀ (p : Addr) (ds : List Str) (H' : Hp), Same H H' → H p = none → ds.Perm (pls ts) → Topo ts c ds → H' p = some (.lst (ds.map V.str)) → Q (.ref p) H'
/-- goals of the edges from places that are left -/
def waitL (es : List (Str × Str × Int)) (rest : List Str) : List Str := (es.filter fun e => decide (e.1 ∈ rest)).map fun e => e.2.1
theorem waitL_more {es : List (Str × Str × Int)} {i : Nat} {e : Str × Str × Int} (rest : List Str) (h : es[i]? = some e) : waitL (es.take (i + 1)) rest = waitL (es.take i) rest ++ if e.1 ∈ rest then [e.2.1] else [] := by
  unfold waitL
  rw [take_more h, List.filter_append, List.map_append, List.filter_cons, List.filter_nil]
  by_cases m : e.1 ∈ rest
  · rw [if_pos m, if_pos (decide_eq_true m)] <;> rfl
  · rw [if_neg m, if_neg (by rw [decide_eq_false m]; decide)] <;> rfl
end FT


/-! Own: xs.remove(t) of a list of texts. -/
namespace L2
open PySem PySem.Spec PyProof.Rows
variable {X : Cx}
theorem erase_strs : ∀ (l : List Str) (j : Nat), (l.map V.str).eraseIdx j = (l.eraseIdx j).map V.str
  | [], j => by simp
  | a :: r, 0 => rfl
  | a :: r, j + 1 => congrArg (List.cons (V.str a)) (erase_strs r j)
def rRemS : V → List V → Hp → VK → Prop := fun x xs H Q => ∃ (l : Addr) (zs : List Str) (k : Str) (j : Nat), x = .ref l ∧ xs = [.str k] ∧ H l = some (.lst (zs.map V.str)) ∧ zs[j]? = some k ∧ (∀ m : Nat, m < j → zs[m]? ≠ some k) ∧ Q .non (upd H l (.lst ((zs.eraseIdx j).map V.str)))
theorem mt_removeS : MtM X "list.remove" rRemS := by
  intro pins s σ H x xs v us Q I rx rxs h
  obtain ⟨l, zs, k, j, ex, exs, hH, hj, hno, q⟩ := h
  subst ex
  subst exs
  cases rx
  obtain ⟨u, eu, ru⟩ := rxs.one
  subst eu
  obtain ⟨t, et⟩ := ru
  subst et
  obtain ⟨z, its, n, r, hl, e⟩ := I.lstM hH
  have hi := strs_of_vals r
  have hjn : j < zs.length := (List.getElem?_eq_some_iff.mp hj).1
  rw [List.length_map] at hl z
  refine call_meets PySem.F.slot_list_remove ⟨_, e, rfl⟩ PySem.F.entry_list_remove (PySem.F.args_list_remove_2 _ _)
    (MeetsSeq.list_remove l its.toArray n (.str k t) (isStrOf k) (fun y hy => eq_isStrOf k t hi y (by simpa using hy)) j (by rw [List.size_toArray]; omega) ?_ ?_ (by rw [List.size_toArray]; omega)) ⟨e, ?_⟩
  · obtain ⟨tj, hjt⟩ := StrsAre.get hi j k hj
    have e1 : its.toArray[j]'(by rw [List.size_toArray]; omega) = .str k tj := by simpa using (List.getElem?_eq_some_iff.mp hjt).2
    rw [e1]
    exact beq_self_eq_true k
  · intro m hm hmj
    have hmn : m < zs.length := by omega
    obtain ⟨tm, hmt⟩ := StrsAre.get hi m _ (List.getElem?_eq_getElem hmn)
    have e1 : its.toArray[m] = .str zs[m] tm := by simpa using (List.getElem?_eq_some_iff.mp hmt).2
    rw [e1]
    exact beq_eq_false_iff_ne.mpr fun e2 => hno m hmj (by rw [List.getElem?_eq_getElem hmn, e2])
  · have rr := r.eraseIdx j
    rw [erase_strs] at rr
    refine ⟨.non, _, I.lset (its' := its.eraseIdx j) (t' := s.toks) hH e ?_ rr ?_, rfl, q⟩
    · show its.toArray.eraseIdxIfInBounds j = (its.eraseIdx j).toArray
      exact List.eraseIdxIfInBounds_toArray ..
    · have := len_erase zs j
      rw [List.length_map]
      omega
end L2


/-! _law_ways: the number of best changes, place by place -/
namespace FT
open PySem L2 TL ClX LiI
/-- edges as pairs of a pair and a number -/
def Ed2 (H : Hp) (rs : List Addr) (es : List (Str × Str × Int)) : Prop := Paired (fun (r : Addr) (e : Str × Str × Int) => ∃ pr : Addr, H r = some (.tup [.ref pr, .int e.2.2]) ∧ H pr = some (.tup [.str e.1, .str e.2.1])) rs es
theorem Ed2.mono {H H' : Hp} (s : ∀ b xs, H b = some (.tup xs) → H' b = some (.tup xs)) : ∀ {rs : List Addr} {es : List (Str × Str × Int)}, Ed2 H rs es → Ed2 H' rs es
  | _, _, .nil => .nil
  | _, _, .cons h t => .cons (let ⟨pr, a, b⟩ := h; ⟨pr, s _ _ a, s _ _ b⟩) (Ed2.mono s t)
theorem Ed2.snoc {H : Hp} {r pr : Addr} {e : Str × Str × Int} (h : H r = some (.tup [.ref pr, .int e.2.2])) (h2 : H pr = some (.tup [.str e.1, .str e.2.1])) : ∀ {rs : List Addr} {es : List (Str × Str × Int)}, Ed2 H rs es → Ed2 H (rs ++ [r]) (es ++ [e])
  | _, _, .nil => .cons ⟨pr, h, h2⟩ .nil
  | _, _, .cons h' t => .cons h' (Ed2.snoc h h2 t)
theorem Ed2.len {H : Hp} : ∀ {rs : List Addr} {es : List (Str × Str × Int)}, Ed2 H rs es → rs.length = es.length
  | _, _, .nil => rfl
  | _, _, .cons _ t => congrArg (· + 1) (Ed2.len t)
theorem Ed2.at_ {H : Hp} {rs : List Addr} {es : List (Str × Str × Int)} (p : Ed2 H rs es) {i : Nat} {r : Addr} (h : rs[i]? = some r) : ∃ e, es[i]? = some e ∧ ∃ pr : Addr, H r = some (.tup [.ref pr, .int e.2.2]) ∧ H pr = some (.tup [.str e.1, .str e.2.1]) := LiI.paired_get p h
theorem keysV_tbl (l : List Str) (g : Str → Int) : ((tblI l g).map fun kv => kV kv.1) = l.map V.str := by
  unfold tblI kvT
  rw [List.map_map, List.map_map] <;> rfl
def outG (es : List (Str × Str × Int)) (p : Str) (i : Nat) : List Nat := (((es.take i).filter fun e => decide (e.1 = p)).map fun e => e.2.2).map Int.toNat
theorem outG_le (es : List (Str × Str × Int)) (p : Str) (i : Nat) : (outG es p i).sum ≤ (outG es p es.length).sum := by
  unfold outG
  rw [List.take_length]
  conv => rhs; rw [← List.take_append_drop i es]
  rw [List.filter_append, List.map_append, List.map_append, List.sum_append]
  omega
theorem outG_yes {es : List (Str × Str × Int)} {p : Str} {i : Nat} {e : Str × Str × Int} (h : es[i]? = some e) (y : e.1 = p) : outG es p (i + 1) = outG es p i ++ [e.2.2.toNat] := by
  unfold outG
  rw [flt_yes h (decide_eq_true y), List.map_append] <;> rfl
theorem outG_no {es : List (Str × Str × Int)} {p : Str} {i : Nat} {e : Str × Str × Int} (h : es[i]? = some e) (y : ¬ e.1 = p) : outG es p (i + 1) = outG es p i := by
  unfold outG
  rw [flt_no h (decide_eq_false y)]
theorem either_pair {b : Bool} {tA tB : TE} {σ : St} {H : Hp} {Q : VK} {y1 y2 z1 z2 : Str} (hA : ∀ Q' : VK, (∀ pr, H pr = none → Q' (.ref pr) (upd H pr (.tup [.str y1, .str y2]))) → tA σ H Q') (hB : ∀ Q' : VK, (∀ pr, H pr = none → Q' (.ref pr) (upd H pr (.tup [.str z1, .str z2]))) → tB σ H Q')
    (k : ∀ pr x1 x2, H pr = none → (b = true → x1 = y1 ∧ x2 = y2) → (b = false → x1 = z1 ∧ x2 = z2) → Q (.ref pr) (upd H pr (.tup [.str x1, .str x2]))) : if b = true then tA σ H Q else tB σ H Q := by
  cases b with
  | true => exact hA Q fun pr n => k pr y1 y2 n (fun _ => ⟨rfl, rfl⟩) fun z => nomatch z
  | false => exact hB Q fun pr n => k pr z1 z2 n (fun z => nomatch z) fun _ => ⟨rfl, rfl⟩
def spLawWays : Sp := fun vs H Q _ => ∃ (q qo ql : Addr) (n : Int) (t : List (Str × Str)) (lo ll : List Str) (so sl : Str → Int), vs = [.ref q, .int n, .ref qo, .ref ql] ∧ H q = some (.dK (prs t)) ∧ TreeOk t ∧ H qo = some (.dK (tblI lo so)) ∧ H ql = some (.dK (tblI ll sl)) ∧ lo.Perm (t.map Prod.fst) ∧ ll.Perm (t.map Prod.fst) ∧
  Fea t n so ∧ Fea t n sl ∧ n ≤ 300 ∧ ∀ H', Same H H' → Q (.int (cntN t n so sl : Int)) H'
section
variable {P : Program} {w : World} {K : PySem.W.Frag} {mg : Str → Option Value} {base : Heap}
abbrev NWl : List Str := ["_law_above", "_law_many", "_law_old", "_law_later", "_law_here", "_law_edges", "_law_name", "_law_amount", "_law_pair", "_law_left", "_law_found", "_law_waiting", "_law_spot", "_law_present", "_law_place_here"]
theorem scWl : FnScope NWl ["_law_above", "_law_many", "_law_old", "_law_later"] (defScope s__law_ways) := ⟨rfl, rfl, rfl, by decide +kernel, rfl, by decide +kernel, by decide +kernel⟩
theorem ok_lawWays {f fR fC : Addr} {fd fdR fdC : FuncData} (F : Fun K "_law_ways" "_law_ways" s__law_ways f fd) (N : Nm mg) (DR : Dn P w K mg base CX0 1 "_law_residents" ["_law_above", "_law_many", "_law_how"] spLawRes fR fdR) (DC : Dn P w K mg base CX0 1 "_law_choose" ["_law_many", "_law_some"] spChoose fC fdC) :
    FnOk P w K mg base CX0 2 f fd ["_law_above", "_law_many", "_law_old", "_law_later"] spLawWays := by
  refine F.ok scWl (fun vs H Q E h => ?_) (fun cdv A outer s H vs Q E hr h => ?_)
  · obtain ⟨q, qo, ql, n, t, lo, ll, so, sl, rfl, _⟩ := h
    rfl
  · obtain ⟨q, qo, ql, n, t, lo, ll, so, sl, rfl, hq, o, ho, hl, plo, pll, fo, fl, n3, k⟩ := h
    have hu := hu_of hr
    have nd := scWl.nd
    have big : 1000 ≤ sizeLine := by decide
    have few := o.few
    refine ⟨_, pss_cons (ps_par (i := 4) (j := 5) rfl nd rfl rfl (by decide) rfl rfl (pa_cons (pe_call DR.ok hr rfl DR.mgn DR.kp DR.bn .nil pass0 (pa_cons (pv 0) (pa_cons (pv 1) (pa_cons (pv 2) pa_nil)))) (pa_cons (pe_lst pa_nil) pa_nil)) (by rfl))
      (pss_cons (ps_lock (ps_for PassesOwn.never rfl (pi_keys (pv 0)) (pg_name (i := 6) nd rfl (.inl rfl))
        (pss_cons (ps_set (i := 7) nd rfl (.inl rfl) (pe_op op_sub (pe_dget hu (pv 3) (pv 6) (fun _ _ => rfl)) (pe_dget hu (pv 2) (pv 6) (fun _ _ => rfl))))
        (pss_cons (ps_set (i := 8) nd rfl (.inl rfl) (pe_ifExp (pt_cmpR op_gt (pv 7) pe_int (nomark _)) (pe_tup (pa_cons (pe_dget hu (pv 0) (pv 6) (fun _ _ => rfl)) (pa_cons (pv 6) pa_nil))) (pe_tup (pa_cons (pv 6) (pa_cons (pe_dget hu (pv 0) (pv 6) (fun _ _ => rfl)) pa_nil)))))
        (pss_one (ps_set (i := 5) nd rfl (.inl rfl) (pe_op op_cat (pv 5) (pe_op op_rep (pe_lst (pa_cons (pe_tup (pa_cons (pv 8) (pa_cons (pe_callB call_abs (by rfl) N.abs (by decide +kernel) (pa_cons (pv 7) pa_nil)) pa_nil))) pa_nil)) (pe_callTy call_int1 (by rfl) N.int (by decide +kernel) (pa_cons (pe_cmpR op_ne (pv 7) pe_int (nomark _)) pa_nil))))))))))
      (pss_cons (ps_asg (pe_tup (pa_cons (pe_callTy (call_listD rfl) (by rfl) N.lst (by decide +kernel) (pa_cons (pv 4) pa_nil)) (pa_cons pe_int pa_nil))) (pg_tup rfl (pgs_cons (pg_name (i := 9) nd rfl (.inr rfl)) (pgs_cons (pg_name (i := 10) nd rfl (.inl rfl)) pgs_nil))))
      (pss_cons (ps_while PassesOwn.never (pt_cmpR (op_neD hr.units) (pv 9) (pe_lst pa_nil) (nomark _))
        (pss_cons (ps_set (i := 11) nd rfl (.inr rfl) (pe_lc (own := [("_law_pair", 8), ("_law_amount", 7)]) (g := gTup K 2 (gCons (gName 8) (gCons (gName 7) gNil))) (tt := tTest (tOp (rIn K false) (tOp (rIxT K) (tVar 8) (tC (.int 0))) (tVar 9))) (te := tOp (rIxT K) (tVar 8) (tC (.int 1))) rfl nd (pi_list (pv 5))
          (blkOk_by (N := NWl) (sc := defScope s__law_ways) (by decide +kernel)) (fun _ _ _ _ _ => pg_tup rfl (pgs_cons (pg_name (i := 8) nd rfl (Or.inl rfl)) (pgs_cons (pg_name (i := 7) nd rfl (Or.inl rfl)) pgs_nil)))
          (fun _ _ _ _ _ => pts_one (pt_cmpR op_in_seq (pe_ix ix_tup (pv 8) pe_int (fun _ _ => rfl)) (pv 9) rfl)) (fun _ _ _ _ _ => pe_ix ix_tup (pv 8) pe_int (fun _ _ => rfl))))
        (pss_cons (ps_set (i := 12) nd rfl (.inr rfl) (pe_ix ix_list (pe_lc (own := [("_law_place_here", 14)]) (g := gName 14) (tt := tTest (tOp (rIn K true) (tVar 14) (tVar 11))) (te := tVar 14) rfl nd (pi_list (pv 9))
          (blkOk_by (N := NWl) (sc := defScope s__law_ways) (by decide +kernel)) (fun _ _ _ _ _ => pg_name (i := 14) nd rfl (Or.inl rfl))
          (fun _ _ _ _ _ => pts_one (pt_cmpR op_notIn_seq (pv 14) (pv 11) rfl)) (fun _ _ _ _ _ => pv 14)) pe_int (fun _ _ => rfl)))
        (pss_cons (ps_expr (pe_bm PySem.F.plainAttrs_list PySem.F.slot_list_remove PySem.F.type_list_remove mt_removeS (pv 9) (pa_cons (pv 12) pa_nil)))
        (pss_cons (ps_set (i := 13) nd rfl (.inl rfl) (pe_op op_add (pe_dget hu (pv 4) (pv 12) (fun _ _ => rfl)) (pe_callB (cr_sum rfl) (by rfl) N.sum (by decide +kernel) (pa_cons (pe_lc (own := [("_law_pair", 8), ("_law_amount", 7)]) (g := gTup K 2 (gCons (gName 8) (gCons (gName 7) gNil))) (tt := tTest (tOp rEq (tOp (rIxT K) (tVar 8) (tC (.int 1))) (tVar 12))) (te := tVar 7) rfl nd (pi_list (pv 5))
          (blkOk_by (N := NWl) (sc := defScope s__law_ways) (by decide +kernel)) (fun _ _ _ _ _ => pg_tup rfl (pgs_cons (pg_name (i := 8) nd rfl (Or.inl rfl)) (pgs_cons (pg_name (i := 7) nd rfl (Or.inl rfl)) pgs_nil)))
          (fun _ _ _ _ _ => pts_one (pt_cmpR op_eq (pe_ix ix_tup (pv 8) pe_int (fun _ _ => rfl)) (pv 12) (nomark _))) (fun _ _ _ _ _ => pv 7)) pa_nil))))
        (pss_one (ps_for PassesOwn.never rfl (pi_list (pv 5)) (pg_tup rfl (pgs_cons (pg_name (i := 8) nd rfl (Or.inl rfl)) (pgs_cons (pg_name (i := 7) nd rfl (Or.inl rfl)) pgs_nil)))
          (pss_one (ps_if (pt_cmpR op_eq (pe_ix ix_tup (pv 8) pe_int (fun _ _ => rfl)) (pv 12) (nomark _))
            (pss_cons (ps_set (i := 10) nd rfl (.inl rfl) (pe_op op_mulW (pv 10) (pe_call DC.ok hr rfl DC.mgn DC.kp DC.bn .nil pass0 (pa_cons (pv 13) (pa_cons (pv 7) pa_nil)))))
            (pss_one (ps_set (i := 13) nd rfl (.inl rfl) (pe_op op_sub (pv 13) (pv 7))))) pss_nil)))))))))
      (pss_one (ps_ret (pv 10)))))), ?_⟩
    obtain ⟨c, ec⟩ : ∃ c : Str → Int, c = fun a => sl a - so a := ⟨_, rfl⟩
    refine ⟨_, rfl, _, rfl, _, rfl, q, qo, n, t, lo, so, rfl, hq, o, ho, plo, fun hr1 H1 ks s1 nh pks srt ah => ?_⟩
    refine ⟨by show 0 ≤ sizeLine; omega, fun fl0 nf => ?_⟩
    have s2 := same_new (o := .lst []) nf
    refine ⟨_, _, rfl, ?_⟩
    obtain ⟨H3, e3⟩ : ∃ X, X = upd H1 fl0 (.lst []) := ⟨_, rfl⟩
    have s3 : Same H H3 := e3 ▸ s1.trans s2
    have a3 : H3 hr1 = some (.dK (tblI (("" : Str) :: ks) (resid t n so))) := by rw [e3]; exact s2 _ _ ah
    have f3 : H3 fl0 = some (.lst []) := by rw [e3]; exact upd_same
    rw [← e3]
    have lk := pks.length_eq
    rw [List.length_map] at lk
    have pkp : (("" : Str) :: ks).Perm (plc t) := pks.cons _
    have hq3 := s3 _ _ hq
    have hl3 := s3 _ _ hl
    have ho3 := s3 _ _ ho
    have hrq : hr1 ≠ q := fun z => by rw [z, hq] at nh; cases nh
    have tne : t ≠ [] := fun z => by have := o.one; rw [z] at this; cases this
    have off : ∀ {l : List Str} {g : Str → Int} {b : Addr}, l.Perm (t.map Prod.fst) → H b = some (.dK (tblI l g)) → b ≠ q := fun {l g b} p h z => by
      rw [z, hq] at h
      have e := HO.dK.inj (Option.some.inj h)
      cases t with
      | nil => exact tne rfl
      | cons x t =>
        cases l with
        | nil => have := p.length_eq; cases this
        | cons y l => cases e
    have oq := off plo ho
    have lq := off pll hl
    refine ⟨q, _, hq3, trivial, fun od => ⟨_, rfl, q, od, rfl, .inl ⟨_, upd_same, ?_⟩⟩⟩
    obtain ⟨H4, e4⟩ : ∃ X, X = upd H3 q (.frz od (.dK (prs t))) := ⟨_, rfl⟩
    have k4 : ∀ {b u}, b ≠ q → H3 b = some u → H4 b = some u := fun {b u} nb h => by rw [e4, upd_ne nb]; exact h
    have q4 : H4 q = some (.frz od (.dK (prs t))) := by rw [e4]; exact upd_same
    rw [← e4]
    have f4 := k4 (fun z => by rw [z, hq3] at f3; cases f3) f3
    refine for_it walk_keys (fun j σ' H' => (∃ u6 u7 u8 e, σ' = [some (.ref q), some (.int n), some (.ref qo), some (.ref ql), some (.ref hr1), some (.ref e), u6, u7, u8, none, none, none, none, none, none] ∧ ∃ rs : List Addr, H' e = some (.lst (rs.map V.ref)) ∧ Ed2 H' rs (crs c (t.take j))) ∧ Same H4 H')
      ⟨⟨none, none, none, fl0, rfl, [], f4, .nil⟩, Same.refl⟩ (fun j σ' H' _ z => z.2 _ _ q4) ?_ ?_
    · intro j y σ' Ha Hb hj ⟨⟨u6, u7, u8, e, eσ, rs, he, ed⟩, sa⟩ ⟨eb, kk, vv, hk, ey⟩
      subst eσ
      subst eb
      subst ey
      obtain ⟨⟨a, pa⟩, hp, ee⟩ : ∃ x : Str × Str, t[j]? = some x ∧ (kk, vv) = (Sum.inr x.1, V.str x.2) := by
        unfold prs kvT at hk
        rw [List.map_map, List.getElem?_map] at hk
        obtain ⟨x, hx, z⟩ := Option.map_eq_some_iff.mp hk
        exact ⟨x, hx, z.symm⟩
      cases ee
      rw [show kV (Sum.inr a) = V.str a from rfl]
      have mp := List.mem_of_getElem? hp
      have mk : a ∈ t.map Prod.fst := List.mem_map.mpr ⟨_, mp, rfl⟩
      have ep := par_of o.nd mp
      have dgo : DGet Hb qo (.str a) (some (.int (so a))) := by
        have z := DGet.k (k := Sum.inr a) (sa _ _ (k4 oq ho3))
        rw [tblI_val (plo.mem_iff.mpr mk)] at z
        exact z
      have dgl : DGet Hb ql (.str a) (some (.int (sl a))) := by
        have z := DGet.k (k := Sum.inr a) (sa _ _ (k4 lq hl3))
        rw [tblI_val (pll.mem_iff.mpr mk)] at z
        exact z
      have dg : DGet Hb q (.str a) (some (.str pa)) := .inl ⟨_, Sum.inr a, .inr ⟨od, sa _ _ q4⟩, rfl, by rw [val_prs, ep] <;> rfl⟩
      have lrs := ed.len
      have lc := crs_len c (t.take j)
      rw [List.length_take] at lc
      have more := crs_snoc c (t.take j) (a, pa)
      rw [← take_more hp] at more
      refine ⟨_, rfl, _, rfl, ql, .int (sl a), rfl, dgl, _, rfl, _, rfl, qo, .int (so a), rfl, dgo, _, _, rfl, rfl, ?_⟩
      obtain ⟨z, ez⟩ : ∃ z, z = sl a - so a := ⟨_, rfl⟩
      have eca : c a = z := by rw [ec, ez]
      show gName 7 (V.int (sl a - so a)) _ _ _
      rw [← ez]
      refine ⟨_, rfl, _, _, rfl, rfl, _, rfl, ?_⟩
      refine either_pair (y1 := pa) (y2 := a) (z1 := a) (z2 := pa) (fun Q' k' => ⟨_, rfl, _, rfl, q, .str pa, rfl, dg, _, rfl, by show 2 ≤ sizeLine; omega, fun pr npr => k' pr npr⟩) (fun Q' k' => ⟨_, rfl, _, rfl, _, rfl, q, .str pa, rfl, dg, by show 2 ≤ sizeLine; omega, fun pr npr => k' pr npr⟩) fun pr x1 x2 npr c1 c2 => ?_
      have more' : crs c (t.take (j + 1)) = crs c (t.take j) ++ (if z = 0 then [] else [(x1, x2, (if z < 0 then -z else z))]) := by
        rw [more, eca]
        by_cases pos : 0 < z
        · obtain ⟨e1, e2⟩ := c1 (decide_eq_true pos)
          rw [if_pos pos, if_neg (by omega), if_neg (by omega), e1, e2]
        · obtain ⟨e1, e2⟩ := c2 (decide_eq_false pos)
          rw [if_neg pos, e1, e2]
          by_cases z0 : z = 0
          · rw [if_neg (by omega), if_pos z0]
          · rw [if_pos (by omega), if_neg z0, if_pos (by omega)]
      clear c1 c2
      obtain ⟨Hc, eHc⟩ : ∃ X, X = upd Hb pr (.tup [.str x1, .str x2]) := ⟨_, rfl⟩
      have sc : Same Hb Hc := eHc ▸ same_new npr
      have hpr : Hc pr = some (.tup [.str x1, .str x2]) := by rw [eHc]; exact upd_same
      rw [← eHc]
      refine ⟨_, rfl, _, rfl, _, rfl, _, rfl, by show 2 ≤ sizeLine; omega, fun tq ntq => ?_⟩
      obtain ⟨Hd, eHd⟩ : ∃ X, X = upd Hc tq (.tup [.ref pr, .int (if z < 0 then -z else z)]) := ⟨_, rfl⟩
      have sd : Same Hc Hd := eHd ▸ same_new ntq
      have htq : Hd tq = some (.tup [.ref pr, .int (if z < 0 then -z else z)]) := by rw [eHd]; exact upd_same
      rw [← eHd]
      refine ⟨by show 1 ≤ sizeLine; omega, fun l1 nl1 => ?_⟩
      have s1l : Same Hd (upd Hd l1 (.lst [.ref tq])) := same_new nl1
      refine ⟨_, rfl, rfl, .inr ⟨_, rfl, l1, _, _, rfl, rfl, upd_same, by split <;> decide, by split <;> decide, ?_, fun l2 nl2 => ?_⟩⟩
      · show 1 * _ ≤ sizeLine
        split <;> exact Nat.le_trans (by decide) big
      have s2l : Same (upd Hd l1 (.lst [.ref tq])) (upd (upd Hd l1 (.lst [.ref tq])) l2 (.lst (List.replicate (if (!decide (V.int z = V.int 0)) = true then (1 : Int) else 0).toNat [V.ref tq]).flatten)) := same_new nl2
      have sb : Same Hb (upd (upd Hd l1 (.lst [.ref tq])) l2 (.lst (List.replicate (if (!decide (V.int z = V.int 0)) = true then (1 : Int) else 0).toNat [V.ref tq]).flatten)) := ((sc.trans sd).trans s1l).trans s2l
      obtain ⟨rep, erep⟩ : ∃ rep, rep = (List.replicate (if (!decide (V.int z = V.int 0)) = true then (1 : Int) else 0).toNat [V.ref tq]).flatten := ⟨_, rfl⟩
      rw [← erep] at sb s2l ⊢
      have er2 : rep = (if z = 0 then [] else [tq]).map V.ref := by
        rw [erep]
        by_cases z0 : z = 0
        · rw [z0, decide_eq_true rfl, if_pos rfl] <;> rfl
        · rw [decide_eq_false fun w => z0 (V.int.inj w), if_neg z0] <;> rfl
      have rl : rep.length ≤ 1 := by
        rw [er2, List.length_map]
        split
        · exact Nat.zero_le _
        · exact Nat.le_refl _
      refine ⟨e, l2, _, _, rfl, rfl, sb _ _ he, upd_same, by rw [List.length_map]; omega, fun l3 nl3 => ?_⟩
      have s3l := same_new (o := .lst (rs.map V.ref ++ rep)) nl3
      have sall := sb.trans s3l
      refine ⟨⟨_, _, _, l3, rfl, rs ++ (if z = 0 then [] else [tq]), by rw [upd_same, er2, List.map_append], ?_⟩, sa.trans sall⟩
      have edn := Ed2.mono (fun b xs h => sall _ _ h) ed
      rw [more']
      by_cases z0 : z = 0
      · rw [if_pos z0, if_pos z0, List.append_nil, List.append_nil]
        exact edn
      · rw [if_neg z0, if_neg z0]
        exact Ed2.snoc (e := (x1, x2, if z < 0 then -z else z)) (s3l _ _ (s2l _ _ (s1l _ _ htq))) (s3l _ _ (s2l _ _ (s1l _ _ (sd _ _ hpr)))) edn
    · intro σ' H5 ⟨⟨u6, u7, u8, e, eσ, rs, he, ed⟩, sa⟩
      subst eσ
      rw [prs_len, List.take_length] at ed
      have q5 := sa _ _ q4
      have s05 : ∀ {b u}, b ≠ q → H b = some u → H5 b = some u := fun nb h => sa _ _ (k4 nb (s3 _ _ h))
      have kH : ∀ {H'}, (∀ b u, H5 b = some u → b ≠ q → H' b = some u) → H' q = some (.dK (prs t)) → Same H H' := fun {H'} m mq b u h => by
        by_cases z : b = q
        · rw [z] at h ⊢
          rw [hq] at h
          rw [mq]
          exact h
        · exact m _ _ (s05 z h) z
      refine ⟨q5, ?_⟩
      obtain ⟨H6, e6⟩ : ∃ X, X = upd H5 q (.dK (prs t)) := ⟨_, rfl⟩
      rw [← e6]
      have k6 : ∀ {b u}, b ≠ q → H5 b = some u → H6 b = some u := fun {b u} nb h => by rw [e6, upd_ne nb]; exact h
      have s06 : Same H H6 := kH (fun b u h nb => k6 nb h) (by rw [e6]; exact upd_same)
      have eq : e ≠ q := fun z => by rw [z, q5] at he; cases he
      have he6 := k6 eq he
      have ed6 : Ed2 H6 rs (crs c t) := Ed2.mono (fun b xs h => k6 (fun z => by rw [z, q5] at h; cases h) h) ed
      have a6 : H6 hr1 = some (.dK (tblI (("" : Str) :: ks) (resid t n so))) := k6 hrq (sa _ _ (k4 hrq a3))
      refine ⟨_, rfl, hr1, _, rfl, .inl a6, fun pl npl => ?_⟩
      rw [keysV_tbl]
      have s67 := same_new (o := .lst ((("" : Str) :: ks).map V.str)) npl
      refine ⟨by show 2 ≤ sizeLine; omega, fun tp ntp => ⟨tp, _, rfl, .inl (.inl upd_same), rfl, _, _, rfl, _, _, rfl, rfl, ?_⟩⟩
      obtain ⟨H7, e7⟩ : ∃ X, X = upd (upd H6 pl (.lst ((("" : Str) :: ks).map V.str))) tp (.tup [.ref pl, .int 1]) := ⟨_, rfl⟩
      have s7 : Same H6 H7 := e7 ▸ s67.trans (same_new ntp)
      have p7 : H7 pl = some (.lst ((("" : Str) :: ks).map V.str)) := by rw [e7]; exact (same_new ntp) _ _ upd_same
      rw [← e7]
      have he7 := s7 _ _ he6
      have a7 := s7 _ _ a6
      have ed7 := Ed2.mono (fun b xs h => s7 _ _ h) ed6
      have epl : e ≠ pl := ne_of_none he6 npl
      have hpl : hr1 ≠ pl := ne_of_none a6 npl
      have good := ways_good o fo fl n3
      rw [← ec] at good
      have cl := crs_len c t
      have lr := ed7.len
      obtain ⟨es, ees⟩ : ∃ es, es = crs c t := ⟨_, rfl⟩
      have ndk : (("" : Str) :: ks).Nodup := pkp.nodup_iff.mpr (plc_nd o)
      refine while_by (fun σ H' => (∃ u6 u7 u8 u11 u12 u13, ∃ ds rest : List Str, σ = [some (.ref q), some (.int n), some (.ref qo), some (.ref ql), some (.ref hr1), some (.ref e), u6, u7, u8, some (.ref pl), some (.int (lwN t n so sl ds : Int)), u11, u12, u13, none] ∧ H' pl = some (.lst (rest.map V.str)) ∧ (ds ++ rest).Perm (plc t)) ∧ (∀ b u, b ≠ pl → H7 b = some u → H' b = some u)) (fun _ H' => many H' pl)
        ⟨⟨_, _, _, _, _, _, [], ("" : Str) :: ks, rfl, p7, pkp⟩, fun _ _ _ z => z⟩ ?_ ?_
      · rintro σ Ha ⟨⟨u6, u7, u8, u11, u12, u13, ds, rest, rfl, hpa, pm⟩, kp⟩
        have lens := pm.length_eq
        rw [List.length_append, show (plc t).length = t.length + 1 by unfold plc; rw [List.length_cons, List.length_map]] at lens
        have ndr : (ds ++ rest).Nodup := pm.nodup_iff.mpr (plc_nd o)
        refine ⟨_, rfl, by show 0 ≤ sizeLine; omega, fun z nz => ⟨_, _, .lst (SqL.of (by rw [upd_ne (ne_of_none hpa nz)]; exact hpa)) (dps_strs rest), .lst (SqL.of upd_same) .nil, strs_shaped (fun y hy => ?_), rfl, ?_⟩⟩
        · rcases List.mem_cons.mp (pm.mem_iff.mp (List.mem_append_right _ hy)) with e0 | m
          · rw [e0]
            exact strOk_root
          · exact strOk_name (o.nm _ m)
        obtain ⟨Hb, eb⟩ : ∃ X, X = upd Ha z (.lst []) := ⟨_, rfl⟩
        have sab : Same Ha Hb := eb ▸ same_new nz
        rw [← eb]
        refine ⟨_, rfl, ite2 (fun tt => ?_) (fun tt => ?_)⟩
        · have rne : rest ≠ [] := fun z => by rw [z] at tt; cases tt
          have kb : ∀ {b u}, b ≠ pl → H7 b = some u → Hb b = some u := fun nb h => sab _ _ (kp _ _ nb h)
          have heb := kb epl he7
          have edb : Ed2 Hb rs es := ees ▸ Ed2.mono (fun b xs h => kb (fun z => by rw [z, p7] at h; cases h) h) ed7
          have hpb := sab _ _ hpa
          -- waiting
          refine ⟨_, rfl, e, rfl, ⟨_, SqL.of heb⟩, fun D1 nD1 => ?_⟩
          refine lc_it walk_list (fun i H' => Same Hb H' ∧ H' D1 = some (.lst ((waitL (es.take i) rest).map V.str))) ⟨same_new nD1, upd_same⟩ (fun i H' _ z => SqL.of (z.1 _ _ heb)) ?_ ?_
          · intro i y Hc Hd hi ⟨q1, q2⟩ ⟨eb2, ey⟩
            subst eb2
            obtain ⟨r, hr0, rfl⟩ := map_of ey
            obtain ⟨e1, he1, pr, hrb, hpr⟩ := edb.at_ hr0
            have more := waitL_more rest he1
            have wl : (waitL (es.take i) rest).length ≤ 12 := by
              unfold waitL
              rw [List.length_map]
              have := List.length_filter_le (fun e : Str × Str × Int => decide (e.1 ∈ rest)) (es.take i)
              rw [List.length_take, ees] at this
              rw [ees]
              omega
            refine ⟨r, [.ref pr, .int e1.2.2], rfl, .inl (.inl (q1 _ _ hrb)), rfl, _, _, rfl, _, _, rfl, rfl, rfl, ?_⟩
            refine ⟨_, rfl, pr, _, 0, .str e1.1, rfl, rfl, SqT.of (q1 _ _ hpr), rfl, _, rfl, pl, _, rfl, .inl (SqL.of (q1 _ _ hpb)), rfl, flat_strs rest, _, rfl, ?_⟩
            rw [show (if false = true then !inV (V.str e1.1) (rest.map V.str) else inV (V.str e1.1) (rest.map V.str)) = decide (e1.1 ∈ rest) from inV_strs e1.1 rest]
            refine ite2 (fun yes => ?_) (fun no => ?_)
            · have yes : e1.1 ∈ rest := of_decide_eq_true yes
              rw [if_pos yes] at more
              exact ⟨_, rfl, pr, _, 1, .str e1.2.1, rfl, rfl, SqT.of (q1 _ _ hpr), rfl, _, q2, by rw [List.length_map]; omega, Same.put q1 nD1, by rw [upd_same, more, List.map_append] <;> rfl⟩
            · have no : ¬ e1.1 ∈ rest := fun z => no (decide_eq_true z)
              rw [if_neg no, List.append_nil] at more
              exact ⟨q1, by rw [more]; exact q2⟩
          intro Hc ⟨sbc, hD1⟩
          rw [List.length_map, lr, ← ees, List.take_length] at hD1
          obtain ⟨wt, ewt⟩ : ∃ wt, wt = waitL es rest := ⟨_, rfl⟩
          rw [← ewt] at hD1
          have hpc := sbc _ _ hpb
          -- who waits for none
          refine ⟨_, rfl, pl, rfl, ⟨_, SqL.of hpc⟩, fun D2 nD2 => ?_⟩
          refine lc_it walk_list (fun i H' => Same Hc H' ∧ H' D2 = some (.lst (((rest.take i).filter fun p => !decide (p ∈ wt)).map V.str))) ⟨same_new nD2, upd_same⟩ (fun i H' _ z => SqL.of (z.1 _ _ hpc)) ?_ ?_
          · intro i y Hx Hd hi ⟨q1, q2⟩ ⟨eb2, ey⟩
            subst eb2
            obtain ⟨p, hp, rfl⟩ := map_of ey
            have more := filter_more (c := fun p => !decide (p ∈ wt)) hp
            have fl' := List.length_filter_le (fun p => !decide (p ∈ wt)) (rest.take i)
            rw [List.length_take] at fl'
            refine ⟨rfl, ?_⟩
            refine ⟨_, rfl, _, rfl, D1, _, rfl, .inl (SqL.of (q1 _ _ hD1)), rfl, flat_strs wt, _, rfl, ?_⟩
            rw [show (if true = true then !inV (V.str p) (wt.map V.str) else inV (V.str p) (wt.map V.str)) = !decide (p ∈ wt) from congrArg not (inV_strs p wt)]
            refine ite2 (fun yes => ?_) (fun no => ?_)
            · have yes : (!decide (p ∈ wt)) = true := yes
              rw [if_pos yes] at more
              exact ⟨_, rfl, _, q2, by rw [List.length_map]; omega, Same.put q1 nD2, by rw [upd_same, more, List.map_append] <;> rfl⟩
            · have no : ¬ (!decide (p ∈ wt)) = true := no
              rw [if_neg no, List.append_nil] at more
              exact ⟨q1, by rw [more]; exact q2⟩
          intro Hd ⟨scd, hD2⟩
          rw [List.length_map, List.take_length] at hD2
          obtain ⟨cand, ecd⟩ : ∃ cand, cand = rest.filter fun p => !decide (p ∈ wt) := ⟨_, rfl⟩
          rw [← ecd] at hD2
          have free : ∀ p, p ∈ cand ↔ p ∈ rest ∧ p ∉ wt := fun p => by
            rw [ecd, List.mem_filter, Bool.not_eq_true', decide_eq_false_iff_not]
          have ne : cand ≠ [] := by
            obtain ⟨p, hp, mn⟩ := min_mem (lvl t c) rne
            refine List.ne_nil_of_mem ((free p).mpr ⟨hp, fun hw => ?_⟩)
            rw [ewt] at hw
            unfold waitL at hw
            obtain ⟨⟨s, g, a⟩, h1, rfl⟩ := List.mem_map.mp hw
            obtain ⟨h2, h3⟩ := List.mem_filter.mp h1
            rw [ees] at h2
            have l1 : lvl t c s < lvl t c g := lvl_up o (crs_lv o h2).2
            have l2 : lvl t c g ≤ lvl t c s := mn s (of_decide_eq_true h3)
            omega
          obtain ⟨p, cs, ecs⟩ := List.exists_cons_of_ne_nil ne
          have pc := (free p).mp (by rw [ecs]; exact List.mem_cons_self ..)
          rw [ecs] at hD2
          refine ⟨D2, _, 0, .str p, rfl, rfl, SqL.of hD2, atI_nat (xs := (p :: cs).map V.str) (j := 0) (v := .str p) rfl, ?_⟩
          have sad : Same Ha Hd := (sab.trans sbc).trans scd
          have sbd := sbc.trans scd
          obtain ⟨j, hj, ej⟩ := List.mem_iff_getElem.mp pc.1
          have ej' : rest[j]? = some p := List.getElem?_eq_some_iff.mpr ⟨hj, ej⟩
          have nrest : rest.Nodup := (List.nodup_append.mp ndr).2.1
          refine ⟨_, rfl, .inl ⟨rfl, _, SqL.of (sad _ _ hpa)⟩, _, rfl, pl, rest, p, j, rfl, rfl, sad _ _ hpa, ej', fun m hm em => ?_, ?_⟩
          · have := (List.getElem?_inj (by omega) nrest).mp (em.trans ej'.symm)
            omega
          have pe : (p :: rest.eraseIdx j).Perm rest := ej ▸ erase_perm rest j hj
          obtain ⟨He, eHe⟩ : ∃ X, X = upd Hd pl (.lst ((rest.eraseIdx j).map V.str)) := ⟨_, rfl⟩
          have ke : ∀ {b u}, b ≠ pl → Hd b = some u → He b = some u := fun {b u} nb h => by rw [eHe, upd_ne nb]; exact h
          have ple : He pl = some (.lst ((rest.eraseIdx j).map V.str)) := by rw [eHe]; exact upd_same
          rw [← eHe]
          have mp : p ∈ plc t := pm.mem_iff.mp (List.mem_append_right _ pc.1)
          obtain ⟨g1, g2, g3, g4⟩ := good p mp
          have hee := ke epl (sbd _ _ heb)
          have ede : Ed2 He rs es := Ed2.mono (fun b xs h => ke (fun z => by rw [z, sbd _ _ hpb] at h; cases h) h) (Ed2.mono (fun b xs h => sbd _ _ h) edb)
          have ae := ke hpl (sbd _ _ (kb hpl a7))
          -- those present
          refine ⟨_, rfl, _, rfl, hr1, .int (resid t n so p), rfl, .inl ⟨_, Sum.inr p, .inl ae, rfl, (tblI_val (pkp.mem_iff.mpr mp)).symm⟩, ?_⟩
          refine ⟨_, rfl, e, rfl, ⟨_, SqL.of hee⟩, fun D3 nD3 => ?_⟩
          refine lc_it walk_list (fun i H' => Same He H' ∧ H' D3 = some (.lst ((((es.take i).filter fun e => decide (e.2.1 = p)).map fun e => e.2.2).map V.int))) ⟨same_new nD3, upd_same⟩ (fun i H' _ z => SqL.of (z.1 _ _ hee)) ?_ ?_
          · intro i y2 Hx Hy hi ⟨q1, q2⟩ ⟨eb2, ey2⟩
            subst eb2
            obtain ⟨r, hr0, rfl⟩ := map_of ey2
            obtain ⟨e1, he1, pr, hrb, hpr⟩ := ede.at_ hr0
            refine ⟨r, [.ref pr, .int e1.2.2], rfl, .inl (.inl (q1 _ _ hrb)), rfl, _, _, rfl, _, _, rfl, rfl, rfl, ?_⟩
            refine ⟨_, rfl, pr, _, 1, .str e1.2.1, rfl, rfl, SqT.of (q1 _ _ hpr), rfl, _, rfl, rfl, _, rfl, ?_⟩
            by_cases cc : e1.2.1 = p
            · rw [decide_eq_true (show V.str e1.2.1 = V.str p by rw [cc])]
              show if true = true then _ else _
              rw [if_pos rfl]
              refine ⟨_, rfl, _, q2, ?_, Same.put q1 nD3, ?_⟩
              · have := List.length_filter_le (fun e : Str × Str × Int => decide (e.2.1 = p)) (es.take i)
                rw [List.length_map, List.length_map]
                rw [List.length_take, ees] at this
                rw [ees]
                omega
              · rw [upd_same, flt_yes he1 (decide_eq_true cc), List.map_append] <;> rfl
            · rw [decide_eq_false (show ¬ V.str e1.2.1 = V.str p from fun z => cc (V.str.inj z))]
              exact iteF ⟨q1, by rw [q2, flt_no he1 (decide_eq_false cc)]⟩
          intro Hf ⟨sef, hD3⟩
          rw [List.length_map, lr, ← ees, List.take_length] at hD3
          refine ⟨D3, _, rfl, SqL.of hD3, _, _, rfl, rfl, ?_⟩
          have g1' : resid t n so p + arr es p = (preN t n so sl p : Int) := by rw [ees]; exact g1
          have eo : outG es p es.length = outN t so sl p := by
            unfold outG outN lvs
            rw [List.take_length, ees, ec]
          have hef := sef _ _ hee
          have edf := Ed2.mono (fun b xs h => sef _ _ h) ede
          refine ⟨_, rfl, e, rfl, ⟨_, SqL.of hef⟩, ?_⟩
          have F0b : lwN t n so sl ds < 2 ^ (2701 * 13 + 1) := by
            refine Nat.lt_of_lt_of_le (prd_lt (b := 2701) fun x hx => ?_) (Nat.pow_le_pow_right (by decide) (by rw [List.length_map]; omega))
            obtain ⟨y, hy, rfl⟩ := List.mem_map.mp hx
            obtain ⟨_, _, y3, y4⟩ := good y (pm.mem_iff.mp (List.mem_append_left _ hy))
            exact Nat.lt_of_le_of_lt (pwN_le y3) (Nat.lt_of_lt_of_le (fct_lt _ (by omega)) (Nat.pow_le_pow_right (by decide) (by omega)))
          refine for_it walk_list (fun i σ' H' => (∃ u7 u8, σ' = [some (.ref q), some (.int n), some (.ref qo), some (.ref ql), some (.ref hr1), some (.ref e), u6, u7, u8, some (.ref pl), some (.int ((lwN t n so sl ds * pwN (preN t n so sl p) (outG es p i) : Nat) : Int)), some (.ref D1), some (.str p), some (.int ((preN t n so sl p : Int) - ((outG es p i).sum : Nat))), none]) ∧ H' = Hf)
            ⟨⟨u7, u8, ?_⟩, rfl⟩ (fun i σ' H' _ z => by rw [z.2]; exact SqL.of hef) ?_ ?_
          · show [some (V.ref q), some (V.int n), some (V.ref qo), some (V.ref ql), some (V.ref hr1), some (V.ref e), u6, u7, u8, some (V.ref pl), some (V.int (lwN t n so sl ds : Int)), some (V.ref D1), some (V.str p), some (V.int (resid t n so p + arr es p)), none] = _
            rw [g1']
            have : outG es p 0 = [] := rfl
            rw [this]
            show _ = [_, _, _, _, _, _, _, _, _, _, some (V.int ((lwN t n so sl ds * 1 : Nat) : Int)), _, _, some (V.int ((preN t n so sl p : Int) - 0)), _]
            rw [Nat.mul_one, Int.sub_zero]
          · intro i y2 σ2 Hx Hy hi ⟨⟨u7', u8', eσ⟩, eH⟩ ⟨eb2, ey2⟩
            subst eσ
            subst eb2
            subst eH
            obtain ⟨r, hr0, rfl⟩ := map_of ey2
            obtain ⟨e1, he1, pr, hrb, hpr⟩ := edf.at_ hr0
            refine ⟨r, [.ref pr, .int e1.2.2], rfl, .inl (.inl hrb), rfl, _, _, rfl, _, _, rfl, rfl, ?_⟩
            refine ⟨_, rfl, pr, _, 0, .str e1.1, rfl, rfl, SqT.of hpr, rfl, _, rfl, rfl, _, rfl, ?_⟩
            by_cases cc : e1.1 = p
            · rw [decide_eq_true (show V.str e1.1 = V.str p by rw [cc])]
              have pos : 0 < e1.2.2 := (crs_pos (by rw [← ees]; exact List.mem_of_getElem? he1)).1
              have oy := outG_yes he1 cc
              have le1 := outG_le es p (i + 1)
              have le0 := outG_le es p i
              rw [eo] at le1 le0
              rw [oy, List.sum_append, List.sum_cons, List.sum_nil, Nat.add_zero] at le1
              have et : e1.2.2 = ((e1.2.2.toNat : Nat) : Int) := by omega
              have ch : chN (preN t n so sl p - (outG es p i).sum) e1.2.2.toNat < 2 ^ 2701 := Nat.lt_of_le_of_lt (chN_le (by omega)) (Nat.lt_of_lt_of_le (fct_lt _ (by omega)) (Nat.pow_le_pow_right (by decide) (by omega)))
              have pw : pwN (preN t n so sl p) (outG es p i) < 2 ^ 2701 := Nat.lt_of_le_of_lt (pwN_le (by omega)) (Nat.lt_of_lt_of_le (fct_lt _ (by omega)) (Nat.pow_le_pow_right (by decide) (by omega)))
              refine iteT ⟨_, rfl, _, rfl, _, rfl, preN t n so sl p - (outG es p i).sum, e1.2.2.toNat, ?_, by omega, by omega, _, _, rfl, rfl, ?_, _, rfl, _, rfl, _, _, rfl, rfl, ⟨some (.int e1.2.2), some (.ref pr), ?_⟩, rfl⟩
              · rw [← et, show (preN t n so sl p : Int) - ((outG es p i).sum : Nat) = ((preN t n so sl p - (outG es p i).sum : Nat) : Int) by omega]
                rfl
              · have b1 : lwN t n so sl ds * pwN (preN t n so sl p) (outG es p i) < 2 ^ (2701 * 13 + 1 + 2701) := by
                  rw [Nat.pow_add]
                  exact Nat.mul_lt_mul'' F0b pw
                show (((lwN t n so sl ds * pwN (preN t n so sl p) (outG es p i) : Nat) : Int)).natAbs.log2 + ((chN (preN t n so sl p - (outG es p i).sum) e1.2.2.toNat : Int)).natAbs.log2 < 1000000
                rw [Int.natAbs_natCast, Int.natAbs_natCast]
                have l1 := log_lt b1 (by omega)
                have l2 := log_lt ch (by omega)
                omega
              · show [_, _, _, _, _, _, _, _, _, _, some (V.int (((lwN t n so sl ds * pwN (preN t n so sl p) (outG es p i) : Nat) : Int) * (chN (preN t n so sl p - (outG es p i).sum) e1.2.2.toNat : Int))), _, _, some (V.int ((preN t n so sl p : Int) - ((outG es p i).sum : Nat) - e1.2.2)), _] = _
                rw [oy, pwN_snoc, List.sum_append, List.sum_cons, List.sum_nil, ← Int.natCast_mul, Nat.mul_assoc, show (preN t n so sl p : Int) - ((outG es p i).sum : Nat) - e1.2.2 = (preN t n so sl p : Int) - (((outG es p i).sum + (e1.2.2.toNat + 0) : Nat) : Int) by omega]
            · rw [decide_eq_false (show ¬ V.str e1.1 = V.str p from fun z => cc (V.str.inj z))]
              rw [outG_no he1 cc]
              exact iteF ⟨⟨_, _, rfl⟩, rfl⟩
          · intro σ2 Hg ⟨⟨u7', u8', eσ⟩, eH⟩
            subst eσ
            subst eH
            rw [List.length_map, lr, ← ees, eo, ← lwN_snoc]
            refine ⟨⟨⟨_, _, _, _, _, _, ds ++ [p], rest.eraseIdx j, rfl, sef _ _ ple, ?_⟩, fun b u nb h => ?_⟩, ?_⟩
            · rw [List.append_assoc]
              exact ((List.Perm.refl ds).append pe).trans pm
            · exact sef _ _ (ke nb (sad _ _ (kp _ _ nb h)))
            · show many _ pl < many Ha pl
              rw [many_at (sef _ _ ple), many_at hpa, List.length_map, List.length_map, List.length_eraseIdx, if_pos hj]
              omega
        · have rnil : rest = [] := by
            cases rest with
            | nil => rfl
            | cons y r => exact absurd rfl tt
          subst rnil
          rw [List.append_nil] at pm
          refine ⟨_, rfl, ?_⟩
          rw [lwN_cnt o fl pm]
          refine k Hb fun b u h => sab _ _ (kp _ _ (ne_of_none (s06 _ _ h) npl) (s7 _ _ (s06 _ _ h)))
      · exact fun σ H Q Q' hm ⟨v, e, z, f⟩ => ⟨v, e, z, fun p np => let ⟨d1, d2, a1, a2, a3, a4, b, eb, q⟩ := f p np; ⟨d1, d2, a1, a2, a3, a4, b, eb, hm _ _ q⟩⟩
end
end FT


/-! Own: calls with keywords alone, two or four of them turned; pairs of a text and an int as data. -/
namespace FT
open PySem L2 TL ClX
def tCallK0 (m : Nat) (sp : Sp) (gV : List V → List V → List V) (E : XK) (tk : TA) : TE := fun σ H Q => tk σ H fun zs H1 => zs.length = m ∧ sp (gV [] zs) H1 Q E
/-- f(k = v, ..), no value by place -/
theorem pe_callK0 {X : Cx} {CX : CXT} {k : Nat} {f : Addr} {fd : FuncData} {ps ks : List Str} {sp : Sp} {E : XK} {x : Str} {p pos : Pos} {kw : Keyword} {kws : List Keyword} {tk : TA} {g : List Value → List Value → List Value} {gV : List V → List V → List V}
    (F : FnOk X.prog X.w X.K X.mg X.base CX k f fd ps sp) (hr : Room k X.A) (hg : Gl X x) (hm : X.mg x = some (.ref f)) (hk : PySem.W.keepIn X.K (.ref f) = true) (hb : KBn X.K fd ps 0 ks g gV) (hx : Passes CX X E)
    (hkw : PK X (kw :: kws) tk) (hall : (backToKw pos (keywordEach (kw :: kws) X.env)).all (·.1.isSome) = true := by rfl) (hks : (backToKw pos (keywordEach (kw :: kws) X.env)).filterMap (·.1) = ks := by rfl)
    (hdb : (x == ("__debug__" : Str)) = false := by decide) (hpl : ((backTo pos (starEach [] X.env)).any (·.1) || (backToKw pos (keywordEach (kw :: kws) X.env)).any (·.1.isNone)) = false := by rfl) : PE X (.Call (.Name x p) [] (kw :: kws) pos) (tCallK0 ks.length sp gV E tk) := by
  refine ⟨fun pins s σ H Q I h => ?_⟩
  refine wpAny_Call_Name_kw (ld_glob I hg hm ?_ hdb)
  refine PySem.W.callWith_KW0 (h₀ := X.base) I.ok.mod.kin hk hall ?_ hpl
  refine thn (hkw.run pos pins s σ H _ I h) fun ws s2 ⟨zs, H2, J, rz, l2, want⟩ => ⟨J.kIn, ?_⟩
  rw [hks]
  exact run_fnN (us := []) (vs := []) F hr hb hx J .nil rz rfl l2 want
/-- four values, turned -/
def turn4 {α : Type} : List α → List α
  | [a, b, c, d] => [d, c, b, a]
  | l => l
theorem turn4_rel {vs : List V} {us : List Value} (r : Vals vs us) : Vals (turn4 vs) (turn4 us) := by
  match vs, us, r with
  | [], _, .nil => exact .nil
  | [_], _, .cons a .nil => exact .cons a .nil
  | [_, _], _, .cons a (.cons b .nil) => exact .cons a (.cons b .nil)
  | [_, _, _], _, .cons a (.cons b (.cons c .nil)) => exact .cons a (.cons b (.cons c .nil))
  | [_, _, _, _], _, .cons a (.cons b (.cons c (.cons d .nil))) => exact .cons d (.cons c (.cons b (.cons a .nil)))
  | _ :: _ :: _ :: _ :: _ :: _, _, .cons a (.cons b (.cons c (.cons d (.cons e r)))) => exact .cons a (.cons b (.cons c (.cons d (.cons e r))))
theorem kw4 {K : PySem.W.Frag} {x qual a b c d : Str} {st : Stmt} {f : Addr} {fd : FuncData} {ps : List Str} (F : L2.Fun K x qual st f fd)
    (h : ∀ (kV doc pm : Value) (an : Option Addr) (cdv ct u v y z : Value), bindArgs (PySem.W.fnOf x qual (defArgs st) (defBody st) (defScope st) .none kV doc pm an cdv ct) ⟨[], [(a, u), (b, v), (c, y), (d, z)]⟩ = pure (ps.zip [z, y, v, u])) :
    KBn K fd ps 0 [a, b, c, d] (fun _ ws => turn4 ws) (fun _ zs => turn4 zs) := by
  obtain ⟨oc, od, kV, doc, pm, an, cdv, ct, osl, rfl, lk, hcd⟩ := F.ex
  refine ⟨fun s us ws _ h1 h2 => ?_, fun _ r => turn4_rel r⟩
  match us, ws, h1, h2 with
  | [], [u, v, y, z], _, _ => exact .of_eq (h kV doc pm an cdv ct u v y z)
end FT


/-! the law of k10 -/
namespace FT
open PySem L2 TL ClX LamX NdefX LiI
abbrev tn4K (α : Type) : List α → List α → List α := fun _ ws => turn4 ws
structure W10 (P : Program) (w : World) (K : PySem.W.Frag) (mg : Str → Option Value) (base : Heap) (CF CU CS : Addr) (mc : Value) (T : List (Addr × Str)) (f : Nat → Addr) (fd : Nat → FuncData) : Prop where
  Z : Fc K mg CF mc
  bg : Dn P w K mg base CX0 1 "_law_begin" ["_law_script"] (spBegin K) (f 0) (fd 0)
  dt : Dn P w K mg base CX0 1 "_law_take" ["_law_draw", "_law_size"] spDraw (f 1) (fd 1)
  dp : Dn P w K mg base CX0 2 "_law_pick" ["_law_draw", "_law_some"] (spPick K) (f 2) (fd 2)
  pa : Dn P w K mg base CX0 4 "_law_parents" ["_law_draw", "_law_many"] spParents (f 3) (fd 3)
  fi : FnOk P w K mg base CX0 3 (f 4) (fd 4) ["self", "parents"] (spFInit CF)
  fim : Mk K CF (f 4)
  fib : Binds K (fd 4) ["self", "parents"] []
  sz : Dn P w K mg base CX0 5 "_law_sizes" ["_law_draw", "_law_above", "_law_many"] (spSizes T) (f 5) (fd 5)
  cd : Dn P w K mg base CX0 2 "_law_counted" ["_law_above", "_law_spots"] spCounted (f 6) (fd 6)
  bl : Dn P w K mg base CX0 7 "_law_best_lists" ["_law_above", "_law_here", "_law_later"] spBestLists (f 7) (fd 7)
  wy : Dn P w K mg base CX0 2 "_law_ways" ["_law_above", "_law_many", "_law_old", "_law_later"] spLawWays (f 8) (fd 8)
  ct : Dn P w K mg base (L2.CX P w) 8 "count" ["forest", "users", "sizes", "new"] (spCount K CF CU CS) (f 9) (fd 9)
  ctk : KBn K (fd 9) ["forest", "users", "sizes", "new"] 0 ["new", "sizes", "users", "forest"] (tn4K Value) (tn4K V)
  tu : Dn P w K mg base CX0 1 "_law_turned" ["_law_some"] spTurnG (f 10) (fd 10)
/-- the def that gets a lambda -/
structure Ge (K : PySem.W.Frag) (mg : Str → Option Value) (x : Str) (st : Stmt) (f : Addr) (fd : FuncData) : Prop where
  fn : Fun K x x st f fd
  bn : Binds K fd ["_law_work"] []
  mgn : mg x = some (.ref f)
def spLaw10 (K : PySem.W.Frag) (T : List (Addr × Str)) : Sp := fun vs H Q _ => ∃ (a : Addr) (ns : List Int), vs = [.ref a] ∧ SqL K H a (ns.map V.int) ∧ ns.length ≤ 63 ∧ Tabs T H ∧ ∀ H', Q (.bl true) H'
abbrev N10 : List Str := ["_law_script", "_law_draw", "_law_turn", "_law_small", "_law_above", "_law_many", "_law_spots", "_law_old", "_law_later", "_law_grove", "_law_here", "_law_due", "_law_odd", "_law_name", "_law_strange", "_law_at"]
section
variable {P : Program} {w : World} {K : PySem.W.Frag} {mg : Str → Option Value} {base : Heap}
theorem sc10 : FnScope N10 ["_law_script"] (defScope s_law) := ⟨rfl, rfl, rfl, by decide +kernel, rfl, by decide +kernel, by decide +kernel⟩
theorem ok_law10 {f0 fEr fPl CF CU CS IS R co ta : Addr} {mc : Value} {C5 : Nat → Addr} {T : List (Addr × Str)} {f : Nat → Addr} {fd : Nat → FuncData} {fd0 fdEr fdPl : FuncData} (F : FunC K "law" "law" s_law f0 fd0 co) (N : Nm mg) (L : W10 P w K mg base CF CU CS mc T f fd)
    (GP : Ge K mg "_law_place" s__law_place fPl fdPl) (GE : Ge K mg "_law_error" s__law_error fEr fdEr) (S : Er K mg "InvalidSizes" "place" CS IS) (te : PySem.W.exmOne K (.ref CS) (.ref CS) = some true) (C : Cl5 K mg R C5) (e0 : C5 0 = CU) (e1 : C5 1 = CS) (TB : TabB base mg co ta) (hmT : (ta, lamQ "law") ∈ T) (hut : ∀ p ∈ T, p.1 = ta → p.2 = lamQ "law") : FnG P w K mg base CX0 11 f0 fd0 ["_law_script"] (spLaw10 K T) := by
  refine F.okG sc10 (fun vs H Q E h => ?_) (fun A outer s H vs Q E clr hr h => ?_)
  · obtain ⟨a, ns, rfl, _⟩ := h
    rfl
  · obtain ⟨a, ns, rfl, hS, hlen, tT, k⟩ := h
    have hu := hu_of hr
    have hr1 : Room 1 _ := hr.mono (by decide)
    have hr2 : Room 2 _ := hr.mono (by decide)
    have hr4 : Room 4 _ := hr.mono (by decide)
    have hr5 : Room 5 _ := hr.mono (by decide)
    have hr7 : Room 7 _ := hr.mono (by decide)
    have hr8 : Room 8 _ := hr.mono (by decide)
    have nd := sc10.nd
    have big : 1000 ≤ sizeLine := by decide
    let tPickA : TE := tCall (spPick K) [] E0 (tCons (tVar 1) (tCons (tLst (tCons (tC .non) (tCons (tVar 12) tNil))) tNil))
    let tPickB : TE := tCall (spPick K) [] E0 (tCons (tVar 1) (tCons (tLst (tCons (tC (.int 0)) (tCons (tC (.bl true)) (tCons (tC .non) tNil)))) tNil))
    refine ⟨_, pss_cons (ps_set (i := 1) nd rfl (.inr rfl) (pe_call L.bg.ok hr1 rfl L.bg.mgn L.bg.kp L.bg.bn .nil pass0 (pa_cons (pv 0) pa_nil)))
      (pss_cons (ps_for PassesOwn.never rfl (pi_range1 rfl N.rng (pa_cons (pe_op op_add pe_int (pe_callB (call_min2 rfl) (by rfl) N.min (by decide +kernel) (pa_cons (pe_callB call_len_seq (by rfl) N.len PySem.boot_len (pa_cons (pv 0) pa_nil)) (pa_cons pe_int pa_nil)))) pa_nil)) (pg_name (i := 2) nd rfl (.inl rfl))
        (pss_cons (ps_set (i := 3) nd rfl (.inl rfl) (pe_cmpR op_gt (pe_call L.dt.ok hr1 rfl L.dt.mgn L.dt.kp L.dt.bn .nil pass0 (pa_cons (pv 1) (pa_cons pe_int pa_nil))) pe_int (nomark _)))
        (pss_cons (ps_set (i := 4) nd rfl (.inl rfl) (pe_call L.pa.ok hr4 rfl L.pa.mgn L.pa.kp L.pa.bn .nil pass0 (pa_cons (pv 1) (pa_cons (pe_op op_add pe_int (pe_call L.dt.ok hr1 rfl L.dt.mgn L.dt.kp L.dt.bn .nil pass0 (pa_cons (pv 1) (pa_cons (pe_ix ix_list (pe_lst (pa_cons pe_int (pa_cons pe_int pa_nil))) (pe_callTy call_int1 (by rfl) N.int (by decide +kernel) (pa_cons (pv 3) pa_nil)) (fun _ _ => rfl)) pa_nil)))) pa_nil))))
        (pss_cons (ps_asg (pe_tup (pa_cons (pe_op op_add pe_int (pe_call L.dt.ok hr1 rfl L.dt.mgn L.dt.kp L.dt.bn .nil pass0 (pa_cons (pv 1) (pa_cons (pe_ix ix_list (pe_lst (pa_cons pe_int (pa_cons pe_int pa_nil))) (pe_callTy call_int1 (by rfl) N.int (by decide +kernel) (pa_cons (pv 3) pa_nil)) (fun _ _ => rfl)) pa_nil)))) (pa_cons (pe_op op_cat (pe_lst (pa_cons pe_str pa_nil)) (pe_callB (call_sortedD rfl) (by rfl) N.srt (by decide +kernel) (pa_cons (pv 4) pa_nil))) pa_nil))) (pg_tup rfl (pgs_cons (pg_name (i := 5) nd rfl (.inr rfl)) (pgs_cons (pg_name (i := 6) nd rfl (.inr rfl)) pgs_nil))))
        (pss_cons (ps_asg (pe_tup (pa_cons (pe_call L.sz.ok hr5 rfl L.sz.mgn L.sz.kp L.sz.bn .nil pass0 (pa_cons (pv 1) (pa_cons (pv 4) (pa_cons (pv 5) pa_nil)))) (pa_cons (pe_call L.sz.ok hr5 rfl L.sz.mgn L.sz.kp L.sz.bn .nil pass0 (pa_cons (pv 1) (pa_cons (pv 4) (pa_cons (pv 5) pa_nil)))) (pa_cons (pe_make L.fim L.fi hr4 (by rfl) L.Z.gF L.fib .nil pass0 (pa_cons (pv 4) pa_nil)) pa_nil)))) (pg_tup rfl (pgs_cons (pg_name (i := 7) nd rfl (.inr rfl)) (pgs_cons (pg_name (i := 8) nd rfl (.inr rfl)) (pgs_cons (pg_name (i := 9) nd rfl (.inr rfl)) pgs_nil)))))
        (pss_cons (ps_if (pt_val (pv 3))
          (pss_cons (ps_setLc (i := 10) (own := [("_law_at", 15)]) (g := gName 15) (tt := tYes) (te := tCall (spPick K) [] E0 (tCons (tVar 1) (tCons (tVar 6) tNil))) rfl nd rfl rfl (sw_true rfl rfl rfl (by decide +kernel)) (pi_range1 rfl N.rng (pa_cons (pv 5) pa_nil))
            (blkOk_by (N := N10) (sc := defScope s_law) (by decide +kernel)) (fun _ _ _ _ _ => pg_name (i := 15) nd rfl (Or.inl rfl)) (fun _ _ _ _ _ => pts_nil) (fun _ _ _ _ _ => (pe_call L.dp.ok hr2 rfl L.dp.mgn L.dp.kp L.dp.bn .nil pass0 (pa_cons (pv 1) (pa_cons (pv 6) pa_nil)))))
          (pss_cons (ps_set (i := 7) nd rfl (.inr rfl) (pe_call L.cd.ok hr2 rfl L.cd.mgn L.cd.kp L.cd.bn .nil pass0 (pa_cons (pv 4) (pa_cons (pv 10) pa_nil))))
          (pss_one (ps_if (pt_cmpR op_ne (pe_call (E := E0) L.ct.ok hr8 rfl L.ct.mgn L.ct.kp L.ct.bn .nil L2.passL (pa_cons (pv 9) (pa_cons (pv 5) (pa_cons (pv 7) (pa_cons (pv 8) pa_nil))))) (pe_callB call_len_seq (by rfl) N.len PySem.boot_len (pa_cons (pe_call L.bl.ok hr7 rfl L.bl.mgn L.bl.kp L.bl.bn .nil pass0 (pa_cons (pv 4) (pa_cons (pv 10) (pa_cons (pv 8) pa_nil)))) pa_nil)) (nomark _)) (pss_one (ps_ret pe_bl)) pss_nil)))) pss_nil)
        (pss_cons (ps_set (i := 11) nd rfl (.inl rfl) (pe_call L.wy.ok hr2 rfl L.wy.mgn L.wy.kp L.wy.bn .nil pass0 (pa_cons (pv 4) (pa_cons (pv 5) (pa_cons (pv 7) (pa_cons (pv 8) pa_nil))))))
        (pss_cons (ps_if (PW.pt (pw_or (pt_cmpR op_ne (pe_callB SkE.call_repr_int (by rfl) N.rep (by decide +kernel) (pa_cons (pe_call (E := E0) L.ct.ok hr8 rfl L.ct.mgn L.ct.kp L.ct.bn .nil L2.passL (pa_cons (pv 9) (pa_cons (pv 5) (pa_cons (pv 7) (pa_cons (pv 8) pa_nil))))) pa_nil)) (pe_callB SkE.call_repr_int (by rfl) N.rep (by decide +kernel) (pa_cons (pv 11) pa_nil)) (nomark _)) (pw_or1 (pt_cmpR op_ne (pe_call (E := E0) L.ct.ok hr8 rfl L.ct.mgn L.ct.kp L.ct.bn .nil L2.passL (pa_cons (pv 9) (pa_cons (pv 5) (pa_cons (pv 7) (pa_cons (pv 7) pa_nil))))) pe_int (nomark _))))) (pss_one (ps_ret pe_bl)) pss_nil)
        (pss_cons (ps_if (pt_cmpR op_ne (pe_callK0 (E := E0) L.ct.ok hr8 rfl L.ct.mgn L.ct.kp L.ctk L2.passL (pk_cons (pv 8) (pk_cons (pv 7) (pk_cons (pv 5) (pk_cons (pv 9) pk_nil))))) (pv 11) (nomark _)) (pss_one (ps_ret pe_bl)) pss_nil)
        (pss_cons (ps_if (pt_cmpR op_ne (pe_call (E := E0) L.ct.ok hr8 rfl L.ct.mgn L.ct.kp L.ct.bn .nil L2.passL (pa_cons (pe_make L.fim L.fi hr4 (by rfl) L.Z.gF L.fib .nil pass0 (pa_cons (pe_call L.tu.ok hr1 rfl L.tu.mgn L.tu.kp L.tu.bn .nil pass0 (pa_cons (pv 4) pa_nil)) pa_nil)) (pa_cons (pv 5) (pa_cons (pe_call L.tu.ok hr1 rfl L.tu.mgn L.tu.kp L.tu.bn .nil pass0 (pa_cons (pv 7) pa_nil)) (pa_cons (pe_call L.tu.ok hr1 rfl L.tu.mgn L.tu.kp L.tu.bn .nil pass0 (pa_cons (pv 8) pa_nil)) pa_nil))))) (pv 11) (nomark _)) (pss_one (ps_ret pe_bl)) pss_nil)
        (pss_cons (ps_set (i := 12) nd rfl (.inr rfl) (pe_callTy call_dictD (by rfl) N.dct (by decide +kernel) (pa_cons (pv 8) pa_nil)))
        (pss_cons (ps_dput hu (pv 12) (pe_call L.dp.ok hr2 rfl L.dp.mgn L.dp.kp L.dp.bn .nil pass0 (pa_cons (pv 1) (pa_cons (pe_callB (call_sortedD rfl) (by rfl) N.srt (by decide +kernel) (pa_cons (pv 4) pa_nil)) pa_nil))) (pe_call L.dp.ok hr2 rfl L.dp.mgn L.dp.kp L.dp.bn .nil pass0 (pa_cons (pv 1) (pa_cons (pe_lst (pa_cons (pe_op op_add (pv 5) pe_int) (pa_cons (pe_un un_neg pe_int) (pa_cons pe_non (pa_cons pe_bl pa_nil))))) pa_nil))) rfl)
        (pss_cons (ps_asg (pe_tup (pa_cons (pe_call L.dp.ok hr2 rfl L.dp.mgn L.dp.kp L.dp.bn .nil pass0 (pa_cons (pv 1) (pa_cons (pe_callB (call_sortedD rfl) (by rfl) N.srt (by decide +kernel) (pa_cons (pv 4) pa_nil)) pa_nil))) (pa_cons (pe_callTy call_dictD (by rfl) N.dct (by decide +kernel) (pa_cons (pv 7) pa_nil)) pa_nil))) (pg_tup rfl (pgs_cons (pg_name (i := 13) nd rfl (.inl rfl)) (pgs_cons (pg_name (i := 14) nd rfl (.inr rfl)) pgs_nil))))
        (pss_cons (ps_dput hu (pv 14) (pv 13) (pe_call L.dp.ok hr2 rfl L.dp.mgn L.dp.kp L.dp.bn .nil pass0 (pa_cons (pv 1) (pa_cons (pe_lst (pa_cons (pe_un un_neg pe_int) (pa_cons pe_non (pa_cons pe_bl pa_nil)))) pa_nil))) rfl)
        (pss_cons (ps_if (pt_cmpR op_ne (pe_lamS (T := T) (k := 8) (t := fun E => tCall (spCount K CF CU CS) [] E (tCons (tVar 9) (tCons (tVar 5) (tCons (tVar 14) (tCons tPickA tNil))))) rfl GP.mgn GP.fn GP.bn scPl rfl (.inl rfl) (fun cdg => place_gives S te) TB rfl hmT hut hr (lamS_by (sc := defScope s_law) (by decide +kernel)) rfl (fun _ _ _ _ _ => rfl)
            (fun A outer s H E f c' hr2 => pe_call L.ct.ok hr2 rfl L.ct.mgn L.ct.kp L.ct.bn .nil (passes_call (takes_of rfl rfl rfl rfl) (fun _ _ _ _ h => h)) (pa_cons (pv 9) (pa_cons (pv 5) (pa_cons (pv 14) (pa_cons (pe_call L.dp.ok (hr2.mono (by decide)) rfl L.dp.mgn L.dp.kp L.dp.bn .nil pass0 (pa_cons (pv 1) (pa_cons (pe_lst (pa_cons pe_non (pa_cons (pv 12) pa_nil))) pa_nil))) pa_nil)))))) (pv 13) (nomark _)) (pss_one (ps_ret pe_bl)) pss_nil)
        (pss_cons (ps_if (pt_cmpR op_ne (pe_lamS (T := T) (k := 8) (t := fun E => tCall (spCount K CF CU CS) [] E (tCons (tVar 9) (tCons (tVar 5) (tCons (tVar 7) (tCons (tVar 12) tNil))))) rfl GE.mgn GE.fn GE.bn scEr rfl (.inl rfl) (fun cdg => error_gives N C) TB rfl hmT hut hr (lamS_by (sc := defScope s_law) (by decide +kernel)) rfl (fun _ _ _ _ _ => rfl)
            (fun A outer s H E f c' hr2 => pe_call L.ct.ok hr2 rfl L.ct.mgn L.ct.kp L.ct.bn .nil (passes_call (takes_of rfl rfl rfl rfl) (fun _ _ _ _ h => h)) (pa_cons (pv 9) (pa_cons (pv 5) (pa_cons (pv 7) (pa_cons (pv 12) pa_nil)))))) pe_str (nomark _)) (pss_one (ps_ret pe_bl)) pss_nil)
        (pss_cons (ps_if (pt_cmpR op_ne (pe_lamS (T := T) (k := 8) (t := fun E => tCall (spCount K CF CU CS) [] E (tCons (tVar 9) (tCons (tVar 5) (tCons (tVar 12) (tCons (tVar 8) tNil))))) rfl GE.mgn GE.fn GE.bn scEr rfl (.inl rfl) (fun cdg => error_gives N C) TB rfl hmT hut hr (lamS_by (sc := defScope s_law) (by decide +kernel)) rfl (fun _ _ _ _ _ => rfl)
            (fun A outer s H E f c' hr2 => pe_call L.ct.ok hr2 rfl L.ct.mgn L.ct.kp L.ct.bn .nil (passes_call (takes_of rfl rfl rfl rfl) (fun _ _ _ _ h => h)) (pa_cons (pv 9) (pa_cons (pv 5) (pa_cons (pv 12) (pa_cons (pv 8) pa_nil)))))) pe_str (nomark _)) (pss_one (ps_ret pe_bl)) pss_nil)
        (pss_one (ps_if (pt_cmpR op_ne (pe_lamS (T := T) (k := 8) (t := fun E => tCall (spCount K CF CU CS) [] E (tCons (tVar 9) (tCons tPickB (tCons (tVar 12) (tCons (tVar 12) tNil))))) rfl GE.mgn GE.fn GE.bn scEr rfl (.inl rfl) (fun cdg => error_gives N C) TB rfl hmT hut hr (lamS_by (sc := defScope s_law) (by decide +kernel)) rfl (fun _ _ _ _ _ => rfl)
            (fun A outer s H E f c' hr2 => pe_call L.ct.ok hr2 rfl L.ct.mgn L.ct.kp L.ct.bn .nil (passes_call (takes_of rfl rfl rfl rfl) (fun _ _ _ _ h => h)) (pa_cons (pv 9) (pa_cons (pe_call L.dp.ok (hr2.mono (by decide)) rfl L.dp.mgn L.dp.kp L.dp.bn .nil pass0 (pa_cons (pv 1) (pa_cons (pe_lst (pa_cons pe_int (pa_cons pe_bl (pa_cons pe_non pa_nil)))) pa_nil))) (pa_cons (pv 12) (pa_cons (pv 12) pa_nil)))))) pe_str (nomark _)) (pss_one (ps_ret pe_bl)) pss_nil)
        ))))))))))))))))))
      (pss_one (ps_ret pe_bl))), ?_⟩
    refine ⟨_, rfl, a, ns, rfl, hS, hlen, fun H0 d c s0 ndd ncc dr0 => ?_⟩
    have tT0 : Tabs T H0 := tT.ext s0
    refine ⟨_, rfl, a, _, rfl, .inl (Same.sql s0 hS), _, _, rfl, _, _, rfl, rfl, ?_⟩
    obtain ⟨m, em⟩ : ∃ m : Int, m = 4 + (if (6 : Int) < ((ns.map V.int).length : Int) then 6 else ((ns.map V.int).length : Int)) := ⟨_, rfl⟩
    have lm : 0 ≤ m ∧ m ≤ 20 := by
      rw [List.length_map] at em
      subst em
      split <;> constructor <;> omega
    refine ⟨m, by rw [em] <;> rfl, by omega, by omega, ?_⟩
    refine for_it (walk_range (lo := 0) (n := m.toNat)) (fun j σ' H' => (∃ u2 u3 u4 u5 u6 u7 u8 u9 u10 u11 u12 u13 u14, σ' = [some (.ref a), some (.ref d), u2, u3, u4, u5, u6, u7, u8, u9, u10, u11, u12, u13, u14, none]) ∧ DrawAt H' d c ∧ Tabs T H') ⟨⟨_, _, _, _, _, _, _, _, _, _, _, _, _, rfl⟩, dr0, tT0⟩ (fun _ _ _ _ _ => trivial) ?_ (fun σ' H' _ => k H')
    intro jj xj σ' Ha Hb hj ⟨⟨u2, u3, u4, u5, u6, u7, u8, u9, u10, u11, u12, u13, u14, e⟩, dr, tb⟩ ⟨ea, eb⟩
    subst e
    subst ea
    subst eb
    clear em lm hj
    -- small or not
    refine ⟨_, rfl, d, c, 2, rfl, dr, by decide, by decide, fun k0 H1 k00 k01 dr1 kp1 => ⟨_, _, rfl, rfl, ?_⟩⟩
    have tb1 := tabs_keep tb dr kp1
    obtain ⟨sm, esm⟩ : ∃ sm, sm = decide ((0 : Int) < k0) := ⟨_, rfl⟩
    show gName 3 (V.bl (decide ((0 : Int) < k0))) _ _ _
    rw [← esm]
    clear esm k00 k01
    have mx1 : (0 : Int) < (if sm then 4 else 12) ∧ ((if sm then 4 else 12 : Int).natAbs < 2 ^ 200) ∧ (if sm then (4 : Int) else 12) ≤ 12 ∧ (sm = true → (if sm then (4 : Int) else 12) ≤ 4) := by cases sm <;> exact ⟨by decide, by decide, by decide, by decide⟩
    have mx2 : (0 : Int) < (if sm then 5 else 300) ∧ ((if sm then 5 else 300 : Int).natAbs < 2 ^ 200) ∧ (if sm then (5 : Int) else 300) ≤ 300 ∧ (sm = true → (if sm then (5 : Int) else 300) ≤ 5) := by cases sm <;> exact ⟨by decide, by decide, by decide, by decide⟩
    -- the tree
    refine ⟨_, rfl, _, rfl, by show 2 ≤ sizeLine; omega, fun p0 n0 => ?_⟩
    have sp0 := same_new (o := .lst [.int 12, .int 4]) n0
    obtain ⟨m11, m12, m13, m14⟩ := mx1
    refine ⟨_, rfl, .inr ⟨_, rfl, p0, _, _, _, rfl, rfl, SqL.of upd_same, pick2L _ _ _, d, c, _, rfl, dr1.mono sp0, m11, m12, fun k1 H2 k10 k11 dr2 kp2 => ⟨_, _, rfl, rfl, ?_⟩⟩⟩
    have kp12 := (Keep.of_same (d := d) (c := c) sp0).trans kp2
    refine ⟨d, c, (1 + k1).toNat, by rw [Int.toNat_of_nonneg (by omega)] <;> rfl, dr2, by omega, by omega, fun q t H3 o lt nq hq dr3 kp3 => ?_⟩
    have tb2 := tabs_keep tb1 dr1 kp12
    have tb3 := tabs_keep tb2 dr2 kp3
    have few := o.few
    have one := o.one
    have smT : sm = true → t.length ≤ 4 := fun h => by
      have := m14 h
      omega
    clear m11 m12 m13 m14 k10 k11 lt
    -- the users
    refine ⟨_, rfl, by show 2 ≤ sizeLine; omega, fun p1 n1 => ?_⟩
    have sp1 := same_new (o := .lst [.int 300, .int 5]) n1
    obtain ⟨m21, m22, m23, m24⟩ := mx2
    refine ⟨_, rfl, .inr ⟨_, rfl, p1, _, _, _, rfl, rfl, SqL.of upd_same, pick2L _ _ _, d, c, _, rfl, dr3.mono sp1, m21, m22, fun k2 H4 k20 k21 dr4 kp4 => ⟨_, _, rfl, rfl, ?_⟩⟩⟩
    have kp34 := (Keep.of_same (d := d) (c := c) sp1).trans kp4
    have tb4 := tabs_keep tb3 dr3 kp34
    have hq4 : H4 q = some (.dK (prs t)) := let ⟨b1, b2⟩ := dr3.notD hq (fun xs z => nomatch z); kp34 _ _ b1 b2 hq
    obtain ⟨n, en⟩ : ∃ n : Int, n = 1 + k2 := ⟨_, rfl⟩
    have smU : sm = true → n ≤ 5 := fun h => by
      have := m24 h
      omega
    have n1' : 1 ≤ n := by omega
    have n3 : n ≤ 300 := by omega
    clear m21 m22 m23 m24
    refine ⟨by show 1 ≤ sizeLine; omega, fun p2 m2 => ?_⟩
    have t1 := same_new (o := .lst [.str ""]) m2
    refine ⟨_, rfl, q, prs t, t.map Prod.fst, rfl, .inl (t1 _ _ hq4), prs_keys t, by rw [List.length_map]; omega, fun ks p3 pks srt m3 => ?_⟩
    have lks := pks.length_eq
    rw [List.length_map] at lks
    have t2 := same_new (o := .lst (ks.map V.str)) m3
    refine ⟨p2, p3, [.str ""], ks.map V.str, rfl, rfl, t2 _ _ upd_same, upd_same, by rw [List.length_map]; show 1 + _ ≤ sizeLine; omega, fun ps mps => ?_⟩
    have t3 := same_new (o := .lst ([.str ""] ++ ks.map V.str)) mps
    obtain ⟨psd, psc⟩ := ((dr4.mono t1).mono t2).apart mps
    refine ⟨by show 2 ≤ sizeLine; omega, fun tp ntp => ⟨tp, _, rfl, .inl (.inl upd_same), rfl, _, _, rfl, _, _, rfl, rfl, ?_⟩⟩
    have t4 := same_new (o := .tup [.int (1 + k2), .ref ps]) ntp
    obtain ⟨H5, e5⟩ : ∃ X, X = upd (upd (upd (upd H4 p2 (.lst [.str ""])) p3 (.lst (ks.map V.str))) ps (.lst ([.str ""] ++ ks.map V.str))) tp (.tup [.int (1 + k2), .ref ps]) := ⟨_, rfl⟩
    have s45 : Same H4 H5 := e5 ▸ (((t1.trans t2).trans t3).trans t4)
    have hps5 : H5 ps = some (.lst ((("" : Str) :: ks).map V.str)) := by rw [e5]; exact t4 _ _ upd_same
    have e5' : upd (upd (upd (upd H4 p2 (.lst [.str ""])) p3 (.lst (ks.map V.str))) ps (.lst ([.str ""] ++ ks.map V.str))) tp (.tup [(fun i j => V.int (i + j)) 1 k2, .ref ps]) = H5 := e5.symm
    rw [e5']
    clear e5 e5'
    have dr5 := dr4.mono s45
    have tb5 := tb4.ext s45
    have hq5 := s45 _ _ hq4
    show (_ : St → Hp → Prop) [some (.ref a), some (.ref d), some (.int (0 + (jj : Int))), some (.bl sm), some (.ref q), some (.int (1 + k2)), some (.ref ps), u7, u8, u9, u10, u11, u12, u13, u14, none] H5
    rw [← en]
    -- two sizes and the forest
    refine ⟨_, rfl, _, rfl, _, rfl, d, c, q, n, t, rfl, dr5, hq5, o, by omega, by omega, tb5, fun qo lo so H6 plo fo fro ho dr6 tb6 kn6 => ?_⟩
    have hq6 := kn6.dk dr5 hq5
    have hps6 := kn6 _ _ psd psc hps5 (fun ps z => nomatch z)
    refine ⟨_, rfl, _, rfl, _, rfl, d, c, q, n, t, rfl, dr6, hq6, o, by omega, by omega, tb6, fun ql ll sl H7 pll fl frl hl dr7 tb7 kn7 => ?_⟩
    have hq7 := kn7.dk dr6 hq6
    have ho7 := kn7.dk dr6 ho
    have hps7 := kn7 _ _ psd psc hps6 (fun ps z => nomatch z)
    refine ⟨_, rfl, fun x dx nx ndx nxd => ?_⟩
    have sN : Same H7 (upd (upd H7 dx (.own x)) x (.ins CF dx [])) := fun b u e => by
      rw [upd_ne (ne_of_none e nx), upd_ne (ne_of_none e ndx)]
      exact e
    refine ⟨x, q, dx, t, rfl, upd_same, sN _ _ hq7, o, fun H8 ts pts asc fa8 oth => ⟨rfl, by show 3 ≤ sizeLine; omega, fun tq ntq => ⟨tq, _, rfl, .inl (.inl upd_same), rfl, _, _, rfl, _, _, rfl, _, _, rfl, rfl, ?_⟩⟩⟩
    have s78 : Same H7 H8 := fun b u e => oth b u (ne_of_none e nx) (sN _ _ e)
    have ot : TreeOk ts := o.perm pts.symm
    have pk : (ts.map Prod.fst).Perm (t.map Prod.fst) := pts.map _
    have st := same_new (o := .tup [.ref qo, .ref ql, .ref x]) ntq
    obtain ⟨H9, e9⟩ : ∃ X, X = upd H8 tq (.tup [.ref qo, .ref ql, .ref x]) := ⟨_, rfl⟩
    rw [← e9] at st ⊢
    clear e9
    have s79 := s78.trans st
    have dr9 := dr7.mono s79
    have tb9 := tb7.ext s79
    have hps9 := s79 _ _ hps7
    have F9 : Fx10 T CF d c q qo ql x t ts lo ll so sl H9 := ⟨dr9, tb9, s79 _ _ hq7, s79 _ _ ho7, s79 _ _ hl, fa8.mono st⟩
    have fl' := Fea.perm pts.symm fl
    have pll' := pll.trans pk.symm
    obtain ⟨nn, enn⟩ : ∃ nn : Nat, n = (nn : Int) := ⟨n.toNat, by omega⟩
    -- a small one, by all ways
    refine join_if (b := sm) rfl (fun σ H' => ∃ (qo' : Addr) (lo' : List Str) (so' : Str → Int) (v10 : Option V), σ = [some (.ref a), some (.ref d), some (.int (0 + (jj : Int))), some (.bl sm), some (.ref q), some (.int n), some (.ref ps), some (.ref qo'), some (.ref ql), some (.ref x), v10, u11, u12, u13, u14, none] ∧
        lo'.Perm (t.map Prod.fst) ∧ Fea t n so' ∧ Fx10 T CF d c q qo' ql x t ts lo' ll so' sl H') (fun hsm D' kk => ?_) (fun hsm => ⟨qo, lo, so, _, rfl, plo, fo, F9⟩) ?_
    · have inPl : ∀ z ∈ ("" : Str) :: ks, Pl t z := fun z hz => (List.mem_cons.mp hz).imp id fun h => pks.mem_iff.mp h
      refine ⟨_, rfl, n, rfl, by omega, by omega, fun D nD => ?_⟩
      obtain ⟨Dd, Dc⟩ := dr9.apart nD
      have sD := same_new (o := .lst []) nD
      refine lc_it (walk_range (lo := 0) (n := n.toNat)) (fun j H' => DrawAt H' d c ∧ Keep d c H9 H' ∧ ∃ zs : List Str, H' D = some (.lst (zs.map V.str)) ∧ zs.length = j ∧ ∀ z ∈ zs, Pl t z) ⟨dr9.mono sD, Keep.of_same sD, [], upd_same, rfl, fun z hz => by cases hz⟩ (fun _ _ _ _ => trivial) ?_ ?_
      · intro j yv Hx Hy hj ⟨da, ka, zs, hD, lz, pz⟩ ⟨eb, ey⟩
        subst eb
        subst ey
        refine ⟨rfl, ?_⟩
        refine ⟨_, rfl, _, rfl, d, c, .ref ps, (("" : Str) :: ks).length, (fun _ x => ∃ z, x = .str z ∧ z ∈ (("" : Str) :: ks)), rfl, da, .inl ⟨ps, _, rfl, psd, psc, ka ps _ psd psc hps9, by rw [List.length_map], items_strs (ws := ("" : Str) :: ks) fun z hz => hz⟩, Nat.succ_pos _, by rw [List.length_cons]; omega, fun i x6 H6' px dr6' k6 => ?_⟩
        obtain ⟨z, rfl, mz⟩ := px
        have hD6 := k6 D _ Dd Dc hD
        exact ⟨_, hD6, by rw [List.length_map]; omega, dr6'.off Dd Dc, (ka.trans k6).put nD, zs ++ [z], by rw [upd_same, List.map_append] <;> rfl, by rw [List.length_append, lz] <;> rfl, fun y hy => (List.mem_append.mp hy).elim (pz y) fun h => by rw [List.mem_singleton.mp h]; exact inPl z mz⟩
      intro H10 ⟨dr10, kp10, zs, hD10, lz, pz⟩
      have lzn : (zs.length : Int) = n := by omega
      have F10 := F9.keep dr10 kp10
      refine ⟨_, rfl, _, rfl, q, D, t, zs, rfl, F10.hq, o, hD10, pz, fun pc kc H11 s11 npc pkc hpc => ?_⟩
      have fz := fea_szL o zs pz
      rw [lzn] at fz
      have F11 : Fx10 T CF d c q pc ql x t ts kc ll (szL t zs) sl H11 := let g := F10.same s11; ⟨g.dr, g.tb, g.hq, hpc, g.hl, g.fa⟩
      refine ⟨_, rfl, _, rfl, _, rfl, _, rfl, x, .int n, .ref pc, .ref ql, ts, some (tblI kc (szL t zs)), some (tblI ll sl), rfl, F11.fa, ot, ⟨_, .int n⟩, sz_tbl F11.ho, sz_tbl F11.hl, ?_⟩
      rw [am_none n1' (by omega) (Fea.perm pts.symm fz) fl' (pkc.trans pk.symm) pll']
      refine ⟨n3, fun H12 s12 => ?_⟩
      rw [cnt_val o pts fl pkc pll]
      have F12 := F11.same s12
      have fl5 : Fea t (zs.length : Int) sl := by rw [lzn]; exact fl
      refine ⟨_, rfl, _, rfl, _, rfl, q, D, ql, t, zs, ll, sl, rfl, F12.hq, o, smT hsm, s12 _ _ (s11 _ _ hD10), pz, by omega, by have := smU hsm; omega, F12.hl, pll, fl5, fun pb xs H13 s13 hpb lxs => ?_⟩
      rw [lzn] at lxs
      refine ⟨pb, _, rfl, .inl (SqL.of hpb), rfl, _, rfl, ifNeL (by rw [lxs]) (kk _ _ ⟨pc, kc, szL t zs, _, rfl, pkc, fz, F12.same s13⟩)⟩
    rintro σ H10 ⟨qa, la, sa, v10, rfl, pla, fsa, F10⟩
    have fsa' := Fea.perm pts.symm fsa
    have pla' := pla.trans pk.symm
    clear fo plo fro frl
    have am2 : ∀ {CU' CS' : Addr}, amE CU' CS' ts (.int n) (some (tblI la sa)) (some (tblI ll sl)) = none := fun {_ _} => am_none n1' (by omega) fsa' fl' pla' pll'
    have am1 : ∀ {CU' CS' : Addr}, amE CU' CS' ts (.int n) (some (tblI la sa)) (some (tblI la sa)) = none := fun {_ _} => am_none n1' (by omega) fsa' fsa' pla' pla'
    have lg := cnt_log (s1 := sa) (s2 := sl) o (by omega) n3 fsa fl
    have one1 : (cntN t n sa sa : Int) = 1 := by rw [cnt_same o fsa fun _ _ => rfl] <;> rfl
    -- the ways
    refine ⟨_, rfl, _, rfl, _, rfl, _, rfl, q, qa, ql, n, t, la, ll, sa, sl, rfl, F10.hq, o, F10.ho, F10.hl, pla, pll, fsa, fl, n3, fun H11 s11 => ?_⟩
    have F11 := F10.same s11
    obtain ⟨due, edue⟩ : ∃ due : Int, due = (cntN t n sa sl : Int) := ⟨_, rfl⟩
    have cv : ∀ {u : List (Str × Str)} {l1 l2 : List Str}, u.Perm t → l1.Perm (t.map Prod.fst) → l2.Perm (t.map Prod.fst) → (cntN u (numV (.int n)) (szOf (kvsOf (some (tblI l1 sa)))) (szOf (kvsOf (some (tblI l2 sl)))) : Int) = due := fun p p1 p2 => by rw [edue, cnt_val o p fl p1 p2]
    rw [← edue] at lg ⊢
    refine ⟨_, rfl, _, rfl, _, rfl, _, rfl, x, .int n, .ref qa, .ref ql, ts, some (tblI la sa), some (tblI ll sl), rfl, F11.fa, ot, ⟨_, .int n⟩, sz_tbl F11.ho, sz_tbl F11.hl, ?_⟩
    rw [am2]
    refine ⟨n3, fun H12 s12 => ?_⟩
    rw [cv pts pla pll]
    have F12 := F11.same s12
    refine ⟨_, rfl, lg, _, rfl, _, rfl, lg, rfl, _, rfl, ?_⟩
    rw [decide_eq_true rfl]
    refine iteF ?_
    refine ⟨_, rfl, _, rfl, _, rfl, _, rfl, x, .int n, .ref qa, .ref qa, ts, some (tblI la sa), some (tblI la sa), rfl, F12.fa, ot, ⟨_, .int n⟩, sz_tbl F12.ho, sz_tbl F12.ho, ?_⟩
    rw [am1]
    refine ⟨n3, fun H13 s13 => ?_⟩
    rw [cnt_val o pts fsa pla pla, one1]
    have F13 := F12.same s13
    refine ⟨rfl, _, rfl, ifNeL rfl ?_⟩
    -- by words
    refine ⟨_, rfl, _, rfl, _, rfl, _, rfl, rfl, x, .int n, .ref qa, .ref ql, ts, some (tblI la sa), some (tblI ll sl), rfl, F13.fa, ot, ⟨_, .int n⟩, sz_tbl F13.ho, sz_tbl F13.hl, ?_⟩
    rw [am2]
    refine ⟨n3, fun H14 s14 => ?_⟩
    rw [cv pts pla pll]
    have F14 := F13.same s14
    refine ⟨_, rfl, rfl, _, rfl, ifNeL rfl ?_⟩
    -- turned
    refine ⟨_, rfl, q, t.map (fun p : Str × Str => (p.1, V.str p.2)), rfl, F14.hq, by rw [prs_fst]; exact o.nd, fun pq H15 s15 npq hpq => ?_⟩
    rw [prs_turn] at hpq
    have F15 := F14.same s15
    refine fun x2 dx2 nx2 ndx2 nxd2 => ?_
    have sM : Same H15 (upd (upd H15 dx2 (.own x2)) x2 (.ins CF dx2 [])) := fun b u e => by
      rw [upd_ne (ne_of_none e nx2), upd_ne (ne_of_none e ndx2)]
      exact e
    refine ⟨x2, pq, dx2, t.reverse, rfl, upd_same, sM _ _ hpq, o.perm (List.reverse_perm t).symm, fun H16 us pus ascu fb16 oth2 => ⟨rfl, ?_⟩⟩
    have s1516 : Same H15 H16 := fun b u e => oth2 b u (ne_of_none e nx2) (sM _ _ e)
    have F16 := F15.same s1516
    have pus' : us.Perm t := pus.trans (List.reverse_perm t)
    have pku : (us.map Prod.fst).Perm (t.map Prod.fst) := pus'.map _
    refine ⟨_, rfl, _, rfl, qa, la.map (fun a : Str => (a, V.int (sa a))), rfl, F16.ho, by rw [tblI_fst]; exact pla.nodup_iff.mpr o.nd, fun pa H17 s17 npa hpa => ?_⟩
    rw [tblI_turn] at hpa
    have F17 := F16.same s17
    refine ⟨_, rfl, ql, ll.map (fun a : Str => (a, V.int (sl a))), rfl, F17.hl, by rw [tblI_fst]; exact pll.nodup_iff.mpr o.nd, fun pl H18 s18 npl hpl => ?_⟩
    rw [tblI_turn] at hpl
    have F18 := F17.same s18
    have pra : la.reverse.Perm (t.map Prod.fst) := (List.reverse_perm la).trans pla
    have prl : ll.reverse.Perm (t.map Prod.fst) := (List.reverse_perm ll).trans pll
    refine ⟨x2, .int n, .ref pa, .ref pl, us, some (tblI la.reverse sa), some (tblI ll.reverse sl), rfl, (fb16.mono s17).mono s18, o.perm pus'.symm, ⟨_, .int n⟩, sz_tbl (s18 _ _ hpa), sz_tbl hpl, ?_⟩
    rw [am_none n1' (by omega) (Fea.perm pus'.symm fsa) (Fea.perm pus'.symm fl) (pra.trans pku.symm) (prl.trans pku.symm)]
    refine ⟨n3, fun H19 s19 => ?_⟩
    rw [cv pus' pra prl]
    have F19 := F18.same s19
    refine ⟨_, rfl, rfl, _, rfl, ifNeL rfl ?_⟩
    -- odd sizes
    refine ⟨_, rfl, ql, _, rfl, .inl F19.hl, fun pw npw => ?_⟩
    have sw := same_new (o := .dK (tblI ll sl)) npw
    obtain ⟨H20, e20⟩ : ∃ X, X = upd H19 pw (.dK (tblI ll sl)) := ⟨_, rfl⟩
    have hw20 : H20 pw = some (.dK (tblI ll sl)) := by rw [e20]; exact upd_same
    rw [← e20] at sw ⊢
    clear e20
    have F20 := F19.same sw
    obtain ⟨pwd, pwc⟩ := F19.dr.apart npw
    refine ⟨_, rfl, _, rfl, _, _, rfl, rfl, 1, rfl, by show 4 ≤ sizeLine; omega, fun po npo => ?_⟩
    have so20 := same_new (o := .lst [.int (n + 1), .int (-1), .non, .bl true]) npo
    obtain ⟨pod, poc⟩ := F20.dr.apart npo
    refine ⟨d, c, .ref po, 4, (fun _ v => (isGe v 0 = false ∨ v = .int (n + 1)) ∧ Simp v), rfl, F20.dr.off pod poc, .inl ⟨po, [.int (n + 1), .int (-1), .non, .bl true], rfl, pod, poc, upd_same, rfl, fun i v hv => ?_⟩, by decide, by decide, fun i2 v H21 px dr21 k21 => ?_⟩
    · have mm := List.mem_of_getElem? hv
      simp only [List.mem_cons, List.not_mem_nil, or_false] at mm
      rcases mm with rfl | rfl | rfl | rfl
      · exact ⟨.inr rfl, .inl ⟨_, rfl⟩⟩
      · exact ⟨.inl (by decide), .inl ⟨_, rfl⟩⟩
      · exact ⟨.inl rfl, .inr (.inl rfl)⟩
      · exact ⟨.inl rfl, .inr (.inr ⟨_, rfl⟩)⟩
    obtain ⟨vbad, vsim⟩ := px
    have kp21 : Keep d c H19 H21 := ((Keep.of_same sw).trans (Keep.of_same so20)).trans k21
    have kw21 : Keep d c H20 H21 := (Keep.of_same so20).trans k21
    have F21 := F20.keep dr21 kw21
    have hw21 := kw21 _ _ pwd pwc hw20
    refine ⟨_, rfl, _, rfl, _, rfl, q, prs t, t.map Prod.fst, rfl, .inl F21.hq, prs_keys t, by rw [List.length_map]; omega, fun ys p perm srt' np => ?_⟩
    have pd := F21.dr.apart np
    have ly := perm.length_eq
    rw [List.length_map] at ly
    refine ⟨d, c, .ref p, ys.length, (fun _ x => ∃ z, x = .str z ∧ z ∈ t.map Prod.fst), rfl, F21.dr.off pd.1 pd.2, .inl ⟨p, _, rfl, pd.1, pd.2, upd_same, by rw [List.length_map], items_strs fun z hz => perm.mem_iff.mp hz⟩, by omega, by omega, fun i0 xx H22 px dr22 k22 => ?_⟩
    obtain ⟨oa, rfl, moa⟩ := px
    have kp22 : Keep d c H21 H22 := (Keep.of_same (same_new np)).trans k22
    have hw22 := kp22 _ _ pwd pwc hw21
    refine ⟨pw, _, rfl, DPut.k (k := Sum.inr oa) hw22 (by rw [tblI_len, pll.length_eq, List.length_map]; omega), ?_⟩
    rw [show putK (tblI ll sl) (Sum.inr oa) v = kvT (putT (ll.map fun b => (b, V.int (sl b))) oa v) from kvT_putT _ _ _]
    obtain ⟨wr, ewr⟩ : ∃ X, X = kvT (putT (ll.map fun b => (b, V.int (sl b))) oa v) := ⟨_, rfl⟩
    obtain ⟨H23, e23⟩ : ∃ X, X = upd H22 pw (.dK wr) := ⟨_, rfl⟩
    rw [← ewr, ← e23]
    have K23 : Keep d c H19 H23 := by rw [e23]; exact (kp21.trans kp22).put npw
    have dr23 : DrawAt H23 d c := by rw [e23]; exact dr22.off pwd pwc
    have F23 := F19.keep dr23 K23
    have hw23 : H23 pw = some (.dK wr) := by rw [e23]; exact upd_same
    clear e23
    have wsim : ∀ p ∈ wr, Simp p.2 := by rw [ewr]; exact simp_put vsim
    have wbad : ∃ pv, feE CS ts n (some wr) = some (.e1 CS "place" pv) := by rw [ewr]; exact odd_fe ot pll' fl'.nn (pk.mem_iff.mpr moa) vbad
    clear ewr vbad vsim
    -- a name, and strange sizes
    refine ⟨_, rfl, _, rfl, q, prs t, t.map Prod.fst, rfl, .inl F23.hq, prs_keys t, by rw [List.length_map]; omega, fun ys2 pn2 perm2 srt2 np2 => ?_⟩
    have pd2 := F23.dr.apart np2
    have ly2 := perm2.length_eq
    rw [List.length_map] at ly2
    refine ⟨d, c, .ref pn2, ys2.length, (fun _ x => ∃ z, x = .str z ∧ z ∈ t.map Prod.fst), rfl, F23.dr.off pd2.1 pd2.2, .inl ⟨pn2, _, rfl, pd2.1, pd2.2, upd_same, by rw [List.length_map], items_strs fun z hz => perm2.mem_iff.mp hz⟩, by omega, by omega, fun i1 xx H24 px dr24 k24 => ?_⟩
    obtain ⟨na, rfl, mna⟩ := px
    have kp24 : Keep d c H23 H24 := (Keep.of_same (same_new np2)).trans k24
    have F24 := F23.keep dr24 kp24
    have hw24 := kp24 _ _ pwd pwc hw23
    refine ⟨_, rfl, qa, _, rfl, .inl F24.ho, fun pz npz => ⟨by show 2 ≤ sizeLine; omega, fun tz ntz => ⟨tz, _, rfl, .inl (.inl upd_same), rfl, _, _, rfl, _, _, rfl, rfl, ?_⟩⟩⟩
    have sz1 := same_new (o := .dK (tblI la sa)) npz
    have sz2 := same_new (o := .tup [.str na, .ref pz]) ntz
    obtain ⟨pzd, pzc⟩ := F24.dr.apart npz
    obtain ⟨H25, e25⟩ : ∃ X, X = upd (upd H24 pz (.dK (tblI la sa))) tz (.tup [.str na, .ref pz]) := ⟨_, rfl⟩
    have s2425 : Same H24 H25 := e25 ▸ sz1.trans sz2
    have hz25 : H25 pz = some (.dK (tblI la sa)) := by rw [e25]; exact sz2 _ _ upd_same
    rw [← e25]
    clear e25
    have F25 := F24.same s2425
    refine ⟨_, rfl, 1, rfl, by show 3 ≤ sizeLine; omega, fun po3 npo3 => ?_⟩
    have so25 := same_new (o := .lst [.int (-1), .non, .bl true]) npo3
    obtain ⟨po3d, po3c⟩ := F25.dr.apart npo3
    refine ⟨d, c, .ref po3, 3, (fun _ v => isGe v 0 = false ∧ Simp v), rfl, F25.dr.off po3d po3c, .inl ⟨po3, [.int (-1), .non, .bl true], rfl, po3d, po3c, upd_same, rfl, fun i v hv => ?_⟩, by decide, by decide, fun i3 zv H26 px dr26 k26 => ?_⟩
    · have mm := List.mem_of_getElem? hv
      simp only [List.mem_cons, List.not_mem_nil, or_false] at mm
      rcases mm with rfl | rfl | rfl
      · exact ⟨by decide, .inl ⟨_, rfl⟩⟩
      · exact ⟨rfl, .inr (.inl rfl)⟩
      · exact ⟨rfl, .inr (.inr ⟨_, rfl⟩)⟩
    obtain ⟨zge, zsim0⟩ := px
    have kz26 : Keep d c H25 H26 := (Keep.of_same so25).trans k26
    have hz26 := kz26 _ _ pzd pzc hz25
    refine ⟨_, rfl, _, rfl, pz, _, rfl, DPut.k (k := Sum.inr na) hz26 (by rw [tblI_len, pla.length_eq, List.length_map]; omega), ?_⟩
    rw [show putK (tblI la sa) (Sum.inr na) zv = kvT (putT (la.map fun b => (b, V.int (sa b))) na zv) from kvT_putT _ _ _]
    obtain ⟨zr, ezr⟩ : ∃ X, X = kvT (putT (la.map fun b => (b, V.int (sa b))) na zv) := ⟨_, rfl⟩
    obtain ⟨H27, e27⟩ : ∃ X, X = upd H26 pz (.dK zr) := ⟨_, rfl⟩
    rw [← ezr, ← e27]
    have K27 : Keep d c H24 H27 := by rw [e27]; exact ((Keep.of_same s2425).trans kz26).put npz
    have dr27 : DrawAt H27 d c := by rw [e27]; exact dr26.off pzd pzc
    have F27 := F24.keep dr27 K27
    have hz27 : H27 pz = some (.dK zr) := by rw [e27]; exact upd_same
    have hw27 := K27 _ _ pwd pwc hw24
    clear e27
    have zsim : ∀ p ∈ zr, Simp p.2 := by rw [ezr]; exact simp_put zsim0
    have zbad : feE CS ts n (some zr) = some (.e1 CS "place" (.str na)) := by rw [ezr]; exact bad_fe pla' fsa'.nn (pk.mem_iff.mpr mna) zge
    clear ezr zge zsim0
    obtain ⟨Gd, eGd⟩ : ∃ Gd : Hp → Prop, Gd = fun H' => Fx10 T CF d c q qa ql x t ts la ll sa sl H' ∧ H' pw = some (.dK wr) ∧ H' pz = some (.dK zr) := ⟨_, rfl⟩
    have un : ∀ {H'}, Gd H' → Fx10 T CF d c q qa ql x t ts la ll sa sl H' ∧ H' pw = some (.dK wr) ∧ H' pz = some (.dK zr) := fun h => by rw [eGd] at h; exact h
    have mk : ∀ {H'}, Fx10 T CF d c q qa ql x t ts la ll sa sl H' ∧ H' pw = some (.dK wr) ∧ H' pz = some (.dK zr) → Gd H' := fun h => by rw [eGd]; exact h
    have gs : ∀ {H1 H2}, Gd H1 → Same H1 H2 → Gd H2 := fun g s => mk ⟨(un g).1.same s, s _ _ (un g).2.1, s _ _ (un g).2.2⟩
    have gx : ∀ {H1 H2}, Gd H1 → ExtN H1 H2 → Tabs T H2 → Gd H2 := fun g e t' => mk ⟨(un g).1.ext e t', (KeepN.of_ext e).dk (un g).1.dr (un g).2.1, (KeepN.of_ext e).dk (un g).1.dr (un g).2.2⟩
    have gk : ∀ {H1 H2}, Gd H1 → DrawAt H2 d c → Keep d c H1 H2 → Gd H2 := fun g dr' k' => mk ⟨(un g).1.keep dr' k', k'.n.dk (un g).1.dr (un g).2.1, k'.n.dk (un g).1.dr (un g).2.2⟩
    have g27 : Gd H27 := mk ⟨F27, hw27, hz27⟩
    -- the place of the first wrong size
    refine chk_placeN (CS := CS) (i := 13) (z := na) Gd rfl F27.tb (fun H1 ex t1 E Q' out => ?_) fun H30 H30' g30 s30 => ?_
    · have g := gx g27 ex t1
      refine ⟨_, rfl, _, rfl, _, rfl, _, rfl, _, rfl, by show 2 ≤ sizeLine; omega, fun pl npl => ?_⟩
      have sll := same_new (o := .lst [.non, .ref pw]) npl
      have g1 := gs g sll
      have pld := (un g).1.dr.apart npl
      refine ⟨d, c, .ref pl, 2, (fun _ u => u = .non ∨ u = .ref pw), rfl, (un g1).1.dr, .inl ⟨pl, _, rfl, pld.1, pld.2, upd_same, rfl, fun i u hu => ?_⟩, by decide, by decide, fun i u H3 pu dr3 k3 => ?_⟩
      · have mm := List.mem_of_getElem? hu
        simp only [List.mem_cons, List.not_mem_nil, or_false] at mm
        exact mm
      have g3 := gk g1 dr3 k3
      have szu : ∃ o2, SzV K H3 u o2 := by
        rcases pu with rfl | rfl
        · exact ⟨none, _, .non, by decide⟩
        · exact ⟨some wr, sz_sim (un g3).2.1 wsim⟩
      obtain ⟨o2, szu⟩ := szu
      refine ⟨x, .int n, .ref pz, u, ts, some zr, o2, rfl, (un g3).1.fa, ot, ⟨_, .int n⟩, sz_sim (un g3).2.2 zsim, szu, ?_⟩
      rw [am_first n1' (by omega) zbad]
      exact out H3 g3
    have g31 := gs g30 s30
    obtain ⟨pv, wb⟩ := wbad
    -- odd new sizes
    refine chk_errorI 1 (by decide) Gd (un g31).1.tb (fun H1 ex t1 E Q' out => ?_) fun H32 H32' g32 s32 => ?_
    · have g := gx g31 ex t1
      refine ⟨_, rfl, _, rfl, _, rfl, _, rfl, x, .int n, .ref qa, .ref pw, ts, some (tblI la sa), some wr, rfl, (un g).1.fa, ot, ⟨_, .int n⟩, sz_tbl (un g).1.ho, sz_sim (un g).2.1 wsim, ?_⟩
      rw [am_second n1' (by omega) fsa' pla' wb]
      exact fun d3 H3 s3 nd3 hd3 => by rw [← e1]; exact out (some d3) H3 (gs g s3) (.inr ⟨d3, _, rfl, hd3⟩)
    have g33 := gs g32 s32
    -- odd old sizes
    refine chk_errorI 1 (by decide) Gd (un g33).1.tb (fun H1 ex t1 E Q' out => ?_) fun H34 H34' g34 s34 => ?_
    · have g := gx g33 ex t1
      refine ⟨_, rfl, _, rfl, _, rfl, _, rfl, x, .int n, .ref pw, .ref ql, ts, some wr, some (tblI ll sl), rfl, (un g).1.fa, ot, ⟨_, .int n⟩, sz_sim (un g).2.1 wsim, sz_tbl (un g).1.hl, ?_⟩
      rw [am_first n1' (by omega) wb]
      exact fun d3 H3 s3 nd3 hd3 => by rw [← e1]; exact out (some d3) H3 (gs g s3) (.inr ⟨d3, _, rfl, hd3⟩)
    have g35 := gs g34 s34
    -- no users
    refine chk_errorI 0 (by decide) Gd (un g35).1.tb (fun H1 ex t1 E Q' out => ?_) fun H36 H36' g36 s36 => ?_
    · have g := gx g35 ex t1
      refine ⟨_, rfl, _, rfl, by show 3 ≤ sizeLine; omega, fun pl npl => ?_⟩
      have sll := same_new (o := .lst [.int 0, .bl true, .non]) npl
      have g1 := gs g sll
      have pld := (un g).1.dr.apart npl
      refine ⟨d, c, .ref pl, 3, (fun _ u => usersOk u (10 ^ 30) = false ∧ ∀ H3, IsDat K H3 u), rfl, (un g1).1.dr, .inl ⟨pl, _, rfl, pld.1, pld.2, upd_same, rfl, fun i u hu => ?_⟩, by decide, by decide, fun i u H3 pu dr3 k3 => ?_⟩
      · have mm := List.mem_of_getElem? hu
        simp only [List.mem_cons, List.not_mem_nil, or_false] at mm
        rcases mm with rfl | rfl | rfl
        · exact ⟨by decide, fun _ => ⟨_, .int _⟩⟩
        · exact ⟨rfl, fun _ => ⟨_, .bl _⟩⟩
        · exact ⟨rfl, fun _ => ⟨_, .non⟩⟩
      have g3 := gk g1 dr3 k3
      refine ⟨_, rfl, _, rfl, x, u, .ref pw, .ref pw, ts, some wr, some wr, rfl, (un g3).1.fa, ot, pu.2 H3, sz_sim (un g3).2.1 wsim, sz_sim (un g3).2.1 wsim, ?_⟩
      rw [am_users pu.1]
      exact fun H4 s4 => by rw [← e0]; exact out none H4 (gs g3 s4) (.inl rfl)
    have g37 := gs g36 s36
    exact ⟨⟨_, _, _, _, _, _, _, _, _, _, _, _, _, rfl⟩, (un g37).1.dr, (un g37).1.tb⟩
end
end FT


/-! need_users -/
namespace FT
open PySem L2 TL ClX
section
variable {P : Program} {w : World} {K : PySem.W.Frag} {mg : Str → Option Value} {base : Heap}
theorem scUsers : FnScope ["users", "most"] ["users", "most"] (defScope s_need_users) := ⟨rfl, rfl, rfl, by decide +kernel, rfl, by decide +kernel, by decide +kernel⟩
theorem ok_users {f fI CU IU : Addr} {fd fdI dU : FuncData} (F : Fun K "need_users" "need_users" s_need_users f fd) (T : Nm mg) (I : Dn P w K mg base CX0 1 "is_integer" ["value", "least"] (spIsInt K) fI fdI) (U : Er0 P w K mg base "InvalidUsers" CU IU dU) :
    FnOk P w K mg base (L2.CX P w) 3 f fd ["users", "most"] (spUsers K CU) := by
  refine F.okX scUsers (fun vs H Q E h => ?_) (fun cdv A outer s H vs Q E hr h => ?_)
  · obtain ⟨v, m, rfl, _⟩ := h
    rfl
  · obtain ⟨v, m, rfl, d, k⟩ := h
    refine ⟨_, pss_one (ps_if (PW.pt (pw_or (pt_not (pt_val (pe_call I.ok (hr.mono (by decide)) rfl I.mgn I.kp I.bn .nil pass0 (pa_cons (pv 0) (pa_cons pe_int pa_nil))))) (pw_or1 (pt_cmpR op_gt (pv 0) (pv 1) (nomark _))))) (pss_one (ps_err0 U rfl (takes_of rfl rfl rfl rfl) hr rfl)) pss_nil), ?_⟩
    refine ⟨_, rfl, v, 1, rfl, d, _, rfl, ?_⟩
    cases v with
    | int i =>
      by_cases h1 : 1 ≤ i
      · rw [show isGe (.int i) 1 = true from decide_eq_true h1]
        refine iteF ?_
        refine ⟨_, rfl, _, rfl, i, m, rfl, rfl, _, rfl, ?_⟩
        by_cases h2 : i ≤ m
        · rw [decide_eq_false (show ¬ m < i by omega)]
          rw [if_pos (show usersOk (.int i) m = true by show (decide (1 ≤ i) && decide (i ≤ m)) = true; rw [decide_eq_true h1, decide_eq_true h2] <;> rfl)] at k
          exact iteF (k H Same.refl)
        · rw [decide_eq_true (show m < i by omega)]
          rw [if_neg (show ¬ usersOk (.int i) m = true by show ¬ (decide (1 ≤ i) && decide (i ≤ m)) = true; rw [decide_eq_false h2, Bool.and_false]; decide)] at k
          exact iteT (out0 k Same.refl)
      · rw [show isGe (.int i) 1 = false from decide_eq_false h1]
        rw [if_neg (show ¬ usersOk (.int i) m = true by show ¬ (decide (1 ≤ i) && decide (i ≤ m)) = true; rw [decide_eq_false h1, Bool.false_and]; decide)] at k
        show if true = true then _ else _
        rw [if_pos rfl]
        exact iteT (out0 k Same.refl)
    | _ =>
      show if true = true then _ else _
      rw [if_pos rfl]
      exact iteT (out0 k Same.refl)
end
end FT


namespace FT
open PySem L2 TL ClX
section
variable {P : Program} {w : World} {K : PySem.W.Frag} {mg : Str → Option Value} {base : Heap}
theorem scNSz : FnScope ["forest", "users", "sizes"] ["forest", "users", "sizes"] (defScope s_need_sizes) := ⟨rfl, rfl, rfl, by decide +kernel, rfl, by decide +kernel, by decide +kernel⟩
theorem ok_nsizes {f fU fF CF CU CS : Addr} {fd fdU fdF : FuncData} {tm : Tok} (F : Fun K "need_sizes" "need_sizes" s_need_sizes f fd) (gM : mg "MOST_COUNTED" = some (.int (10 ^ 30) tm)) (U : Dn P w K mg base (L2.CX P w) 3 "need_users" ["users", "most"] (spUsers K CU) fU fdU)
    (G : Dn P w K mg base (L2.CX P w) 5 "need_feasible" ["forest", "users", "sizes"] (spFeas K CF CS) fF fdF) : FnOk P w K mg base (L2.CX P w) 6 f fd ["forest", "users", "sizes"] (spNSizes K CF CU CS) := by
  refine F.okX scNSz (fun vs H Q E h => ?_) (fun cdv A outer s H vs Q E hr h => ?_)
  · obtain ⟨x, uv, sv, ts, o, rfl, _⟩ := h
    rfl
  · obtain ⟨x, uv, sv, ts, so, rfl, fa, o, du, hz, k⟩ := h
    refine ⟨_, pss_cons (ps_expr (pe_call U.ok (hr.mono (by decide)) rfl U.mgn U.kp U.bn .nil (passes_call (takes_of rfl rfl rfl rfl) (fun _ _ _ _ h => h)) (pa_cons (pv 1) (pa_cons (pe_glob (v := .int (10 ^ 30)) (by rfl) gM ⟨_, rfl⟩) pa_nil))))
      (pss_one (ps_expr (pe_call G.ok hr rfl G.mgn G.kp G.bn .nil (passes_call (takes_of rfl rfl rfl rfl) (fun _ _ _ _ h => h)) (pa_cons (pv 0) (pa_cons (pv 1) (pa_cons (pv 2) pa_nil)))))), ?_⟩
    refine ⟨_, rfl, uv, 10 ^ 30, rfl, du, ?_⟩
    unfold szE at k
    by_cases h : usersOk uv (10 ^ 30) = true
    · rw [if_pos h] at k ⊢
      intro H1 s1
      cases uv with
      | int n => exact ⟨_, rfl, _, rfl, _, rfl, x, n, sv, ts, so, rfl, fa.mono s1, o, hz.mono s1, Res.mono s1 k⟩
      | _ => cases h
    · rw [if_neg h] at k ⊢
      exact k
end
end FT


namespace FT
open PySem L2 TL ClX
section
variable {P : Program} {w : World} {K : PySem.W.Frag} {mg : Str → Option Value} {base : Heap}
theorem scAm : FnScope ["forest", "users", "sizes", "new"] ["forest", "users", "sizes", "new"] (defScope s_amounts) := ⟨rfl, rfl, rfl, by decide +kernel, rfl, by decide +kernel, by decide +kernel⟩
theorem ok_amounts {f fN fF fA CF CU CS : Addr} {fd fdN fdF fdA : FuncData} (F : Fun K "amounts" "amounts" s_amounts f fd) (N : Dn P w K mg base (L2.CX P w) 6 "need_sizes" ["forest", "users", "sizes"] (spNSizes K CF CU CS) fN fdN)
    (G : Dn P w K mg base (L2.CX P w) 5 "need_feasible" ["forest", "users", "sizes"] (spFeas K CF CS) fF fdF) (M : Dn P w K mg base CX0 3 "amounts_of" ["forest", "sizes", "new"] (spAmtOf CF) fA fdA) :
    FnOk P w K mg base (L2.CX P w) 7 f fd ["forest", "users", "sizes", "new"] (spAmounts K CF CU CS) := by
  refine F.okX scAm (fun vs H Q E h => ?_) (fun cdv A outer s H vs Q E hr h => ?_)
  · obtain ⟨x, uv, sv, nv, ts, o1, o2, rfl, _⟩ := h
    rfl
  · obtain ⟨x, uv, sv, nv, ts, o1, o2, rfl, fa, o, du, z1, z2, k⟩ := h
    refine ⟨_, pss_cons (ps_expr (pe_call N.ok hr rfl N.mgn N.kp N.bn .nil (passes_call (takes_of rfl rfl rfl rfl) (fun _ _ _ _ h => h)) (pa_cons (pv 0) (pa_cons (pv 1) (pa_cons (pv 2) pa_nil)))))
      (pss_cons (ps_expr (pe_call G.ok (hr.mono (by decide)) rfl G.mgn G.kp G.bn .nil (passes_call (takes_of rfl rfl rfl rfl) (fun _ _ _ _ h => h)) (pa_cons (pv 0) (pa_cons (pv 1) (pa_cons (pv 3) pa_nil)))))
      (pss_one (ps_ret (pe_call M.ok (hr.mono (by decide)) rfl M.mgn M.kp M.bn .nil pass0 (pa_cons (pv 0) (pa_cons (pv 2) (pa_cons (pv 3) pa_nil))))))), ?_⟩
    refine ⟨_, rfl, _, rfl, _, rfl, x, uv, sv, ts, o1, rfl, fa, o, du, z1, ?_⟩
    unfold amE at k
    cases e1 : szE CU CS ts uv o1 with
    | some e =>
      rw [e1] at k
      exact k
    | none =>
      rw [e1] at k
      obtain ⟨n, rfl, n1, n2, f1⟩ := szE_feE e1
      intro H1 s1
      refine ⟨_, rfl, _, rfl, _, rfl, x, n, nv, ts, o2, rfl, fa.mono s1, o, z2.mono s1, ?_⟩
      have k : match feE CS ts n o2 with
        | none => ∀ p H', Same H H' → H p = none → H' p = some (.dK (tblI (ts.map Prod.fst) (amt o1 o2))) → Q (.ref p) H'
        | some e => Out H E e := k
      cases e2 : feE CS ts n o2 with
      | some e =>
        rw [e2] at k
        exact Out.mono s1 k
      | none =>
        rw [e2] at k
        intro H2 s2
        cases o1 with
        | none => exact absurd f1 feE_none
        | some k1 =>
          cases o2 with
          | none => exact absurd e2 feE_none
          | some k2 =>
            obtain ⟨q1, rfl, h1, _⟩ := z1
            obtain ⟨q2, rfl, h2, _⟩ := z2
            have s := s1.trans s2
            exact ⟨_, rfl, _, rfl, _, rfl, x, q1, q2, ts, k1, k2, rfl, fa.mono s, o, s _ _ h1, s _ _ h2, fun a ha => ((feE_ok f1).2.1 a ha).1, fun a ha => ((feE_ok e2).2.1 a ha).1, fun p H' s' np ap => k p H' (s.trans s') (s.free np) ap⟩
abbrev NLe : List Str := ["forest", "users", "sizes", "new", "amount"]
end
end FT


/-! what the module's top says of classes, of defs: the form that the row's end asks for. -/
namespace FT
open PySem L2 TL ClX
abbrev exTail : List Value := [.type "ValueError", .type "Exception", .type "BaseException", .type "object"]
/-- an own class at C, its chain behind it -/
def ClsAt (K : PySem.W.Frag) (C : Addr) (bm : List Value) : Prop := ∃ nm q N bs sn sub ab col dd k0 k1 k2 k3 k5, K.lookup C = some (excClassObj nm q C N bs bm true sn sub ab col dd k0 k1 k2 k3 k5 "ValueError.__new__")
section
variable {K : PySem.W.Frag} {C : Addr} {bm : List Value}
theorem ClsAt.cls (h : ClsAt K C bm) : ∃ cd : ClassData, PySem.W.clsIn K C = some cd ∧ cd.mro = .ref C :: bm ∧ cd.hasDict = true := by
  obtain ⟨nm, q, N, bs, sn, sub, ab, col, dd, k0, k1, k2, k3, k5, e⟩ := h
  refine ⟨{ name := nm, bases := bs, mro := .ref C :: bm, ns := N, qualname := q, hasDict := true, slotNames := sn, subclasses := sub, abstract := ab, collection := col }, ?_, rfl, rfl⟩
  unfold PySem.W.clsIn
  rw [e]
theorem ClsAt.ty (h : ClsAt K C bm) : PySem.W.typeIn K (.ref C) = some (.type "type") := by
  obtain ⟨nm, q, N, bs, sn, sub, ab, col, dd, k0, k1, k2, k3, k5, e⟩ := h
  show (K.lookup C).map (·.cls) = _
  rw [e] <;> rfl
theorem ClsAt.mroIs (h : ClsAt K C bm) (b : Value) : PySem.W.mroIn K C b = some ((Value.ref C :: bm).contains b) := by
  obtain ⟨cd, e1, e2, _⟩ := h.cls
  unfold PySem.W.mroIn
  rw [e1]
  show (if cd.mro.isEmpty then none else some (cd.mro.contains b)) = _
  rw [e2] <;> rfl
theorem ClsAt.sub (h : ClsAt K C bm) (b : Value) : PySem.W.subIn K (.ref C) b = some ((Value.ref C :: bm).contains b) := h.mroIs b
theorem ClsAt.hd (h : ClsAt K C bm) : PySem.W.hasDictIn K C = true := by
  obtain ⟨cd, e1, _, e3⟩ := h.cls
  show (PySem.W.clsIn K C).any (·.hasDict) = true
  rw [e1]
  exact e3
theorem ClsAt.isC (h : ClsAt K C bm) : (PySem.W.clsIn K C).isSome = true := by
  obtain ⟨cd, e1, _⟩ := h.cls
  rw [e1] <;> rfl
/-- isinstance of the class at C against the class at D -/
theorem ClsAt.kit {D : Addr} {bn : List Value} (h : ClsAt K C bm) (g : ClsAt K D bn) : PySem.W.kitOne K (.ref C) (.ref D) = some ((Value.ref C :: bm).contains (.ref D)) := by
  unfold PySem.W.kitOne
  by_cases e : (Value.ref C == Value.ref D) = true
  · rw [if_pos e, beq_iff_eq.mp e, List.contains_cons, beq_self_eq_true] <;> rfl
  · rw [if_neg e]
    have e2 : ((PySem.W.clsIn K D).isSome && PySem.W.typeIn K (.ref D) == some (.type "type")) = true := by rw [g.isC, g.ty] <;> rfl
    show (if _ then PySem.W.subIn K (.ref C) (.ref D) else none) = _
    rw [if_pos e2, h.sub]
theorem ClsAt.exm {D : Addr} {bn : List Value} (h : ClsAt K C bm) (g : ClsAt K D bn) (eD : (Value.ref D :: bn).contains (.type "BaseException") = true) : PySem.W.exmOne K (.ref C) (.ref D) = some ((Value.ref C :: bm).contains (.ref D)) :=
  PySem.W.exm_ref (by rw [g.sub, eD]) g.hd g.ty (h.sub _)
end
/-- what the top says of one error class -/
structure ClsF (K : PySem.W.Frag) (nm f : Str) (C I R : Addr) : Prop where
  nsn : PySem.W.nsIn K mainGlobals nm = some (some (.ref C))
  at_ : ClsAt K C (.ref R :: exTail)
  sa : PySem.W.findIn K (.ref C) "__setattr__" = some (some (.builtin "object.__setattr__"))
  ga : PySem.W.findIn K (.ref C) "__getattribute__" = some (some (.builtin "BaseException.__getattribute__"))
  gg : PySem.W.findIn K (.ref C) "__getattr__" = some none
  ha : PySem.W.findIn K (.ref C) "__class__" = some (some (.builtin "object.__class__"))
  kC : PySem.W.keepIn K (.ref C) = true
  no : PySem.W.findIn K (.ref C) f = some none
  ini : PySem.W.findIn K (.ref C) "__init__" = some (some (.ref I))
  ity : PySem.W.typeIn K (.ref I) = some (.type "function")
/-- and of what they share -/
structure RootF (K : PySem.W.Frag) (R : Addr) : Prop where
  nsn : PySem.W.nsIn K mainGlobals "RolloutError" = some (some (.ref R))
  at_ : ClsAt K R exTail
  rd : PySem.W.readsIn K R (.type "type") = true
  ga : PySem.W.specialIn K (.ref R) "__getattribute__" = some (some (.builtin "type.__getattribute__"))
  ini : PySem.W.findCls K (.ref R) (.type "type") "__init__" = some (.val (.builtin "ValueError.__init__"))
  hn : PySem.W.specialIn K (.builtin "object.__class__") "__get__" = some (some (.builtin "getset_descriptor.__get__"))
  ht : PySem.W.takesIn K (.builtin "object.__class__") = some true
theorem ClsF.x {K : PySem.W.Frag} {nm f : Str} {C I R : Addr} (c : ClsF K nm f C I R) (r : RootF K R) : XCls K C where
  cls := by
    obtain ⟨nm, q, N, bs, sn, sub, ab, col, dd, k0, k1, k2, k3, k5, e⟩ := c.at_
    exact ⟨nm, q, N, bs, _, sn, sub, ab, col, dd, k0, k1, k2, k3, k5, e, rfl⟩
  sa := c.sa
  exC := by rw [c.at_.sub] <;> rfl
  tyC := c.at_.ty
  kC := c.kC
  ga := c.ga
  gg := c.gg
  hdC := c.at_.hd
  ha := c.ha
  hn := r.hn
  ht := r.ht
  hm := by rw [c.at_.mroIs] <;> rfl
theorem has_cls {C R D : Addr} {b : Bool} (h : decide (C = D) = b) (n : R ≠ D) : (Value.ref C :: Value.ref R :: exTail).contains (.ref D) = b := by
  subst h
  by_cases e : C = D
  · subst e
    rw [List.contains_cons, beq_self_eq_true, decide_eq_true rfl] <;> rfl
  · have e1 : (Value.ref D == Value.ref C) = false := beq_eq_false_iff_ne.mpr fun z => e (Value.ref.inj z).symm
    have e2 : (Value.ref D == Value.ref R) = false := beq_eq_false_iff_ne.mpr fun z => n (Value.ref.inj z).symm
    rw [decide_eq_false e, List.contains_cons, e1, List.contains_cons, e2] <;> rfl
theorem has_root {C R : Addr} : (Value.ref C :: Value.ref R :: exTail).contains (.ref R) = true := by
  rw [List.contains_cons, List.contains_cons, beq_self_eq_true, Bool.true_or, Bool.or_true]
theorem kit_bt {K : PySem.W.Frag} {C R : Addr} (c : ClsAt K C (.ref R :: exTail)) : PySem.W.kitOne K (.ref C) (.type "ValueError") = some true := by
  unfold PySem.W.kitOne
  rw [if_neg (show ¬ (Value.ref C == Value.type "ValueError") = true from fun z => nomatch (show false = true from z))]
  have e2 : PySem.W.kitMeta "ValueError" = true := by decide +kernel
  show (if PySem.W.kitMeta "ValueError" = true then PySem.W.subIn K (.ref C) (.type "ValueError") else none) = _
  rw [if_pos e2, c.sub] <;> rfl
/-- what the top says of a class with a constant MOST -/
structure ClsK (K : PySem.W.Frag) (nm : Str) (C : Addr) (n : Int) (t : Nat) : Prop where
  nsn : PySem.W.nsIn K mainGlobals nm = some (some (.ref C))
  rd : PySem.W.readsIn K C (.type "type") = true
  ga : PySem.W.specialIn K (.ref C) "__getattribute__" = some (some (.builtin "type.__getattribute__"))
  most : PySem.W.findCls K (.ref C) (.type "type") "MOST" = some (.val (.int n t))
  pg : PySem.W.plainGet K C Str.empty = true
  hd : PySem.W.hasDictIn K C = true
  po : PySem.W.plainOver K C = true
  sa : PySem.W.findIn K (.ref C) "__setattr__" = some (some (.builtin "object.__setattr__"))
  mks : PySem.W.makesIn K C = true
  kp : PySem.W.keepIn K (.ref C) = true
  ha : PySem.W.findIn K (.ref C) "__class__" = some (some (.builtin "object.__class__"))
  hn : PySem.W.specialIn K (.builtin "object.__class__") "__get__" = some (some (.builtin "getset_descriptor.__get__"))
  ht : PySem.W.takesIn K (.builtin "object.__class__") = some true
  hm : PySem.W.mroIn K C (.type "object") = some true
/-- a method -/
structure MetK (K : PySem.W.Frag) (C : Addr) (m : Str) (f : Addr) : Prop where
  at_ : PySem.W.findIn K (.ref C) m = some (some (.ref f))
  fn : PySem.W.isFn K (.ref f) = true
/-- a property -/
structure PrK (K : PySem.W.Frag) (C : Addr) (m : Str) (p g : Addr) (rest : List Value) : Prop where
  at_ : PySem.W.findIn K (.ref C) m = some (some (.ref p))
  get : PySem.W.specialIn K (.ref p) "__get__" = some (some (.builtin "property.__get__"))
  tak : PySem.W.takesIn K (.ref p) = some true
  rec_ : PySem.W.recIn K p "property" = some (.ref g :: rest)
theorem ClsF.er {K : PySem.W.Frag} {h : Heap} {mg : Str → Option Value} {nm f : Str} {C I R : Addr} (X : K.In h) (G : h.Ns mainGlobals mg) (c : ClsF K nm f C I R) (r : RootF K R) : Er K mg nm f C I :=
  ⟨PySem.W.mg_of X G c.nsn, c.x r, c.ini, c.ity, c.no⟩
theorem RootF.rt {K : PySem.W.Frag} {h : Heap} {mg : Str → Option Value} {R : Addr} (X : K.In h) (G : h.Ns mainGlobals mg) (r : RootF K R) : Rt K mg R := ⟨PySem.W.mg_of X G r.nsn, ⟨r.rd, r.ga, r.ini⟩⟩
theorem ClsK.fc {K : PySem.W.Frag} {h : Heap} {mg : Str → Option Value} {CF : Addr} {t t2 : Nat} (X : K.In h) (G : h.Ns mainGlobals mg) (k : ClsK K "Forest" CF 12 t) (root : PySem.W.findCls K (.ref CF) (.type "type") "ROOT" = some (.val (.str "" t2))) : Fc K mg CF (.type "type") :=
  ⟨PySem.W.mg_of X G k.nsn, ⟨k.rd, k.ga⟩, ⟨_, k.most, ⟨_, rfl⟩⟩, ⟨_, root, ⟨_, rfl⟩⟩⟩
theorem ClsK.cls {K : PySem.W.Frag} {nm : Str} {C : Addr} {n : Int} {t : Nat} (k : ClsK K nm C n t) : Cls K C := ⟨k.pg, k.hd, k.po, k.sa⟩
/-- an int that the top computes -/
theorem loose_int {p : Program} {lv : List (Str × PySem.W.WData)} {mg : Str → Option Value} {h : Heap} {nm : Str} {n : Int} (x : PySem.W.XL p lv mg h) (m : (nm, PySem.W.WData.int n) ∈ lv) : ∃ t, mg nm = some (.int n t) := by
  obtain ⟨v, e, r⟩ := x.2.val _ m
  cases r with
  | int i t => exact ⟨t, e⟩
/-- a def with its code object and the table of that -/
structure TabK (K : PySem.W.Frag) (x : Str) (c P : Addr) : Prop where
  at_ : PySem.W.tabIn K x = some (c, P)
  no : K.lookup P = none
end FT


/-! Own: C.m(..) where m is a staticmethod of the class. -/
namespace L2
open PySem PySem.Spec PyProof.Rows
/-- C.m is a staticmethod: its record at p, its def at f -/
structure SMet (K : PySem.W.Frag) (C : Addr) (mc : Value) (m : Str) (p f : Addr) : Prop where
  at_ : PySem.W.findCls K (.ref C) mc m = some (.get (.builtin "staticmethod.__get__") (.ref p) .none (.ref C))
  rc : ∃ rest, PySem.W.recIn K p "staticmethod" = some (.ref f :: rest)
def tSMeth (C : Addr) (sp : Sp) (dvs : List V) (E : XK) (ta : TE) (t : TA) : TE := fun σ H Q => ta σ H fun x H1 => x = .ref C ∧ t σ H1 fun vs H2 => sp (vs ++ dvs) H2 Q E
section
variable {X : Cx} {CX : CXT} {k : Nat} {C p f : Addr} {mc : Value} {fd : FuncData} {ps : List Str} {sp : Sp} {dvs : List V} {ds : List Value} {E : XK} {o e : Expr} {es : List Expr} {m : Str} {pos apos : Pos} {ta : TE} {t : TA} {pl : Sem Bool}
theorem pe_smeth (he : PE X o ta) (r : ClX.CRead X.K C mc) (c : SMet X.K C mc m p f) (F : FnOk X.prog X.w X.K X.mg X.base CX k f fd ps sp) (hr : Room k X.A) (hk : PySem.W.keepIn X.K (.ref f) = true) (hb : Binds X.K fd ps ds) (hd : Vals dvs ds) (hx : Passes CX X E) (ha : PA X (e :: es) t)
    (one : starEach (e :: es) X.env = (false, eval e X.env) :: starEach es X.env := by rfl) (plain : (backTo pos (starEach es X.env)).any (·.1) = false := by rfl)
    (ev : eval (.Call (.Attribute o m apos) (e :: es) [] pos) X.env = (do
      let u ← eval o X.env
      standAt apos.atName
      let (g, first) ← holding [u] (getMethod u m pl)
      callWith pos g first (backTo pos (starEach (e :: es) X.env)) (backToKw pos (keywordEach [] X.env))) := by rfl) :
    PE X (.Call (.Attribute o m apos) (e :: es) [] pos) (tSMeth C sp dvs E ta t) := by
  refine ⟨fun pins s σ H Q I h => ?_⟩
  refine PySem.W.methodCall_KW (pl := pl) (thn (he.run pins s σ H _ I h) fun u s1 ⟨x, H1, J, rx, ex, q⟩ => ?_) ev
  subst ex
  obtain rfl : u = Value.ref C := rx
  obtain ⟨rest, hp⟩ := c.rc
  refine PySem.W.method_cls J.kIn r.ga (PySem.W.cls_bind J.kIn r.rd c.at_ (wpAny_call (PySem.W.sm_get (s := { s1 with toks := s1.toks + 1 }) J.kIn hp (PySem.W.handed_on rfl ?_))))
  refine PySem.W.callWith_K (h₀ := X.base) J.ok.mod.kin hk (thn (ha.run pos pins _ σ H1 _ (J.tok _) q) fun us s2 ⟨vs, H2, J2, rel, want⟩ => ⟨J2.kIn, ?_⟩) one plain
  have r2 : Vals (vs ++ dvs) (us ++ ds) := rel.append hd
  have len : (us ++ ds).length = ps.length := r2.length.symm.trans (F.len _ _ _ _ want)
  refine wpAny_call (codeAny_mono (F.run X.A X.stack s2 H2 ⟨us, []⟩ (us ++ ds) (vs ++ dvs) Q E hr J2.env0 (hb s2 us J2.kIn len) r2 want) fun r s' z => ?_)
  match r, z with
  | .error er, z => exact hx pins σ H2 s2 er s' J2 z
  | .ok (.ret u), z => exact J2.after z
  | .ok .next, z => exact z.elim
  | .ok .brk, z => exact z.elim
  | .ok .cont, z => exact z.elim
end
end L2


/-! what the top says of a class without a constant, of a static method -/
namespace FT
open PySem L2 TL ClX
structure ClsN (K : PySem.W.Frag) (nm : Str) (C : Addr) : Prop where
  nsn : PySem.W.nsIn K mainGlobals nm = some (some (.ref C))
  rd : PySem.W.readsIn K C (.type "type") = true
  ga : PySem.W.specialIn K (.ref C) "__getattribute__" = some (some (.builtin "type.__getattribute__"))
  pg : PySem.W.plainGet K C Str.empty = true
  hd : PySem.W.hasDictIn K C = true
  po : PySem.W.plainOver K C = true
  sa : PySem.W.findIn K (.ref C) "__setattr__" = some (some (.builtin "object.__setattr__"))
  mks : PySem.W.makesIn K C = true
  kp : PySem.W.keepIn K (.ref C) = true
theorem ClsN.cls {K : PySem.W.Frag} {nm : Str} {C : Addr} (k : ClsN K nm C) : Cls K C := ⟨k.pg, k.hd, k.po, k.sa⟩
/-- a static method -/
structure StK (K : PySem.W.Frag) (C : Addr) (m : Str) (p f : Addr) (rest : List Value) : Prop where
  at_ : PySem.W.findCls K (.ref C) (.type "type") m = some (.get (.builtin "staticmethod.__get__") (.ref p) .none (.ref C))
  rec_ : PySem.W.recIn K p "staticmethod" = some (.ref f :: rest)
theorem StK.sm {K : PySem.W.Frag} {C p f : Addr} {m : Str} {rest : List Value} (s : StK K C m p f rest) : SMet K C (.type "type") m p f := ⟨s.at_, _, s.rec_⟩
end FT


namespace FT
open PySem PySem.Spec PyProof.Rows L2 TL ClX LamX NdefX
section
variable {q : Program} {l : PySem.W.OpenLaw} {w : World} {K : PySem.W.Frag} {h : Heap} {mg : Str → Option Value} {fa : Addr}
theorem all_mk {f_bgA f_dtA f_dpA f_doA f_nmA f_paA f_phA f_szA f_isn f_isa f_nd f_fi f_cdA f_evA f_lrA f_faA f_blA f_chA f_wlA f_ii f_nu f_fl f_po f_fp f_rs f_nf f_ns f_ao f_am f_cr f_prN f_wyN f_coN f_tgA f_erA f_plA f_law p_fl p_fp C_InvalidUsers C_InvalidSizes C_Mismatch C_InvalidNumber C_NotBest I_InvalidUsers I_InvalidSizes I_Mismatch I_InvalidNumber I_NotBest R c_szA c_law t_szA t_law CF : Addr} {d_bgA d_dtA d_dpA d_doA d_nmA d_paA d_phA d_szA d_isn d_isa d_nd d_fi d_cdA d_evA d_lrA d_faA d_blA d_chA d_wlA d_ii d_nu d_fl d_po d_fp d_rs d_nf d_ns d_ao d_am d_cr d_prN d_wyN d_coN d_tgA d_erA d_plA d_law D_InvalidUsers D_InvalidSizes D_Mismatch D_InvalidNumber D_NotBest : FuncData} {tL tT tR tCF : Nat} {r_fl r_fp : List Value} (X : K.In h) (G : h.Ns mainGlobals mg) (hfa : mg "law" = some (.ref fa)) (TO : TabsOf q K h)
    (kCF : ClsK K "Forest" CF 12 tCF)
    (noCF_above : PySem.W.findIn K (.ref CF) "above" = some none)
    (root : PySem.W.findCls K (.ref CF) (.type "type") "ROOT" = some (.val (.str "" tR)))
    (cL : PySem.W.nsIn K mainGlobals "LONGEST" = some (some (.int 8 tL)))
    (cT : PySem.W.nsIn K mainGlobals "LETTERS" = some (some (.str letters tT)))
    (gMC : ∃ t, mg "MOST_COUNTED" = some (.int (10 ^ 30) t))
    (n_bgA : PySem.W.nsIn K mainGlobals "_law_begin" = some (some (.ref f_bgA)))
    (u_bgA : L2.Fun K "_law_begin" "_law_begin" s__law_begin f_bgA d_bgA)
    (n_dtA : PySem.W.nsIn K mainGlobals "_law_take" = some (some (.ref f_dtA)))
    (u_dtA : L2.Fun K "_law_take" "_law_take" s__law_take f_dtA d_dtA)
    (n_dpA : PySem.W.nsIn K mainGlobals "_law_pick" = some (some (.ref f_dpA)))
    (u_dpA : L2.Fun K "_law_pick" "_law_pick" s__law_pick f_dpA d_dpA)
    (n_doA : PySem.W.nsIn K mainGlobals "_law_order" = some (some (.ref f_doA)))
    (u_doA : L2.Fun K "_law_order" "_law_order" s__law_order f_doA d_doA)
    (n_nmA : PySem.W.nsIn K mainGlobals "_law_names" = some (some (.ref f_nmA)))
    (u_nmA : L2.Fun K "_law_names" "_law_names" s__law_names f_nmA d_nmA)
    (n_paA : PySem.W.nsIn K mainGlobals "_law_parents" = some (some (.ref f_paA)))
    (u_paA : L2.Fun K "_law_parents" "_law_parents" s__law_parents f_paA d_paA)
    (n_phA : PySem.W.nsIn K mainGlobals "_law_path" = some (some (.ref f_phA)))
    (u_phA : L2.Fun K "_law_path" "_law_path" s__law_path f_phA d_phA)
    (n_szA : PySem.W.nsIn K mainGlobals "_law_sizes" = some (some (.ref f_szA)))
    (u_szA : FunC K "_law_sizes" "_law_sizes" s__law_sizes f_szA d_szA c_szA)
    (t1_szA : PySem.W.tabIn K "_law_sizes" = some (c_szA, t_szA))
    (t2_szA : K.lookup t_szA = none)
    (t3_szA : ((recsOf q).find? (fun e => e.name == ("_law_sizes" : Str))).isSome = true)
    (n_isn : PySem.W.nsIn K mainGlobals "is_name" = some (some (.ref f_isn)))
    (u_isn : L2.Fun K "is_name" "is_name" s_is_name f_isn d_isn)
    (n_isa : PySem.W.nsIn K mainGlobals "is_ancestor" = some (some (.ref f_isa)))
    (u_isa : L2.Fun K "is_ancestor" "is_ancestor" s_is_ancestor f_isa d_isa)
    (n_nd : PySem.W.nsIn K mainGlobals "need_parents" = some (some (.ref f_nd)))
    (u_nd : L2.Fun K "need_parents" "need_parents" s_need_parents f_nd d_nd)
    (n_cdA : PySem.W.nsIn K mainGlobals "_law_counted" = some (some (.ref f_cdA)))
    (u_cdA : L2.Fun K "_law_counted" "_law_counted" s__law_counted f_cdA d_cdA)
    (n_evA : PySem.W.nsIn K mainGlobals "_law_every" = some (some (.ref f_evA)))
    (u_evA : L2.Fun K "_law_every" "_law_every" s__law_every f_evA d_evA)
    (n_lrA : PySem.W.nsIn K mainGlobals "_law_residents" = some (some (.ref f_lrA)))
    (u_lrA : L2.Fun K "_law_residents" "_law_residents" s__law_residents f_lrA d_lrA)
    (n_faA : PySem.W.nsIn K mainGlobals "_law_far" = some (some (.ref f_faA)))
    (u_faA : L2.Fun K "_law_far" "_law_far" s__law_far f_faA d_faA)
    (n_blA : PySem.W.nsIn K mainGlobals "_law_best_lists" = some (some (.ref f_blA)))
    (u_blA : L2.Fun K "_law_best_lists" "_law_best_lists" s__law_best_lists f_blA d_blA)
    (n_chA : PySem.W.nsIn K mainGlobals "_law_choose" = some (some (.ref f_chA)))
    (u_chA : L2.Fun K "_law_choose" "_law_choose" s__law_choose f_chA d_chA)
    (n_wlA : PySem.W.nsIn K mainGlobals "_law_ways" = some (some (.ref f_wlA)))
    (u_wlA : L2.Fun K "_law_ways" "_law_ways" s__law_ways f_wlA d_wlA)
    (n_ii : PySem.W.nsIn K mainGlobals "is_integer" = some (some (.ref f_ii)))
    (u_ii : L2.Fun K "is_integer" "is_integer" s_is_integer f_ii d_ii)
    (n_nu : PySem.W.nsIn K mainGlobals "need_users" = some (some (.ref f_nu)))
    (u_nu : L2.Fun K "need_users" "need_users" s_need_users f_nu d_nu)
    (n_po : PySem.W.nsIn K mainGlobals "places_of" = some (some (.ref f_po)))
    (u_po : L2.Fun K "places_of" "places_of" s_places_of f_po d_po)
    (n_rs : PySem.W.nsIn K mainGlobals "residents_of" = some (some (.ref f_rs)))
    (u_rs : L2.Fun K "residents_of" "residents_of" s_residents_of f_rs d_rs)
    (n_nf : PySem.W.nsIn K mainGlobals "need_feasible" = some (some (.ref f_nf)))
    (u_nf : L2.Fun K "need_feasible" "need_feasible" s_need_feasible f_nf d_nf)
    (n_ns : PySem.W.nsIn K mainGlobals "need_sizes" = some (some (.ref f_ns)))
    (u_ns : L2.Fun K "need_sizes" "need_sizes" s_need_sizes f_ns d_ns)
    (n_ao : PySem.W.nsIn K mainGlobals "amounts_of" = some (some (.ref f_ao)))
    (u_ao : L2.Fun K "amounts_of" "amounts_of" s_amounts_of f_ao d_ao)
    (n_am : PySem.W.nsIn K mainGlobals "amounts" = some (some (.ref f_am)))
    (u_am : L2.Fun K "amounts" "amounts" s_amounts f_am d_am)
    (n_cr : PySem.W.nsIn K mainGlobals "crossings" = some (some (.ref f_cr)))
    (u_cr : L2.Fun K "crossings" "crossings" s_crossings f_cr d_cr)
    (n_prN : PySem.W.nsIn K mainGlobals "product_to" = some (some (.ref f_prN)))
    (u_prN : L2.Fun K "product_to" "product_to" s_product_to f_prN d_prN)
    (n_wyN : PySem.W.nsIn K mainGlobals "ways" = some (some (.ref f_wyN)))
    (u_wyN : L2.Fun K "ways" "ways" s_ways f_wyN d_wyN)
    (n_coN : PySem.W.nsIn K mainGlobals "count" = some (some (.ref f_coN)))
    (u_coN : L2.Fun K "count" "count" s_count f_coN d_coN)
    (n_tgA : PySem.W.nsIn K mainGlobals "_law_turned" = some (some (.ref f_tgA)))
    (u_tgA : L2.Fun K "_law_turned" "_law_turned" s__law_turned f_tgA d_tgA)
    (n_erA : PySem.W.nsIn K mainGlobals "_law_error" = some (some (.ref f_erA)))
    (u_erA : L2.Fun K "_law_error" "_law_error" s__law_error f_erA d_erA)
    (n_plA : PySem.W.nsIn K mainGlobals "_law_place" = some (some (.ref f_plA)))
    (u_plA : L2.Fun K "_law_place" "_law_place" s__law_place f_plA d_plA)
    (n_law : PySem.W.nsIn K mainGlobals "law" = some (some (.ref f_law)))
    (u_law : FunC K "law" "law" s_law f_law d_law c_law)
    (t1_law : PySem.W.tabIn K "law" = some (c_law, t_law))
    (t2_law : K.lookup t_law = none)
    (t3_law : ((recsOf q).find? (fun e => e.name == ("law" : Str))).isSome = true)
    (ne_szA_law : t_szA ≠ t_law)
    (m_fi : MetK K CF "__init__" f_fi)
    (m_fl : PrK K CF "flags" p_fl f_fl r_fl)
    (m_fp : PrK K CF "parents" p_fp f_fp r_fp)
    (u_fi : L2.Fun K "__init__" "Forest.__init__" s_Forest___init__ f_fi d_fi)
    (u_fl : L2.Fun K "flags" "Forest.flags" s_Forest_flags f_fl d_fl)
    (u_fp : L2.Fun K "parents" "Forest.parents" s_Forest_parents f_fp d_fp)
    (rt0 : RootF K R)
    (e_InvalidUsers : ClsF K "InvalidUsers" "" C_InvalidUsers I_InvalidUsers R)
    (i_InvalidUsers : L2.Fun K "__init__" "InvalidUsers.__init__" s_InvalidUsers___init__ I_InvalidUsers D_InvalidUsers)
    (e_InvalidSizes : ClsF K "InvalidSizes" "place" C_InvalidSizes I_InvalidSizes R)
    (i_InvalidSizes : L2.Fun K "__init__" "InvalidSizes.__init__" s_InvalidSizes___init__ I_InvalidSizes D_InvalidSizes)
    (e_Mismatch : ClsF K "Mismatch" "" C_Mismatch I_Mismatch R)
    (i_Mismatch : L2.Fun K "__init__" "Mismatch.__init__" s_Mismatch___init__ I_Mismatch D_Mismatch)
    (e_InvalidNumber : ClsF K "InvalidNumber" "" C_InvalidNumber I_InvalidNumber R)
    (i_InvalidNumber : L2.Fun K "__init__" "InvalidNumber.__init__" s_InvalidNumber___init__ I_InvalidNumber D_InvalidNumber)
    (e_NotBest : ClsF K "NotBest" "" C_NotBest I_NotBest R)
    (i_NotBest : L2.Fun K "__init__" "NotBest.__init__" s_NotBest___init__ I_NotBest D_NotBest)
    (apart : ∀ i : Fin 5, R ≠ ([C_InvalidUsers, C_InvalidSizes, C_Mismatch, C_InvalidNumber, C_NotBest] : List Nat).getD i.1 0)
    (dist : ∀ i j : Fin 5, decide (([C_InvalidUsers, C_InvalidSizes, C_Mismatch, C_InvalidNumber, C_NotBest] : List Nat).getD i.1 0 = ([C_InvalidUsers, C_InvalidSizes, C_Mismatch, C_InvalidNumber, C_NotBest] : List Nat).getD j.1 0) = decide (i.1 = j.1))
    (z_abs : PySem.W.nsIn K mainGlobals "abs" = some none)
    (z_len : PySem.W.nsIn K mainGlobals "len" = some none)
    (z_rng : PySem.W.nsIn K mainGlobals "range" = some none)
    (z_enu : PySem.W.nsIn K mainGlobals "enumerate" = some none)
    (z_zip : PySem.W.nsIn K mainGlobals "zip" = some none)
    (z_isi : PySem.W.nsIn K mainGlobals "isinstance" = some none)
    (z_all : PySem.W.nsIn K mainGlobals "all" = some none)
    (z_srt : PySem.W.nsIn K mainGlobals "sorted" = some none)
    (z_lst : PySem.W.nsIn K mainGlobals "list" = some none)
    (z_dct : PySem.W.nsIn K mainGlobals "dict" = some none)
    (z_str : PySem.W.nsIn K mainGlobals "str" = some none)
    (z_int : PySem.W.nsIn K mainGlobals "int" = some none)
    (z_tup : PySem.W.nsIn K mainGlobals "tuple" = some none)
    (z_sum : PySem.W.nsIn K mainGlobals "sum" = some none)
    (z_min : PySem.W.nsIn K mainGlobals "min" = some none)
    (z_max : PySem.W.nsIn K mainGlobals "max" = some none)
    (z_rep : PySem.W.nsIn K mainGlobals "repr" = some none)
    (z_bool : PySem.W.nsIn K mainGlobals "bool" = some none)
    (z_any : PySem.W.nsIn K mainGlobals "any" = some none)
    (z_vE : PySem.W.nsIn K mainGlobals "ValueError" = some none)
    : LawTG l w K 11 63 "_law_script" mg fa h := by
  cases hfa.symm.trans (PySem.W.mg_of X G n_law)
  have N : Nm mg := ⟨PySem.W.mg_none_of X G z_abs, PySem.W.mg_none_of X G z_len, PySem.W.mg_none_of X G z_rng, PySem.W.mg_none_of X G z_enu, PySem.W.mg_none_of X G z_zip, PySem.W.mg_none_of X G z_isi, PySem.W.mg_none_of X G z_all, PySem.W.mg_none_of X G z_srt, PySem.W.mg_none_of X G z_lst, PySem.W.mg_none_of X G z_dct, PySem.W.mg_none_of X G z_str, PySem.W.mg_none_of X G z_int, PySem.W.mg_none_of X G z_tup, PySem.W.mg_none_of X G z_sum, PySem.W.mg_none_of X G z_min, PySem.W.mg_none_of X G z_max, PySem.W.mg_none_of X G z_rep, PySem.W.mg_none_of X G z_bool, PySem.W.mg_none_of X G z_any, PySem.W.mg_none_of X G z_vE⟩
  have Cs_ : Cs mg := ⟨⟨_, PySem.W.mg_of X G cL⟩, ⟨_, PySem.W.mg_of X G cT⟩⟩
  obtain ⟨tm, gM⟩ := gMC
  have O : FoC K CF := ⟨kCF.cls, noCF_above⟩
  have Z : Fc K mg CF (.type "type") := kCF.fc X G root
  have b_bgA := u_bgA.binds (ps := ["_law_script"]) fun _ _ _ _ _ _ us hl => match us, hl with | [_], _ => rfl
  have b_dtA := u_dtA.binds (ps := ["_law_draw", "_law_size"]) fun _ _ _ _ _ _ us hl => match us, hl with | [_, _], _ => rfl
  have b_dpA := u_dpA.binds (ps := ["_law_draw", "_law_some"]) fun _ _ _ _ _ _ us hl => match us, hl with | [_, _], _ => rfl
  have b_doA := u_doA.binds (ps := ["_law_draw", "_law_some"]) fun _ _ _ _ _ _ us hl => match us, hl with | [_, _], _ => rfl
  have b_nmA := u_nmA.binds (ps := ["_law_draw", "_law_many"]) fun _ _ _ _ _ _ us hl => match us, hl with | [_, _], _ => rfl
  have b_paA := u_paA.binds (ps := ["_law_draw", "_law_many"]) fun _ _ _ _ _ _ us hl => match us, hl with | [_, _], _ => rfl
  have b_phA := u_phA.binds (ps := ["_law_above", "_law_spot"]) fun _ _ _ _ _ _ us hl => match us, hl with | [_, _], _ => rfl
  have b_szA := (u_szA.fun).binds (ps := ["_law_draw", "_law_above", "_law_many"]) fun _ _ _ _ _ _ us hl => match us, hl with | [_, _, _], _ => rfl
  have b_isn := u_isn.binds (ps := ["value"]) fun _ _ _ _ _ _ us hl => match us, hl with | [_], _ => rfl
  have b_isa := u_isa.binds (ps := ["parents", "name"]) fun _ _ _ _ _ _ us hl => match us, hl with | [_, _], _ => rfl
  have b_nd := u_nd.binds (ps := ["parents"]) fun _ _ _ _ _ _ us hl => match us, hl with | [_], _ => rfl
  have b_fi := u_fi.binds (ps := ["self", "parents"]) fun _ _ _ _ _ _ us hl => match us, hl with | [_, _], _ => rfl
  have b_cdA := u_cdA.binds (ps := ["_law_above", "_law_spots"]) fun _ _ _ _ _ _ us hl => match us, hl with | [_, _], _ => rfl
  have b_evA := u_evA.binds (ps := ["_law_above", "_law_left"]) fun _ _ _ _ _ _ us hl => match us, hl with | [_, _], _ => rfl
  have b_lrA := u_lrA.binds (ps := ["_law_above", "_law_many", "_law_how"]) fun _ _ _ _ _ _ us hl => match us, hl with | [_, _, _], _ => rfl
  have b_faA := u_faA.binds (ps := ["_law_above", "_law_spot", "_law_goal"]) fun _ _ _ _ _ _ us hl => match us, hl with | [_, _, _], _ => rfl
  have b_blA := u_blA.binds (ps := ["_law_above", "_law_here", "_law_later"]) fun _ _ _ _ _ _ us hl => match us, hl with | [_, _, _], _ => rfl
  have b_chA := u_chA.binds (ps := ["_law_many", "_law_some"]) fun _ _ _ _ _ _ us hl => match us, hl with | [_, _], _ => rfl
  have b_wlA := u_wlA.binds (ps := ["_law_above", "_law_many", "_law_old", "_law_later"]) fun _ _ _ _ _ _ us hl => match us, hl with | [_, _, _, _], _ => rfl
  have b_ii := u_ii.binds (ps := ["value", "least"]) fun _ _ _ _ _ _ us hl => match us, hl with | [_, _], _ => rfl
  have b_nu := u_nu.binds (ps := ["users", "most"]) fun _ _ _ _ _ _ us hl => match us, hl with | [_, _], _ => rfl
  have b_fl := u_fl.binds (ps := ["self"]) fun _ _ _ _ _ _ us hl => match us, hl with | [_], _ => rfl
  have b_po := u_po.binds (ps := ["forest"]) fun _ _ _ _ _ _ us hl => match us, hl with | [_], _ => rfl
  have b_fp := u_fp.binds (ps := ["self"]) fun _ _ _ _ _ _ us hl => match us, hl with | [_], _ => rfl
  have b_rs := u_rs.binds (ps := ["forest", "users", "sizes"]) fun _ _ _ _ _ _ us hl => match us, hl with | [_, _, _], _ => rfl
  have b_nf := u_nf.binds (ps := ["forest", "users", "sizes"]) fun _ _ _ _ _ _ us hl => match us, hl with | [_, _, _], _ => rfl
  have b_ns := u_ns.binds (ps := ["forest", "users", "sizes"]) fun _ _ _ _ _ _ us hl => match us, hl with | [_, _, _], _ => rfl
  have b_ao := u_ao.binds (ps := ["forest", "sizes", "new"]) fun _ _ _ _ _ _ us hl => match us, hl with | [_, _, _], _ => rfl
  have b_am := u_am.binds (ps := ["forest", "users", "sizes", "new"]) fun _ _ _ _ _ _ us hl => match us, hl with | [_, _, _, _], _ => rfl
  have b_cr := u_cr.binds (ps := ["forest", "changed"]) fun _ _ _ _ _ _ us hl => match us, hl with | [_, _], _ => rfl
  have b_prN := u_prN.binds (ps := ["number"]) fun _ _ _ _ _ _ us hl => match us, hl with | [_], _ => rfl
  have b_wyN := u_wyN.binds (ps := ["here", "edges"]) fun _ _ _ _ _ _ us hl => match us, hl with | [_, _], _ => rfl
  have b_coN := u_coN.binds (ps := ["forest", "users", "sizes", "new"]) fun _ _ _ _ _ _ us hl => match us, hl with | [_, _, _, _], _ => rfl
  have b_tgA := u_tgA.binds (ps := ["_law_some"]) fun _ _ _ _ _ _ us hl => match us, hl with | [_], _ => rfl
  have b_erA := u_erA.binds (ps := ["_law_work"]) fun _ _ _ _ _ _ us hl => match us, hl with | [_], _ => rfl
  have b_plA := u_plA.binds (ps := ["_law_work"]) fun _ _ _ _ _ _ us hl => match us, hl with | [_], _ => rfl
  have g_bgA := PySem.W.mg_of X G n_bgA
  have g_dtA := PySem.W.mg_of X G n_dtA
  have g_dpA := PySem.W.mg_of X G n_dpA
  have g_doA := PySem.W.mg_of X G n_doA
  have g_nmA := PySem.W.mg_of X G n_nmA
  have g_paA := PySem.W.mg_of X G n_paA
  have g_phA := PySem.W.mg_of X G n_phA
  have g_szA := PySem.W.mg_of X G n_szA
  have g_isn := PySem.W.mg_of X G n_isn
  have g_isa := PySem.W.mg_of X G n_isa
  have g_nd := PySem.W.mg_of X G n_nd
  have g_cdA := PySem.W.mg_of X G n_cdA
  have g_evA := PySem.W.mg_of X G n_evA
  have g_lrA := PySem.W.mg_of X G n_lrA
  have g_faA := PySem.W.mg_of X G n_faA
  have g_blA := PySem.W.mg_of X G n_blA
  have g_chA := PySem.W.mg_of X G n_chA
  have g_wlA := PySem.W.mg_of X G n_wlA
  have g_ii := PySem.W.mg_of X G n_ii
  have g_nu := PySem.W.mg_of X G n_nu
  have g_po := PySem.W.mg_of X G n_po
  have g_rs := PySem.W.mg_of X G n_rs
  have g_nf := PySem.W.mg_of X G n_nf
  have g_ns := PySem.W.mg_of X G n_ns
  have g_ao := PySem.W.mg_of X G n_ao
  have g_am := PySem.W.mg_of X G n_am
  have g_cr := PySem.W.mg_of X G n_cr
  have g_prN := PySem.W.mg_of X G n_prN
  have g_wyN := PySem.W.mg_of X G n_wyN
  have g_coN := PySem.W.mg_of X G n_coN
  have g_tgA := PySem.W.mg_of X G n_tgA
  have g_erA := PySem.W.mg_of X G n_erA
  have g_plA := PySem.W.mg_of X G n_plA
  have rt := rt0.rt X G
  have at_ : ∀ i, i < 5 → ClsAt K (([C_InvalidUsers, C_InvalidSizes, C_Mismatch, C_InvalidNumber, C_NotBest] : List Nat).getD i 0) (.ref R :: exTail) := fun i hi => match i, hi with
    | 0, _ => e_InvalidUsers.at_
    | 1, _ => e_InvalidSizes.at_
    | 2, _ => e_Mismatch.at_
    | 3, _ => e_InvalidNumber.at_
    | 4, _ => e_NotBest.at_
  have xs_ : ∀ i, i < 5 → XCls K (([C_InvalidUsers, C_InvalidSizes, C_Mismatch, C_InvalidNumber, C_NotBest] : List Nat).getD i 0) := fun i hi => match i, hi with
    | 0, _ => e_InvalidUsers.x rt0
    | 1, _ => e_InvalidSizes.x rt0
    | 2, _ => e_Mismatch.x rt0
    | 3, _ => e_InvalidNumber.x rt0
    | 4, _ => e_NotBest.x rt0
  have kits : ∀ i j, i < 5 → j < 5 → PySem.W.kitOne K (.ref (([C_InvalidUsers, C_InvalidSizes, C_Mismatch, C_InvalidNumber, C_NotBest] : List Nat).getD i 0)) (.ref (([C_InvalidUsers, C_InvalidSizes, C_Mismatch, C_InvalidNumber, C_NotBest] : List Nat).getD j 0)) = some (decide (i = j)) := fun i j hi hj => by rw [(at_ i hi).kit (at_ j hj), has_cls (dist ⟨i, hi⟩ ⟨j, hj⟩) (apart ⟨j, hj⟩)]
  have exs : ∀ i j, i < 5 → j < 5 → PySem.W.exmOne K (.ref (([C_InvalidUsers, C_InvalidSizes, C_Mismatch, C_InvalidNumber, C_NotBest] : List Nat).getD i 0)) (.ref (([C_InvalidUsers, C_InvalidSizes, C_Mismatch, C_InvalidNumber, C_NotBest] : List Nat).getD j 0)) = some (decide (i = j)) := fun i j hi hj => by rw [(at_ i hi).exm (at_ j hj) rfl, has_cls (dist ⟨i, hi⟩ ⟨j, hj⟩) (apart ⟨j, hj⟩)]
  obtain ⟨T, eT⟩ : ∃ T : List (Addr × Str), T = [(t_szA, lamQ "_law_sizes"), (t_law, lamQ "law")] := ⟨_, rfl⟩
  have m_szA : (t_szA, lamQ "_law_sizes") ∈ T := by rw [eT]; simp
  have un_szA : ∀ p ∈ T, p.1 = t_szA → p.2 = lamQ "_law_sizes" := fun p hp e => by
    rw [eT] at hp
    simp only [List.mem_cons, List.not_mem_nil, or_false] at hp
    rcases hp with rfl | rfl
    · rfl
    · exact absurd e (Ne.symm ne_szA_law)
  have m_law : (t_law, lamQ "law") ∈ T := by rw [eT]; simp
  have un_law : ∀ p ∈ T, p.1 = t_law → p.2 = lamQ "law" := fun p hp e => by
    rw [eT] at hp
    simp only [List.mem_cons, List.not_mem_nil, or_false] at hp
    rcases hp with rfl | rfl
    · exact absurd e ne_szA_law
    · rfl
  refine ⟨d_law, ([(c_szA, t_szA), (c_law, t_law)] : List (Addr × Addr)), spLaw10 K T, fun p hp => ?_, fun s u => ?_, fun H a ns hl hts hS => ?_, fun base KB GB TBs => ?_⟩
  · simp only [List.mem_cons, List.not_mem_nil, or_false] at hp
    rcases hp with rfl | rfl
    · exact ⟨(TO _ _ _ t3_szA t1_szA).1, (TO _ _ _ t3_szA t1_szA).2, t2_szA⟩
    · exact ⟨(TO _ _ _ t3_law t1_law).1, (TO _ _ _ t3_law t1_law).2, t2_law⟩
  · obtain ⟨oc, od, kV, doc, pm, an, cdv, ct, osl, rfl, lk, hcd⟩ := u_law.fun.ex
    exact .of_eq rfl
  · refine ⟨a, ns, rfl, hS, hl, ?_, fun _ => rfl⟩
    intro p hp
    rw [eT] at hp
    simp only [List.mem_cons, List.not_mem_nil, or_false] at hp
    rcases hp with rfl | rfl
    · exact TabS.nil (hts (c_szA, t_szA) (by simp))
    · exact TabS.nil (hts (c_law, t_law) (by simp))
  have E_InvalidUsers : Er0 l.prog w K mg base "InvalidUsers" C_InvalidUsers I_InvalidUsers D_InvalidUsers := ⟨e_InvalidUsers.er X G rt0, ok_InvalidUsers i_InvalidUsers rt (e_InvalidUsers.er X G rt0), i_InvalidUsers.binds (ps := ["self"]) fun _ _ _ _ _ _ us hl => match us, hl with | [_], _ => rfl⟩
  have E_InvalidSizes : Er1 l.prog w K mg base "InvalidSizes" "place" C_InvalidSizes I_InvalidSizes D_InvalidSizes := ⟨e_InvalidSizes.er X G rt0, ok_InvalidSizes i_InvalidSizes rt (e_InvalidSizes.er X G rt0), i_InvalidSizes.binds (ps := ["self", "place"]) fun _ _ _ _ _ _ us hl => match us, hl with | [_, _], _ => rfl⟩
  have D_bgA : Dn l.prog w K mg base CX0 1 "_law_begin" ["_law_script"] (spBegin K) f_bgA d_bgA := ⟨ok_begin u_bgA N, u_bgA.kp, b_bgA, g_bgA⟩
  have D_dtA : Dn l.prog w K mg base CX0 1 "_law_take" ["_law_draw", "_law_size"] (spDraw) f_dtA d_dtA := ⟨ok_draw u_dtA N, u_dtA.kp, b_dtA, g_dtA⟩
  have D_dpA : Dn l.prog w K mg base CX0 2 "_law_pick" ["_law_draw", "_law_some"] (spPick K) f_dpA d_dpA := ⟨ok_pick u_dpA N u_dtA b_dtA g_dtA, u_dpA.kp, b_dpA, g_dpA⟩
  have D_doA : Dn l.prog w K mg base CX0 2 "_law_order" ["_law_draw", "_law_some"] (spOrder K) f_doA d_doA := ⟨ok_order u_doA N u_dtA b_dtA g_dtA, u_doA.kp, b_doA, g_doA⟩
  have D_nmA : Dn l.prog w K mg base CX0 3 "_law_names" ["_law_draw", "_law_many"] (spNames) f_nmA d_nmA := ⟨ok_names u_nmA N u_dtA b_dtA g_dtA u_doA b_doA g_doA, u_nmA.kp, b_nmA, g_nmA⟩
  have D_paA : Dn l.prog w K mg base CX0 4 "_law_parents" ["_law_draw", "_law_many"] (spParents) f_paA d_paA := ⟨ok_parents u_paA N D_dtA D_dpA D_doA D_nmA, u_paA.kp, b_paA, g_paA⟩
  have D_phA : Dn l.prog w K mg base CX0 1 "_law_path" ["_law_above", "_law_spot"] (spPath) f_phA d_phA := ⟨ok_path u_phA, u_phA.kp, b_phA, g_phA⟩
  have D_szA : Dn l.prog w K mg base CX0 5 "_law_sizes" ["_law_draw", "_law_above", "_law_many"] (spSizes T) f_szA d_szA := ⟨ok_sizes u_szA N D_dtA D_dpA D_doA D_phA (TBs (c_szA, t_szA) (by simp)) m_szA un_szA, u_szA.kp, b_szA, g_szA⟩
  have D_isn : Dn l.prog w K mg base CX0 1 "is_name" ["value"] (spIsName) f_isn d_isn := ⟨ok_isName u_isn N Cs_, u_isn.kp, b_isn, g_isn⟩
  have D_isa : Dn l.prog w K mg base CX0 1 "is_ancestor" ["parents", "name"] (spIsAnc) f_isa d_isa := ⟨ok_isAnc u_isa, u_isa.kp, b_isa, g_isa⟩
  have D_nd : Dn l.prog w K mg base CX0 2 "need_parents" ["parents"] (spNeed) f_nd d_nd := ⟨ok_need u_nd N Cs_ Z D_isn D_isa, u_nd.kp, b_nd, g_nd⟩
  have F_fi : FnOk l.prog w K mg base CX0 3 f_fi d_fi ["self", "parents"] (spFInit CF) := ok_finit u_fi N O D_nd
  have MK_fi : Mk K CF f_fi := ⟨kCF.mks, m_fi.at_, m_fi.fn, kCF.kp⟩
  have D_cdA : Dn l.prog w K mg base CX0 2 "_law_counted" ["_law_above", "_law_spots"] (spCounted) f_cdA d_cdA := ⟨ok_counted u_cdA N D_phA, u_cdA.kp, b_cdA, g_cdA⟩
  have D_evA : ∀ m, Dn l.prog w K mg base CX0 (m + 1) "_law_every" ["_law_above", "_law_left"] (spEvery m) f_evA d_evA := fun m => ⟨ok_every u_evA N b_evA g_evA m, u_evA.kp, b_evA, g_evA⟩
  have D_lrA : Dn l.prog w K mg base CX0 1 "_law_residents" ["_law_above", "_law_many", "_law_how"] (spLawRes) f_lrA d_lrA := ⟨ok_lawRes u_lrA N, u_lrA.kp, b_lrA, g_lrA⟩
  have D_faA : Dn l.prog w K mg base CX0 2 "_law_far" ["_law_above", "_law_spot", "_law_goal"] (spFar) f_faA d_faA := ⟨ok_far u_faA N D_phA, u_faA.kp, b_faA, g_faA⟩
  have D_blA : Dn l.prog w K mg base CX0 7 "_law_best_lists" ["_law_above", "_law_here", "_law_later"] (spBestLists) f_blA d_blA := ⟨ok_bestLists u_blA N D_evA D_lrA D_faA, u_blA.kp, b_blA, g_blA⟩
  have D_chA : Dn l.prog w K mg base CX0 1 "_law_choose" ["_law_many", "_law_some"] (spChoose) f_chA d_chA := ⟨ok_choose u_chA N, u_chA.kp, b_chA, g_chA⟩
  have D_wlA : Dn l.prog w K mg base CX0 2 "_law_ways" ["_law_above", "_law_many", "_law_old", "_law_later"] (spLawWays) f_wlA d_wlA := ⟨ok_lawWays u_wlA N D_lrA D_chA, u_wlA.kp, b_wlA, g_wlA⟩
  have D_ii : Dn l.prog w K mg base CX0 1 "is_integer" ["value", "least"] (spIsInt K) f_ii d_ii := ⟨ok_isInt u_ii N, u_ii.kp, b_ii, g_ii⟩
  have D_nu : Dn l.prog w K mg base (L2.CX l.prog w) 3 "need_users" ["users", "most"] (spUsers K C_InvalidUsers) f_nu d_nu := ⟨ok_users u_nu N D_ii E_InvalidUsers, u_nu.kp, b_nu, g_nu⟩
  have P_fl : Pr1 l.prog w K mg base CF "flags" (spFFlags CF) p_fl f_fl d_fl := ⟨⟨m_fl.at_, m_fl.get, m_fl.tak, ⟨_, m_fl.rec_⟩⟩, ok_fflags u_fl N O, b_fl⟩
  have D_po : Dn l.prog w K mg base CX0 3 "places_of" ["forest"] (spPlacesOf CF) f_po d_po := ⟨ok_placesOf u_po N O Z P_fl, u_po.kp, b_po, g_po⟩
  have P_fp : Pr1 l.prog w K mg base CF "parents" (spFParents CF) p_fp f_fp d_fp := ⟨⟨m_fp.at_, m_fp.get, m_fp.tak, ⟨_, m_fp.rec_⟩⟩, ok_fparents u_fp N O, b_fp⟩
  have D_rs : Dn l.prog w K mg base CX0 4 "residents_of" ["forest", "users", "sizes"] (spResid CF) f_rs d_rs := ⟨ok_resid u_rs N O Z D_po P_fl P_fp, u_rs.kp, b_rs, g_rs⟩
  have D_nf : Dn l.prog w K mg base (L2.CX l.prog w) 5 "need_feasible" ["forest", "users", "sizes"] (spFeas K CF C_InvalidSizes) f_nf d_nf := ⟨ok_feas u_nf N O E_InvalidSizes D_rs D_ii P_fl, u_nf.kp, b_nf, g_nf⟩
  have D_ns : Dn l.prog w K mg base (L2.CX l.prog w) 6 "need_sizes" ["forest", "users", "sizes"] (spNSizes K CF C_InvalidUsers C_InvalidSizes) f_ns d_ns := ⟨ok_nsizes u_ns gM D_nu D_nf, u_ns.kp, b_ns, g_ns⟩
  have D_ao : Dn l.prog w K mg base CX0 3 "amounts_of" ["forest", "sizes", "new"] (spAmtOf CF) f_ao d_ao := ⟨ok_amtOf u_ao O P_fl, u_ao.kp, b_ao, g_ao⟩
  have D_am : Dn l.prog w K mg base (L2.CX l.prog w) 7 "amounts" ["forest", "users", "sizes", "new"] (spAmounts K CF C_InvalidUsers C_InvalidSizes) f_am d_am := ⟨ok_amounts u_am D_ns D_nf D_ao, u_am.kp, b_am, g_am⟩
  have D_cr : Dn l.prog w K mg base CX0 3 "crossings" ["forest", "changed"] (spCross CF) f_cr d_cr := ⟨ok_cross u_cr O P_fl, u_cr.kp, b_cr, g_cr⟩
  have D_prN : Dn l.prog w K mg base CX0 1 "product_to" ["number"] (spFct) f_prN d_prN := ⟨ok_prod u_prN N, u_prN.kp, b_prN, g_prN⟩
  have D_wyN : Dn l.prog w K mg base CX0 2 "ways" ["here", "edges"] (spWays) f_wyN d_wyN := ⟨ok_ways u_wyN N D_prN, u_wyN.kp, b_wyN, g_wyN⟩
  have D_coN : Dn l.prog w K mg base (L2.CX l.prog w) 8 "count" ["forest", "users", "sizes", "new"] (spCount K CF C_InvalidUsers C_InvalidSizes) f_coN d_coN := ⟨ok_count u_coN D_am D_rs D_cr D_wyN, u_coN.kp, b_coN, g_coN⟩
  have D_tgA : Dn l.prog w K mg base CX0 1 "_law_turned" ["_law_some"] (spTurnG) f_tgA d_tgA := ⟨ok_turnG u_tgA N, u_tgA.kp, b_tgA, g_tgA⟩
  have GE : Ge K mg "_law_error" s__law_error f_erA d_erA := ⟨u_erA, b_erA, g_erA⟩
  have GP : Ge K mg "_law_place" s__law_place f_plA d_plA := ⟨u_plA, b_plA, g_plA⟩
  have C5 : Cl5 K mg R (fun i => ([C_InvalidUsers, C_InvalidSizes, C_Mismatch, C_InvalidNumber, C_NotBest] : List Nat).getD i 0) := ⟨rt.g, fun i hi => match i, hi with
    | 0, _ => PySem.W.mg_of X G e_InvalidUsers.nsn
    | 1, _ => PySem.W.mg_of X G e_InvalidSizes.nsn
    | 2, _ => PySem.W.mg_of X G e_Mismatch.nsn
    | 3, _ => PySem.W.mg_of X G e_InvalidNumber.nsn
    | 4, _ => PySem.W.mg_of X G e_NotBest.nsn, xs_, kits, fun i hi => kit_bt (at_ i hi), fun i hi => by rw [(at_ i hi).exm rt0.at_ rfl, has_root]⟩
  have W : W10 l.prog w K mg base CF C_InvalidUsers C_InvalidSizes (.type "type") T (fun i => ([f_bgA, f_dtA, f_dpA, f_paA, f_fi, f_szA, f_cdA, f_blA, f_wlA, f_coN, f_tgA] : List Nat).getD i 0) (fun i => ([d_bgA, d_dtA, d_dpA, d_paA, d_fi, d_szA, d_cdA, d_blA, d_wlA, d_coN, d_tgA] : List FuncData).getD i d_dtA) := { Z := Z, bg := D_bgA, dt := D_dtA, dp := D_dpA, pa := D_paA, fi := F_fi, fim := MK_fi, fib := b_fi, sz := D_szA, cd := D_cdA, bl := D_blA, wy := D_wlA, ct := D_coN, ctk := kw4 u_coN fun _ _ _ _ _ _ _ _ _ _ => rfl, tu := D_tgA }
  exact ok_law10 u_law N W GP GE (e_InvalidSizes.er X G rt0) (exs 1 1 (by decide) (by decide)) C5 rfl rfl (TBs (c_law, t_law) (by simp)) m_law un_law
end
theorem walk {l : PySem.W.OpenLaw} {q : Program} {loose : List Str} {XP : (Str → Option Value) → Heap → Prop} {YP : World → Heap → Prop} {d : DefRec} {K : Params → PySem.W.Frag} (hn : l.most = some 63) (hdf : d.params.defaults = [])
    (hY : ∀ (w : World) (h : Heap), YP w h → (K w.params).In h)
    (F : ∀ (w : World) (mg : Str → Option Value) (fa : Addr) (h : Heap), (K w.params).In h → h.Ns mainGlobals mg → mg d.name = some (.ref fa) → TabsOf q (K w.params) h → XP mg h → LawTG l w (K w.params) 11 63 "_law_script" mg fa h) :
    PySem.W.WalkO q loose XP YP l.row.toRowW d [] (fun f vs => PySem.call f vs) :=
  walk_tabG (n := 63) (k := 11) (x := "_law_script") hn (by decide) hdf ⟨rfl, by decide, by decide⟩ hY F
end FT


open PySem PySem.W PyProof.Rows
set_option maxRecDepth 100000 in
set_option maxHeartbeats 0 in
theorem PySem.Challenge.cw_flagtrees_k10_best_changes_counted_holds : PySem.Challenge.rw_flagtrees_k10_best_changes_counted.Holds := by
  w_on; o_law; k_head; (case hw => w_witness2)
  k_fill
  refine FT.walk (l := PySem.Challenge.rw_flagtrees_k10_best_changes_counted) rfl rfl (fun w h Y => PySem.W.km_in_of Y) ?F
  case F =>
    intro w mg fa h KX G hm TO XX
    have hmg : mg "law" = some (.ref fa) := hm
    clear hm
    refine' FT.all_mk KX G hmg TO ?kCF ?noCF_above ?root ?cL ?cT ?gMC ?n_bgA ?u_bgA ?n_dtA ?u_dtA ?n_dpA ?u_dpA ?n_doA ?u_doA ?n_nmA ?u_nmA ?n_paA ?u_paA ?n_phA ?u_phA ?n_szA ?u_szA ?t1_szA ?t2_szA ?t3_szA ?n_isn ?u_isn ?n_isa ?u_isa ?n_nd ?u_nd ?n_cdA ?u_cdA ?n_evA ?u_evA ?n_lrA ?u_lrA ?n_faA ?u_faA ?n_blA ?u_blA ?n_chA ?u_chA ?n_wlA ?u_wlA ?n_ii ?u_ii ?n_nu ?u_nu ?n_po ?u_po ?n_rs ?u_rs ?n_nf ?u_nf ?n_ns ?u_ns ?n_ao ?u_ao ?n_am ?u_am ?n_cr ?u_cr ?n_prN ?u_prN ?n_wyN ?u_wyN ?n_coN ?u_coN ?n_tgA ?u_tgA ?n_erA ?u_erA ?n_plA ?u_plA ?n_law ?u_law ?t1_law ?t2_law ?t3_law ?ne_szA_law ?m_fi ?m_fl ?m_fp ?u_fi ?u_fl ?u_fp ?rt0 ?e_InvalidUsers ?i_InvalidUsers ?e_InvalidSizes ?i_InvalidSizes ?e_Mismatch ?i_Mismatch ?e_InvalidNumber ?i_InvalidNumber ?e_NotBest ?i_NotBest ?apart ?dist ?z_abs ?z_len ?z_rng ?z_enu ?z_zip ?z_isi ?z_all ?z_srt ?z_lst ?z_dct ?z_str ?z_int ?z_tup ?z_sum ?z_min ?z_max ?z_rep ?z_bool ?z_any ?z_vE
    (case kCF => (refine' ⟨?nsn, ?rd, ?ga, ?most, ?pg, ?hd, ?po, ?sa, ?mks, ?kp, ?ha, ?hn, ?ht, ?hm⟩; (case nsn => k_is); (case rd => k_is); (case ga => k_is); (case most => k_is); (case pg => k_is); (case hd => k_is); (case po => k_is); (case sa => k_is); (case mks => k_is); (case kp => k_is); (case ha => k_is); (case hn => k_is); (case ht => k_is); (case hm => k_is)))
    (case noCF_above => k_is)
    (case root => k_is)
    (case cL => k_is)
    (case cT => k_is)
    (case gMC => (rw [show (10 : Int) ^ 30 = 1000000000000000000000000000000 by decide]; exact FT.loose_int XX (List.mem_cons_self ..)))
    (case n_bgA => k_is)
    (case u_bgA => (refine' L2.fun_mk ?l ?c ?k; (case l => k_is); (case c => k_is); (case k => k_is)))
    (case n_dtA => k_is)
    (case u_dtA => (refine' L2.fun_mk ?l ?c ?k; (case l => k_is); (case c => k_is); (case k => k_is)))
    (case n_dpA => k_is)
    (case u_dpA => (refine' L2.fun_mk ?l ?c ?k; (case l => k_is); (case c => k_is); (case k => k_is)))
    (case n_doA => k_is)
    (case u_doA => (refine' L2.fun_mk ?l ?c ?k; (case l => k_is); (case c => k_is); (case k => k_is)))
    (case n_nmA => k_is)
    (case u_nmA => (refine' L2.fun_mk ?l ?c ?k; (case l => k_is); (case c => k_is); (case k => k_is)))
    (case n_paA => k_is)
    (case u_paA => (refine' L2.fun_mk ?l ?c ?k; (case l => k_is); (case c => k_is); (case k => k_is)))
    (case n_phA => k_is)
    (case u_phA => (refine' L2.fun_mk ?l ?c ?k; (case l => k_is); (case c => k_is); (case k => k_is)))
    (case n_szA => k_is)
    (case u_szA => (refine' L2.funC_mk ?l ?e ?k; (case l => k_is); (case e => k_is); (case k => k_is)))
    (case t1_szA => rfl)
    (case t2_szA => rfl)
    (case t3_szA => rfl)
    (case n_isn => k_is)
    (case u_isn => (refine' L2.fun_mk ?l ?c ?k; (case l => k_is); (case c => k_is); (case k => k_is)))
    (case n_isa => k_is)
    (case u_isa => (refine' L2.fun_mk ?l ?c ?k; (case l => k_is); (case c => k_is); (case k => k_is)))
    (case n_nd => k_is)
    (case u_nd => (refine' L2.fun_mk ?l ?c ?k; (case l => k_is); (case c => k_is); (case k => k_is)))
    (case n_cdA => k_is)
    (case u_cdA => (refine' L2.fun_mk ?l ?c ?k; (case l => k_is); (case c => k_is); (case k => k_is)))
    (case n_evA => k_is)
    (case u_evA => (refine' L2.fun_mk ?l ?c ?k; (case l => k_is); (case c => k_is); (case k => k_is)))
    (case n_lrA => k_is)
    (case u_lrA => (refine' L2.fun_mk ?l ?c ?k; (case l => k_is); (case c => k_is); (case k => k_is)))
    (case n_faA => k_is)
    (case u_faA => (refine' L2.fun_mk ?l ?c ?k; (case l => k_is); (case c => k_is); (case k => k_is)))
    (case n_blA => k_is)
    (case u_blA => (refine' L2.fun_mk ?l ?c ?k; (case l => k_is); (case c => k_is); (case k => k_is)))
    (case n_chA => k_is)
    (case u_chA => (refine' L2.fun_mk ?l ?c ?k; (case l => k_is); (case c => k_is); (case k => k_is)))
    (case n_wlA => k_is)
    (case u_wlA => (refine' L2.fun_mk ?l ?c ?k; (case l => k_is); (case c => k_is); (case k => k_is)))
    (case n_ii => k_is)
    (case u_ii => (refine' L2.fun_mk ?l ?c ?k; (case l => k_is); (case c => k_is); (case k => k_is)))
    (case n_nu => k_is)
    (case u_nu => (refine' L2.fun_mk ?l ?c ?k; (case l => k_is); (case c => k_is); (case k => k_is)))
    (case n_po => k_is)
    (case u_po => (refine' L2.fun_mk ?l ?c ?k; (case l => k_is); (case c => k_is); (case k => k_is)))
    (case n_rs => k_is)
    (case u_rs => (refine' L2.fun_mk ?l ?c ?k; (case l => k_is); (case c => k_is); (case k => k_is)))
    (case n_nf => k_is)
    (case u_nf => (refine' L2.fun_mk ?l ?c ?k; (case l => k_is); (case c => k_is); (case k => k_is)))
    (case n_ns => k_is)
    (case u_ns => (refine' L2.fun_mk ?l ?c ?k; (case l => k_is); (case c => k_is); (case k => k_is)))
    (case n_ao => k_is)
    (case u_ao => (refine' L2.fun_mk ?l ?c ?k; (case l => k_is); (case c => k_is); (case k => k_is)))
    (case n_am => k_is)
    (case u_am => (refine' L2.fun_mk ?l ?c ?k; (case l => k_is); (case c => k_is); (case k => k_is)))
    (case n_cr => k_is)
    (case u_cr => (refine' L2.fun_mk ?l ?c ?k; (case l => k_is); (case c => k_is); (case k => k_is)))
    (case n_prN => k_is)
    (case u_prN => (refine' L2.fun_mk ?l ?c ?k; (case l => k_is); (case c => k_is); (case k => k_is)))
    (case n_wyN => k_is)
    (case u_wyN => (refine' L2.fun_mk ?l ?c ?k; (case l => k_is); (case c => k_is); (case k => k_is)))
    (case n_coN => k_is)
    (case u_coN => (refine' L2.fun_mk ?l ?c ?k; (case l => k_is); (case c => k_is); (case k => k_is)))
    (case n_tgA => k_is)
    (case u_tgA => (refine' L2.fun_mk ?l ?c ?k; (case l => k_is); (case c => k_is); (case k => k_is)))
    (case n_erA => k_is)
    (case u_erA => (refine' L2.fun_mk ?l ?c ?k; (case l => k_is); (case c => k_is); (case k => k_is)))
    (case n_plA => k_is)
    (case u_plA => (refine' L2.fun_mk ?l ?c ?k; (case l => k_is); (case c => k_is); (case k => k_is)))
    (case n_law => k_is)
    (case u_law => (refine' L2.funC_mk ?l ?e ?k; (case l => k_is); (case e => k_is); (case k => k_is)))
    (case t1_law => rfl)
    (case t2_law => rfl)
    (case t3_law => rfl)
    (case ne_szA_law => decide)
    (case m_fi => (refine' ⟨?at_, ?fn⟩; (case at_ => k_is); (case fn => k_is)))
    (case m_fl => (refine' ⟨?at_, ?get, ?tak, ?rec_⟩; (case at_ => k_is); (case get => k_is); (case tak => k_is); (case rec_ => k_is)))
    (case m_fp => (refine' ⟨?at_, ?get, ?tak, ?rec_⟩; (case at_ => k_is); (case get => k_is); (case tak => k_is); (case rec_ => k_is)))
    (case u_fi => (refine' L2.fun_mk ?l ?c ?k; (case l => k_is); (case c => k_is); (case k => k_is)))
    (case u_fl => (refine' L2.fun_mk ?l ?c ?k; (case l => k_is); (case c => k_is); (case k => k_is)))
    (case u_fp => (refine' L2.fun_mk ?l ?c ?k; (case l => k_is); (case c => k_is); (case k => k_is)))
    (case rt0 => (refine' ⟨?nsn, ?at_, ?rd, ?ga, ?ini, ?hn, ?ht⟩; (case nsn => k_is); (case at_ => (refine' ⟨_, _, _, _, _, _, _, _, _, _, _, _, _, _, ?xl⟩; (case xl => rfl))); (case rd => k_is); (case ga => k_is); (case ini => k_is); (case hn => k_is); (case ht => k_is)))
    (case e_InvalidUsers => (refine' ⟨?nsn, ?at_, ?sa, ?ga, ?gg, ?ha, ?kC, ?no, ?ini, ?ity⟩; (case nsn => k_is); (case at_ => (refine' ⟨_, _, _, _, _, _, _, _, _, _, _, _, _, _, ?xl⟩; (case xl => rfl))); (case sa => k_is); (case ga => k_is); (case gg => k_is); (case ha => k_is); (case kC => k_is); (case no => k_is); (case ini => k_is); (case ity => k_is)))
    (case i_InvalidUsers => (refine' L2.fun_mk ?l ?c ?k; (case l => k_is); (case c => k_is); (case k => k_is)))
    (case e_InvalidSizes => (refine' ⟨?nsn, ?at_, ?sa, ?ga, ?gg, ?ha, ?kC, ?no, ?ini, ?ity⟩; (case nsn => k_is); (case at_ => (refine' ⟨_, _, _, _, _, _, _, _, _, _, _, _, _, _, ?xl⟩; (case xl => rfl))); (case sa => k_is); (case ga => k_is); (case gg => k_is); (case ha => k_is); (case kC => k_is); (case no => k_is); (case ini => k_is); (case ity => k_is)))
    (case i_InvalidSizes => (refine' L2.fun_mk ?l ?c ?k; (case l => k_is); (case c => k_is); (case k => k_is)))
    (case e_Mismatch => (refine' ⟨?nsn, ?at_, ?sa, ?ga, ?gg, ?ha, ?kC, ?no, ?ini, ?ity⟩; (case nsn => k_is); (case at_ => (refine' ⟨_, _, _, _, _, _, _, _, _, _, _, _, _, _, ?xl⟩; (case xl => rfl))); (case sa => k_is); (case ga => k_is); (case gg => k_is); (case ha => k_is); (case kC => k_is); (case no => k_is); (case ini => k_is); (case ity => k_is)))
    (case i_Mismatch => (refine' L2.fun_mk ?l ?c ?k; (case l => k_is); (case c => k_is); (case k => k_is)))
    (case e_InvalidNumber => (refine' ⟨?nsn, ?at_, ?sa, ?ga, ?gg, ?ha, ?kC, ?no, ?ini, ?ity⟩; (case nsn => k_is); (case at_ => (refine' ⟨_, _, _, _, _, _, _, _, _, _, _, _, _, _, ?xl⟩; (case xl => rfl))); (case sa => k_is); (case ga => k_is); (case gg => k_is); (case ha => k_is); (case kC => k_is); (case no => k_is); (case ini => k_is); (case ity => k_is)))
    (case i_InvalidNumber => (refine' L2.fun_mk ?l ?c ?k; (case l => k_is); (case c => k_is); (case k => k_is)))
    (case e_NotBest => (refine' ⟨?nsn, ?at_, ?sa, ?ga, ?gg, ?ha, ?kC, ?no, ?ini, ?ity⟩; (case nsn => k_is); (case at_ => (refine' ⟨_, _, _, _, _, _, _, _, _, _, _, _, _, _, ?xl⟩; (case xl => rfl))); (case sa => k_is); (case ga => k_is); (case gg => k_is); (case ha => k_is); (case kC => k_is); (case no => k_is); (case ini => k_is); (case ity => k_is)))
    (case i_NotBest => (refine' L2.fun_mk ?l ?c ?k; (case l => k_is); (case c => k_is); (case k => k_is)))
    (case apart => decide +kernel)
    (case dist => decide +kernel)
    (case z_abs => k_is)
    (case z_len => k_is)
    (case z_rng => k_is)
    (case z_enu => k_is)
    (case z_zip => k_is)
    (case z_isi => k_is)
    (case z_all => k_is)
    (case z_srt => k_is)
    (case z_lst => k_is)
    (case z_dct => k_is)
    (case z_str => k_is)
    (case z_int => k_is)
    (case z_tup => k_is)
    (case z_sum => k_is)
    (case z_min => k_is)
    (case z_max => k_is)
    (case z_rep => k_is)
    (case z_bool => k_is)
    (case z_any => k_is)
    (case z_vE => k_is)
