import PyProof.Rows.All
import Wide.All
import OpenK.AllK
import Wide.FinOn
import PyProof.EqAt
import PyProof.EqKinds
import PyProof.TupleCall
import KE.KFromBytes
import KE.KExcIs
import HandS.ForMost
import HandS.Exc
import HandS.TryOnly
import HandS.ExcInit
import HandS.ExcIs
import HandS.ExcField
import HandS.IsInst
import HandS.ClsMeth
import HandS.Defaults
import HandS.SortKw
import HandS.More
import HandS.Nested
import PyProof.Rows.StrRules
import PyProof.Rows.SortKeyStr
import HandS.DictComp
import KE.KUnpackStar
import HandS.Flow
import HandS.Walk
import HandS.Wide
import HandS.Text
import HandS.Style
import HandS.Property
import HandS.WordsDict
import HandS.ListItems
import HandS.Finally
import HandS.WordsExc
import HandS.Conv
import HandS.Lambda
import HandS.EndBits
import KE.KNest
import HandS.ExcOwn
import KE.RegKIsAll
import Wide.Loose
import KE.KDictSum
import PySem.Challenge.RW_flagtrees_k35_joint_numbers
set_option Elab.async false
set_option linter.all false
set_option maxRecDepth 100000
set_option maxHeartbeats 8000000

/-! Own: an exception class over ValueError called with one keyword, `C(name=value)`. The library's lemmas (HandSPX.call_own) say it for calls without keywords; these say it for one keyword. -/
namespace FX
open PySem PySem.W PySem.Calls PyProof.Rows PySem.HandSPX
section
variable {Mo : Model} {Ar : Around} {Er : Value → Shared → Prop} {he : Heap} {ge : Array GenState} {dr : Drawn} {tk : Nat} {os : OsState}
variable {nm qn : Str} {C N : Addr} {bs bm bmB : List Value} {hdct : Bool} {sn : List Str} {sub : List Value} {ab : Bool} {col : Option Bool} {dd : Option Addr} {k0 k1 k2 k3 k5 : Option Value} {B idN idI : String}
variable {kn : Str} {kv : Value} {more : List Value}
/-- the class object of an exception class, short -/
abbrev XO (nm qn : Str) (C N : Addr) (bs bm : List Value) (hdct : Bool) (sn : List Str) (sub : List Value) (ab : Bool) (col : Option Bool) (dd : Option Addr) (k0 k1 k2 k3 k5 : Option Value) (idN : String) : Obj :=
  excClassObj nm qn C N bs bm hdct sn sub ab col dd k0 k1 k2 k3 k5 idN
abbrev SameTy (bm bmB : List Value) : Prop := ∀ T : String, bm.contains (.type T) = bmB.contains (.type T)
theorem hasT {T : String} {b : Bool} (st : SameTy bm bmB) (e : bmB.contains (.type T) = b) : (Value.ref C :: bm).contains (.type T) = b := by
  rw [List.contains_cons, st, e] <;> rfl
theorem chk_kw (F : ExcBaseFacts B idN idI bmB) (st : SameTy bm bmB) {P : Unit → Shared → Prop} (oC : he.get? C = some (XO nm qn C N bs bm hdct sn sub ab col dd k0 k1 k2 k3 k5 idN)) (fin : P () ⟨he, ge, dr, tk, os⟩) :
    wpAny Mo Ar (checkBuiltinCall idN ⟨.ref C :: more, [(kn, kv)]⟩) P Er ⟨he, ge, dr, tk, os⟩ := by
  have yes := hasT (C := C) st F.hasB
  have ns := F.noStar
  simp only [checkBuiltinCall, F.newKind, F.newSplit, F.newRow]
  repeat (first
    | refine wpAny_loadPart_at oC ?_
    | (refine wpAny_isSubtype_exc oC ?_; rw [yes])
    | refine wpAny_staticBase_exc oC ?_
    | refine wpAny_madeBy_exc oC ?_
    | simp only [bne_self_eq_false, Bool.false_eq_true, if_false]
    | wp_step)
  exact fin
end
section
variable {pg : Program} {w : World} {Ar : Around} {Er : Value → Shared → Prop} {Rs : Result → Shared → Prop} {he : Heap} {ge : Array GenState} {dr : Drawn} {tk : Nat} {os : OsState}
variable {nm qn : Str} {C N fI : Addr} {bs bm bmB : List Value} {hdct : Bool} {sn : List Str} {sub : List Value} {ab : Bool} {col : Option Bool} {dd : Option Addr} {k0 k1 k2 k3 k5 : Option Value} {B idN idI : String}
variable {kn : Str} {kv : Value} {more : List Value}
/-- the heap with the new exception -/
abbrev withX (he : Heap) (C : Addr) (more : List Value) : Heap := (he.push (W.kdv_tup more)).push (excO C he.objs.size)
theorem new_kw (F : ExcBaseFacts B idN idI bmB) (st : SameTy bm bmB) (oC : he.get? C = some (XO nm qn C N bs bm hdct sn sub ab col dd k0 k1 k2 k3 k5 idN)) (sz : more.length ≤ sizeLine)
    (fin : Rs (.ok (.ret (.ref (he.objs.size + 1)))) ⟨withX he C more, ge, dr, tk, os⟩) : codeAny (model pg w) Ar (.builtin idN ⟨.ref C :: more, [(kn, kv)]⟩) Rs ⟨he, ge, dr, tk, os⟩ := by
  have ends := F.ends
  have yes := hasT (C := C) st F.hasB
  have noA := hasT (C := C) st F.noAttr
  have noN := hasT (C := C) st F.noName
  refine codeAny_builtinAt F.entry ?_
  unfold Builtin.«BaseException.__new__»
  refine PySem.wpAt_bind ?_
  show PySem.wpAt _ _ _ (stack >>= _) _ _ _
  refine PySem.wpAt_bind (PySem.wpAt_stack fun _ _ => PySem.wpAt_of_wpAny ?_)
  wp_walk
  refine PySem.wpAt_of_wpAny ?_
  rw [F.owner]
  repeat (first
    | with_reducible refine wpAny_madeHere_exc F.canon oC ?_
    | with_reducible refine wpAny_loadPart_at oC ?_
    | (with_reducible refine wpAny_isSubtype_exc oC ?_; first | rw [yes] | rw [noA] | rw [noN])
    | wp_step)
  show Rs _ _
  rw [Heap.size_push]
  exact fin
theorem tcall_kw (F : ExcBaseFacts B idN idI bmB) (st : SameTy bm bmB) {P : Fin → Shared → Prop} (oC : he.get? C = some (XO nm qn C N bs bm hdct sn sub ab col dd k0 k1 k2 k3 k5 idN)) (sz : more.length ≤ sizeLine)
    (li : W.Looks (model pg w) he (typeLookup (.ref C) "__init__") (some (.ref fI))) (lb : ∀ me, W.Looks (model pg w) he (bindSpecial (.ref fI) me) (.ref fI, [me]))
    (fin : codeAny (model pg w) Ar (.call (.ref fI) ⟨.ref (he.objs.size + 1) :: more, [(kn, kv)]⟩) (fun r z => match r with | .ok (.ret v) => v = .none ∧ P (.done (.ret (.ref (he.objs.size + 1)))) z | .ok _ => False | .error e => Er e z)
      ⟨withX he C more, ge, dr, tk, os⟩) : wpAny (model pg w) Ar (Builtin.«type.__call__» ⟨.ref C :: more, [(kn, kv)]⟩) P Er ⟨he, ge, dr, tk, os⟩ := by
  repeat (first
    | with_reducible refine wpAny_loadPart_at oC ?_
    | with_reducible refine wpAny_madeBy_exc oC ?_
    | wp_step)
  refine codeAny_call_builtin_code (Code.quiet_builtin _ F.quiet) (chk_kw F st oC (new_kw F st oC sz ?_))
  show wpAny _ _ _ _ _ _
  have kept : ∀ b o, he.get? b = some o → (withX he C more).get? b = some o := fun _ _ q => Heap.get?_push_of_some _ (Heap.get?_push_of_some _ q)
  have oC2 := kept _ _ oC
  have oX : (withX he C more).get? (he.objs.size + 1) = some (excO C he.objs.size) := by heap_get
  have self : (Value.ref C :: bm).contains (.ref C) = true := by simp
  have li2 := li.keeps kept
  have lb2 := (lb (.ref (he.objs.size + 1))).keeps kept
  unfold isInstance
  repeat (first
    | with_reducible refine wpAny_loadPart_at oX ?_
    | (with_reducible refine wpAny_isSubtype_exc oC2 ?_; rw [self])
    | wp_step)
  show wpAny _ _ (typeLookup (.ref C) _) _ _ _
  refine li2.at (wpAny_holding (wpAny_bind (lb2.at ?_)))
  refine wpAny_bind (wpAny_call (codeAny_mono fin fun r z q => ?_))
  rcases r with _ | (_ | _ | _ | _) <;> first | exact q | exact q.elim | skip
  obtain ⟨rfl, q⟩ := q
  first
    | exact wpAny_pure (wpAny_pure q)
    | (wp_walk; exact q)
theorem call_kw (F : ExcBaseFacts B idN idI bmB) (st : SameTy bm bmB) (oC : he.get? C = some (XO nm qn C N bs bm hdct sn sub ab col dd k0 k1 k2 k3 k5 idN)) (sz : more.length ≤ sizeLine)
    (li : W.Looks (model pg w) he (typeLookup (.ref C) "__init__") (some (.ref fI))) (lb : ∀ me, W.Looks (model pg w) he (bindSpecial (.ref fI) me) (.ref fI, [me]))
    (fin : codeAny (model pg w) (Ar.under (.builtin "type.__call__" ⟨.ref C :: more, [(kn, kv)]⟩)) (.call (.ref fI) ⟨.ref (he.objs.size + 1) :: more, [(kn, kv)]⟩) (W.InitBack (he.objs.size + 1) Rs) ⟨withX he C more, ge, dr, tk, os⟩) :
    codeAny (model pg w) Ar (.call (.ref C) ⟨more, [(kn, kv)]⟩) Rs ⟨he, ge, dr, tk, os⟩ := by
  have l1 := tc_lookup
  have l2 := tc_bind (.ref C)
  have ty : (⟨he, ge, dr, tk, os⟩ : Shared).TypeIs (.ref C) "type" := ⟨_, oC, rfl⟩
  refine codeAny_of_tree (show wpAny _ _ (callAny (.ref C) _) _ _ _ from ?_)
  repeat (any_goals (first
    | assumption
    | with_reducible refine wpAny_loadPart_at oC ?_
    | wp_step))
  refine ⟨rfl, codeAny_call_builtin_at (Code.quiet_builtin _ (by decide +kernel)) entry_typeCall (wpAny_check_type_call_sub oC (tcall_kw F st oC sz li lb (codeAny_mono fin fun r z q => ?_)))⟩
  rcases r with _ | (_ | _ | _ | _) <;> exact q
end
end FX


namespace L2
open PySem PySem.Spec PyProof.Rows
/-- what the written part says of an own exception class over ValueError -/
structure XCls (K : PySem.W.Frag) (C : Addr) : Prop where
  cls : ∃ nm q N bs bm sn sub ab col dd k0 k1 k2 k3 k5, K.lookup C = some (excClassObj nm q C N bs bm true sn sub ab col dd k0 k1 k2 k3 k5 "ValueError.__new__") ∧ PySem.HandSPX.refsVE bm = true
  sa : PySem.W.findIn K (.ref C) "__setattr__" = some (some (.builtin "object.__setattr__"))
  exC : PySem.W.subIn K (.ref C) (.type "BaseException") = some true
  tyC : PySem.W.typeIn K (.ref C) = some (.type "type")
  kC : PySem.W.keepIn K (.ref C) = true
  ga : PySem.W.findIn K (.ref C) "__getattribute__" = some (some (.builtin "BaseException.__getattribute__"))
  gg : PySem.W.findIn K (.ref C) "__getattr__" = some none
  hdC : PySem.W.hasDictIn K C = true
  ha : PySem.W.findIn K (.ref C) "__class__" = some (some (.builtin "object.__class__"))
  hn : PySem.W.specialIn K (.builtin "object.__class__") "__get__" = some (some (.builtin "getset_descriptor.__get__"))
  ht : PySem.W.takesIn K (.builtin "object.__class__") = some true
  hm : PySem.W.mroIn K C (.type "object") = some true
theorem XCls.oex {K : PySem.W.Frag} {C : Addr} (c : XCls K C) : OexC K C := ⟨c.cls, c.sa, c.exC, c.tyC, c.kC⟩
/-- an exception object at a, by class and dict, its fields not told -/
def exg (a C : Addr) (d : Option Addr) : HO := .ext fun h => ∃ vs sl, h.get? a = some ({ cls := .ref C, dict := d, data := .fields vs, slots := sl } : Obj)
theorem exg_ok {P : Program} {w : World} {H : Hp} {h : Heap} {e C : Addr} {d : Option Addr} {vs : Array Value} {sl : Array (Option Value)} (he : h.get? e = some ({ cls := .ref C, dict := d, data := .fields vs, slots := sl } : Obj)) : ObjOk P w H h e (exg e C d) :=
  ⟨⟨vs, sl, he⟩, ⟨_, he⟩, fun h1 h2 z k => by
    obtain ⟨vs, sl, q⟩ := z
    exact ⟨vs, sl, k _ q⟩⟩
def XAt (H : Hp) (a C : Addr) (d : Option Addr) : Prop := H a = some (exo a C d) ∨ H a = some (exg a C d)
theorem XAt.obj {P : Program} {w : World} {H : Hp} {h : Heap} {a C : Addr} {d : Option Addr} (x : XAt H a C d) (hok : HOk P w H h) : ∃ ox vs, h.get? a = some ox ∧ ox.cls = .ref C ∧ ox.dict = d ∧ ox.data = .fields vs := by
  rcases x with e | e
  · obtain ⟨t1, q⟩ := exo_at hok e
    exact ⟨_, _, q, rfl, rfl, rfl⟩
  · have z : ObjOk P w H h a (.ext fun h => ∃ vs sl, h.get? a = some ({ cls := .ref C, dict := d, data := .fields vs, slots := sl } : Obj)) := hok a _ e
    obtain ⟨⟨vs, sl, q⟩, _⟩ := z
    exact ⟨_, vs, q, rfl, rfl, rfl⟩
def XD (H : Hp) (dx : Addr) (fs : List (Str × V)) : Prop := H dx = some (exd dx fs) ∨ H dx = some (.xd fs)
theorem XD.at {P : Program} {w : World} {H : Hp} {h : Heap} {dx : Addr} {fs : List (Str × V)} (x : XD H dx fs) (hok : HOk P w H h) : ∃ mA, h.Ns1 dx mA ∧ ∀ f, RelO (fs.lookup f) (mA f) := by
  rcases x with e | e
  · exact exd_at hok e
  · have z : ObjOk P w H h dx (.xd fs) := hok dx _ e
    exact z
/-- an exception of the class at C stands at a; its attributes are fs -/
def XV (H : Hp) (a C : Addr) (fs : List (Str × V)) : Prop := (XAt H a C none ∧ fs = []) ∨ ∃ dx, XAt H a C (some dx) ∧ XD H dx fs
theorem XV.inst {P : Program} {w : World} {H : Hp} {h : Heap} {a C : Addr} {fs : List (Str × V)} (x : XV H a C fs) (hok : HOk P w H h) : ∃ ox od, PySem.W.InstAt h a ox C od := by
  rcases x with ⟨x, _⟩ | ⟨dx, x, y⟩
  · obtain ⟨ox, vs, e1, e2, e3, e4⟩ := x.obj hok
    exact ⟨ox, none, e1, e2, by unfold PySem.W.notCls; rw [e4] <;> rfl, by rw [e3]; trivial⟩
  · obtain ⟨ox, vs, e1, e2, e3, e4⟩ := x.obj hok
    obtain ⟨mA, hn, hr⟩ := y.at hok
    obtain ⟨od, ho, hl⟩ := lookIn_ns hn
    exact ⟨ox, some od, e1, e2, by unfold PySem.W.notCls; rw [e4] <;> rfl, by rw [e3]; exact ho⟩
theorem XV.look {P : Program} {w : World} {H : Hp} {h : Heap} {a C : Addr} {fs : List (Str × V)} {f : Str} {v : V} (x : XV H a C fs) (hok : HOk P w H h) (hl : fs.lookup f = some v) :
    ∃ ox od u, PySem.W.InstAt h a ox C (some od) ∧ PySem.W.lookIn f od = some (some u) ∧ RelV v u := by
  rcases x with ⟨_, e⟩ | ⟨dx, x, y⟩
  · rw [e] at hl
    cases hl
  · obtain ⟨ox, vs, e1, e2, e3, e4⟩ := x.obj hok
    obtain ⟨mA, hn, hr⟩ := y.at hok
    obtain ⟨od, ho, hk⟩ := lookIn_ns hn
    obtain ⟨u, hu, ru⟩ := RelO.some_of (v := v) (o := mA f) (by rw [← hl]; exact hr f)
    exact ⟨ox, od, u, ⟨e1, e2, by unfold PySem.W.notCls; rw [e4] <;> rfl, by rw [e3]; exact ho⟩, by rw [hk, hu], ru⟩

section
variable {X : Cx}
/-- isinstance(e, c), e an exception of an own class -/
def rIsX (K : PySem.W.Frag) : List V → Hp → VK → Prop := fun xs H Q => ∃ (a C : Addr) (fs : List (Str × V)) (c : V) (u : Value) (b : Bool), xs = [.ref a, c] ∧ ClsV c u ∧ XCls K C ∧ XV H a C fs ∧ PySem.W.kitOne K (.ref C) u = some b ∧ Q (.bl b) H
theorem call_isX : CallR X (.builtin "isinstance") (rIsX X.K) := by
  intro pins s σ H xs us Q I r h
  obtain ⟨a, C, fs, c, u, b, rfl, k, T, xv, e, q⟩ := h
  obtain ⟨u1, u2, rfl, r1, r2⟩ := vals2 r
  have e2 := k.eq r2
  subst e2
  obtain rfl : u1 = Value.ref a := r1
  obtain ⟨ox, od, J⟩ := xv.inst I.hok
  have hcl : (PySem.W.clsIn X.K C).isSome = true := by
    obtain ⟨cd, hc, _⟩ := PySem.W.any_some T.hdC
    rw [hc] <;> rfl
  exact PySem.W.kia_one (PySem.W.kitx_exc hcl T.ga T.gg T.exC T.ha T.hn T.ht T.hm) I.kIn J e (fun z => nomatch z) fun tk => ⟨.bl b, H, I.tok tk, rfl, q⟩
/-- e.f -/
def tXFld (K : PySem.W.Frag) (te : TE) (f : Str) : TE := fun σ H Q => te σ H fun x H1 => ∃ (a C : Addr) (fs : List (Str × V)) (v : V), x = .ref a ∧ XV H1 a C fs ∧ XCls K C ∧ PySem.W.findIn K (.ref C) f = some none ∧ fs.lookup f = some v ∧ Q v H1
theorem pe_xfld {e : Expr} {te : TE} {pos : Pos} {n : Str} (he : PE X e te) (hb : attributeBase e n X.env (eval e X.env) = eval e X.env := by rfl) : PE X (.Attribute e n pos) (tXFld X.K te n) := by
  refine ⟨fun pins s σ H Q I h => ?_⟩
  refine attr_of hb (thn (he.run pins s σ H _ I h) fun u s1 hh => ?_)
  obtain ⟨x, H1, I1, rx, a, C, fs, v, ex, xv, T, hno, hl, q⟩ := hh
  subst ex
  obtain rfl : u = Value.ref a := rx
  obtain ⟨ox, od, u, J, hk, ru⟩ := xv.look I1.hok hl
  exact HandSPX.exc_get I1.kIn J T.ga T.gg T.exC (PySem.W.findObj_own T.hdC hno rfl hk) (handed_of ru) ⟨v, H1, I1.tok _, ru, q⟩
/-- R.__init__(self, ..), R an own class whose __init__ is ValueError's -/
structure XIni (K : PySem.W.Frag) (R : Addr) : Prop where
  rd : PySem.W.readsIn K R (.type "type") = true
  ga : PySem.W.specialIn K (.ref R) "__getattribute__" = some (some (.builtin "type.__getattribute__"))
  at_ : PySem.W.findCls K (.ref R) (.type "type") "__init__" = some (.val (.builtin "ValueError.__init__"))
theorem pe_clsinit {R : Addr} {rn : Str} {e : Expr} {es : List Expr} {ta : TA} {p1 p2 pos : Pos} {pl : Sem Bool} (T0 : XIni X.K R) (hg : Gl X rn) (hm : X.mg rn = some (.ref R)) (ha : PA X (e :: es) ta)
    (hdb : (rn == ("__debug__" : Str)) = false := by decide)
    (hc : eval (.Call (.Attribute (.Name rn p1) "__init__" p2) (e :: es) [] pos) X.env = (do
      let ov ← eval (.Name rn p1) X.env
      standAt p2.atName
      let (f, first) ← holding [ov] (getMethod ov "__init__" pl)
      callWith pos f first (backTo pos (starEach (e :: es) X.env)) (backToKw pos (keywordEach [] X.env))) := by rfl)
    (he : starEach (e :: es) X.env = (false, eval e X.env) :: starEach es X.env := by rfl) (hpl : (backTo pos (starEach es X.env)).any (·.1) = false := by rfl) :
    PE X (.Call (.Attribute (.Name rn p1) "__init__" p2) (e :: es) [] pos) (tVeI X.K ta) := by
  refine ⟨fun pins s σ H Q I h => ?_⟩
  refine PySem.W.methodCall_KW (ld_glob I hg hm ?_ hdb) hc
  refine PySem.W.method_cls I.kIn T0.ga (PySem.W.cls_value I.kIn T0.rd T0.at_ rfl ?_)
  show wpAny _ _ (callWith pos (Value.builtin "ValueError.__init__") [] (backTo pos (starEach (e :: es) X.env)) []) _ _ _
  refine PyProof.Rows.callWith_method1 (thn (ha.run pos pins _ σ H _ (I.tok _) h) fun us s1 ⟨vs, H1, I1, r1, a, C, ws, ev, hl, T, ea, q⟩ => ?_) he hpl
  subst ev
  cases r1 with
  | @cons _ u0 _ ur ra rw' =>
    obtain rfl : u0 = Value.ref a := ra
    have hlen : ur.length ≤ sizeLine := by
      rw [← Paired.length rw', sizeLine_eq]
      omega
    exact oinit_ok T I1 ea hlen fun s' J => ⟨.non, H1, J, rfl, q⟩

/-! ### C(..) as a value -/
variable {CX : CXT} {C fI : Addr} {k : Nat} {fd : FuncData} {ps : List Str} {sp : Sp} {ds : List Value} {dvs : List V} {E : XK}
/-- the state with a new exception of C laid, its arguments at the heap's end -/
theorem Inv.xnew {pins : List (Addr × Obj)} {σ : St} {H : Hp} {hp : Heap} {gn : Array GenState} {dr : Drawn} {tk : Nat} {os : OsState} (C : Addr) (us : List Value) (I : Inv X pins σ H ⟨hp, gn, dr, tk, os⟩) :
    H (hp.objs.size + 1) = none ∧ Inv X pins σ (upd H (hp.objs.size + 1) (exo (hp.objs.size + 1) C none)) ⟨FX.withX hp C us, gn, dr, tk, os⟩ := by
  have le : hp.objs.size ≤ hp.objs.size + 1 := Nat.le_succ _
  have at_ : (FX.withX hp C us).get? (hp.objs.size + 1) = some (PySem.HandSPX.excO C hp.objs.size) := by heap_get
  exact ⟨I.hok.fresh le, I.laid (t' := tk) (h' := FX.withX hp C us) (fun _ _ z => Heap.get?_push_of_some _ (Heap.get?_push_of_some _ z)) le (exo_ok at_)⟩
/-- behind __init__: its answer is None, the call's answer the new object -/
theorem xback {pins : List (Addr × Obj)} {σ : St} {H : Hp} {s s' : Shared} {a : Addr} {Q : VK} {r : Result} (hx : Passes CX X E) (I : Inv X pins σ H s)
    (z : CR CX X.stack X.prog X.w H s (fun v H2 => v = .non ∧ Q (.ref a) H2) E r s') : PySem.W.InitBack a (fun r s' => match r with | .ok (.ret u) => EP X pins σ Q u s' | .ok _ => False | .error e => X.xe e s') r s' := by
  match r, z with
  | .error er, z => exact hx pins σ H s er s' I z
  | .ok (.ret u), z =>
    obtain ⟨v, H2, J, rv, ev, q⟩ := I.after z
    subst ev
    exact ⟨rv, .ref a, H2, J, rfl, q⟩
  | .ok .next, z => exact z.elim
  | .ok .brk, z => exact z.elim
  | .ok .cont, z => exact z.elim
theorem run_mkx {pins : List (Addr × Obj)} {σ : St} {H1 : Hp} {s : Shared} {Q : VK} {us : List Value} {vs : List V} (T : OexC X.K C) (iC : PySem.W.findIn X.K (.ref C) "__init__" = some (some (.ref fI))) (tI : PySem.W.typeIn X.K (.ref fI) = some (.type "function"))
    (F1 : FnOk X.prog X.w X.K X.mg X.base CX k fI fd ps sp) (hr : Room (k + 1) X.A) (hb : Binds X.K fd ps ds) (hd : Vals dvs ds) (hx : Passes CX X E) (I1 : Inv X pins σ H1 s) (r1 : Vals vs us) (hz : vs.length ≤ 1000)
    (q1 : ∀ a, H1 a = none → sp (.ref a :: (vs ++ dvs)) (upd H1 a (exo a C none)) (fun v H2 => v = .non ∧ Q (.ref a) H2) E) :
    wpAny (model X.prog X.w) X.A (call (.ref C) us) (EP X pins σ Q) X.xe s := by
  obtain ⟨_, _, _, _, bm, _, _, _, _, _, _, _, _, _, _, oC, tail⟩ := T.cls
  obtain ⟨hp, gn, dr, tk, os⟩ := s
  obtain ⟨new, J⟩ := Inv.xnew C us I1
  have want := q1 _ new
  have rel : Vals (V.ref (hp.objs.size + 1) :: (vs ++ dvs)) (Value.ref (hp.objs.size + 1) :: (us ++ ds)) := .cons rfl (r1.append hd)
  have len : (Value.ref (hp.objs.size + 1) :: us ++ ds).length = ps.length := rel.length.symm.trans (F1.len _ _ _ _ want)
  have few : us.length ≤ sizeLine := by
    have := r1.length
    rw [sizeLine_eq]; omega
  have go := F1.run _ X.stack _ _ ⟨Value.ref (hp.objs.size + 1) :: us, []⟩ (Value.ref (hp.objs.size + 1) :: (us ++ ds)) _ _ E (hr.make C us []) (J.env0.make C us []) (hb _ (Value.ref (hp.objs.size + 1) :: us) J.kIn len) rel want
  exact wpAny_call (PySem.HandSPX.call_own F.excBase_ValueError (fun Y => PySem.HandSPX.refsVE_contains Y bm tail) (I1.kIn _ _ oC) (PySem.W.looks_findIn I1.kIn iC) (fun me => PySem.W.bind_fn I1.kIn me tI) few (codeAny_mono go fun r z q => xback hx J q))
theorem run_mkxK {pins : List (Addr × Obj)} {σ : St} {H1 : Hp} {s : Shared} {Q : VK} {u : Value} {v : V} {kn : Str} {g : List Value → List Value → List Value} {gV : List V → List V → List V} (T : OexC X.K C) (iC : PySem.W.findIn X.K (.ref C) "__init__" = some (some (.ref fI))) (tI : PySem.W.typeIn X.K (.ref fI) = some (.type "function"))
    (F1 : FnOk X.prog X.w X.K X.mg X.base CX k fI fd ps sp) (hr : Room (k + 1) X.A) (hb : KBn X.K fd ps 1 [kn] g gV) (hx : Passes CX X E) (I1 : Inv X pins σ H1 s) (r1 : RelV v u)
    (q1 : ∀ a, H1 a = none → sp (gV [.ref a] [v]) (upd H1 a (exo a C none)) (fun v H2 => v = .non ∧ Q (.ref a) H2) E) :
    wpAny (model X.prog X.w) X.A (call (.ref C) [] [(kn, u)]) (EP X pins σ Q) X.xe s := by
  obtain ⟨_, _, _, _, bm, _, _, _, _, _, _, _, _, _, _, oC, tail⟩ := T.cls
  obtain ⟨hp, gn, dr, tk, os⟩ := s
  obtain ⟨new, J⟩ := Inv.xnew C [] I1
  have rel : Vals (gV [V.ref (hp.objs.size + 1)] [v]) (g [Value.ref (hp.objs.size + 1)] [u]) := hb.rel (.cons rfl .nil) (.cons r1 .nil)
  have go := F1.run _ X.stack _ _ ⟨[Value.ref (hp.objs.size + 1)], [(kn, u)]⟩ (g [Value.ref (hp.objs.size + 1)] [u]) _ _ E (hr.make C [] [(kn, u)]) (J.env0.make C [] [(kn, u)]) (hb.to _ [Value.ref (hp.objs.size + 1)] [u] J.kIn rfl rfl) rel (q1 _ new)
  exact wpAny_call (FX.call_kw F.excBase_ValueError (fun Y => PySem.HandSPX.refsVE_contains Y bm tail) (I1.kIn _ _ oC) (Nat.zero_le _) (PySem.W.looks_findIn I1.kIn iC) (fun me => PySem.W.bind_fn I1.kIn me tI) (codeAny_mono go fun r z q => xback hx J q))
/-- C(e, ..) as a value; C's own __init__ keeps sp -/
def tMkX (C : Addr) (sp : Sp) (dvs : List V) (E : XK) (ta : TA) : TE := fun σ H Q => ta σ H fun vs H1 => vs.length ≤ 1000 ∧ ∀ a, H1 a = none → sp (.ref a :: (vs ++ dvs)) (upd H1 a (exo a C none)) (fun v H2 => v = .non ∧ Q (.ref a) H2) E
def tMkXK (C : Addr) (sp : Sp) (gV : List V → List V → List V) (E : XK) (te : TE) : TE := fun σ H Q => te σ H fun v H1 => ∀ a, H1 a = none → sp (gV [.ref a] [v]) (upd H1 a (exo a C none)) (fun v H2 => v = .non ∧ Q (.ref a) H2) E
variable {x : Str} {e : Expr} {es : List Expr} {ta : TA} {te : TE} {p pos kpos : Pos}
theorem pe_mkx (T : XCls X.K C) (iC : PySem.W.findIn X.K (.ref C) "__init__" = some (some (.ref fI))) (tI : PySem.W.typeIn X.K (.ref fI) = some (.type "function"))
    (F1 : FnOk X.prog X.w X.K X.mg X.base CX k fI fd ps sp) (hr : Room (k + 1) X.A) (hg : Gl X x) (hm : X.mg x = some (.ref C)) (hb : Binds X.K fd ps ds) (hd : Vals dvs ds) (hx : Passes CX X E) (ha : PA X (e :: es) ta)
    (hdb : (x == ("__debug__" : Str)) = false := by decide) (he : starEach (e :: es) X.env = (false, eval e X.env) :: starEach es X.env := by rfl) (hpl : (backTo pos (starEach es X.env)).any (·.1) = false := by rfl) :
    PE X (.Call (.Name x p) (e :: es) [] pos) (tMkX C sp dvs E ta) := by
  refine ⟨fun pins s σ H Q I h => ?_⟩
  refine wpAny_Call_Name_kw (ld_glob I hg hm ?_ hdb)
  refine PySem.W.callWith_K (h₀ := X.base) I.ok.mod.kin T.kC (thn (ha.run pos pins s σ H _ I h) fun us s1 ⟨vs, H1, I1, r, hz, q⟩ => ⟨I1.kIn, ?_⟩) he hpl
  exact run_mkx T.oex iC tI F1 hr hb hd hx I1 r hz q
theorem pe_mkx0 (T : XCls X.K C) (iC : PySem.W.findIn X.K (.ref C) "__init__" = some (some (.ref fI))) (tI : PySem.W.typeIn X.K (.ref fI) = some (.type "function"))
    (F1 : FnOk X.prog X.w X.K X.mg X.base CX k fI fd ps sp) (hr : Room (k + 1) X.A) (hg : Gl X x) (hm : X.mg x = some (.ref C)) (hb : Binds X.K fd ps ds) (hd : Vals dvs ds) (hx : Passes CX X E)
    (hdb : (x == ("__debug__" : Str)) = false := by decide) : PE X (.Call (.Name x p) [] [] pos) (tMkX C sp dvs E tNil) := by
  refine ⟨fun pins s σ H Q I h => ?_⟩
  refine wpAny_Call_Name_kw (ld_glob I hg hm ?_ hdb)
  exact PySem.W.callWith_K0 I.kIn T.kC (run_mkx (us := []) T.oex iC tI F1 hr hb hd hx I .nil h.1 h.2)
theorem pe_mkxK {kn : Str} {g : List Value → List Value → List Value} {gV : List V → List V → List V} (T : XCls X.K C) (iC : PySem.W.findIn X.K (.ref C) "__init__" = some (some (.ref fI))) (tI : PySem.W.typeIn X.K (.ref fI) = some (.type "function"))
    (F1 : FnOk X.prog X.w X.K X.mg X.base CX k fI fd ps sp) (hr : Room (k + 1) X.A) (hg : Gl X x) (hm : X.mg x = some (.ref C)) (hb : KBn X.K fd ps 1 [kn] g gV) (hx : Passes CX X E) (he : PE X e te)
    (hall : (backToKw pos (keywordEach [⟨some kn, e, kpos⟩] X.env)).all (·.1.isSome) = true := by rfl) (hks : (backToKw pos (keywordEach [⟨some kn, e, kpos⟩] X.env)).filterMap (·.1) = [kn] := by rfl) (hdb : (x == ("__debug__" : Str)) = false := by decide)
    (hpl : ((backTo pos (starEach [] X.env)).any (·.1) || (backToKw pos (keywordEach [⟨some kn, e, kpos⟩] X.env)).any (·.1.isNone)) = false := by rfl) :
    PE X (.Call (.Name x p) [] [⟨some kn, e, kpos⟩] pos) (tMkXK C sp gV E te) := by
  refine ⟨fun pins s σ H Q I h => ?_⟩
  refine wpAny_Call_Name_kw (ld_glob I hg hm ?_ hdb)
  refine PySem.W.callWith_KW0 (h₀ := X.base) I.ok.mod.kin T.kC hall ?_ hpl
  refine wpAny_evalAll_cons (wpAny_bind (thn (he.run pins s σ H _ I h) fun u s1 ⟨v, H1, I1, r1, q1⟩ => wpAny_bind (wpAny_standAt (wpAny_pure (wpAny_evalAll_nil ⟨I1.kIn, ?_⟩)))))
  rw [hks]
  exact run_mkxK T.oex iC tI F1 hr hb hx I1 r1 q1
end
end L2


/-! try: .. except C as n: .., the caught exception known behind the try -/
namespace L2
open PySem PySem.Spec PyProof.Rows
section
variable {X : Cx} {pins : List (Addr × Obj)} {σ : St} {H : Hp} {s : Shared}
/-- an object that stands there is known from now on; the entry had none at its place -/
theorem Inv.known {a : Addr} {o : HO} (I : Inv X pins σ H s) (hn : H a = none) (h0 : X.s_0.heap.get? a = none) (hL : a ≠ X.env.locals) (h2 : ∀ x c, X.env.cells.lookup x = some c → c ≠ a) (h3 : ∀ p ∈ X.pn ++ pins, p.1 ≠ a)
    (new : ObjOk X.prog X.w (upd H a o) s.heap a o) : Inv X pins σ (upd H a o) s := by
  have nit : ∀ b u, H b = some u → b ≠ a := fun b u e z => by rw [z, hn] at e; cases e
  refine ⟨I.ok, I.os, I.bare, ⟨I.base.keep, I.base.slot, fun b o e n hx => ?_, I.base.there, fun b xs e => ?_, fun b o xs e => ?_, fun b ps e => ?_⟩, I.loc, I.cell, ?_, fun x c e => ?_, fun p hp => ?_, fun b u e => ?_, I.len⟩
  · rw [upd_ne (fun z => by rw [z, h0] at e; cases e)]
    exact I.base.free b o e n hx
  · have q := I.base.tups b xs e
    rw [upd_ne (nit b _ q)]
    exact q
  · have q := I.base.frzs b o xs e
    rw [upd_ne (nit b _ q)]
    exact q
  · obtain ⟨m, q⟩ := I.base.tbls b ps e
    exact ⟨m, by rw [upd_ne (nit b _ q)]; exact q⟩
  · rw [upd_ne (Ne.symm hL)]
    exact I.free
  · rw [upd_ne (h2 x c e)]
    exact I.freeC x c e
  · obtain ⟨e, n, r⟩ := I.pin p hp
    exact ⟨e, by rw [upd_ne (h3 p hp)]; exact n, r⟩
  · by_cases hb : b = a
    · subst hb
      rw [upd_same] at e
      cases e
      exact new
    · rw [upd_ne hb] at e
      exact (I.hok b u e).stay (fun c v hc q => q) (fun c q => by rw [upd_ne (nit c _ q)]; exact q) fun c _ q => by rw [upd_ne (nit c _ q)]; exact q
end
/-- what a landed exception is: its object, where it does not lie -/
structure Landed (X : Cx) (pins : List (Addr × Obj)) (σ : St) (H : Hp) (a C : Addr) (d : Option Addr) (h : Heap) (s : Shared) : Prop where
  inv : Inv X pins σ H { s with heap := h }
  obj : ∃ vs sl, h.get? a = some ({ cls := .ref C, dict := d, data := .fields vs, slots := sl } : Obj)
  free : H a = none
  entry : X.s_0.heap.get? a = none
  loc : a ≠ X.env.locals
  fs : a ∉ X.fs
  pin : ∀ p ∈ X.pn ++ pins, p.1 ≠ a
theorem Landed.of {X : Cx} {pins : List (Addr × Obj)} {σ : St} {H : Hp} {a C : Addr} {d : Option Addr} {h B : Heap} {s sI : Shared} (hs : X.stack = X.env :: X.outer) (hf : X.env.frame = some X.env.locals) (hex : X.ex = []) (J : Inv X pins σ H sI) (na : H a = none)
    (nb : ∀ b o, sI.heap.get? b = some o → b ∉ frs X.stack → B.get? b = some o) (hB : B.get? a = none) (ff : h.FunFrames B (X.env :: X.outer)) (there : ∃ oe vs, h.get? a = some oe ∧ Zc (.ref C) d oe ∧ oe.data = .fields vs) (K : Inv X pins σ H { s with heap := h }) : Landed X pins σ H a C d h s := by
  obtain ⟨⟨oc, od, odt, osl⟩, ws, at_, ⟨z1, z2⟩, z3⟩ := there
  have off : a ∉ frs (X.env :: X.outer) := fun hm => by
    obtain ⟨_, u, hu, plain⟩ := ff.mem hm
    rw [at_] at hu
    exact plain ws (by rw [← Option.some.inj hu]; exact z3)
  have out : sI.heap.get? a = none := by
    cases q : sI.heap.get? a with
    | none => rfl
    | some o => exact absurd (nb a o q (by rw [hs]; exact off)) (by rw [hB]; simp)
  refine ⟨K, ⟨ws, osl, ?_⟩, na, ?_, fun z => off (List.mem_filterMap.mpr ⟨X.env, .head _, by rw [hf, z]⟩), fun hm => ?_, fun p hp z => ?_⟩
  · dsimp only at z1 z2 z3
    rw [at_, z1, z2, z3]
  · cases q : X.s_0.heap.get? a with
    | none => rfl
    | some o =>
      obtain ⟨_, q2⟩ := J.base.there a o q (by rw [hex]; simp)
      rw [out] at q2
      cases q2
  · obtain ⟨e, m, q⟩ := List.mem_filterMap.mp hm
    exact off (List.mem_filterMap.mpr ⟨e, .tail _ m, q⟩)
  · have q := (J.pin p hp).1
    rw [z, out] at q
    cases q
/-- what is wanted of an exception in the try: as wAs, but behind the suite the exception is known -/
def wAsK (K : PySem.W.Frag) (c : Value) (i : Nat) (ts : Addr → Value → Option Addr → TS) (Wout : WX) (D : Ends) : WX := fun cls d σ H => ∃ b C, cls = Value.ref C ∧ PySem.W.exmOne K cls c = some b ∧
  (b = true → ∀ a, H a = none → ts a cls d ⟨fun σ' H' => D.nx (σ'.set i none) (upd H' a (exg a C d)), D.rt, fun σ' H' => D.bk (σ'.set i none) H', fun σ' H' => D.ct (σ'.set i none) H'⟩ (σ.set i (some (.ref a))) H) ∧ (b = false → Wout cls d σ H)
section
variable {X : Cx} {x n : Str} {c : Value} {i : Nat} {body suite : List Stmt} {st : Stmt} {np pos hpos : Pos} {tb : WX → TS} {ts : Addr → Value → Option Addr → TS} {Wout : WX}
/-- the end of such a suite -/
theorem keep_end {pins : List (Addr × Obj)} {σ σ6 : St} {H H6 : Hp} {a C : Addr} {d : Option Addr} {h : Heap} {s s6 : Shared} {oe : Obj} {Q : Shared → Prop} (L : Landed X pins σ H a C d h s) (eo : h.get? a = some oe) (hN : X.N.Nodup) (hi : X.N[i]? = some n) (hln : X.env.kindOf n = some .local)
    (S : Inv (X.suite a ((a, oe) :: (X.pn ++ pins))) [] σ6 H6 s6) (q : ∀ s7, Inv X pins (σ6.set i none) (upd H6 a (exg a C d)) s7 → Q s7) : wpAny (model X.prog X.w) X.A (do bindName X.env n .none; unbindBehindTheSuite X.env n hpos) (fun _ s7 => Q s7) X.xe s6 := by
  obtain ⟨p1, p2, _⟩ := S.pin (a, oe) (List.mem_append_left _ (.head _))
  obtain ⟨ws, sl, e0⟩ := L.obj
  rw [eo] at e0
  have p3 : s6.heap.get? a = some oe := p1
  rw [Option.some.inj e0] at p3
  have U := S.unsuite L.inv.ok
  refine gone_ok (U.known (o := exg a C d) p2 L.entry L.loc (fun y k e z => ?_) L.pin (exg_ok p3)) hN hi hln q
  obtain ⟨_, _, w1, w2⟩ := U.cell y k e
  rw [z, p3] at w1
  rw [← Option.some.inj w1] at w2
  cases w2
/-- try: body / except x as n: suite -/
theorem ps_try_keep (hs : X.stack = X.env :: X.outer) (hf : X.env.frame = some X.env.locals) (hex : X.ex = []) (hN : X.N.Nodup) (hi : X.N[i]? = some n) (hln : X.env.kindOf n = some .local) (hc : Names X x c) (tk : Takes X Wout)
    (hb : ∀ (W : WX) (pn : List (Addr × Obj)) (xe : Value → Shared → Prop), Takes (X.tr pn xe) W → PassesOwn (model X.prog X.w) X.A X.env xe → PSs (X.tr pn xe) body (tb W))
    (hsu : ∀ (a : Addr) (oe : Obj) (cls : Value) (d : Option Addr) (pn : List (Addr × Obj)), Zc cls d oe → (∃ vs, oe.data = .fields vs) → PSs (X.suite a ((a, oe) :: pn)) (st :: suite) (ts a cls d)) :
    PS X (.Try body [.ExceptHandler (some (.Name x np)) (some n) (st :: suite) hpos] [] [] pos) (fun D σ H => tb (wAsK X.K c i ts Wout D) D σ H) := by
  constructor
  intro pins s σ H D I h
  refine wpAny_Try_except (wpAny_mono ((hb (wAsK X.K c i ts Wout D) (X.pn ++ pins) (fun e t1 => wpAny (model X.prog X.w) X.A (noteFrame e X.env) (fun _ t2 => wpAny (model X.prog X.w) X.A (setFlight e none) (fun _ t3 =>
    wpAny (model X.prog X.w) X.A (handleBy e X.env [.ExceptHandler (some (.Name x np)) (some n) (st :: suite) hpos]) (SP X pins D) X.xe t3) X.xe t2) X.xe t1) (fun u s' air => ?_) PassesOwn.looking).run [] s σ H D (I.toTry _) h) (fun f t1 ok => ?_) fun _ _ z => z)
  case refine_2 =>
    cases f with
    | next => exact let ⟨σ1, H1, K, q⟩ := ok; wpAny_execs_nil ⟨σ1, H1, K.ofTry I.ok, q⟩
    | brk => exact let ⟨σ1, H1, K, q⟩ := ok; ⟨σ1, H1, K.ofTry I.ok, q⟩
    | cont => exact let ⟨σ1, H1, K, q⟩ := ok; ⟨σ1, H1, K.ofTry I.ok, q⟩
    | ret u => exact let ⟨v, σ1, H1, K, rv, q⟩ := ok; ⟨v, σ1, H1, K.ofTry I.ok, rv, q⟩
  case refine_1 =>
    obtain ⟨a, B, sI, pins', σ', H', cls, d, rfl, J', nb, up, sky, na, os, ag, b, C, rfl, mb, yes, no⟩ := air
    have J := J'.ofTry I.ok
    rw [hs] at sky
    have hfr : X.A.frames = some (X.env :: X.outer) := I.ok.frames.trans (congrArg some hs)
    show wpAny (model X.prog X.w) X.A (noteFrame (.ref a) X.env) _ _ _
    refine Sky.land Zc.steady hfr hf sky fun hA flA upA => ?_
    have KA : Inv X pins σ' H' { s' with heap := hA } := J.landed nb flA.1 (up.trans upA) os ag
    obtain ⟨oA, wA, atA, zA, dA⟩ := flA.there
    have LA := Landed.of (s := s') hs hf hex J na nb flA.2.1 flA.2.2.1 ⟨oA, wA, atA, zA, dA⟩ KA
    have SA := KA.suite atA dA na LA.loc LA.fs
    refine wpAny_handleBy_cons (codeAny_handlers_test ?_) fun z => by cases z
    have ty : PySem.W.Looks (model X.prog X.w) hA (typeOf (.ref a)) (.ref C) := fun _ _ _ _ kk q => wpAny_typeOf_ref (kk _ _ atA) (by rw [zA.1]; exact q)
    have mk := PySem.W.exm_one (M := model X.prog X.w) KA.kIn ty mb
    have named : ∀ {Q E : Value → Shared → Prop}, Q c { s' with heap := hA } → wpAny (model X.prog X.w) (X.A.mark (some (.ref a))) (eval (.Name x np) X.env) Q E { s' with heap := hA } := fun q => by
      obtain ⟨g, gd, e | ⟨e, bt, nn⟩⟩ := hc
      · exact ld_glob SA g e q gd
      · exact ld_blt SA g e bt q nn gd
    refine named (mk.here ?_)
    match b, yes, no with
    | true, yes, _ =>
      refine codeAny_handlers_suite_as (HandSPX.lands_againZ flA fun hC flC upC => ?_)
      have KC : Inv X pins σ' H' { s' with heap := hC } := J.landed nb flC.1 ((up.trans upA).trans upC) os ag
      obtain ⟨oC, wC, atC, zC, dC⟩ := flC.there
      have LC := Landed.of (s := s') hs hf hex J na nb flC.2.1 flC.2.2.1 ⟨oC, wC, atC, zC, dC⟩ KC
      refine store_ok (X := X.suite a ((a, oC) :: (X.pn ++ pins))) (v := .ref a) (KC.suite atC dC na LC.loc LC.fs) hN hi (.inl hln) rfl (fun t5 S5 => ?_) (.inr hln)
      refine wpAny_mono ((hsu a oC _ d (X.pn ++ pins) zC ⟨_, dC⟩).run [] t5 _ H' _ S5 (yes rfl a na)) (fun f t6 e6 => ?_) fun _ _ z => z.elim
      have plain : ∀ {σ6 : St} {H6 : Hp} {Q : Shared → Prop}, Inv (X.suite a ((a, oC) :: (X.pn ++ pins))) [] σ6 H6 t6 → (∀ t7, Inv X pins (σ6.set i none) H6 t7 → Q t7) → wpAny (model X.prog X.w) X.A (do bindName X.env n .none; unbindBehindTheSuite X.env n hpos) (fun _ t7 => Q t7) X.xe t6 :=
        fun S q => gone_ok (S.unsuite I.ok) hN hi hln q
      cases f with
      | next => exact let ⟨σ6, H6, S6, q6⟩ := e6; keep_end LC atC hN hi hln S6 fun t7 K7 => ⟨_, _, K7, q6⟩
      | brk => exact let ⟨σ6, H6, S6, q6⟩ := e6; plain S6 fun t7 K7 => ⟨_, _, K7, q6⟩
      | cont => exact let ⟨σ6, H6, S6, q6⟩ := e6; plain S6 fun t7 K7 => ⟨_, _, K7, q6⟩
      | ret u => exact let ⟨v6, σ6, H6, S6, r6, q6⟩ := e6; plain S6 fun t7 K7 => ⟨_, _, _, K7, r6, q6⟩
    | false, _, no =>
      show wpAny _ X.A (handleBy (.ref a) X.env []) _ _ _
      refine wpAny_handleBy_nil ?_
      obtain ⟨oe, vs, tb1, _, _, e1, _, e2, e3, _⟩ := flA.2.2.2
      unfold PySem.passOn
      refine wpAny_bind (wpAny_field e1 e2 e3 ?_)
      rw [if_neg (by simp)]
      have fly : wpAny (model X.prog X.w) X.A (setFlight (.ref a) X.env.frame) (fun _ t4 => wpAny (model X.prog X.w) X.A (throw (.ref a) : Sem Flow) (SP X pins D) X.xe t4) X.xe { s' with heap := hA } := by
        rw [hf]
        exact HandSPX.setFlight_upZ flA fun hD held upD => wpAny_throw (tk _ _ ⟨a, B, sI, pins, σ', H', .ref C, d, rfl, J, nb, (up.trans upA).trans upD, .inr (.inr (by rw [hs]; exact held)), na, os, ag, no rfl⟩)
      first | exact wpAny_bind (wpAny_pure (wpAny_bind fly)) | exact wpAny_bind fly
end
end L2


/-! raise C(..) where C's own __init__ writes no attribute -/
namespace L2
open PySem PySem.Spec PyProof.Rows
section
variable {X : Cx} {o e : Expr} {es : List Expr} {to te : TE} {ta : TA} {f : Str} {p p' p1 p2 pos : Pos}
/-- C(e, ..), C's own __init__ keeping sp; no attribute is written -/
def tMkO0 (C : Addr) (sp : Sp) (dvs : List V) (ta : TA) : St → Hp → XK → Prop := fun σ H Q => ta σ H fun vs H1 => vs.length ≤ 1000 ∧ ∀ a, H1 a = none → sp (.ref a :: (vs ++ dvs)) (upd H1 a (exo a C none))
  (fun v H2 => v = .non ∧ H2 a = some (exo a C none) ∧ Q (.ref C) none (del H2 a)) (fun _ _ _ => False)
/-- the new exception is let go -/
theorem mk_gone {pins : List (Addr × Obj)} {σ : St} {H1 H2 : Hp} {hp hp2 h2 : Heap} {g1 g2 : Array GenState} {d1 d2 : Drawn} {t1 t2 : Nat} {os1 os2 : OsState} {a C : Addr} (I1 : Inv X pins σ H1 ⟨hp, g1, d1, t1, os1⟩) (young : hp.objs.size ≤ a)
    (k : ∀ b o, hp.get? b = some o → hp2.get? b = some o) (un : Un (frs X.stack) [] (upd H1 a (exo a C none)) H2 hp2 h2) (hok : HOk X.prog X.w H2 h2) (ho : os2 = os1) (hb : AllBare g2) (ea : H2 a = some (exo a C none)) :
    ∃ (t0 : Addr) (G : Heap), Inv X pins σ (del H2 a) ⟨G, g2, d2, t2, os2⟩ ∧ (∀ b o, G.get? b = some o → h2.get? b = some o) ∧ G.get? a = none ∧ h2.get? a = some ({ cls := .ref C, dict := none, data := .fields #[.ref t0, .none, .none, .none, .bool false, .none] } : Obj) ∧ del H2 a a = none := by
  obtain ⟨t0, at2⟩ := exo_at hok ea
  have n1 : H1 a = none := I1.hok.fresh young
  obtain ⟨G, in_, out⟩ := restrict h2 fun b => decide (b ≠ a)
  have other : ∀ b, b ≠ a → G.get? b = h2.get? b := fun b nb => in_ b (decide_eq_true nb)
  have gone : G.get? a = none := out a (by simp)
  have old : ∀ {b : Addr} {o : Obj}, hp.get? b = some o → b ≠ a := fun z => Nat.ne_of_lt (Nat.lt_of_lt_of_le (Heap.lt_size z) young)
  have low : ∀ {b : Addr}, b ≠ a → H1 b = none → upd H1 a (exo a C none) b = none := fun nb n => (upd_ne nb).trans n
  have high : ∀ {b : Addr} {u : HO}, H1 b = some u → upd H1 a (exo a C none) b = some u ∧ b ≠ a := fun z => ⟨(upd_ne (ne_of_none z n1)).trans z, ne_of_none z n1⟩
  have U : Un (frs X.stack) [] H1 (del H2 a) hp G := by
    refine ⟨fun b o z n hf hx => (other b (old z)).trans (un.keep b o (k b o z) (low (old z) n) hf hx), fun b o z n hf hx => ?_, fun b o z n hx => (del_ne (old z)).trans (un.free b o (k b o z) (low (old z) n) hx), fun b o z hx => ?_, fun b xs z => (del_ne (high z).2).trans (un.tups b xs (high z).1),
      fun b o v z => (del_ne (high z).2).trans (un.frzs b o v (high z).1), fun b ps z => ?_⟩
    · obtain ⟨sl, q⟩ := un.slot b o (k b o z) (low (old z) n) hf hx
      exact ⟨sl, (other b (old z)).trans q⟩
    · obtain ⟨o', q⟩ := un.there b o (k b o z) hx
      exact ⟨o', (other b (old z)).trans q⟩
    · obtain ⟨m, q⟩ := un.tbls b ps (high z).1
      exact ⟨m, (del_ne (high z).2).trans q⟩
  have held : HOk X.prog X.w (del H2 a) G := fun b o z => by
    have nb : b ≠ a := fun e => by
      rw [e, del_same] at z
      cases z
    rw [del_ne nb] at z
    refine (hok b o z).stay (fun c v hc y => ?_) (fun c hc => (del_ne (at_ne ea hc exo_own)).trans hc) fun c xs hc => (del_ne (at_ne ea hc exo_tup)).trans hc
    refine (other c ?_).trans y
    rcases hc with rfl | hc
    · exact nb
    · exact at_ne ea hc exo_own
  refine ⟨t0, G, I1.call' (ch := []) ho U held hb (fun b z => absurd z (by simp)), fun b o z => ?_, gone, at2, del_same⟩
  by_cases nb : b = a
  · rw [nb, gone] at z
    cases z
  · exact (other b nb).symm.trans z
variable {CX : CXT} {x : Str} {C fI : Addr} {k : Nat} {fd : FuncData} {ps : List Str} {sp : Sp} {ds : List Value} {dvs : List V}
theorem run_mk0 {pins : List (Addr × Obj)} {σ : St} {H1 : Hp} {s : Shared} {Q : XK} {us : List Value} {vs : List V} (T : OexC X.K C) (iC : PySem.W.findIn X.K (.ref C) "__init__" = some (some (.ref fI))) (tI : PySem.W.typeIn X.K (.ref fI) = some (.type "function"))
    (F1 : FnOk X.prog X.w X.K X.mg X.base CX k fI fd ps sp) (hr : Room (k + 1) X.A) (hb : Binds X.K fd ps ds) (hd : Vals dvs ds) (hx : Passes CX X (fun _ _ _ => False)) (I1 : Inv X pins σ H1 s) (r1 : Vals vs us) (hz : vs.length ≤ 1000)
    (q1 : ∀ a, H1 a = none → sp (.ref a :: (vs ++ dvs)) (upd H1 a (exo a C none)) (fun v H2 => v = .non ∧ H2 a = some (exo a C none) ∧ Q (.ref C) none (del H2 a)) (fun _ _ _ => False)) :
    wpAny (model X.prog X.w) X.A (call (.ref C) us) (MkP X pins σ Q) X.xe s := by
  obtain ⟨_, _, _, _, bm, _, _, _, _, _, _, _, _, _, _, oC, tail⟩ := T.cls
  obtain ⟨hp, gn, dr, tk, os⟩ := s
  obtain ⟨new, J⟩ := Inv.xnew C us I1
  have want := q1 _ new
  have rel : Vals (V.ref (hp.objs.size + 1) :: (vs ++ dvs)) (Value.ref (hp.objs.size + 1) :: (us ++ ds)) := .cons rfl (r1.append hd)
  have len : (Value.ref (hp.objs.size + 1) :: us ++ ds).length = ps.length := rel.length.symm.trans (F1.len _ _ _ _ want)
  have few : us.length ≤ sizeLine := by
    have := r1.length
    rw [sizeLine_eq]; omega
  have go := F1.run _ X.stack _ _ ⟨Value.ref (hp.objs.size + 1) :: us, []⟩ (Value.ref (hp.objs.size + 1) :: (us ++ ds)) _ _ (fun _ _ _ => False) (hr.make C us []) (J.env0.make C us []) (hb _ (Value.ref (hp.objs.size + 1) :: us) J.kIn len) rel want
  refine wpAny_call (PySem.HandSPX.call_own F.excBase_ValueError (fun Y => PySem.HandSPX.refsVE_contains Y bm tail) (I1.kIn _ _ oC) (PySem.W.looks_findIn I1.kIn iC) (fun me => PySem.W.bind_fn I1.kIn me tI) few (codeAny_mono go fun r z q => ?_))
  match r, q with
  | .error er, q => exact hx pins σ _ _ er z J q
  | .ok (.ret u), q =>
    obtain ⟨v, H2, os2, bare2, un2, hok2, rv, ev, ea, q2⟩ := q
    subst ev
    obtain ⟨h2, g2, d2, t2, os'⟩ := z
    have up : ∀ b o, hp.get? b = some o → (FX.withX hp C us).get? b = some o := fun b o e => Heap.get?_push_of_some _ (Heap.get?_push_of_some _ e)
    obtain ⟨t0, G, JG, kG, gG, oG, nG⟩ := mk_gone (d2 := d2) (t2 := t2) I1 (Nat.le_succ _) up un2 hok2 os2 bare2 ea
    exact ⟨rv, _, _, _, ⟨G, g2, d2, t2, os'⟩, _, .ref C, none, rfl, JG, kG, gG, oG, ⟨rfl, rfl⟩, rfl, rfl, nG, rfl, bare2, raises_own T.exC T.tyC, q2⟩
  | .ok .next, q => exact q.elim
  | .ok .brk, q => exact q.elim
  | .ok .cont, q => exact q.elim
/-- C() -/
theorem pmk_none (T : OexC X.K C) (iC : PySem.W.findIn X.K (.ref C) "__init__" = some (some (.ref fI))) (tI : PySem.W.typeIn X.K (.ref fI) = some (.type "function"))
    (F1 : FnOk X.prog X.w X.K X.mg X.base CX k fI fd ps sp) (hr : Room (k + 1) X.A) (hb : Binds X.K fd ps ds) (hd : Vals dvs ds) (hx : Passes CX X (fun _ _ _ => False)) (hg : Gl X x) (hm : X.mg x = some (.ref C)) (hdb : (x == ("__debug__" : Str)) = false := by decide) :
    PMk X (.Call (.Name x p) [] [] pos) (tMkO0 C sp dvs tNil) := by
  intro pins s σ H Q I h
  refine wpAny_Call_Name_kw (ld_glob I hg hm ?_ hdb)
  exact PySem.W.callWith_K0 I.kIn T.kC (run_mk0 (us := []) T iC tI F1 hr hb hd hx I .nil h.1 h.2)
end
end L2


/-! sorted(a dict of texts, key=a lambda of one parameter that gives (int, text)) -/
namespace SrtKy
open PySem PyProof.Rows Srt SrtO
/-- a tuple of a number and a text -/
def IsIS (h : Heap) (v : Value) (x : Int) (z : Str) : Prop := ∃ a o t u n, v = .ref a ∧ h.get? a = some o ∧ o.cls = .type "tuple" ∧ o.data = .seq #[.int x t, .str z u] n
theorem IsIS.keeps {h h' : Heap} {v : Value} {x : Int} {z : Str} (p : IsIS h v x z) (k : ∀ b o, h.get? b = some o → o.cls = .type "tuple" → h'.get? b = some o) : IsIS h' v x z := by
  obtain ⟨a, o, t, u, n, e, ho, hc, hd⟩ := p
  exact ⟨a, o, t, u, n, e, k _ _ ho hc, hc, hd⟩
def isLt (p q : Int × Str) : Bool := if p.1 = q.1 then decide (p.2.cps.toList < q.2.cps.toList) else decide (p.1 < q.1)
theorem isLt_iff {p q : Int × Str} : isLt p q = true ↔ p.1 < q.1 ∨ (p.1 = q.1 ∧ p.2.cps.toList < q.2.cps.toList) := by
  unfold isLt
  by_cases e : p.1 = q.1
  · rw [if_pos e, decide_eq_true_eq]
    constructor
    · exact fun h => .inr ⟨e, h⟩
    · rintro (h | h)
      · omega
      · exact h.2
  · rw [if_neg e, decide_eq_true_eq]
    constructor
    · exact .inl
    · rintro (h | h)
      · exact h
      · exact absurd h.1 e
theorem isLt_no {p q : Int × Str} : isLt p q = false ↔ q.1 < p.1 ∨ (p.1 = q.1 ∧ q.2.cps.toList ≤ p.2.cps.toList) := by
  unfold isLt
  by_cases e : p.1 = q.1
  · rw [if_pos e, decide_eq_false_iff_not, List.not_lt]
    constructor
    · exact fun h => .inr ⟨e, h⟩
    · rintro (h | h)
      · omega
      · exact h.2
  · rw [if_neg e, decide_eq_false_iff_not]
    constructor
    · exact fun h => .inl (by omega)
    · rintro (h | h)
      · omega
      · exact absurd h.1 e
theorem swo_is {α : Type} (k : α → Int × Str) : Swo fun v u => isLt (k v) (k u) := by
  refine ⟨fun x y h => ?_, fun x y z h1 h2 => ?_⟩
  · refine isLt_no.mpr ?_
    rcases isLt_iff.mp h with h | ⟨e, h⟩
    · exact .inl h
    · exact .inr ⟨e.symm, List.le_of_lt h⟩
  · refine isLt_no.mpr ?_
    rcases isLt_no.mp h1 with a | ⟨a, a'⟩ <;> rcases isLt_no.mp h2 with b | ⟨b, b'⟩
    · exact .inl (by omega)
    · exact .inl (by omega)
    · exact .inl (by omega)
    · exact .inr ⟨by omega, List.le_trans a' b'⟩
section
variable {prog : Program} {w : World} {s : Shared} {A : Around} {E : Value → Shared → Prop}
/-- two such tuples compare as isLt says -/
theorem is_lt {a1 a2 : Addr} {o1 o2 : Obj} {x1 x2 : Int} {z1 z2 : Str} {t1 t2 u1 u2 : Tok} {n1 n2 : Nat} (g1 : s.heap.get? a1 = some o1) (d1 : o1.data = .seq #[.int x1 t1, .str z1 u1] n1) (g2 : s.heap.get? a2 = some o2) (d2 : o2.data = .seq #[.int x2 t2, .str z2 u2] n2) :
    wpAny (model prog w) A (keyLt' (tuples' true) (.ref a1) (.ref a2)) (fun r s' => s' = s ∧ r = isLt (x1, z1) (x2, z2)) (fun _ _ => False) s := by
  refine PySem.W.kat_lt g1 d1 g2 d2 ?_
  show PySem.W.KatLex prog w A true (decide (2 < 2)) _ [(.int x1 t1, .int x2 t2), (.str z1 u1, .str z2 u2)] 0 s
  refine PySem.W.kat_cons (SeqAt.EqAt.int_int x1 t1 x2 t2 prog w _ _ (PySem.W.kat_go (fun y1 => ?_) fun y1 => ?_))
  · have e1 : x1 = x2 := of_decide_eq_true (by simpa using y1)
    refine PySem.W.kat_yes (PySem.W.kat_cons (SeqAt.EqAt.str_str z1 u1 z2 u2 prog w _ _ (PySem.W.kat_go (fun y2 => ?_) fun y2 => ?_)))
    · have e2 : z1 = z2 := of_decide_eq_true (by simpa using y2)
      subst e1 e2
      exact PySem.W.kat_yes (PySem.W.kat_nil ⟨rfl, ((swo_is id).refl (x1, z1)).symm⟩)
    · exact PySem.W.kat_no (PySem.W.kat_one _ _ (PyProof.Rows.lt_str ⟨rfl, (if_pos (c := (x1, z1).1 = (x2, z2).1) e1).symm⟩))
  · have e1 : ¬ x1 = x2 := fun e => by
      subst e
      simp at y1
    exact PySem.W.kat_no (oneLt_int ⟨rfl, (if_neg (c := (x1, z1).1 = (x2, z2).1) e1).symm⟩)
theorem is_cmp {keys : List Value} {k : Value → Int × Str} (hp : ∀ v ∈ keys, IsIS s.heap v (k v).1 (k v).2) : Cmp prog w A s (tuples' true) (fun p => p.1 ∈ keys) (fun p q => isLt (k p.1) (k q.1)) := by
  rintro ⟨v1, w1⟩ ⟨v2, w2⟩ m1 m2
  obtain ⟨a1, o1, t1, u1, n1, e1, g1, _, d1⟩ := hp v1 m1
  obtain ⟨a2, o2, t2, u2, n2, e2, g2, _, d2⟩ := hp v2 m2
  have q := is_lt (prog := prog) (w := w) (A := A) (s := s) g1 d1 g2 d2
  rw [← e1, ← e2] at q
  exact q
theorem is_firsts {h : Heap} (keys : List Value) (hp : ∀ v ∈ keys, ∃ x z, IsIS h v x z) : ∃ fs : List Value, PySem.W.KatTups h keys fs ∧ fs.length = keys.length ∧ ∀ f ∈ fs, ∃ x t, f = Value.int x t := by
  induction keys with
  | nil => exact ⟨[], .nil, rfl, fun _ m => nomatch m⟩
  | cons v keys ih =>
    obtain ⟨fs, i1, i2, i3⟩ := ih fun u m => hp u (.tail _ m)
    obtain ⟨x, z, a, o, t, u, n, rfl, g, c, d⟩ := hp v (.head _)
    exact ⟨.int x t :: fs, .cons g c d rfl i1, congrArg Nat.succ i2, fun f m => (List.mem_cons.mp m).elim (fun e => ⟨x, t, e⟩) (i3 f)⟩
theorem is_kind {keys : List Value} {k : Value → Int × Str} {Q : SortKind → Shared → Prop} (some_ : 0 < keys.length) (hp : ∀ v ∈ keys, IsIS s.heap v (k v).1 (k v).2) (q : Q (tuples' true) s) : wpAny (model prog w) A (keyKind' keys.toArray) Q E s := by
  obtain ⟨fs, i1, i2, i3⟩ := is_firsts keys fun v m => ⟨_, _, hp v m⟩
  have differ : (Value.type "int" != Value.type "tuple") = true := by decide +kernel
  refine PySem.W.kat_kind (T := .type "int") i1 (by omega) (fun f m => ?_) rfl (by rw [differ]; exact q)
  obtain ⟨x, t, rfl⟩ := i3 f m
  exact PySem.W.Looks.now
/-- the sort itself: the keys stand in the store at kS, the list at a is empty -/
theorem key_end {a kS : Addr} {keys vs : List Value} {e e1 : Nat} {k : Value → Int × Str} {P : PySem.Fin → Shared → Prop} (hk : s.heap.get? kS = some (seqObj "list" keys.toArray e)) (ha : s.heap.get? a = some (seqObj "list" #[] e1)) (ne : kS ≠ a)
    (hl : keys.length = vs.length) (hz : vs.length ≤ sizeLine) (hp : ∀ v ∈ keys, IsIS s.heap v (k v).1 (k v).2)
    (h : ∀ (h' : Heap) (out : List (Value × Value)) (c : Nat), out.Perm (keys.zip vs) → out.Pairwise (fun p q => isLt (k q.1) (k p.1) = false) → (∀ b o, b ≠ kS → b ≠ a → s.heap.get? b = some o → h'.get? b = some o) →
      h'.get? a = some (seqObj "list" (out.map (·.2)).toArray c) → (∃ c', h'.get? kS = some (seqObj "list" #[] c')) → P (.done (.ret .none)) { s with heap := h' }) :
    wpAny (model prog w) A (ksk_end a false vs.toArray e1 (.ref kS) keys.toArray) P E s := by
  have ezip : (keys.toArray.zip vs.toArray).toList = keys.zip vs := by
    rw [ksk_zip, List.toList_toArray]
  have lz : (keys.zip vs).length = vs.length := by rw [List.length_zip, hl, Nat.min_self]
  have tail : ∀ st : SortSt, Srtd (fun p q : Keyed => isLt (k p.1) (k q.1)) (arrOf st).toList → Stb (fun p q : Keyed => isLt (k p.1) (k q.1)) (arrOf st).toList (keys.zip vs) → failedOf st = none →
      wpAny (model prog w) A (ksk_tail a false e1 (.ref kS) st) P E s := by
    intro st hs hb hf
    have hpm : (arrOf st).toList.Perm (keys.zip vs) := hb.perm
    have ls : ((arrOf st).map (·.2)).size = vs.length := by
      rw [Array.size_map, ← Array.length_toList, hpm.length_eq, lz]
    unfold ksk_tail
    try dsimp only
    refine wpAny_bind (listUpdate_at hk rfl ?_ (by rw [List.size_toArray, hl]; exact hz) (Nat.zero_le _))
    refine wpAny_bind (wpAny_letGo ?_)
    have ha1 : (s.heap.update kS (Obj.mapSeq fun _ => (#[] : Array Value))).get? a = some (seqObj "list" #[] e1) := ((Heap.SameBut.update s.heap kS _).2 a ne.symm).trans ha
    obtain ⟨c1, hk1⟩ : ∃ c1, (s.heap.update kS (Obj.mapSeq fun _ => (#[] : Array Value))).get? kS = some (seqObj "list" #[] c1) := ⟨_, get?_update_seq hk fun _ => #[]⟩
    refine wpAny_bind (seqEpoch_at ha1 rfl ?_)
    refine wpAny_bind (listUpdate_at ha1 rfl ?_ (Nat.zero_le _) (by show ((arrOf st).map (·.2)).size ≤ _; omega))
    rw [hf]
    simp only [bne_self_eq_false, Bool.false_eq_true, if_false]
    have s2 := Heap.SameBut.update (s.heap.update kS (Obj.mapSeq fun _ => (#[] : Array Value))) a (Obj.mapSeq fun _ => (arrOf st).map (·.2))
    obtain ⟨c2, hc2⟩ : ∃ c2, ((s.heap.update kS (Obj.mapSeq fun _ => (#[] : Array Value))).update a (Obj.mapSeq fun _ => (arrOf st).map (·.2))).get? a = some (seqObj "list" ((arrOf st).map (·.2)) c2) := ⟨_, get?_update_seq ha1 fun _ => (arrOf st).map (·.2)⟩
    have eo : (((arrOf st).toList.map (·.2)).toArray : Array Value) = (arrOf st).map (·.2) := by
      apply Array.ext'
      rw [List.toList_toArray, Array.toList_map]
    refine wpAny_pure (h _ (arrOf st).toList c2 hpm hs (fun b o n1 n2 q => (s2.2 b n2).trans (((Heap.SameBut.update s.heap kS _).2 b n1).trans q)) (by rw [eo]; exact hc2) ⟨c1, (s2.2 kS ne).trans hk1⟩)
  unfold ksk_end
  try dsimp only
  simp only [Bool.false_eq_true, if_false]
  by_cases h2 : vs.toArray.size < 2
  · rw [if_pos h2, if_pos h2]
    refine wpAny_bind (wpAny_pure ?_)
    rw [StateT.run_pure]
    refine wpAny_bind (wpAny_pure ?_)
    try dsimp only
    refine tail (SortSt.mk' general' (keys.toArray.zip vs.toArray) #[] 7 none) ?_ ?_ rfl
    · show Srtd _ (keys.toArray.zip vs.toArray).toList
      rw [ezip]
      rw [List.size_toArray] at h2
      match hh : keys.zip vs with
      | [] => exact List.Pairwise.nil
      | [v] => exact List.pairwise_singleton _ _
      | _ :: _ :: l =>
        rw [hh] at lz
        rw [List.length_cons, List.length_cons] at lz
        omega
    · show Stb _ (keys.toArray.zip vs.toArray).toList _
      rw [ezip]
      exact Stb.refl _
  · rw [if_neg h2, if_neg h2]
    rw [List.size_toArray] at h2
    refine wpAny_bind (is_kind (k := k) (by omega) hp ?_)
    have hall : AllL (fun p : Keyed => p.1 ∈ keys) (keys.toArray.zip vs.toArray).toList := fun p hm => by
      rw [ezip] at hm
      exact (List.of_mem_zip hm).1
    refine wpAny_bind (wpAny_mono (wpS_sortO (st0 := SortSt.mk' (tuples' true) (keys.toArray.zip vs.toArray) #[] 7 none)
      (Q := fun _ st' => Srtd (fun p q : Keyed => isLt (k p.1) (k q.1)) (arrOf st').toList ∧ Stb (fun p q : Keyed => isLt (k p.1) (k q.1)) (arrOf st').toList (keys.toArray.zip vs.toArray).toList ∧ failedOf st' = none)
      (swo_is fun p : Keyed => k p.1) (is_cmp hp) rfl hall rfl rfl fun st' a1 a2 a3 => ⟨a1, a2, a3⟩) ?_ fun _ _ e => e)
    rintro ⟨⟨⟩, st'⟩ s' ⟨rfl, hp1, hp2, hf⟩
    try dsimp only
    rw [ezip] at hp2
    exact tail st' hp1 hp2 hf
end
end SrtKy


namespace L2
open PySem PySem.Spec PyProof.Rows
section
variable {X : Cx} {pins : List (Addr × Obj)} {σ : St} {H : Hp} {s : Shared} {h' : Heap}
/-- an object that was not told is known from now on (it is younger than the entry, no frame, no cell, no pin) -/
theorem Inv.adopt {a : Addr} {o : HO} {t' : Nat} (I : Inv X pins σ H s) (k : ∀ b u, b ≠ a → s.heap.get? b = some u → h'.get? b = some u) (hn : H a = none) (hL : a ≠ X.env.locals) (h1 : a ∈ X.ex ∨ X.s_0.heap.objs.size ≤ a)
    (h2 : ∀ x c, X.env.cells.lookup x = some c → c ≠ a) (h3 : ∀ p ∈ X.pn ++ pins, p.1 ≠ a) (new : ObjOk X.prog X.w (upd H a o) h' a o) : Inv X pins σ (upd H a o) { s with heap := h', toks := t' } := by
  have nit : ∀ b u, H b = some u → b ≠ a := fun b u e z => by rw [z, hn] at e; cases e
  refine I.step (g' := s.gens) (d' := s.drawn) (ch := [a]) (fun b hb => ?_) (fun b o _ _ hc e _ => k b o (fun z => hc (by simp [z])) e) (fun b o _ _ hc e _ => ⟨o.slots, k b o (fun z => hc (by simp [z])) e⟩) (fun b _ hc _ n => by rw [upd_ne (fun z => hc (by simp [z]))]; exact n)
    (fun b o hc e => ⟨o, k b o (fun z => hc (by simp [z])) e⟩) (fun b _ e => by rw [upd_ne (nit b _ e)]; exact e) (fun b _ _ e => by rw [upd_ne (nit b _ e)]; exact e) (fun b ps e => ⟨#[], by rw [upd_ne (nit b _ e), e]; simp⟩) (fun m hm => ?_) (fun b u e => ?_) I.bare
  · have e : b = a := by simpa using hb
    subst e
    exact ⟨h1, hL, h2, h3⟩
  · obtain ⟨o, es, ep, ho, r⟩ := hm
    exact ⟨o, es, ep, k _ o (Ne.symm hL) ho, r⟩
  · by_cases hb : b = a
    · subst hb
      rw [upd_same] at e
      cases e
      exact new
    · rw [upd_ne hb] at e
      refine (I.hok b u e).stay (fun c v hc q => k c v ?_ q) (fun c q => by rw [upd_ne (nit c _ q)]; exact q) fun c _ q => by rw [upd_ne (nit c _ q)]; exact q
      rcases hc with z | z
      · rw [z]; exact hb
      · exact nit c _ z
/-- the same, a second object of ours having changed too -/
theorem Inv.adopt2 {a a2 : Addr} {o : HO} {t' : Nat} (I : Inv X pins σ H s) (k : ∀ b u, b ≠ a → b ≠ a2 → s.heap.get? b = some u → h'.get? b = some u) (hn : H a = none) (hn2 : H a2 = none)
    (hL : ∀ b, b = a ∨ b = a2 → ((b ∈ X.ex ∨ X.s_0.heap.objs.size ≤ b) ∧ b ≠ X.env.locals ∧ (∀ x c, X.env.cells.lookup x = some c → c ≠ b) ∧ ∀ p ∈ X.pn ++ pins, p.1 ≠ b)) (new : ObjOk X.prog X.w (upd H a o) h' a o) :
    Inv X pins σ (upd H a o) { s with heap := h', toks := t' } := by
  have nit : ∀ b u, H b = some u → b ≠ a := fun b u e z => by rw [z, hn] at e; cases e
  have nit2 : ∀ b u, H b = some u → b ≠ a2 := fun b u e z => by rw [z, hn2] at e; cases e
  refine I.step (g' := s.gens) (d' := s.drawn) (ch := [a, a2]) (fun b hb => hL b (by simpa using hb)) (fun b o _ _ hc e _ => k b o (fun z => hc (by simp [z])) (fun z => hc (by simp [z])) e)
    (fun b o _ _ hc e _ => ⟨o.slots, k b o (fun z => hc (by simp [z])) (fun z => hc (by simp [z])) e⟩) (fun b _ hc _ n => by rw [upd_ne (fun z => hc (by simp [z]))]; exact n)
    (fun b o hc e => ⟨o, k b o (fun z => hc (by simp [z])) (fun z => hc (by simp [z])) e⟩) (fun b _ e => by rw [upd_ne (nit b _ e)]; exact e) (fun b _ _ e => by rw [upd_ne (nit b _ e)]; exact e) (fun b ps e => ⟨#[], by rw [upd_ne (nit b _ e), e]; simp⟩) (fun m hm => ?_) (fun b u e => ?_) I.bare
  · obtain ⟨o, es, ep, ho, r⟩ := hm
    exact ⟨o, es, ep, k _ o (Ne.symm (hL a (.inl rfl)).2.1) (Ne.symm (hL a2 (.inr rfl)).2.1) ho, r⟩
  · by_cases hb : b = a
    · subst hb
      rw [upd_same] at e
      cases e
      exact new
    · rw [upd_ne hb] at e
      have hb2 := nit2 b _ e
      refine (I.hok b u e).stay (fun c v hc q => k c v ?_ ?_ q) (fun c q => by rw [upd_ne (nit c _ q)]; exact q) fun c _ q => by rw [upd_ne (nit c _ q)]; exact q
      · rcases hc with z | z
        · rw [z]; exact hb
        · exact nit c _ z
      · rcases hc with z | z
        · rw [z]; exact hb2
        · exact nit2 c _ z
/-- no cell of ours is a list -/
theorem Inv.nocell {a : Addr} {u : Obj} (I : Inv X pins σ H s) (h : s.heap.get? a = some u) (d : ∀ v, u.data ≠ .cell v) : ∀ x c, X.env.cells.lookup x = some c → c ≠ a := fun x c e z => by
  obtain ⟨v, o, ho, hd⟩ := I.cell x c e
  rw [z, h] at ho
  cases ho
  exact d _ hd
end
/-- what the keys of the first items are -/
def KysAt (H : Hp) (key : V → Int × Str) (xs : List V) (kA : List Value) : Prop := ∀ (j : Nat) (kv : Value), kA[j]? = some kv → ∃ (t : Addr) (x : V), kv = Value.ref t ∧ xs[j]? = some x ∧ H t = some (.tup [.int (key x).1, .str (key x).2])
theorem KysAt.up {H H' : Hp} {key : V → Int × Str} {xs : List V} {kA : List Value} (h : KysAt H key xs kA) (t : ∀ b ys, H b = some (.tup ys) → H' b = some (.tup ys)) : KysAt H' key xs kA := fun j kv e => by
  obtain ⟨a, x, e1, e2, e3⟩ := h j kv e
  exact ⟨a, x, e1, e2, t _ _ e3⟩
theorem KysAt.snoc {H : Hp} {key : V → Int × Str} {xs : List V} {kA : List Value} {t : Addr} {x : V} (h : KysAt H key xs kA) (hx : xs[kA.length]? = some x) (ht : H t = some (.tup [.int (key x).1, .str (key x).2])) : KysAt H key xs (kA ++ [.ref t]) := fun j kv e => by
  by_cases hj : j < kA.length
  · rw [List.getElem?_append_left hj] at e
    exact h j kv e
  · rw [List.getElem?_append_right (by omega)] at e
    have h0 : j - kA.length = 0 := by
      have := (List.getElem?_eq_some_iff.mp e).1
      rw [List.length_singleton] at this
      omega
    rw [h0] at e
    have e' : Value.ref t = kv := Option.some.inj e
    have : j = kA.length := by omega
    subst this
    exact ⟨t, x, e'.symm, hx, ht⟩
/-- the key that stands at an address -/
def keyOfL (H : Hp) : Value → Int × Str
  | .ref t => match H t with
    | some (.tup [.int n, .str z]) => (n, z)
    | _ => (0, "")
  | _ => (0, "")
theorem keyOfL_at {H : Hp} {t : Addr} {n : Int} {z : Str} (h : H t = some (.tup [.int n, .str z])) : keyOfL H (.ref t) = (n, z) := by
  show (match H t with
    | some (.tup [.int n, .str z]) => (n, z)
    | _ => ((0 : Int), ("" : Str))) = (n, z)
  rw [h]
theorem KysAt.is {X : Cx} {pins : List (Addr × Obj)} {σ : St} {H : Hp} {s : Shared} {key : V → Int × Str} {xs : List V} {kA : List Value} (I : Inv X pins σ H s) (h : KysAt H key xs kA) : ∀ v ∈ kA, SrtKy.IsIS s.heap v (keyOfL H v).1 (keyOfL H v).2 := fun v hv => by
  obtain ⟨j, hj⟩ := List.mem_iff_getElem?.mp hv
  obtain ⟨t, x, rfl, _, e⟩ := h j v hj
  rw [keyOfL_at e]
  obtain ⟨_, its, r, o, ho, hc, n, hd⟩ := I.hok _ _ e
  obtain ⟨u1, u2, rfl, ri, rj⟩ := vals2 r
  obtain ⟨t1, rfl⟩ := ri
  obtain ⟨t2, rfl⟩ := rj
  exact ⟨t, o, t1, t2, n, rfl, ho, hc, hd⟩
/-- a list whose picture is a permutation of a picture -/
theorem perm_lift {α β : Type} (f : α → β) {l m' : List β} (p : l.Perm m') : ∀ m : List α, m' = m.map f → ∃ l' : List α, l'.Perm m ∧ l'.map f = l := by
  induction p with
  | nil =>
    intro m e
    have : m = [] := List.map_eq_nil_iff.mp e.symm
    subst this
    exact ⟨[], .refl _, rfl⟩
  | cons x p ih =>
    intro m e
    cases m with
    | nil => cases e
    | cons y m =>
      rw [List.map_cons] at e
      injection e with e1 e2
      obtain ⟨l', h1, h2⟩ := ih m e2
      exact ⟨y :: l', h1.cons y, by rw [List.map_cons, h2, e1]⟩
  | swap x y l =>
    intro m e
    match m with
    | [] => cases e
    | [_] => simp at e
    | a :: b :: m =>
      rw [List.map_cons, List.map_cons] at e
      injection e with e1 e2
      injection e2 with e2 e3
      exact ⟨b :: a :: m, .swap a b m, by rw [List.map_cons, List.map_cons, e1, e2, e3]⟩
  | trans _ _ ih1 ih2 =>
    intro m e
    obtain ⟨l2, h1, h2⟩ := ih2 m e
    obtain ⟨l3, h3, h4⟩ := ih1 l2 h2.symm
    exact ⟨l3, h3.trans h1, h4⟩
theorem vals_map {α : Type} {f : α → V} {g : α → Value} : ∀ l : List α, (∀ p ∈ l, RelV (f p) (g p)) → Vals (l.map f) (l.map g)
  | [], _ => .nil
  | p :: l, h => .cons (h p (List.mem_cons_self ..)) (vals_map l fun q hq => h q (List.mem_cons_of_mem _ hq))
section
variable {X : Cx} {pins : List (Addr × Obj)} {σ : St} {H : Hp} {s : Shared}
theorem key_sort {A' : Around} {a f : Addr} {n : Nat} {xs : List V} {vs : List Value} {key : V → Int × Str} {J : Hp → Prop} {R : PySem.Fin → Shared → Prop} {E : Value → Shared → Prop}
    (I : Inv X pins σ H s) (hJ : J H) (r : Vals xs vs) (ha : s.heap.get? a = some (seqObj "list" vs.toArray n)) (hn : H a = none) (ho : X.s_0.heap.objs.size ≤ a) (hL : a ≠ X.env.locals) (hF : a ∉ X.fs) (hP : ∀ p ∈ X.pn ++ pins, p.1 ≠ a) (hz : vs.length ≤ sizeLine)
    (call_ : ∀ (x : V) (u : Value) (s' : Shared) (H' : Hp) (pins' : List (Addr × Obj)), x ∈ xs → RelV x u → Inv X (pins' ++ pins) σ H' s' → J H' → wpAny (model X.prog X.w) A' (call (.ref f) [u])
      (EP X (pins' ++ pins) σ fun v H2 => J H2 ∧ (∀ b ys, H' b = some (.tup ys) → H2 b = some (.tup ys)) ∧ ∃ t, v = .ref t ∧ H2 t = some (.tup [.int (key x).1, .str (key x).2])) (fun _ _ => False) s')
    (h : ∀ (ys : List V) (H1 : Hp) (s1 : Shared), ys.Perm xs → ys.Pairwise (fun x y => SrtKy.isLt (key y) (key x) = false) → J H1 → H1 a = none → Inv X pins σ (upd H1 a (.lst ys)) s1 → R (.done (.ret .none)) s1) :
    wpAny (model X.prog X.w) A' (ksk_tree a (.ref f) false) R E s := by
  have hlen : xs.length = vs.length := r.length
  obtain ⟨e1, ho1⟩ : ∃ e1, (s.heap.update a (Obj.mapSeq fun _ => (#[] : Array Value))).get? a = some (seqObj "list" #[] e1) := ⟨_, get?_update_seq ha fun _ => #[]⟩
  have emptied := Heap.SameBut.update s.heap a (Obj.mapSeq fun _ => (#[] : Array Value))
  unfold ksk_tree
  refine wpAny_bind (listItems_at ha rfl ?_)
  refine wpAny_bind (listUpdate_at ha rfl ?_ (by rw [List.size_toArray]; exact hz) (Nat.zero_le _))
  refine wpAny_bind (seqEpoch_at ho1 rfl ?_)
  refine wpAny_bind (wpAny_newTuple ?_ (by show vs.length ≤ _; exact hz))
  refine wpAny_bind (wpAny_newList ?_ (Nat.zero_le _))
  refine wpAny_holding ?_
  have next_ : ((s.heap.update a (Obj.mapSeq fun _ => (#[] : Array Value))).push (seqObj "tuple" vs.toArray 0)).objs.size = s.heap.objs.size + 1 := by rw [size_push', Heap.size_update]
  show wpAny _ _ (ksk_rest a (.ref f) false vs.toArray e1 (.ref ((s.heap.update a (Obj.mapSeq fun _ => (#[] : Array Value))).push (seqObj "tuple" vs.toArray 0)).objs.size)) _ _ { s with heap := ((s.heap.update a (Obj.mapSeq fun _ => (#[] : Array Value))).push (seqObj "tuple" vs.toArray 0)).push (seqObj "list" #[] 0) }
  have hk0 : (((s.heap.update a (Obj.mapSeq fun _ => (#[] : Array Value))).push (seqObj "tuple" vs.toArray 0)).push (seqObj "list" #[] 0)).get? ((s.heap.update a (Obj.mapSeq fun _ => (#[] : Array Value))).push (seqObj "tuple" vs.toArray 0)).objs.size = some (seqObj "list" #[] 0) := Heap.get?_push_size _ rfl
  have ha0 : (((s.heap.update a (Obj.mapSeq fun _ => (#[] : Array Value))).push (seqObj "tuple" vs.toArray 0)).push (seqObj "list" #[] 0)).get? a = some (seqObj "list" #[] e1) := Heap.get?_push_of_some _ (Heap.get?_push_of_some _ ho1)
  have hcell : ∀ x c, X.env.cells.lookup x = some c → c ≠ a := I.nocell ha (fun v z => nomatch z)
  have I1 : Inv X pins σ H { s with heap := ((s.heap.update a (Obj.mapSeq fun _ => (#[] : Array Value))).push (seqObj "tuple" vs.toArray 0)).push (seqObj "list" #[] 0) } :=
    I.turned (t' := s.toks) (it := a) (fun b o hb e => Heap.get?_push_of_some _ (Heap.get?_push_of_some _ ((emptied.2 b hb).trans e))) hn hL (.inr ho) hcell hP
  have hkn : s.heap.objs.size ≤ ((s.heap.update a (Obj.mapSeq fun _ => (#[] : Array Value))).push (seqObj "tuple" vs.toArray 0)).objs.size := by omega
  have hka : ((s.heap.update a (Obj.mapSeq fun _ => (#[] : Array Value))).push (seqObj "tuple" vs.toArray 0)).objs.size ≠ a := Nat.ne_of_gt (by rw [next_]; exact Nat.lt_succ_of_lt (Heap.lt_size ha))
  generalize ((s.heap.update a (Obj.mapSeq fun _ => (#[] : Array Value))).push (seqObj "tuple" vs.toArray 0)).objs.size = kS at hkn hka hk0 ⊢
  generalize ((s.heap.update a (Obj.mapSeq fun _ => (#[] : Array Value))).push (seqObj "tuple" vs.toArray 0)).push (seqObj "list" #[] 0) = h3 at I1 hk0 ha0 ⊢
  have kL : kS ≠ X.env.locals := Nat.ne_of_gt (Nat.lt_of_lt_of_le I.lt hkn)
  have kF : kS ∉ X.fs := I.nofs hkn
  have kP : ∀ p ∈ X.pn ++ pins, p.1 ≠ kS := fun p hp => Nat.ne_of_lt (Nat.lt_of_lt_of_le (Heap.lt_size (I.pin p hp).1) hkn)
  have kO : X.s_0.heap.objs.size ≤ kS := Nat.le_trans I.sz hkn
  have I2 : Inv X ([(kS, seqObj "list" ([] : List Value).toArray 0), (a, seqObj "list" #[] e1)] ++ pins) σ H { s with heap := h3 } := I1.pins_of fun p hp => by
    rcases List.mem_append.mp hp with hp | hp
    · rcases List.mem_cons.mp hp with rfl | hp
      · exact ⟨hk0, I.hok.fresh hkn, kL, kF, fun v z => nomatch z⟩
      · rw [List.mem_singleton.mp hp]
        exact ⟨ha0, hn, hL, hF, fun v z => nomatch z⟩
    · exact I1.pin p (List.mem_append_right _ hp)
  unfold ksk_rest
  refine wpAny_bind (wpAny_rule ?_)
  first
    | rw [List.forIn_toArray]
    | (rw [← Array.forIn_toList]; simp only [List.toList_toArray])
    | rw [← Array.forIn_toList]
  refine wpAny_bind (ksk_fold (fun i s' => ∃ (H' : Hp) (kA : List Value) (e : Nat), Inv X ([(kS, seqObj "list" kA.toArray e), (a, seqObj "list" #[] e1)] ++ pins) σ H' s' ∧ J H' ∧ kA.length = i ∧ KysAt H' key xs kA) vs 0 { s with heap := h3 }
    ⟨H, [], 0, I2, hJ, rfl, fun j kv e => by simp at e⟩ ?step ?done)
  case step =>
    rintro j u s' hu ⟨H', kA, e, I', hJ', hkl, hK⟩
    rw [Nat.zero_add] at hkl
    have hj : j < vs.length := (List.getElem?_eq_some_iff.mp hu).1
    obtain ⟨x, hx⟩ : ∃ x, xs[j]? = some x := ⟨_, List.getElem?_eq_getElem (by omega)⟩
    obtain ⟨u', hu', rx⟩ := r.get hx
    have eu : u' = u := by
      rw [hu] at hu'
      exact (Option.some.inj hu').symm
    subst eu
    refine wpAny_bind (wpAny_attempt (wpAny_mono (call_ x u' s' H' _ (List.mem_of_getElem? hx) rx I' hJ') (fun v s'' he => ?_) fun _ _ hF => hF.elim))
    obtain ⟨v', H2, J2, rv, hJ2, ht, t, ev, htt⟩ := he
    subst ev
    obtain rfl : v = Value.ref t := rv
    try dsimp only
    obtain ⟨nk, nkn, _, _, _⟩ := J2.pin (kS, seqObj "list" kA.toArray e) (List.mem_append_right _ (List.mem_append_left _ (.head _)))
    obtain ⟨na, nan, _, _, _⟩ := J2.pin (a, seqObj "list" #[] e1) (List.mem_append_right _ (List.mem_append_left _ (.tail _ (.head _))))
    obtain ⟨g, gg, gd, gt, gos⟩ := s''
    have hx1 := Heap.SameBut.update g kS (Obj.mapSeq (·.push (.ref t)))
    obtain ⟨c2, hc2⟩ : ∃ c2, (g.update kS (Obj.mapSeq (·.push (.ref t)))).get? kS = some (seqObj "list" (kA.toArray.push (.ref t)) c2) := ⟨_, get?_update_seq nk (·.push (.ref t))⟩
    refine wpAny_bind (listUpdate_at nk rfl ?_ (by rw [List.size_toArray]; omega) (by rw [Array.size_push, List.size_toArray]; omega))
    have J3 : Inv X pins σ H2 ⟨g, gg, gd, gt, gos⟩ := J2.pins_of fun p hp => J2.pin p (List.mem_append_right _ (List.mem_append_right _ hp))
    have J4 : Inv X pins σ H2 { (⟨g, gg, gd, gt, gos⟩ : Shared) with heap := g.update kS (Obj.mapSeq (·.push (.ref t))) } :=
      J3.turned (t' := gt) (it := kS) (fun b o hb q => (hx1.2 b hb).trans q) nkn kL (.inr kO) (J3.nocell nk (fun v z => nomatch z)) kP
    have eA : (kA ++ [Value.ref t]).toArray = kA.toArray.push (.ref t) := by simp
    refine wpAny_pure ⟨rfl, H2, kA ++ [.ref t], c2, J4.pins_of fun p hp => ?_, hJ2, by rw [List.length_append, List.length_singleton]; omega, (hK.up ht).snoc (by rw [hkl]; exact hx) htt⟩
    rcases List.mem_append.mp hp with hp | hp
    · rcases List.mem_cons.mp hp with rfl | hp
      · exact ⟨by rw [eA]; exact hc2, nkn, kL, kF, fun v z => nomatch z⟩
      · rw [List.mem_singleton.mp hp]
        exact ⟨(hx1.2 a hka.symm).trans na, nan, hL, hF, fun v z => nomatch z⟩
    · exact J4.pin p (List.mem_append_right _ hp)
  case done =>
    rintro s' ⟨H', kA, e, I', hJ', hkl, hK⟩
    rw [Nat.zero_add] at hkl
    obtain ⟨nk, nkn, _, _, _⟩ := I'.pin (kS, seqObj "list" kA.toArray e) (List.mem_append_right _ (List.mem_append_left _ (.head _)))
    obtain ⟨na, nan, _, _, _⟩ := I'.pin (a, seqObj "list" #[] e1) (List.mem_append_right _ (List.mem_append_left _ (.tail _ (.head _))))
    try dsimp only
    refine wpAny_bind (listItems_at nk rfl ?_)
    refine SrtKy.key_end (k := keyOfL H') nk na hka hkl hz (hK.is I') fun h' out c hp hs kp hA _ => ?_
    have J3 : Inv X pins σ H' s' := I'.pins_of fun p hp => I'.pin p (List.mem_append_right _ (List.mem_append_right _ hp))
    have lz : (kA.zip vs).length = xs.length := by rw [List.length_zip, hkl, Nat.min_self, hlen]
    obtain ⟨l', p1, p2⟩ := perm_lift Prod.fst hp ((kA.zip vs).zip xs) (by rw [List.map_fst_zip (by omega)])
    have every : ∀ p ∈ l', keyOfL H' p.1.1 = key p.2 ∧ RelV p.2 p.1.2 := fun p hm => by
      obtain ⟨j, hj⟩ := List.mem_iff_getElem?.mp (p1.mem_iff.mp hm)
      obtain ⟨⟨q1, q2⟩, q3⟩ := p
      rw [List.getElem?_zip_eq_some] at hj
      obtain ⟨hj1, hj2⟩ := hj
      rw [List.getElem?_zip_eq_some] at hj1
      obtain ⟨k1, k2⟩ := hj1
      obtain ⟨t, x, e3, e4, e5⟩ := hK j q1 k1
      obtain ⟨u, hu, ru⟩ := r.get hj2
      rw [k2] at hu
      cases hu
      rw [hj2] at e4
      cases e4
      subst e3
      exact ⟨keyOfL_at e5, ru⟩
    have py : (l'.map Prod.snd).Perm xs := by
      have q := p1.map Prod.snd
      rw [List.map_snd_zip (by omega)] at q
      exact q
    have pw : (l'.map Prod.snd).Pairwise (fun x y => SrtKy.isLt (key y) (key x) = false) := by
      rw [← p2, List.pairwise_map] at hs
      rw [List.pairwise_map]
      refine hs.imp_of_mem fun {p q} hm hm' hpq => ?_
      rw [← (every p hm).1, ← (every q hm').1]
      exact hpq
    have ev : Vals (l'.map Prod.snd) (out.map (·.2)) := by
      rw [← p2, List.map_map]
      exact vals_map l' fun p hm => (every p hm).2
    have hzy : (l'.map Prod.snd).length ≤ sizeLine := by rw [py.length_eq, hlen]; exact hz
    refine h _ H' _ py pw hJ' nan (J3.adopt2 (t' := s'.toks) (a := a) (a2 := kS) (o := .lst (l'.map Prod.snd)) (fun b u h1 h2 q => kp b u h2 h1 q) nan nkn (fun b hb => ?_) ⟨hzy, out.map (·.2), c, ev, hA⟩)
    rcases hb with rfl | rfl
    · exact ⟨.inr ho, hL, J3.nocell na (fun v z => nomatch z), hP⟩
    · exact ⟨.inr kO, kL, J3.nocell nk (fun v z => nomatch z), kP⟩
end
end L2


namespace L2
open PySem PySem.Spec PyProof.Rows LamX NdefX
/-- all that was told stays -/
def HKeep (H H' : Hp) : Prop := ∀ b o, H b = some o → H' b = some o
/-- the lambda as a function of the layer (its body is an expression: none of the statements' field is read) -/
def lamF (X : Cx) (params : Arguments) (scope : Scope) (c' : Addr) : NF := ⟨"<lambda>", X.env.qual ++ "<lambda>", params, [], scope, cloFrom X.env.cells scope.names [], c'⟩
/-- sorted(e, key=lambda ..): js: where the captured names stand among ours -/
def tSortLam (T : List (Addr × Str)) (q : Str) (N : List Str) (js : List Nat) (ta : TA) (tb : TE) : TE := fun σ H Q => ta σ H fun vs H1 => ∃ x : V, vs = [x] ∧ Tabs T H1 ∧ ∀ (c' : Addr) (H2 : Hp), ExtN H1 H2 → Tabs T H2 → H2 c' = some (CodeO c' q) →
  ∃ (a : Addr) (kvs : List (Key × V)) (ks : List Str) (key : Str → Int × Str), x = .ref a ∧ Rd H2 a (.dK kvs) ∧ kvs.map (·.1) = ks.map Sum.inr ∧ ks.length ≤ sizeLine ∧
    (∀ k ∈ ks, ∀ H, HKeep H2 H → tb (startF N [.str k] (js.map (NdefX.slotAt σ))) H fun v H3 => HKeep H H3 ∧ ∃ t, v = .ref t ∧ H3 t = some (.tup [.int (key k).1, .str (key k).2])) ∧
    ∀ (ys : List Str) (H3 : Hp) (p : Addr), ys.Perm ks → ys.Pairwise (fun x y => SrtKy.isLt (key y) (key x) = false) → HKeep H2 H3 → H3 p = none → Q (.ref p) (upd H3 p (.lst (ys.map V.str)))
section
variable {X : Cx}
theorem lam_call {pins : List (Addr × Obj)} {σ : St} {H : Hp} {s : Shared} {A' : Around} {f c' : Addr} {pm ctv : Value} {params : Arguments} {body : Expr} {scope : Scope} {N ps fr : List Str} {js : List Nat} {k : Nat} {us : List Value} {vs : List V} {tb : TE} {Q : VK}
    (I : Inv X pins σ H s) (hf : s.heap.get? f = some (PySem.W.kla_obj "<lambda>" (X.env.qual ++ "<lambda>") params body scope (cloFrom X.env.cells scope.names []) pm c' ctv)) (hc : H c' = some (CodeO c' (X.env.qual ++ "<lambda>")))
    (hb : bindArgs (PySem.W.kla_fn "<lambda>" (X.env.qual ++ "<lambda>") params body scope (cloFrom X.env.cells scope.names []) pm (.ref c') ctv) ⟨us, []⟩ = pure (ps.zip us)) (S : NScope N ps fr scope) (cp : Caps X (cloFrom X.env.cells scope.names []) fr js)
    (hr : Room (k + 1) A') (e0 : Env0 X.prog X.w X.K X.mg X.base A' X.stack s H) (hl : vs.length = ps.length) (r : Vals vs us)
    (hbody : ∀ (A : Around) (outer : List Env) (s : Shared) (H : Hp), Room k (A.deeper (envF (lamF X params scope c') f s.heap.objs.size)) → PE (ncx C8.CX0 X.prog X.w X.K X.mg X.base N (lamF X params scope c') f A outer s H C8.E0) body tb)
    (q : tb (startF N vs (js.map (NdefX.slotAt σ))) H Q) : wpAny (model X.prog X.w) A' (call (.ref f) us) (EP X pins σ fun v H2 => Q v H2 ∧ ∀ b ys, H b = some (.tup ys) → H2 b = some (.tup ys)) (fun _ _ => False) s := by
  obtain ⟨⟨oc, vs', t, hoc, hdc, hvc⟩, _, _⟩ := I.hok c' _ hc
  have rc : codeAny (model X.prog X.w) A' (.call (.ref f) ⟨us, []⟩) (CR C8.CX0 X.stack X.prog X.w H s (fun v H2 => Q v H2 ∧ ∀ b ys, H b = some (.tup ys) → H2 b = some (.tup ys)) C8.E0) s := by
    refine PySem.W.kla_callFunE hr.depth hf rfl S.co S.gen rfl ⟨c', oc, vs', t, rfl, hoc, hdc, hvc⟩ ?_
    rw [hb]
    refine wpAny_pure (wpAny_newFunctionEnv S.nocell (fun ⟨par, _⟩ mem => S.par par (List.of_mem_zip mem).1) (fun h₁ hns hsb => ⟨(e0.mod.nolimit.keeps fun b o e => (e0.bs b o e).1).fresh _ hsb, ?_⟩) S.kind)
    show codeAny _ _ (.expr body (envF (lamF X params scope c') f s.heap.objs.size)) _ _
    have stays : ∀ b o, s.heap.get? b = some o → h₁.get? b = some o := fun b o e => hsb.extBut b o (Nat.ne_of_lt (Heap.lt_size e)) (Heap.get?_push_of_some _ e)
    have J : Inv (ncx C8.CX0 X.prog X.w X.K X.mg X.base N (lamF X params scope c') f A' X.stack s H C8.E0) [] (startF N vs (js.map (NdefX.slotAt σ))) H { s with heap := h₁, toks := s.toks + (ps.zip us).length } :=
      inv_startN (F := lamF X params scope c') S hr.hd e0 hl r (cells_of I cp) hns stays
    refine PySem.W.kla_codeExpr (wpAny_mono ((hbody A' X.stack s H (hr.deeper _)).run [] _ _ H Q J q) (fun v s' hq => ?_) fun e s' hq => hq)
    obtain ⟨w', H', J', rv, hq'⟩ := hq
    exact ⟨w', H', J'.os, J'.bare, J'.base, J'.hok, rv, hq', J'.base.tups⟩
  refine wpAny_call (codeAny_mono rc fun r s' hq => ?_)
  cases r with
  | error e => exact (show False from hq).elim
  | ok fl =>
    cases fl with
    | ret u => exact I.after hq
    | next => exact False.elim hq
    | brk => exact False.elim hq
    | cont => exact False.elim hq
/-- THE RULE: sorted(e, key=lambda each: ..), e a dict of texts -/
theorem pe_sortedLam {T : List (Addr × Str)} {c P : Addr} {k : Nat} {params : Arguments} {body : Expr} {scope : Scope} {N fr : List Str} {js : List Nat} {each : Str} {e : Expr} {ta : TA} {tb : TE} {p pos kpos lpos : Pos} (hg : Gl X "sorted") (hm : X.mg "sorted" = none) (hcalm : X.calm = true) (ha : PA X [e] ta)
    (TB : TabB X.base X.mg c P) (hcode : X.env.code = .ref c) (hmT : (P, X.env.qual ++ "<lambda>") ∈ T) (hu : ∀ p ∈ T, p.1 = P → p.2 = X.env.qual ++ "<lambda>") (hdef : defaultsOf params X.env = ([], []))
    (hfree : ∀ y ∈ scope.names, y.2 = .free → X.env.scope.names.lookup y.1 = some .cell ∨ X.env.scope.names.lookup y.1 = some .free) (hfr : ∀ y ∈ fr, (y, NameKind.free) ∈ scope.names) (hjs : js.map (fun j => X.N[j]?) = fr.map some) (S : NScope N [each] fr scope)
    (hb : ∀ (q : Str) (cl : List (Str × Addr)) (pm cv ctv : Value) (u : Value), bindArgs (PySem.W.kla_fn "<lambda>" q params body scope cl pm cv ctv) ⟨[u], []⟩ = pure [(each, u)]) (hr : Room (k + 3) X.A)
    (hbody : ∀ (A : Around) (outer : List Env) (s : Shared) (H : Hp) (f c' : Addr), Room k (A.deeper (envF (lamF X params scope c') f s.heap.objs.size)) → PE (ncx C8.CX0 X.prog X.w X.K X.mg X.base N (lamF X params scope c') f A outer s H C8.E0) body tb)
    (hse : backTo pos (starEach [e] X.env) = (false, eval e X.env) :: backTo pos (starEach [] X.env) := by rfl) (hpl : (backTo pos (starEach [e] X.env)).any (·.1) = false := by rfl)
    (hall : (backToKw pos (keywordEach [⟨some "key", .Lambda params body scope lpos, kpos⟩] X.env)).all (·.1.isSome) = true := by rfl) (hnone : (backToKw pos (keywordEach [⟨some "key", .Lambda params body scope lpos, kpos⟩] X.env)).any (·.1.isNone) = false := by rfl)
    (hks : (backToKw pos (keywordEach [⟨some "key", .Lambda params body scope lpos, kpos⟩] X.env)).filterMap (·.1) = [Str.ofString "key"] := by rfl) :
    PE X (.Call (.Name "sorted" p) [e] [⟨some "key", .Lambda params body scope lpos, kpos⟩] pos) (tSortLam T (X.env.qual ++ "<lambda>") N js ta tb) := by
  refine ⟨fun pins s σ H Q I h => ?_⟩
  refine wpAny_Call_Name_kw (ld_blt I hg hm PyProof.Rows.Boot.«sorted» ?_ (by decide) (by decide))
  have hfr2 : ∀ y ∈ scope.names, y.2 = .free → ∃ c, X.env.cells.lookup y.1 = some c := fun y hy e => (hfree y hy e).elim (fun z => I.ok.has _ (.inl z)) fun z => I.ok.has _ (.inr z)
  refine PyProof.Rows.callWith_kw (thn (ha.run pos pins s σ H _ I h) fun us s1 hh => ?_) hse hpl hall hnone
  obtain ⟨vs, H1, I1, r1, x, ev, hT, hx⟩ := hh
  subst ev
  obtain ⟨ux, rfl, rx⟩ := vals1 r1
  rw [hks]
  show wpAny _ _ (evalAll ((do let v ← eval (.Lambda params body scope lpos) X.env; standAt pos; pure v) :: (backToKw pos (keywordEach [] X.env)).map (·.2))) _ _ s1
  refine wpAny_evalAll_cons (wpAny_bind (lam_make2 I1 TB hcode hmT hu hT hdef hfr2 fun f c' pm ctv H2 s2 I2 eN hT2 of f0 fF hc => ?_))
  refine wpAny_bind (wpAny_standAt (wpAny_pure (wpAny_evalAll_nil ?_)))
  obtain ⟨a, kvs, ks, key, rfl, hd, hkeys0, hz, hbs, hk⟩ := hx c' H2 eN hT2 hc
  cases rx
  show wpAny _ _ (call (.builtin "sorted") [.ref a] [(Str.ofString "key", .ref f)]) _ _ s2
  obtain ⟨z, lo, vs, rel, dd⟩ := dk_rd I2.hok hd
  obtain ⟨ep, hat⟩ := dd.dictAt
  have hkeys : vs.map (·.1) = ks.map Sum.inr := rel.keys.symm.trans hkeys0
  have hl : vs.length = ks.length := by
    have e := congrArg List.length hkeys
    rw [List.length_map, List.length_map] at e
    exact e
  have h16 : vs.length ≤ sizeLine := by rw [hl]; exact hz
  refine PyProof.Rows.call_function_entry_kw PyProof.Rows.kind_sorted PyProof.Rows.plain_sorted PyProof.Rows.entry_sorted (ksk_s1 _ _) ?_
  unfold Builtin.«sorted»
  refine wpAny_bind (m := checkCount "sorted" 1 1 _) (wpAny_pure ?_)
  refine wpAny_bind (PySem.W.kdu_collect (A := X.A.in1) (PySem.W.kdl_dict (knd := mixKind X.prog X.w) (kvs := vs) (ep := ep) lo) (I2.ok.hd hcalm) hat h16 fun h' tk acc hk2 hacc => ?_)
  have many : acc.toList.length = ks.length := by rw [Array.length_toList, hacc.1, hl]
  have hS : Vals (ks.map V.str) acc.toList := by
    have rows : Vals (vs.map fun p => kV p.1) acc.toList := keys_at (by rw [Array.length_toList]; exact hacc.1) fun j v e => hacc.2 j v (by rw [← Array.getElem?_toList]; exact e)
    have ek : (vs.map fun p => kV p.1) = ks.map V.str := by
      have e := congrArg (List.map kV) hkeys
      rw [List.map_map, List.map_map] at e
      exact e
    rw [ek] at rows
    exact rows
  have I3 : Inv X pins σ H2 { s2 with heap := h', toks := tk } := I2.kept hk2
  refine wpAny_bind (wpAny_newList ?_ (by rw [many]; exact hz))
  have laid_ : (h'.push (seqObj "list" acc.toList.toArray 0)).get? h'.objs.size = some (seqObj "list" acc.toList.toArray 0) := Heap.get?_push_size _ rfl
  show wpAny _ _ _ _ _ { s2 with heap := h'.push (seqObj "list" acc.toList.toArray 0), toks := tk }
  obtain ⟨fo, efo⟩ : ∃ fo, fo = PySem.W.kla_obj "<lambda>" (X.env.qual ++ "<lambda>") params body scope (cloFrom X.env.cells scope.names []) pm c' ctv := ⟨_, rfl⟩
  rw [← efo] at of
  have of3 : h'.get? f = some fo := hk2 _ _ of
  have fL : f ≠ X.env.locals := fun e => by
    obtain ⟨m, ⟨o, es, ep2, ho, hd2, _⟩, _⟩ := I2.loc
    rw [← e, of] at ho
    have ho' := Option.some.inj ho
    rw [← ho', efo] at hd2
    cases hd2
  have fFs : f ∉ X.fs := fun hm => fF (I2.ok.stk.elim (fun e => by rw [e]; exact hm) fun e => by rw [e.1]; exact (List.mem_filterMap.mpr (by
    obtain ⟨x, hx, q⟩ := List.mem_filterMap.mp hm
    exact ⟨x, List.mem_cons_of_mem _ hx, q⟩)))
  have I4 : Inv X ((f, fo) :: pins) σ H2 { s2 with heap := h'.push (seqObj "list" acc.toList.toArray 0), toks := tk } := (I3.kept (t' := tk) fun b u e => Heap.get?_push_of_some _ e).pins_of fun p hp => by
    rcases List.mem_cons.mp hp with rfl | hp
    · exact ⟨Heap.get?_push_of_some _ of3, f0, fL, fFs, fun v z => by
        rw [efo] at z
        cases z⟩
    · exact ⟨Heap.get?_push_of_some _ (I3.pin p (List.mem_append_right _ hp)).1, (I3.pin p (List.mem_append_right _ hp)).2⟩
  refine wpAny_bind (wpAny_holding (wpAny_call_entry_kw PyProof.Rows.slot_list_sort ⟨_, laid_, rfl⟩ PyProof.Rows.entry_list_sort ?_ (ksk_l1 _ _)))
  rw [ksk_t1]
  have hlt : ∀ p ∈ X.pn ++ ((f, fo) :: pins), p.1 ≠ h'.objs.size := fun p hp => by
    have lt : p.1 < h'.objs.size := by
      rcases List.mem_append.mp hp with hp | hp
      · exact Heap.lt_size (I3.pin p (List.mem_append_left _ hp)).1
      · rcases List.mem_cons.mp hp with rfl | hp
        · exact Heap.lt_size of3
        · exact Heap.lt_size (I3.pin p (List.mem_append_right _ hp)).1
    exact Nat.ne_of_lt lt
  refine key_sort (A' := X.A.in1.in1) (a := h'.objs.size) (xs := ks.map V.str) (key := fun v => match v with | .str y => key y | _ => (0, "")) (J := HKeep H2) I4 (fun _ _ e => e) hS laid_ (I3.hok.fresh (Nat.le_refl _)) I3.sz (Nat.ne_of_gt I3.lt) (I3.nofs (Nat.le_refl _)) hlt (by rw [many]; exact hz) (fun x u s' H' pins' hxm rx I' hJ => ?_) (fun ys H3 s3 py pw hJ hn J3 => ?_)
  · obtain ⟨y, hy, rfl⟩ := List.mem_map.mp hxm
    obtain ⟨of5, _, _, _, _⟩ := I'.pin (f, fo) (List.mem_append_right _ (List.mem_append_right _ (.head _)))
    rw [efo] at of5
    refine wpAny_mono (lam_call (vs := [V.str y]) (ps := [each]) (Q := fun v H3 => HKeep H' H3 ∧ ∃ t, v = .ref t ∧ H3 t = some (.tup [.int (key y).1, .str (key y).2])) I' of5 (hJ _ _ hc) (hb _ _ _ _ _ _) S (Caps.made I'.ok hfree hfr hjs) (hr.in1.in1) I'.env0.in1.in1 rfl (.cons rx .nil)
      (fun A outer s H hr2 => hbody A outer s H f c' hr2) (hbs y hy H' hJ)) (fun v s' hq => ?_) fun _ _ z => z
    obtain ⟨w, H4, I5, rv, ⟨q1, q2⟩, q3⟩ := hq
    exact ⟨w, H4, I5, rv, fun b o e => q1 b o (hJ b o e), q3, q2⟩
  · obtain ⟨zs, pz, ez⟩ := perm_lift V.str py ks rfl
    refine ⟨_, rfl, wpAny_pure ⟨_, rfl, .ref h'.objs.size, upd H3 h'.objs.size (.lst (zs.map V.str)), ?_, rfl, hk zs H3 _ pz ?_ hJ hn⟩⟩
    · rw [ez]
      exact J3.pins_of fun p hp => J3.pin p (List.mem_append_right _ (List.mem_cons_of_mem _ hp))
    · rw [← ez, List.pairwise_map] at pw
      exact pw
end
end L2


/-! y = {k: v for ..}, y a local; an expression whose answer is locked -/
namespace L2
open PySem PySem.Spec PyProof.Rows
section
variable {X : Cx} {i : Nat} {y : Str} {py : Pos} {kx vx tg iter : Expr} {ifs : List Expr} {scope : Scope} {own : List (Str × Nat)} {pos spos : Pos} {wi : TI} {g : TG} {tt : TT} {tk tv : TE}
theorem swd_true {gs : List Comprehension} {l : Nat} {env : Env} (kind : env.scope.kind = .function) (loc : env.scope.names.lookup y = some .local) (line : (py.line == pos.line) = true) (ap : (scope.names.any fun (n, k) => n == y && (k == .local || k == .cell)) = false) :
    swapsWith (.DictComp kx vx gs scope pos) (some (.Name y py)) l env = pure true := by
  have h1 : env.kindOf y = some .local := loc
  have h2 : env.blockKind = .function := by unfold Env.blockKind; rw [kind] <;> rfl
  unfold swapsWith
  simp only [h2, h1, ap, Expr.pos, line]
  rfl
theorem ps_setDc (hc : X.calm = true) (nd : X.N.Nodup) (hy : X.N[i]? = some y) (loc : X.env.scope.names.lookup y = some .local) (sw : swapsWith (.DictComp kx vx [⟨tg, iter, ifs, 0⟩] scope pos) (some (.Name y py)) spos.line X.env = pure true) (hi : PI X tg iter wi) (ok : BlkOk X.N X.env.scope scope own)
    (hg : ∀ (s : Shared) (H : Hp) (C : Addr) (cl : List (Str × Addr)) (fp : List Addr), PG (X.blk s H scope (compEnvC scope cl C X.env) fp) tg g) (ht : ∀ (s : Shared) (H : Hp) (C : Addr) (cl : List (Str × Addr)) (fp : List Addr), PTs (X.blk s H scope (compEnvC scope cl C X.env) fp) ifs tt)
    (hk : ∀ (s : Shared) (H : Hp) (C : Addr) (cl : List (Str × Addr)) (fp : List Addr), PE (X.blk s H scope (compEnvC scope cl C X.env) fp) kx tk)
    (hv : ∀ (s : Shared) (H : Hp) (C : Addr) (cl : List (Str × Addr)) (fp : List Addr), PE (X.blk s H scope (compEnvC scope cl C X.env) fp) vx tv) (hs : ∀ x, foldedSetIterable iter X.env x = pure x := by intro _; rfl) :
    PS X (.Assign [.Name y py] (.DictComp kx vx [⟨tg, iter, ifs, 0⟩] scope pos) spos) (tAsg (tDc wi g tt tk tv (own.map (·.2))) (gName i)) := by
  constructor
  intro pins s σ H D I h
  have want : tDc wi g tt tk tv (own.map (·.2)) σ H (fun x H1 => gName i x σ H1 D.nx) := h
  rw [exec_Assign_Name_used _ _ _ _ sw]
  refine wpAny_bind (wpAny_standAt (wpAny_bind ?_))
  show wpAny _ X.A (do let _ ← comprehension (.DictComp kx vx [⟨tg, iter, ifs, 0⟩] scope pos) scope X.env (firstIterPos [⟨tg, iter, ifs, 0⟩] pos) newDict false (eval iter X.env) (some (assign (.Name y py) X.env))) _ _ s
  refine wpAny_bind (thn (dc_core (Qf := fun _ s' => SP X pins D .next s') hc nd I hi ok hg ht hk hv hs want fun L C s' m H' J q hn f => ?_) fun _ _ z => wpAny_pure (wpAny_pure z))
  show wpAny _ _ (assign (.Name y py) X.env (.ref L)) _ _ _
  refine wpAny_assign_Name (store_ok2 (v := V.ref L) J nd hy (.inl loc) rfl (fun s2 J2 ⟨a, sb, ha⟩ => ?_) (.inr loc))
  obtain ⟨z0, z1, z2, z3, z4, z5⟩ := f
  have off : C ≠ a := ha.elim (fun e => e ▸ z1) fun e => (z4 y a e).symm
  exact ⟨m, hn.sameBut sb off, fun h3 sb3 => ⟨_, H', J2.turned (t' := s2.toks) (fun b o hb e => (sb3.2 b hb).trans e) z0 z1 z3 z4 z5, q⟩⟩
/-- e, its answer locked from then on -/
def tLk (te : TE) : TE := fun σ H Q => te σ H fun x H1 => ∃ d u, x = .ref d ∧ H1 d = some u ∧ Mut (some u) ∧ ∀ od, Q (.ref d) (upd H1 d (.frz od u))
theorem pe_lk {e : Expr} {te : TE} (he : PE X e te) : PE X e (tLk te) := by
  constructor
  intro pins s σ H Q I h
  refine thn (he.run pins s σ H _ I h) fun v s1 ⟨x, H1, J, r, d, u, ex, hd, mu, q⟩ => ?_
  subst ex
  obtain ⟨od, J1⟩ := J.lock hd mu
  exact ⟨.ref d, _, J1, r, q od⟩
end
end L2


namespace FT
open PySem L2
/-- the i-th statement of the row's text -/
def top (i : Nat) : Stmt := PySem.Challenge.pw_flagtrees_k35_joint_numbers.main.body.getD i (.Pass ⟨0, 0, 0, 0⟩)
abbrev s__wall : Stmt := top 0
abbrev s_InvalidForest___init__ : Stmt := inClass (top 3) 0
abbrev s_UnknownName___init__ : Stmt := inClass (top 4) 0
abbrev s_InvalidUsers___init__ : Stmt := inClass (top 5) 0
abbrev s_InvalidSizes___init__ : Stmt := inClass (top 6) 0
abbrev s_InvalidPlace___init__ : Stmt := inClass (top 7) 0
abbrev s_UnknownUser___init__ : Stmt := inClass (top 8) 0
abbrev s_Mismatch___init__ : Stmt := inClass (top 9) 0
abbrev s_InvalidNumber___init__ : Stmt := inClass (top 10) 0
abbrev s_NotBest___init__ : Stmt := inClass (top 11) 0
abbrev s_InvalidPin___init__ : Stmt := inClass (top 12) 0
abbrev s_Crowded___init__ : Stmt := inClass (top 13) 0
abbrev s_InvalidText___init__ : Stmt := inClass (top 14) 0
abbrev s_is_name : Stmt := top 18
abbrev s_is_ancestor : Stmt := top 19
abbrev s_need_parents : Stmt := top 20
abbrev s_Forest___init__ : Stmt := inClass (top 21) 2
abbrev s_Forest___eq__ : Stmt := inClass (top 21) 3
abbrev s_Forest_flags : Stmt := inClass (top 21) 4
abbrev s_Forest_parents : Stmt := inClass (top 21) 5
abbrev s_Forest_text : Stmt := inClass (top 21) 6
abbrev s_Forest_children : Stmt := inClass (top 21) 7
abbrev s_Forest_path : Stmt := inClass (top 21) 8
abbrev s_Forest_under : Stmt := inClass (top 21) 9
abbrev s_Forest_distance : Stmt := inClass (top 21) 10
abbrev s_Forest_walk : Stmt := inClass (top 21) 11
abbrev s_Forest_parse : Stmt := inClass (top 21) 12
abbrev s_walked : Stmt := top 22
abbrev s_path_in : Stmt := top 23
abbrev s_places_of : Stmt := top 24
abbrev s_need_place : Stmt := top 25
abbrev s_need_flag : Stmt := top 26
abbrev s_is_integer : Stmt := top 28
abbrev s_need_users : Stmt := top 29
abbrev s_sizes_of : Stmt := top 31
abbrev s_Assignment___init__ : Stmt := inClass (top 32) 1
abbrev s_Assignment___eq__ : Stmt := inClass (top 32) 2
abbrev s_Assignment_forest : Stmt := inClass (top 32) 3
abbrev s_Assignment_places : Stmt := inClass (top 32) 4
abbrev s_Assignment_total : Stmt := inClass (top 32) 5
abbrev s_Assignment_sizes : Stmt := inClass (top 32) 6
abbrev s_Assignment_flags_of : Stmt := inClass (top 32) 7
abbrev s_Assignment_has : Stmt := inClass (top 32) 8
abbrev s_Assignment_users_of : Stmt := inClass (top 32) 9
abbrev s_Assignment_at : Stmt := inClass (top 32) 10
abbrev s_Assignment_moved : Stmt := inClass (top 32) 11
abbrev s_Assignment_empty : Stmt := inClass (top 32) 12
abbrev s_need_user : Stmt := top 33
abbrev s_need_same_users : Stmt := top 35
abbrev s_groups_of : Stmt := top 36
abbrev s_numbers_in : Stmt := top 37
abbrev s_roundings : Stmt := top 38
abbrev s_joint : Stmt := top 39
abbrev s_is_balanced : Stmt := top 40
abbrev s__law_begin : Stmt := top 42
abbrev s__law_draw : Stmt := top 43
abbrev s__law_pick : Stmt := top 44
abbrev s__law_names : Stmt := top 45
abbrev s__law_tree : Stmt := top 46
abbrev s__law_path : Stmt := top 47
abbrev s__law_sizes : Stmt := top 48
abbrev s__law_places : Stmt := top 49
abbrev s__law_counts : Stmt := top 50
abbrev s__law_groups : Stmt := top 51
abbrev s__law_in_proportion : Stmt := top 52
abbrev s__law_error : Stmt := top 53
abbrev s__law_split : Stmt := top 54
abbrev s__law_layers : Stmt := top 55
abbrev s__law_refused : Stmt := top 56
abbrev s_law : Stmt := top 57
end FT


/-! heaps, lists, texts: what all the laws' proofs share. -/
namespace FT
open PySem L2 TL
abbrev Same (H H' : Hp) : Prop := ∀ b o, H b = some o → H' b = some o
theorem Same.refl {H : Hp} : Same H H := fun _ _ e => e
theorem Same.trans {H H1 H2 : Hp} (a : Same H H1) (b : Same H1 H2) : Same H H2 := fun x o e => b x o (a x o e)
theorem Same.free {H H' : Hp} {p : Addr} (s : Same H H') (n : H' p = none) : H p = none := by
  cases e : H p with
  | none => rfl
  | some o =>
    rw [s p o e] at n
    cases n
theorem Same.sql {K : PySem.W.Frag} {H H' : Hp} {a : Addr} {xs : List V} (e : Same H H') (h : SqL K H a xs) : SqL K H' a xs := by
  rcases h with (h | ⟨o, h⟩) | h
  · exact .inl (.inl (e _ _ h))
  · exact .inl (.inr ⟨o, e _ _ h⟩)
  · exact .inr h
theorem Same.sqt {K : PySem.W.Frag} {H H' : Hp} {a : Addr} {xs : List V} (e : Same H H') (h : SqT K H a xs) : SqT K H' a xs := by
  rcases h with (h | ⟨o, h⟩) | h
  · exact .inl (.inl (e _ _ h))
  · exact .inl (.inr ⟨o, e _ _ h⟩)
  · exact .inr h
theorem same_new {H : Hp} {p : Addr} {o : HO} (n : H p = none) : Same H (upd H p o) := fun b u e => by
  rw [upd_ne (ne_of_none e n)]
  exact e
theorem Same.put {H H' : Hp} {p : Addr} {o : HO} (s : Same H H') (n : H p = none) : Same H (upd H' p o) := fun b u e => by
  rw [upd_ne (ne_of_none e n)]
  exact s b u e
/-- what the text finds among the module's names -/
structure Nm (mg : Str → Option Value) : Prop where
  abs : mg "abs" = none
  len : mg "len" = none
  rng : mg "range" = none
  enu : mg "enumerate" = none
  zip : mg "zip" = none
  isi : mg "isinstance" = none
  all : mg "all" = none
  srt : mg "sorted" = none
  lst : mg "list" = none
  dct : mg "dict" = none
  str : mg "str" = none
  int : mg "int" = none
  tup : mg "tuple" = none
  sum : mg "sum" = none
  min : mg "min" = none
  max : mg "max" = none
  rep : mg "repr" = none
  bool : mg "bool" = none
  any : mg "any" = none
  vE : mg "ValueError" = none
theorem take_more {α : Type} {l : List α} {i : Nat} {x : α} (h : l[i]? = some x) : l.take (i + 1) = l.take i ++ [x] := by
  rw [List.take_succ, h] <;> rfl
theorem cut_ints (ns : List Int) (lo hi : Option Int) : ∃ ms : List Int, cutV (ns.map V.int) lo hi = ms.map V.int ∧ ms.length ≤ ns.length := by
  unfold cutV
  generalize HT.sIx (ns.map V.int).length 0 lo = i
  generalize HT.sIx (ns.map V.int).length (ns.map V.int).length hi = j
  refine ⟨(ns.drop i).take (j - i), by rw [List.map_take, List.map_drop], ?_⟩
  rw [List.length_take, List.length_drop]
  omega
theorem cut_take {xs : List V} {j : Nat} (h : j ≤ xs.length) : cutV xs none (some (j : Int)) = xs.take j := by
  have e : HT.sIx xs.length xs.length (some (j : Int)) = min j xs.length := HT.sIx_nat _ _ j
  show (xs.drop 0).take (HT.sIx xs.length xs.length (some (j : Int)) - 0) = xs.take j
  rw [e, List.drop_zero, Nat.sub_zero, Nat.min_eq_left h]
theorem map_at {α : Type} {f : α → V} {cells : List α} {j : Nat} {z : α} (h : cells[j]? = some z) : (cells.map f)[j]? = some (f z) := by
  rw [List.getElem?_map, h] <;> rfl
theorem map_of {α : Type} {f : α → V} {l : List α} {j : Nat} {x : V} (h : (l.map f)[j]? = some x) : ∃ z, l[j]? = some z ∧ x = f z := by
  rw [List.getElem?_map] at h
  obtain ⟨z, hz, rfl⟩ := Option.map_eq_some_iff.mp h
  exact ⟨z, hz, rfl⟩
theorem ixN_nat {n j : Nat} (h : j < n) : ixN n (j : Int) = some j := by
  unfold ixN
  rw [if_pos (by omega), if_pos (by omega)]
  simp
theorem map_erase {α β : Type} (f : α → β) : ∀ (l : List α) (i : Nat), (l.map f).eraseIdx i = (l.eraseIdx i).map f
  | [], _ => rfl
  | _ :: _, 0 => rfl
  | a :: l, i + 1 => congrArg (List.cons (f a)) (map_erase f l i)
theorem erase_perm {α : Type} : ∀ (l : List α) (i : Nat) (h : i < l.length), (l[i] :: l.eraseIdx i).Perm l
  | [], _, h => absurd h (Nat.not_lt_zero _)
  | _ :: _, 0, _ => .refl _
  | a :: l, i + 1, h => (List.Perm.swap a _ _).trans ((erase_perm l i (Nat.lt_of_succ_lt_succ h)).cons a)
/-- how many items stand there -/
def many (H : Hp) (a : Addr) : Nat := match H a with
  | some (.lst xs) => xs.length
  | _ => 0
theorem many_at {H : Hp} {a : Addr} {xs : List V} (h : H a = some (.lst xs)) : many H a = xs.length := by
  unfold many
  rw [h]
theorem items_strs {Pz : Str → Prop} {ws : List Str} (h : ∀ z ∈ ws, Pz z) : ∀ (i : Nat) (x : V), (ws.map V.str)[i]? = some x → ∃ z, x = .str z ∧ Pz z := fun i x e => by
  obtain ⟨z, hz, rfl⟩ := map_of e
  exact ⟨z, rfl, h z (List.mem_of_getElem? hz)⟩
theorem items_ints {Pz : Int → Prop} {ws : List Int} (h : ∀ z ∈ ws, Pz z) : ∀ (i : Nat) (x : V), (ws.map V.int)[i]? = some x → ∃ z, x = .int z ∧ Pz z := fun i x e => by
  obtain ⟨z, hz, rfl⟩ := map_of e
  exact ⟨z, rfl, h z (List.mem_of_getElem? hz)⟩
theorem inV_strs (x : Str) : ∀ fs : List Str, inV (.str x) (fs.map V.str) = decide (x ∈ fs)
  | [] => rfl
  | y :: fs => by
    show (eqV (.str y) (.str x) || inV (.str x) (fs.map V.str)) = _
    rw [inV_strs x fs]
    have e : eqV (.str y) (.str x) = decide (x = y) := by
      show (y == x) = decide (x = y)
      rw [Bool.eq_iff_iff, beq_iff_eq, decide_eq_true_eq]
      exact eq_comm
    rw [e, Bool.eq_iff_iff]
    simp only [Bool.or_eq_true, decide_eq_true_eq, List.mem_cons]
theorem flat_strs : ∀ fs : List Str, (fs.map V.str).all flatV = true
  | [] => rfl
  | _ :: fs => flat_strs fs
/-! ### texts -/
/-- a name: letters, one to eight, not self -/
def NameL (z : Str) : Prop := (∀ c ∈ tl z, 97 ≤ c ∧ c ≤ 122) ∧ 1 ≤ (tl z).length ∧ (tl z).length ≤ 8 ∧ z ≠ "self"
instance (z : Str) : Decidable (NameL z) := by unfold NameL; infer_instance
theorem NameL.len {z : Str} (h : NameL z) : 1 ≤ z.length ∧ z.length ≤ 8 := by
  rw [len_tl]
  exact ⟨h.2.1, h.2.2.1⟩
theorem NameL.self {z : Str} (h : NameL z) : z ≠ "self" := h.2.2.2
theorem NameL.ne {z : Str} (h : NameL z) : z ≠ "" := fun e => by
  subst e
  have := h.2.1
  revert this
  decide +kernel
theorem strOk_name {z : Str} (h : NameL z) : PyData.strOk z = true := by
  unfold PyData.strOk
  simp only [Bool.and_eq_true, decide_eq_true_eq, Array.all_eq_true_iff_forall_mem]
  intro c hc
  have := h.1 c (Array.mem_toList_iff.mpr hc)
  omega
theorem strOk_root : PyData.strOk "" = true := by decide +kernel
/-! ### order -/
theorem rising_all : ∀ (l : List Str) (p : Str), PyProof.Rows.risingS p l = true → (∀ y ∈ l, tl p ≤ tl y) ∧ l.Pairwise (fun a b => tl a ≤ tl b)
  | [], p, _ => ⟨fun y h => (by cases h), List.Pairwise.nil⟩
  | x :: r, p, h => by
    have h' : (!PySem.Spec.ltCps x.cps.toList p.cps.toList && PyProof.Rows.risingS x r) = true := h
    rw [Bool.and_eq_true, PyProof.Rows.ltCps_eq] at h'
    obtain ⟨h1, h2⟩ := h'
    have px : tl p ≤ tl x := by
      show ¬ (tl x < tl p)
      intro z
      rw [decide_eq_true z] at h1
      cases h1
    obtain ⟨i1, i2⟩ := rising_all r x h2
    refine ⟨fun y hy => ?_, List.pairwise_cons.mpr ⟨i1, i2⟩⟩
    rcases List.mem_cons.mp hy with rfl | hy
    · exact px
    · exact List.le_trans px (i1 y hy)
theorem sorted_pw {l : List Str} (h : PyProof.Rows.sortedS l = true) : l.Pairwise (fun a b => tl a ≤ tl b) := by
  cases l with
  | nil => exact .nil
  | cons x r =>
    obtain ⟨i1, i2⟩ := rising_all r x h
    exact List.pairwise_cons.mpr ⟨i1, i2⟩
/-- one order of the same texts -/
theorem sorted_one {l m : List Str} (p : l.Perm m) (hl : PyProof.Rows.sortedS l = true) (hm : PyProof.Rows.sortedS m = true) : l = m :=
  List.Perm.eq_of_pairwise (le := fun a b => tl a ≤ tl b) (fun a b _ _ h1 h2 => ext_tl (List.le_antisymm h1 h2)) (sorted_pw hl) (sorted_pw hm) p
/-! ### comprehensions of dicts, locks -/
/-- a dict comprehension over a walk: Pv by the turn and the heap (the new dict at D within) -/
theorem dc_it {J : It} {n : Nat} {G : Hp → Prop} {Y : Nat → Hp → V → Hp → Prop} (w : Walk J n G Y) {g : TG} {tt : TT} {tk tv : TE} {vs : List Nat} {σ : St} {H1 : Hp} {D : Addr} {Qd : Hp → Prop} (Pv : Nat → Hp → Prop) (h0 : Pv 0 (upd H1 D (.dK []))) (hG : ∀ i H, i ≤ n → Pv i H → G H)
    (hs : ∀ i x H H', i < n → Pv i H → Y i H x H' → g x (wipe σ vs) H' fun σ2 H2 => wipe σ2 vs = wipe σ vs ∧ tt σ2 H2 fun b H3 =>
      if b = true then tk σ2 H3 fun y H4 => tv σ2 H4 fun z H5 => ∃ kvs k, y = kV k ∧ H5 D = some (.dK kvs) ∧ kvs.length < sizeLine ∧ Pv (i + 1) (upd H5 D (.dK (putK kvs k z))) else Pv (i + 1) H3) (hd : ∀ H, Pv n H → Qd H) :
    ∃ W : Nat → Nat → Hp → Prop, (∃ m, W 0 m (upd H1 D (.dK []))) ∧ ∀ i m H, W i m H →
      (J.stop i H ∧ Qd H) ∨ (J.go i H ∧ ∃ Nx : Hp → Prop, (∀ H', Nx H' → ∃ m', m' < m ∧ W (i + 1) m' H') ∧ ∀ x H', J.yld i H x H' → g x (wipe σ vs) H' fun σ2 H2 => wipe σ2 vs = wipe σ vs ∧ tt σ2 H2 fun b H3 =>
        if b = true then tk σ2 H3 fun y H4 => tv σ2 H4 fun z H5 => ∃ kvs k, y = kV k ∧ H5 D = some (.dK kvs) ∧ kvs.length < sizeLine ∧ Nx (upd H5 D (.dK (putK kvs k z))) else Nx H3) := by
  refine ⟨fun i m H => m = n - i ∧ i ≤ n ∧ Pv i H, ⟨n, by simp, Nat.zero_le _, h0⟩, fun i m H ⟨em, hi, p⟩ => ?_⟩
  have gh := hG i H hi p
  rcases Nat.lt_or_ge i n with lt | ge
  · exact .inr ⟨w.goes i H lt gh, Pv (i + 1), fun H' p' => ⟨n - (i + 1), by omega, rfl, lt, p'⟩, fun x H' y => hs i x H H' lt p (w.yields i H x H' lt gh y)⟩
  · have ei : i = n := by omega
    subst ei
    exact .inl ⟨w.stops H gh, hd H p⟩
theorem unlock_same {H H' : Hp} {q : Addr} {u : HO} {o : Obj} (e : H q = some u) (s : Same (upd H q (.frz o u)) H') : Same H (upd H' q u) := fun b x h => by
  by_cases z : b = q
  · subst z
    rw [upd_same]
    exact e.symm.trans h |>.symm ▸ rfl
  · rw [upd_ne z]
    exact s b x (by rw [upd_ne z]; exact h)
/-! ### dicts with text keys, by any values -/
/-- a dict of values by texts -/
def kvT (t : List (Str × V)) : List (Key × V) := t.map fun p => (Sum.inr p.1, p.2)
theorem kvT_len (t : List (Str × V)) : (kvT t).length = t.length := by unfold kvT; rw [List.length_map]
theorem kvT_app (t : List (Str × V)) (f : Str) (z : V) : kvT t ++ [(Sum.inr f, z)] = kvT (t ++ [(f, z)]) := by
  unfold kvT
  rw [List.map_append] <;> rfl
theorem kvT_any (t : List (Str × V)) (f : Str) : ((kvT t).any fun kv => decide (kv.1 = Sum.inr f)) = decide (f ∈ t.map Prod.fst) := by
  induction t with
  | nil => rfl
  | cons p t ih =>
    show (decide ((Sum.inr p.1 : Key) = Sum.inr f) || ((kvT t).any fun kv => decide (kv.1 = Sum.inr f))) = _
    rw [ih, Bool.eq_iff_iff]
    simp only [Bool.or_eq_true, decide_eq_true_eq, List.map_cons, List.mem_cons]
    constructor
    · rintro (h | h)
      · exact .inl (Sum.inr.inj h).symm
      · exact .inr h
    · rintro (h | h)
      · exact .inl (by rw [h])
      · exact .inr h
theorem kvT_put {t : List (Str × V)} {f : Str} {z : V} (n : f ∉ t.map Prod.fst) : putK (kvT t) (Sum.inr f) z = kvT (t ++ [(f, z)]) := by
  unfold putK
  rw [kvT_any, decide_eq_false n, if_neg (by decide), kvT_app]
/-- the value of a key -/
def look (t : List (Str × V)) (f : Str) : Option V := (t.find? fun p => decide (p.1 = f)).map Prod.snd
theorem look_cons (p : Str × V) (t : List (Str × V)) (f : Str) : look (p :: t) f = if p.1 = f then some p.2 else look t f := by
  unfold look
  rw [List.find?_cons]
  by_cases e : p.1 = f
  · rw [if_pos e, decide_eq_true e] <;> rfl
  · rw [if_neg e, decide_eq_false e]
theorem kvT_val : ∀ (t : List (Str × V)) (f : Str), valV (kvT t) (Sum.inr f) = look t f
  | [], f => rfl
  | p :: t, f => by
    rw [look_cons]
    by_cases e : p.1 = f
    · rw [if_pos e]
      exact valV_pos (by show (Sum.inr p.1 : Key) = Sum.inr f; rw [e])
    · rw [if_neg e]
      exact (valV_neg (p := (Sum.inr p.1, p.2)) (fun z => e (Sum.inr.inj z))).trans (kvT_val t f)
theorem look_none {t : List (Str × V)} {f : Str} (n : f ∉ t.map Prod.fst) : look t f = none := by
  induction t with
  | nil => rfl
  | cons p t ih =>
    rw [List.map_cons, List.mem_cons] at n
    rw [look_cons, if_neg (fun e => n (.inl e.symm))]
    exact ih fun m => n (.inr m)
theorem look_some {t : List (Str × V)} {f : Str} (h : f ∈ t.map Prod.fst) : ∃ v, look t f = some v := by
  induction t with
  | nil => cases h
  | cons p t ih =>
    rw [look_cons]
    by_cases e : p.1 = f
    · exact ⟨_, if_pos e⟩
    · rw [if_neg e]
      exact ih ((List.mem_cons.mp h).resolve_left fun z => e z.symm)
theorem look_has {t : List (Str × V)} {f : Str} : (look t f).isSome = decide (f ∈ t.map Prod.fst) := by
  by_cases h : f ∈ t.map Prod.fst
  · obtain ⟨v, e⟩ := look_some h
    rw [e, decide_eq_true h] <;> rfl
  · rw [look_none h, decide_eq_false h] <;> rfl
theorem look_mem {t : List (Str × V)} {f : Str} {v : V} (h : look t f = some v) : (f, v) ∈ t := by
  induction t with
  | nil => cases h
  | cons p t ih =>
    rw [look_cons] at h
    by_cases e : p.1 = f
    · rw [if_pos e] at h
      cases h
      exact List.mem_cons.mpr (.inl (by rw [← e]))
    · rw [if_neg e] at h
      exact List.mem_cons_of_mem _ (ih h)
theorem look_of {t : List (Str × V)} {f : Str} {v : V} (nd : (t.map Prod.fst).Nodup) (h : (f, v) ∈ t) : look t f = some v := by
  induction t with
  | nil => cases h
  | cons p t ih =>
    obtain ⟨n1, n2⟩ := List.nodup_cons.mp nd
    rw [look_cons]
    rcases List.mem_cons.mp h with e | h
    · subst e
      exact if_pos rfl
    · rw [if_neg fun e => n1 (by rw [e]; exact List.mem_map.mpr ⟨_, h, rfl⟩)]
      exact ih n2 h
theorem look_app {t u : List (Str × V)} {f : Str} : look (t ++ u) f = (look t f).or (look u f) := by
  induction t with
  | nil => rfl
  | cons p t ih =>
    rw [List.cons_append, look_cons, look_cons, ih]
    by_cases e : p.1 = f
    · rw [if_pos e, if_pos e] <;> rfl
    · rw [if_neg e, if_neg e]
theorem look_perm {t u : List (Str × V)} (nd : (t.map Prod.fst).Nodup) (p : t.Perm u) (f : Str) : look t f = look u f := by
  cases e : look t f with
  | some v => exact (look_of ((p.map _).nodup_iff.mp nd) (p.mem_iff.mp (look_mem e))).symm
  | none =>
    cases e2 : look u f with
    | none => rfl
    | some v =>
      have := look_of nd (p.mem_iff.mpr (look_mem e2))
      rw [e] at this
      cases this
/-- a key's value, written anew -/
def putT (t : List (Str × V)) (f : Str) (z : V) : List (Str × V) := if f ∈ t.map Prod.fst then t.map fun p => if p.1 = f then (p.1, z) else p else t ++ [(f, z)]
theorem kvT_putT (t : List (Str × V)) (f : Str) (z : V) : putK (kvT t) (Sum.inr f) z = kvT (putT t f z) := by
  by_cases h : f ∈ t.map Prod.fst
  · unfold putK putT
    rw [kvT_any, decide_eq_true h, if_pos rfl, if_pos h]
    unfold kvT
    rw [List.map_map, List.map_map]
    refine List.map_congr_left fun p _ => ?_
    show (if (Sum.inr p.1 : Key) = Sum.inr f then ((Sum.inr p.1 : Key), z) else (Sum.inr p.1, p.2)) = (Sum.inr (if p.1 = f then (p.1, z) else p).1, (if p.1 = f then (p.1, z) else p).2)
    by_cases e : p.1 = f
    · rw [if_pos e, if_pos (by rw [e])]
    · rw [if_neg e, if_neg fun q => e (Sum.inr.inj q)]
  · rw [kvT_put h]
    unfold putT
    rw [if_neg h]
theorem putT_keys {t : List (Str × V)} {f : Str} {z : V} (h : f ∈ t.map Prod.fst) : (putT t f z).map Prod.fst = t.map Prod.fst := by
  unfold putT
  rw [if_pos h, List.map_map]
  refine List.map_congr_left fun p _ => ?_
  show (if p.1 = f then (p.1, z) else p).1 = p.1
  by_cases e : p.1 = f
  · rw [if_pos e]
  · rw [if_neg e]
theorem look_put (t : List (Str × V)) (f g : Str) (z : V) : look (putT t f z) g = if g = f then some z else look t g := by
  by_cases h : f ∈ t.map Prod.fst
  · unfold putT
    rw [if_pos h]
    have key : ∀ t : List (Str × V), look (t.map fun p => if p.1 = f then (p.1, z) else p) g = if g = f then (if f ∈ t.map Prod.fst then some z else none) else look t g := by
      intro t
      induction t with
      | nil =>
        show (none : Option V) = _
        by_cases e : g = f
        · rw [if_pos e]
          simp
        · rw [if_neg e] <;> rfl
      | cons p t ih =>
        rw [List.map_cons, look_cons, ih, look_cons]
        have e1 : (if p.1 = f then (p.1, z) else p).1 = p.1 := by
          by_cases e : p.1 = f
          · rw [if_pos e]
          · rw [if_neg e]
        rw [e1]
        by_cases e : g = f
        · subst e
          rw [if_pos rfl, if_pos rfl]
          by_cases q : p.1 = g
          · rw [if_pos q, if_pos q, if_pos (by rw [List.map_cons, ← q]; exact List.mem_cons_self ..)]
          · rw [if_neg q]
            by_cases m : g ∈ t.map Prod.fst
            · rw [if_pos m, if_pos (by rw [List.map_cons]; exact List.mem_cons_of_mem _ m)]
            · rw [if_neg m, if_neg (by rw [List.map_cons, List.mem_cons]; rintro (z | z); exact q z.symm; exact m z)]
        · rw [if_neg e, if_neg e]
          by_cases q : p.1 = g
          · rw [if_pos q, if_pos q, if_neg (by rw [q]; exact e)]
          · rw [if_neg q, if_neg q]
    rw [key]
    by_cases e : g = f
    · rw [if_pos e, if_pos e, if_pos h]
    · rw [if_neg e, if_neg e]
  · unfold putT
    rw [if_neg h, look_app]
    by_cases e : g = f
    · subst e
      rw [if_pos rfl, look_none h, look_cons, if_pos rfl] <;> rfl
    · rw [if_neg e, look_cons, if_neg (fun q => e q.symm)]
      cases look t g <;> rfl
end FT


/-! forests as pairs of a flag and its parent, in any order. -/
namespace FT
open PySem L2 TL
/-- a dict of texts by texts -/
def prs (t : List (Str × Str)) : List (Key × V) := kvT (t.map fun p => (p.1, V.str p.2))
theorem prs_len (t : List (Str × Str)) : (prs t).length = t.length := by unfold prs; rw [kvT_len, List.length_map]
theorem prs_fst (t : List (Str × Str)) : (t.map fun p => (p.1, V.str p.2)).map Prod.fst = t.map Prod.fst := by rw [List.map_map] <;> rfl
theorem prs_keys (t : List (Str × Str)) : (prs t).map (·.1) = (t.map Prod.fst).map Sum.inr := by unfold prs kvT; rw [List.map_map, List.map_map, List.map_map] <;> rfl
theorem keys_prs (t : List (Str × Str)) : ((prs t).map fun kv => kV kv.1) = (t.map Prod.fst).map V.str := by
  unfold prs kvT
  rw [List.map_map, List.map_map, List.map_map] <;> rfl
theorem put_new {t : List (Str × Str)} {f z : Str} (n : f ∉ t.map Prod.fst) : putK (prs t) (Sum.inr f) (V.str z) = prs (t ++ [(f, z)]) := by
  unfold prs
  rw [kvT_put (by rw [prs_fst]; exact n), List.map_append] <;> rfl
/-- the parent of a flag -/
def par (t : List (Str × Str)) (a : Str) : Option Str := (t.find? fun p => decide (p.1 = a)).map Prod.snd
theorem par_cons (p : Str × Str) (t : List (Str × Str)) (a : Str) : par (p :: t) a = if p.1 = a then some p.2 else par t a := by
  unfold par
  rw [List.find?_cons]
  by_cases e : p.1 = a
  · rw [if_pos e, decide_eq_true e] <;> rfl
  · rw [if_neg e, decide_eq_false e]
theorem val_prs (a : Str) : ∀ t : List (Str × Str), valV (prs t) (Sum.inr a) = (par t a).map V.str
  | [] => rfl
  | p :: t => by
    have ih := val_prs a t
    unfold prs at ih ⊢
    rw [List.map_cons, kvT_val, look_cons, par_cons]
    rw [kvT_val] at ih
    by_cases e : p.1 = a
    · rw [if_pos e, if_pos e] <;> rfl
    · rw [if_neg e, if_neg e, ih]
theorem par_mem {t : List (Str × Str)} {a z : Str} (h : par t a = some z) : (a, z) ∈ t := by
  induction t with
  | nil => cases h
  | cons p t ih =>
    rw [par_cons] at h
    by_cases e : p.1 = a
    · rw [if_pos e] at h
      cases h
      exact List.mem_cons.mpr (.inl (by rw [← e]))
    · rw [if_neg e] at h
      exact List.mem_cons_of_mem _ (ih h)
theorem par_of {t : List (Str × Str)} {a z : Str} (nd : (t.map Prod.fst).Nodup) (h : (a, z) ∈ t) : par t a = some z := by
  induction t with
  | nil => cases h
  | cons p t ih =>
    obtain ⟨n1, n2⟩ := List.nodup_cons.mp nd
    rw [par_cons]
    rcases List.mem_cons.mp h with e | h
    · subst e
      exact if_pos rfl
    · rw [if_neg fun e => n1 (by rw [e]; exact List.mem_map.mpr ⟨_, h, rfl⟩)]
      exact ih n2 h
theorem par_none {t : List (Str × Str)} {a : Str} (n : a ∉ t.map Prod.fst) : par t a = none := by
  cases e : par t a with
  | none => rfl
  | some z => exact absurd (List.mem_map.mpr ⟨_, par_mem e, rfl⟩) n
theorem par_some {t : List (Str × Str)} {a : Str} (nd : (t.map Prod.fst).Nodup) (h : a ∈ t.map Prod.fst) : ∃ z, par t a = some z := by
  obtain ⟨p, hp, rfl⟩ := List.mem_map.mp h
  exact ⟨p.2, par_of nd hp⟩
theorem par_perm {t u : List (Str × Str)} (nd : (t.map Prod.fst).Nodup) (p : t.Perm u) (a : Str) : par t a = par u a := by
  cases e : par t a with
  | some v => exact (par_of ((p.map _).nodup_iff.mp nd) (p.mem_iff.mp (par_mem e))).symm
  | none =>
    cases e2 : par u a with
    | none => rfl
    | some v =>
      have := par_of nd (p.mem_iff.mpr (par_mem e2))
      rw [e] at this
      cases this
/-- each parent has a lower rank -/
def Rk (t : List (Str × Str)) (rk : Str → Nat) : Prop := ∀ p ∈ t, rk p.1 < t.length ∧ (p.2 = "" ∨ (p.2 ∈ t.map Prod.fst ∧ rk p.2 < rk p.1))
/-- a forest of one to twelve flags -/
structure TreeOk (t : List (Str × Str)) : Prop where
  one : 1 ≤ t.length
  few : t.length ≤ 12
  nd : (t.map Prod.fst).Nodup
  nm : ∀ z ∈ t.map Prod.fst, NameL z
  up : ∃ rk : Str → Nat, Rk t rk
theorem TreeOk.perm {t u : List (Str × Str)} (p : t.Perm u) (o : TreeOk t) : TreeOk u := by
  obtain ⟨rk, hr⟩ := o.up
  have l := p.length_eq
  refine ⟨by have := o.one; omega, by have := o.few; omega, (p.map _).nodup_iff.mp o.nd, fun z h => o.nm z ((p.map _).mem_iff.mpr h), rk, fun q hq => ?_⟩
  obtain ⟨h1, h2⟩ := hr q (p.mem_iff.mpr hq)
  exact ⟨by omega, h2.imp id fun h => ⟨(p.map _).mem_iff.mp h.1, h.2⟩⟩
theorem TreeOk.root {t : List (Str × Str)} (o : TreeOk t) : ("" : Str) ∉ t.map Prod.fst := fun h => (o.nm _ h).ne rfl
/-- the step up -/
theorem TreeOk.step {t : List (Str × Str)} (o : TreeOk t) {rk : Str → Nat} (r : Rk t rk) {a : Str} (h : a ∈ t.map Prod.fst) : ∃ p : Str, par t a = some p ∧ (p = "" ∨ (p ∈ t.map Prod.fst ∧ rk p < rk a)) ∧ rk a < t.length := by
  obtain ⟨z, hz⟩ := par_some o.nd h
  obtain ⟨h1, h2⟩ := r _ (par_mem hz)
  exact ⟨z, hz, h2, h1⟩
/-! ### paths -/
/-- the flags from the top down to a place; n bounds the steps -/
def upN (t : List (Str × Str)) : Nat → Str → List Str
  | 0, _ => []
  | n + 1, a => if a = "" then [] else upN t n ((par t a).getD "") ++ [a]
def pathOf (t : List (Str × Str)) (a : Str) : List Str := upN t t.length a
/-- a place: the root or a flag -/
def Pl (t : List (Str × Str)) (a : Str) : Prop := a = "" ∨ a ∈ t.map Prod.fst
theorem upN_root (t : List (Str × Str)) (n : Nat) : upN t n "" = [] := by
  cases n with
  | zero => rfl
  | succ n => exact if_pos rfl
theorem upN_eq {t : List (Str × Str)} (o : TreeOk t) {rk : Str → Nat} (r : Rk t rk) : ∀ (n m : Nat) (a : Str), Pl t a → (a ≠ "" → rk a < n) → (a ≠ "" → rk a < m) → upN t n a = upN t m a := by
  intro n
  induction n with
  | zero =>
    intro m a hp h1 h2
    by_cases e : a = ""
    · subst e
      rw [upN_root, upN_root]
    · exact absurd (h1 e) (Nat.not_lt_zero _)
  | succ n ih =>
    intro m a hp h1 h2
    by_cases e : a = ""
    · subst e
      rw [upN_root, upN_root]
    · cases m with
      | zero => exact absurd (h2 e) (Nat.not_lt_zero _)
      | succ m =>
        obtain ⟨p, ep, hp2, _⟩ := o.step r (hp.resolve_left e)
        have q1 := h1 e
        have q2 := h2 e
        show (if a = "" then [] else upN t n ((par t a).getD "") ++ [a]) = if a = "" then [] else upN t m ((par t a).getD "") ++ [a]
        rw [if_neg e, if_neg e, ep]
        show upN t n p ++ [a] = upN t m p ++ [a]
        rw [ih m p (hp2.imp id And.left) (fun z => by have := (hp2.resolve_left z).2; omega) (fun z => by have := (hp2.resolve_left z).2; omega)]
theorem path_root (t : List (Str × Str)) : pathOf t "" = [] := upN_root _ _
theorem path_step {t : List (Str × Str)} (o : TreeOk t) {a p : Str} (h : a ∈ t.map Prod.fst) (e : par t a = some p) : pathOf t a = pathOf t p ++ [a] := by
  obtain ⟨rk, r⟩ := o.up
  have ne : a ≠ "" := fun z => o.root (by rw [← z]; exact h)
  obtain ⟨p', e', hp, la⟩ := o.step r h
  cases e.symm.trans e'
  have lt := o.one
  obtain ⟨n, hn⟩ : ∃ n, t.length = n + 1 := ⟨t.length - 1, by omega⟩
  unfold pathOf
  rw [hn]
  show (if a = "" then [] else upN t n ((par t a).getD "") ++ [a]) = _
  rw [if_neg ne, e]
  show upN t n p ++ [a] = _
  rw [upN_eq o r n (n + 1) p (hp.imp id And.left) (fun z => by have := (hp.resolve_left z).2; omega) (fun z => by have := (hp.resolve_left z).2; omega)]
theorem path_perm {t u : List (Str × Str)} (nd : (t.map Prod.fst).Nodup) (p : t.Perm u) (a : Str) : pathOf t a = pathOf u a := by
  unfold pathOf
  rw [p.length_eq]
  generalize u.length = n
  induction n generalizing a with
  | zero => rfl
  | succ n ih =>
    show (if a = "" then [] else upN t n ((par t a).getD "") ++ [a]) = if a = "" then [] else upN u n ((par u a).getD "") ++ [a]
    rw [ih, par_perm nd p]
theorem upN_len (t : List (Str × Str)) : ∀ (n : Nat) (a : Str), (upN t n a).length ≤ n
  | 0, _ => Nat.le_refl _
  | n + 1, a => by
    show (if a = "" then [] else upN t n ((par t a).getD "") ++ [a]).length ≤ n + 1
    by_cases e : a = ""
    · rw [if_pos e]
      exact Nat.zero_le _
    · rw [if_neg e, List.length_append]
      have := upN_len t n ((par t a).getD "")
      show _ + 1 ≤ n + 1
      omega
theorem path_len (t : List (Str × Str)) (a : Str) : (pathOf t a).length ≤ t.length := upN_len _ _ _
theorem upN_all {t : List (Str × Str)} (o : TreeOk t) : ∀ (n : Nat) (a : Str), Pl t a → ∀ z ∈ upN t n a, z ∈ t.map Prod.fst
  | 0, _, _, z, h => by cases h
  | n + 1, a, hp, z, h => by
    have h' : z ∈ (if a = "" then [] else upN t n ((par t a).getD "") ++ [a]) := h
    by_cases e : a = ""
    · rw [if_pos e] at h'
      cases h'
    · rw [if_neg e] at h'
      have ha := hp.resolve_left e
      obtain ⟨rk, r⟩ := o.up
      obtain ⟨p, ep, hp2, _⟩ := o.step r ha
      rw [ep] at h'
      rcases List.mem_append.mp h' with h' | h'
      · exact upN_all o n p (hp2.imp id And.left) z h'
      · rw [List.mem_singleton.mp h']
        exact ha
theorem path_all {t : List (Str × Str)} (o : TreeOk t) {a : Str} (h : Pl t a) : ∀ z ∈ pathOf t a, z ∈ t.map Prod.fst := upN_all o _ _ h
/-! ### sums over children -/
/-- the sum of sizes of the children of a place -/
def kids (t : List (Str × Str)) (p : Str) : List Str := (t.filter fun q => decide (q.2 = p)).map Prod.fst
def resid (t : List (Str × Str)) (n : Int) (sz : Str → Int) (p : Str) : Int := (if p = "" then n else sz p) - ((kids t p).map sz).sum
theorem kids_snoc (t : List (Str × Str)) (q : Str × Str) (p : Str) : kids (t ++ [q]) p = kids t p ++ (if q.2 = p then [q.1] else []) := by
  unfold kids
  rw [List.filter_append, List.map_append]
  by_cases e : q.2 = p
  · rw [if_pos e, List.filter_cons, decide_eq_true e, List.filter_nil] <;> rfl
  · rw [if_neg e, List.filter_cons, decide_eq_false e, List.filter_nil] <;> rfl
theorem kids_perm {t u : List (Str × Str)} (h : t.Perm u) (p : Str) : (kids t p).Perm (kids u p) := (h.filter _).map _
theorem sum_perm {l m : List Int} (h : l.Perm m) : l.sum = m.sum := by
  induction h with
  | nil => rfl
  | cons x _ ih => rw [List.sum_cons, List.sum_cons, ih]
  | swap x y l => rw [List.sum_cons, List.sum_cons, List.sum_cons, List.sum_cons]; omega
  | trans _ _ a b => rw [a, b]
theorem resid_perm {t u : List (Str × Str)} (h : t.Perm u) (n : Int) (sz : Str → Int) (p : Str) : resid t n sz p = resid u n sz p := by
  unfold resid
  rw [sum_perm ((kids_perm h p).map sz)]
theorem resid_snoc (t : List (Str × Str)) (q : Str × Str) (n : Int) (sz : Str → Int) (p : Str) : resid (t ++ [q]) n sz p = if q.2 = p then resid t n sz p - sz q.1 else resid t n sz p := by
  unfold resid
  rw [kids_snoc]
  by_cases e : q.2 = p
  · rw [if_pos e, if_pos e, List.map_append, List.sum_append]
    show _ - (_ + (sz q.1 + 0)) = _
    omega
  · rw [if_neg e, if_neg e, List.append_nil]
end FT


namespace FT
open PySem L2 TL ClX
def letters : Str := "abcdefghijklmnopqrstuvwxyz"
theorem in_letters {c : Nat} (h0 : 97 ≤ c) (h1 : c ≤ 122) : c ∈ letters.cps.toList := by
  have all : ∀ i : Fin 26, (97 + i.1) ∈ letters.cps.toList := by decide +kernel
  have q := all ⟨c - 97, by omega⟩
  rw [show 97 + (⟨c - 97, by omega⟩ : Fin 26).1 = c by show 97 + (c - 97) = c; omega] at q
  exact q
/-- the module's own constants -/
structure Cs (mg : Str → Option Value) : Prop where
  long : ∃ t, mg "LONGEST" = some (.int 8 t)
  lett : ∃ t, mg "LETTERS" = some (.str letters t)
/-- the class Forest: its two constants -/
structure Fc (K : PySem.W.Frag) (mg : Str → Option Value) (CF : Addr) (mc : Value) : Prop where
  gF : mg "Forest" = some (.ref CF)
  rd : CRead K CF mc
  most : ∃ u, CVal K CF mc "MOST" (.int 12) u
  root : ∃ u, CVal K CF mc "ROOT" (.str "") u
/-- one of the text's defs, called by place -/
structure Dn (P : Program) (w : World) (K : PySem.W.Frag) (mg : Str → Option Value) (base : Heap) (CX : CXT) (k : Nat) (x : Str) (ps : List Str) (sp : Sp) (f : Addr) (fd : FuncData) : Prop where
  ok : FnOk P w K mg base CX k f fd ps sp
  kp : PySem.W.keepIn K (.ref f) = true
  bn : Binds K fd ps []
  mgn : mg x = some (.ref f)
def spIsName : Sp := fun vs H Q _ => ∃ z : Str, vs = [.str z] ∧ NameL z ∧ ∀ H', Same H H' → Q (.bl true) H'
def spIsAnc : Sp := fun vs H Q _ => ∃ (q : Addr) (f : Str) (t : List (Str × Str)), vs = [.ref q, .str f] ∧ H q = some (.dK (prs t)) ∧ TreeOk t ∧ f ∈ t.map Prod.fst ∧ ∀ H', Same H H' → Q (.bl false) H'
def spNeed : Sp := fun vs H Q _ => ∃ (q : Addr) (t : List (Str × Str)), vs = [.ref q] ∧ H q = some (.dK (prs t)) ∧ TreeOk t ∧ ∀ H', Same H H' → Q .non H'
section
variable {P : Program} {w : World} {K : PySem.W.Frag} {mg : Str → Option Value} {base : Heap}
theorem scIsName : FnScope ["value", "letter"] ["value"] (defScope s_is_name) := ⟨rfl, rfl, rfl, by decide +kernel, rfl, by decide +kernel, by decide +kernel⟩
theorem ok_isName {f : Addr} {fd : FuncData} (F : Fun K "is_name" "is_name" s_is_name f fd) (T : Nm mg) (C : Cs mg) : FnOk P w K mg base CX0 1 f fd ["value"] spIsName := by
  obtain ⟨t1, g1⟩ := C.long
  obtain ⟨t2, g2⟩ := C.lett
  refine F.ok scIsName (fun vs H Q E h => ?_) (fun cdv A outer s H vs Q E hr h => ?_)
  · obtain ⟨z, rfl, _⟩ := h
    rfl
  · obtain ⟨z, rfl, nm, k⟩ := h
    refine ⟨_, pss_cons (ps_if (PW.pt (pw_or (pt_not (pt_val (pe_callB call_isi (by rfl) T.isi (by decide +kernel) (pa_cons (pv 0) (pa_cons (pe_bltn (v := .ty "str") (u := .type "str") (by rfl) T.str (by decide +kernel) rfl) pa_nil)))))
        (pw_or (pt_not (pt_chain op_le op_le pe_int (pe_callB call_len_str (by rfl) T.len PySem.boot_len (pa_cons (pv 0) pa_nil)) (pe_glob (v := .int 8) (by rfl) g1 ⟨_, rfl⟩))) (pw_or1 (pt_cmpR op_eq (pv 0) pe_str (nomark _))))))
        (pss_one (ps_ret pe_bl)) pss_nil)
      (pss_one (ps_ret (pe_callB (cr_all rfl) (by rfl) T.all (by decide +kernel) (pa_cons (pe_lc (own := [("letter", 1)]) (g := gName 1) (tt := tYes) (te := tOp (fun x y H Q => ∃ (c : Nat) (z : Str), x = .str ⟨#[c]⟩ ∧ y = .str z ∧ Q (.bl (decide (c ∈ z.cps.toList))) H) (tVar 1) (tC (.str letters))) rfl scIsName.nd (pi_str (pv 0))
        (blkOk_by (N := ["value", "letter"]) (sc := defScope s_is_name) (by decide +kernel))
        (fun _ _ _ _ _ => pg_name (i := 1) scIsName.nd rfl (Or.inl rfl)) (fun _ _ _ _ _ => pts_nil) (fun _ _ _ _ _ => pe_cmpR op_in_sign (pv 1) (pe_glob (v := .str letters) (by rfl) g2 ⟨_, rfl⟩) rfl)) pa_nil)))), ?_⟩
    have l := nm.len
    have big : 1000 ≤ sizeLine := by decide
    refine ⟨_, rfl, .str z, _, _, _, true, rfl, .ty _, .base (.str z), kit_ty (by decide +kernel), true, rfl, ?_⟩
    refine iteF ?_
    refine ⟨_, rfl, z, rfl, by omega, _, _, rfl, rfl, _, rfl, ?_⟩
    rw [if_pos (decide_eq_true (by omega))]
    refine ⟨_, _, rfl, rfl, _, rfl, ?_⟩
    rw [decide_eq_true (show (z.length : Int) ≤ 8 by omega)]
    refine iteF ?_
    refine ⟨_, rfl, rfl, _, rfl, ?_⟩
    rw [decide_eq_false (show ¬ V.str z = V.str "self" from fun e => nm.self (V.str.inj e))]
    refine iteF ?_
    refine ⟨_, rfl, z, rfl, fun D nD => lc_it walk_str (fun i H' => Same H H' ∧ H' D = some (.lst ((List.replicate i true).map V.bl))) ⟨same_new nD, upd_same⟩ (fun _ _ _ _ => trivial) ?_ ?_⟩
    · intro i x Ha Hb hi ⟨q1, q2⟩ ⟨e, ch, hc, ex⟩
      subst e
      subst ex
      have hm : ch ∈ letters.cps.toList := by
        have hz : ch ∈ tl z := by
          rw [← Array.getElem?_toList] at hc
          exact List.mem_of_getElem? hc
        exact in_letters (nm.1 ch hz).1 (nm.1 ch hz).2
      refine ⟨rfl, ?_⟩
      refine ⟨_, rfl, ch, letters, rfl, rfl, _, q2, ?_, ?_, ?_⟩
      · rw [List.length_map, List.length_replicate]
        have : z.cps.size = z.length := rfl
        omega
      · exact Same.put q1 nD
      · rw [upd_same, decide_eq_true hm, List.replicate_succ', List.map_append] <;> rfl
    · intro H' ⟨q1, q2⟩
      refine ⟨D, _, rfl, SqL.of q2, ?_⟩
      have e : (List.replicate z.cps.size true).all id = true := by simp
      rw [e]
      exact k H' q1
def rankS (t : List (Str × Str)) (rk : Str → Nat) (σ : St) : Nat := match σ[3]? with
  | some (some (V.str a)) => if a ∈ t.map Prod.fst then rk a + 1 else 0
  | _ => 0
theorem scIsAnc : FnScope ["parents", "name", "seen", "above"] ["parents", "name"] (defScope s_is_ancestor) := ⟨rfl, rfl, rfl, by decide +kernel, rfl, by decide +kernel, by decide +kernel⟩
theorem ok_isAnc {f : Addr} {fd : FuncData} (F : Fun K "is_ancestor" "is_ancestor" s_is_ancestor f fd) : FnOk P w K mg base CX0 1 f fd ["parents", "name"] spIsAnc := by
  refine F.ok scIsAnc (fun vs H Q E h => ?_) (fun cdv A outer s H vs Q E hr h => ?_)
  · obtain ⟨q, g, t, rfl, _⟩ := h
    rfl
  · obtain ⟨q, g, t, rfl, hq, o, hg, k⟩ := h
    have hu := hu_of hr
    obtain ⟨rk, r⟩ := o.up
    refine ⟨_, pss_cons (ps_set (i := 2) scIsAnc.nd rfl (.inl rfl) (pe_lst pa_nil))
      (pss_cons (ps_set (i := 3) scIsAnc.nd rfl (.inl rfl) (pe_dget hu (pv 0) (pv 1) (fun _ _ => rfl)))
      (pss_cons (ps_while PassesOwn.never (PW.pt (pw_and (pt_cmp (pc_din hu (pv 3) (pv 0))) (pw_and1 (pt_cmpR op_notIn_seq (pv 3) (pv 2) rfl))))
        (pss_cons (ps_if (pt_cmpR op_eq (pv 3) (pv 1) (nomark _)) (pss_one (ps_ret pe_bl)) pss_nil)
        (pss_cons (ps_expr (pe_bm PySem.F.plainAttrs_list PySem.F.slot_list_append PySem.F.type_list_append mt_append (pv 2) (pa_cons (pv 3) pa_nil)))
        (pss_one (ps_set (i := 3) scIsAnc.nd rfl (.inl rfl) (pe_dget hu (pv 0) (pv 3) (fun _ _ => rfl)))))))
      (pss_one (ps_ret pe_bl)))), ?_⟩
    obtain ⟨p0, v0, w0, i0⟩ := o.step r hg
    have few := o.few
    have big : 1000 ≤ sizeLine := by decide
    refine ⟨by show 0 ≤ sizeLine; omega, fun l nl => ?_⟩
    have hq1 : (upd H l (.lst [])) q = some (.dK (prs t)) := by rw [upd_ne (ne_of_none hq nl)]; exact hq
    have ql : q ≠ l := ne_of_none hq nl
    refine ⟨_, rfl, _, rfl, q, V.str p0, rfl, by have z := DGet.k (k := Sum.inr g) hq1; rw [val_prs, v0] at z; exact z, ?_⟩
    refine while_by (fun σ H' => ∃ (a : Str) (ws : List Str), σ = [some (.ref q), some (.str g), some (.ref l), some (.str a)] ∧ H' l = some (.lst (ws.map V.str)) ∧ (∀ b u, H b = some u → H' b = some u) ∧ (a = "" ∨ (a ∈ t.map Prod.fst ∧ rk a < rk g ∧ ws.length + rk a < t.length)))
      (fun σ _ => rankS t rk σ) ⟨p0, [], rfl, upd_same, same_new nl, w0.imp id fun z => ⟨z.1, z.2, by simp only [List.length_nil]; omega⟩⟩ ?_ ?_
    · rintro σ Hx ⟨a, ws, rfl, hl, sm, ha⟩
      have hqx := sm _ _ hq
      have dg := DGet.k (k := Sum.inr a) hqx
      rw [val_prs] at dg
      refine ⟨_, rfl, _, rfl, q, _, rfl, dg, _, rfl, ?_⟩
      rcases ha with rfl | ⟨ha, ia, la⟩
      · rw [par_none o.root]
        refine iteF ?_
        exact iteF (k Hx sm)
      · obtain ⟨p, hv, hp, il⟩ := o.step r ha
        rw [hv]
        show if true = true then _ else _
        rw [if_pos rfl]
        refine ⟨_, rfl, _, rfl, l, _, rfl, .inl (SqL.of hl), rfl, flat_strs ws, _, rfl, ?_⟩
        rw [inV_strs]
        by_cases hw : a ∈ ws
        · rw [decide_eq_true hw]
          exact iteF (k Hx sm)
        · rw [decide_eq_false hw]
          show if true = true then _ else _
          rw [if_pos rfl]
          refine ⟨_, rfl, _, rfl, rfl, _, rfl, ?_⟩
          rw [decide_eq_false (show ¬ V.str a = V.str g from fun e => by
            have := V.str.inj e
            subst this
            omega)]
          refine iteF ?_
          refine ⟨_, rfl, .inl ⟨rfl, _, SqL.of hl⟩, _, rfl, l, _, _, rfl, rfl, hl, by rw [List.length_map]; omega, ?_⟩
          have hq2 : (upd Hx l (.lst (ws.map V.str ++ [.str a]))) q = some (.dK (prs t)) := by rw [upd_ne ql]; exact hqx
          refine ⟨_, rfl, _, rfl, q, V.str p, rfl, by have z := DGet.k (k := Sum.inr a) hq2; rw [val_prs, hv] at z; exact z, ?_⟩
          refine ⟨⟨p, ws ++ [a], rfl, by rw [upd_same, List.map_append] <;> rfl, fun b u e => ?_, ?_⟩, ?_⟩
          · rw [upd_ne (ne_of_none e nl)]
            exact sm b u e
          · rcases hp with rfl | ⟨hp, ip⟩
            · exact .inl rfl
            · refine .inr ⟨hp, by omega, ?_⟩
              rw [List.length_append]
              show ws.length + 1 + rk p < t.length
              omega
          · show rankS t rk [some (.ref q), some (.str g), some (.ref l), some (.str p)] < rankS t rk [some (.ref q), some (.str g), some (.ref l), some (.str a)]
            have e1 : rankS t rk [some (.ref q), some (.str g), some (.ref l), some (.str a)] = rk a + 1 := if_pos ha
            rw [e1]
            rcases hp with rfl | ⟨hp, ip⟩
            · have e2 : rankS t rk [some (.ref q), some (.str g), some (.ref l), some (.str "")] = 0 := if_neg o.root
              rw [e2]
              omega
            · have e2 : rankS t rk [some (.ref q), some (.str g), some (.ref l), some (.str p)] = rk p + 1 := if_pos hp
              rw [e2]
              omega
    · intro σ Hx Qa Qb h
      rintro ⟨v, e1, w, e2, a, r, e3, g, d, e4, z⟩
      refine ⟨v, e1, w, e2, a, r, e3, g, d, e4, ?_⟩
      cases d with
      | false =>
        rw [if_neg (by decide)] at z ⊢
        exact h _ _ z
      | true =>
        rw [if_pos rfl] at z ⊢
        obtain ⟨v, e1, w, e2, p, xs, e3, e4, e5, e6, b, e7, z⟩ := z
        exact ⟨v, e1, w, e2, p, xs, e3, e4, e5, e6, b, e7, h _ _ z⟩
theorem scNeed : FnScope ["parents", "name", "above", "other"] ["parents"] (defScope s_need_parents) := ⟨rfl, rfl, rfl, by decide +kernel, rfl, by decide +kernel, by decide +kernel⟩
theorem ok_need {f fI fA CF : Addr} {mc : Value} {fd fdI fdA : FuncData} (F : Fun K "need_parents" "need_parents" s_need_parents f fd) (T : Nm mg) (C : Cs mg) (Z : Fc K mg CF mc)
    (FI : Dn P w K mg base CX0 1 "is_name" ["value"] spIsName fI fdI) (FA : Dn P w K mg base CX0 1 "is_ancestor" ["parents", "name"] spIsAnc fA fdA) : FnOk P w K mg base CX0 2 f fd ["parents"] spNeed := by
  obtain ⟨um, cm⟩ := Z.most
  obtain ⟨ur, cr⟩ := Z.root
  refine F.ok scNeed (fun vs H Q E h => ?_) (fun cdv A outer s H vs Q E hr h => ?_)
  · obtain ⟨q, t, rfl, _⟩ := h
    rfl
  · obtain ⟨q, t, rfl, hq, o, k⟩ := h
    have hu := hu_of hr
    obtain ⟨rk, r⟩ := o.up
    refine ⟨_, pss_cons (ps_if (PW.pt (pw_or (pt_not (pt_val (pe_callB call_isi (by rfl) T.isi (by decide +kernel) (pa_cons (pv 0) (pa_cons (pe_bltn (v := .ty "dict") (u := .type "dict") (by rfl) T.dct (by decide +kernel) rfl) pa_nil)))))
        (pw_or1 (pt_not (pt_chain op_le op_le pe_int (pe_callB call_lenD (by rfl) T.len PySem.boot_len (pa_cons (pv 0) pa_nil)) (pe_cval (pe_glob (v := .ref CF) (by rfl) Z.gF rfl))))))) pss_never pss_nil)
      (pss_cons (ps_if (pt_not (pt_val (pe_callB (cr_all rfl) (by rfl) T.all (by decide +kernel) (pa_cons (pe_lock (pe_lc (own := [("name", 1)]) (g := gName 1) (tt := tYes) rfl scNeed.nd (pi_keys (pv 0))
        (blkOk_by (N := ["parents", "name", "above", "other"]) (sc := defScope s_need_parents) (by decide +kernel))
        (fun _ _ _ _ _ => pg_name (i := 1) scNeed.nd rfl (Or.inl rfl)) (fun _ _ _ _ _ => pts_nil) (fun _ _ _ _ _ => pe_call FI.ok hr rfl FI.mgn FI.kp FI.bn .nil pass0 (pa_cons (pv 1) pa_nil)))) pa_nil)))) pss_never pss_nil)
      (pss_one (ps_for PassesOwn.never rfl (pi_list (pe_callB (call_sortedD rfl) (by rfl) T.srt (by decide +kernel) (pa_cons (pv 0) pa_nil))) (pg_name (i := 1) scNeed.nd rfl (.inl rfl))
        (pss_cons (ps_set (i := 2) scNeed.nd rfl (.inl rfl) (pe_dget hu (pv 0) (pv 1) (fun _ _ => rfl)))
        (pss_cons (ps_if (PW.pt (pw_or (pt_not (pt_val (pe_callB call_isi (by rfl) T.isi (by decide +kernel) (pa_cons (pv 2) (pa_cons (pe_bltn (v := .ty "str") (u := .type "str") (by rfl) T.str (by decide +kernel) rfl) pa_nil)))))
          (pw_or1 (PW.pt (pw_and (pt_cmpR op_ne (pv 2) (pe_cval (pe_glob (v := .ref CF) (by rfl) Z.gF rfl)) (nomark _)) (pw_and1 (pt_cmp (pc_dnotin hu (pv 2) (pv 0))))))))) pss_never pss_nil)
        (pss_one (ps_if (pt_val (pe_call FA.ok hr rfl FA.mgn FA.kp FA.bn .nil pass0 (pa_cons (pe_lock (pe_dc (own := [("other", 3)]) (g := gName 3) (tt := tB (tCB (rIsi K) (tCons (tDGet (tVar 0) (tVar 3)) (tCons (tC (.ty "str")) tNil)))) rfl scNeed.nd (pi_keys (pv 0))
          (blkOk_by (N := ["parents", "name", "above", "other"]) (sc := defScope s_need_parents) (by decide +kernel))
          (fun _ _ _ _ _ => pg_name (i := 3) scNeed.nd rfl (Or.inl rfl)) (fun _ _ _ _ _ => pts_one (pt_val (pe_callB call_isi (by rfl) T.isi (by decide +kernel) (pa_cons (pe_dget hu (pv 0) (pv 3) (fun _ _ => rfl)) (pa_cons (pe_bltn (v := .ty "str") (u := .type "str") (by rfl) T.str (by decide +kernel) rfl) pa_nil)))))
          (fun _ _ _ _ _ => pv 3) (fun _ _ _ _ _ => pe_dget hu (pv 0) (pv 3) (fun _ _ => rfl)))) (pa_cons (pv 1) pa_nil)))) pss_never pss_nil))))))), ?_⟩
    have few := o.few
    have one := o.one
    have big : 1000 ≤ sizeLine := by decide
    have lp := prs_len t
    -- a dict, of one to twelve
    refine ⟨_, rfl, .ref q, _, _, _, true, rfl, .ty _, .base (.dK hq), kit_ty (by decide +kernel), true, rfl, ?_⟩
    refine iteF ?_
    refine ⟨_, rfl, q, _, rfl, hq, _, _, rfl, rfl, _, rfl, ?_⟩
    rw [if_pos (decide_eq_true (by omega))]
    refine ⟨CF, mc, _, um, rfl, Z.rd, cm, _, _, rfl, rfl, _, rfl, ?_⟩
    rw [decide_eq_true (show ((prs t).length : Int) ≤ 12 by omega)]
    refine iteF ?_
    -- all are names
    refine ⟨q, .dK (prs t), hq, trivial, fun od => ⟨_, rfl, q, od, rfl, .inl ⟨prs t, upd_same, fun D nD => ?_⟩⟩⟩
    have Dq : D ≠ q := (ne_of_none upd_same nD).symm
    have key : ∀ {i : Nat} {k : Key} {v : V}, (prs t)[i]? = some (k, v) → ∃ a p : Str, k = Sum.inr a ∧ v = .str p ∧ t[i]? = some (a, p) := fun {i k v} h => by
      unfold prs kvT at h
      rw [List.map_map, List.getElem?_map] at h
      obtain ⟨⟨a, p⟩, hp, e⟩ := Option.map_eq_some_iff.mp h
      cases e
      exact ⟨a, p, rfl, rfl, hp⟩
    refine lc_it walk_keys (fun i H' => Same (upd H q (.frz od (.dK (prs t)))) H' ∧ H' D = some (.lst ((List.replicate i true).map V.bl))) ⟨same_new nD, upd_same⟩ (fun i H' _ z => z.1 q _ upd_same) ?_ ?_
    · intro i x Ha Hb hi ⟨q1, q2⟩ ⟨e, k', v, hk, ex⟩
      subst e
      subst ex
      obtain ⟨a, p, rfl, rfl, hp⟩ := key hk
      refine ⟨rfl, ?_⟩
      refine ⟨_, rfl, a, rfl, o.nm a (List.mem_map.mpr ⟨(a, p), List.mem_of_getElem? hp, rfl⟩), fun H' s' => ⟨_, s' D _ q2, ?_, ?_, ?_⟩⟩
      · rw [List.length_map, List.length_replicate]
        omega
      · intro b u e
        rw [upd_ne (ne_of_none e nD)]
        exact s' _ _ (q1 b u e)
      · rw [upd_same, List.replicate_succ', List.map_append] <;> rfl
    intro H1 ⟨q1, q2⟩
    refine ⟨q1 q _ upd_same, D, _, rfl, SqL.of (by rw [upd_ne Dq]; exact q2), true, by rw [show (List.replicate (prs t).length true).all id = true by simp], ?_⟩
    refine iteF ?_
    have s1 : Same H (upd H1 q (.dK (prs t))) := unlock_same hq q1
    -- one by one, in their order
    refine ⟨_, rfl, q, prs t, t.map Prod.fst, rfl, .inl upd_same, prs_keys t, by rw [List.length_map]; omega, fun ys p perm srt np => ⟨p, rfl, ⟨_, SqL.of upd_same⟩, ?_⟩⟩
    obtain ⟨H2, e2⟩ : ∃ X, X = upd (upd H1 q (.dK (prs t))) p (.lst (ys.map V.str)) := ⟨_, rfl⟩
    have s2 : Same H H2 := s1.trans (e2 ▸ same_new np)
    have at2 : H2 p = some (.lst (ys.map V.str)) := by rw [e2]; exact upd_same
    rw [← e2]
    refine for_it walk_list (fun j σ' H' => (∃ u1 u2 u3, σ' = [some (.ref q), u1, u2, u3]) ∧ Same H2 H') ⟨⟨_, _, _, rfl⟩, fun _ _ e => e⟩ (fun j σ' H' _ z => SqL.of (z.2 _ _ at2)) ?_ ?_
    · intro j x σ' Ha Hb hj ⟨⟨u1, u2, u3, e⟩, sa⟩ ⟨eb, ex⟩
      subst e
      subst eb
      rw [List.getElem?_map] at ex
      obtain ⟨a, ha, rfl⟩ := Option.map_eq_some_iff.mp ex
      have ma : a ∈ t.map Prod.fst := perm.mem_iff.mp (List.mem_of_getElem? ha)
      obtain ⟨pa, hv, hpa, ia⟩ := o.step r ma
      have s0a : Same H Hb := s2.trans sa
      have hqa := s0a _ _ hq
      refine ⟨_, rfl, _, rfl, q, V.str pa, rfl, by have z := DGet.k (k := Sum.inr a) hqa; rw [val_prs, hv] at z; exact z, ?_⟩
      refine ⟨_, rfl, .str pa, _, _, _, true, rfl, .ty _, .base (.str pa), kit_ty (by decide +kernel), true, rfl, ?_⟩
      refine iteF ?_
      have anc : tIfS (tB (tCall spIsAnc [] E0 (tCons (tLockE (tDc (iKeys (tVar 0)) (gName 3) (tB (tCB (rIsi K) (tCons (tDGet (tVar 0) (tVar 3)) (tCons (tC (.ty "str")) tNil)))) (tVar 3) (tDGet (tVar 0) (tVar 3)) [3])) (tCons (tVar 1) tNil)))) tNever tNext
          ⟨fun σ' H' => (∃ u1 u2 u3, σ' = [some (.ref q), u1, u2, u3]) ∧ Same H2 H', fun v H' => Q v H', fun σ' H' => Q .non H', fun σ' H' => (∃ u1 u2 u3, σ' = [some (.ref q), u1, u2, u3]) ∧ Same H2 H'⟩ [some (.ref q), some (.str a), some (.str pa), u3] Hb := by
        refine ⟨q, .dK (prs t), hqa, trivial, fun od => ⟨_, rfl, q, od, rfl, .inl ⟨prs t, upd_same, fun D nD => ?_⟩⟩⟩
        have Dq : D ≠ q := (ne_of_none upd_same nD).symm
        refine dc_it walk_keys (fun i H' => Same (upd Hb q (.frz od (.dK (prs t)))) H' ∧ H' D = some (.dK (prs (t.take i)))) ⟨same_new nD, upd_same⟩ (fun i H' _ z => z.1 q _ upd_same) ?_ ?_
        · intro i x Hc Hd hi ⟨q1, q2⟩ ⟨e, k', v, hk, ex⟩
          subst e
          subst ex
          obtain ⟨b, r', rfl, rfl, hp⟩ := key hk
          have fz := q1 q _ upd_same
          have dg : DGet Hd q (.str b) (some (.str r')) := .inl ⟨prs t, Sum.inr b, .inr ⟨od, fz⟩, rfl, by rw [val_prs, par_of o.nd (List.mem_of_getElem? hp)] <;> rfl⟩
          have nb : b ∉ (t.take i).map Prod.fst := fun hm => by
            rw [List.map_take] at hm
            obtain ⟨j, hj⟩ := List.mem_iff_getElem?.mp hm
            have jl := (List.getElem?_eq_some_iff.mp hj).1
            rw [List.length_take] at jl
            rw [List.getElem?_take, if_pos (by omega)] at hj
            have e0 : (t.map Prod.fst)[i]? = some b := by rw [List.getElem?_map, hp] <;> rfl
            have := (List.getElem?_inj (by omega) o.nd).mp (hj.trans e0.symm)
            omega
          refine ⟨rfl, ?_⟩
          refine ⟨_, rfl, _, rfl, q, _, rfl, dg, .str r', _, _, _, true, rfl, .ty _, .base (.str r'), kit_ty (by decide +kernel), true, rfl, ?_⟩
          show if true = true then _ else _
          rw [if_pos rfl]
          refine ⟨_, rfl, _, rfl, _, rfl, q, _, rfl, dg, prs (t.take i), Sum.inr b, rfl, q2, ?_, ?_, ?_⟩
          · rw [prs_len, List.length_take]
            omega
          · intro c u e
            rw [upd_ne (ne_of_none e nD)]
            exact q1 c u e
          · rw [upd_same, put_new nb, take_more hp]
        · intro Hc ⟨q1, q2⟩
          rw [lp, List.take_length] at q2
          refine ⟨q1 q _ upd_same, _, rfl, D, a, t, rfl, by rw [upd_ne Dq]; exact q2, o, ma, fun H' s' => ⟨false, rfl, iteF ⟨⟨_, _, _, rfl⟩, (sa.trans (unlock_same hqa q1)).trans s'⟩⟩⟩
      rcases hpa with rfl | ⟨hp, _⟩
      · refine ⟨_, rfl, CF, mc, _, ur, rfl, Z.rd, cr, rfl, _, rfl, ?_⟩
        rw [decide_eq_true rfl]
        refine iteF ?_
        exact iteF anc
      · obtain ⟨pp, hv2, _⟩ := o.step r hp
        refine ⟨_, rfl, CF, mc, _, ur, rfl, Z.rd, cr, rfl, _, rfl, ?_⟩
        have ne : ¬ V.str pa = V.str "" := fun e => o.root (by rw [← V.str.inj e]; exact hp)
        rw [decide_eq_false ne]
        show if true = true then _ else _
        rw [if_pos rfl]
        refine ⟨_, rfl, _, rfl, q, V.str pp, rfl, by have z := DGet.k (k := Sum.inr pa) hqa; rw [val_prs, hv2] at z; exact z, _, rfl, ?_⟩
        exact iteF anc
    · intro σ' H' ⟨_, sa⟩
      exact k H' (s2.trans sa)
/-! ### Forest -/
/-- a forest at x, its pairs ts -/
def FAt (CF : Addr) (H : Hp) (x : Addr) (ts : List (Str × Str)) : Prop := ∃ dx dq, H x = some (.ins CF dx [("above", .ref dq)]) ∧ H dq = some (.dK (prs ts))
theorem FAt.mono {CF x : Addr} {H H' : Hp} {ts : List (Str × Str)} (s : Same H H') (h : FAt CF H x ts) : FAt CF H' x ts := let ⟨dx, dq, e1, e2⟩ := h; ⟨dx, dq, s _ _ e1, s _ _ e2⟩
/-- in ascending order -/
def Asc (ts : List (Str × Str)) : Prop := PyProof.Rows.sortedS (ts.map Prod.fst) = true
/-- facts of a class of the text -/
structure FoC (K : PySem.W.Frag) (CF : Addr) : Prop where
  cl : Cls K CF
  nA : NoAttr K CF "above"
def spFInit (CF : Addr) : Sp := fun vs H Q _ => ∃ (x q dx : Addr) (t : List (Str × Str)), vs = [.ref x, .ref q] ∧ H x = some (.ins CF dx []) ∧ H q = some (.dK (prs t)) ∧ TreeOk t ∧
  ∀ (H' : Hp) (ts : List (Str × Str)), ts.Perm t → Asc ts → FAt CF H' x ts → (∀ b o, b ≠ x → H b = some o → H' b = some o) → Q .non H'
def spFFlags (CF : Addr) : Sp := fun vs H Q _ => ∃ (x : Addr) (ts : List (Str × Str)), vs = [.ref x] ∧ FAt CF H x ts ∧ ∀ p, H p = none → Q (.ref p) (upd H p (.lst ((ts.map Prod.fst).map V.str)))
def spFParents (CF : Addr) : Sp := fun vs H Q _ => ∃ (x : Addr) (ts : List (Str × Str)), vs = [.ref x] ∧ FAt CF H x ts ∧ ∀ p, H p = none → Q (.ref p) (upd H p (.dK (prs ts)))
theorem scFInit : FnScope ["self", "parents", "name"] ["self", "parents"] (defScope s_Forest___init__) := ⟨rfl, rfl, rfl, by decide +kernel, rfl, by decide +kernel, by decide +kernel⟩
theorem perm_pairs : ∀ {ts t : List (Str × Str)}, (t.map Prod.fst).Nodup → (ts.map Prod.fst).Perm (t.map Prod.fst) → (∀ p ∈ ts, p ∈ t) → ts.Perm t
  | [], t, _, pf, _ => by
    have := pf.length_eq
    rw [List.length_map, List.length_map] at this
    rw [List.length_eq_zero_iff.mp (this.symm : t.length = 0)]
  | p :: ts, t, nd, pf, h => by
    have mp := h p (List.mem_cons_self ..)
    have pe := List.perm_cons_erase mp
    have pk : (ts.map Prod.fst).Perm ((t.erase p).map Prod.fst) := (pf.trans (pe.map Prod.fst)).cons_inv
    have nk := (pe.map Prod.fst).nodup_iff.mp nd
    obtain ⟨n1, n2⟩ := List.nodup_cons.mp (show (p.1 :: (t.erase p).map Prod.fst).Nodup from nk)
    refine ((perm_pairs n2 pk fun q hq => ?_).cons p).trans pe.symm
    rcases List.mem_cons.mp (pe.mem_iff.mp (h q (List.mem_cons_of_mem _ hq))) with e | m
    · exfalso
      refine n1 (pk.mem_iff.mp (List.mem_map.mpr ⟨q, hq, ?_⟩))
      rw [e]
    · exact m
theorem ok_finit {f fN CF : Addr} {fd fdN : FuncData} (F : Fun K "__init__" "Forest.__init__" s_Forest___init__ f fd) (T : Nm mg) (O : FoC K CF) (GN : Dn P w K mg base CX0 2 "need_parents" ["parents"] spNeed fN fdN) :
    FnOk P w K mg base CX0 3 f fd ["self", "parents"] (spFInit CF) := by
  refine F.ok scFInit (fun vs H Q E h => ?_) (fun cdv A outer s H vs Q E hr h => ?_)
  · obtain ⟨x, q, dx, t, rfl, _⟩ := h
    rfl
  · obtain ⟨x, q, dx, t, rfl, hx, hq, o, k⟩ := h
    have hu := hu_of hr
    refine ⟨_, pss_cons (ps_expr (pe_call GN.ok hr rfl GN.mgn GN.kp GN.bn .nil pass0 (pa_cons (pv 1) pa_nil)))
      (pss_one (ps_fld (pv 0) (pe_dc (own := [("name", 2)]) (g := gName 2) (tt := tYes) rfl scFInit.nd (pi_list (pe_callB (call_sortedD rfl) (by rfl) T.srt (by decide +kernel) (pa_cons (pv 1) pa_nil)))
        (blkOk_by (N := ["self", "parents", "name"]) (sc := defScope s_Forest___init__) (by decide +kernel))
        (fun _ _ _ _ _ => pg_name (i := 2) scFInit.nd rfl (Or.inl rfl)) (fun _ _ _ _ _ => pts_nil) (fun _ _ _ _ _ => pv 2) (fun _ _ _ _ _ => pe_dget hu (pv 1) (pv 2) (fun _ _ => rfl))) rfl)), ?_⟩
    have few := o.few
    have big : 1000 ≤ sizeLine := by decide
    refine ⟨_, rfl, q, t, rfl, hq, o, fun H1 s1 => ?_⟩
    have hq1 := s1 _ _ hq
    refine ⟨_, rfl, q, prs t, t.map Prod.fst, rfl, .inl hq1, prs_keys t, by rw [List.length_map]; omega, fun ys p perm srt np => ⟨p, rfl, ⟨_, SqL.of upd_same⟩, fun D nD => ?_⟩⟩
    obtain ⟨H2, e2⟩ : ∃ X, X = upd H1 p (.lst (ys.map V.str)) := ⟨_, rfl⟩
    have s2 : Same H H2 := s1.trans (e2 ▸ same_new np)
    have at2 : H2 p = some (.lst (ys.map V.str)) := by rw [e2]; exact upd_same
    rw [← e2] at nD ⊢
    have ndy : ys.Nodup := perm.nodup_iff.mpr o.nd
    have ly := perm.length_eq
    rw [List.length_map] at ly
    refine dc_it walk_list (fun i H' => Same H2 H' ∧ ∃ ts : List (Str × Str), H' D = some (.dK (prs ts)) ∧ ts.map Prod.fst = ys.take i ∧ ∀ p ∈ ts, p ∈ t) ⟨same_new nD, [], upd_same, by rw [List.take_zero] <;> rfl, fun p h => by cases h⟩ (fun i H' _ z => SqL.of (z.1 _ _ at2)) ?_ ?_
    · intro i y Ha Hb hi ⟨q1, ts, hD, ets, hts⟩ ⟨eb, ex⟩
      subst eb
      rw [List.getElem?_map] at ex
      obtain ⟨a, ha, rfl⟩ := Option.map_eq_some_iff.mp ex
      have ma : a ∈ t.map Prod.fst := perm.mem_iff.mp (List.mem_of_getElem? ha)
      obtain ⟨pa, hv⟩ := par_some o.nd ma
      have hqa := q1 _ _ (s2 _ _ hq)
      have fresh : a ∉ ts.map Prod.fst := by
        rw [ets]
        intro hm
        obtain ⟨j, hj⟩ := List.mem_iff_getElem?.mp hm
        have jl := (List.getElem?_eq_some_iff.mp hj).1
        have il := (List.getElem?_eq_some_iff.mp ha).1
        rw [List.length_take] at jl
        rw [List.getElem?_take, if_pos (by omega)] at hj
        have := (List.getElem?_inj (by omega) ndy).mp (hj.trans ha.symm)
        omega
      have lt := congrArg List.length ets
      rw [List.length_map, List.length_take] at lt
      refine ⟨rfl, ?_⟩
      refine ⟨_, rfl, _, rfl, _, rfl, q, V.str pa, rfl, by have z := DGet.k (k := Sum.inr a) hqa; rw [val_prs, hv] at z; exact z, prs ts, Sum.inr a, rfl, hD, by rw [prs_len]; omega, ?_, ts ++ [(a, pa)], ?_, ?_, fun z hz => ?_⟩
      · intro b u e
        rw [upd_ne (ne_of_none e nD)]
        exact q1 b u e
      · rw [upd_same, put_new fresh]
      · rw [List.map_append, ets, take_more ha] <;> rfl
      · rcases List.mem_append.mp hz with h | h
        · exact hts z h
        · rw [List.mem_singleton.mp h]
          exact par_mem hv
    · intro H3 ⟨q1, ts, hD, ets, hts⟩
      rw [List.length_map, List.take_length] at ets
      have s3 : Same H H3 := s2.trans q1
      refine ⟨_, rfl, x, CF, dx, [], rfl, s3 _ _ hx, O.cl, O.nA, by show 0 < 1000; decide, ?_⟩
      have xD : D ≠ x := (ne_of_none (s2 _ _ hx) nD).symm
      refine k _ ts (perm_pairs o.nd (by rw [ets]; exact perm) hts) (by unfold Asc; rw [ets]; exact srt) ⟨dx, D, upd_same, by rw [upd_ne xD]; exact hD⟩ fun b u bx e => ?_
      rw [upd_ne bx]
      exact s3 b u e
theorem scFFlags : FnScope ["self"] ["self"] (defScope s_Forest_flags) := ⟨rfl, rfl, rfl, by decide +kernel, rfl, by decide +kernel, by decide +kernel⟩
theorem ok_fflags {f CF : Addr} {fd : FuncData} (F : Fun K "flags" "Forest.flags" s_Forest_flags f fd) (T : Nm mg) (O : FoC K CF) : FnOk P w K mg base CX0 1 f fd ["self"] (spFFlags CF) := by
  refine F.ok scFFlags (fun vs H Q E h => ?_) (fun cdv A outer s H vs Q E hr h => ?_)
  · obtain ⟨x, ts, rfl, _⟩ := h
    rfl
  · obtain ⟨x, ts, rfl, ⟨dx, dq, hx, hd⟩, k⟩ := h
    refine ⟨_, pss_one (ps_ret (pe_callTy (call_listD rfl) (by rfl) T.lst (by decide +kernel) (pa_cons (pe_fld (pv 0) rfl) pa_nil))), ?_⟩
    refine ⟨_, rfl, x, CF, dx, _, .ref dq, rfl, hx, O.cl, O.nA, rfl, dq, prs ts, rfl, .inl hd, fun p np => ?_⟩
    rw [keys_prs]
    exact k p np
theorem scFParents : FnScope ["self"] ["self"] (defScope s_Forest_parents) := ⟨rfl, rfl, rfl, by decide +kernel, rfl, by decide +kernel, by decide +kernel⟩
theorem ok_fparents {f CF : Addr} {fd : FuncData} (F : Fun K "parents" "Forest.parents" s_Forest_parents f fd) (T : Nm mg) (O : FoC K CF) : FnOk P w K mg base CX0 1 f fd ["self"] (spFParents CF) := by
  refine F.ok scFParents (fun vs H Q E h => ?_) (fun cdv A outer s H vs Q E hr h => ?_)
  · obtain ⟨x, ts, rfl, _⟩ := h
    rfl
  · obtain ⟨x, ts, rfl, ⟨dx, dq, hx, hd⟩, k⟩ := h
    refine ⟨_, pss_one (ps_ret (pe_callTy call_dictD (by rfl) T.dct (by decide +kernel) (pa_cons (pe_fld (pv 0) rfl) pa_nil))), ?_⟩
    exact ⟨_, rfl, x, CF, dx, _, .ref dq, rfl, hx, O.cl, O.nA, rfl, dq, prs ts, rfl, .inl hd, fun p np => k p np⟩
/-- a property of a class -/
structure Pr1 (P : Program) (w : World) (K : PySem.W.Frag) (mg : Str → Option Value) (base : Heap) (CF : Addr) (x : Str) (sp : Sp) (p g : Addr) (fd : FuncData) : Prop where
  pr : PropOf K CF x p g
  fn : FnOk P w K mg base CX0 1 g fd ["self"] sp
  bn : Binds K fd ["self"] []
def spPlacesOf (CF : Addr) : Sp := fun vs H Q _ => ∃ (x : Addr) (ts : List (Str × Str)), vs = [.ref x] ∧ FAt CF H x ts ∧ ts.length ≤ 12 ∧ ∀ p H', Same H H' → H p = none → H' p = some (.lst ((("" : Str) :: ts.map Prod.fst).map V.str)) → Q (.ref p) H'
theorem scPlacesOf : FnScope ["forest"] ["forest"] (defScope s_places_of) := ⟨rfl, rfl, rfl, by decide +kernel, rfl, by decide +kernel, by decide +kernel⟩
theorem ok_placesOf {f CF p1 g1 : Addr} {mc : Value} {fd fd1 : FuncData} (F : Fun K "places_of" "places_of" s_places_of f fd) (T : Nm mg) (O : FoC K CF) (Z : Fc K mg CF mc) (L : Pr1 P w K mg base CF "flags" (spFFlags CF) p1 g1 fd1) :
    FnOk P w K mg base CX0 3 f fd ["forest"] (spPlacesOf CF) := by
  obtain ⟨ur, cr⟩ := Z.root
  refine F.ok scPlacesOf (fun vs H Q E h => ?_) (fun cdv A outer s H vs Q E hr h => ?_)
  · obtain ⟨x, ts, rfl, _⟩ := h
    rfl
  · obtain ⟨x, ts, rfl, fa, few, k⟩ := h
    obtain ⟨dx, dq, hx, hd⟩ := id fa
    have big : 1000 ≤ sizeLine := by decide
    refine ⟨_, pss_one (ps_ret (pe_op op_cat (pe_lst (pa_cons (pe_cval (pe_glob (v := .ref CF) (by rfl) Z.gF rfl)) pa_nil)) (pe_prop (pv 0) O.cl L.pr L.fn hr L.bn .nil pass0 (by rfl)))), ?_⟩
    refine ⟨CF, mc, _, ur, rfl, Z.rd, cr, by show 1 ≤ sizeLine; omega, fun p1 n1 => ?_⟩
    have s1 : Same H (upd H p1 (.lst [.str ""])) := same_new n1
    refine ⟨_, rfl, x, dx, _, rfl, s1 _ _ hx, x, ts, rfl, fa.mono s1, fun p2 n2 => ⟨p1, p2, [.str ""], (ts.map Prod.fst).map V.str, rfl, rfl, by rw [upd_ne (ne_of_none upd_same n2), upd_same], upd_same, ?_, fun p3 n3 => ?_⟩⟩
    · rw [List.length_map, List.length_map]
      show 1 + _ ≤ sizeLine
      omega
    · have s3 : Same H (upd (upd (upd H p1 (.lst [.str ""])) p2 (.lst ((ts.map Prod.fst).map V.str))) p3 (.lst ([.str ""] ++ (ts.map Prod.fst).map V.str))) := (s1.trans (same_new n2)).trans (same_new n3)
      exact k p3 _ s3 (Same.free (s1.trans (same_new n2)) n3) upd_same
end
end FT


/-! the package's errors: their __init__, how they are raised. -/
namespace FT
open PySem L2 TL ClX
/-- what the top has written of an error class at C, its __init__ at I; f its attribute, or the empty text -/
structure Er (K : PySem.W.Frag) (mg : Str → Option Value) (nm f : Str) (C I : Addr) : Prop where
  g : mg nm = some (.ref C)
  x : XCls K C
  ini : PySem.W.findIn K (.ref C) "__init__" = some (some (.ref I))
  ity : PySem.W.typeIn K (.ref I) = some (.type "function")
  no : PySem.W.findIn K (.ref C) f = some none
theorem Er.xf {K : PySem.W.Frag} {mg : Str → Option Value} {nm f : Str} {C I : Addr} (e : Er K mg nm f C I) : XfC K C := ⟨e.x.ga, e.x.gg, e.x.exC, e.x.hdC⟩
/-- the base class -/
structure Rt (K : PySem.W.Frag) (mg : Str → Option Value) (R : Addr) : Prop where
  g : mg "RolloutError" = some (.ref R)
  ini : XIni K R
def spInit1 (C : Addr) (f : Str) : Sp := fun vs H Q _ => ∃ (a : Addr) (v : V), vs = [.ref a, v] ∧ H a = some (exo a C none) ∧ ∀ d, H d = none → d ≠ a → Q .non (upd (upd H d (exd d [(f, v)])) a (exo a C (some d)))
def spInit0 (C : Addr) : Sp := fun vs H Q _ => ∃ (a : Addr), vs = [.ref a] ∧ H a = some (exo a C none) ∧ Q .non H
/-- C(v): what is asked -/
theorem raise1 {C : Addr} {f : Str} {H1 : Hp} {Q : XK} {v : V} (k : ∀ d, H1 d = none → Q (.ref C) (some d) (upd H1 d (.xd [(f, v)]))) :
    [v].length ≤ 1000 ∧ ∀ a, H1 a = none → spInit1 C f (.ref a :: ([v] ++ [])) (upd H1 a (exo a C none))
      (fun w H2 => w = .non ∧ ∃ (d : Addr) (fs : List (Str × V)), H2 a = some (exo a C (some d)) ∧ H2 d = some (exd d fs) ∧ H1 d = none ∧ Q (.ref C) (some d) (upd (del H2 a) d (.xd fs))) (fun _ _ _ => False) := by
  refine ⟨by show 1 ≤ 1000; omega, fun a na => ⟨a, v, rfl, upd_same, fun d nd nda => ⟨rfl, d, [(f, v)], upd_same, by rw [upd_ne nda, upd_same], ?_, ?_⟩⟩⟩
  · rw [upd_ne nda] at nd
    exact nd
  · rw [upd_ne nda] at nd
    have e : upd (del (upd (upd (upd H1 a (exo a C none)) d (exd d [(f, v)])) a (exo a C (some d))) a) d (.xd [(f, v)]) = upd H1 d (.xd [(f, v)]) := by
      funext b
      by_cases h1 : b = d
      · subst h1
        rw [upd_same, upd_same]
      · rw [upd_ne h1, upd_ne h1]
        by_cases h2 : b = a
        · subst h2
          rw [del_same, na]
        · rw [del_ne h2, upd_ne h2, upd_ne h1, upd_ne h2]
    rw [e]
    exact k d nd
/-- C(): what is asked -/
theorem raise0 {C : Addr} {H1 : Hp} {Q : XK} (k : Q (.ref C) none H1) :
    ([] : List V).length ≤ 1000 ∧ ∀ a, H1 a = none → spInit0 C (.ref a :: ([] ++ [])) (upd H1 a (exo a C none)) (fun v H2 => v = .non ∧ H2 a = some (exo a C none) ∧ Q (.ref C) none (del H2 a)) (fun _ _ _ => False) := by
  refine ⟨Nat.zero_le _, fun a na => ⟨a, rfl, upd_same, rfl, upd_same, ?_⟩⟩
  have e : del (upd H1 a (exo a C none)) a = H1 := by
    funext b
    by_cases h : b = a
    · subst h
      rw [del_same, na]
    · rw [del_ne h, upd_ne h]
  rw [e]
  exact k
/-- an error class with its __init__, as a whole: with one value -/
structure Er1 (P : Program) (w : World) (K : PySem.W.Frag) (mg : Str → Option Value) (base : Heap) (nm f : Str) (C I : Addr) (fd : FuncData) : Prop where
  e : Er K mg nm f C I
  fn : FnOk P w K mg base CX0 1 I fd ["self", f] (spInit1 C f)
  bn : Binds K fd ["self", f] []
structure Er0 (P : Program) (w : World) (K : PySem.W.Frag) (mg : Str → Option Value) (base : Heap) (nm : Str) (C I : Addr) (fd : FuncData) : Prop where
  e : Er K mg nm "" C I
  fn : FnOk P w K mg base CX0 1 I fd ["self"] (spInit0 C)
  bn : Binds K fd ["self"] []
section
variable {X : Cx} {W : WX} {nm f : Str} {C I : Addr} {fd : FuncData} {ex : Expr} {te : TE} {p pos pos2 : Pos}
/-- raise C(e) -/
theorem ps_err1 (L : Er1 X.prog X.w X.K X.mg X.base nm f C I fd) (hc : X.calm = true) (tk : Takes X W) (hr : Room 2 X.A) (hg : Gl X nm) (he : PE X ex te) (hdb : (nm == ("__debug__" : Str)) = false := by decide)
    (hse : starEach (ex :: []) X.env = (false, eval ex X.env) :: starEach [] X.env := by rfl) (hpl : (backTo pos (starEach [] X.env)).any (·.1) = false := by rfl) :
    PS X (.Raise (some (.Call (.Name nm p) [ex] [] pos)) none pos2) (fun _ σ H => tMkO C (spInit1 C f) [] (tCons te tNil) σ H fun cls d H' => W cls d σ H') :=
  ps_raise hc tk (pmk_oex L.e.x.oex L.e.ini L.e.ity L.fn hr L.bn .nil (fun _ _ _ _ _ _ _ h => h.elim) hg L.e.g (pa_cons (hs := hse) he pa_nil) hdb hse hpl)
/-- raise C() -/
theorem ps_err0 (L : Er0 X.prog X.w X.K X.mg X.base nm C I fd) (hc : X.calm = true) (tk : Takes X W) (hr : Room 2 X.A) (hg : Gl X nm) (hdb : (nm == ("__debug__" : Str)) = false := by decide) :
    PS X (.Raise (some (.Call (.Name nm p) [] [] pos)) none pos2) (fun _ σ H => tMkO0 C (spInit0 C) [] tNil σ H fun cls d H' => W cls d σ H') :=
  ps_raise hc tk (pmk_none L.e.x.oex L.e.ini L.e.ity L.fn hr L.bn .nil (fun _ _ _ _ _ _ _ h => h.elim) hg L.e.g hdb)
end
end FT


namespace FT
open PySem L2 TL ClX
section
variable {P : Program} {w : World} {K : PySem.W.Frag} {mg : Str → Option Value} {base : Heap}
theorem sc_InvalidForest : FnScope ["self", "name"] ["self", "name"] (defScope s_InvalidForest___init__) := ⟨rfl, rfl, rfl, by decide +kernel, rfl, by decide +kernel, by decide +kernel⟩
theorem ok_InvalidForest {f R C I : Addr} {fd : FuncData} (F : Fun K "__init__" "InvalidForest.__init__" s_InvalidForest___init__ f fd) (T : Rt K mg R) (L : Er K mg "InvalidForest" "name" C I) : FnOk P w K mg base CX0 1 f fd ["self", "name"] (spInit1 C "name") := by
  refine F.ok sc_InvalidForest (fun vs H Q E h => ?_) (fun cdv A outer s H vs Q E hr h => ?_)
  · obtain ⟨a, v, rfl, _⟩ := h
    rfl
  · obtain ⟨a, v, rfl, ha, k⟩ := h
    refine ⟨_, pss_cons (ps_expr (pe_clsinit T.ini rfl T.g (pa_cons (pv 0) (pa_cons pe_str pa_nil)))) (pss_one (ps_ost (pv 0) (pv 1))), ?_⟩
    refine ⟨_, rfl, a, C, _, rfl, by show 1 ≤ 1000; omega, L.x.oex, ha, ?_⟩
    exact ⟨_, rfl, _, rfl, a, C, rfl, L.x.oex, L.no, .inl ⟨ha, fun d nd nda => k d nd nda⟩⟩
theorem sc_UnknownName : FnScope ["self", "name"] ["self", "name"] (defScope s_UnknownName___init__) := ⟨rfl, rfl, rfl, by decide +kernel, rfl, by decide +kernel, by decide +kernel⟩
theorem ok_UnknownName {f R C I : Addr} {fd : FuncData} (F : Fun K "__init__" "UnknownName.__init__" s_UnknownName___init__ f fd) (T : Rt K mg R) (L : Er K mg "UnknownName" "name" C I) : FnOk P w K mg base CX0 1 f fd ["self", "name"] (spInit1 C "name") := by
  refine F.ok sc_UnknownName (fun vs H Q E h => ?_) (fun cdv A outer s H vs Q E hr h => ?_)
  · obtain ⟨a, v, rfl, _⟩ := h
    rfl
  · obtain ⟨a, v, rfl, ha, k⟩ := h
    refine ⟨_, pss_cons (ps_expr (pe_clsinit T.ini rfl T.g (pa_cons (pv 0) (pa_cons pe_str pa_nil)))) (pss_one (ps_ost (pv 0) (pv 1))), ?_⟩
    refine ⟨_, rfl, a, C, _, rfl, by show 1 ≤ 1000; omega, L.x.oex, ha, ?_⟩
    exact ⟨_, rfl, _, rfl, a, C, rfl, L.x.oex, L.no, .inl ⟨ha, fun d nd nda => k d nd nda⟩⟩
theorem sc_InvalidUsers : FnScope ["self"] ["self"] (defScope s_InvalidUsers___init__) := ⟨rfl, rfl, rfl, by decide +kernel, rfl, by decide +kernel, by decide +kernel⟩
theorem ok_InvalidUsers {f R C I : Addr} {fd : FuncData} (F : Fun K "__init__" "InvalidUsers.__init__" s_InvalidUsers___init__ f fd) (T : Rt K mg R) (L : Er K mg "InvalidUsers" "" C I) : FnOk P w K mg base CX0 1 f fd ["self"] (spInit0 C) := by
  refine F.ok sc_InvalidUsers (fun vs H Q E h => ?_) (fun cdv A outer s H vs Q E hr h => ?_)
  · obtain ⟨a, rfl, _⟩ := h
    rfl
  · obtain ⟨a, rfl, ha, k⟩ := h
    refine ⟨_, pss_one (ps_expr (pe_clsinit T.ini rfl T.g (pa_cons (pv 0) (pa_cons pe_str pa_nil)))), ?_⟩
    exact ⟨_, rfl, a, C, _, rfl, by show 1 ≤ 1000; omega, L.x.oex, ha, k⟩
theorem sc_InvalidSizes : FnScope ["self", "place"] ["self", "place"] (defScope s_InvalidSizes___init__) := ⟨rfl, rfl, rfl, by decide +kernel, rfl, by decide +kernel, by decide +kernel⟩
theorem ok_InvalidSizes {f R C I : Addr} {fd : FuncData} (F : Fun K "__init__" "InvalidSizes.__init__" s_InvalidSizes___init__ f fd) (T : Rt K mg R) (L : Er K mg "InvalidSizes" "place" C I) : FnOk P w K mg base CX0 1 f fd ["self", "place"] (spInit1 C "place") := by
  refine F.ok sc_InvalidSizes (fun vs H Q E h => ?_) (fun cdv A outer s H vs Q E hr h => ?_)
  · obtain ⟨a, v, rfl, _⟩ := h
    rfl
  · obtain ⟨a, v, rfl, ha, k⟩ := h
    refine ⟨_, pss_cons (ps_expr (pe_clsinit T.ini rfl T.g (pa_cons (pv 0) (pa_cons pe_str pa_nil)))) (pss_one (ps_ost (pv 0) (pv 1))), ?_⟩
    refine ⟨_, rfl, a, C, _, rfl, by show 1 ≤ 1000; omega, L.x.oex, ha, ?_⟩
    exact ⟨_, rfl, _, rfl, a, C, rfl, L.x.oex, L.no, .inl ⟨ha, fun d nd nda => k d nd nda⟩⟩
theorem sc_InvalidPlace : FnScope ["self", "user"] ["self", "user"] (defScope s_InvalidPlace___init__) := ⟨rfl, rfl, rfl, by decide +kernel, rfl, by decide +kernel, by decide +kernel⟩
theorem ok_InvalidPlace {f R C I : Addr} {fd : FuncData} (F : Fun K "__init__" "InvalidPlace.__init__" s_InvalidPlace___init__ f fd) (T : Rt K mg R) (L : Er K mg "InvalidPlace" "user" C I) : FnOk P w K mg base CX0 1 f fd ["self", "user"] (spInit1 C "user") := by
  refine F.ok sc_InvalidPlace (fun vs H Q E h => ?_) (fun cdv A outer s H vs Q E hr h => ?_)
  · obtain ⟨a, v, rfl, _⟩ := h
    rfl
  · obtain ⟨a, v, rfl, ha, k⟩ := h
    refine ⟨_, pss_cons (ps_expr (pe_clsinit T.ini rfl T.g (pa_cons (pv 0) (pa_cons pe_str pa_nil)))) (pss_one (ps_ost (pv 0) (pv 1))), ?_⟩
    refine ⟨_, rfl, a, C, _, rfl, by show 1 ≤ 1000; omega, L.x.oex, ha, ?_⟩
    exact ⟨_, rfl, _, rfl, a, C, rfl, L.x.oex, L.no, .inl ⟨ha, fun d nd nda => k d nd nda⟩⟩
theorem sc_UnknownUser : FnScope ["self", "user"] ["self", "user"] (defScope s_UnknownUser___init__) := ⟨rfl, rfl, rfl, by decide +kernel, rfl, by decide +kernel, by decide +kernel⟩
theorem ok_UnknownUser {f R C I : Addr} {fd : FuncData} (F : Fun K "__init__" "UnknownUser.__init__" s_UnknownUser___init__ f fd) (T : Rt K mg R) (L : Er K mg "UnknownUser" "user" C I) : FnOk P w K mg base CX0 1 f fd ["self", "user"] (spInit1 C "user") := by
  refine F.ok sc_UnknownUser (fun vs H Q E h => ?_) (fun cdv A outer s H vs Q E hr h => ?_)
  · obtain ⟨a, v, rfl, _⟩ := h
    rfl
  · obtain ⟨a, v, rfl, ha, k⟩ := h
    refine ⟨_, pss_cons (ps_expr (pe_clsinit T.ini rfl T.g (pa_cons (pv 0) (pa_cons pe_str pa_nil)))) (pss_one (ps_ost (pv 0) (pv 1))), ?_⟩
    refine ⟨_, rfl, a, C, _, rfl, by show 1 ≤ 1000; omega, L.x.oex, ha, ?_⟩
    exact ⟨_, rfl, _, rfl, a, C, rfl, L.x.oex, L.no, .inl ⟨ha, fun d nd nda => k d nd nda⟩⟩
theorem sc_Mismatch : FnScope ["self"] ["self"] (defScope s_Mismatch___init__) := ⟨rfl, rfl, rfl, by decide +kernel, rfl, by decide +kernel, by decide +kernel⟩
theorem ok_Mismatch {f R C I : Addr} {fd : FuncData} (F : Fun K "__init__" "Mismatch.__init__" s_Mismatch___init__ f fd) (T : Rt K mg R) (L : Er K mg "Mismatch" "" C I) : FnOk P w K mg base CX0 1 f fd ["self"] (spInit0 C) := by
  refine F.ok sc_Mismatch (fun vs H Q E h => ?_) (fun cdv A outer s H vs Q E hr h => ?_)
  · obtain ⟨a, rfl, _⟩ := h
    rfl
  · obtain ⟨a, rfl, ha, k⟩ := h
    refine ⟨_, pss_one (ps_expr (pe_clsinit T.ini rfl T.g (pa_cons (pv 0) (pa_cons pe_str pa_nil)))), ?_⟩
    exact ⟨_, rfl, a, C, _, rfl, by show 1 ≤ 1000; omega, L.x.oex, ha, k⟩
theorem sc_InvalidNumber : FnScope ["self"] ["self"] (defScope s_InvalidNumber___init__) := ⟨rfl, rfl, rfl, by decide +kernel, rfl, by decide +kernel, by decide +kernel⟩
theorem ok_InvalidNumber {f R C I : Addr} {fd : FuncData} (F : Fun K "__init__" "InvalidNumber.__init__" s_InvalidNumber___init__ f fd) (T : Rt K mg R) (L : Er K mg "InvalidNumber" "" C I) : FnOk P w K mg base CX0 1 f fd ["self"] (spInit0 C) := by
  refine F.ok sc_InvalidNumber (fun vs H Q E h => ?_) (fun cdv A outer s H vs Q E hr h => ?_)
  · obtain ⟨a, rfl, _⟩ := h
    rfl
  · obtain ⟨a, rfl, ha, k⟩ := h
    refine ⟨_, pss_one (ps_expr (pe_clsinit T.ini rfl T.g (pa_cons (pv 0) (pa_cons pe_str pa_nil)))), ?_⟩
    exact ⟨_, rfl, a, C, _, rfl, by show 1 ≤ 1000; omega, L.x.oex, ha, k⟩
theorem sc_NotBest : FnScope ["self"] ["self"] (defScope s_NotBest___init__) := ⟨rfl, rfl, rfl, by decide +kernel, rfl, by decide +kernel, by decide +kernel⟩
theorem ok_NotBest {f R C I : Addr} {fd : FuncData} (F : Fun K "__init__" "NotBest.__init__" s_NotBest___init__ f fd) (T : Rt K mg R) (L : Er K mg "NotBest" "" C I) : FnOk P w K mg base CX0 1 f fd ["self"] (spInit0 C) := by
  refine F.ok sc_NotBest (fun vs H Q E h => ?_) (fun cdv A outer s H vs Q E hr h => ?_)
  · obtain ⟨a, rfl, _⟩ := h
    rfl
  · obtain ⟨a, rfl, ha, k⟩ := h
    refine ⟨_, pss_one (ps_expr (pe_clsinit T.ini rfl T.g (pa_cons (pv 0) (pa_cons pe_str pa_nil)))), ?_⟩
    exact ⟨_, rfl, a, C, _, rfl, by show 1 ≤ 1000; omega, L.x.oex, ha, k⟩
theorem sc_InvalidPin : FnScope ["self", "index"] ["self", "index"] (defScope s_InvalidPin___init__) := ⟨rfl, rfl, rfl, by decide +kernel, rfl, by decide +kernel, by decide +kernel⟩
theorem ok_InvalidPin {f R C I : Addr} {fd : FuncData} (F : Fun K "__init__" "InvalidPin.__init__" s_InvalidPin___init__ f fd) (T : Rt K mg R) (L : Er K mg "InvalidPin" "index" C I) : FnOk P w K mg base CX0 1 f fd ["self", "index"] (spInit1 C "index") := by
  refine F.ok sc_InvalidPin (fun vs H Q E h => ?_) (fun cdv A outer s H vs Q E hr h => ?_)
  · obtain ⟨a, v, rfl, _⟩ := h
    rfl
  · obtain ⟨a, v, rfl, ha, k⟩ := h
    refine ⟨_, pss_cons (ps_expr (pe_clsinit T.ini rfl T.g (pa_cons (pv 0) (pa_cons pe_str pa_nil)))) (pss_one (ps_ost (pv 0) (pv 1))), ?_⟩
    refine ⟨_, rfl, a, C, _, rfl, by show 1 ≤ 1000; omega, L.x.oex, ha, ?_⟩
    exact ⟨_, rfl, _, rfl, a, C, rfl, L.x.oex, L.no, .inl ⟨ha, fun d nd nda => k d nd nda⟩⟩
theorem sc_Crowded : FnScope ["self", "users"] ["self", "users"] (defScope s_Crowded___init__) := ⟨rfl, rfl, rfl, by decide +kernel, rfl, by decide +kernel, by decide +kernel⟩
theorem ok_Crowded {f R C I : Addr} {fd : FuncData} (F : Fun K "__init__" "Crowded.__init__" s_Crowded___init__ f fd) (T : Rt K mg R) (L : Er K mg "Crowded" "users" C I) : FnOk P w K mg base CX0 1 f fd ["self", "users"] (spInit1 C "users") := by
  refine F.ok sc_Crowded (fun vs H Q E h => ?_) (fun cdv A outer s H vs Q E hr h => ?_)
  · obtain ⟨a, v, rfl, _⟩ := h
    rfl
  · obtain ⟨a, v, rfl, ha, k⟩ := h
    refine ⟨_, pss_cons (ps_expr (pe_clsinit T.ini rfl T.g (pa_cons (pv 0) (pa_cons pe_str pa_nil)))) (pss_one (ps_ost (pv 0) (pv 1))), ?_⟩
    refine ⟨_, rfl, a, C, _, rfl, by show 1 ≤ 1000; omega, L.x.oex, ha, ?_⟩
    exact ⟨_, rfl, _, rfl, a, C, rfl, L.x.oex, L.no, .inl ⟨ha, fun d nd nda => k d nd nda⟩⟩
theorem sc_InvalidText : FnScope ["self", "line"] ["self", "line"] (defScope s_InvalidText___init__) := ⟨rfl, rfl, rfl, by decide +kernel, rfl, by decide +kernel, by decide +kernel⟩
theorem ok_InvalidText {f R C I : Addr} {fd : FuncData} (F : Fun K "__init__" "InvalidText.__init__" s_InvalidText___init__ f fd) (T : Rt K mg R) (L : Er K mg "InvalidText" "line" C I) : FnOk P w K mg base CX0 1 f fd ["self", "line"] (spInit1 C "line") := by
  refine F.ok sc_InvalidText (fun vs H Q E h => ?_) (fun cdv A outer s H vs Q E hr h => ?_)
  · obtain ⟨a, v, rfl, _⟩ := h
    rfl
  · obtain ⟨a, v, rfl, ha, k⟩ := h
    refine ⟨_, pss_cons (ps_expr (pe_clsinit T.ini rfl T.g (pa_cons (pv 0) (pa_cons pe_str pa_nil)))) (pss_one (ps_ost (pv 0) (pv 1))), ?_⟩
    refine ⟨_, rfl, a, C, _, rfl, by show 1 ≤ 1000; omega, L.x.oex, ha, ?_⟩
    exact ⟨_, rfl, _, rfl, a, C, rfl, L.x.oex, L.no, .inl ⟨ha, fun d nd nda => k d nd nda⟩⟩
end
end FT


/-! lists of texts as data, for == and !=. -/
namespace FT
open PySem L2 TL
theorem dps_strs {K : PySem.W.Frag} {H : Hp} : ∀ ts : List Str, DpAll K H (ts.map V.str) (ts.map PyData.str)
  | [] => .nil
  | t :: ts => .cons (.str t) (dps_strs ts)
theorem strs_lay : ∀ {ts : List Str}, (∀ t ∈ ts, PyData.strOk t = true) → PyData.canLayAll0 (ts.map PyData.str) = true ∧ PyData.depthAll (ts.map PyData.str) ≤ 0
  | [], _ => ⟨rfl, Nat.le_refl _⟩
  | t :: ts, h => by
    obtain ⟨h1, h2⟩ := strs_lay (ts := ts) fun b hb => h b (List.mem_cons_of_mem _ hb)
    constructor
    · show (PyData.strOk t && PyData.canLayAll0 (ts.map PyData.str)) = true
      rw [h t (List.mem_cons_self ..), h1] <;> rfl
    · show max 0 (PyData.depthAll (ts.map PyData.str)) ≤ 0
      omega
theorem strs_shaped {ts : List Str} (h : ∀ t ∈ ts, PyData.strOk t = true) : SeqAt.shaped (.list (ts.map PyData.str)) = true := by
  obtain ⟨h1, h2⟩ := strs_lay h
  unfold SeqAt.shaped
  have c : (PyData.list (ts.map PyData.str)).canLay0 = true := h1
  rw [c]
  have d : (PyData.list (ts.map PyData.str)).depth ≤ 64 := by
    show PyData.depthAll (ts.map PyData.str) + 1 ≤ 64
    omega
  rw [decide_eq_true d] <;> rfl
end FT


namespace FT
open PySem L2 TL ClX
/-! ### data of any kind -/
inductive Dat (K : PySem.W.Frag) (H : Hp) : V → String → Prop where
  | non : Dat K H .non "NoneType"
  | bl (b : Bool) : Dat K H (.bl b) "bool"
  | int (i : Int) : Dat K H (.int i) "int"
  | str (z : Str) : Dat K H (.str z) "str"
  | lst {a : Addr} {xs : List V} (h : H a = some (.lst xs)) : Dat K H (.ref a) "list"
  | tup {a : Addr} {xs : List V} (h : H a = some (.tup xs)) : Dat K H (.ref a) "tuple"
  | dct {a : Addr} {kvs : List (Key × V)} (h : H a = some (.dK kvs)) : Dat K H (.ref a) "dict"
theorem Dat.ty {K : PySem.W.Frag} {H : Hp} {v : V} {T : String} (d : Dat K H v T) : TyX K H v (.type T) := by
  cases d with
  | non => exact .base .non
  | bl b => exact .base (.bl b)
  | int i => exact .base (.int i)
  | str z => exact .base (.str z)
  | lst h => exact .base (.lst h)
  | tup h => exact .base (.tup h)
  | dct h => exact .base (.dK h)
theorem Dat.mono {K : PySem.W.Frag} {H H' : Hp} {v : V} {T : String} (s : Same H H') (d : Dat K H v T) : Dat K H' v T := by
  cases d with
  | non => exact .non
  | bl b => exact .bl b
  | int i => exact .int i
  | str z => exact .str z
  | lst h => exact .lst (s _ _ h)
  | tup h => exact .tup (s _ _ h)
  | dct h => exact .dct (s _ _ h)
def IsDat (K : PySem.W.Frag) (H : Hp) (v : V) : Prop := ∃ T, Dat K H v T
theorem IsDat.mono {K : PySem.W.Frag} {H H' : Hp} {v : V} (s : Same H H') (d : IsDat K H v) : IsDat K H' v := let ⟨T, d⟩ := d; ⟨T, d.mono s⟩
/-- isinstance(v, int) -/
def isIntV : V → Bool
  | .int _ => true
  | .bl _ => true
  | _ => false
def isBlV : V → Bool
  | .bl _ => true
  | _ => false
def isDictV (H : Hp) (v : V) : Bool := match v with
  | .ref a => match H a with
    | some (.dK _) => true
    | _ => false
  | _ => false
theorem Dat.int_ {K : PySem.W.Frag} {H : Hp} {v : V} {T : String} (d : Dat K H v T) : PySem.W.kitOne K (.type T) (.type "int") = some (isIntV v) := by
  cases d with
  | non => exact kit_ty (r := false) (by decide +kernel)
  | bl b => exact kit_ty (r := true) (by decide +kernel)
  | int i => exact kit_ty (r := true) (by decide +kernel)
  | str z => exact kit_ty (r := false) (by decide +kernel)
  | lst h => exact kit_ty (r := false) (by decide +kernel)
  | tup h => exact kit_ty (r := false) (by decide +kernel)
  | dct h => exact kit_ty (r := false) (by decide +kernel)
theorem Dat.bool_ {K : PySem.W.Frag} {H : Hp} {v : V} {T : String} (d : Dat K H v T) : PySem.W.kitOne K (.type T) (.type "bool") = some (isBlV v) := by
  cases d with
  | non => exact kit_ty (r := false) (by decide +kernel)
  | bl b => exact kit_ty (r := true) (by decide +kernel)
  | int i => exact kit_ty (r := false) (by decide +kernel)
  | str z => exact kit_ty (r := false) (by decide +kernel)
  | lst h => exact kit_ty (r := false) (by decide +kernel)
  | tup h => exact kit_ty (r := false) (by decide +kernel)
  | dct h => exact kit_ty (r := false) (by decide +kernel)
theorem Dat.dict_ {K : PySem.W.Frag} {H : Hp} {v : V} {T : String} (d : Dat K H v T) : PySem.W.kitOne K (.type T) (.type "dict") = some (decide (T = "dict")) := by
  cases d with
  | non => exact kit_ty (r := false) (by decide +kernel)
  | bl b => exact kit_ty (r := false) (by decide +kernel)
  | int i => exact kit_ty (r := false) (by decide +kernel)
  | str z => exact kit_ty (r := false) (by decide +kernel)
  | lst h => exact kit_ty (r := false) (by decide +kernel)
  | tup h => exact kit_ty (r := false) (by decide +kernel)
  | dct h => exact kit_ty (r := true) (by decide +kernel)
theorem Dat.str_ {K : PySem.W.Frag} {H : Hp} {v : V} {T : String} (d : Dat K H v T) : PySem.W.kitOne K (.type T) (.type "str") = some (decide (T = "str")) := by
  cases d with
  | non => exact kit_ty (r := false) (by decide +kernel)
  | bl b => exact kit_ty (r := false) (by decide +kernel)
  | int i => exact kit_ty (r := false) (by decide +kernel)
  | str z => exact kit_ty (r := true) (by decide +kernel)
  | lst h => exact kit_ty (r := false) (by decide +kernel)
  | tup h => exact kit_ty (r := false) (by decide +kernel)
  | dct h => exact kit_ty (r := false) (by decide +kernel)
/-- an integer, no bool, of at least l -/
def isGe (v : V) (l : Int) : Bool := match v with
  | .int i => decide (l ≤ i)
  | _ => false
/-! ### what is raised -/
inductive Err where
  | e0 (C : Addr)
  | e1 (C : Addr) (f : Str) (v : V)
/-- the way out of such an error, from the heap H -/
def Out (H : Hp) (E : XK) : Err → Prop
  | .e0 C => ∀ H', Same H H' → E (.ref C) none H'
  | .e1 C f v => ∀ d H', Same H H' → H d = none → H' d = some (.xd [(f, v)]) → E (.ref C) (some d) H'
theorem Out.mono {H H1 : Hp} {E : XK} {e : Err} (s : Same H H1) (o : Out H E e) : Out H1 E e := by
  cases e with
  | e0 C => exact fun H' s' => o H' (s.trans s')
  | e1 C f v => exact fun d H' s' n => o d H' (s.trans s') (s.free n)
/-- raise C(v) in a def that lets it out -/
theorem out1 {C : Addr} {f : Str} {v : V} {H H1 : Hp} {E : XK} (o : Out H E (.e1 C f v)) (s : Same H H1) :
    [v].length ≤ 1000 ∧ ∀ a, H1 a = none → spInit1 C f (.ref a :: ([v] ++ [])) (upd H1 a (exo a C none))
      (fun w H2 => w = .non ∧ ∃ (d : Addr) (fs : List (Str × V)), H2 a = some (exo a C (some d)) ∧ H2 d = some (exd d fs) ∧ H1 d = none ∧ E (.ref C) (some d) (upd (del H2 a) d (.xd fs))) (fun _ _ _ => False) :=
  raise1 (Q := fun cls d H' => E cls d H') fun d nd => o d _ (s.trans (same_new nd)) (s.free nd) upd_same
theorem out0 {C : Addr} {H H1 : Hp} {E : XK} (o : Out H E (.e0 C)) (s : Same H H1) :
    ([] : List V).length ≤ 1000 ∧ ∀ a, H1 a = none → spInit0 C (.ref a :: ([] ++ [])) (upd H1 a (exo a C none)) (fun v H2 => v = .non ∧ H2 a = some (exo a C none) ∧ E (.ref C) none (del H2 a)) (fun _ _ _ => False) :=
  raise0 (Q := fun cls d H' => E cls d H') (o _ s)
/-- a call of a def that may raise, in a def that lets it out -/
theorem passX {P : Program} {w : World} {X : Cx} {E : XK} (tk : Takes X (fun cls d _ H => E cls d H)) : Passes (L2.CX X.prog X.w) X E := passes_call tk (fun _ _ _ _ h => h)
/-! ### numbers by places -/
def tblI (l : List Str) (g : Str → Int) : List (Key × V) := kvT (l.map fun a => (a, V.int (g a)))
theorem tblI_len (l : List Str) (g : Str → Int) : (tblI l g).length = l.length := by unfold tblI; rw [kvT_len, List.length_map]
theorem tblI_fst (l : List Str) (g : Str → Int) : (l.map fun a => (a, V.int (g a))).map Prod.fst = l := by rw [List.map_map]; exact List.map_id _
theorem tblI_keys (l : List Str) (g : Str → Int) : (tblI l g).map (·.1) = l.map Sum.inr := by unfold tblI kvT; rw [List.map_map, List.map_map] <;> rfl
theorem tblI_at {l : List Str} {g : Str → Int} {i : Nat} {k : Key} {v : V} (h : (tblI l g)[i]? = some (k, v)) : ∃ a, l[i]? = some a ∧ k = Sum.inr a ∧ v = .int (g a) := by
  unfold tblI kvT at h
  rw [List.map_map, List.getElem?_map] at h
  obtain ⟨a, ha, e⟩ := Option.map_eq_some_iff.mp h
  cases e
  exact ⟨a, ha, rfl, rfl⟩
theorem tblI_val {l : List Str} {g : Str → Int} {a : Str} (h : a ∈ l) : valV (tblI l g) (Sum.inr a) = some (.int (g a)) := by
  unfold tblI
  rw [kvT_val]
  induction l with
  | nil => cases h
  | cons b l ih =>
    rw [List.map_cons, look_cons]
    by_cases e : b = a
    · subst e
      exact if_pos rfl
    · rw [if_neg e]
      exact ih ((List.mem_cons.mp h).resolve_left fun z => e z.symm)
theorem tblI_none {l : List Str} {g : Str → Int} {a : Str} (h : a ∉ l) : valV (tblI l g) (Sum.inr a) = none := by
  unfold tblI
  rw [kvT_val, look_none (by rw [tblI_fst]; exact h)]
theorem tblI_put {l : List Str} {g : Str → Int} {a : Str} {z : Int} (h : a ∈ l) : putK (tblI l g) (Sum.inr a) (.int z) = tblI l (fun p => if p = a then z else g p) := by
  unfold tblI
  rw [kvT_putT]
  unfold putT
  rw [if_pos (by rw [tblI_fst]; exact h), List.map_map]
  congr 1
  refine List.map_congr_left fun p _ => ?_
  show (if p = a then (p, V.int z) else (p, V.int (g p))) = (p, V.int (if p = a then z else g p))
  by_cases e : p = a
  · rw [if_pos e, if_pos e]
  · rw [if_neg e, if_neg e]
theorem tblI_snoc {l : List Str} {g : Str → Int} {a : Str} {z : Int} (h : a ∉ l) (e : z = g a) : putK (tblI l g) (Sum.inr a) (.int z) = tblI (l ++ [a]) g := by
  unfold tblI
  rw [kvT_put (by rw [tblI_fst]; exact h), List.map_append, e] <;> rfl
theorem tblI_congr {l : List Str} {g g' : Str → Int} (h : ∀ a ∈ l, g a = g' a) : tblI l g = tblI l g' := by
  unfold tblI
  rw [List.map_congr_left fun a ha => by rw [h a ha]]
/-! ### feasible sizes -/
/-- sizes: a dict, its pairs told, or another value -/
def SzV (K : PySem.W.Frag) (H : Hp) (sv : V) : Option (List (Key × V)) → Prop
  | some kvs => ∃ q, sv = .ref q ∧ H q = some (.dK kvs) ∧ ∀ p ∈ kvs, IsDat K H p.2
  | none => ∃ T, Dat K H sv T ∧ T ≠ "dict"
theorem SzV.mono {K : PySem.W.Frag} {H H' : Hp} {sv : V} {o : Option (List (Key × V))} (s : Same H H') (h : SzV K H sv o) : SzV K H' sv o := by
  cases o with
  | none => exact let ⟨T, d, n⟩ := h; ⟨T, d.mono s, n⟩
  | some kvs => exact let ⟨q, e, h, a⟩ := h; ⟨q, e, s _ _ h, fun p hp => (a p hp).mono s⟩
def szOf (kvs : List (Key × V)) (a : Str) : Int := match valV kvs (Sum.inr a) with
  | some (.int i) => i
  | _ => 0
def badKey (kvs : List (Key × V)) (a : Str) : Bool := !isGe ((valV kvs (Sum.inr a)).getD .non) 0
/-- the place of the first fault, as the error tells it -/
def feas (ts : List (Str × Str)) (n : Int) : Option (List (Key × V)) → Option V
  | none => some .non
  | some kvs => if kvs.length ≠ ts.length then some .non else if (ts.map Prod.fst).all (fun a => (valV kvs (Sum.inr a)).isSome) = false then some .non else
    match (ts.map Prod.fst).find? (badKey kvs) with
    | some a => some (.str a)
    | none => ((("" : Str) :: ts.map Prod.fst).find? fun p => decide (resid ts n (szOf kvs) p < 0)).map V.str
def usersOk (v : V) (m : Int) : Bool := match v with
  | .int i => decide (1 ≤ i) && decide (i ≤ m)
  | _ => false
def feE (CS : Addr) (ts : List (Str × Str)) (n : Int) (o : Option (List (Key × V))) : Option Err := (feas ts n o).map fun v => .e1 CS "place" v
def szE (CU CS : Addr) (ts : List (Str × Str)) (uv : V) (o : Option (List (Key × V))) : Option Err := if usersOk uv (10 ^ 30) = true then feE CS ts (match uv with | .int n => n | _ => 0) o else some (.e0 CU)
/-- a def that hands back None, or raises -/
def Res (H : Hp) (Q : VK) (E : XK) : Option Err → Prop
  | none => ∀ H', Same H H' → Q .non H'
  | some e => Out H E e
theorem Res.mono {H H1 : Hp} {Q : VK} {E : XK} {o : Option Err} (s : Same H H1) (r : Res H Q E o) : Res H1 Q E o := by
  cases o with
  | none => exact fun H' s' => r H' (s.trans s')
  | some e => exact Out.mono s r
def spIsInt (K : PySem.W.Frag) : Sp := fun vs H Q _ => ∃ (v : V) (l : Int), vs = [v, .int l] ∧ IsDat K H v ∧ Q (.bl (isGe v l)) H
def spUsers (K : PySem.W.Frag) (CU : Addr) : Sp := fun vs H Q E => ∃ (v : V) (m : Int), vs = [v, .int m] ∧ IsDat K H v ∧ Res H Q E (if usersOk v m = true then none else some (.e0 CU))
def spResid (CF : Addr) : Sp := fun vs H Q _ => ∃ (x q : Addr) (n : Int) (ts : List (Str × Str)) (kvs : List (Key × V)), vs = [.ref x, .int n, .ref q] ∧ FAt CF H x ts ∧ TreeOk ts ∧ H q = some (.dK kvs) ∧ (∀ a ∈ ts.map Prod.fst, valV kvs (Sum.inr a) = some (.int (szOf kvs a))) ∧
  ∀ p H', Same H H' → H p = none → H' p = some (.dK (tblI ("" :: ts.map Prod.fst) (resid ts n (szOf kvs)))) → Q (.ref p) H'
def spFeas (K : PySem.W.Frag) (CF CS : Addr) : Sp := fun vs H Q E => ∃ (x : Addr) (n : Int) (sv : V) (ts : List (Str × Str)) (o : Option (List (Key × V))), vs = [.ref x, .int n, sv] ∧ FAt CF H x ts ∧ TreeOk ts ∧ SzV K H sv o ∧ Res H Q E (feE CS ts n o)
def spNSizes (K : PySem.W.Frag) (CF CU CS : Addr) : Sp := fun vs H Q E => ∃ (x : Addr) (uv sv : V) (ts : List (Str × Str)) (o : Option (List (Key × V))), vs = [.ref x, uv, sv] ∧ FAt CF H x ts ∧ TreeOk ts ∧ IsDat K H uv ∧ SzV K H sv o ∧ Res H Q E (szE CU CS ts uv o)
section
variable {P : Program} {w : World} {K : PySem.W.Frag} {mg : Str → Option Value} {base : Heap}
theorem scIsInt : FnScope ["value", "least"] ["value", "least"] (defScope s_is_integer) := ⟨rfl, rfl, rfl, by decide +kernel, rfl, by decide +kernel, by decide +kernel⟩
theorem ok_isInt {f : Addr} {fd : FuncData} (F : Fun K "is_integer" "is_integer" s_is_integer f fd) (T : Nm mg) : FnOk P w K mg base CX0 1 f fd ["value", "least"] (spIsInt K) := by
  refine F.ok scIsInt (fun vs H Q E h => ?_) (fun cdv A outer s H vs Q E hr h => ?_)
  · obtain ⟨v, l, rfl, _⟩ := h
    rfl
  · obtain ⟨v, l, rfl, ⟨t, d⟩, k⟩ := h
    refine ⟨_, pss_one (ps_ret (pe_and (pe_callB call_isi (by rfl) T.isi (by decide +kernel) (pa_cons (pv 0) (pa_cons (pe_bltn (v := .ty "int") (u := .type "int") (by rfl) T.int (by decide +kernel) rfl) pa_nil)))
      (pe_and (pe_not (pe_callB call_isi (by rfl) T.isi (by decide +kernel) (pa_cons (pv 0) (pa_cons (pe_bltn (v := .ty "bool") (u := .type "bool") (by rfl) T.bool (by decide +kernel) rfl) pa_nil)))) (pe_one (pe_cmpR op_ge (pv 0) (pv 1) (nomark _)))))), ?_⟩
    refine ⟨_, rfl, v, _, _, _, _, rfl, .ty _, d.ty, d.int_, _, rfl, ?_⟩
    refine ite2 (fun yes => ⟨_, rfl, v, _, _, _, _, rfl, .ty _, d.ty, d.bool_, _, rfl, _, rfl, ?_⟩) (fun no => ?_)
    · refine ite2 (fun yes2 => ?_) (fun no2 => ?_)
      · cases v with
        | int i => exact ⟨_, rfl, _, rfl, i, l, rfl, rfl, k⟩
        | bl b => cases yes2
        | _ => cases yes
      · cases v with
        | int i => exact absurd rfl no2
        | bl b => exact k
        | _ => cases yes
    · cases v with
      | int i => exact absurd rfl no
      | bl b => exact absurd rfl no
      | _ => exact k
end
end FT


namespace FT
open PySem L2 TL ClX
theorem valV_mem {kvs : List (Key × V)} {k : Key} {v : V} (h : valV kvs k = some v) : (k, v) ∈ kvs := by
  unfold valV at h
  obtain ⟨p, hp, e⟩ := Option.map_eq_some_iff.mp h
  have m := List.mem_of_find?_eq_some hp
  have q : p.1 = k := of_decide_eq_true (List.find?_some (p := fun kv : Key × V => decide (kv.1 = k)) hp)
  obtain ⟨k', v'⟩ := p
  cases e
  cases (show k' = k from q)
  exact m
theorem feas_some (ts : List (Str × Str)) (n : Int) (kvs : List (Key × V)) : feas ts n (some kvs) = if kvs.length ≠ ts.length then some .non else if (ts.map Prod.fst).all (fun a => (valV kvs (Sum.inr a)).isSome) = false then some .non else
    match (ts.map Prod.fst).find? (badKey kvs) with
    | some a => some (.str a)
    | none => ((("" : Str) :: ts.map Prod.fst).find? fun p => decide (resid ts n (szOf kvs) p < 0)).map V.str := rfl
theorem find_at {α : Type} {p : α → Bool} : ∀ {l : List α} {j : Nat} {a : α}, l[j]? = some a → (l.take j).find? p = none → p a = true → l.find? p = some a
  | [], j, a, h, _, _ => by simp at h
  | x :: l, 0, a, h, _, hp => by
    have e : x = a := Option.some.inj h
    subst e
    rw [List.find?_cons, hp]
  | x :: l, j + 1, a, h, hn, hp => by
    have hn' : (x :: l.take j).find? p = none := hn
    rw [List.find?_cons] at hn' ⊢
    cases e : p x with
    | true =>
      rw [e] at hn'
      cases hn'
    | false =>
      rw [e] at hn'
      exact find_at h hn' hp
theorem find_more {α : Type} {p : α → Bool} {l : List α} {j : Nat} {a : α} (h : l[j]? = some a) (hn : (l.take j).find? p = none) (hp : p a = false) : (l.take (j + 1)).find? p = none := by
  rw [take_more h, List.find?_append, hn]
  show [a].find? p = none
  rw [List.find?_cons, hp] <;> rfl
theorem len_int {a b : Nat} : decide (V.int (a : Int) = V.int (b : Int)) = decide (a = b) := by
  rw [Bool.eq_iff_iff, decide_eq_true_eq, decide_eq_true_eq]
  constructor
  · intro h
    have := V.int.inj h
    omega
  · intro h
    rw [h]
end FT


namespace FT
open PySem L2 TL ClX
theorem feE_none {CS : Addr} {ts : List (Str × Str)} {n : Int} : feE CS ts n none ≠ none := fun h => nomatch h
theorem feE_ok {CS : Addr} {ts : List (Str × Str)} {n : Int} {kvs : List (Key × V)} (h : feE CS ts n (some kvs) = none) : kvs.length = ts.length ∧ (∀ a ∈ ts.map Prod.fst, valV kvs (Sum.inr a) = some (.int (szOf kvs a)) ∧ 0 ≤ szOf kvs a) ∧ ∀ p ∈ (("" : Str) :: ts.map Prod.fst), 0 ≤ resid ts n (szOf kvs) p := by
  unfold feE at h
  rw [feas_some] at h
  by_cases el : kvs.length = ts.length
  · rw [if_neg (fun z => z el)] at h
    cases ea : (ts.map Prod.fst).all fun a => (valV kvs (Sum.inr a)).isSome with
    | false =>
      rw [if_pos ea] at h
      cases h
    | true =>
      rw [if_neg (by rw [ea]; decide)] at h
      cases eb : (ts.map Prod.fst).find? (badKey kvs) with
      | some a =>
        rw [eb] at h
        cases h
      | none =>
        rw [eb] at h
        refine ⟨el, fun a ha => ?_, fun p hp => ?_⟩
        · obtain ⟨v, hv⟩ := Option.isSome_iff_exists.mp (List.all_eq_true.mp ea a ha)
          have g := List.find?_eq_none.mp eb a ha
          unfold badKey at g
          rw [hv] at g
          unfold szOf
          rw [hv]
          cases v with
          | int i =>
            refine ⟨rfl, ?_⟩
            show 0 ≤ i
            have g' : ¬ (!decide ((0 : Int) ≤ i)) = true := g
            by_cases z : (0 : Int) ≤ i
            · exact z
            · rw [decide_eq_false z] at g'
              exact absurd rfl g'
          | _ => exact absurd rfl g
        · cases ef : ((("" : Str) :: ts.map Prod.fst).find? fun p => decide (resid ts n (szOf kvs) p < 0)) with
          | some p =>
            rw [ef] at h
            cases h
          | none =>
            have z := List.find?_eq_none.mp ef p hp
            have z' : ¬ resid ts n (szOf kvs) p < 0 := fun q => z (decide_eq_true q)
            omega
  · rw [if_pos el] at h
    cases h
def kvsOf (o : Option (List (Key × V))) : List (Key × V) := o.getD []
def numV (v : V) : Int := match v with
  | .int n => n
  | _ => 0
/-- what amounts raises -/
def amE (CU CS : Addr) (ts : List (Str × Str)) (uv : V) (o1 o2 : Option (List (Key × V))) : Option Err := (szE CU CS ts uv o1).or (feE CS ts (numV uv) o2)
def amt (o1 o2 : Option (List (Key × V))) (a : Str) : Int := szOf (kvsOf o2) a - szOf (kvsOf o1) a
theorem szE_feE {CU CS : Addr} {ts : List (Str × Str)} {uv : V} {o : Option (List (Key × V))} (h : szE CU CS ts uv o = none) : ∃ n, uv = .int n ∧ 1 ≤ n ∧ n ≤ 10 ^ 30 ∧ feE CS ts n o = none := by
  unfold szE at h
  by_cases u : usersOk uv (10 ^ 30) = true
  · rw [if_pos u] at h
    cases uv with
    | int n =>
      have u' : (decide (1 ≤ n) && decide (n ≤ 10 ^ 30)) = true := u
      rw [Bool.and_eq_true, decide_eq_true_eq, decide_eq_true_eq] at u'
      exact ⟨n, rfl, u'.1, u'.2, h⟩
    | _ => cases u
  · rw [if_neg u] at h
    cases h
def absI (z : Int) : Int := if z < 0 then -z else z
def spAmtOf (CF : Addr) : Sp := fun vs H Q _ => ∃ (x q1 q2 : Addr) (ts : List (Str × Str)) (k1 k2 : List (Key × V)), vs = [.ref x, .ref q1, .ref q2] ∧ FAt CF H x ts ∧ TreeOk ts ∧ H q1 = some (.dK k1) ∧ H q2 = some (.dK k2) ∧
  (∀ a ∈ ts.map Prod.fst, valV k1 (Sum.inr a) = some (.int (szOf k1 a))) ∧ (∀ a ∈ ts.map Prod.fst, valV k2 (Sum.inr a) = some (.int (szOf k2 a))) ∧
  ∀ p H', Same H H' → H p = none → H' p = some (.dK (tblI (ts.map Prod.fst) fun a => szOf k2 a - szOf k1 a)) → Q (.ref p) H'
def spAmounts (K : PySem.W.Frag) (CF CU CS : Addr) : Sp := fun vs H Q E => ∃ (x : Addr) (uv sv nv : V) (ts : List (Str × Str)) (o1 o2 : Option (List (Key × V))), vs = [.ref x, uv, sv, nv] ∧ FAt CF H x ts ∧ TreeOk ts ∧ IsDat K H uv ∧ SzV K H sv o1 ∧ SzV K H nv o2 ∧
  match amE CU CS ts uv o1 o2 with
  | none => ∀ p H', Same H H' → H p = none → H' p = some (.dK (tblI (ts.map Prod.fst) (amt o1 o2))) → Q (.ref p) H'
  | some e => Out H E e
def spLeast (K : PySem.W.Frag) (CF CU CS : Addr) : Sp := fun vs H Q E => ∃ (x : Addr) (uv sv nv : V) (ts : List (Str × Str)) (o1 o2 : Option (List (Key × V))), vs = [.ref x, uv, sv, nv] ∧ FAt CF H x ts ∧ TreeOk ts ∧ IsDat K H uv ∧ SzV K H sv o1 ∧ SzV K H nv o2 ∧
  match amE CU CS ts uv o1 o2 with
  | none => ∀ H', Same H H' → Q (.int ((ts.map Prod.fst).map fun a => absI (amt o1 o2 a)).sum) H'
  | some e => Out H E e
end FT


namespace FT
open PySem L2 TL ClX LiI
/-! ### crossings -/
def crs (g : Str → Int) (ts : List (Str × Str)) : List (Str × Str × Int) := ts.flatMap fun p => if 0 < g p.1 then [(p.2, p.1, g p.1)] else if g p.1 < 0 then [(p.1, p.2, - g p.1)] else []
def EdG (H : Hp) (rs : List Addr) (es : List (Str × Str × Int)) : Prop := Paired (fun (r : Addr) (e : Str × Str × Int) => H r = some (.tup [.str e.1, .str e.2.1, .int e.2.2])) rs es
theorem EdG.mono {H H' : Hp} (s : Same H H') : ∀ {rs : List Addr} {es : List (Str × Str × Int)}, EdG H rs es → EdG H' rs es
  | _, _, .nil => .nil
  | _, _, .cons h t => .cons (s _ _ h) (EdG.mono s t)
theorem EdG.push {H : Hp} {D : Addr} {xs : List V} {o : HO} (e : H D = some (.lst xs)) : ∀ {rs : List Addr} {es : List (Str × Str × Int)}, EdG H rs es → EdG (upd H D o) rs es
  | _, _, .nil => .nil
  | _, _, .cons h t => .cons (by rw [upd_ne (ne_of h e (by intro z; cases z))]; exact h) (EdG.push e t)
theorem EdG.snoc {H : Hp} {r : Addr} {e : Str × Str × Int} (h : H r = some (.tup [.str e.1, .str e.2.1, .int e.2.2])) : ∀ {rs : List Addr} {es : List (Str × Str × Int)}, EdG H rs es → EdG H (rs ++ [r]) (es ++ [e])
  | _, _, .nil => .cons h .nil
  | _, _, .cons q t => .cons q (EdG.snoc h t)
theorem EdG.len {H : Hp} : ∀ {rs : List Addr} {es : List (Str × Str × Int)}, EdG H rs es → rs.length = es.length
  | _, _, .nil => rfl
  | _, _, .cons _ t => congrArg (· + 1) (EdG.len t)
theorem EdG.at_ {H : Hp} {rs : List Addr} {es : List (Str × Str × Int)} (p : EdG H rs es) {i : Nat} {r : Addr} (h : rs[i]? = some r) : ∃ e, es[i]? = some e ∧ H r = some (.tup [.str e.1, .str e.2.1, .int e.2.2]) := LiI.paired_get p h
theorem crs_snoc (g : Str → Int) (ts : List (Str × Str)) (p : Str × Str) : crs g (ts ++ [p]) = crs g ts ++ (if 0 < g p.1 then [(p.2, p.1, g p.1)] else if g p.1 < 0 then [(p.1, p.2, - g p.1)] else []) := by
  unfold crs
  rw [List.flatMap_append, List.flatMap_cons, List.flatMap_nil, List.append_nil]
theorem crs_len (g : Str → Int) : ∀ ts : List (Str × Str), (crs g ts).length ≤ ts.length
  | [] => Nat.le_refl _
  | p :: ts => by
    unfold crs
    rw [List.flatMap_cons, List.length_append, List.length_cons]
    have i := crs_len g ts
    unfold crs at i
    have : (if 0 < g p.1 then [(p.2, p.1, g p.1)] else if g p.1 < 0 then [(p.1, p.2, - g p.1)] else []).length ≤ 1 := by
      split
      · exact Nat.le_refl _
      · split
        · exact Nat.le_refl _
        · exact Nat.zero_le _
    omega
def spCross (CF : Addr) : Sp := fun vs H Q _ => ∃ (x q : Addr) (ts : List (Str × Str)) (g : Str → Int), vs = [.ref x, .ref q] ∧ FAt CF H x ts ∧ TreeOk ts ∧ H q = some (.dK (tblI (ts.map Prod.fst) g)) ∧
  ∀ p rs H', Same H H' → H p = none → H' p = some (.lst (rs.map V.ref)) → EdG H' rs (crs g ts) → Q (.ref p) H'
end FT


/-! lists of pairs of a text and a value; dict(..) of them. -/
namespace FT
open PySem L2 TL ClX
/-- pairs (a, g a) at the addresses rs -/
def PrG (g : Str → V) (H : Hp) (rs : List Addr) (l : List Str) : Prop := Paired (fun (r : Addr) (a : Str) => H r = some (.tup [.str a, g a])) rs l
theorem PrG.imp {g : Str → V} {H H' : Hp} (m : ∀ r (a : Str), H r = some (.tup [.str a, g a]) → H' r = some (.tup [.str a, g a])) : ∀ {rs : List Addr} {l : List Str}, PrG g H rs l → PrG g H' rs l
  | _, _, .nil => .nil
  | _, _, .cons h t => .cons (m _ _ h) (PrG.imp m t)
theorem PrG.mono {g : Str → V} {H H' : Hp} {rs : List Addr} {l : List Str} (s : Same H H') (p : PrG g H rs l) : PrG g H' rs l := p.imp fun r a e => s _ _ e
theorem PrG.push {g : Str → V} {H : Hp} {rs : List Addr} {l : List Str} {D : Addr} {xs : List V} {o : HO} (e : H D = some (.lst xs)) (p : PrG g H rs l) : PrG g (upd H D o) rs l := p.imp fun r a q => by
  rw [upd_ne (ne_of q e (by intro z; cases z))]
  exact q
theorem PrG.snoc {g : Str → V} {H : Hp} {r : Addr} {a : Str} (h : H r = some (.tup [.str a, g a])) : ∀ {rs : List Addr} {l : List Str}, PrG g H rs l → PrG g H (rs ++ [r]) (l ++ [a])
  | _, _, .nil => .cons h .nil
  | _, _, .cons q t => .cons q (PrG.snoc h t)
theorem PrG.len {g : Str → V} {H : Hp} : ∀ {rs : List Addr} {l : List Str}, PrG g H rs l → rs.length = l.length
  | _, _, .nil => rfl
  | _, _, .cons _ t => congrArg (· + 1) (PrG.len t)
theorem PrG.at_ {g : Str → V} {H : Hp} {rs : List Addr} {l : List Str} (p : PrG g H rs l) {i : Nat} {r : Addr} (h : rs[i]? = some r) : ∃ a, l[i]? = some a ∧ H r = some (.tup [.str a, g a]) := LiI.paired_get p h
/-- as dict(..) asks it -/
theorem PrG.kvs {K : PySem.W.Frag} {g : Str → V} {H : Hp} : ∀ {rs : List Addr} {l : List Str}, PrG g H rs l → Paired (fun (p : Addr) (kv : Key × V) => SqT K H p [kV kv.1, kv.2]) rs (kvT (l.map fun a => (a, g a)))
  | _, _, .nil => .nil
  | _, _, .cons h t => .cons (.inl (.inl h)) (PrG.kvs t)
theorem merge_app : ∀ (more : List (Str × V)) (acc : List (Str × V)), ((acc ++ more).map Prod.fst).Nodup → mergeK (kvT acc) (kvT more) = kvT (acc ++ more)
  | [], acc, _ => by rw [List.append_nil] <;> rfl
  | p :: more, acc, nd => by
    have e : acc ++ p :: more = (acc ++ [p]) ++ more := by rw [List.append_assoc] <;> rfl
    have fresh : p.1 ∉ acc.map Prod.fst := fun h => by
      rw [List.map_append] at nd
      obtain ⟨_, _, d⟩ := List.nodup_append.mp nd
      exact d _ h _ (List.mem_cons_self ..) rfl
    show mergeK (putK (kvT acc) (Sum.inr p.1) p.2) (kvT more) = _
    rw [kvT_put fresh, e]
    rw [e] at nd
    exact merge_app more _ nd
theorem merge_nd {l : List (Str × V)} (nd : (l.map Prod.fst).Nodup) : mergeK [] (kvT l) = kvT l := merge_app l [] nd
theorem map_fst (l : List Str) (g : Str → V) : (l.map fun a => (a, g a)).map Prod.fst = l := by rw [List.map_map]; exact List.map_id _
theorem put_old {t : List (Str × Str)} {f z z' : Str} (n : f ∉ t.map Prod.fst) : putK (prs (t ++ [(f, z)])) (Sum.inr f) (V.str z') = prs (t ++ [(f, z')]) := by
  have key : ∀ t : List (Str × Str), f ∉ t.map Prod.fst → ((t.map fun p => (p.1, V.str p.2)).map fun p => if p.1 = f then (p.1, V.str z') else p) = t.map fun p => (p.1, V.str p.2) := by
    intro t
    induction t with
    | nil => intro _; rfl
    | cons p t ih =>
      intro n
      rw [List.map_cons, List.mem_cons] at n
      rw [List.map_cons, List.map_cons, ih fun h => n (.inr h), if_neg (fun e => n (.inl e.symm))]
  unfold prs
  rw [kvT_putT]
  unfold putT
  rw [prs_fst, if_pos (by rw [List.map_append]; exact List.mem_append_right _ (List.mem_cons_self ..)), List.map_append, List.map_append, List.map_append, key t n]
  congr 2
  show [if f = f then (f, V.str z') else (f, V.str z)] = [(f, V.str z')]
  rw [if_pos rfl]
/-- the place of an item -/
theorem idx_at {l : List Str} {i : Nat} {a : Str} (nd : l.Nodup) (h : l[i]? = some a) : l.idxOf a = i := by
  have m : a ∈ l := List.mem_of_getElem? h
  have lt := List.idxOf_lt_length_of_mem m
  have e : l[l.idxOf a]? = some a := by rw [List.getElem?_eq_getElem lt, List.getElem_idxOf lt]
  exact (List.getElem?_inj lt nd).mp (e.trans h.symm)
/-- a tree from the order of its making -/
theorem tree_of {t : List (Str × Str)} (h1 : 1 ≤ t.length) (h2 : t.length ≤ 12) (nd : (t.map Prod.fst).Nodup) (nm : ∀ z ∈ t.map Prod.fst, NameL z) (up : ∀ (i : Nat) (p : Str × Str), t[i]? = some p → p.2 = "" ∨ p.2 ∈ (t.map Prod.fst).take i) : TreeOk t := by
  refine ⟨h1, h2, nd, nm, fun a => (t.map Prod.fst).idxOf a, fun p hp => ?_⟩
  obtain ⟨i, hi⟩ := List.mem_iff_getElem?.mp hp
  have il := (List.getElem?_eq_some_iff.mp hi).1
  have hk : (t.map Prod.fst)[i]? = some p.1 := by rw [List.getElem?_map, hi] <;> rfl
  refine ⟨by show (t.map Prod.fst).idxOf p.1 < _; rw [idx_at nd hk]; exact il, (up i p hi).imp id fun m => ⟨List.mem_of_mem_take m, ?_⟩⟩
  show (t.map Prod.fst).idxOf p.2 < (t.map Prod.fst).idxOf p.1
  rw [idx_at nd hk]
  obtain ⟨j, hj⟩ := List.mem_iff_getElem?.mp m
  have jl := (List.getElem?_eq_some_iff.mp hj).1
  rw [List.length_take] at jl
  rw [List.getElem?_take, if_pos (by omega)] at hj
  rw [idx_at nd hj]
  omega
end FT


/-! plain: lists of users by place, how a change of sizes moves them, that the way back restores them. No program here. -/
namespace FT
open PySem L2 TL
/-! ### sums -/
theorem sum_map_add {α : Type} (f g : α → Int) : ∀ l : List α, (l.map fun x => f x + g x).sum = (l.map f).sum + (l.map g).sum
  | [] => rfl
  | a :: l => by
    rw [List.map_cons, List.map_cons, List.map_cons, List.sum_cons, List.sum_cons, List.sum_cons, sum_map_add f g l]
    omega
theorem sum_map_sub {α : Type} (f g : α → Int) : ∀ l : List α, (l.map fun x => f x - g x).sum = (l.map f).sum - (l.map g).sum
  | [] => rfl
  | a :: l => by
    rw [List.map_cons, List.map_cons, List.map_cons, List.sum_cons, List.sum_cons, List.sum_cons, sum_map_sub f g l]
    omega
theorem sum_map_mul {α : Type} (f : α → Int) (c : Int) : ∀ l : List α, (l.map fun x => c * f x).sum = c * (l.map f).sum
  | [] => by simp
  | a :: l => by
    rw [List.map_cons, List.map_cons, List.sum_cons, List.sum_cons, sum_map_mul f c l, Int.mul_add]
theorem sum_map_zero {α : Type} {f : α → Int} : ∀ {l : List α}, (∀ x ∈ l, f x = 0) → (l.map f).sum = 0
  | [], _ => rfl
  | a :: l, h => by
    rw [List.map_cons, List.sum_cons, h a (List.mem_cons_self ..), sum_map_zero fun x hx => h x (List.mem_cons_of_mem _ hx)]
    rfl
theorem sum_swap {α β : Type} (f : α → β → Int) (m : List β) : ∀ l : List α, (l.map fun x => (m.map fun y => f x y).sum).sum = (m.map fun y => (l.map fun x => f x y).sum).sum
  | [] => by
    rw [sum_map_zero (l := m) (f := fun y => (([] : List α).map fun x => f x y).sum) fun _ _ => rfl] <;> rfl
  | a :: l => by
    rw [List.map_cons, List.sum_cons, sum_swap f m l, ← sum_map_add] <;> rfl
theorem sum_one {α : Type} [DecidableEq α] {f : α → Int} {a : α} : ∀ {l : List α}, l.Nodup → (l.map fun x => if x = a then f x else 0).sum = if a ∈ l then f a else 0
  | [], _ => rfl
  | b :: l, nd => by
    obtain ⟨n1, n2⟩ := List.nodup_cons.mp nd
    rw [List.map_cons, List.sum_cons, sum_one n2]
    by_cases e : b = a
    · subst e
      rw [if_pos rfl, if_neg n1, if_pos (List.mem_cons_self ..)]
      omega
    · rw [if_neg e, Int.zero_add]
      by_cases m : a ∈ l
      · rw [if_pos m, if_pos (List.mem_cons_of_mem _ m)]
      · rw [if_neg m, if_neg fun z => (List.mem_cons.mp z).elim (fun z => e z.symm) m]
/-! ### places, neighbours -/
def pls (ts : List (Str × Str)) : List Str := "" :: ts.map Prod.fst
theorem pls_nd {ts : List (Str × Str)} (o : TreeOk ts) : (pls ts).Nodup := List.nodup_cons.mpr ⟨o.root, o.nd⟩
theorem mem_pls {ts : List (Str × Str)} {a : Str} : a ∈ pls ts ↔ Pl ts a := List.mem_cons
theorem pls_len (ts : List (Str × Str)) : (pls ts).length = ts.length + 1 := by unfold pls; rw [List.length_cons, List.length_map]
theorem kids_cons (q : Str × Str) (ts : List (Str × Str)) (p : Str) : kids (q :: ts) p = (if q.2 = p then [q.1] else []) ++ kids ts p := by
  unfold kids
  rw [List.filter_cons]
  by_cases e : q.2 = p
  · rw [if_pos e, if_pos (decide_eq_true e)] <;> rfl
  · rw [if_neg e, if_neg (by rw [decide_eq_false e]; decide)] <;> rfl
/-- a sum over the children of places is a sum over the flags -/
theorem kids_sum {F : List Str} (nd : F.Nodup) (f : Str → Str → Int) : ∀ ts : List (Str × Str), (F.map fun p => ((kids ts p).map fun k => f k p).sum).sum = (ts.map fun q => if q.2 ∈ F then f q.1 q.2 else 0).sum
  | [] => sum_map_zero fun _ _ => rfl
  | q :: ts => by
    rw [List.map_cons, List.sum_cons, ← kids_sum nd f ts]
    rw [show (F.map fun p => ((kids (q :: ts) p).map fun k => f k p).sum) = F.map fun p => (if p = q.2 then f q.1 p else 0) + ((kids ts p).map fun k => f k p).sum from List.map_congr_left fun p _ => ?_, sum_map_add, sum_one nd]
    rw [kids_cons, List.map_append, List.sum_append]
    by_cases e : q.2 = p
    · rw [if_pos e, if_pos e.symm]
      show f q.1 p + 0 + _ = _
      omega
    · rw [if_neg e, if_neg fun z => e z.symm] <;> rfl
theorem mem_kids {ts : List (Str × Str)} {k p : Str} : k ∈ kids ts p ↔ (k, p) ∈ ts := by
  unfold kids
  constructor
  · intro h
    obtain ⟨q, hq, e⟩ := List.mem_map.mp h
    obtain ⟨h1, h2⟩ := List.mem_filter.mp hq
    rw [← e, ← of_decide_eq_true h2]
    exact h1
  · exact fun h => List.mem_map.mpr ⟨_, List.mem_filter.mpr ⟨h, decide_eq_true rfl⟩, rfl⟩
theorem kid_par {ts : List (Str × Str)} (o : TreeOk ts) {k p : Str} : k ∈ kids ts p ↔ par ts k = some p := ⟨fun h => par_of o.nd (mem_kids.mp h), fun h => mem_kids.mpr (par_mem h)⟩
theorem kids_nd {ts : List (Str × Str)} (o : TreeOk ts) (p : Str) : (kids ts p).Nodup := o.nd.sublist ((List.filter_sublist (p := fun q : Str × Str => decide (q.2 = p)) (l := ts)).map Prod.fst)
theorem par_flag {ts : List (Str × Str)} {a z : Str} (h : par ts a = some z) : a ∈ ts.map Prod.fst := List.mem_map.mpr ⟨_, par_mem h, rfl⟩
theorem par_pl {ts : List (Str × Str)} (o : TreeOk ts) {a z : Str} (h : par ts a = some z) : Pl ts z := by
  obtain ⟨rk, r⟩ := o.up
  exact (r _ (par_mem h)).2.imp id And.left
theorem par_root {ts : List (Str × Str)} (o : TreeOk ts) : par ts "" = none := par_none o.root
/-- no flag is above its parent -/
theorem par_once {ts : List (Str × Str)} (o : TreeOk ts) {a b : Str} (h : par ts a = some b) (h2 : par ts b = some a) : False := by
  obtain ⟨rk, r⟩ := o.up
  have h3 := (r _ (par_mem h)).2
  have h4 := (r _ (par_mem h2)).2
  rcases h3 with e | ⟨_, h3⟩
  · have e : b = "" := e
    rw [e, par_root o] at h2
    cases h2
  · rcases h4 with e | ⟨_, h4⟩
    · have e : a = "" := e
      rw [e, par_root o] at h
      cases h
    · have h3 : rk b < rk a := h3
      have h4 : rk a < rk b := h4
      omega
/-- the other ends of the edges of a place -/
def adj (ts : List (Str × Str)) (p : Str) : List Str := (if p = "" then [] else [(par ts p).getD ""]) ++ kids ts p
theorem mem_adj {ts : List (Str × Str)} (o : TreeOk ts) {a b : Str} (h : Pl ts b) : a ∈ adj ts b ↔ par ts b = some a ∨ par ts a = some b := by
  unfold adj
  rw [List.mem_append, kid_par o]
  refine or_congr ?_ .rfl
  by_cases e : b = ""
  · subst e
    rw [if_pos rfl, par_root o]
    exact ⟨(fun z => nomatch z), (fun z => nomatch z)⟩
  · rw [if_neg e, List.mem_singleton]
    obtain ⟨z, hz⟩ := par_some o.nd (h.resolve_left e)
    rw [hz]
    exact ⟨fun q => by rw [q] <;> rfl, fun q => (Option.some.inj q).symm⟩
theorem adj_nd {ts : List (Str × Str)} (o : TreeOk ts) {p : Str} (h : Pl ts p) : (adj ts p).Nodup := by
  unfold adj
  by_cases e : p = ""
  · rw [if_pos e]
    exact kids_nd o p
  · rw [if_neg e]
    refine List.nodup_cons.mpr ⟨fun m => ?_, kids_nd o p⟩
    obtain ⟨z, hz⟩ := par_some o.nd (h.resolve_left e)
    rw [hz] at m
    exact par_once o hz ((kid_par o).mp m)
theorem adj_pl {ts : List (Str × Str)} (o : TreeOk ts) {a b : Str} (h : Pl ts b) (m : a ∈ adj ts b) : Pl ts a := by
  rcases (mem_adj o h).mp m with z | z
  · exact par_pl o z
  · exact .inr (par_flag z)
theorem adj_sym {ts : List (Str × Str)} (o : TreeOk ts) {a b : Str} (h : Pl ts b) (m : a ∈ adj ts b) : b ∈ adj ts a := (mem_adj o (adj_pl o h m)).mpr ((mem_adj o h).mp m).symm
/-! ### how many users cross an edge -/
def lv (ts : List (Str × Str)) (c : Str → Int) (p o : Str) : Nat := if par ts o = some p ∧ 0 < c o then (c o).toNat else if par ts p = some o ∧ c p < 0 then (- c p).toNat else 0
theorem lv_neg {ts : List (Str × Str)} (o : TreeOk ts) {c d : Str → Int} (hd : ∀ x, d x = - c x) (a b : Str) : lv ts d a b = lv ts c b a := by
  have da := hd a
  have db := hd b
  unfold lv
  by_cases h1 : par ts b = some a
  · have h2 : ¬ par ts a = some b := fun z => par_once o h1 z
    rw [if_neg (show ¬ (par ts a = some b ∧ d a < 0) from fun z => h2 z.1), if_neg (show ¬ (par ts a = some b ∧ 0 < c a) from fun z => h2 z.1)]
    by_cases n : c b < 0
    · rw [if_pos ⟨h1, by omega⟩, if_pos ⟨h1, n⟩, db]
    · rw [if_neg fun z => n (by have := z.2; omega), if_neg fun z => n z.2]
  · rw [if_neg (show ¬ (par ts b = some a ∧ 0 < d b) from fun z => h1 z.1), if_neg (show ¬ (par ts b = some a ∧ c b < 0) from fun z => h1 z.1)]
    by_cases h2 : par ts a = some b
    · by_cases n : 0 < c a
      · rw [if_pos ⟨h2, by omega⟩, if_pos ⟨h2, n⟩, da]
        congr 1
        omega
      · rw [if_neg fun z => n (by have := z.2; omega), if_neg fun z => n z.2]
    · rw [if_neg fun z => h2 z.1, if_neg fun z => h2 z.1]
theorem lv_adj {ts : List (Str × Str)} (o : TreeOk ts) {c : Str → Int} {a b : Str} (h : 0 < lv ts c a b) : Pl ts a ∧ Pl ts b ∧ a ∈ adj ts b ∧ ((par ts b = some a ∧ 0 < c b) ∨ (par ts a = some b ∧ c a < 0)) := by
  unfold lv at h
  by_cases h1 : par ts b = some a ∧ 0 < c b
  · have hb : Pl ts b := .inr (par_flag h1.1)
    exact ⟨par_pl o h1.1, hb, (mem_adj o hb).mpr (.inl h1.1), .inl h1⟩
  · rw [if_neg h1] at h
    by_cases h2 : par ts a = some b ∧ c a < 0
    · have hb := par_pl o h2.1
      exact ⟨.inr (par_flag h2.1), hb, (mem_adj o hb).mpr (.inr h2.1), .inr h2⟩
    · rw [if_neg h2] at h
      omega
/-- what a place gets less what it gives -/
theorem lv_net {ts : List (Str × Str)} (o : TreeOk ts) (c : Str → Int) {p : Str} (h : Pl ts p) : ((adj ts p).map fun x => (lv ts c x p : Int)).sum - ((adj ts p).map fun x => (lv ts c p x : Int)).sum = (if p = "" then 0 else c p) - ((kids ts p).map c).sum := by
  have kid : ∀ k ∈ kids ts p, (lv ts c k p : Int) - (lv ts c p k : Int) = - c k := fun k hk => by
    have e := (kid_par o).mp hk
    have n : ¬ par ts p = some k := fun z => par_once o e z
    unfold lv
    rw [if_neg fun z => n z.1, if_neg (show ¬ (par ts p = some k ∧ c p < 0) from fun z => n z.1)]
    by_cases h1 : c k < 0
    · rw [if_pos ⟨e, h1⟩, if_neg fun z => by have := z.2; omega]
      omega
    · rw [if_neg fun z => h1 z.2]
      by_cases h2 : 0 < c k
      · rw [if_pos ⟨e, h2⟩]
        omega
      · rw [if_neg fun z => h2 z.2]
        omega
  have ks : ((kids ts p).map fun x => (lv ts c x p : Int)).sum - ((kids ts p).map fun x => (lv ts c p x : Int)).sum = - ((kids ts p).map c).sum := by
    rw [← sum_map_sub, List.map_congr_left kid]
    have := sum_map_mul c (-1) (kids ts p)
    rw [show (fun x => -1 * c x) = fun x => - c x from funext fun x => by omega] at this
    omega
  unfold adj
  rw [List.map_append, List.map_append, List.sum_append, List.sum_append]
  by_cases e : p = ""
  · rw [if_pos e, if_pos e]
    show (0 + _) - (0 + _) = _
    omega
  · rw [if_neg e, if_neg e]
    obtain ⟨z, hz⟩ := par_some o.nd (h.resolve_left e)
    rw [hz]
    have n : ¬ par ts z = some p := fun w => par_once o hz w
    have one : (lv ts c z p : Int) - (lv ts c p z : Int) = c p := by
      unfold lv
      rw [if_neg (show ¬ (par ts z = some p ∧ 0 < c z) from fun w => n w.1), if_neg (show ¬ (par ts z = some p ∧ c z < 0) from fun w => n w.1)]
      by_cases h1 : 0 < c p
      · rw [if_pos ⟨hz, h1⟩, if_neg fun w => by have := w.2; omega]
        omega
      · rw [if_neg fun w => h1 w.2]
        by_cases h2 : c p < 0
        · rw [if_pos ⟨hz, h2⟩]
          omega
        · rw [if_neg fun w => h2 w.2]
          omega
    show ((lv ts c z p : Int) + 0 + _) - ((lv ts c p z : Int) + 0 + _) = _
    omega
/-! ### an order of the places that all moves follow -/
def sg (z : Int) : Int := if 0 < z then 1 else if z < 0 then -1 else 0
def phi (ts : List (Str × Str)) (c : Str → Int) (p : Str) : Int := ((pathOf ts p).map fun x => sg (c x)).sum
theorem sg_sum (c : Str → Int) : ∀ l : List Str, - (l.length : Int) ≤ (l.map fun x => sg (c x)).sum
  | [] => by simp
  | a :: l => by
    have i := sg_sum c l
    rw [List.map_cons, List.sum_cons, List.length_cons]
    have : -1 ≤ sg (c a) := by unfold sg; split <;> (try split) <;> omega
    omega
def lvl (ts : List (Str × Str)) (c : Str → Int) (p : Str) : Nat := (phi ts c p + 12).toNat
theorem lvl_up {ts : List (Str × Str)} (o : TreeOk ts) {c : Str → Int} {a b : Str} (h : 0 < lv ts c a b) : lvl ts c a < lvl ts c b := by
  have low : ∀ p, 0 ≤ phi ts c p + 12 := fun p => by
    have h1 := sg_sum c (pathOf ts p)
    have h2 := path_len ts p
    have h3 := o.few
    unfold phi
    omega
  have key : phi ts c a < phi ts c b := by
    obtain ⟨_, _, _, h1 | h1⟩ := lv_adj o h
    · unfold phi
      rw [path_step o (par_flag h1.1) h1.1, List.map_append, List.sum_append]
      show _ < _ + (sg (c b) + 0)
      have : sg (c b) = 1 := if_pos h1.2
      omega
    · unfold phi
      rw [path_step o (par_flag h1.1) h1.1, List.map_append, List.sum_append]
      show _ + (sg (c a) + 0) < _
      have : sg (c a) = -1 := by
        have h2 := h1.2
        unfold sg
        rw [if_neg (by omega), if_pos h2]
      omega
  have := low a
  unfold lvl
  omega
/-! ### a change moves the lists -/
/-- groups that come to a place, in the order in which they are put behind its list -/
def ins (ts : List (Str × Str)) (G : Str → Str → List Int) (p : Str) : List Int := ((adj ts p).reverse.map fun o => G o p).flatten
/-- groups that leave a place -/
def outs (ts : List (Str × Str)) (G : Str → Str → List Int) (p : Str) : List Int := ((adj ts p).reverse.map fun o => G p o).flatten
def Moved (ts : List (Str × Str)) (c : Str → Int) (L L' : Str → List Int) : Prop := ∃ G : Str → Str → List Int, (∀ p, Pl ts p → ∀ o ∈ adj ts p, (G p o).length = lv ts c p o) ∧ ∀ p, Pl ts p → L p ++ ins ts G p = L' p ++ outs ts G p
theorem moved_back {ts : List (Str × Str)} (o : TreeOk ts) {c : Str → Int} {L L' : Str → List Int} {d : Str → Int} (hd : ∀ x, d x = - c x) (m : Moved ts c L L') : Moved ts d L' L := by
  obtain ⟨G, g1, g2⟩ := m
  refine ⟨fun a b => G b a, fun p hp q hq => ?_, fun p hp => (g2 p hp).symm⟩
  rw [lv_neg o hd]
  exact g1 q (adj_pl o hp hq) p (adj_sym o hp hq)
theorem flat_len {α β : Type} (f : α → List β) : ∀ l : List α, (l.map f).flatten.length = (l.map fun x => (f x).length).sum
  | [] => rfl
  | a :: l => by rw [List.map_cons, List.flatten_cons, List.length_append, flat_len f l] <;> rfl
theorem flat_inj {α β : Type} {f g : α → List β} : ∀ {l : List α}, (∀ x ∈ l, (f x).length = (g x).length) → (l.map f).flatten = (l.map g).flatten → ∀ x ∈ l, f x = g x
  | [], _, _, x, h => nomatch h
  | a :: l, hl, e, x, h => by
    rw [List.map_cons, List.map_cons, List.flatten_cons, List.flatten_cons] at e
    obtain ⟨e1, e2⟩ := List.append_inj e (hl a (List.mem_cons_self ..))
    rcases List.mem_cons.mp h with rfl | h
    · exact e1
    · exact flat_inj (fun y hy => hl y (List.mem_cons_of_mem _ hy)) e2 x h
theorem flat_congr {α β : Type} {f g : α → List β} {l : List α} (h : ∀ x ∈ l, f x = g x) : (l.map f).flatten = (l.map g).flatten := by rw [List.map_congr_left h]
/-- a change leads to one result -/
theorem moved_one {ts : List (Str × Str)} (o : TreeOk ts) {c : Str → Int} {L A B : Str → List Int} (ma : Moved ts c L A) (mb : Moved ts c L B) : ∀ p, Pl ts p → A p = B p := by
  obtain ⟨G, g1, g2⟩ := ma
  obtain ⟨G', g1', g2'⟩ := mb
  have key : ∀ (n : Nat) (p : Str), lvl ts c p < n → Pl ts p → A p = B p ∧ ∀ q ∈ adj ts p, G p q = G' p q := by
    intro n
    induction n with
    | zero => exact fun p h => absurd h (Nat.not_lt_zero _)
    | succ n ih =>
      intro p hn hp
      have ei : ins ts G p = ins ts G' p := flat_congr fun q hq => by
        have hq := List.mem_reverse.mp hq
        have hq2 := adj_pl o hp hq
        have l1 := g1 q hq2 p (adj_sym o hp hq)
        have l2 := g1' q hq2 p (adj_sym o hp hq)
        rcases Nat.eq_zero_or_pos (lv ts c q p) with z | z
        · rw [z] at l1 l2
          rw [List.length_eq_zero_iff.mp l1, List.length_eq_zero_iff.mp l2]
        · have lt := lvl_up o z
          exact (ih q (by omega) hq2).2 p (adj_sym o hp hq)
      have e := (g2 p hp).symm.trans ((congrArg (L p ++ ·) ei).trans (g2' p hp))
      have hl : ∀ q ∈ (adj ts p).reverse, (G p q).length = (G' p q).length := fun q hq => by
        have hq := List.mem_reverse.mp hq
        rw [g1 p hp q hq, g1' p hp q hq]
      have el : (outs ts G p).length = (outs ts G' p).length := by
        unfold outs
        rw [flat_len, flat_len, List.map_congr_left hl]
      obtain ⟨e1, e2⟩ := List.append_inj' e el
      exact ⟨e1, fun q hq => flat_inj hl e2 q (List.mem_reverse.mpr hq)⟩
  exact fun p hp => (key _ p (Nat.lt_succ_self _) hp).1
/-- there and back -/
theorem there_back {ts : List (Str × Str)} (o : TreeOk ts) {c : Str → Int} {L A B : Str → List Int} {d : Str → Int} (hd : ∀ x, d x = - c x) (ma : Moved ts c L A) (mb : Moved ts d A B) : ∀ p, Pl ts p → B p = L p := moved_one o mb (moved_back o hd ma)
theorem int_sum (l : List Nat) : ((l.sum : Nat) : Int) = (l.map fun x : Nat => (x : Int)).sum := by
  induction l with
  | nil => rfl
  | cons a l ih =>
    rw [List.sum_cons, List.map_cons, List.sum_cons, ← ih]
    omega
theorem sum_rev (l : List Int) : l.reverse.sum = l.sum := sum_perm (List.reverse_perm l)
theorem ins_len {ts : List (Str × Str)} (G : Str → Str → List Int) (p : Str) : ((ins ts G p).length : Int) = ((adj ts p).map fun o => ((G o p).length : Int)).sum := by
  unfold ins
  rw [flat_len, int_sum, List.map_map, List.map_reverse, sum_rev] <;> rfl
theorem outs_len {ts : List (Str × Str)} (G : Str → Str → List Int) (p : Str) : ((outs ts G p).length : Int) = ((adj ts p).map fun o => ((G p o).length : Int)).sum := by
  unfold outs
  rw [flat_len, int_sum, List.map_map, List.map_reverse, sum_rev] <;> rfl
/-- the lengths are the residents -/
def Lens (ts : List (Str × Str)) (n : Int) (sz : Str → Int) (L : Str → List Int) : Prop := ∀ p, Pl ts p → ((L p).length : Int) = resid ts n sz p
theorem moved_lens {ts : List (Str × Str)} (o : TreeOk ts) {n : Int} {sz c : Str → Int} {L L' : Str → List Int} (m : Moved ts c L L') (h : Lens ts n sz L) : Lens ts n (fun x => sz x + c x) L' := by
  obtain ⟨G, g1, g2⟩ := m
  intro p hp
  have e := congrArg (fun l : List Int => (l.length : Int)) (g2 p hp)
  have e : ((L p ++ ins ts G p).length : Int) = ((L' p ++ outs ts G p).length : Int) := e
  rw [List.length_append, List.length_append, Int.natCast_add, Int.natCast_add, ins_len, outs_len, h p hp, List.map_congr_left (fun q hq => by rw [g1 q (adj_pl o hp hq) p (adj_sym o hp hq)]),
    List.map_congr_left (l := adj ts p) (f := fun o => ((G p o).length : Int)) (fun q hq => by rw [g1 p hp q hq])] at e
  have net := lv_net o c hp
  show _ = (if p = "" then n else sz p + c p) - ((kids ts p).map fun x => sz x + c x).sum
  unfold resid at e
  rw [sum_map_add]
  by_cases z : p = ""
  · rw [if_pos z] at e net ⊢
    omega
  · rw [if_neg z] at e net ⊢
    omega
end FT


/-! plain: sizes of lists; every user at one place; a user's way through the tree. -/
namespace FT
open PySem L2 TL
/-! ### sizes and lengths -/
def under (ts : List (Str × Str)) (a : Str) : List Str := (ts.map Prod.fst).filter fun b => decide (a ∈ pathOf ts b)
def lsz (ts : List (Str × Str)) (L : Str → List Int) (a : Str) : Int := ((under ts a).map fun b => ((L b).length : Int)).sum
theorem sum_filter {α : Type} (c : α → Bool) (f : α → Int) : ∀ l : List α, ((l.filter c).map f).sum = (l.map fun x => if c x = true then f x else 0).sum
  | [] => rfl
  | a :: l => by
    rw [List.filter_cons, List.map_cons, List.sum_cons, ← sum_filter c f l]
    by_cases e : c a = true
    · rw [if_pos e, if_pos e, List.map_cons, List.sum_cons]
    · rw [if_neg e, if_neg e, Int.zero_add]
/-- the paths' flags rank no higher -/
theorem path_rank {ts : List (Str × Str)} (o : TreeOk ts) {rk : Str → Nat} (r : Rk ts rk) : ∀ (n : Nat) (a : Str), Pl ts a → (a ≠ "" → rk a < n) → ∀ z ∈ pathOf ts a, rk z ≤ rk a := by
  intro n
  induction n with
  | zero =>
    intro a ha h z hz
    by_cases e : a = ""
    · subst e
      rw [path_root] at hz
      cases hz
    · exact absurd (h e) (Nat.not_lt_zero _)
  | succ n ih =>
    intro a ha h z hz
    by_cases e : a = ""
    · subst e
      rw [path_root] at hz
      cases hz
    · obtain ⟨p, ep, hp, _⟩ := o.step r (ha.resolve_left e)
      rw [path_step o (ha.resolve_left e) ep] at hz
      rcases List.mem_append.mp hz with hz | hz
      · have hh := h e
        rcases hp with e0 | ⟨hp, lt⟩
        · subst e0
          rw [path_root] at hz
          cases hz
        · have := ih p (.inr hp) (fun _ => by omega) z hz
          omega
      · rw [List.mem_singleton.mp hz]
        exact Nat.le_refl _
theorem not_above {ts : List (Str × Str)} (o : TreeOk ts) {a p : Str} (h : par ts a = some p) : a ∉ pathOf ts p := fun hm => by
  obtain ⟨rk, r⟩ := o.up
  have lt := (r _ (par_mem h)).2
  rcases lt with e | ⟨hp, lt⟩
  · have e : p = "" := e
    rw [e, path_root] at hm
    cases hm
  · have lt : rk p < rk a := lt
    have := path_rank o r (rk p + 1) p (.inr hp) (fun _ => Nat.lt_succ_self _) a hm
    omega
theorem path_nd {ts : List (Str × Str)} (o : TreeOk ts) {a : Str} (h : Pl ts a) : (pathOf ts a).Nodup := by
  obtain ⟨rk, r⟩ := o.up
  have key : ∀ (n : Nat) (a : Str), Pl ts a → (a ≠ "" → rk a < n) → (pathOf ts a).Nodup := by
    intro n
    induction n with
    | zero =>
      intro a ha h
      by_cases e : a = ""
      · subst e
        rw [path_root]
        exact List.nodup_nil
      · exact absurd (h e) (Nat.not_lt_zero _)
    | succ n ih =>
      intro a ha h
      by_cases e : a = ""
      · subst e
        rw [path_root]
        exact List.nodup_nil
      · obtain ⟨p, ep, hp, _⟩ := o.step r (ha.resolve_left e)
        rw [path_step o (ha.resolve_left e) ep]
        refine List.nodup_append.mpr ⟨ih p (hp.imp id And.left) (fun z => ?_), by simp, fun x hx y hy e => ?_⟩
        · have := (hp.resolve_left z).2
          have := h e
          omega
        · rw [List.mem_singleton.mp hy] at e
          subst e
          exact not_above o ep hx
  exact key (rk a + 1) a h fun _ => Nat.lt_succ_self _
def inP (ts : List (Str × Str)) (a x : Str) : Int := if a ∈ pathOf ts x then 1 else 0
theorem inP_step {ts : List (Str × Str)} (o : TreeOk ts) {x p : Str} (h : par ts x = some p) (a : Str) : inP ts a x = inP ts a p + if a = x then 1 else 0 := by
  unfold inP
  rw [path_step o (par_flag h) h]
  by_cases e : a = x
  · subst e
    rw [if_pos (List.mem_append_right _ (List.mem_singleton.mpr rfl)), if_neg (not_above o h), if_pos rfl] <;> rfl
  · rw [if_neg e]
    by_cases m : a ∈ pathOf ts p
    · rw [if_pos (List.mem_append_left _ m), if_pos m] <;> rfl
    · rw [if_neg (fun z => (List.mem_append.mp z).elim m fun z => e (List.mem_singleton.mp z)), if_neg m] <;> rfl
theorem inP_root (ts : List (Str × Str)) (a : Str) : inP ts a "" = 0 := by
  unfold inP
  rw [path_root]
  exact if_neg (by simp)
theorem lsz_inP (ts : List (Str × Str)) (L : Str → List Int) (a : Str) : lsz ts L a = ((ts.map Prod.fst).map fun b => inP ts a b * ((L b).length : Int)).sum := by
  unfold lsz under
  rw [sum_filter]
  congr 1
  refine List.map_congr_left fun b _ => ?_
  unfold inP
  by_cases m : a ∈ pathOf ts b
  · rw [if_pos (decide_eq_true m), if_pos m, Int.one_mul]
  · rw [if_neg (by rw [decide_eq_false m]; decide), if_neg m, Int.zero_mul]
/-- from lengths to sizes -/
theorem lens_lsz {ts : List (Str × Str)} (o : TreeOk ts) {n : Int} {sz : Str → Int} {L : Str → List Int} (h : Lens ts n sz L) {a : Str} (ha : a ∈ ts.map Prod.fst) : lsz ts L a = sz a := by
  rw [lsz_inP]
  have e1 : ((ts.map Prod.fst).map fun b => inP ts a b * ((L b).length : Int)) = (ts.map Prod.fst).map fun b => inP ts a b * sz b - ((kids ts b).map fun k => inP ts a b * sz k).sum := List.map_congr_left fun b hb => by
    have nb : b ≠ "" := fun z => o.root (by rw [← z]; exact hb)
    rw [h b (.inr hb), sum_map_mul, ← Int.mul_sub]
    unfold resid
    rw [if_neg nb]
  rw [e1, sum_map_sub, kids_sum o.nd (fun k b => inP ts a b * sz k), List.map_map, ← sum_map_sub]
  have e2 : (ts.map fun q => ((fun b => inP ts a b * sz b) ∘ Prod.fst) q - if q.2 ∈ ts.map Prod.fst then inP ts a q.2 * sz q.1 else 0) = ts.map fun q => if q.1 = a then sz q.1 else 0 := List.map_congr_left fun q hq => by
    have hp := par_of o.nd (show (q.1, q.2) ∈ ts from hq)
    show inP ts a q.1 * sz q.1 - _ = _
    have z : (if q.2 ∈ ts.map Prod.fst then inP ts a q.2 * sz q.1 else 0) = inP ts a q.2 * sz q.1 := by
      rcases par_pl o hp with e | m
      · rw [e, inP_root, Int.zero_mul]
        split <;> rfl
      · rw [if_pos m]
    rw [z, inP_step o hp, Int.add_mul]
    by_cases e : q.1 = a
    · rw [if_pos e.symm, if_pos e, Int.one_mul]
      omega
    · rw [if_neg (fun z => e z.symm), if_neg e, Int.zero_mul]
      omega
  rw [e2]
  have e3 := sum_one (f := sz) (a := a) o.nd
  rw [if_pos ha, List.map_map] at e3
  exact e3
/-- from sizes to lengths -/
theorem lsz_lens {ts : List (Str × Str)} (o : TreeOk ts) {n : Int} {L : Str → List Int} (h : ((pls ts).map fun p => ((L p).length : Int)).sum = n) : Lens ts n (lsz ts L) L := by
  intro p hp
  have co : ∀ (m : Nat) (rk : Str → Nat), Rk ts rk → ∀ x, Pl ts x → (x ≠ "" → rk x < m) → (if p = "" then 1 else inP ts p x) - ((kids ts p).map fun k => inP ts k x).sum = if x = p then 1 else 0 := by
    intro m rk r
    induction m with
    | zero =>
      intro x hx hm
      by_cases e : x = ""
      · subst e
        rw [sum_map_zero fun k _ => inP_root ts k, inP_root]
        by_cases z : p = ""
        · rw [if_pos z, if_pos z.symm] <;> rfl
        · rw [if_neg z, if_neg fun w => z w.symm] <;> rfl
      · exact absurd (hm e) (Nat.not_lt_zero _)
    | succ m ih =>
      intro x hx hm
      by_cases e : x = ""
      · subst e
        rw [sum_map_zero fun k _ => inP_root ts k, inP_root]
        by_cases z : p = ""
        · rw [if_pos z, if_pos z.symm] <;> rfl
        · rw [if_neg z, if_neg fun w => z w.symm] <;> rfl
      · obtain ⟨q, eq, hq, _⟩ := o.step r (hx.resolve_left e)
        have hh := hm e
        have i := ih q (hq.imp id And.left) fun z => by
          have := (hq.resolve_left z).2
          omega
        have ks : ((kids ts p).map fun k => inP ts k x).sum = ((kids ts p).map fun k => inP ts k q).sum + if q = p then 1 else 0 := by
          rw [List.map_congr_left (g := fun k => inP ts k q + if k = x then 1 else 0) fun k _ => inP_step o eq k, sum_map_add, sum_one (f := fun _ => 1) (kids_nd o p)]
          congr 1
          by_cases w : q = p
          · rw [if_pos w, if_pos ((kid_par o).mpr (by rw [← w]; exact eq))]
          · rw [if_neg w, if_neg fun z => w (Option.some.inj (eq.symm.trans ((kid_par o).mp z)))]
        rw [ks]
        by_cases z : p = ""
        · rw [if_pos z] at i ⊢
          have nx : ¬ x = p := fun w => e (w.trans z)
          rw [if_neg nx]
          omega
        · rw [if_neg z] at i ⊢
          rw [inP_step o eq p]
          by_cases w : x = p
          · rw [if_pos w, if_pos w.symm]
            omega
          · rw [if_neg w, if_neg fun v => w v.symm]
            omega
  obtain ⟨rk, r⟩ := o.up
  have co' : ∀ x ∈ pls ts, (if p = "" then 1 else inP ts p x) - ((kids ts p).map fun k => inP ts k x).sum = if x = p then 1 else 0 := fun x hx => co (rk x + 1) rk r x (mem_pls.mp hx) fun _ => Nat.lt_succ_self _
  -- sizes as sums over all places
  have sz_pls : ∀ a, lsz ts L a = ((pls ts).map fun x => inP ts a x * ((L x).length : Int)).sum := fun a => by
    rw [lsz_inP]
    unfold pls
    rw [List.map_cons, List.sum_cons, inP_root, Int.zero_mul, Int.zero_add]
  have u : (if p = "" then n else lsz ts L p) = ((pls ts).map fun x => (if p = "" then 1 else inP ts p x) * ((L x).length : Int)).sum := by
    by_cases z : p = ""
    · rw [if_pos z, ← h]
      congr 1
      refine List.map_congr_left fun x _ => ?_
      rw [if_pos z, Int.one_mul]
    · rw [if_neg z, sz_pls]
      congr 1
      refine List.map_congr_left fun x _ => ?_
      rw [if_neg z]
  unfold resid
  rw [u, List.map_congr_left (f := lsz ts L) (fun k _ => sz_pls k), sum_swap, ← sum_map_sub]
  have fin : ((pls ts).map fun x => (if p = "" then 1 else inP ts p x) * ((L x).length : Int) - ((kids ts p).map fun k => inP ts k x * ((L x).length : Int)).sum) = (pls ts).map fun x => if x = p then ((L x).length : Int) else 0 := List.map_congr_left fun x hx => by
    have c := co' x hx
    have mul : ((kids ts p).map fun k => inP ts k x * ((L x).length : Int)).sum = ((L x).length : Int) * ((kids ts p).map fun k => inP ts k x).sum := by
      rw [← sum_map_mul]
      congr 1
      exact List.map_congr_left fun k _ => Int.mul_comm _ _
    rw [mul, Int.mul_comm _ ((L x).length : Int), ← Int.mul_sub, c]
    by_cases w : x = p
    · rw [if_pos w, if_pos w, Int.mul_one]
    · rw [if_neg w, if_neg w, Int.mul_zero]
  rw [fin, sum_one (f := fun x => ((L x).length : Int)) (pls_nd o), if_pos (mem_pls.mpr hp)]
/-! ### every user at one place -/
def usr (n : Nat) : List Int := (List.range n).map fun k : Nat => (k : Int)
theorem usr_nd (n : Nat) : (usr n).Nodup := by
  unfold usr
  refine List.nodup_iff_pairwise_ne.mpr (List.pairwise_map.mpr ((List.nodup_iff_pairwise_ne.mp List.nodup_range).imp fun h e => h ?_))
  omega
theorem mem_usr {n : Nat} {u : Int} : u ∈ usr n ↔ 0 ≤ u ∧ u < n := by
  unfold usr
  rw [List.mem_map]
  constructor
  · rintro ⟨k, hk, rfl⟩
    have := List.mem_range.mp hk
    omega
  · rintro ⟨h1, h2⟩
    exact ⟨u.toNat, List.mem_range.mpr (by omega), by omega⟩
def Val (ts : List (Str × Str)) (n : Nat) (L : Str → List Int) : Prop := ((pls ts).flatMap L).Perm (usr n)
theorem adj_sum {ts : List (Str × Str)} (o : TreeOk ts) (h : Str → Str → Int) : ((pls ts).map fun p => ((adj ts p).map fun x => h x p).sum).sum = (ts.map fun q => h q.2 q.1 + h q.1 q.2).sum := by
  have e : ((pls ts).map fun p => ((adj ts p).map fun x => h x p).sum) = (pls ts).map fun p : Str => (if p = "" then 0 else h ((par ts p).getD "") p) + ((kids ts p).map fun k => h k p).sum := List.map_congr_left fun p _ => by
    unfold adj
    rw [List.map_append, List.sum_append]
    by_cases z : p = ""
    · rw [if_pos z, if_pos z] <;> rfl
    · rw [if_neg z, if_neg z]
      show (h _ p + 0) + _ = _
      omega
  rw [e, sum_map_add, kids_sum (pls_nd o), sum_map_add]
  congr 1
  · unfold pls
    rw [List.map_cons, List.sum_cons, if_pos rfl, Int.zero_add, List.map_map]
    congr 1
    refine List.map_congr_left fun q hq => ?_
    have hp := par_of o.nd (show (q.1, q.2) ∈ ts from hq)
    have nq : q.1 ≠ "" := fun z => o.root (by rw [← z]; exact par_flag hp)
    show (if q.1 = "" then 0 else h ((par ts q.1).getD "") q.1) = _
    rw [if_neg nq, hp] <;> rfl
  · congr 1
    refine List.map_congr_left fun q hq => ?_
    rw [if_pos (mem_pls.mpr (par_pl o (par_of o.nd (show (q.1, q.2) ∈ ts from hq))))]
theorem count_flat (u : Int) (L : Str → List Int) (l : List Str) : ((l.flatMap L).count u : Int) = (l.map fun p => ((L p).count u : Int)).sum := by
  rw [List.count_flatMap, int_sum, List.map_map] <;> rfl
theorem count_flat2 (u : Int) (f : Str → List Int) (l : List Str) : (((l.reverse.map f).flatten).count u : Int) = (l.map fun p => ((f p).count u : Int)).sum := by
  rw [← List.flatMap_def, count_flat, List.map_reverse, sum_rev]
theorem moved_val {ts : List (Str × Str)} (o : TreeOk ts) {c : Str → Int} {n : Nat} {L L' : Str → List Int} (m : Moved ts c L L') (h : Val ts n L) : Val ts n L' := by
  obtain ⟨G, g1, g2⟩ := m
  refine List.Perm.trans (List.perm_iff_count.mpr fun u => ?_) h
  have e : ((pls ts).map fun p => ((L p).count u : Int) + ((ins ts G p).count u : Int)).sum = ((pls ts).map fun p => ((L' p).count u : Int) + ((outs ts G p).count u : Int)).sum := by
    congr 1
    refine List.map_congr_left fun p hp => ?_
    have q := congrArg (fun l : List Int => (l.count u : Int)) (g2 p (mem_pls.mp hp))
    have q : (((L p ++ ins ts G p).count u : Nat) : Int) = (((L' p ++ outs ts G p).count u : Nat) : Int) := q
    rw [List.count_append, List.count_append, Int.natCast_add, Int.natCast_add] at q
    exact q
  rw [sum_map_add, sum_map_add, ← count_flat u L, ← count_flat u L'] at e
  have ei : ((pls ts).map fun p => ((ins ts G p).count u : Int)).sum = (ts.map fun q => ((G q.2 q.1).count u : Int) + ((G q.1 q.2).count u : Int)).sum := by
    rw [← adj_sum o fun a b => ((G a b).count u : Int)]
    congr 1
    exact List.map_congr_left fun p _ => count_flat2 u (fun x => G x p) (adj ts p)
  have eo : ((pls ts).map fun p => ((outs ts G p).count u : Int)).sum = (ts.map fun q => ((G q.1 q.2).count u : Int) + ((G q.2 q.1).count u : Int)).sum := by
    rw [← adj_sum o fun a b => ((G b a).count u : Int)]
    congr 1
    exact List.map_congr_left fun p _ => count_flat2 u (fun x => G p x) (adj ts p)
  rw [ei, eo, List.map_congr_left (g := fun q : Str × Str => ((G q.1 q.2).count u : Int) + ((G q.2 q.1).count u : Int)) fun q _ => Int.add_comm _ _] at e
  omega
theorem val_len {ts : List (Str × Str)} {n : Nat} {L : Str → List Int} (h : Val ts n L) : ((pls ts).map fun p => ((L p).length : Int)).sum = n := by
  have e := h.length_eq
  rw [List.length_flatMap] at e
  unfold usr at e
  rw [List.length_map, List.length_range] at e
  rw [← e, int_sum, List.map_map] <;> rfl
/-- the place of a user -/
def plOf (ts : List (Str × Str)) (L : Str → List Int) (u : Int) : Str := ((pls ts).find? fun p => decide (u ∈ L p)).getD ""
theorem plOf_at {ts : List (Str × Str)} {n : Nat} {L : Str → List Int} (h : Val ts n L) {u : Int} (h0 : 0 ≤ u) (h1 : u < n) : Pl ts (plOf ts L u) ∧ u ∈ L (plOf ts L u) := by
  have m : u ∈ (pls ts).flatMap L := h.mem_iff.mpr (mem_usr.mpr ⟨h0, h1⟩)
  obtain ⟨p, hp, hu⟩ := List.mem_flatMap.mp m
  unfold plOf
  cases e : (pls ts).find? fun p => decide (u ∈ L p) with
  | none => exact absurd (decide_eq_true hu) (List.find?_eq_none.mp e p hp)
  | some q => exact ⟨mem_pls.mp (List.mem_of_find?_eq_some e), of_decide_eq_true (List.find?_some (p := fun p => decide (u ∈ L p)) e)⟩
theorem one_place {ts : List (Str × Str)} {n : Nat} {L : Str → List Int} (h : Val ts n L) {u : Int} {p q : Str} (hp : Pl ts p) (hq : Pl ts q) (up : u ∈ L p) (uq : u ∈ L q) : p = q := by
  have nd : ((pls ts).flatMap L).Nodup := h.nodup_iff.mpr (usr_nd n)
  obtain ⟨_, pw⟩ := List.pairwise_flatMap.mp (List.nodup_iff_pairwise_ne.mp nd)
  obtain ⟨i, hi, ei⟩ := List.mem_iff_getElem.mp (mem_pls.mpr hp)
  obtain ⟨j, hj, ej⟩ := List.mem_iff_getElem.mp (mem_pls.mpr hq)
  have pw := List.pairwise_iff_getElem.mp pw
  rcases Nat.lt_trichotomy i j with lt | e | lt
  · exact absurd rfl (pw i j hi hj lt u (by rw [ei]; exact up) u (by rw [ej]; exact uq))
  · subst e
    exact ei.symm.trans ej
  · exact absurd rfl (pw j i hj hi lt u (by rw [ej]; exact uq) u (by rw [ei]; exact up))
theorem plOf_of {ts : List (Str × Str)} {n : Nat} {L : Str → List Int} (h : Val ts n L) {u : Int} {p : Str} (hp : Pl ts p) (up : u ∈ L p) : plOf ts L u = p := by
  have m : u ∈ (pls ts).flatMap L := List.mem_flatMap.mpr ⟨p, mem_pls.mpr hp, up⟩
  obtain ⟨h0, h1⟩ := mem_usr.mp (h.mem_iff.mp m)
  obtain ⟨a, b⟩ := plOf_at h h0 h1
  exact one_place h a hp b up
/-! ### a user's way -/
inductive Rc (ts : List (Str × Str)) (c : Str → Int) (p : Str) : Str → Prop where
  | refl : Rc ts c p p
  | step {q x : Str} : Rc ts c p q → 0 < lv ts c q x → Rc ts c p x
theorem rc_dir {ts : List (Str × Str)} (o : TreeOk ts) {c : Str → Int} {p x : Str} (h : Rc ts c p x) : ∀ f, (f ∈ pathOf ts p → f ∉ pathOf ts x → c f < 0) ∧ (f ∉ pathOf ts p → f ∈ pathOf ts x → 0 < c f) := by
  induction h with
  | refl => exact fun f => ⟨fun a b => absurd a b, fun a b => absurd b a⟩
  | @step q x _ hl ih =>
    intro f
    obtain ⟨_, _, _, ⟨e, pos⟩ | ⟨e, neg⟩⟩ := lv_adj o hl
    · rw [path_step o (par_flag e) e]
      refine ⟨fun a b => (ih f).1 a fun z => b (List.mem_append_left _ z), fun a b => ?_⟩
      rcases List.mem_append.mp b with b | b
      · exact (ih f).2 a b
      · rw [List.mem_singleton.mp b]
        exact pos
    · have ps := path_step o (par_flag e) e
      refine ⟨fun a b => ?_, fun a b => (ih f).2 a (by rw [ps]; exact List.mem_append_left _ b)⟩
      by_cases z : f ∈ pathOf ts q
      · rw [ps] at z
        rcases List.mem_append.mp z with z | z
        · exact absurd z b
        · rw [List.mem_singleton.mp z]
          exact neg
      · exact (ih f).1 a z
theorem moved_rc {ts : List (Str × Str)} (o : TreeOk ts) {c : Str → Int} {L L' : Str → List Int} (m : Moved ts c L L') {u : Int} {x : Str} (hx : Pl ts x) (hu : u ∈ L' x) : ∃ p, Pl ts p ∧ u ∈ L p ∧ Rc ts c p x := by
  obtain ⟨G, g1, g2⟩ := m
  have key : ∀ (n : Nat) (x : Str), lvl ts c x < n → Pl ts x → u ∈ L x ++ ins ts G x → ∃ p, Pl ts p ∧ u ∈ L p ∧ Rc ts c p x := by
    intro n
    induction n with
    | zero => exact fun x h => absurd h (Nat.not_lt_zero _)
    | succ n ih =>
      intro x hn hx hu
      rcases List.mem_append.mp hu with hu | hu
      · exact ⟨x, hx, hu, .refl⟩
      · obtain ⟨l, hl, hul⟩ := List.mem_flatten.mp hu
        obtain ⟨q, hq, rfl⟩ := List.mem_map.mp hl
        have hq := List.mem_reverse.mp hq
        have hq2 := adj_pl o hx hq
        have len := g1 q hq2 x (adj_sym o hx hq)
        have pos : 0 < lv ts c q x := by
          rw [← len]
          exact List.length_pos_of_mem hul
        have lt := lvl_up o pos
        have mo : u ∈ L q ++ ins ts G q := by
          rw [g2 q hq2]
          refine List.mem_append_right _ (List.mem_flatten.mpr ⟨_, List.mem_map.mpr ⟨x, List.mem_reverse.mpr (adj_sym o hx hq), rfl⟩, hul⟩)
        obtain ⟨p, hp, up, rc⟩ := ih q (by omega) hq2 mo
        exact ⟨p, hp, up, .step rc pos⟩
  exact key _ x (Nat.lt_succ_self _) hx (by rw [g2 x hx]; exact List.mem_append_left _ hu)
end FT


/-! dicts from texts to any values; lists by place in the heap. -/
namespace FT
open PySem L2 TL ClX
def tblV (l : List Str) (g : Str → V) : List (Key × V) := kvT (l.map fun a => (a, g a))
theorem tblV_int (l : List Str) (g : Str → Int) : tblI l g = tblV l fun a => .int (g a) := rfl
theorem tblV_len (l : List Str) (g : Str → V) : (tblV l g).length = l.length := by unfold tblV; rw [kvT_len, List.length_map]
theorem tblV_fst (l : List Str) (g : Str → V) : (l.map fun a => (a, g a)).map Prod.fst = l := by rw [List.map_map]; exact List.map_id _
theorem tblV_keys (l : List Str) (g : Str → V) : (tblV l g).map (·.1) = l.map Sum.inr := by unfold tblV kvT; rw [List.map_map, List.map_map] <;> rfl
theorem tblV_at {l : List Str} {g : Str → V} {i : Nat} {k : Key} {v : V} (h : (tblV l g)[i]? = some (k, v)) : ∃ a, l[i]? = some a ∧ k = Sum.inr a ∧ v = g a := by
  unfold tblV kvT at h
  rw [List.map_map, List.getElem?_map] at h
  obtain ⟨a, ha, e⟩ := Option.map_eq_some_iff.mp h
  cases e
  exact ⟨a, ha, rfl, rfl⟩
theorem tblV_val {l : List Str} {g : Str → V} {a : Str} (h : a ∈ l) : valV (tblV l g) (Sum.inr a) = some (g a) := by
  unfold tblV
  rw [kvT_val]
  induction l with
  | nil => cases h
  | cons b l ih =>
    rw [List.map_cons, look_cons]
    by_cases e : b = a
    · subst e
      exact if_pos rfl
    · rw [if_neg e]
      exact ih ((List.mem_cons.mp h).resolve_left fun z => e z.symm)
theorem tblV_none {l : List Str} {g : Str → V} {a : Str} (h : a ∉ l) : valV (tblV l g) (Sum.inr a) = none := by
  unfold tblV
  rw [kvT_val, look_none (by rw [tblV_fst]; exact h)]
theorem tblV_put {l : List Str} {g : Str → V} {a : Str} {z : V} (h : a ∈ l) : putK (tblV l g) (Sum.inr a) z = tblV l (fun p => if p = a then z else g p) := by
  unfold tblV
  rw [kvT_putT]
  unfold putT
  rw [if_pos (by rw [tblV_fst]; exact h), List.map_map]
  congr 1
  refine List.map_congr_left fun p _ => ?_
  show (if p = a then (p, z) else (p, g p)) = (p, if p = a then z else g p)
  by_cases e : p = a
  · rw [if_pos e, if_pos e]
  · rw [if_neg e, if_neg e]
theorem tblV_snoc {l : List Str} {g : Str → V} {a : Str} {z : V} (h : a ∉ l) (e : z = g a) : putK (tblV l g) (Sum.inr a) z = tblV (l ++ [a]) g := by
  unfold tblV
  rw [kvT_put (by rw [tblV_fst]; exact h), List.map_append, e] <;> rfl
theorem tblV_congr {l : List Str} {g g' : Str → V} (h : ∀ a ∈ l, g a = g' a) : tblV l g = tblV l g' := by
  unfold tblV
  rw [List.map_congr_left fun a ha => by rw [h a ha]]
theorem keys_tblV (l : List Str) (g : Str → V) : ((tblV l g).map fun kv => kV kv.1) = l.map V.str := by
  unfold tblV kvT
  rw [List.map_map, List.map_map] <;> rfl
theorem nat_fresh {l : List Str} {i : Nat} {a : Str} (nd : l.Nodup) (h : l[i]? = some a) : a ∉ l.take i := fun hm => by
  obtain ⟨j, hj⟩ := List.mem_iff_getElem?.mp hm
  have jl := (List.getElem?_eq_some_iff.mp hj).1
  rw [List.length_take] at jl
  rw [List.getElem?_take, if_pos (by omega)] at hj
  have := (List.getElem?_inj (by omega) nd).mp (hj.trans h.symm)
  omega
/-- lists by place: the dict at q, the list of p at r p -/
def LsAt (H : Hp) (q : Addr) (l : List Str) (r : Str → Addr) (L : Str → List Int) : Prop := H q = some (.dK (tblV l fun p => .ref (r p))) ∧ ∀ p ∈ l, H (r p) = some (.lst ((L p).map V.int))
theorem LsAt.mono {H H' : Hp} {q : Addr} {l : List Str} {r : Str → Addr} {L : Str → List Int} (s : Same H H') (h : LsAt H q l r L) : LsAt H' q l r L := ⟨s _ _ h.1, fun p hp => s _ _ (h.2 p hp)⟩
theorem LsAt.congr {H : Hp} {q : Addr} {l : List Str} {r : Str → Addr} {L L' : Str → List Int} (h : LsAt H q l r L) (e : ∀ p ∈ l, L p = L' p) : LsAt H q l r L' := ⟨h.1, fun p hp => by rw [h.2 p hp, e p hp]⟩
theorem LsAt.get {H : Hp} {q : Addr} {l : List Str} {r : Str → Addr} {L : Str → List Int} (h : LsAt H q l r L) {p : Str} (hp : p ∈ l) : DGet H q (.str p) (some (.ref (r p))) := by
  have z := DGet.k (k := Sum.inr p) h.1
  rw [tblV_val hp] at z
  exact z
end FT


/-! path_in, need_place, Forest.under, edges_at -/
namespace FT
open PySem L2 TL ClX
theorem Rd.same {H H' : Hp} {a : Addr} {u : HO} (s : Same H H') (h : Rd H a u) : Rd H' a u := h.imp (fun e => s _ _ e) fun ⟨o, e⟩ => ⟨o, s _ _ e⟩
theorem dget_prs {H : Hp} {q : Addr} {ts : List (Str × Str)} {a p : Str} (h : Rd H q (.dK (prs ts))) (e : par ts a = some p) : DGet H q (.str a) (some (.str p)) := .inl ⟨prs ts, Sum.inr a, h, rfl, by rw [val_prs, e] <;> rfl⟩
def spPathIn : Sp := fun vs H Q _ => ∃ (q : Addr) (ts : List (Str × Str)) (a : Str), vs = [.ref q, .str a] ∧ Rd H q (.dK (prs ts)) ∧ TreeOk ts ∧ Pl ts a ∧ ∀ p H', Same H H' → H p = none → H' p = some (.tup ((pathOf ts a).map V.str)) → Q (.ref p) H'
def spNeedPl (CF : Addr) : Sp := fun vs H Q _ => ∃ (x : Addr) (ts : List (Str × Str)) (a : Str), vs = [.ref x, .str a] ∧ FAt CF H x ts ∧ TreeOk ts ∧ Pl ts a ∧ Q .non H
def spEdgesAt (CF : Addr) : Sp := fun vs H Q _ => ∃ (x : Addr) (ts : List (Str × Str)) (a : Str), vs = [.ref x, .str a] ∧ FAt CF H x ts ∧ TreeOk ts ∧ Pl ts a ∧ ∀ p H', Same H H' → H p = none → H' p = some (.lst ((adj ts a).map V.str)) → Q (.ref p) H'
def pathLen (ts : List (Str × Str)) (σ : St) : Nat := match σ[1]? with
  | some (some (V.str a)) => (pathOf ts a).length
  | _ => 0
theorem filter_more {c : Str → Bool} {l : List Str} {i : Nat} {a : Str} (h : l[i]? = some a) : (l.take (i + 1)).filter c = (l.take i).filter c ++ if c a = true then [a] else [] := by
  rw [take_more h, List.filter_append, List.filter_cons, List.filter_nil]
section
variable {P : Program} {w : World} {K : PySem.W.Frag} {mg : Str → Option Value} {base : Heap}
abbrev NPi : List Str := ["above", "place", "path"]
theorem scPi : FnScope NPi ["above", "place"] (defScope s_path_in) := ⟨rfl, rfl, rfl, by decide +kernel, rfl, by decide +kernel, by decide +kernel⟩
theorem ok_pathIn {f : Addr} {fd : FuncData} (F : Fun K "path_in" "path_in" s_path_in f fd) (T : Nm mg) : FnOk P w K mg base CX0 1 f fd ["above", "place"] spPathIn := by
  refine F.ok scPi (fun vs H Q E h => ?_) (fun cdv A outer s H vs Q E hr h => ?_)
  · obtain ⟨q, ts, a, rfl, _⟩ := h
    rfl
  · obtain ⟨q, ts, a0, rfl, hq, o, pl0, k⟩ := h
    have hu := hu_of hr
    have nd := scPi.nd
    have big : 1000 ≤ sizeLine := by decide
    have few := o.few
    refine ⟨_, pss_cons (ps_set (i := 2) nd rfl (.inl rfl) (pe_lst pa_nil))
      (pss_cons (ps_while PassesOwn.never (pt_cmpR op_ne (pv 1) pe_str (nomark _))
        (pss_cons (ps_expr (pe_bm PySem.F.plainAttrs_list PySem.F.slot_list_append PySem.F.type_list_append mt_append (pv 2) (pa_cons (pv 1) pa_nil)))
        (pss_one (ps_set (i := 1) nd rfl (.inl rfl) (pe_dget hu (pv 0) (pv 1) (fun _ _ => rfl))))))
      (pss_one (ps_ret (pe_tupleOf (by rfl) T.tup (pe_revL (pv 2)))))), ?_⟩
    refine ⟨by show 0 ≤ sizeLine; omega, fun l nl => ?_⟩
    refine while_by (fun σ H' => ∃ (a : Str) (ws : List Str), σ = [some (.ref q), some (.str a), some (.ref l)] ∧ H' l = some (.lst (ws.map V.str)) ∧ Same H H' ∧ Pl ts a ∧ pathOf ts a0 = pathOf ts a ++ ws.reverse) (fun σ _ => pathLen ts σ)
      ⟨a0, [], rfl, upd_same, same_new nl, pl0, by rw [List.reverse_nil, List.append_nil]⟩ ?_ ?_
    · rintro σ Hx ⟨a, ws, rfl, hl, sm, pl, ep⟩
      have len := congrArg List.length ep
      have le := path_len ts a0
      rw [List.length_append, List.length_reverse] at len
      refine ⟨_, rfl, rfl, _, rfl, ?_⟩
      by_cases e : a = ""
      · rw [decide_eq_true (show V.str a = V.str "" by rw [e])]
        refine iteF ?_
        rw [e, path_root, List.nil_append] at ep
        refine ⟨_, rfl, l, _, rfl, SqL.of hl, fun p1 n1 => .inl ⟨p1, _, rfl, SqL.of upd_same, fun p2 n2 => ?_⟩⟩
        refine k p2 _ ((sm.trans (same_new n1)).trans (same_new n2)) ((sm.trans (same_new n1)).free n2) ?_
        rw [upd_same, ep, List.map_reverse]
      · rw [decide_eq_false (show ¬ V.str a = V.str "" from fun z => e (V.str.inj z))]
        show if true = true then _ else _
        rw [if_pos rfl]
        have fl := pl.resolve_left e
        obtain ⟨pa, hp⟩ := par_some o.nd fl
        have st := path_step o fl hp
        refine ⟨_, rfl, .inl ⟨rfl, _, SqL.of hl⟩, _, rfl, l, _, _, rfl, rfl, hl, by rw [List.length_map]; omega, ?_⟩
        refine ⟨_, rfl, _, rfl, q, V.str pa, rfl, dget_prs ?_ hp, ?_⟩
        · have ql : q ≠ l := by
            intro z
            rcases hq with hq | ⟨oo, hq⟩ <;> (rw [z, nl] at hq; cases hq)
          have hq' := Rd.same sm hq
          rcases hq' with h | ⟨oo, h⟩
          · exact .inl (by rw [upd_ne ql]; exact h)
          · exact .inr ⟨oo, by rw [upd_ne ql]; exact h⟩
        · refine ⟨⟨pa, ws ++ [a], rfl, by rw [upd_same, List.map_append] <;> rfl, sm.put nl, par_pl o hp, ?_⟩, ?_⟩
          · rw [ep, st, List.reverse_append, List.append_assoc] <;> rfl
          · show (pathOf ts pa).length < (pathOf ts a).length
            rw [st, List.length_append]
            exact Nat.lt_succ_self _
    · exact fun σ H Q Q' hm ⟨v, e, e2, b, eb, z⟩ => ⟨v, e, e2, b, eb, hm _ _ z⟩
abbrev NNp : List Str := ["forest", "place"]
theorem scNp : FnScope NNp ["forest", "place"] (defScope s_need_place) := ⟨rfl, rfl, rfl, by decide +kernel, rfl, by decide +kernel, by decide +kernel⟩
theorem ok_needPl {f CF : Addr} {mc : Value} {fd : FuncData} (F : Fun K "need_place" "need_place" s_need_place f fd) (T : Nm mg) (O : FoC K CF) (Z : Fc K mg CF mc) : FnOk P w K mg base CX0 1 f fd ["forest", "place"] (spNeedPl CF) := by
  obtain ⟨ur, cr⟩ := Z.root
  refine F.ok scNp (fun vs H Q E h => ?_) (fun cdv A outer s H vs Q E hr h => ?_)
  · obtain ⟨x, ts, a, rfl, _⟩ := h
    rfl
  · obtain ⟨x, ts, a, rfl, fa, o, pl, k⟩ := h
    have hu := hu_of hr
    refine ⟨_, pss_one (ps_if (PW.pt (pw_or (pt_not (pt_val (pe_callB call_isi (by rfl) T.isi (by decide +kernel) (pa_cons (pv 1) (pa_cons (pe_bltn (v := .ty "str") (u := .type "str") (by rfl) T.str (by decide +kernel) rfl) pa_nil)))))
          (pw_or1 (PW.pt (pw_and (pt_cmpR op_ne (pv 1) (pe_cval (pe_glob (v := .ref CF) (by rfl) Z.gF rfl)) (nomark _)) (pw_and1 (pt_cmp (pc_dnotin hu (pv 1) (pe_fld (pv 0) rfl))))))))) pss_never pss_nil), ?_⟩
    obtain ⟨dx, dq, hx, hd⟩ := id fa
    refine ⟨_, rfl, .str a, _, _, _, true, rfl, .ty _, .base (.str a), kit_ty (by decide +kernel), true, rfl, ?_⟩
    refine iteF ?_
    refine ⟨_, rfl, CF, mc, _, ur, rfl, Z.rd, cr, rfl, _, rfl, ?_⟩
    by_cases e : a = ""
    · rw [decide_eq_true (show V.str a = V.str "" by rw [e])]
      refine iteF ?_
      exact iteF k
    · rw [decide_eq_false (show ¬ V.str a = V.str "" from fun z => e (V.str.inj z))]
      show if true = true then _ else _
      rw [if_pos rfl]
      obtain ⟨pa, hp⟩ := par_some o.nd (pl.resolve_left e)
      refine ⟨_, rfl, _, rfl, x, CF, dx, _, .ref dq, rfl, hx, O.cl, O.nA, rfl, dq, _, rfl, dget_prs (.inl hd) hp, _, rfl, ?_⟩
      exact iteF k
end
end FT


/-! methods and properties, as a whole -/
namespace FT
open PySem L2 TL ClX
/-- a method of a class, as a whole -/
structure Mt (P : Program) (w : World) (K : PySem.W.Frag) (mg : Str → Option Value) (base : Heap) (CX : CXT) (k : Nat) (C : Addr) (m : Str) (ps : List Str) (sp : Sp) (f : Addr) (fd : FuncData) : Prop where
  mt : Meth K C m f
  fn : FnOk P w K mg base CX k f fd ps sp
  bn : Binds K fd ps []
/-- a property, at any level -/
structure PrN (P : Program) (w : World) (K : PySem.W.Frag) (mg : Str → Option Value) (base : Heap) (k : Nat) (C : Addr) (x : Str) (sp : Sp) (p g : Addr) (fd : FuncData) : Prop where
  pr : PropOf K C x p g
  fn : FnOk P w K mg base CX0 k g fd ["self"] sp
  bn : Binds K fd ["self"] []
end FT


/-! Assignment: made of valid places; its places -/
namespace FT
open PySem L2 TL ClX
/-- the class Assignment -/
structure Ac (K : PySem.W.Frag) (mg : Str → Option Value) (CA : Addr) (mc : Value) : Prop where
  gA : mg "Assignment" = some (.ref CA)
  rd : CRead K CA mc
  most : ∃ u, CVal K CA mc "MOST" (.int 60) u
  cl : Cls K CA
  nF : NoAttr K CA "own_forest"
  nP : NoAttr K CA "own_places"
/-- an assignment at y: its forest, its places -/
def AAt (CA : Addr) (H : Hp) (y x : Addr) (zs : List Str) : Prop := ∃ dy p, H y = some (.ins CA dy [("own_forest", .ref x), ("own_places", .ref p)]) ∧ H p = some (.lst (zs.map V.str))
theorem AAt.mono {CA y x : Addr} {H H' : Hp} {zs : List Str} (s : Same H H') (h : AAt CA H y x zs) : AAt CA H' y x zs := let ⟨dy, p, e1, e2⟩ := h; ⟨dy, p, s _ _ e1, s _ _ e2⟩
theorem put2a {u v : V} : putF "own_places" v [(("own_forest" : Str), u)] = [(("own_forest" : Str), u), (("own_places" : Str), v)] := by
  unfold putF
  rw [if_neg (by decide +kernel)] <;> rfl
def spAInit (CF CA : Addr) : Sp := fun vs H Q _ => ∃ (y x l dy : Addr) (ts : List (Str × Str)) (zs : List Str), vs = [.ref y, .ref x, .ref l] ∧ H y = some (.ins CA dy []) ∧ FAt CF H x ts ∧ TreeOk ts ∧ H l = some (.lst (zs.map V.str)) ∧ 1 ≤ zs.length ∧ zs.length ≤ 60 ∧ (∀ z ∈ zs, Pl ts z) ∧
  ∀ H', AAt CA H' y x zs → (∀ b o, b ≠ y → H b = some o → H' b = some o) → Q .non H'
def spAPlaces (CA : Addr) : Sp := fun vs H Q _ => ∃ (y x : Addr) (zs : List Str), vs = [.ref y] ∧ AAt CA H y x zs ∧ ∀ p, H p = none → Q (.ref p) (upd H p (.lst (zs.map V.str)))
section
variable {P : Program} {w : World} {K : PySem.W.Frag} {mg : Str → Option Value} {base : Heap}
theorem scAInit : FnScope ["self", "forest", "places", "user", "place"] ["self", "forest", "places"] (defScope s_Assignment___init__) := ⟨rfl, rfl, rfl, by decide +kernel, rfl, by decide +kernel, by decide +kernel⟩
theorem ok_ainit {f CF CA : Addr} {mc mcA : Value} {fd : FuncData} (F : Fun K "__init__" "Assignment.__init__" s_Assignment___init__ f fd) (T : Nm mg) (O : FoC K CF) (Z : Fc K mg CF mc) (B : Ac K mg CA mcA) : FnOk P w K mg base CX0 1 f fd ["self", "forest", "places"] (spAInit CF CA) := by
  obtain ⟨um, cm⟩ := B.most
  obtain ⟨ur, cr⟩ := Z.root
  refine F.ok scAInit (fun vs H Q E h => ?_) (fun cdv A outer s H vs Q E hr h => ?_)
  · obtain ⟨y, x, l, dy, ts, zs, rfl, _⟩ := h
    rfl
  · obtain ⟨y, x, l, dy, ts, zs, rfl, hy, fa, o, hl, one, few, mem, k⟩ := h
    have hu := hu_of hr
    refine ⟨_, pss_cons (ps_if (PW.pt (pw_or (pt_not (pt_val (pe_callB call_isiT (by rfl) T.isi (by decide +kernel) (pa_cons (pv 2) (pa_cons (pe_tup (pa_cons (pe_bltn (v := .ty "list") (u := .type "list") (by rfl) T.lst (by decide +kernel) rfl) (pa_cons (pe_bltn (v := .ty "tuple") (u := .type "tuple") (by rfl) T.tup (by decide +kernel) rfl) pa_nil))) pa_nil)))))
        (pw_or1 (pt_not (pt_chain op_le op_le pe_int (pe_callB call_len_seq (by rfl) T.len PySem.boot_len (pa_cons (pv 2) pa_nil)) (pe_cval (pe_glob (v := .ref CA) (by rfl) B.gA rfl))))))) pss_never pss_nil)
      (pss_cons (ps_for PassesOwn.never rfl (pi_enum rfl T.enu (pa_cons (pv 2) pa_nil)) (pg_tup rfl (pgs_cons (pg_name (i := 3) scAInit.nd rfl (.inl rfl)) (pgs_cons (pg_name (i := 4) scAInit.nd rfl (.inl rfl)) pgs_nil)))
        (pss_one (ps_if (PW.pt (pw_or (pt_not (pt_val (pe_callB call_isi (by rfl) T.isi (by decide +kernel) (pa_cons (pv 4) (pa_cons (pe_bltn (v := .ty "str") (u := .type "str") (by rfl) T.str (by decide +kernel) rfl) pa_nil)))))
          (pw_or1 (PW.pt (pw_and (pt_cmpR op_ne (pv 4) (pe_cval (pe_glob (v := .ref CF) (by rfl) Z.gF rfl)) (nomark _)) (pw_and1 (pt_cmp (pc_dnotin hu (pv 4) (pe_fld (pv 1) rfl))))))))) pss_never pss_nil)))
      (pss_cons (ps_fld (pv 0) (pv 1) rfl)
      (pss_one (ps_fld (pv 0) (pe_callTy call_list_of (by rfl) T.lst (by decide +kernel) (pa_cons (pv 2) pa_nil)) rfl)))), ?_⟩
    have big : 1000 ≤ sizeLine := by decide
    obtain ⟨dx, dq, hx, hd⟩ := fa
    refine ⟨_, rfl, by show 2 ≤ sizeLine; omega, fun tp ntp => ?_⟩
    have s1 := same_new (o := .tup [.ty "list", .ty "tuple"]) ntp
    refine ⟨.ref l, tp, [.ty "list", .ty "tuple"], _, [.type "list", .type "tuple"], true, rfl, upd_same, .cons (.ty _) (.cons (.ty _) .nil), .base (.lst (s1 _ _ hl)), kitAny_cons (b := true) (kit_ty (by decide +kernel)) (fun z => nomatch z) (fun _ => rfl), true, rfl, ?_⟩
    refine iteF ?_
    obtain ⟨H1, e1⟩ : ∃ X, X = upd H tp (.tup [.ty "list", .ty "tuple"]) := ⟨_, rfl⟩
    rw [← e1] at s1 ⊢
    have hl1 := s1 _ _ hl
    refine ⟨_, rfl, l, _, rfl, .inl (SqL.of hl1), _, _, rfl, rfl, _, rfl, ?_⟩
    have ll : (zs.map V.str).length = zs.length := List.length_map ..
    rw [if_pos (decide_eq_true (by omega))]
    refine ⟨CA, mcA, _, um, rfl, B.rd, cm, _, _, rfl, rfl, _, rfl, ?_⟩
    rw [decide_eq_true (show ((zs.map V.str).length : Int) ≤ 60 by omega)]
    refine iteF ?_
    refine ⟨_, rfl, l, _, rfl, SqL.of hl1, ?_⟩
    refine for_it walk_enum (fun j σ' H' => (∃ u3 u4, σ' = [some (.ref y), some (.ref x), some (.ref l), u3, u4]) ∧ Same H1 H') ⟨⟨_, _, rfl⟩, fun _ _ e => e⟩ (fun j σ' H' _ z => SqL.of (z.2 _ _ hl1)) ?_ ?_
    · intro j T' σ' Ha Hb hj ⟨⟨u3, u4, e⟩, sa⟩ ⟨Tp, i, z, eT, nT, eH, ey, ez⟩
      subst e
      subst eT
      subst eH
      cases ey
      obtain ⟨a, ha, rfl⟩ := map_of (show (zs.map V.str)[j]? = some z from ez)
      have ma := mem a (List.mem_of_getElem? ha)
      have sT := same_new (o := .tup [.int (j : Int), .str a]) nT
      have hx2 := sT _ _ (sa _ _ (s1 _ _ hx))
      have hd2 := sT _ _ (sa _ _ (s1 _ _ hd))
      refine ⟨Tp, _, rfl, .inl (.inl upd_same), rfl, ?_⟩
      refine ⟨_, _, rfl, _, _, rfl, rfl, ?_⟩
      refine ⟨_, rfl, .str a, _, _, _, true, rfl, .ty _, .base (.str a), kit_ty (by decide +kernel), true, rfl, ?_⟩
      refine iteF ?_
      refine ⟨_, rfl, CF, mc, _, ur, rfl, Z.rd, cr, rfl, _, rfl, ?_⟩
      by_cases e0 : a = ""
      · rw [decide_eq_true (show V.str a = V.str "" by rw [e0])]
        refine iteF ?_
        exact iteF ⟨⟨_, _, rfl⟩, sa.trans sT⟩
      · rw [decide_eq_false (show ¬ V.str a = V.str "" from fun z => e0 (V.str.inj z))]
        show if true = true then _ else _
        rw [if_pos rfl]
        obtain ⟨pa, hp⟩ := par_some o.nd (ma.resolve_left e0)
        refine ⟨_, rfl, _, rfl, x, CF, dx, _, .ref dq, rfl, hx2, O.cl, O.nA, rfl, dq, _, rfl, dget_prs (.inl hd2) hp, _, rfl, ?_⟩
        exact iteF ⟨⟨_, _, rfl⟩, sa.trans sT⟩
    · intro σ' H2 ⟨⟨u3, u4, e⟩, sa⟩
      subst e
      have s2 : Same H H2 := s1.trans sa
      have hy2 := s2 _ _ hy
      have hl2 := s2 _ _ hl
      have yl : l ≠ y := ne_of hl2 hy2 (by intro z; cases z)
      refine ⟨_, rfl, _, rfl, y, CA, dy, [], rfl, hy2, B.cl, B.nF, by show 0 < 1000; decide, ?_⟩
      refine ⟨_, rfl, l, _, rfl, .inl (SqL.of (by rw [upd_ne yl]; exact hl2)), fun p np => ?_⟩
      have yp : y ≠ p := ne_of_none upd_same np
      refine ⟨_, rfl, y, CA, dy, [("own_forest", .ref x)], rfl, by rw [upd_ne yp, upd_same] <;> rfl, B.cl, B.nP, by show 1 < 1000; decide, ?_⟩
      rw [put2a]
      refine k _ ⟨dy, p, upd_same, by rw [upd_ne yp.symm, upd_same]⟩ fun b o by_ e => ?_
      have np2 : H2 p = none := by
        rw [upd_ne yp.symm] at np
        exact np
      rw [upd_ne by_, upd_ne (ne_of_none (s2 _ _ e) np2), upd_ne by_]
      exact s2 _ _ e
theorem scAPlaces : FnScope ["self"] ["self"] (defScope s_Assignment_places) := ⟨rfl, rfl, rfl, by decide +kernel, rfl, by decide +kernel, by decide +kernel⟩
theorem ok_aplaces {f CA : Addr} {mcA : Value} {fd : FuncData} (F : Fun K "places" "Assignment.places" s_Assignment_places f fd) (T : Nm mg) (B : Ac K mg CA mcA) : FnOk P w K mg base CX0 1 f fd ["self"] (spAPlaces CA) := by
  refine F.ok scAPlaces (fun vs H Q E h => ?_) (fun cdv A outer s H vs Q E hr h => ?_)
  · obtain ⟨y, x, zs, rfl, _⟩ := h
    rfl
  · obtain ⟨y, x, zs, rfl, ⟨dy, p, hy, hp⟩, k⟩ := h
    refine ⟨_, pss_one (ps_ret (pe_callTy call_list_of (by rfl) T.lst (by decide +kernel) (pa_cons (pe_fld (pv 0) rfl) pa_nil))), ?_⟩
    exact ⟨_, rfl, y, CA, dy, _, .ref p, rfl, hy, B.cl, B.nP, rfl, p, _, rfl, .inl (SqL.of hp), fun q nq => k q nq⟩
end
end FT


/-! Assignment: forest, total, sizes, users_of, at -/
namespace FT
open PySem L2 TL ClX LiI
/-- the numbers below n with a mark -/
def selU (n : Nat) (c : Nat → Bool) : List Int := ((List.range n).filter c).map fun i : Nat => (i : Int)
theorem selU_zero (c : Nat → Bool) : selU 0 c = [] := rfl
theorem selU_more (n : Nat) (c : Nat → Bool) : selU (n + 1) c = selU n c ++ if c n = true then [(n : Int)] else [] := by
  unfold selU
  rw [List.range_succ, List.filter_append, List.map_append]
  by_cases h : c n = true
  · rw [if_pos h, List.filter_cons, if_pos h] <;> rfl
  · rw [if_neg h, List.filter_cons, if_neg h] <;> rfl
theorem selU_len (n : Nat) (c : Nat → Bool) : (selU n c).length ≤ n := by
  unfold selU
  rw [List.length_map]
  have := List.length_filter_le c (List.range n)
  rw [List.length_range] at this
  exact this
theorem mem_selU {n : Nat} {c : Nat → Bool} {u : Int} : u ∈ selU n c ↔ ∃ i : Nat, u = i ∧ i < n ∧ c i = true := by
  unfold selU
  rw [List.mem_map]
  constructor
  · rintro ⟨i, hi, rfl⟩
    obtain ⟨h1, h2⟩ := List.mem_filter.mp hi
    exact ⟨i, rfl, List.mem_range.mp h1, h2⟩
  · rintro ⟨i, rfl, h1, h2⟩
    exact ⟨i, List.mem_filter.mpr ⟨List.mem_range.mpr h1, h2⟩, rfl⟩
def atC (zs : List Str) (p : Str) (i : Nat) : Bool := decide (zs[i]? = some p)
def hasC (ts : List (Str × Str)) (zs : List Str) (a : Str) (i : Nat) : Bool := match zs[i]? with
  | some z => decide (a ∈ pathOf ts z)
  | none => false
/-- the users at a place; those that have a flag; how many -/
def atU (zs : List Str) (p : Str) : List Int := selU zs.length (atC zs p)
def hasU (ts : List (Str × Str)) (zs : List Str) (a : Str) : List Int := selU zs.length (hasC ts zs a)
def szZ (ts : List (Str × Str)) (zs : List Str) (a : Str) : Int := ((zs.filter fun z => decide (a ∈ pathOf ts z)).length : Int)
theorem szZ_more {ts : List (Str × Str)} {zs : List Str} {z a : Str} {j : Nat} (h : zs[j]? = some z) : szZ ts (zs.take (j + 1)) a = szZ ts (zs.take j) a + if a ∈ pathOf ts z then 1 else 0 := by
  unfold szZ
  rw [take_more h, List.filter_append, List.length_append]
  by_cases m : a ∈ pathOf ts z
  · rw [if_pos m, List.filter_cons, if_pos (decide_eq_true m)] <;> rfl
  · rw [if_neg m, List.filter_cons, if_neg (by rw [decide_eq_false m]; decide)] <;> rfl
def spAForest (CA : Addr) : Sp := fun vs H Q _ => ∃ (y x : Addr) (zs : List Str), vs = [.ref y] ∧ AAt CA H y x zs ∧ Q (.ref x) H
def spATotal (CA : Addr) : Sp := fun vs H Q _ => ∃ (y x : Addr) (zs : List Str), vs = [.ref y] ∧ AAt CA H y x zs ∧ Q (.int (zs.length : Int)) H
def spSizesOf (CF : Addr) : Sp := fun vs H Q _ => ∃ (x l : Addr) (ts : List (Str × Str)) (zs : List Str), vs = [.ref x, .ref l] ∧ FAt CF H x ts ∧ TreeOk ts ∧ H l = some (.lst (zs.map V.str)) ∧ (∀ z ∈ zs, Pl ts z) ∧
  ∀ (p : Addr) (H' : Hp), Same H H' → H p = none → H' p = some (.dK (tblI (ts.map Prod.fst) (szZ ts zs))) → Q (.ref p) H'
def spASizes (CF CA : Addr) : Sp := fun vs H Q _ => ∃ (y x : Addr) (ts : List (Str × Str)) (zs : List Str), vs = [.ref y] ∧ AAt CA H y x zs ∧ FAt CF H x ts ∧ TreeOk ts ∧ (∀ z ∈ zs, Pl ts z) ∧
  ∀ (p : Addr) (H' : Hp), Same H H' → H p = none → H' p = some (.dK (tblI (ts.map Prod.fst) (szZ ts zs))) → Q (.ref p) H'
def spAAt (CF CA : Addr) : Sp := fun vs H Q _ => ∃ (y x : Addr) (ts : List (Str × Str)) (zs : List Str) (a : Str), vs = [.ref y, .str a] ∧ AAt CA H y x zs ∧ FAt CF H x ts ∧ TreeOk ts ∧ zs.length ≤ 1000 ∧ Pl ts a ∧
  ∀ (p : Addr) (H' : Hp), Same H H' → H p = none → H' p = some (.lst ((atU zs a).map V.int)) → Q (.ref p) H'
def spAUsers (CF CA : Addr) : Sp := fun vs H Q _ => ∃ (y x : Addr) (ts : List (Str × Str)) (zs : List Str) (a : Str), vs = [.ref y, .str a] ∧ AAt CA H y x zs ∧ FAt CF H x ts ∧ TreeOk ts ∧ (∀ z ∈ zs, Pl ts z) ∧ zs.length ≤ 1000 ∧ a ∈ ts.map Prod.fst ∧
  ∀ (p : Addr) (H' : Hp), Same H H' → H p = none → H' p = some (.lst ((hasU ts zs a).map V.int)) → Q (.ref p) H'
def spNeedFl (CF : Addr) : Sp := fun vs H Q _ => ∃ (x : Addr) (ts : List (Str × Str)) (a : Str), vs = [.ref x, .str a] ∧ FAt CF H x ts ∧ TreeOk ts ∧ a ∈ ts.map Prod.fst ∧ Q .non H
section
variable {P : Program} {w : World} {K : PySem.W.Frag} {mg : Str → Option Value} {base : Heap}
theorem scAFo : FnScope ["self"] ["self"] (defScope s_Assignment_forest) := ⟨rfl, rfl, rfl, by decide +kernel, rfl, by decide +kernel, by decide +kernel⟩
theorem ok_aforest {f CA : Addr} {mcA : Value} {fd : FuncData} (F : Fun K "forest" "Assignment.forest" s_Assignment_forest f fd) (B : Ac K mg CA mcA) : FnOk P w K mg base CX0 1 f fd ["self"] (spAForest CA) := by
  refine F.ok scAFo (fun vs H Q E h => ?_) (fun cdv A outer s H vs Q E hr h => ?_)
  · obtain ⟨y, x, zs, rfl, _⟩ := h
    rfl
  · obtain ⟨y, x, zs, rfl, ⟨dy, p, hy, hp⟩, k⟩ := h
    exact ⟨_, pss_one (ps_ret (pe_fld (pv 0) rfl)), _, rfl, y, CA, dy, _, .ref x, rfl, hy, B.cl, B.nF, rfl, k⟩
theorem scATo : FnScope ["self"] ["self"] (defScope s_Assignment_total) := ⟨rfl, rfl, rfl, by decide +kernel, rfl, by decide +kernel, by decide +kernel⟩
theorem ok_atotal {f CA : Addr} {mcA : Value} {fd : FuncData} (F : Fun K "total" "Assignment.total" s_Assignment_total f fd) (T : Nm mg) (B : Ac K mg CA mcA) : FnOk P w K mg base CX0 1 f fd ["self"] (spATotal CA) := by
  refine F.ok scATo (fun vs H Q E h => ?_) (fun cdv A outer s H vs Q E hr h => ?_)
  · obtain ⟨y, x, zs, rfl, _⟩ := h
    rfl
  · obtain ⟨y, x, zs, rfl, ⟨dy, p, hy, hp⟩, k⟩ := h
    refine ⟨_, pss_one (ps_ret (pe_callB call_len_seq (by rfl) T.len PySem.boot_len (pa_cons (pe_fld (pv 0) rfl) pa_nil))), ?_⟩
    refine ⟨_, rfl, y, CA, dy, _, .ref p, rfl, hy, B.cl, B.nP, rfl, p, _, rfl, .inl (SqL.of hp), ?_⟩
    rw [List.length_map]
    exact k
abbrev NSo : List Str := ["forest", "places", "name", "found", "place"]
theorem scSo : FnScope NSo ["forest", "places"] (defScope s_sizes_of) := ⟨rfl, rfl, rfl, by decide +kernel, rfl, by decide +kernel, by decide +kernel⟩
theorem ok_sizesOf {f fP CF p1 g1 : Addr} {fd fdP fd1 : FuncData} (F : Fun K "sizes_of" "sizes_of" s_sizes_of f fd) (T : Nm mg) (O : FoC K CF) (L1 : Pr1 P w K mg base CF "flags" (spFFlags CF) p1 g1 fd1) (DP : Dn P w K mg base CX0 1 "path_in" ["above", "place"] spPathIn fP fdP) : FnOk P w K mg base CX0 3 f fd ["forest", "places"] (spSizesOf CF) := by
  refine F.ok scSo (fun vs H Q E h => ?_) (fun cdv A outer s H vs Q E hr h => ?_)
  · obtain ⟨x, l, ts, zs, rfl, _⟩ := h
    rfl
  · obtain ⟨x, l, ts, zs, rfl, fa, o, hl, pl, k⟩ := h
    have hu := hu_of hr
    have nd := scSo.nd
    have hr1 : Room 1 _ := hr.mono (by decide)
    have hr2 : Room 2 _ := hr.mono (by decide)
    have big : 1000 ≤ sizeLine := by decide
    have few := o.few
    refine ⟨_, pss_cons (ps_set (i := 3) nd rfl (.inl rfl) (pe_callTy (call_dictP rfl) (by rfl) T.dct (by decide +kernel) (pa_cons (pe_lc (own := [("name", 2)]) (g := gName 2) (tt := tYes) rfl nd (pi_list (pe_prop (pv 0) O.cl L1.pr L1.fn hr2 L1.bn .nil pass0 (by rfl)))
          (blkOk_by (N := NSo) (sc := defScope s_sizes_of) (by decide +kernel)) (fun _ _ _ _ _ => pg_name (i := 2) nd rfl (Or.inl rfl)) (fun _ _ _ _ _ => pts_nil) (fun _ _ _ _ _ => pe_tup (pa_cons (pv 2) (pa_cons pe_int pa_nil)))) pa_nil)))
      (pss_cons (ps_for PassesOwn.never rfl (pi_list (pv 1)) (pg_name (i := 4) nd rfl (.inl rfl))
        (pss_one (ps_for PassesOwn.never rfl (pi_tup (pe_call DP.ok hr1 rfl DP.mgn DP.kp DP.bn .nil pass0 (pa_cons (pe_fld (pv 0) rfl) (pa_cons (pv 4) pa_nil)))) (pg_name (i := 2) nd rfl (.inl rfl))
          (pss_one (ps_dput hu (pv 3) (pv 2) (pe_op op_add (pe_dget hu (pv 3) (pv 2) (fun _ _ => rfl)) pe_int) rfl)))))
      (pss_one (ps_ret (pv 3)))), ?_⟩
    obtain ⟨dx, dq, hx, hd⟩ := id fa
    refine ⟨_, rfl, x, dx, _, rfl, hx, x, ts, rfl, fa, fun pf nf => ⟨pf, rfl, ⟨_, SqL.of upd_same⟩, fun D nD => ?_⟩⟩
    obtain ⟨H1, e1⟩ : ∃ X, X = upd H pf (.lst ((ts.map Prod.fst).map V.str)) := ⟨_, rfl⟩
    have s1 : Same H H1 := e1 ▸ same_new nf
    have a1 : H1 pf = some (.lst ((ts.map Prod.fst).map V.str)) := by rw [e1]; exact upd_same
    rw [← e1] at nD ⊢
    refine lc_it walk_list (fun i H' => Same H1 H' ∧ ∃ rs : List Addr, H' D = some (.lst (rs.map V.ref)) ∧ PrG (fun _ => .int 0) H' rs ((ts.map Prod.fst).take i)) ⟨same_new nD, [], upd_same, .nil⟩ (fun i H' _ z => SqL.of (z.1 _ _ a1)) ?_ ?_
    · intro i y Hz Ha hi ⟨z1, rs, hD, pr⟩ ⟨eb, ex⟩
      subst eb
      obtain ⟨a, ha, rfl⟩ := map_of ex
      have lr := pr.len
      rw [List.length_take, List.length_map] at lr
      refine ⟨rfl, ?_⟩
      refine ⟨_, rfl, by show 2 ≤ sizeLine; omega, fun tq ntq => ?_⟩
      have sq : Same Ha (upd Ha tq (.tup [.str a, .int 0])) := same_new ntq
      refine ⟨_, sq _ _ hD, by rw [List.length_map]; omega, (z1.trans sq).put nD, rs ++ [tq], by rw [upd_same, List.map_append] <;> rfl, ?_⟩
      rw [take_more ha]
      exact PrG.push (sq _ _ hD) (PrG.snoc upd_same (pr.mono sq))
    intro H2 ⟨z1, rs, hD, pr⟩
    rw [List.length_map, List.take_length] at pr
    refine ⟨D, rs, _, rfl, SqL.of hD, pr.kvs, fun pd npd => ?_⟩
    rw [merge_nd (by rw [map_fst]; exact o.nd)]
    have s02 : Same H H2 := s1.trans z1
    have np0 : H pd = none := s02.free npd
    obtain ⟨H3, e3⟩ : ∃ X, X = upd H2 pd (.dK (kvT ((ts.map Prod.fst).map fun a => (a, V.int 0)))) := ⟨_, rfl⟩
    have s03 : Same H H3 := e3 ▸ s02.trans (same_new npd)
    have hp3 : H3 pd = some (.dK (tblI (ts.map Prod.fst) (szZ ts []))) := by rw [e3, upd_same] <;> rfl
    rw [← e3]
    refine ⟨_, rfl, l, rfl, ⟨_, SqL.of (s03 _ _ hl)⟩, ?_⟩
    refine for_it walk_list (fun j σ' H' => (∃ u2 u4, σ' = [some (.ref x), some (.ref l), u2, some (.ref pd), u4]) ∧ Same H H' ∧ H' pd = some (.dK (tblI (ts.map Prod.fst) (szZ ts (zs.take j))))) ⟨⟨_, _, rfl⟩, s03, by rw [List.take_zero]; exact hp3⟩ (fun j σ' H' _ z => SqL.of (z.2.1 _ _ hl)) ?_ ?_
    · intro j y σ' Hz Ha hj ⟨⟨u2, u4, e⟩, sa, hpd⟩ ⟨eb, ex⟩
      subst e
      subst eb
      obtain ⟨z, hz, rfl⟩ := map_of ex
      have mz := pl z (List.mem_of_getElem? hz)
      refine ⟨_, rfl, x, CF, dx, _, .ref dq, rfl, sa _ _ hx, O.cl, O.nA, rfl, _, rfl, dq, ts, z, rfl, .inl (sa _ _ hd), o, mz, fun pt H4 s4 npt hpt => ?_⟩
      have pdt : pd ≠ pt := ne_of_none hpd npt
      have nt0 : H pt = none := sa.free npt
      refine ⟨pt, rfl, ⟨_, .inl (.inl hpt)⟩, ?_⟩
      have nodup := path_nd o mz
      refine for_it walk_tup (fun i σ' H' => (∃ u2, σ' = [some (.ref x), some (.ref l), u2, some (.ref pd), some (.str z)]) ∧ Same H H' ∧ H' pt = some (.tup ((pathOf ts z).map V.str)) ∧ H' pd = some (.dK (tblI (ts.map Prod.fst) fun a => szZ ts (zs.take j) a + if a ∈ (pathOf ts z).take i then 1 else 0)))
        ⟨⟨_, rfl⟩, sa.trans s4, hpt, by rw [s4 _ _ hpd]; congr 2⟩ (fun i σ' H' _ w => .inl (.inl w.2.2.1)) ?_ ?_
      · intro i y2 σ2 Hy Hb hi ⟨⟨u2', e⟩, sb, hpt', hpd'⟩ ⟨eb, ex⟩
        subst e
        subst eb
        obtain ⟨b, hb, rfl⟩ := map_of ex
        have mb := path_all o mz b (List.mem_of_getElem? hb)
        have nb := nat_fresh nodup hb
        have dg : DGet Hb pd (.str b) (some (.int (szZ ts (zs.take j) b + 0))) := by
          have w := DGet.k (k := Sum.inr b) hpd'
          rw [tblI_val mb, if_neg nb] at w
          exact w
        refine ⟨_, rfl, _, rfl, pd, _, rfl, dg, _, _, rfl, rfl, _, rfl, _, rfl, pd, _, rfl, DPut.k (k := Sum.inr b) hpd' (by rw [tblI_len, List.length_map]; omega), ?_⟩
        rw [tblI_put mb]
        refine ⟨⟨_, rfl⟩, sb.put np0, by rw [upd_ne pdt.symm]; exact hpt', ?_⟩
        rw [upd_same, take_more hb]
        congr 2
        refine tblI_congr fun a _ => ?_
        by_cases w : a = b
        · rw [if_pos w, w, if_pos (List.mem_append_right _ (List.mem_singleton_self _)), Int.add_zero]
        · rw [if_neg w]
          by_cases m : a ∈ (pathOf ts z).take i
          · rw [if_pos m, if_pos (List.mem_append_left _ m)]
          · rw [if_neg m, if_neg fun h => (List.mem_append.mp h).elim m fun h => w (List.mem_singleton.mp h)]
      · intro σ2 Hb ⟨⟨u2', e⟩, sb, hpt', hpd'⟩
        subst e
        rw [List.length_map, List.take_length] at hpd'
        refine ⟨⟨_, _, rfl⟩, sb, ?_⟩
        rw [hpd']
        congr 2
        exact tblI_congr fun a _ => (szZ_more hz).symm
    · intro σ' H4 ⟨⟨u2, u4, e⟩, sa, hpd⟩
      subst e
      rw [List.length_map, List.take_length] at hpd
      exact ⟨_, rfl, k pd H4 sa np0 hpd⟩
theorem scASz : FnScope ["self"] ["self"] (defScope s_Assignment_sizes) := ⟨rfl, rfl, rfl, by decide +kernel, rfl, by decide +kernel, by decide +kernel⟩
theorem ok_asizes {f fS CF CA : Addr} {mcA : Value} {fd fdS : FuncData} (F : Fun K "sizes" "Assignment.sizes" s_Assignment_sizes f fd) (B : Ac K mg CA mcA) (DS : Dn P w K mg base CX0 3 "sizes_of" ["forest", "places"] (spSizesOf CF) fS fdS) : FnOk P w K mg base CX0 4 f fd ["self"] (spASizes CF CA) := by
  refine F.ok scASz (fun vs H Q E h => ?_) (fun cdv A outer s H vs Q E hr h => ?_)
  · obtain ⟨y, x, ts, zs, rfl, _⟩ := h
    rfl
  · obtain ⟨y, x, ts, zs, rfl, ⟨dy, p, hy, hp⟩, fa, o, pl, k⟩ := h
    refine ⟨_, pss_one (ps_ret (pe_call DS.ok hr rfl DS.mgn DS.kp DS.bn .nil pass0 (pa_cons (pe_fld (pv 0) rfl) (pa_cons (pe_fld (pv 0) rfl) pa_nil)))), ?_⟩
    exact ⟨_, rfl, y, CA, dy, _, .ref x, rfl, hy, B.cl, B.nF, rfl, _, rfl, y, CA, dy, _, .ref p, rfl, hy, B.cl, B.nP, rfl, x, p, ts, zs, rfl, fa, o, hp, pl, k⟩
abbrev NAt : List Str := ["self", "place", "user", "other"]
theorem scAt : FnScope NAt ["self", "place"] (defScope s_Assignment_at) := ⟨rfl, rfl, rfl, by decide +kernel, rfl, by decide +kernel, by decide +kernel⟩
theorem ok_aat {f fN CF CA : Addr} {mcA : Value} {fd fdN : FuncData} (F : Fun K "at" "Assignment.at" s_Assignment_at f fd) (T : Nm mg) (B : Ac K mg CA mcA) (DN : Dn P w K mg base CX0 1 "need_place" ["forest", "place"] (spNeedPl CF) fN fdN) : FnOk P w K mg base CX0 2 f fd ["self", "place"] (spAAt CF CA) := by
  refine F.ok scAt (fun vs H Q E h => ?_) (fun cdv A outer s H vs Q E hr h => ?_)
  · obtain ⟨y, x, ts, zs, a, rfl, _⟩ := h
    rfl
  · obtain ⟨y, x, ts, zs, a, rfl, ⟨dy, p, hy, hp⟩, fa, o, few, pl, k⟩ := h
    have hu := hu_of hr
    have nd := scAt.nd
    have big : 1000 ≤ sizeLine := by decide
    refine ⟨_, pss_cons (ps_expr (pe_call DN.ok hr rfl DN.mgn DN.kp DN.bn .nil pass0 (pa_cons (pe_fld (pv 0) rfl) (pa_cons (pv 1) pa_nil))))
      (pss_one (ps_ret (pe_lc (own := [("user", 2), ("other", 3)]) (g := gTup K 2 (gCons (gName 2) (gCons (gName 3) gNil))) (tt := tTest (tOp rEq (tVar 3) (tVar 1))) (te := tVar 2) rfl nd (pi_enum rfl T.enu (pa_cons (pe_fld (pv 0) rfl) pa_nil))
        (blkOk_by (N := NAt) (sc := defScope s_Assignment_at) (by decide +kernel)) (fun _ _ _ _ _ => pg_tup rfl (pgs_cons (pg_name (i := 2) nd rfl (Or.inl rfl)) (pgs_cons (pg_name (i := 3) nd rfl (Or.inl rfl)) pgs_nil))) (fun _ _ _ _ _ => pts_one (pt_cmpR op_eq (pv 3) (pv 1) (nomark _))) (fun _ _ _ _ _ => pv 2)))), ?_⟩
    refine ⟨_, rfl, y, CA, dy, _, .ref x, rfl, hy, B.cl, B.nF, rfl, _, rfl, x, ts, a, rfl, fa, o, pl, ?_⟩
    refine ⟨_, rfl, y, CA, dy, _, .ref p, rfl, hy, B.cl, B.nP, rfl, p, _, rfl, SqL.of hp, fun D nD => ?_⟩
    refine lc_it walk_enum (fun j H' => Same H H' ∧ H' D = some (.lst ((selU j (atC zs a)).map V.int))) ⟨same_new nD, upd_same⟩ (fun j H' _ w => SqL.of (w.1 _ _ hp)) ?_ ?_
    · intro j TT Ha Hb hj ⟨q1, q2⟩ ⟨T', y1, z, eT, nT, eH, ey, ez⟩
      subst eT
      subst eH
      cases ey
      obtain ⟨b, hb, rfl⟩ := map_of (f := V.str) (l := zs) (show (zs.map V.str)[j]? = some z from ez)
      have sT : Same Ha (upd Ha T' (.tup [.int (j : Int), .str b])) := same_new nT
      have jl := (List.getElem?_eq_some_iff.mp hb).1
      have ls := selU_len j (atC zs a)
      refine ⟨T', [.int (j : Int), .str b], rfl, .inl (.inl upd_same), rfl, _, _, rfl, _, _, rfl, rfl, rfl, ?_⟩
      refine ⟨_, rfl, _, rfl, rfl, _, rfl, ?_⟩
      have more := selU_more j (atC zs a)
      have ec : atC zs a j = decide (b = a) := by
        unfold atC
        rw [hb]
        by_cases e : b = a
        · rw [decide_eq_true e, decide_eq_true (by rw [e])]
        · rw [decide_eq_false e, decide_eq_false fun z => e (Option.some.inj z)]
      by_cases e : b = a
      · rw [decide_eq_true (show V.str b = V.str a by rw [e])]
        show if true = true then _ else _
        rw [if_pos rfl]
        rw [ec, decide_eq_true e, if_pos rfl] at more
        refine ⟨_, rfl, _, sT _ _ q2, by rw [List.length_map]; omega, (q1.trans sT).put nD, by rw [upd_same, more, List.map_append] <;> rfl⟩
      · rw [decide_eq_false (show ¬ V.str b = V.str a from fun z => e (V.str.inj z))]
        rw [ec, decide_eq_false e, if_neg (by decide), List.append_nil] at more
        exact iteF ⟨q1.trans sT, by rw [more]; exact sT _ _ q2⟩
    · intro H1 ⟨q1, q2⟩
      rw [List.length_map] at q2
      exact k D H1 q1 nD q2
end
end FT


/-! feasible sizes, dealt out name by name (plain maths) -/
namespace FT
open PySem L2 TL ClX
/-! ### sizes that are drawn -/
theorem szOf_tbl {l : List Str} {sz : Str → Int} {a : Str} (h : a ∈ l) : szOf (tblI l sz) a = sz a := by
  unfold szOf
  rw [tblI_val h]
theorem kids_sub {t : List (Str × Str)} {p a : Str} (h : a ∈ kids t p) : a ∈ t.map Prod.fst := by
  obtain ⟨q, hq, rfl⟩ := List.mem_map.mp h
  exact List.mem_map.mpr ⟨q, (List.mem_filter.mp hq).1, rfl⟩
theorem resid_congr {t : List (Str × Str)} {n : Int} {sz sz' : Str → Int} {p : Str} (h : ∀ a ∈ t.map Prod.fst, sz a = sz' a) (hp : p = "" ∨ sz p = sz' p) : resid t n sz p = resid t n sz' p := by
  unfold resid
  rw [List.map_congr_left fun a ha => h a (kids_sub ha)]
  by_cases e : p = ""
  · rw [if_pos e, if_pos e]
  · rw [if_neg e, if_neg e, hp.resolve_left e]
/-- feasible sizes for n users -/
structure Fea (t : List (Str × Str)) (n : Int) (sz : Str → Int) : Prop where
  nn : ∀ a ∈ t.map Prod.fst, 0 ≤ sz a
  res : ∀ p ∈ (("" : Str) :: t.map Prod.fst), 0 ≤ resid t n sz p
theorem Fea.perm {t u : List (Str × Str)} {n : Int} {sz : Str → Int} (p : t.Perm u) (f : Fea t n sz) : Fea u n sz :=
  ⟨fun a ha => f.nn a ((p.map _).mem_iff.mpr ha), fun q hq => by rw [← resid_perm p]; exact f.res q ((List.mem_cons.mp hq).elim (fun e => e ▸ List.mem_cons_self ..) fun m => List.mem_cons_of_mem _ ((p.map Prod.fst).mem_iff.mpr m))⟩
theorem Fea.ok {CS : Addr} {ts : List (Str × Str)} {n : Int} {sz : Str → Int} {l : List Str} (f : Fea ts n sz) (p : l.Perm (ts.map Prod.fst)) : feE CS ts n (some (tblI l sz)) = none := by
  have e1 : ∀ a ∈ ts.map Prod.fst, valV (tblI l sz) (Sum.inr a) = some (.int (sz a)) := fun a ha => tblI_val (p.mem_iff.mpr ha)
  have ll := p.length_eq
  rw [List.length_map] at ll
  unfold feE
  rw [feas_some, if_neg (by rw [tblI_len]; exact fun z => z ll), if_neg]
  · have e2 : (ts.map Prod.fst).find? (badKey (tblI l sz)) = none := List.find?_eq_none.mpr fun a ha z => by
      unfold badKey at z
      rw [e1 a ha] at z
      have z' : (!decide ((0 : Int) ≤ sz a)) = true := z
      rw [decide_eq_true (f.nn a ha)] at z'
      cases z'
    rw [e2]
    have e3 : ((("" : Str) :: ts.map Prod.fst).find? fun p => decide (resid ts n (szOf (tblI l sz)) p < 0)) = none := List.find?_eq_none.mpr fun q hq z => by
      have z' := of_decide_eq_true z
      rw [resid_congr (sz' := sz) (fun a ha => szOf_tbl (p.mem_iff.mpr ha)) ((List.mem_cons.mp hq).imp id fun h => szOf_tbl (p.mem_iff.mpr h))] at z'
      have := f.res q hq
      omega
    show Option.map _ (Option.map V.str (List.find? _ _)) = none
    rw [e3] <;> rfl
  · intro z
    have : ((ts.map Prod.fst).all fun a => (valV (tblI l sz) (Sum.inr a)).isSome) = true := List.all_eq_true.mpr fun a ha => by rw [e1 a ha] <;> rfl
    rw [this] at z
    cases z
/-- what has been dealt out -/
structure Dealt (t : List (Str × Str)) (n : Int) (l : List Str) (t' : List (Str × Str)) (sz : Str → Int) : Prop where
  keys : t'.map Prod.fst = l
  sub : ∀ p ∈ t', p ∈ t
  par_ : ∀ p ∈ t', p.2 = "" ∨ p.2 ∈ l
  nn : ∀ a ∈ l, 0 ≤ sz a
  res : ∀ p ∈ (("" : Str) :: l), 0 ≤ resid t' n sz p
  top_ : ∀ p ∈ (("" : Str) :: l), resid t' n sz p ≤ n
theorem Dealt.nil {t : List (Str × Str)} {n : Int} {sz : Str → Int} (n0 : 0 ≤ n) : Dealt t n [] [] sz := by
  refine ⟨rfl, fun p h => (by cases h), fun p h => (by cases h), fun a h => (by cases h), fun p h => ?_, fun p h => ?_⟩
  · rw [List.mem_singleton.mp h]
    show 0 ≤ n - 0
    omega
  · rw [List.mem_singleton.mp h]
    show n - 0 ≤ n
    omega
theorem Dealt.step {t t' : List (Str × Str)} {n : Int} {l : List Str} {sz : Str → Int} (d : Dealt t n l t' sz) {a pa : Str} {z : Int} (na : a ∉ l) (ne : a ≠ "") (mt : (a, pa) ∈ t) (mp : pa = "" ∨ pa ∈ l) (z0 : 0 ≤ z) (z1 : z ≤ resid t' n sz pa) :
    Dealt t n (l ++ [a]) (t' ++ [(a, pa)]) (fun x => if x = a then z else sz x) ∧
    (∀ p ∈ (("" : Str) :: (l ++ [a])), resid (t' ++ [(a, pa)]) n (fun x => if x = a then z else sz x) p = if p = pa then resid t' n sz pa - z else if p = a then z else resid t' n sz p) := by
  have kid : kids t' a = [] := by
    unfold kids
    rw [List.filter_eq_nil_iff.mpr fun q hq z => ?_] <;> try rfl
    have e := of_decide_eq_true z
    rcases d.par_ q hq with h | h
    · exact ne (e.symm.trans h)
    · exact na (by rw [← e]; exact h)
  have pne : pa ≠ a := fun e => mp.elim (fun h => ne (e.symm.trans h)) fun h => na (by rw [← e]; exact h)
  have old : ∀ p, p ≠ a → resid t' n (fun x => if x = a then z else sz x) p = resid t' n sz p := fun p hp =>
    resid_congr (fun x hx => if_neg fun e => na (by rw [← e, ← d.keys]; exact hx)) (.inr (if_neg hp))
  have eq : ∀ p ∈ (("" : Str) :: (l ++ [a])), resid (t' ++ [(a, pa)]) n (fun x => if x = a then z else sz x) p = if p = pa then resid t' n sz pa - z else if p = a then z else resid t' n sz p := fun p _ => by
    rw [resid_snoc]
    by_cases h1 : p = pa
    · rw [if_pos h1.symm, if_pos h1, old p (by rw [h1]; exact pne), h1]
      show _ - (if a = a then z else sz a) = _
      rw [if_pos rfl]
    · rw [if_neg (fun e => h1 e.symm), if_neg h1]
      by_cases h2 : p = a
      · rw [if_pos h2, h2]
        unfold resid
        rw [kid, if_neg ne]
        show (if a = a then z else sz a) - 0 = z
        rw [if_pos rfl]
        omega
      · rw [if_neg h2, old p h2]
  refine ⟨⟨by rw [List.map_append, d.keys] <;> rfl, fun p hp => ?_, fun p hp => ?_, fun x hx => ?_, fun p hp => ?_, fun p hp => ?_⟩, eq⟩
  · rcases List.mem_append.mp hp with h | h
    · exact d.sub p h
    · rw [List.mem_singleton.mp h]
      exact mt
  · rcases List.mem_append.mp hp with h | h
    · exact (d.par_ p h).imp id fun m => List.mem_append_left _ m
    · rw [List.mem_singleton.mp h]
      exact mp.imp id fun m => List.mem_append_left _ m
  · show 0 ≤ if x = a then z else sz x
    by_cases e : x = a
    · rw [if_pos e]
      exact z0
    · rw [if_neg e]
      exact d.nn x ((List.mem_append.mp hx).resolve_right fun m => e (List.mem_singleton.mp m))
  · rw [eq p hp]
    by_cases h1 : p = pa
    · rw [if_pos h1]
      omega
    · rw [if_neg h1]
      by_cases h2 : p = a
      · rw [if_pos h2]
        exact z0
      · rw [if_neg h2]
        refine d.res p ((List.mem_cons.mp hp).elim (fun e => e ▸ List.mem_cons_self ..) fun m => List.mem_cons_of_mem _ ?_)
        exact (List.mem_append.mp m).resolve_right fun m => h2 (List.mem_singleton.mp m)
  · rw [eq p hp]
    have tp := d.top_ pa (List.mem_cons.mpr mp)
    by_cases h1 : p = pa
    · rw [if_pos h1]
      omega
    · rw [if_neg h1]
      by_cases h2 : p = a
      · rw [if_pos h2]
        omega
      · rw [if_neg h2]
        refine d.top_ p ((List.mem_cons.mp hp).elim (fun e => e ▸ List.mem_cons_self ..) fun m => List.mem_cons_of_mem _ ?_)
        exact (List.mem_append.mp m).resolve_right fun m => h2 (List.mem_singleton.mp m)
end FT


/-! names that do not end in f, plain. -/
namespace FT
open PySem L2 TL
/-- a name that the law draws: letters, one to eight, not ending in f -/
def NameF (z : Str) : Prop := (∀ c ∈ tl z, 97 ≤ c ∧ c ≤ 122 ∧ c ≠ 100 ∧ c ≠ 102) ∧ 1 ≤ (tl z).length ∧ (tl z).length ≤ 8
instance (z : Str) : Decidable (NameF z) := by unfold NameF; infer_instance
theorem NameF.len {z : Str} (h : NameF z) : 1 ≤ z.length ∧ z.length ≤ 8 := by
  rw [len_tl]
  exact ⟨h.2.1, h.2.2⟩
theorem NameF.nobody {z : Str} (h : NameF z) : z ≠ "nobody" := fun e => by
  subst e
  revert h
  decide +kernel
theorem NameF.big {z : Str} (h : NameF z) : z ≠ "A" := fun e => by
  subst e
  revert h
  decide +kernel
theorem NameF.self {z : Str} (h : NameF z) : z ≠ "self" := fun e => by
  subst e
  revert h
  decide +kernel
theorem NameF.name {z : Str} (h : NameF z) : NameL z := ⟨fun c hc => ⟨(h.1 c hc).1, (h.1 c hc).2.1⟩, h.2.1, h.2.2, h.self⟩
def ends : List Str := ["ax", "ay", "az", "au", "av", "aw", "bx", "by", "bz", "bu", "bv", "bw", "cx", "cy"]
theorem split_ends : Txt.split "ax ay az au av aw bx by bz bu bv bw cx cy" " " = ends := by decide +kernel
theorem ends_ok : ∀ e ∈ ends, (tl e).length = 2 ∧ (∀ c ∈ tl e, 97 ≤ c ∧ c ≤ 122 ∧ c ≠ 100 ∧ c ≠ 102) := by decide +kernel
def cand (f e : Str) : Str := cutS f none (some 6) ++ e
theorem tl_cut6 (z : Str) : tl (cutS z none (some 6)) = (tl z).take 6 := by
  have e : HT.sIx z.length z.length (some 6) = min 6 z.length := HT.sIx_nat _ _ 6
  show ((tl z).drop 0).take (HT.sIx z.length z.length (some 6) - 0) = (tl z).take 6
  rw [e, List.drop_zero, Nat.sub_zero, len_tl, ← List.take_take, List.take_length]
theorem cand_ok {f e : Str} (hf : NameF f) (he : e ∈ ends) : NameF (cand f e) := by
  obtain ⟨l2, ch⟩ := ends_ok e he
  have t : tl (cand f e) = (tl f).take 6 ++ tl e := by
    unfold cand
    rw [tl_append, tl_cut6]
  refine ⟨fun c hc => ?_, ?_, ?_⟩
  · rw [t] at hc
    rcases List.mem_append.mp hc with h | h
    · exact hf.1 c (List.mem_of_mem_take h)
    · exact ch c h
  · rw [t, List.length_append]
    omega
  · rw [t, List.length_append, List.length_take]
    omega
theorem sub_len {α : Type} [DecidableEq α] : ∀ (l m : List α), l.Nodup → (∀ x ∈ l, x ∈ m) → l.length ≤ m.length
  | [], m, _, _ => Nat.zero_le _
  | a :: l, m, nd, h => by
    have ha : a ∈ m := h a (List.mem_cons_self ..)
    obtain ⟨na, nl⟩ := List.nodup_cons.mp nd
    have := sub_len l (m.erase a) nl fun x hx => (List.mem_erase_of_ne (fun e : x = a => na (by rw [← e]; exact hx))).mpr (h x (List.mem_cons_of_mem _ hx))
    rw [List.length_erase_of_mem ha] at this
    have : 1 ≤ m.length := List.length_pos_of_mem ha
    show l.length + 1 ≤ m.length
    omega
theorem cands_nodup (f : Str) : (ends.map (cand f)).Nodup := by
  have nd : ends.Nodup := by decide +kernel
  refine List.pairwise_map.mpr (nd.imp fun ne e => ne ?_)
  unfold cand at e
  refine ext_tl ?_
  have e' := congrArg tl e
  rw [tl_append, tl_append] at e'
  exact List.append_cancel_left e'
/-- the names that are still free, in their order -/
def free (fs : List Str) (l : List Str) : List Str := l.filter fun x => !decide (x ∈ fs)
theorem free_some {f : Str} {fs : List Str} (hf : NameF f) (few : fs.length ≤ 11) : ∃ x r, free fs (f :: ends.map (cand f)) = x :: r ∧ NameF x ∧ x ∉ fs := by
  have ne : free fs (f :: ends.map (cand f)) ≠ [] := fun e => by
    have all : ∀ x ∈ ends.map (cand f), x ∈ fs := fun x hx => by
      refine Decidable.byContradiction fun n => ?_
      have : x ∈ free fs (f :: ends.map (cand f)) := List.mem_filter.mpr ⟨List.mem_cons_of_mem _ hx, by rw [decide_eq_false n] <;> rfl⟩
      rw [e] at this
      cases this
    have := sub_len _ _ (cands_nodup f) all
    rw [List.length_map] at this
    have : ends.length = 14 := rfl
    omega
  cases e : free fs (f :: ends.map (cand f)) with
  | nil => exact absurd e ne
  | cons x r =>
    have hx : x ∈ free fs (f :: ends.map (cand f)) := by rw [e]; exact List.mem_cons_self ..
    obtain ⟨h1, h2⟩ := List.mem_filter.mp hx
    refine ⟨x, r, rfl, ?_, fun hm => ?_⟩
    · rcases List.mem_cons.mp h1 with rfl | h1
      · exact hf
      · obtain ⟨e, he, rfl⟩ := List.mem_map.mp h1
        exact cand_ok hf he
    · rw [decide_eq_true hm] at h2
      cases h2
theorem join_signs : ∀ ys : List Str, (∀ y ∈ ys, ∃ s : Nat, y = ⟨#[s]⟩ ∧ s ∈ ([97, 98, 99, 109, 122] : List Nat)) → (tl (Txt.join "" ys)).length = ys.length ∧ ∀ c ∈ tl (Txt.join "" ys), c ∈ ([97, 98, 99, 109, 122] : List Nat)
  | [], _ => by
    rw [join_eq]
    exact ⟨rfl, fun c h => by cases h⟩
  | [y], h => by
    obtain ⟨s, rfl, hs⟩ := h y (List.mem_cons_self ..)
    rw [join_eq]
    exact ⟨rfl, fun c hc => by
      rw [List.mem_singleton.mp hc]
      exact hs⟩
  | y :: z :: r, h => by
    obtain ⟨s, rfl, hs⟩ := h y (List.mem_cons_self ..)
    obtain ⟨h1, h2⟩ := join_signs (z :: r) fun q hq => h q (List.mem_cons_of_mem _ hq)
    rw [join_eq] at h1 h2 ⊢
    have t : tl (Str.join "" (⟨#[s]⟩ :: z :: r)) = s :: tl (Str.join "" (z :: r)) := by
      show tl (⟨#[s]⟩ ++ "" ++ Str.join "" (z :: r)) = _
      rw [tl_append, tl_append] <;> rfl
    rw [t]
    refine ⟨by rw [List.length_cons, h1] <;> rfl, fun c hc => ?_⟩
    rcases List.mem_cons.mp hc with rfl | hc
    · exact hs
    · exact h2 c hc
theorem join_name {ys : List Str} (h : ∀ y ∈ ys, ∃ s : Nat, y = ⟨#[s]⟩ ∧ s ∈ ([97, 98, 99, 109, 122] : List Nat)) (h1 : 1 ≤ ys.length) (h4 : ys.length ≤ 4) : NameF (Txt.join "" ys) := by
  obtain ⟨l, ch⟩ := join_signs ys h
  refine ⟨fun c hc => ?_, by omega, by omega⟩
  · have := ch c hc
    simp only [List.mem_cons, List.not_mem_nil, or_false] at this
    omega
end FT


/-! family C (as k50): the drawing state of three items; begin, draw, pick. -/
namespace FT
open PySem L2 TL ClX
/-- the drawing state: at d the list [cells, next, mixed], the cells at c -/
def DrawAt (H : Hp) (d c : Addr) : Prop := ∃ (nx mx : Int) (cells : List Int), H d = some (.lst [.ref c, .int nx, .int mx]) ∧ H c = some (.lst (cells.map V.int)) ∧ cells ≠ [] ∧ cells.length ≤ 63 ∧ (∀ z ∈ cells, 0 ≤ z) ∧ 0 ≤ nx ∧ 0 ≤ mx ∧ mx < 2147483647
/-- all that was tracked, but d and c, is as it was -/
def Keep (d c : Addr) (H H' : Hp) : Prop := ∀ b o, b ≠ d → b ≠ c → H b = some o → H' b = some o
theorem Keep.refl {d c : Addr} {H : Hp} : Keep d c H H := fun _ _ _ _ e => e
theorem Keep.trans {d c : Addr} {H H1 H2 : Hp} (a : Keep d c H H1) (b : Keep d c H1 H2) : Keep d c H H2 := fun x o h h' e => b x o h h' (a x o h h' e)
theorem Keep.of_same {d c : Addr} {H H' : Hp} (s : Same H H') : Keep d c H H' := fun b o _ _ e => s b o e
theorem DrawAt.mono {H H' : Hp} {d c : Addr} (s : Same H H') (x : DrawAt H d c) : DrawAt H' d c := by
  obtain ⟨nx, mx, cells, h1, h2, r⟩ := x
  exact ⟨nx, mx, cells, s _ _ h1, s _ _ h2, r⟩
theorem DrawAt.apart {H : Hp} {d c p : Addr} (x : DrawAt H d c) (n : H p = none) : p ≠ d ∧ p ≠ c := by
  obtain ⟨nx, mx, cells, h1, h2, r⟩ := x
  exact ⟨(ne_of_none h1 n).symm, (ne_of_none h2 n).symm⟩
theorem ints_ne {ns : List Int} {c : Addr} {r : List V} : ns.map V.int ≠ V.ref c :: r := by
  cases ns with
  | nil => intro h; cases h
  | cons a t => intro h; cases h
theorem DrawAt.ne {H : Hp} {d c : Addr} (x : DrawAt H d c) : c ≠ d := by
  obtain ⟨_, _, _, h1, h2, _⟩ := x
  exact ne_of h2 h1 fun z => ints_ne (HO.lst.inj z)
def spBegin (K : PySem.W.Frag) : Sp := fun vs H Q _ => ∃ (a : Addr) (ns : List Int), vs = [.ref a] ∧ SqL K H a (ns.map V.int) ∧ ns.length ≤ 63 ∧
  ∀ (H' : Hp) (d c : Addr), Same H H' → H d = none → H c = none → DrawAt H' d c → Q (.ref d) H'
def spDraw : Sp := fun vs H Q _ => ∃ (d c : Addr) (n : Int), vs = [.ref d, .int n] ∧ DrawAt H d c ∧ 0 < n ∧ n.natAbs < 2 ^ 200 ∧
  ∀ (k : Int) (H' : Hp), 0 ≤ k → k < n → DrawAt H' d c → Keep d c H H' → Q (.int k) H'
/-- an item of a list, a sign of a text -/
def Items (K : PySem.W.Frag) (H : Hp) (d c : Addr) (v : V) (n : Nat) (P : Nat → V → Prop) : Prop :=
  (∃ (l : Addr) (xs : List V), v = .ref l ∧ l ≠ d ∧ l ≠ c ∧ H l = some (.lst xs) ∧ xs.length = n ∧ ∀ i x, xs[i]? = some x → P i x) ∨
  (∃ z : Str, v = .str z ∧ z.length = n ∧ ∀ i s, z.cps.toList[i]? = some s → P i (.str ⟨#[s]⟩))
def spPick (K : PySem.W.Frag) : Sp := fun vs H Q _ => ∃ (d c : Addr) (v : V) (n : Nat) (P : Nat → V → Prop), vs = [.ref d, v] ∧ DrawAt H d c ∧ Items K H d c v n P ∧ 0 < n ∧ n < 1000 ∧
  ∀ (i : Nat) (x : V) (H' : Hp), P i x → DrawAt H' d c → Keep d c H H' → Q x H'
def mags (ms : List Int) : List Int := ms.map fun i => if i < 0 then -i else i
theorem mags_nn (ms : List Int) : ∀ z ∈ mags ms, 0 ≤ z := fun z h => by
  obtain ⟨i, _, rfl⟩ := List.mem_map.mp h
  split <;> omega
theorem at_mod {cells : List Int} {nx : Int} (ne : cells ≠ []) : ∃ (j : Nat) (z : Int), nx % ((cells.map V.int).length : Int) = (j : Int) ∧ j < cells.length ∧ cells[j]? = some z ∧ z ∈ cells := by
  have l0 : 0 < cells.length := List.length_pos_iff.mpr ne
  rw [List.length_map]
  have h1 : 0 ≤ nx % (cells.length : Int) := Int.emod_nonneg _ (by omega)
  have h2 : nx % (cells.length : Int) < (cells.length : Int) := Int.emod_lt_of_pos _ (by omega)
  refine ⟨(nx % (cells.length : Int)).toNat, cells[(nx % (cells.length : Int)).toNat]'(by omega), by omega, by omega, by simp, List.getElem_mem _⟩
section
variable {P : Program} {w : World} {K : PySem.W.Frag} {mg : Str → Option Value} {base : Heap}
theorem scBegin : FnScope ["_law_script", "_law_cell"] ["_law_script"] (defScope s__law_begin) := ⟨rfl, rfl, rfl, by decide +kernel, rfl, by decide +kernel, by decide +kernel⟩
theorem ok_begin {f : Addr} {fd : FuncData} (F : Fun K "_law_begin" "_law_begin" s__law_begin f fd) (T : Nm mg) : FnOk P w K mg base CX0 1 f fd ["_law_script"] (spBegin K) := by
  refine F.ok scBegin (fun vs H Q E h => ?_) (fun cdv A outer s H vs Q E hr h => ?_)
  · obtain ⟨a, ns, rfl, _⟩ := h
    rfl
  · obtain ⟨a, ns, rfl, hS, hlen, k⟩ := h
    refine ⟨_, pss_one (ps_ret (pe_lst (pa_cons (pe_orT (pe_lc (own := [("_law_cell", 1)]) (g := gName 1) (tt := tYes) rfl scBegin.nd (pi_list (pe_slice sl_list (pv 0) po_none (po_some pe_int))) (blkOk_by (N := ["_law_script", "_law_cell"]) (sc := defScope s__law_begin) (by decide +kernel))
      (fun _ _ _ _ _ => pg_name (i := 1) scBegin.nd rfl (Or.inl rfl)) (fun _ _ _ _ _ => pts_nil) (fun _ _ _ _ _ => pe_callB call_abs (by rfl) T.abs (by decide +kernel) (pa_cons (pv 1) pa_nil))) (pe_one (pe_lst (pa_cons pe_int pa_nil))))
      (pa_cons pe_int (pa_cons pe_int pa_nil))))), ?_⟩
    obtain ⟨ms, em, lm⟩ := cut_ints ns none (some 63)
    refine ⟨_, rfl, _, rfl, a, _, rfl, hS, fun p np => ?_⟩
    rw [em]
    have s1 : Same H (upd H p (.lst (ms.map V.int))) := same_new np
    refine ⟨p, rfl, ⟨_, SqL.of upd_same⟩, fun D nD => lc_list (xs := ms.map V.int) (fun i H' => Same (upd H p (.lst (ms.map V.int))) H' ∧ H' D = some (.lst ((mags (ms.take i)).map V.int))) ?_ ?_ ?_ ?_⟩
    · exact ⟨same_new nD, by rw [upd_same, List.take_zero] <;> rfl⟩
    · exact fun i H' _ q => Same.sql q.1 (SqL.of upd_same)
    · intro i x H' hx ⟨q1, q2⟩
      obtain ⟨z, hz, rfl⟩ : ∃ z, ms[i]? = some z ∧ x = V.int z := by
        rw [List.getElem?_map] at hx
        obtain ⟨z, hz, rfl⟩ := Option.map_eq_some_iff.mp hx
        exact ⟨z, hz, rfl⟩
      refine ⟨rfl, ?_⟩
      refine ⟨_, rfl, z, rfl, _, q2, ?_, ?_⟩
      · rw [List.length_map]
        unfold mags
        rw [List.length_map, List.length_take]
        exact Nat.lt_of_le_of_lt (Nat.min_le_right _ _) (Nat.lt_of_le_of_lt (Nat.le_trans lm hlen) (by decide))
      · refine ⟨fun b o e => ?_, ?_⟩
        · rw [upd_ne (ne_of_none e nD)]
          exact q1 b o e
        · rw [upd_same, take_more hz]
          unfold mags
          rw [List.map_append, List.map_append] <;> rfl
    · intro H' ⟨q1, q2⟩
      rw [List.length_map, List.take_length] at q2
      have sH : Same H H' := Same.trans s1 q1
      refine ⟨_, .inl ⟨_, SqL.of q2, rfl⟩, ?_⟩
      have hD : H D = none := Same.free s1 nD
      refine ite2 (fun nz => ?_) (fun nz => ?_)
      · refine ⟨by show 3 ≤ sizeLine; decide, fun d nd => ?_⟩
        have ncd : D ≠ d := ne_of_none q2 nd
        refine k _ d D (Same.trans sH (same_new nd)) (Same.free sH nd) hD ⟨0, 1, mags ms, upd_same, by rw [upd_ne ncd]; exact q2, fun z => ?_, ?_, mags_nn ms, by omega, by omega, by omega⟩
        · rw [z] at nz
          cases nz
        · unfold mags
          rw [List.length_map]
          exact Nat.le_trans lm hlen
      · refine ⟨by show 1 ≤ sizeLine; decide, fun c nc => ?_⟩
        refine ⟨by show 3 ≤ sizeLine; decide, fun d nd => ?_⟩
        have ncd : c ≠ d := ne_of_none upd_same nd
        have nd' : H' d = none := by
          rw [upd_ne (Ne.symm ncd)] at nd
          exact nd
        exact k _ d c (Same.trans sH (Same.trans (same_new nc) (same_new nd))) (Same.free sH nd') (Same.free sH nc) ⟨0, 1, [1], upd_same, by rw [upd_ne ncd, upd_same] <;> rfl, by simp, by decide, by simp, by omega, by omega, by omega⟩
theorem scDraw : FnScope ["_law_state", "_law_many", "_law_cells", "_law_at", "_law_cell"] ["_law_state", "_law_many"] (defScope s__law_draw) := ⟨rfl, rfl, rfl, by decide +kernel, rfl, by decide +kernel, by decide +kernel⟩
theorem ok_draw {f : Addr} {fd : FuncData} (F : Fun K "_law_draw" "_law_draw" s__law_draw f fd) (T : Nm mg) : FnOk P w K mg base CX0 1 f fd ["_law_state", "_law_many"] spDraw := by
  refine F.ok scDraw (fun vs H Q E h => ?_) (fun cdv A outer s H vs Q E hr h => ?_)
  · obtain ⟨d, c, n, rfl, _⟩ := h
    rfl
  · obtain ⟨d, c, n, rfl, hD, n0, n1, k⟩ := h
    have ncd := hD.ne
    obtain ⟨nx, mx, cells, hd, hc, ne, len, nn, a0, m0, m1⟩ := hD
    refine ⟨_, pss_cons (ps_set (i := 2) scDraw.nd rfl (.inl rfl) (pe_ix ix_list (pv 0) pe_int (fun _ _ => rfl)))
      (pss_cons (ps_set (i := 3) scDraw.nd rfl (.inl rfl) (pe_op op_mod (pe_ix ix_list (pv 0) pe_int (fun _ _ => rfl)) (pe_callB call_len_seq (by rfl) T.len PySem.boot_len (pa_cons (pv 2) pa_nil))))
      (pss_cons (ps_set (i := 4) scDraw.nd rfl (.inl rfl) (pe_ix ix_list (pv 2) (pv 3) (fun _ _ => rfl)))
      (pss_cons (ps_if (pt_cmpR op_ge (pv 4) (pe_op op_pow pe_int pe_int) (nomark _))
        (pss_cons (ps_asg (pe_op op_fdivW (pv 4) (pv 1)) (pg_sub (pv 2) (pv 3) set_list)) (pss_one (ps_ret (pe_op op_mod (pv 4) (pv 1))))) pss_nil)
      (pss_cons (ps_asg (pe_op op_add (pe_ix ix_list (pv 0) pe_int (fun _ _ => rfl)) pe_int) (pg_sub (pv 0) pe_int set_list))
      (pss_cons (ps_asg (pe_op op_mod (pe_op op_add (pe_op op_add (pe_op op_add (pe_op op_mul (pe_ix ix_list (pv 0) pe_int (fun _ _ => rfl)) pe_int) (pv 4)) (pe_op op_mul pe_int (pe_ix ix_list (pv 0) pe_int (fun _ _ => rfl)))) pe_int) pe_int) (pg_sub (pv 0) pe_int set_list))
      (pss_one (ps_ret (pe_op op_mod (pe_op op_fdiv (pe_op op_mod (pe_op op_mul (pe_ix ix_list (pv 0) pe_int (fun _ _ => rfl)) (pe_ix ix_list (pv 0) pe_int (fun _ _ => rfl))) pe_int) pe_int) (pv 1))))))))), ?_⟩
    obtain ⟨j, z, ej, jl, hz, zm⟩ := at_mod (nx := nx) ne
    have z0 := nn z zm
    have l0 : (0 : Int) < ((cells.map V.int).length : Int) := by
      have := List.length_pos_iff.mpr ne
      rw [List.length_map]
      omega
    refine ⟨_, rfl, d, _, 0, .ref c, rfl, rfl, SqL.of hd, rfl, ?_⟩
    refine ⟨_, rfl, d, _, 1, .int nx, rfl, rfl, SqL.of hd, rfl, _, rfl, c, _, rfl, .inl (SqL.of hc), _, _, rfl, rfl, l0, ?_⟩
    refine ⟨_, rfl, _, rfl, c, _, _, .int z, rfl, rfl, SqL.of hc, by rw [ej]; exact atI_nat (map_at hz), ?_⟩
    refine ⟨_, rfl, 10, 18, rfl, rfl, ⟨by decide, by decide, by decide⟩, _, _, rfl, rfl, _, rfl, ?_⟩
    refine ite2 (fun _ => ?_) (fun _ => ?_)
    · refine ⟨_, rfl, _, rfl, _, _, rfl, rfl, wide_div n0 n1 (by decide) (by decide), _, rfl, _, rfl, c, _, _, j, rfl, rfl, hc, by rw [ej]; exact ixN_nat (by rw [List.length_map]; exact jl), ?_⟩
      rw [show (cells.map V.int).set j (.int (z / n)) = (cells.set j (z / n)).map V.int by rw [List.map_set]]
      refine ⟨_, rfl, _, rfl, _, _, rfl, rfl, n0, ?_⟩
      refine k _ _ (Int.emod_nonneg _ (by omega)) (Int.emod_lt_of_pos _ n0) ⟨nx, mx, _, by rw [upd_ne ncd.symm]; exact hd, upd_same, ?_, by rw [List.length_set]; exact len, ?_, a0, m0, m1⟩ (fun b o _ h2 e => by rw [upd_ne h2]; exact e)
      · intro e
        have := congrArg List.length e
        rw [List.length_set] at this
        exact ne (List.length_eq_zero_iff.mp this)
      · intro y hy
        rcases List.mem_or_eq_of_mem_set hy with h | h
        · exact nn y h
        · rw [h]
          exact Int.ediv_nonneg z0 (by omega)
    · refine ⟨_, rfl, d, _, 1, .int nx, rfl, rfl, SqL.of hd, rfl, _, _, rfl, rfl, _, rfl, d, _, 1, 1, rfl, rfl, hd, rfl, ?_⟩
      refine ⟨_, rfl, d, _, 2, .int mx, rfl, rfl, SqL.of upd_same, rfl, _, _, rfl, rfl, .inl ⟨by omega, by omega⟩, _, rfl, _, _, rfl, rfl, _, rfl, d, _, 1, .int (nx + 1), rfl, rfl, SqL.of upd_same, rfl, _, _, rfl, rfl, .inl ⟨by decide, by decide⟩,
        _, _, rfl, rfl, _, _, rfl, rfl, _, _, rfl, rfl, (by show (0 : Int) < 2147483647; decide), _, rfl, d, _, 2, 2, rfl, rfl, upd_same, rfl, ?_⟩
      rw [upd_upd]
      obtain ⟨m, em⟩ : ∃ m, m = (mx * 48271 + z + 7919 * (nx + 1) + 12345) % 2147483647 := ⟨_, rfl⟩
      have h0 : 0 ≤ m := by rw [em]; exact Int.emod_nonneg _ (by decide)
      have h1 : m < 2147483647 := by rw [em]; exact Int.emod_lt_of_pos _ (by decide)
      refine ⟨_, rfl, d, _, 2, .int m, rfl, rfl, SqL.of upd_same, by rw [em] <;> rfl, _, rfl, d, _, 2, .int m, rfl, rfl, SqL.of upd_same, by rw [em] <;> rfl, _, _, rfl, rfl, .inl ⟨by omega, by omega⟩, _, _, rfl, rfl, (by show (0 : Int) < 2147483629; decide), _, _, rfl, rfl, ⟨by decide, by decide⟩,
        _, rfl, _, _, rfl, rfl, n0, ?_⟩
      exact k _ _ (Int.emod_nonneg _ (by omega)) (Int.emod_lt_of_pos _ n0) ⟨nx + 1, m, cells, by rw [upd_same, em] <;> rfl, by rw [upd_ne ncd]; exact hc, ne, len, nn, by omega, h0, h1⟩ (fun b o h2 _ e => by rw [upd_ne h2]; exact e)
theorem scPick : FnScope ["_law_state", "_law_some"] ["_law_state", "_law_some"] (defScope s__law_pick) := ⟨rfl, rfl, rfl, by decide +kernel, rfl, by decide +kernel, by decide +kernel⟩
theorem ok_pick {f fT : Addr} {fd fdT : FuncData} (F : Fun K "_law_pick" "_law_pick" s__law_pick f fd) (T : Nm mg) (FTk : Fun K "_law_draw" "_law_draw" s__law_draw fT fdT) (bT : Binds K fdT ["_law_state", "_law_many"] []) (gT : mg "_law_draw" = some (.ref fT)) :
    FnOk P w K mg base CX0 2 f fd ["_law_state", "_law_some"] (spPick K) := by
  have GT : FnOk P w K mg base CX0 1 fT fdT ["_law_state", "_law_many"] spDraw := ok_draw FTk T
  refine F.ok scPick (fun vs H Q E h => ?_) (fun cdv A outer s H vs Q E hr h => ?_)
  · obtain ⟨d, c, v, n, P, rfl, _⟩ := h
    rfl
  · obtain ⟨d, c, v, n, Pr, rfl, hD, it, x0, x1, k⟩ := h
    have hr1 : Room 1 _ := hr.mono (by decide)
    refine ⟨_, pss_one (ps_ret (pe_ix ix_seq (pv 1) (pe_call GT hr1 rfl gT FTk.kp bT .nil pass0 (pa_cons (pv 0) (pa_cons (pe_callB call_len (by rfl) T.len PySem.boot_len (pa_cons (pv 1) pa_nil)) pa_nil))) (fun _ _ => rfl))), ?_⟩
    have small : ∀ n : Nat, n < 1000 → ((n : Int)).natAbs < 2 ^ 200 := fun n hn => by
      rw [Int.natAbs_natCast]
      exact Nat.lt_trans hn (by decide)
    rcases it with ⟨l, xs, rfl, nd, nc, hl, en, hp⟩ | ⟨z, rfl, en, hp⟩
    · refine ⟨_, rfl, _, rfl, _, rfl, _, xs.length, rfl, .inl ⟨xs, SqL.of hl, rfl⟩, d, c, _, rfl, hD, by omega, small _ (by omega), fun i H' i0 i1 hD' off => ?_⟩
      have hi : i.toNat < xs.length := by omega
      have e : xs[i.toNat]? = some xs[i.toNat] := List.getElem?_eq_getElem hi
      have e2 := atI_nat e
      rw [show ((i.toNat : Nat) : Int) = i by omega] at e2
      exact .inl ⟨l, xs, i, xs[i.toNat], rfl, rfl, SqL.of (off l _ nd nc hl), e2, k i.toNat _ H' (hp _ _ e) hD' off⟩
    · have zl : z.length ≤ sizeLine := Nat.le_trans (by omega : z.length ≤ 1000) (by decide)
      refine ⟨_, rfl, _, rfl, _, rfl, _, z.length, rfl, ⟨zl, rfl⟩, d, c, _, rfl, hD, by omega, small _ (by omega), fun i H' i0 i1 hD' off => ?_⟩
      have hi : i.toNat < z.cps.toList.length := by
        have : z.length = z.cps.toList.length := by simp [Str.length]
        omega
      have e : z.cps.toList[i.toNat]? = some z.cps.toList[i.toNat] := List.getElem?_eq_getElem hi
      have e2 := atI_nat e
      rw [show ((i.toNat : Nat) : Int) = i by omega] at e2
      exact .inr (.inr ⟨z, i, _, rfl, rfl, zl, e2, k i.toNat _ H' (hp _ _ e) hD' off⟩)
end
end FT


namespace FT
open PySem L2 TL ClX
def spNames (K : PySem.W.Frag) : Sp := fun vs H Q _ => ∃ (d c : Addr) (n : Nat), vs = [.ref d, .int (n : Int)] ∧ DrawAt H d c ∧ 1 ≤ n ∧ n ≤ 12 ∧
  ∀ (l : Addr) (fs : List Str) (H' : Hp), fs.length = n → fs.Nodup → (∀ z ∈ fs, NameF z) → H l = none → H' l = some (.lst (fs.map V.str)) → DrawAt H' d c → Keep d c H H' → Q (.ref l) H'
theorem DrawAt.off {H : Hp} {d c p : Addr} {o : HO} (x : DrawAt H d c) (n1 : p ≠ d) (n2 : p ≠ c) : DrawAt (upd H p o) d c := by
  obtain ⟨nx, mx, cells, h1, h2, r⟩ := x
  exact ⟨nx, mx, cells, by rw [upd_ne n1.symm]; exact h1, by rw [upd_ne n2.symm]; exact h2, r⟩
theorem Keep.put {d c p : Addr} {H H' : Hp} {o : HO} (k : Keep d c H H') (n : H p = none) : Keep d c H (upd H' p o) := fun b u h1 h2 e => by
  rw [upd_ne (ne_of_none e n)]
  exact k b u h1 h2 e
theorem Keep.free {d c p : Addr} {H H' : Hp} (k : Keep d c H H') (n : H' p = none) (n1 : p ≠ d) (n2 : p ≠ c) : H p = none := by
  cases e : H p with
  | none => rfl
  | some o =>
    rw [k p o n1 n2 e] at n
    cases n
def words7 : List Str := ["start", "size", "must", "stay", "root", "new", "eightaaa"]
theorem words7_ok : ∀ z ∈ words7, NameF z := by decide +kernel
/-- a sign of the law's letters -/
def Sgn (y : Str) : Prop := ∃ s : Nat, y = ⟨#[s]⟩ ∧ s ∈ ([97, 98, 99, 109, 122] : List Nat)
theorem sum_sgn : ∀ ys : List Str, (∀ y ∈ ys, Sgn y) → (ys.map (·.length)).sum = ys.length
  | [], _ => rfl
  | y :: ys, h => by
    obtain ⟨s, rfl, _⟩ := h y (List.mem_cons_self ..)
    rw [List.map_cons, List.sum_cons, sum_sgn ys fun q hq => h q (List.mem_cons_of_mem _ hq), List.length_cons]
    show 1 + ys.length = ys.length + 1
    omega
theorem free_step {fs cs : List Str} {i : Nat} {x : Str} (h : cs[i]? = some x) : free fs (cs.take (i + 1)) = free fs (cs.take i) ++ (if x ∈ fs then [] else [x]) := by
  rw [take_more h]
  unfold free
  rw [List.filter_append]
  by_cases e : x ∈ fs
  · rw [if_pos e, List.filter_cons, decide_eq_true e, List.filter_nil] <;> rfl
  · rw [if_neg e, List.filter_cons, decide_eq_false e, List.filter_nil] <;> rfl
abbrev rAddS : R2 := fun x y H Q => ∃ i j, x = .str i ∧ y = .str j ∧ i.length + j.length ≤ sizeLine ∧ Q (.str (i ++ j)) H
def tNameTurn (K : PySem.W.Frag) : TS := tSeq (tAsg (tM1 (fun x xs H Q => ∃ (a : Str) (p : Addr), ∃ ys : List Str, x = .str a ∧ xs = [.ref p] ∧ (SqL K H p (ys.map V.str) ∨ SqT K H p (ys.map V.str)) ∧ (ys.map (·.length)).sum + ys.length * a.length ≤ 16777216 ∧ Q (.str (Txt.join a ys)) H)
    (tC (.str "")) (tLc (iRng1 (tCons (tOp rAdd (tC (.int 1)) (tCall spDraw [] E0 (tCons (tVar 0) (tCons (tC (.int 4)) tNil)))) tNil)) (gName 7) tYes (tCall (spPick K) [] E0 (tCons (tVar 0) (tCons (tC (.str "abcmz")) tNil))) [7])) (gName 4))
  (tSeq (tAsg (tCall (spPick K) [] E0 (tCons (tVar 0) (tCons (tLst (tCons (tC (.str "start")) (tCons (tC (.str "size")) (tCons (tC (.str "must")) (tCons (tC (.str "stay")) (tCons (tC (.str "root")) (tCons (tC (.str "new")) (tCons (tC (.str "eightaaa")) tNil)))))))) tNil))) (gName 5))
  (tSeq (tAsg (tCall (spPick K) [] E0 (tCons (tVar 0) (tCons (tLst (tCons (tVar 4) (tCons (tVar 4) (tCons (tVar 5) tNil)))) tNil))) (gName 4))
  (tSeq (tAsg (tLc (iList K (tM1 (fun x xs H Q => ∃ a b, x = .str a ∧ xs = [.str b] ∧ (b.length == 0) = false ∧ a.length + 2 ≤ sizeLine ∧ rNewStrs (Txt.split a b) H Q) (tC (.str "ax ay az au av aw bx by bz bu bv bw cx cy")) (tC (.str " ")))) (gName 8) tYes
      (tOp rAddS (tSl rSlS (tVar 4) tNoPart (tPart (tC (.int 6)))) (tVar 8)) [8]) (gName 6))
  (tDrop (tBM K "list" rAppend (tVar 2) (tCons (tOp (rIxL K) (tLc (iList K (tOp rCat (tLst (tCons (tVar 4) tNil)) (tVar 6))) (gName 9) (tTest (tOp (rIn K true) (tVar 9) (tVar 2))) (tVar 9) [9]) (tC (.int 0))) tNil))))))
theorem nameTurn_ok {K : PySem.W.Frag} {D : Ends} {H : Hp} {u1 u3 u4 u5 u6 u7 u8 u9 : Option V} {d c l : Addr} {fs : List Str} (dr : DrawAt H d c) (ld : l ≠ d) (lc : l ≠ c) (hl : H l = some (.lst (fs.map V.str))) (few : fs.length ≤ 11)
    (nx : ∀ u4 u5 u6 u7 u8 u9 H' x, NameF x → x ∉ fs → DrawAt H' d c → (∀ b o, b ≠ d → b ≠ c → b ≠ l → H b = some o → H' b = some o) → H' l = some (.lst ((fs ++ [x]).map V.str)) → D.nx [some (.ref d), u1, some (.ref l), u3, u4, u5, u6, u7, u8, u9] H') :
    tNameTurn K D [some (.ref d), u1, some (.ref l), u3, u4, u5, u6, u7, u8, u9] H := by
  have big : 1000 ≤ sizeLine := by decide
  refine ⟨⟨_, rfl⟩, _, rfl, d, c, 4, rfl, dr, by decide, by decide, fun m H1 m0 m1 dr1 kp1 => ⟨_, _, rfl, rfl, _, rfl, by omega, by omega, fun D1 nD1 => ?_⟩⟩
  obtain ⟨D1d, D1c⟩ := dr1.apart nD1
  refine lc_it (walk_range (lo := 0) (n := (1 + m).toNat)) (fun i H' => DrawAt H' d c ∧ Keep d c H1 H' ∧ ∃ ys : List Str, H' D1 = some (.lst (ys.map V.str)) ∧ ys.length = i ∧ ∀ y ∈ ys, Sgn y) ⟨dr1.off D1d D1c, Keep.refl.put nD1, [], upd_same, rfl, fun y h => by cases h⟩ (fun _ _ _ _ => trivial) ?_ ?_
  · intro i x Ha Hb hi ⟨da, ka, ys, ey, ly, sy⟩ ⟨e1, e2⟩
    subst e1
    subst e2
    refine ⟨rfl, ?_⟩
    refine ⟨_, rfl, d, c, _, 5, (fun _ x => ∃ y, x = .str y ∧ Sgn y), rfl, da, .inr ⟨"abcmz", rfl, rfl, fun i s hs => ⟨_, rfl, s, rfl, List.mem_of_getElem? hs⟩⟩, by decide, by decide, fun i' x Hc px dc kc => ?_⟩
    obtain ⟨y, rfl, gy⟩ := px
    refine ⟨_, kc D1 _ D1d D1c ey, ?_, dc.off D1d D1c, (ka.trans kc).put nD1, ys ++ [y], by rw [upd_same, List.map_append] <;> rfl, by rw [List.length_append, ly] <;> rfl, fun q hq => ?_⟩
    · rw [List.length_map, ly]
      omega
    · rcases List.mem_append.mp hq with h | h
      · exact sy q h
      · rw [List.mem_singleton.mp h]
        exact gy
  · intro H2 ⟨d2, k2, ys, ey, ly, sy⟩
    refine ⟨_, D1, ys, rfl, rfl, .inl (SqL.of ey), by rw [sum_sgn ys sy]; show ys.length + ys.length * 0 ≤ 16777216; omega, ?_⟩
    have fl : NameF (Txt.join "" ys) := join_name sy (by omega) (by omega)
    have K2 : Keep d c H H2 := kp1.trans k2
    refine ⟨_, rfl, by show 7 ≤ sizeLine; decide, fun p np => ?_⟩
    obtain ⟨pd, pc⟩ := d2.apart np
    refine ⟨d, c, _, 7, (fun _ x => ∃ z, x = .str z ∧ NameF z), rfl, d2.off pd pc, .inl ⟨p, words7.map V.str, rfl, pd, pc, upd_same, rfl, items_strs words7_ok⟩, by decide, by decide, fun i x H3 px d3 k3 => ?_⟩
    obtain ⟨wd, rfl, wok⟩ := px
    have K3 : Keep d c H H3 := (K2.trans (Keep.of_same (same_new np))).trans k3
    refine ⟨_, rfl, _, rfl, _, rfl, _, rfl, by show 3 ≤ sizeLine; decide, fun p3 np3 => ?_⟩
    obtain ⟨pd3, pc3⟩ := d3.apart np3
    refine ⟨d, c, _, 3, (fun _ x => ∃ z, x = .str z ∧ NameF z), rfl, d3.off pd3 pc3, .inl ⟨p3, [Txt.join "" ys, Txt.join "" ys, wd].map V.str, rfl, pd3, pc3, upd_same, rfl, items_strs fun z hz => ?_⟩, by decide, by decide, fun i x H4 px d4 k4 => ?_⟩
    · simp only [List.mem_cons, List.not_mem_nil, or_false] at hz
      rcases hz with rfl | rfl | rfl
      · exact fl
      · exact fl
      · exact wok
    obtain ⟨f, rfl, fok⟩ := px
    have K4 : Keep d c H H4 := (K3.trans (Keep.of_same (same_new np3))).trans k4
    refine ⟨⟨_, rfl⟩, _, _, rfl, rfl, by decide +kernel, by decide +kernel, fun p4 np4 => ?_⟩
    rw [split_ends]
    obtain ⟨H5, e5⟩ : ∃ X, X = upd H4 p4 (.lst (ends.map V.str)) := ⟨_, rfl⟩
    have at5 : H5 p4 = some (.lst (ends.map V.str)) := by rw [e5]; exact upd_same
    have s5 : Same H4 H5 := e5 ▸ same_new np4
    rw [← e5]
    have fl8 := fok.len
    refine ⟨p4, rfl, ⟨_, SqL.of at5⟩, fun D4 nD4 => lc_list (xs := ends.map V.str) (fun i H' => Same H5 H' ∧ H' D4 = some (.lst (((ends.take i).map (cand f)).map V.str))) ⟨same_new nD4, by rw [upd_same] <;> rfl⟩ (fun i H' _ q => Same.sql q.1 (SqL.of at5)) ?_ ?_⟩
    · intro i x Ha hx ⟨q1, q2⟩
      rw [List.getElem?_map] at hx
      obtain ⟨e, he, rfl⟩ := Option.map_eq_some_iff.mp hx
      have l2 := (ends_ok e (List.mem_of_getElem? he)).1
      rw [← len_tl] at l2
      have l6 := cutS_length f none (some 6)
      refine ⟨rfl, ?_⟩
      refine ⟨_, rfl, _, rfl, f, rfl, by omega, _, rfl, _, _, rfl, rfl, by omega, _, q2, ?_, ?_, ?_⟩
      · rw [List.length_map, List.length_map, List.length_take]
        have : ends.length = 14 := rfl
        omega
      · intro b o eb
        rw [upd_ne (ne_of_none eb nD4)]
        exact q1 b o eb
      · rw [upd_same, take_more he, List.map_append, List.map_append] <;> rfl
    · intro H6 ⟨s6, a6⟩
      rw [List.length_map, List.take_length] at a6
      have s46 : Same H4 H6 := s5.trans s6
      have l4 := K4 l _ ld lc hl
      have l6 := s46 _ _ l4
      refine ⟨_, rfl, .inl ⟨rfl, _, SqL.of l6⟩, ?_⟩
      refine ⟨_, rfl, by show 1 ≤ sizeLine; decide, fun q nq => ⟨_, rfl, q, D4, _, _, rfl, rfl, upd_same, by rw [upd_ne (ne_of_none a6 nq)]; exact a6, by rw [List.length_map, List.length_map]; show 1 + 14 ≤ sizeLine; omega, fun r nr => ?_⟩⟩
      obtain ⟨H7, e7⟩ : ∃ X, X = upd (upd H6 q (.lst [.str f])) r (.lst ([.str f] ++ (ends.map (cand f)).map V.str)) := ⟨_, rfl⟩
      have s7 : Same H6 H7 := e7 ▸ (same_new nq).trans (same_new nr)
      have at7 : H7 r = some (.lst ((f :: ends.map (cand f)).map V.str)) := by rw [e7, upd_same] <;> rfl
      rw [← e7]
      refine ⟨r, rfl, ⟨_, SqL.of at7⟩, fun D7 nD7 => lc_list (xs := (f :: ends.map (cand f)).map V.str) (fun i H' => Same H7 H' ∧ H' D7 = some (.lst ((free fs ((f :: ends.map (cand f)).take i)).map V.str))) ⟨same_new nD7, by rw [upd_same] <;> rfl⟩ (fun i H' _ q => Same.sql q.1 (SqL.of at7)) ?_ ?_⟩
      · intro i x Ha hx ⟨q1, q2⟩
        rw [List.getElem?_map] at hx
        obtain ⟨e, he, rfl⟩ := Option.map_eq_some_iff.mp hx
        refine ⟨rfl, ?_⟩
        refine ⟨_, rfl, _, rfl, l, _, rfl, .inl (SqL.of (q1 _ _ (s7 _ _ l6))), rfl, flat_strs fs, _, rfl, ?_⟩
        rw [inV_strs, free_step he]
        by_cases hm : e ∈ fs
        · rw [if_pos hm, decide_eq_true hm, List.append_nil]
          exact iteF ⟨q1, q2⟩
        · rw [if_neg hm, decide_eq_false hm]
          show if true = true then _ else _
          rw [if_pos rfl]
          refine ⟨_, rfl, _, q2, ?_, ?_, ?_⟩
          · rw [List.length_map]
            have h1 : (free fs ((f :: ends.map (cand f)).take i)).length ≤ ((f :: ends.map (cand f)).take i).length := List.length_filter_le _ _
            rw [List.length_take, List.length_cons, List.length_map] at h1
            have : ends.length = 14 := rfl
            omega
          · intro b o eb
            rw [upd_ne (ne_of_none eb nD7)]
            exact q1 b o eb
          · rw [upd_same, List.map_append] <;> rfl
      · intro H8 ⟨s8, a8⟩
        rw [List.length_map, List.take_length] at a8
        obtain ⟨x, rest, ex, xok, xn⟩ := free_some fok few
        rw [ex] at a8
        have l8 := s8 _ _ (s7 _ _ l6)
        refine ⟨D7, _, 0, .str x, rfl, rfl, SqL.of a8, (atI_nat (j := 0) rfl : atI _ ((0 : Nat) : Int) = _), ?_⟩
        refine ⟨l, _, _, rfl, rfl, l8, by rw [List.length_map]; omega, ?_⟩
        have s48 : Same H4 H8 := s46.trans (s7.trans s8)
        refine nx _ _ _ _ _ _ _ x xok xn ((d4.mono s48).off ld lc) (fun b o b1 b2 b3 eb => ?_) (by rw [upd_same, List.map_append] <;> rfl)
        rw [upd_ne b3]
        exact s48 _ _ (K4 b o b1 b2 eb)
def tNames (K : PySem.W.Frag) : TS := tSeq (tAsg (tLst tNil) (gName 2)) (tSeq (tFor (iRng1 (tCons (tVar 1) tNil)) (gName 3) (tNameTurn K)) (tRet (tVar 2)))
theorem names_ok {K : PySem.W.Frag} {D : Ends} {H : Hp} {d c : Addr} {n : Nat} {u2 u3 u4 u5 u6 u7 u8 u9 : Option V} (dr : DrawAt H d c) (n12 : n ≤ 12)
    (k : ∀ (l : Addr) (fs : List Str) (H' : Hp), fs.length = n → fs.Nodup → (∀ z ∈ fs, NameF z) → H l = none → H' l = some (.lst (fs.map V.str)) → DrawAt H' d c → Keep d c H H' → D.rt (.ref l) H') :
    tNames K D [some (.ref d), some (.int (n : Int)), u2, u3, u4, u5, u6, u7, u8, u9] H := by
  refine ⟨by show 0 ≤ sizeLine; decide, fun l nl => ?_⟩
  obtain ⟨ld, lc⟩ := dr.apart nl
  refine ⟨_, rfl, _, rfl, by omega, by omega, ?_⟩
  refine for_it (walk_range (lo := 0) (n := ((n : Int)).toNat)) (fun j σ' H' => (∃ u3 u4 u5 u6 u7 u8 u9, σ' = [some (.ref d), some (.int (n : Int)), some (.ref l), u3, u4, u5, u6, u7, u8, u9]) ∧ DrawAt H' d c ∧ Keep d c H H' ∧
    ∃ fs : List Str, H' l = some (.lst (fs.map V.str)) ∧ fs.length = j ∧ fs.Nodup ∧ ∀ z ∈ fs, NameF z) ⟨⟨_, _, _, _, _, _, _, rfl⟩, dr.off ld lc, Keep.refl.put nl, [], upd_same, rfl, List.nodup_nil, fun z h => by cases h⟩ (fun _ _ _ _ _ => trivial) ?_ ?_
  · intro j x σ' Ha Hb hj ⟨⟨u3, u4, u5, u6, u7, u8, u9, e⟩, da, ka, fs, el, ln, nd, ok⟩ ⟨e1, e2⟩
    subst e
    subst e1
    subst e2
    refine nameTurn_ok da ld lc el (by omega) fun u4 u5 u6 u7 u8 u9 H' x xok xn d' k' l' => ⟨⟨_, _, _, _, _, _, _, rfl⟩, d', fun b o b1 b2 e => ?_, fs ++ [x], l', by rw [List.length_append, ln] <;> rfl, ?_, fun z hz => ?_⟩
    · exact k' b o b1 b2 (ne_of_none e nl) (ka b o b1 b2 e)
    · refine List.nodup_append.mpr ⟨nd, by simp, fun a ha b hb => ?_⟩
      rw [List.mem_singleton.mp hb]
      exact fun z => xn (z ▸ ha)
    · rcases List.mem_append.mp hz with h | h
      · exact ok z h
      · rw [List.mem_singleton.mp h]
        exact xok
  · intro σ' H' ⟨⟨u3, u4, u5, u6, u7, u8, u9, e⟩, da, ka, fs, el, ln, nd, ok⟩
    subst e
    exact ⟨_, rfl, k l fs H' (by omega) nd ok nl el da ka⟩
section
variable {P : Program} {w : World} {K : PySem.W.Frag} {mg : Str → Option Value} {base : Heap}
theorem scNames : FnScope ["_law_state", "_law_many", "_law_found", "_law_k", "_law_flag", "_law_word", "_law_others", "_law_j", "_law_ending", "_law_lone"] ["_law_state", "_law_many"] (defScope s__law_names) := ⟨rfl, rfl, rfl, by decide +kernel, rfl, by decide +kernel, by decide +kernel⟩
theorem ok_names {f fD fP : Addr} {fd fdD fdP : FuncData} (F : Fun K "_law_names" "_law_names" s__law_names f fd) (T : Nm mg) (FD : Fun K "_law_draw" "_law_draw" s__law_draw fD fdD) (bD : Binds K fdD ["_law_state", "_law_many"] []) (gD : mg "_law_draw" = some (.ref fD))
    (FP : Fun K "_law_pick" "_law_pick" s__law_pick fP fdP) (bP : Binds K fdP ["_law_state", "_law_some"] []) (gP : mg "_law_pick" = some (.ref fP)) : FnOk P w K mg base CX0 3 f fd ["_law_state", "_law_many"] (spNames K) := by
  have GD : FnOk P w K mg base CX0 1 fD fdD ["_law_state", "_law_many"] spDraw := ok_draw FD T
  have GP : FnOk P w K mg base CX0 2 fP fdP ["_law_state", "_law_some"] (spPick K) := ok_pick FP T FD bD gD
  refine F.ok scNames (fun vs H Q E h => ?_) (fun cdv A outer s H vs Q E hr h => ?_)
  · obtain ⟨d, c, n, rfl, _⟩ := h
    rfl
  · obtain ⟨d, c, n, rfl, hD, n1, n12, k⟩ := h
    have hr1 : Room 1 _ := hr.mono (by decide)
    refine ⟨tNames K, ?_, names_ok hD n12 k⟩
    exact pss_cons (ps_set (i := 2) scNames.nd rfl (.inr rfl) (pe_lst pa_nil))
      (pss_cons (ps_for PassesOwn.never rfl (pi_range1 rfl T.rng (pa_cons (pv 1) pa_nil)) (pg_name (i := 3) scNames.nd rfl (.inl rfl))
        (pss_cons (ps_set (i := 4) scNames.nd rfl (.inr rfl) (pe_join pe_str (pe_lc (own := [("_law_j", 7)]) (g := gName 7) (tt := tYes) rfl scNames.nd (pi_range1 rfl T.rng (pa_cons (pe_op op_add pe_int (pe_call GD hr1 rfl gD FD.kp bD .nil pass0 (pa_cons (pv 0) (pa_cons pe_int pa_nil)))) pa_nil))
          (blkOk_by (N := ["_law_state", "_law_many", "_law_found", "_law_k", "_law_flag", "_law_word", "_law_others", "_law_j", "_law_ending", "_law_lone"]) (sc := defScope s__law_names) (by decide +kernel))
          (fun _ _ _ _ _ => pg_name (i := 7) scNames.nd rfl (Or.inl rfl)) (fun _ _ _ _ _ => pts_nil) (fun _ _ _ _ _ => pe_call GP hr rfl gP FP.kp bP .nil pass0 (pa_cons (pv 0) (pa_cons pe_str pa_nil))))))
        (pss_cons (ps_set (i := 5) scNames.nd rfl (.inl rfl) (pe_call GP hr rfl gP FP.kp bP .nil pass0 (pa_cons (pv 0) (pa_cons (pe_lst (pa_cons pe_str (pa_cons pe_str (pa_cons pe_str (pa_cons pe_str (pa_cons pe_str (pa_cons pe_str (pa_cons pe_str pa_nil)))))))) pa_nil))))
        (pss_cons (ps_set (i := 4) scNames.nd rfl (.inr rfl) (pe_call GP hr rfl gP FP.kp bP .nil pass0 (pa_cons (pv 0) (pa_cons (pe_lst (pa_cons (pv 4) (pa_cons (pv 4) (pa_cons (pv 5) pa_nil)))) pa_nil))))
        (pss_cons (ps_setLc (i := 6) (own := [("_law_ending", 8)]) (g := gName 8) (tt := tYes) rfl scNames.nd rfl rfl (sw_true rfl rfl rfl (by decide +kernel)) (pi_list (pe_split pe_str pe_str))
          (blkOk_by (N := ["_law_state", "_law_many", "_law_found", "_law_k", "_law_flag", "_law_word", "_law_others", "_law_j", "_law_ending", "_law_lone"]) (sc := defScope s__law_names) (by decide +kernel))
          (fun _ _ _ _ _ => pg_name (i := 8) scNames.nd rfl (Or.inl rfl)) (fun _ _ _ _ _ => pts_nil) (fun _ _ _ _ _ => pe_op op_add_str (pe_slice sl_str (pv 4) po_none (po_some pe_int)) (pv 8)))
        (pss_one (ps_expr (pe_bm PySem.F.plainAttrs_list PySem.F.slot_list_append PySem.F.type_list_append mt_append (pv 2) (pa_cons (pe_ix ix_list (pe_lc (own := [("_law_lone", 9)]) (g := gName 9) (tt := tTest (tOp (rIn K true) (tVar 9) (tVar 2))) rfl scNames.nd (pi_list (pe_op op_cat (pe_lst (pa_cons (pv 4) pa_nil)) (pv 6)))
          (blkOk_by (N := ["_law_state", "_law_many", "_law_found", "_law_k", "_law_flag", "_law_word", "_law_others", "_law_j", "_law_ending", "_law_lone"]) (sc := defScope s__law_names) (by decide +kernel))
          (fun _ _ _ _ _ => pg_name (i := 9) scNames.nd rfl (Or.inl rfl)) (fun _ _ _ _ _ => pts_one (pt_cmpR op_notIn_seq (pv 9) (pv 2) rfl)) (fun _ _ _ _ _ => pv 9)) pe_int (fun _ _ => rfl)) pa_nil)))))))))
      (pss_one (ps_ret (pv 2))))
end
end FT


namespace FT
open PySem L2 TL ClX
structure TreeUp (t : List (Str × Str)) : Prop where
  one : 1 ≤ t.length
  few : t.length ≤ 12
  nd : (t.map Prod.fst).Nodup
  nm : ∀ z ∈ t.map Prod.fst, NameF z
  up : ∀ (i : Nat) (p : Str × Str), t[i]? = some p → p.2 = "" ∨ p.2 ∈ (t.take i).map Prod.fst
def spTree : Sp := fun vs H Q _ => ∃ (d c : Addr) (n : Nat), vs = [.ref d, .int (n : Int)] ∧ DrawAt H d c ∧ 1 ≤ n ∧ n ≤ 12 ∧
  ∀ (q : Addr) (t : List (Str × Str)) (H' : Hp), TreeUp t → t.length = n → H q = none → H' q = some (.dK (prs t)) → DrawAt H' d c → Keep d c H H' → Q (.ref q) H'
theorem cut_sub {xs : List V} (ne : xs ≠ []) : cutV xs (some (-2)) none ≠ [] ∧ ∀ x ∈ cutV xs (some (-2)) none, x ∈ xs := by
  have l0 : 0 < xs.length := List.length_pos_iff.mpr ne
  have e : HT.sIx xs.length 0 (some (-2)) = ((-2 : Int) + (xs.length : Int)).toNat := by
    show (if (-2 : Int) < 0 then ((-2 : Int) + (xs.length : Int)).toNat else min (-2 : Int).toNat xs.length) = _
    rw [if_pos (by decide)]
  have c : cutV xs (some (-2)) none = (xs.drop ((-2 : Int) + (xs.length : Int)).toNat).take (xs.length - ((-2 : Int) + (xs.length : Int)).toNat) := by
    show (xs.drop (HT.sIx xs.length 0 (some (-2)))).take (xs.length - HT.sIx xs.length 0 (some (-2))) = _
    rw [e]
  rw [c]
  refine ⟨fun z => ?_, fun x hx => List.mem_of_mem_drop (List.mem_of_mem_take hx)⟩
  have := congrArg List.length z
  rw [List.length_take, List.length_drop, List.length_nil] at this
  omega
theorem at_back {xs : List V} (ne : xs ≠ []) : ∃ x, atI xs (-1) = some x ∧ x ∈ xs := by
  have l0 : 0 < xs.length := List.length_pos_iff.mpr ne
  refine ⟨xs[xs.length - 1], ?_, List.getElem_mem _⟩
  unfold atI ixN
  rw [if_neg (by decide), if_pos (by omega)]
  show xs[_]? = _
  rw [show ((-1 : Int) + (xs.length : Int)).toNat = xs.length - 1 by omega, List.getElem?_eq_getElem (by omega)]
def tLastTwo (K : PySem.W.Frag) : TE := tSl (rSlL K) (tVar 7) (tPart (tUn (rU fun i => .int (-i)) (tC (.int 2)))) tNoPart
def tTreeTurn (K : PySem.W.Frag) : TS := tSeq (tAsg (tOp rCat (tLst (tCons (tC (.str "")) tNil)) (tSl (rSlL K) (tVar 2) tNoPart (tPart (tVar 5)))) (gName 7))
  (tSeq (tAsg (tLst (tCons (tOp (rIxL K) (tVar 7) (tUn (rU fun i => .int (-i)) (tC (.int 1)))) (tCons (tC (.str "")) (tCons (tCall (spPick K) [] E0 (tCons (tVar 0) (tCons (tVar 7) tNil))) (tCons (tCall (spPick K) [] E0 (tCons (tVar 0) (tCons (tVar 7) tNil))) (tCons (tCall (spPick K) [] E0 (tCons (tVar 0) (tCons (tLastTwo K) tNil))) tNil)))))) (gName 8))
  (sDPut (tVar 4) (tVar 6) (tOp (rIxL K) (tVar 8) (tVar 3))))
theorem treeTurn_ok {K : PySem.W.Frag} {D : Ends} {H : Hp} {u1 u7 u8 : Option V} {d c pn q : Addr} {w j : Nat} {fs : List Str} {f : Str} {t : List (Str × Str)} (dr : DrawAt H d c) (qd : q ≠ d) (qc : q ≠ c) (pd : pn ≠ d) (pc : pn ≠ c) (hn : H pn = some (.lst (fs.map V.str))) (hq : H q = some (.dK (prs t)))
    (hw : w < 5) (hj : j ≤ fs.length) (f12 : fs.length ≤ 12) (fresh : f ∉ t.map Prod.fst) (t12 : t.length ≤ 12)
    (nx : ∀ u7 u8 H' (z : Str), (z = "" ∨ z ∈ fs.take j) → DrawAt H' d c → (∀ b o, b ≠ d → b ≠ c → b ≠ q → H b = some o → H' b = some o) → H' q = some (.dK (prs (t ++ [(f, z)]))) → D.nx [some (.ref d), u1, some (.ref pn), some (.int (w : Int)), some (.ref q), some (.int (j : Int)), some (.str f), u7, u8] H') :
    tTreeTurn K D [some (.ref d), u1, some (.ref pn), some (.int (w : Int)), some (.ref q), some (.int (j : Int)), some (.str f), u7, u8] H := by
  have big : 1000 ≤ sizeLine := by decide
  let A : List Str := "" :: fs.take j
  have lenA : A.length = j + 1 := by
    show (fs.take j).length + 1 = j + 1
    rw [List.length_take, Nat.min_eq_left hj]
  have mem : ∀ z ∈ A, z = "" ∨ z ∈ fs.take j := fun z hz => List.mem_cons.mp hz
  refine ⟨by show 1 ≤ sizeLine; omega, fun p1 n1 => ⟨_, rfl, _, rfl, _, rfl, pn, fs.map V.str, rfl, SqL.of ?_, fun p2 n2 => ⟨p1, p2, [.str ""], _, rfl, rfl, ?_, upd_same, ?_, fun pa na => ?_⟩⟩⟩
  · rw [upd_ne (ne_of_none hn n1)]
    exact hn
  · rw [upd_ne (ne_of_none upd_same n2), upd_same]
  · have := cutV_length (fs.map V.str) none (some (j : Int))
    rw [List.length_map] at this
    show 1 + _ ≤ sizeLine
    omega
  rw [cut_take (by rw [List.length_map]; exact hj), ← List.map_take] at na ⊢
  obtain ⟨H1, e1⟩ : ∃ X, X = upd (upd (upd H p1 (.lst [.str ""])) p2 (.lst ((fs.take j).map V.str))) pa (.lst ([.str ""] ++ (fs.take j).map V.str)) := ⟨_, rfl⟩
  have s1 : Same H H1 := e1 ▸ ((same_new n1).trans (same_new n2)).trans (same_new na)
  have at1 : H1 pa = some (.lst (A.map V.str)) := by rw [e1, upd_same] <;> rfl
  have pad : pa ≠ d ∧ pa ≠ c := ((dr.mono (same_new n1)).mono (same_new n2)).apart na
  rw [← e1]
  have dr1 := dr.mono s1
  have neA : A.map V.str ≠ [] := by simp [A]
  obtain ⟨x0, hx0, mx0⟩ := at_back neA
  obtain ⟨z0, mz0, rfl⟩ := List.mem_map.mp mx0
  refine ⟨_, rfl, 1, rfl, pa, _, _, .str z0, rfl, rfl, SqL.of at1, hx0, ?_⟩
  refine ⟨_, rfl, _, rfl, d, c, _, A.length, (fun _ x => ∃ z, x = .str z ∧ z ∈ A), rfl, dr1, .inl ⟨pa, A.map V.str, rfl, pad.1, pad.2, at1, by rw [List.length_map], items_strs fun z hz => hz⟩, by omega, by omega, fun i x H2 px dr2 k2 => ?_⟩
  obtain ⟨z1, rfl, mz1⟩ := px
  have at2 := k2 pa _ pad.1 pad.2 at1
  refine ⟨_, rfl, _, rfl, d, c, _, A.length, (fun _ x => ∃ z, x = .str z ∧ z ∈ A), rfl, dr2, .inl ⟨pa, A.map V.str, rfl, pad.1, pad.2, at2, by rw [List.length_map], items_strs fun z hz => hz⟩, by omega, by omega, fun i x H3 px dr3 k3 => ?_⟩
  obtain ⟨z2, rfl, mz2⟩ := px
  have at3 := k3 pa _ pad.1 pad.2 at2
  refine ⟨_, rfl, _, rfl, 2, rfl, _, rfl, pa, _, rfl, SqL.of at3, fun p4 n4 => ?_⟩
  obtain ⟨c1, c2⟩ := cut_sub neA
  have p4d := dr3.apart n4
  have l4 := cutV_length (A.map V.str) (some (-2)) none
  rw [List.length_map] at l4
  refine ⟨d, c, _, (cutV (A.map V.str) (some (-2)) none).length, (fun _ x => ∃ z, x = .str z ∧ z ∈ A), rfl, dr3.off p4d.1 p4d.2, .inl ⟨p4, _, rfl, p4d.1, p4d.2, upd_same, rfl, fun i x hx => ?_⟩, List.length_pos_iff.mpr c1, by omega, fun i x H4 px dr4 k4 => ?_⟩
  · obtain ⟨z, mz, rfl⟩ := List.mem_map.mp (c2 x (List.mem_of_getElem? hx))
    exact ⟨z, rfl, mz⟩
  obtain ⟨z3, rfl, mz3⟩ := px
  have K4 : Keep d c H H4 := ((((Keep.of_same s1).trans k2).trans k3).trans (Keep.of_same (same_new n4))).trans k4
  refine ⟨by show 5 ≤ sizeLine; omega, fun p5 n5 => ?_⟩
  let B : List Str := [z0, "", z1, z2, z3]
  have mB : ∀ z ∈ B, z ∈ A := fun z hz => by
    simp only [B, List.mem_cons, List.not_mem_nil, or_false] at hz
    rcases hz with rfl | rfl | rfl | rfl | rfl
    · exact mz0
    · exact List.mem_cons_self ..
    · exact mz1
    · exact mz2
    · exact mz3
  have lB : w < B.length := hw
  have hB : (B.map V.str)[w]? = some (.str B[w]) := by rw [List.getElem?_map, List.getElem?_eq_getElem lB] <;> rfl
  have qH4 := K4 q _ qd qc hq
  have q5 : q ≠ p5 := ne_of_none qH4 n5
  refine ⟨_, rfl, _, rfl, p5, B.map V.str, _, .str B[w], rfl, rfl, SqL.of upd_same, atI_nat hB, ?_⟩
  refine ⟨_, rfl, _, rfl, q, _, rfl, DPut.k (k := Sum.inr f) (kvs := prs t) (by rw [upd_ne q5]; exact qH4) (by rw [prs_len]; omega), ?_⟩
  rw [put_new fresh]
  have p5d := dr4.apart n5
  refine nx _ _ _ B[w] (mem _ (mB _ (List.getElem_mem _))) ((dr4.off p5d.1 p5d.2).off qd qc) (fun b o b1 b2 b3 eb => ?_) upd_same
  rw [upd_ne b3, upd_ne (ne_of_none (K4 b o b1 b2 eb) n5)]
  exact K4 b o b1 b2 eb
def tTree (K : PySem.W.Frag) : TS := tSeq (tPar3 2 3 4 (tCons (tCall (spNames K) [] E0 (tCons (tVar 0) (tCons (tVar 1) tNil))) (tCons (tCall spDraw [] E0 (tCons (tVar 0) (tCons (tC (.int 5)) tNil))) (tCons tDNewK tNil))))
  (tSeq (tFor (iEnum K (tCons (tVar 2) tNil)) (gTup K 2 (gCons (gName 5) (gCons (gName 6) gNil))) (tTreeTurn K)) (tRet (tVar 4)))
theorem tree_ok {K : PySem.W.Frag} {D : Ends} {H : Hp} {d c : Addr} {n : Nat} {u2 u3 u4 u5 u6 u7 u8 : Option V} (dr : DrawAt H d c) (n1 : 1 ≤ n) (n12 : n ≤ 12)
    (k : ∀ (q : Addr) (t : List (Str × Str)) (H' : Hp), TreeUp t → t.length = n → H q = none → H' q = some (.dK (prs t)) → DrawAt H' d c → Keep d c H H' → D.rt (.ref q) H') :
    tTree K D [some (.ref d), some (.int (n : Int)), u2, u3, u4, u5, u6, u7, u8] H := by
  refine ⟨_, rfl, _, rfl, d, c, n, rfl, dr, n1, n12, fun pn fs H1 ln nd ok npn hn dr1 k1 => ?_⟩
  have pnd := dr.apart npn
  refine ⟨_, rfl, d, c, 5, rfl, dr1, by decide, by decide, fun w H2 w0 w5 dr2 k2 q nq => ?_⟩
  obtain ⟨qd, qc⟩ := dr2.apart nq
  have hn2 := k2 pn _ pnd.1 pnd.2 hn
  have K2 : Keep d c H H2 := k1.trans k2
  refine ⟨_, _, _, rfl, ?_⟩
  obtain ⟨w', ew⟩ : ∃ w' : Nat, w = (w' : Int) := ⟨w.toNat, by omega⟩
  subst ew
  refine ⟨_, rfl, pn, fs.map V.str, rfl, SqL.of (by rw [upd_ne (ne_of_none hn2 nq)]; exact hn2), ?_⟩
  refine for_it walk_enum (fun j σ' H' => (∃ u5 u6 u7 u8, σ' = [some (.ref d), some (.int (n : Int)), some (.ref pn), some (.int (w' : Int)), some (.ref q), u5, u6, u7, u8]) ∧ DrawAt H' d c ∧ H' pn = some (.lst (fs.map V.str)) ∧ Keep d c H2 H' ∧
    ∃ t : List (Str × Str), H' q = some (.dK (prs t)) ∧ t.map Prod.fst = fs.take j ∧ ∀ (i : Nat) (p : Str × Str), t[i]? = some p → p.2 = "" ∨ p.2 ∈ (t.take i).map Prod.fst)
    ⟨⟨_, _, _, _, rfl⟩, dr2.off qd qc, by rw [upd_ne (ne_of_none hn2 nq)]; exact hn2, Keep.refl.put nq, [], upd_same, by rw [List.take_zero] <;> rfl, fun i p h => by simp at h⟩ (fun j σ' H' _ q => SqL.of q.2.2.1) ?_ ?_
  · intro j T σ' Ha Hb hj ⟨⟨u5, u6, u7, u8, e⟩, da, hna, ka, t, hq, et, up⟩ ⟨T', y, z, eT, nT, eH, ey, ez⟩
    subst e
    subst eT
    subst eH
    cases ey
    rw [List.length_map] at hj
    have ez2 : (fs.map V.str)[j]? = some z := ez
    rw [List.getElem?_map] at ez2
    obtain ⟨f, hf, rfl⟩ := Option.map_eq_some_iff.mp ez2
    have tl := congrArg List.length et
    rw [List.length_map, List.length_take] at tl
    have fresh : f ∉ t.map Prod.fst := by
      rw [et]
      intro hm
      obtain ⟨i, hi⟩ := List.mem_iff_getElem?.mp hm
      have hi2 := (List.getElem?_eq_some_iff.mp hi).1
      rw [List.length_take] at hi2
      rw [List.getElem?_take, if_pos (by omega)] at hi
      have := (List.getElem?_inj (by omega) nd).mp (hi.trans hf.symm)
      omega
    have hT := da.apart nT
    have sT : Same Ha (upd Ha T' (.tup [.int (j : Int), .str f])) := same_new nT
    refine ⟨T', _, rfl, .inl (.inl upd_same), rfl, ?_⟩
    refine ⟨_, _, rfl, _, _, rfl, rfl, ?_⟩
    refine treeTurn_ok (da.mono sT) qd qc pnd.1 pnd.2 (sT _ _ hna) (sT _ _ hq) (by omega) (by omega) (by omega) fresh (by omega) fun u7 u8 H' z hz d' k' q' => ⟨⟨_, _, _, _, rfl⟩, d', k' pn _ pnd.1 pnd.2 (ne_of (sT _ _ hna) (sT _ _ hq) (by intro z; cases z)) (sT _ _ hna), fun b o b1 b2 e => ?_, t ++ [(f, z)], q', ?_, ?_⟩
    · exact k' b o b1 b2 (ne_of_none e nq) (sT _ _ (ka b o b1 b2 e))
    · rw [List.map_append, et, take_more hf] <;> rfl
    · intro i p h
      by_cases hi : i < t.length
      · rw [List.getElem?_append_left hi] at h
        rw [List.take_append_of_le_length (by omega)]
        exact up i p h
      · have hl := (List.getElem?_eq_some_iff.mp h).1
        rw [List.length_append] at hl
        have ei : i = t.length := by
          have : ([(f, z)] : List (Str × Str)).length = 1 := rfl
          omega
        subst ei
        rw [List.getElem?_append_right (Nat.le_refl _), Nat.sub_self] at h
        have ep : (f, z) = p := Option.some.inj h
        subst ep
        rw [List.take_append_of_le_length (Nat.le_refl _), List.take_length, et]
        exact hz
  · intro σ' H' ⟨⟨u5, u6, u7, u8, e⟩, da, hna, ka, t, hq, et, up⟩
    subst e
    rw [List.length_map, List.take_length] at et
    have lt := congrArg List.length et
    rw [List.length_map] at lt
    exact ⟨_, rfl, k q t H' ⟨by omega, by omega, by rw [et]; exact nd, by rw [et]; exact ok, up⟩ (by omega) (K2.free nq qd qc) hq da (K2.trans ka)⟩
section
variable {P : Program} {w : World} {K : PySem.W.Frag} {mg : Str → Option Value} {base : Heap}
theorem scTree : FnScope ["_law_state", "_law_many", "_law_names_here", "_law_way", "_law_found", "_law_k", "_law_flag", "_law_above", "_law_some"] ["_law_state", "_law_many"] (defScope s__law_tree) := ⟨rfl, rfl, rfl, by decide +kernel, rfl, by decide +kernel, by decide +kernel⟩
theorem ok_tree {f fD fP fN : Addr} {fd fdD fdP fdN : FuncData} (F : Fun K "_law_tree" "_law_tree" s__law_tree f fd) (T : Nm mg) (FD : Fun K "_law_draw" "_law_draw" s__law_draw fD fdD) (bD : Binds K fdD ["_law_state", "_law_many"] []) (gD : mg "_law_draw" = some (.ref fD))
    (FP : Fun K "_law_pick" "_law_pick" s__law_pick fP fdP) (bP : Binds K fdP ["_law_state", "_law_some"] []) (gP : mg "_law_pick" = some (.ref fP))
    (FN : Fun K "_law_names" "_law_names" s__law_names fN fdN) (bN : Binds K fdN ["_law_state", "_law_many"] []) (gN : mg "_law_names" = some (.ref fN)) : FnOk P w K mg base CX0 4 f fd ["_law_state", "_law_many"] spTree := by
  have GD : FnOk P w K mg base CX0 1 fD fdD ["_law_state", "_law_many"] spDraw := ok_draw FD T
  have GP : FnOk P w K mg base CX0 2 fP fdP ["_law_state", "_law_some"] (spPick K) := ok_pick FP T FD bD gD
  have GN : FnOk P w K mg base CX0 3 fN fdN ["_law_state", "_law_many"] (spNames K) := ok_names FN T FD bD gD FP bP gP
  refine F.ok scTree (fun vs H Q E h => ?_) (fun cdv A outer s H vs Q E hr h => ?_)
  · obtain ⟨d, c, n, rfl, _⟩ := h
    rfl
  · obtain ⟨d, c, n, rfl, hD, n1, n12, k⟩ := h
    have hr1 : Room 1 _ := hr.mono (by decide)
    have hr2 : Room 2 _ := hr.mono (by decide)
    refine ⟨tTree K, ?_, tree_ok hD n1 n12 k⟩
    exact pss_cons (ps_par3 (i := 2) (j := 3) (l := 4) rfl scTree.nd rfl rfl rfl (by decide) (by decide) (by decide) rfl rfl rfl (pa_cons (pe_call GN hr rfl gN FN.kp bN .nil pass0 (pa_cons (pv 0) (pa_cons (pv 1) pa_nil))) (pa_cons (pe_call GD hr1 rfl gD FD.kp bD .nil pass0 (pa_cons (pv 0) (pa_cons pe_int pa_nil))) (pa_cons pe_dnewK pa_nil))) (by rfl))
      (pss_cons (ps_for PassesOwn.never rfl (pi_enum rfl T.enu (pa_cons (pv 2) pa_nil)) (pg_tup rfl (pgs_cons (pg_name (i := 5) scTree.nd rfl (.inl rfl)) (pgs_cons (pg_name (i := 6) scTree.nd rfl (.inl rfl)) pgs_nil)))
        (pss_cons (ps_set (i := 7) scTree.nd rfl (.inl rfl) (pe_op op_cat (pe_lst (pa_cons pe_str pa_nil)) (pe_slice sl_list (pv 2) po_none (po_some (pv 5)))))
        (pss_cons (ps_set (i := 8) scTree.nd rfl (.inl rfl) (pe_lst (pa_cons (pe_ix ix_list (pv 7) (pe_un un_neg pe_int) (fun _ _ => rfl)) (pa_cons pe_str (pa_cons (pe_call GP hr2 rfl gP FP.kp bP .nil pass0 (pa_cons (pv 0) (pa_cons (pv 7) pa_nil))) (pa_cons (pe_call GP hr2 rfl gP FP.kp bP .nil pass0 (pa_cons (pv 0) (pa_cons (pv 7) pa_nil)))
          (pa_cons (pe_call GP hr2 rfl gP FP.kp bP .nil pass0 (pa_cons (pv 0) (pa_cons (pe_slice sl_list (pv 7) (po_some (pe_un un_neg pe_int)) po_none) pa_nil))) pa_nil)))))))
        (pss_one (ps_dput (hu_of hr) (pv 4) (pv 6) (pe_ix ix_list (pv 8) (pv 3) (fun _ _ => rfl)) rfl)))))
      (pss_one (ps_ret (pv 4))))
end
end FT


namespace FT
open PySem L2 TL ClX
theorem cut_strs (A : List Str) (lo hi : Option Int) : ∃ L : List Str, cutV (A.map V.str) lo hi = L.map V.str ∧ (∀ z ∈ L, z ∈ A) ∧ L.length ≤ A.length := by
  unfold cutV
  generalize HT.sIx (A.map V.str).length 0 lo = i
  generalize HT.sIx (A.map V.str).length (A.map V.str).length hi - i = k
  refine ⟨(A.drop i).take k, by rw [List.map_take, List.map_drop], fun z hz => List.mem_of_mem_drop (List.mem_of_mem_take hz), ?_⟩
  rw [List.length_take, List.length_drop]
  omega
theorem cut_two {xs : List V} (ne : xs ≠ []) : cutV xs none (some 2) ≠ [] := fun z => by
  have l0 : 0 < xs.length := List.length_pos_iff.mpr ne
  have e : HT.sIx xs.length xs.length (some 2) = min 2 xs.length := HT.sIx_nat _ _ 2
  have c : cutV xs none (some 2) = (xs.drop 0).take (min 2 xs.length - 0) := by
    show (xs.drop 0).take (HT.sIx xs.length xs.length (some 2) - 0) = _
    rw [e]
  rw [c] at z
  have := congrArg List.length z
  rw [List.length_take, List.length_drop, List.length_nil] at this
  omega
theorem cut_last {xs : List V} (ne : xs ≠ []) : cutV xs (some (-1)) none ≠ [] := fun z => by
  have l0 : 0 < xs.length := List.length_pos_iff.mpr ne
  have e : HT.sIx xs.length 0 (some (-1)) = ((-1 : Int) + (xs.length : Int)).toNat := by
    show (if (-1 : Int) < 0 then ((-1 : Int) + (xs.length : Int)).toNat else min (-1 : Int).toNat xs.length) = _
    rw [if_pos (by decide)]
  have c : cutV xs (some (-1)) none = (xs.drop ((-1 : Int) + (xs.length : Int)).toNat).take (xs.length - ((-1 : Int) + (xs.length : Int)).toNat) := by
    show (xs.drop (HT.sIx xs.length 0 (some (-1)))).take (xs.length - HT.sIx xs.length 0 (some (-1))) = _
    rw [e]
  rw [c] at z
  have := congrArg List.length z
  rw [List.length_take, List.length_drop, List.length_nil] at this
  omega
def spPlaces : Sp := fun vs H Q _ => ∃ (d c q : Addr) (m : Nat) (t : List (Str × Str)), vs = [.ref d, .ref q, .int (m : Int)] ∧ DrawAt H d c ∧ H q = some (.dK (prs t)) ∧ t.length ≤ 12 ∧ m ≤ 60 ∧
  ∀ (l : Addr) (zs : List Str) (H' : Hp), zs.length = m → (∀ z ∈ zs, z = "" ∨ z ∈ t.map Prod.fst) → H l = none → H' l = some (.lst (zs.map V.str)) → DrawAt H' d c → Keep d c H H' → Q (.ref l) H'
def tPlaces (K : PySem.W.Frag) : TS := tSeq (tAsg (tOp rCat (tLst (tCons (tC (.str "")) tNil)) (tCB (fun xs H Q => ∃ (a : Addr) (kvs : List (Key × V)), xs = [.ref a] ∧ Rd H a (.dK kvs) ∧ ∀ p, H p = none → Q (.ref p) (upd H p (.lst (kvs.map fun kv => kV kv.1)))) (tCons (tVar 1) tNil))) (gName 3))
  (tSeq (tAsg (tCall (spPick K) [] E0 (tCons (tVar 0) (tCons (tLst (tCons (tVar 3) (tCons (tVar 3) (tCons (tSl (rSlL K) (tVar 3) tNoPart (tPart (tC (.int 2)))) (tCons (tSl (rSlL K) (tVar 3) (tPart (tUn (rU fun i => .int (-i)) (tC (.int 1)))) tNoPart) tNil))))) tNil))) (gName 3))
  (tRet (tLc (iRng1 (tCons (tVar 2) tNil)) (gName 4) tYes (tCall (spPick K) [] E0 (tCons (tVar 0) (tCons (tVar 3) tNil))) [4])))
theorem places_ok {K : PySem.W.Frag} {D : Ends} {H : Hp} {d c q : Addr} {m : Nat} {t : List (Str × Str)} {u3 u4 : Option V} (dr : DrawAt H d c) (hq : H q = some (.dK (prs t))) (t12 : t.length ≤ 12) (m60 : m ≤ 60)
    (k : ∀ (l : Addr) (zs : List Str) (H' : Hp), zs.length = m → (∀ z ∈ zs, z = "" ∨ z ∈ t.map Prod.fst) → H l = none → H' l = some (.lst (zs.map V.str)) → DrawAt H' d c → Keep d c H H' → D.rt (.ref l) H') :
    tPlaces K D [some (.ref d), some (.ref q), some (.int (m : Int)), u3, u4] H := by
  have big : 1000 ≤ sizeLine := by decide
  let A : List Str := "" :: t.map Prod.fst
  have lenA : A.length = t.length + 1 := by
    show (t.map Prod.fst).length + 1 = _
    rw [List.length_map]
  refine ⟨by show 1 ≤ sizeLine; omega, fun p1 n1 => ⟨_, rfl, q, prs t, rfl, .inl (by rw [upd_ne (ne_of_none hq n1)]; exact hq), fun p2 n2 => ⟨p1, p2, [.str ""], _, rfl, rfl, by rw [upd_ne (ne_of_none upd_same n2), upd_same], upd_same, ?_, fun pa na => ?_⟩⟩⟩
  · rw [keys_prs, List.length_map, List.length_map]
    show 1 + _ ≤ sizeLine
    omega
  rw [keys_prs] at na ⊢
  obtain ⟨H1, e1⟩ : ∃ X, X = upd (upd (upd H p1 (.lst [.str ""])) p2 (.lst ((t.map Prod.fst).map V.str))) pa (.lst ([.str ""] ++ (t.map Prod.fst).map V.str)) := ⟨_, rfl⟩
  have s1 : Same H H1 := e1 ▸ ((same_new n1).trans (same_new n2)).trans (same_new na)
  have at1 : H1 pa = some (.lst (A.map V.str)) := by rw [e1, upd_same] <;> rfl
  have pad : pa ≠ d ∧ pa ≠ c := ((dr.mono (same_new n1)).mono (same_new n2)).apart na
  rw [← e1]
  have neA : A.map V.str ≠ [] := by simp [A]
  refine ⟨_, rfl, _, rfl, _, rfl, _, rfl, _, rfl, pa, _, rfl, SqL.of at1, fun p3 n3 => ?_⟩
  have s3 := same_new (o := .lst (cutV (A.map V.str) none (some 2))) n3
  have at3 := s3 _ _ at1
  refine ⟨_, rfl, 1, rfl, _, rfl, pa, _, rfl, SqL.of at3, fun p4 n4 => ?_⟩
  have s4 := same_new (o := .lst (cutV (A.map V.str) (some (-1)) none)) n4
  refine ⟨by show 4 ≤ sizeLine; omega, fun p5 n5 => ?_⟩
  have s5 := same_new (o := .lst [.ref pa, .ref pa, .ref p3, .ref p4]) n5
  obtain ⟨H5, e5⟩ : ∃ X, X = upd (upd (upd H1 p3 (.lst (cutV (A.map V.str) none (some 2)))) p4 (.lst (cutV (A.map V.str) (some (-1)) none))) p5 (.lst [.ref pa, .ref pa, .ref p3, .ref p4]) := ⟨_, rfl⟩
  have dr1 := dr.mono s1
  have p3d := dr1.apart n3
  have p4d := (dr1.mono s3).apart n4
  have p5d := ((dr1.mono s3).mono s4).apart n5
  have s15 : Same H1 H5 := e5 ▸ (s3.trans s4).trans s5
  have ha : H5 pa = some (.lst (A.map V.str)) := s15 _ _ at1
  have h3 : H5 p3 = some (.lst (cutV (A.map V.str) none (some 2))) := by
    rw [e5]
    exact s5 _ _ (s4 _ _ upd_same)
  have h4 : H5 p4 = some (.lst (cutV (A.map V.str) (some (-1)) none)) := by
    rw [e5]
    exact s5 _ _ upd_same
  obtain ⟨L3, el3, m3, ll3⟩ := cut_strs A none (some 2)
  obtain ⟨L4, el4, m4, ll4⟩ := cut_strs A (some (-1)) none
  have ne3 : L3 ≠ [] := fun z => cut_two neA (by rw [el3, z] <;> rfl)
  have ne4 : L4 ≠ [] := fun z => cut_last neA (by rw [el4, z] <;> rfl)
  rw [el3] at h3
  rw [el4] at h4
  refine ⟨d, c, _, 4, (fun _ x => ∃ (r : Addr) (L : List Str), x = .ref r ∧ H5 r = some (.lst (L.map V.str)) ∧ L ≠ [] ∧ (∀ z ∈ L, z ∈ A) ∧ r ≠ d ∧ r ≠ c ∧ L.length ≤ A.length), rfl, ?_, .inl ⟨p5, _, rfl, p5d.1, p5d.2, upd_same, rfl, fun i x hx => ?_⟩, by decide, by decide, fun i x H6 px dr6 k6 => ?_⟩
  · rw [← e5]
    exact dr1.mono s15
  · have hm := List.mem_of_getElem? hx
    simp only [List.mem_cons, List.not_mem_nil, or_false] at hm
    rcases hm with rfl | rfl | rfl | rfl
    · exact ⟨pa, A, rfl, ha, by simp [A], fun z hz => hz, pad.1, pad.2, Nat.le_refl _⟩
    · exact ⟨pa, A, rfl, ha, by simp [A], fun z hz => hz, pad.1, pad.2, Nat.le_refl _⟩
    · exact ⟨p3, L3, rfl, h3, ne3, m3, p3d.1, p3d.2, ll3⟩
    · exact ⟨p4, L4, rfl, h4, ne4, m4, p4d.1, p4d.2, ll4⟩
  rw [← e5] at k6
  obtain ⟨r, L, rfl, hr, neL, mL, rd, rc, lL⟩ := px
  have hr6 := k6 r _ rd rc hr
  have K6 : Keep d c H H6 := (Keep.of_same (s1.trans s15)).trans k6
  have posL : 0 < L.length := List.length_pos_iff.mpr neL
  refine ⟨_, rfl, _, rfl, by omega, by omega, fun D1 nD1 => ?_⟩
  have D1d := dr6.apart nD1
  refine lc_it (walk_range (lo := 0) (n := ((m : Int)).toNat)) (fun i H' => DrawAt H' d c ∧ Keep d c H6 H' ∧ ∃ zs : List Str, H' D1 = some (.lst (zs.map V.str)) ∧ zs.length = i ∧ ∀ z ∈ zs, z ∈ A) ⟨dr6.off D1d.1 D1d.2, Keep.refl.put nD1, [], upd_same, rfl, fun y h => by cases h⟩ (fun _ _ _ _ => trivial) ?_ ?_
  · intro i x Ha Hb hi ⟨da, ka, ys, ey, ly, sy⟩ ⟨e1, e2⟩
    subst e1
    subst e2
    refine ⟨rfl, ?_⟩
    refine ⟨_, rfl, _, rfl, d, c, _, L.length, (fun _ x => ∃ z, x = .str z ∧ z ∈ L), rfl, da, .inl ⟨r, _, rfl, rd, rc, ka r _ rd rc hr6, by rw [List.length_map], items_strs fun z hz => hz⟩, posL, by omega, fun i' x Hc px dc kc => ?_⟩
    obtain ⟨z, rfl, hz⟩ := px
    refine ⟨_, kc D1 _ D1d.1 D1d.2 ey, by rw [List.length_map, ly]; omega, dc.off D1d.1 D1d.2, (ka.trans kc).put nD1, ys ++ [z], by rw [upd_same, List.map_append] <;> rfl, by rw [List.length_append, ly] <;> rfl, fun y hy => ?_⟩
    rcases List.mem_append.mp hy with h | h
    · exact sy y h
    · rw [List.mem_singleton.mp h]
      exact mL z hz
  · intro H7 ⟨d7, k7, zs, ez, lz, sz⟩
    exact k D1 zs H7 (by omega) (fun z hz => List.mem_cons.mp (sz z hz)) (K6.free nD1 D1d.1 D1d.2) ez d7 (K6.trans k7)
section
variable {P : Program} {w : World} {K : PySem.W.Frag} {mg : Str → Option Value} {base : Heap}
theorem scPlaces : FnScope ["_law_state", "_law_tree_here", "_law_users", "_law_some", "_law_user"] ["_law_state", "_law_tree_here", "_law_users"] (defScope s__law_places) := ⟨rfl, rfl, rfl, by decide +kernel, rfl, by decide +kernel, by decide +kernel⟩
theorem ok_places {f fD fP : Addr} {fd fdD fdP : FuncData} (F : Fun K "_law_places" "_law_places" s__law_places f fd) (T : Nm mg) (FD : Fun K "_law_draw" "_law_draw" s__law_draw fD fdD) (bD : Binds K fdD ["_law_state", "_law_many"] []) (gD : mg "_law_draw" = some (.ref fD))
    (FP : Fun K "_law_pick" "_law_pick" s__law_pick fP fdP) (bP : Binds K fdP ["_law_state", "_law_some"] []) (gP : mg "_law_pick" = some (.ref fP)) : FnOk P w K mg base CX0 3 f fd ["_law_state", "_law_tree_here", "_law_users"] spPlaces := by
  have GP : FnOk P w K mg base CX0 2 fP fdP ["_law_state", "_law_some"] (spPick K) := ok_pick FP T FD bD gD
  refine F.ok scPlaces (fun vs H Q E h => ?_) (fun cdv A outer s H vs Q E hr h => ?_)
  · obtain ⟨d, c, q, m, t, rfl, _⟩ := h
    rfl
  · obtain ⟨d, c, q, m, t, rfl, hD, hq, t12, m60, k⟩ := h
    refine ⟨tPlaces K, ?_, places_ok hD hq t12 m60 k⟩
    exact pss_cons (ps_set (i := 3) scPlaces.nd rfl (.inr rfl) (pe_op op_cat (pe_lst (pa_cons pe_str pa_nil)) (pe_callTy (call_listD rfl) (by rfl) T.lst (by decide +kernel) (pa_cons (pv 1) pa_nil))))
      (pss_cons (ps_set (i := 3) scPlaces.nd rfl (.inr rfl) (pe_call GP hr rfl gP FP.kp bP .nil pass0 (pa_cons (pv 0) (pa_cons (pe_lst (pa_cons (pv 3) (pa_cons (pv 3) (pa_cons (pe_slice sl_list (pv 3) po_none (po_some pe_int)) (pa_cons (pe_slice sl_list (pv 3) (po_some (pe_un un_neg pe_int)) po_none) pa_nil))))) pa_nil))))
      (pss_one (ps_ret (pe_lc (own := [("_law_user", 4)]) (g := gName 4) (tt := tYes) rfl scPlaces.nd (pi_range1 rfl T.rng (pa_cons (pv 2) pa_nil))
        (blkOk_by (N := ["_law_state", "_law_tree_here", "_law_users", "_law_some", "_law_user"]) (sc := defScope s__law_places) (by decide +kernel))
        (fun _ _ _ _ _ => pg_name (i := 4) scPlaces.nd rfl (Or.inl rfl)) (fun _ _ _ _ _ => pts_nil) (fun _ _ _ _ _ => pe_call GP hr rfl gP FP.kp bP .nil pass0 (pa_cons (pv 0) (pa_cons (pv 3) pa_nil)))))))
end
end FT


/-! xs.count(y), flat items -/
namespace L2
open PySem PySem.Spec PyProof.Rows
theorem countP_eqU {x : V} : ∀ {xs : List V} {us : List Value}, Vals xs us → xs.all flatV = true → us.countP (eqU x) = xs.countP fun y => eqV y x
  | _, _, .nil, _ => rfl
  | y :: xs, u :: us, .cons r t, f => by
    rw [List.all_cons, Bool.and_eq_true] at f
    rw [List.countP_cons, List.countP_cons, countP_eqU t f.2, eqU_of r f.1]
def rCntF (K : PySem.W.Frag) : V → List V → Hp → VK → Prop := fun x xs H Q => ∃ (a : Addr) (ys : List V) (y : V), x = .ref a ∧ xs = [y] ∧ SqL K H a ys ∧ flatV y = true ∧ ys.all flatV = true ∧ Q (.int ((ys.countP fun z => eqV z y : Nat) : Int)) H
variable {X : Cx}
theorem mt_countF : MtR X "list.count" (rCntF X.K) := by
  intro pins s σ H x xs v us Q I rx rxs ⟨a, ys, y, ex, exs, hs, fy, fys, q⟩
  subst ex
  subst exs
  cases rx
  match us, rxs with
  | [uy], .cons ry .nil =>
    obtain ⟨its, rv, ⟨⟨cls, dd, data, sl⟩, n, ho, hc, hdn, hd⟩, hlen⟩ := I.list hs
    simp only at hc hd
    subst hc hd
    refine call_meets PySem.F.slot_list_count ⟨_, ho, rfl⟩ PySem.F.entry_list_count (PySem.F.args_list_count_2 _ _)
      (SeqAt.list_countAt a its.toArray n dd sl uy (eqU y)) ⟨ho, fun u hu => mem_eqAt ry fy rv fys u (by simpa using hu), ?_⟩
    refine ⟨.int ((ys.countP fun z => eqV z y : Nat) : Int), H, I.tok _, ⟨s.toks, ?_⟩, q⟩
    show Value.int ((its.toArray.toList.countP (eqU y) : Nat) : Int) s.toks = Value.int ((ys.countP fun z => eqV z y : Nat) : Int) s.toks
    rw [show its.toArray.toList = its from rfl, countP_eqU rv fys]
end L2


/-! Own: repr over the layer. repr asks what calls of repr are under way (A.guards), and the layer's contracts do not tell it: a contract FnG that tells it too, its rule for a def's body, its call, the end. -/
namespace L2
open PySem PySem.Spec PyProof.Rows
/-- no repr is under way -/
abbrev Clr (A : Around) : Prop := A.guards = some []
theorem Clr.deeper {A : Around} {env : Env} (h : Clr A) : Clr (A.deeper env) := by
  have h' : A.guards = some [] := h
  show (A.deeper env).guards = some []
  first
    | exact h'
    | (simp [Around.deeper, h', pushGuards, Code.guards, Code.isGuard])
structure FnG (P : Program) (w : World) (K : PySem.W.Frag) (mg : Str → Option Value) (base : Heap) (CX : CXT) (k : Nat) (f : Addr) (fd : FuncData) (ps : List Str) (sp : Sp) : Prop where
  len : ∀ vs H Q E, sp vs H Q E → vs.length = ps.length
  run : ∀ (A : Around) (outer : List Env) (s : Shared) (H : Hp) (args : Args) (us : List Value) (vs : List V) (Q : VK) (E : XK), Clr A → Room k A → Env0 P w K mg base A outer s H → BindsTo s fd args (ps.zip us) → Vals vs us → sp vs H Q E →
    codeAny (model P w) A (.call (.ref f) args) (CR CX outer P w H s Q E) s
theorem FnOk.g {P : Program} {w : World} {K : PySem.W.Frag} {mg : Str → Option Value} {base : Heap} {CX : CXT} {k : Nat} {f : Addr} {fd : FuncData} {ps : List Str} {sp : Sp} (F : FnOk P w K mg base CX k f fd ps sp) : FnG P w K mg base CX k f fd ps sp :=
  ⟨F.len, fun A outer s H args us vs Q E _ => F.run A outer s H args us vs Q E⟩
section
variable {P : Program} {w : World} {K : PySem.W.Frag} {mg : Str → Option Value} {base : Heap}
/-- a def by its body, where nothing is raised out of it -/
theorem Fun.okG {x qual : Str} {st : Stmt} {f : Addr} {fd : FuncData} {N ps : List Str} {k : Nat} {sp : Sp} (F : Fun K x qual st f fd) (S : FnScope N ps (defScope st)) (len : ∀ vs H Q E, sp vs H Q E → vs.length = ps.length)
    (body : ∀ (cdv : Value) (A : Around) (outer : List Env) (s : Shared) (H : Hp) (vs : List V) (Q : VK) (E : XK), Clr A → Room k (A.deeper (envOfC qual (defScope st) s.heap.objs.size f cdv)) → sp vs H Q E →
      ∃ t, PSs (cxOf CX0 P w K mg base N qual (defScope st) f cdv A outer s H E).nox (defBody st) t ∧ t { nx := fun _ H' => Q .non H', rt := Q } (start N vs) H) : FnG P w K mg base CX0 (k + 1) f fd ps sp := by
  obtain ⟨oc, od, kV, doc, pm, an, cdv, ct, osl, rfl, lk, code⟩ := F.ex
  refine ⟨len, fun A outer s H args us vs Q E clr room e0 binds rel want => ?_⟩
  have nps := len _ _ _ _ want
  have KX : K.In s.heap := e0.mod.kin.keeps fun b o e => (e0.bs b o e).1
  have lim : s.heap.NoLimit := e0.mod.nolimit.keeps fun b o e => (e0.bs b o e).1
  refine codeAny_call_function room.depth (KX _ _ lk) rfl S.co S.gen rfl (PySem.W.codeRec_of KX code) (binds _ _ _ _ (wpAny_newFunctionEnv_cells S.kind (fun y hy => ?_) fun env he s1 x => ?_))
  · obtain ⟨n, v⟩ := y
    exact (S.par n (List.of_mem_zip hy).1).elim .inl fun q => .inr ⟨q, PySem.W.cellsFrom_some _ _ _ (.inl q)⟩
  · subst he
    obtain ⟨t, term, q⟩ := body cdv A outer s H vs Q E clr (room.deeper _) want
    have I : Inv (cxOf CX0 P w K mg base N qual (defScope st) f cdv A outer s H E) [] (start N vs) H s1 := inv_start S room.hd e0 nps rel x
    refine ⟨lim.keeps x.toInCall.keep, codeAny_func (wpAny_mono (term.nox.run [] s1 (start N vs) H _ I q) (fun fl s' z => ?_) fun _ _ z => z)⟩
    match fl, z with
    | .ret u, ⟨v, _, H', J, rv, q⟩ => exact ⟨v, H', J.os, J.bare, J.base, J.hok, rv, q⟩
    | .next, ⟨_, H', J, q⟩ => exact ⟨.non, H', J.os, J.bare, J.base, J.hok, rfl, q⟩
    | .brk, ⟨_, _, _, q⟩ => exact q.elim
    | .cont, ⟨_, _, _, q⟩ => exact q.elim
end
section
variable {X : Cx} {CX : CXT} {k : Nat} {f : Addr} {fd : FuncData} {ps : List Str} {sp : Sp} {dvs : List V} {ds : List Value} {E : XK} {x : Str} {p pos : Pos} {e : Expr} {es : List Expr} {t : TA}
/-- f(e, ..), f of such a contract -/
theorem pe_callG (F : FnG X.prog X.w X.K X.mg X.base CX k f fd ps sp) (clr : Clr X.A) (hr : Room k X.A) (hg : Gl X x) (hm : X.mg x = some (.ref f)) (hk : PySem.W.keepIn X.K (.ref f) = true) (hb : Binds X.K fd ps ds) (hd : Vals dvs ds) (hx : Passes CX X E)
    (ha : PA X (e :: es) t) (dbg : (x == ("__debug__" : Str)) = false := by decide) (one : starEach (e :: es) X.env = (false, eval e X.env) :: starEach es X.env := by rfl) (plain : (backTo pos (starEach es X.env)).any (·.1) = false := by rfl) :
    PE X (.Call (.Name x p) (e :: es) [] pos) (tCall sp dvs E t) := by
  refine ⟨fun pins s σ H Q I h => wpAny_Call_Name_kw (ld_glob I hg hm ?_ dbg)⟩
  refine PySem.W.callWith_K (h₀ := X.base) I.ok.mod.kin hk (thn (ha.run pos pins s σ H _ I h) fun us s1 ⟨vs, H1, J, rel, want⟩ => ⟨J.kIn, ?_⟩) one plain
  have r2 : Vals (vs ++ dvs) (us ++ ds) := rel.append hd
  have len : (us ++ ds).length = ps.length := r2.length.symm.trans (F.len _ _ _ _ want)
  refine wpAny_call (codeAny_mono (F.run X.A X.stack s1 H1 ⟨us, []⟩ (us ++ ds) (vs ++ dvs) Q E clr hr J.env0 (hb s1 us J.kIn len) r2 want) fun r s' z => ?_)
  match r, z with
  | .error er, z => exact hx pins σ H1 s1 er s' J z
  | .ok (.ret u), z => exact J.after z
  | .ok .next, z => exact z.elim
  | .ok .brk, z => exact z.elim
  | .ok .cont, z => exact z.elim
/-! ### repr -/
/-- what is shown: data without dicts, or the empty dict -/
def Shw (K : PySem.W.Frag) (H : Hp) (x : V) (d : PyData) : Prop := (Dp K H x d ∧ d.hasDict = false) ∨ ∃ a, x = .ref a ∧ H a = some (.dK []) ∧ d = .dict []
def rRepr (K : PySem.W.Frag) : List V → Hp → VK → Prop := fun xs H Q => ∃ (x : V) (d : PyData), xs = [x] ∧ Shw K H x d ∧ d.showable = true ∧ d.depth ≤ 60 ∧ d.shown.length ≤ sizeLine ∧ Q (.str d.shown) H
theorem Shw.reads {pins : List (Addr × Obj)} {σ : St} {H : Hp} {s : Shared} {x : V} {u : Value} {d : PyData} (h : Shw X.K H x d) (I : Inv X pins σ H s) (r : RelV x u) : ∃ as, Reads s.heap u d as ∧ (d.hasDict = true → sysModules ∉ as) := by
  rcases h with ⟨h, nd⟩ | ⟨a, rfl, e, rfl⟩
  · obtain ⟨as, q⟩ := Dp.reads I d x u h r
    exact ⟨as, q, PyData.noDict_hsm nd⟩
  · obtain rfl : u = Value.ref a := r
    obtain ⟨_, ns, vs, kv, o, es, ep, h1, h2, h3, h4⟩ := (show ObjOk X.prog X.w H s.heap a (.dK []) from I.hok a _ e)
    cases kv
    have hes : es.toList = [] := by
      obtain ⟨_, h5, _⟩ := h4
      revert h5
      generalize es.toList = l
      intro h5
      cases h5
      rfl
    refine ⟨a :: [] ++ [], .dict h1 h2.1 h3 (by rw [hes]; exact .nil) (by rw [hes]; exact .nil), fun _ hm => ?_⟩
    have hm' : sysModules = a := by simpa using hm
    rw [hm'] at ns
    simp at ns
theorem call_repr (clr : Clr X.A) (hu : X.A.units + 64 < cLine) : CallR X (.builtin "repr") (rRepr X.K) := by
  intro pins s σ H xs us Q I r h
  obtain ⟨x, d, rfl, sh, ok, dep, few, q⟩ := h
  obtain ⟨u, rfl, ru⟩ := vals1 r
  obtain ⟨as, rd, sm⟩ := sh.reads I ru
  have fin : ∀ h' (t : Tok) tk, (∀ b o, s.heap.get? b = some o → h'.get? b = some o) → EP X pins σ Q (.str d.shown t) { s with heap := h', toks := tk } := fun h' t tk kp => ⟨.str d.shown, H, I.kept kp, ⟨t, rfl⟩, q⟩
  cases u with
  | ref a => exact repr_of_reads' rd ok sm clr (by omega) (fun _ _ z => z) fin few
  | none => cases rd; exact PySem.P.repr_of_none (fin _ _ _ fun _ _ z => z)
  | bool b => cases rd; exact PySem.P.repr_of_bool (fin _ _ _ fun _ _ z => z)
  | int i t => cases rd; exact PySem.P.repr_of_int (by simpa [PyData.showable] using ok) (fin _ _ _ fun _ _ z => z)
  | str y t => cases rd; exact PySem.P.repr_of_str (fin _ _ _ fun _ _ z => z) few
  | _ => cases rd
end
end L2


/-! Own: the end of a law's row from a contract FnG (the library's walk_of asks FnOk). -/
namespace L2
open PySem PySem.Spec PyProof.Rows
section
variable {P : Program} {w : World} {K : PySem.W.Frag} {mg mb : Str → Option Value} {k : Nat} {fa a : Addr} {fd : FuncData} {x : Str} {sp : Sp} {s : Shared} {vs : List Value} {ns : List Int}
/-- the abstract heap at the law's entry: the script alone, locked; or nothing, where the script is the module's own -/
abbrev Entry (K : PySem.W.Frag) (a : Addr) (H : Hp) : Prop := (∀ b, H b ≠ none → b = a) ∧ (H a ≠ none → K.lookup a = none)
theorem entry_run (KX : K.In s.heap) (hns : s.heap.Ns mainGlobals mg) (hb : s.heap.Ns builtinsNs mb) (hbb : ∀ y : Str, y ≠ "__name__" → mb y = bootBuiltins y) (lim : s.heap.NoLimit) (gens : s.gens = #[])
    (oa : s.heap.get? a = some { cls := .type "list", data := .seq vs.toArray }) (room : Room k callerA) (F : ∀ base : Heap, K.In base → base.Ns mainGlobals mg → FnG P w K mg base CX0 k fa fd [x] sp)
    (bind : ∀ (s : Shared) (u : Value), BindsTo s fd ⟨[u], []⟩ [(x, u)]) {H : Hp} (only : Only H) (ok : HOk P w H s.heap) (en : Entry K a H) (want : sp [.ref a] H (fun v _ => v = .bl true) fun _ _ _ => False) :
    codeAny (model P w) callerA (.call (.ref fa) ⟨[.ref a], []⟩) (fun r s' => r = .ok (.ret (.bool true)) ∧ OldK s.heap s'.heap ∧ s'.os = s.os ∧ AllBare s'.gens) s := by
  obtain ⟨e1, e2⟩ := en
  have isA : ∀ {b : Addr} {u : HO}, H b = some u → b = a := fun {b u} q => e1 b fun z => by
    rw [z] at q
    cases q
  -- an address at which another object stands is not tracked
  have out : ∀ {b : Addr}, b ≠ a → H b = none := fun {b} ne => by
    cases q : H b with
    | none => rfl
    | some u => exact absurd (isA q) ne
  have dictNe : ∀ {b : Addr} {o : Obj} {es : Array DictEntry} {ep : Nat}, s.heap.get? b = some o → o.data = .dict es ep → b ≠ a := fun {b o es ep} q d z => by
    subst z
    rw [oa] at q
    cases q
    cases (show Data.seq vs.toArray _ = Data.dict es ep from d)
  have seen : ∀ {b : Addr} {o : Obj}, s.heap.get? b = some o → H b = none → (hidT s.heap H).get? b = some o := fun q n => hidT_get q n
  have nsT : ∀ {b : Addr} {m : Str → Option Value}, s.heap.Ns b m → (hidT s.heap H).Ns b m := fun ⟨o, es, ep, q, d, r⟩ => ⟨o, es, ep, seen q (out (dictNe q d)), d, r⟩
  have KT : K.In (hidT s.heap H) := fun b o q => seen (KX b o q) (by
    by_cases z : b = a
    · subst z
      cases r : H b with
      | none => rfl
      | some u =>
        rw [e2 (by rw [r]; exact fun z => nomatch z)] at q
        cases q
    · exact out z)
  have e0 : Env0 P w K mg (hidT s.heap H) callerA [] s H :=
    ⟨rfl, ⟨KT, nsT hns, ⟨mb, nsT hb, hbb⟩, let ⟨m, z1, z2⟩ := lim; ⟨m, nsT z1, z2⟩⟩, fun b o q => of_hidT q, Nat.le_of_eq (hidT_size _ _), trivial, fun b z => absurd (show b ∈ ([] : List Addr) from z) (by simp), ok, .of_eq gens⟩
  refine codeAny_mono ((F _ KT (nsT hns)).run callerA [] s H ⟨[.ref a], []⟩ [.ref a] [.ref a] _ _ rfl room e0 (bind s (.ref a)) (.cons rfl .nil) want) fun r s' z => ?_
  match r, z with
  | .error _, z => exact z.elim
  | .ok .next, z => exact z.elim
  | .ok .brk, z => exact z.elim
  | .ok .cont, z => exact z.elim
  | .ok (.ret u), ⟨v, H', os, bare, un, ok', rv, q⟩ =>
    obtain rfl : v = .bl true := q
    obtain rfl : u = Value.bool true := rv
    refine ⟨rfl, .of_keep fun b o q => ?_, os, bare⟩
    rcases only b with n | ⟨o2, xs, n⟩
    · exact un.keep b o q n (fun z => absurd (show b ∈ ([] : List Addr) from z) (by simp)) (by simp)
    · have q1 := (ok b _ n).1
      rw [q] at q1
      cases q1
      exact (ok' b _ (un.frzs b o _ n)).1
theorem entry_call (KX : K.In s.heap) (hns : s.heap.Ns mainGlobals mg) (hb : s.heap.Ns builtinsNs mb) (hbb : ∀ y : Str, y ≠ "__name__" → mb y = bootBuiltins y) (lim : s.heap.NoLimit) (gens : s.gens = #[])
    (oa : s.heap.get? a = some { cls := .type "list", data := .seq vs.toArray }) (hi : IntsAre vs ns) (few : ns.length ≤ sizeLine) (room : Room k callerA) (F : ∀ base : Heap, K.In base → base.Ns mainGlobals mg → FnG P w K mg base CX0 k fa fd [x] sp)
    (bind : ∀ (s : Shared) (u : Value), BindsTo s fd ⟨[u], []⟩ [(x, u)]) (want : ∀ H : Hp, Only H → SqL K H a (ns.map V.int) → sp [.ref a] H (fun v _ => v = .bl true) fun _ _ _ => False) :
    codeAny (model P w) callerA (.call (.ref fa) ⟨[.ref a], []⟩) (fun r s' => r = .ok (.ret (.bool true)) ∧ OldK s.heap s'.heap ∧ s'.os = s.os ∧ AllBare s'.gens) s := by
  have rv := vals_ints hi
  have len := hi.length
  cases own : K.lookup a with
  | some o =>
    have q := KX a o own
    rw [oa] at q
    cases q
    have no : ∀ b, ¬ ((fun _ => none : Hp) b ≠ none) := fun b z => z rfl
    exact entry_run KX hns hb hbb lim gens oa room F bind (H := fun _ => none) (fun _ => .inl rfl) (fun b u z => nomatch (show (none : Option HO) = some u from z)) ⟨fun b z => (no b z).elim, fun z => (no a z).elim⟩
      (want _ (fun _ => .inl rfl) (.inr ⟨_, vs.toArray, _, own, rfl, rfl, rfl, by rw [List.size_toArray, len]; exact few, by simpa using rv⟩))
  | none =>
    obtain ⟨H, hH⟩ : ∃ H : Hp, H = fun b => if b = a then some (.frz { cls := .type "list", data := .seq vs.toArray } (.lst (ns.map V.int))) else none := ⟨_, rfl⟩
    have at_ : H a = some (.frz { cls := .type "list", data := .seq vs.toArray } (.lst (ns.map V.int))) := by rw [hH]; exact if_pos rfl
    have off : ∀ {b}, b ≠ a → H b = none := fun {b} z => by rw [hH]; exact if_neg z
    have only : Only H := fun b => (Decidable.em (b = a)).elim (fun z => .inr ⟨_, _, z ▸ at_⟩) fun z => .inl (off z)
    refine entry_run KX hns hb hbb lim gens oa room F bind only (fun b u z => ?_) ⟨fun b z => Decidable.byContradiction fun n => z (off n), fun _ => own⟩ (want _ only (.inl (.inr ⟨_, at_⟩)))
    by_cases n : b = a
    · subst n
      rw [at_] at z
      cases z
      exact ⟨oa, by rw [List.length_map]; exact few, vs, _, rv, oa⟩
    · rw [off n] at z
      cases z
end
/-- the goal behind the head, from the law's promise as an FnG -/
theorem walk_ofG {l : PySem.W.OpenLaw} {n k : Nat} {q : Program} {loose : List Str} {XP : (Str → Option Value) → Heap → Prop} {YP : World → Heap → Prop} {d : DefRec} {K : Params → PySem.W.Frag} {sp : World → Sp} {x : Str}
    (most : l.most = some n) (few : n ≤ sizeLine) (nodf : d.params.defaults = []) (room : Room k callerA) (hY : ∀ (w : World) (h : Heap), YP w h → (K w.params).In h)
    (F : ∀ (w : World) (mg : Str → Option Value) (fa : Addr) (h : Heap), (K w.params).In h → h.Ns mainGlobals mg → mg d.name = some (.ref fa) →
      ∃ fd : FuncData, (∀ (s : Shared) (u : Value), BindsTo s fd ⟨[u], []⟩ [(x, u)]) ∧ ∀ base : Heap, (K w.params).In base → base.Ns mainGlobals mg → FnG l.prog w (K w.params) mg base CX0 k fa fd [x] (sp w))
    (want : ∀ (w : World) (H : Hp) (a : Addr) (ns : List Int), ns.length ≤ n → Only H → SqL (K w.params) H a (ns.map V.int) → sp w [.ref a] H (fun v _ => v = .bl true) fun _ _ _ => False) :
    PySem.W.WalkO q loose XP YP l.row.toRowW d [] (fun f vs => PySem.call f vs) :=
  Att.attach_call most nodf fun w _ s mg mb fa _ _ _ _ a vs ns G Y _ _ _ hmg hobj hints hlen hg => by
    have KX := hY w _ Y
    obtain ⟨fd, bind, hF⟩ := F w mg fa _ KX G.T.g hmg
    exact entry_call KX G.T.g G.T.b G.T.builtins G.T.nolimit hg hobj hints (Nat.le_trans hlen few) room hF bind fun H only sq => want w H a ns hlen only sq
end L2


/-! Own: defs that make lambdas (their code object known), and the end of a law's row from a contract FnG with tables of code objects. -/
namespace L2
open PySem PySem.Spec PyProof.Rows LamX
/-- as Fun, the code object's place told -/
structure FunC (K : PySem.W.Frag) (x qual : Str) (st : Stmt) (f : Addr) (fd : FuncData) (c : Addr) : Prop where
  ex : ∃ (oc : Value) (od : Option Addr) (kV doc pm : Value) (an : Option Addr) (ct : Value) (osl : Array (Option Value)),
    fd = PySem.W.fnOf x qual (defArgs st) (defBody st) (defScope st) .none kV doc pm an (.ref c) ct ∧ K.lookup f = some ⟨oc, od, .func fd, osl⟩ ∧ PySem.W.codeIn K (.ref c) qual = true
  kp : PySem.W.keepIn K (.ref f) = true
theorem FunC.fun {K : PySem.W.Frag} {x qual : Str} {st : Stmt} {f c : Addr} {fd : FuncData} (F : FunC K x qual st f fd c) : Fun K x qual st f fd :=
  let ⟨oc, od, kV, doc, pm, an, ct, osl, e1, e2, e3⟩ := F.ex
  ⟨⟨oc, od, kV, doc, pm, an, .ref c, ct, osl, e1, e2, e3⟩, F.kp⟩
theorem funC_mk {K : PySem.W.Frag} {x qual : Str} {st : Stmt} {f c : Addr} {oc : Value} {od an : Option Addr} {osl : Array (Option Value)} {kV doc pm ct : Value} (l : K.lookup f = some ⟨oc, od, .func (PySem.W.fnOf x qual (defArgs st) (defBody st) (defScope st) .none kV doc pm an (.ref c) ct), osl⟩)
    (e : PySem.W.codeIn K (.ref c) qual = true) (k : PySem.W.keepIn K (.ref f) = true) : FunC K x qual st f (PySem.W.fnOf x qual (defArgs st) (defBody st) (defScope st) .none kV doc pm an (.ref c) ct) c := ⟨⟨oc, od, kV, doc, pm, an, ct, osl, rfl, l, e⟩, k⟩
section
variable {P : Program} {w : World} {K : PySem.W.Frag} {mg : Str → Option Value} {base : Heap}
theorem FunC.ok {x qual : Str} {st : Stmt} {f c : Addr} {fd : FuncData} {N ps : List Str} {k : Nat} {sp : Sp} (F : FunC K x qual st f fd c) (S : FnScope N ps (defScope st)) (len : ∀ vs H Q E, sp vs H Q E → vs.length = ps.length)
    (body : ∀ (A : Around) (outer : List Env) (s : Shared) (H : Hp) (vs : List V) (Q : VK) (E : XK), Room k (A.deeper (envOfC qual (defScope st) s.heap.objs.size f (.ref c))) → sp vs H Q E →
      ∃ t, PSs (cxOf CX0 P w K mg base N qual (defScope st) f (.ref c) A outer s H E).nox (defBody st) t ∧ t { nx := fun _ H' => Q .non H', rt := Q } (start N vs) H) : FnOk P w K mg base CX0 (k + 1) f fd ps sp := by
  obtain ⟨oc, od, kV, doc, pm, an, ct, osl, rfl, lk, code⟩ := F.ex
  refine fn_of lk code S len fun A outer s H vs Q E room want => ?_
  obtain ⟨t, h, q⟩ := body A outer s H vs Q E room want
  exact ⟨t, h.nox, q⟩
theorem FunC.okG {x qual : Str} {st : Stmt} {f c : Addr} {fd : FuncData} {N ps : List Str} {k : Nat} {sp : Sp} (F : FunC K x qual st f fd c) (S : FnScope N ps (defScope st)) (len : ∀ vs H Q E, sp vs H Q E → vs.length = ps.length)
    (body : ∀ (A : Around) (outer : List Env) (s : Shared) (H : Hp) (vs : List V) (Q : VK) (E : XK), Clr A → Room k (A.deeper (envOfC qual (defScope st) s.heap.objs.size f (.ref c))) → sp vs H Q E →
      ∃ t, PSs (cxOf CX0 P w K mg base N qual (defScope st) f (.ref c) A outer s H E).nox (defBody st) t ∧ t { nx := fun _ H' => Q .non H', rt := Q } (start N vs) H) : FnG P w K mg base CX0 (k + 1) f fd ps sp := by
  obtain ⟨oc, od, kV, doc, pm, an, ct, osl, rfl, lk, code⟩ := F.ex
  refine ⟨len, fun A outer s H args us vs Q E clr room e0 binds rel want => ?_⟩
  have nps := len _ _ _ _ want
  have KX : K.In s.heap := e0.mod.kin.keeps fun b o e => (e0.bs b o e).1
  have lim : s.heap.NoLimit := e0.mod.nolimit.keeps fun b o e => (e0.bs b o e).1
  refine codeAny_call_function room.depth (KX _ _ lk) rfl S.co S.gen rfl (PySem.W.codeRec_of KX code) (binds _ _ _ _ (wpAny_newFunctionEnv_cells S.kind (fun y hy => ?_) fun env he s1 x => ?_))
  · obtain ⟨n, v⟩ := y
    exact (S.par n (List.of_mem_zip hy).1).elim .inl fun q => .inr ⟨q, PySem.W.cellsFrom_some _ _ _ (.inl q)⟩
  · subst he
    obtain ⟨t, term, q⟩ := body A outer s H vs Q E clr (room.deeper _) want
    have I : Inv (cxOf CX0 P w K mg base N qual (defScope st) f (.ref c) A outer s H E) [] (start N vs) H s1 := inv_start S room.hd e0 nps rel x
    refine ⟨lim.keeps x.toInCall.keep, codeAny_func (wpAny_mono (term.nox.run [] s1 (start N vs) H _ I q) (fun fl s' z => ?_) fun _ _ z => z)⟩
    match fl, z with
    | .ret u, ⟨v, _, H', J, rv, q⟩ => exact ⟨v, H', J.os, J.bare, J.base, J.hok, rv, q⟩
    | .next, ⟨_, H', J, q⟩ => exact ⟨.non, H', J.os, J.bare, J.base, J.hok, rfl, q⟩
    | .brk, ⟨_, _, _, q⟩ => exact q.elim
    | .cont, ⟨_, _, _, q⟩ => exact q.elim
end
section
variable {P : Program} {w : World} {K : PySem.W.Frag} {mg mb : Str → Option Value} {k : Nat} {fa a : Addr} {fd : FuncData} {x : Str} {sp : Sp} {s : Shared} {vs : List Value} {ns : List Int} {cs : List (Addr × Addr)}
/-- the code objects and their tables: empty, not of the written part -/
abbrev TabsIn (K : PySem.W.Frag) (h : Heap) (cs : List (Addr × Addr)) : Prop := ∀ p ∈ cs, PySem.W.CodeHd h p.1 p.2 ∧ h.get? p.2 = some (PySem.W.tabObj #[]) ∧ K.lookup p.2 = none
/-- the abstract heap at the law's entry: the tables, and the script, locked, or where it is the module's own the tables alone -/
structure EntT (K : PySem.W.Frag) (cs : List (Addr × Addr)) (a : Addr) (vs : List Value) (ns : List Int) (H : Hp) : Prop where
  tab : ∀ p ∈ cs, H p.2 = some (.tbl #[])
  dom : ∀ b u, H b = some u → (b = a ∧ u = .frz { cls := .type "list", data := .seq vs.toArray } (.lst (ns.map V.int))) ∨ ∃ p ∈ cs, b = p.2
  own : H a ≠ none → K.lookup a = none
theorem entT_run (KX : K.In s.heap) (hns : s.heap.Ns mainGlobals mg) (hb : s.heap.Ns builtinsNs mb) (hbb : ∀ y : Str, y ≠ "__name__" → mb y = bootBuiltins y) (lim : s.heap.NoLimit) (gens : s.gens = #[]) (ti : TabsIn K s.heap cs)
    (bmain : ∃ (bm : Addr) (ob : Obj), mg "__builtins__" = some (.ref bm) ∧ bm ≠ builtinsNs ∧ s.heap.get? bm = some ob ∧ ob.cls = .type "module" ∧ ob.dict = some builtinsNs ∧ ob.data = .plain)
    (oa : s.heap.get? a = some { cls := .type "list", data := .seq vs.toArray }) (rv : Vals (ns.map V.int) vs) (few : ns.length ≤ sizeLine) (room : Room k callerA)
    (F : ∀ base : Heap, K.In base → base.Ns mainGlobals mg → (∀ p ∈ cs, TabB base mg p.1 p.2) → FnG P w K mg base CX0 k fa fd [x] sp)
    (bind : ∀ (s : Shared) (u : Value), BindsTo s fd ⟨[u], []⟩ [(x, u)]) {H : Hp} (en : EntT K cs a vs ns H) (want : sp [.ref a] H (fun v _ => v = .bl true) fun _ _ _ => False) :
    codeAny (model P w) callerA (.call (.ref fa) ⟨[.ref a], []⟩) (fun r s' => r = .ok (.ret (.bool true)) ∧ OldK s.heap s'.heap ∧ s'.os = s.os ∧ AllBare s'.gens) s := by
  -- what is tracked: a list or a table
  have kinds : ∀ {b : Addr} {o : Obj}, s.heap.get? b = some o → H b ≠ none → o = { cls := .type "list", data := .seq vs.toArray } ∨ o = PySem.W.tabObj #[] := fun {b o} q n => by
    cases r : H b with
    | none => exact absurd r n
    | some u =>
      rcases en.dom b u r with ⟨rfl, _⟩ | ⟨p, hp, rfl⟩
      · rw [oa] at q
        exact .inl (Option.some.inj q).symm
      · rw [(ti p hp).2.1] at q
        exact .inr (Option.some.inj q).symm
  have loose : ∀ {b : Addr} {o : Obj}, s.heap.get? b = some o → (∀ vs n, o.data ≠ .seq vs n) → (o.data = .fields #[] → False) → H b = none := fun {b o} q h1 h2 => by
    refine Decidable.byContradiction fun n => ?_
    rcases kinds q n with e | e
    · exact h1 _ _ (by rw [e])
    · exact h2 (by rw [e])
  have seen : ∀ {b : Addr} {o : Obj}, s.heap.get? b = some o → H b = none → (hidT s.heap H).get? b = some o := fun q n => hidT_get q n
  have dict : ∀ {b : Addr} {o : Obj} {es : Array DictEntry} {ep : Nat}, s.heap.get? b = some o → o.data = .dict es ep → (hidT s.heap H).get? b = some o := fun q d => seen q (loose q (fun vs n z => nomatch d.symm.trans z) fun z => nomatch d.symm.trans z)
  have nsT : ∀ {b : Addr} {m : Str → Option Value}, s.heap.Ns b m → (hidT s.heap H).Ns b m := fun ⟨o, es, ep, q, d, r⟩ => ⟨o, es, ep, dict q d, d, r⟩
  have KT : K.In (hidT s.heap H) := fun b o q => seen (KX b o q) (Decidable.byContradiction fun n => by
    cases r : H b with
    | none => exact n r
    | some u =>
      rcases en.dom b u r with ⟨rfl, _⟩ | ⟨p, hp, rfl⟩
      · rw [en.own n] at q
        cases q
      · rw [(ti p hp).2.2] at q
        cases q)
  have isTab : ∀ b u, H b = some u → ∀ q, u = .tbl q → s.heap.get? b = some (PySem.W.tabObj #[]) ∧ q = #[] := fun b u r q e => by
    rcases en.dom b u r with ⟨_, z⟩ | ⟨p, hp, rfl⟩
    · rw [e] at z
      cases z
    · refine ⟨(ti p hp).2.1, ?_⟩
      have z := en.tab p hp
      rw [r, e] at z
      cases z
      rfl
  have ok : HOk P w H s.heap := fun b u r => by
    rcases en.dom b u r with ⟨rfl, rfl⟩ | ⟨p, hp, rfl⟩
    · exact ⟨oa, by rw [List.length_map]; exact few, vs, _, rv, oa⟩
    · rw [en.tab p hp] at r
      cases r
      exact (ti p hp).2.1
  have TB : ∀ p ∈ cs, TabB (hidT s.heap H) mg p.1 p.2 := fun p hp => by
    obtain ⟨C, tp, _⟩ := ti p hp
    refine ⟨?_, ?_, fun z => ?_⟩
    · obtain ⟨o, us, file, tf, flags, tg, inF, text, tt, e1, r1, r2, r3, r⟩ := C
      refine ⟨o, us, file, tf, flags, tg, inF, text, tt, seen e1 (loose e1 (fun vs n z => nomatch r2.symm.trans z) fun z => ?_), r1, r2, r3, r⟩
      have e := r2.symm.trans z
      cases e
      simp at r3
    · obtain ⟨bm, ob, b1, b2, b3, b4, b5, b6⟩ := bmain
      refine ⟨bm, ob, b1, b2, fun q => ?_, fun q => ?_, seen b3 (loose b3 (fun vs n z => nomatch b6.symm.trans z) fun z => nomatch b6.symm.trans z), b4, b5, b6⟩
      · obtain ⟨o, es, ep, e, hd, _⟩ := hns
        rw [q, e] at b3
        cases b3
        cases hd.symm.trans b6
      · rw [q, tp] at b3
        cases b3
        cases b6
    · obtain ⟨o, es, ep, e, hd, _⟩ := hns
      rw [z, tp] at e
      cases e
      cases hd
  have e0 : Env0 P w K mg (hidT s.heap H) callerA [] s H :=
    ⟨rfl, ⟨KT, nsT hns, ⟨mb, nsT hb, hbb⟩, let ⟨m, z1, z2⟩ := lim; ⟨m, nsT z1, z2⟩⟩, fun b o q => of_hidT q, Nat.le_of_eq (hidT_size _ _), trivial, fun b z => absurd (show b ∈ ([] : List Addr) from z) (by simp), ok, .of_eq gens⟩
  refine codeAny_mono ((F _ KT (nsT hns) TB).run callerA [] s H ⟨[.ref a], []⟩ [.ref a] [.ref a] _ _ rfl room e0 (bind s (.ref a)) (.cons rfl .nil) want) fun r s' z => ?_
  match r, z with
  | .error _, z => exact z.elim
  | .ok .next, z => exact z.elim
  | .ok .brk, z => exact z.elim
  | .ok .cont, z => exact z.elim
  | .ok (.ret u), ⟨v, H', os, bare, un, ok', rv', q⟩ =>
    obtain rfl : v = .bl true := q
    obtain rfl : u = Value.bool true := rv'
    -- an object stays, or is a table that has grown
    have way : ∀ b o, s.heap.get? b = some o → s'.heap.get? b = some o ∨ ∃ p ∈ cs, b = p.2 ∧ ∃ more : Array Value, s'.heap.get? b = some (PySem.W.tabObj more) := fun b o q => by
      cases r : H b with
      | none => exact .inl (un.keep b o q r (fun z => absurd (show b ∈ ([] : List Addr) from z) (by simp)) (by simp))
      | some u =>
        rcases en.dom b u r with ⟨rfl, rfl⟩ | ⟨p, hp, rfl⟩
        · have q1 := (ok b _ r).1
          rw [q] at q1
          cases q1
          exact .inl (ok' b _ (un.frzs b _ _ r)).1
        · obtain ⟨more, z⟩ := un.tbls p.2 #[] (en.tab p hp)
          exact .inr ⟨p, hp, rfl, _, ok' p.2 _ z⟩
    refine ⟨rfl, ⟨fun b o q => ?_, fun b o q => ?_⟩, os, bare⟩
    · rcases way b o q with z | ⟨p, hp, rfl, more, z⟩
      · exact .inl z
      · obtain ⟨C, tp, _⟩ := ti p hp
        rw [tp] at q
        cases q
        exact .inr (.inl ⟨(C.tab tp).isCodeTable, rfl, #[], more, rfl, by rw [Array.empty_append]; exact z⟩)
    · rcases way b o q with z | ⟨_, _, _, more, z⟩
      · exact ⟨o, z⟩
      · exact ⟨_, z⟩
end
/-- the law's promise with its tables -/
def LawTG (l : PySem.W.OpenLaw) (w : World) (K : PySem.W.Frag) (k n : Nat) (x : Str) (mg : Str → Option Value) (fa : Addr) (h : Heap) : Prop :=
  ∃ (fd : FuncData) (cs : List (Addr × Addr)) (sp : Sp), TabsIn K h cs ∧ (∀ (s : Shared) (u : Value), BindsTo s fd ⟨[u], []⟩ [(x, u)]) ∧
    (∀ (H : Hp) (a : Addr) (ns : List Int), ns.length ≤ n → (∀ p ∈ cs, H p.2 = some (.tbl #[])) → SqL K H a (ns.map V.int) → sp [.ref a] H (fun v _ => v = .bl true) fun _ _ _ => False) ∧
    ∀ base : Heap, K.In base → base.Ns mainGlobals mg → (∀ p ∈ cs, TabB base mg p.1 p.2) → FnG l.prog w K mg base CX0 k fa fd [x] sp
/-- what the head tells of a def's table -/
abbrev TabsOf (q : Program) (K : PySem.W.Frag) (h : Heap) : Prop := ∀ (y : Str) (c P : Addr), ((recsOf q).find? (fun e => e.name == y)).isSome = true → PySem.W.tabIn K y = some (c, P) → PySem.W.CodeHd h c P ∧ h.get? P = some (PySem.W.tabObj #[])
/-- the goal behind the head, from such a promise -/
theorem walk_tabG {l : PySem.W.OpenLaw} {n k : Nat} {q : Program} {loose : List Str} {XP : (Str → Option Value) → Heap → Prop} {YP : World → Heap → Prop} {d : DefRec} {K : Params → PySem.W.Frag} {x : Str}
    (most : l.most = some n) (few : n ≤ sizeLine) (nodf : d.params.defaults = []) (room : Room k callerA) (hY : ∀ (w : World) (h : Heap), YP w h → (K w.params).In h)
    (F : ∀ (w : World) (mg : Str → Option Value) (fa : Addr) (h : Heap), (K w.params).In h → h.Ns mainGlobals mg → mg d.name = some (.ref fa) → TabsOf q (K w.params) h → XP mg h → LawTG l w (K w.params) k n x mg fa h) :
    PySem.W.WalkO q loose XP YP l.row.toRowW d [] (fun f vs => PySem.call f vs) :=
  Att.attach_call most nodf fun w _ s mg mb fa _ _ _ _ a vs ns G Y _ _ _ hmg hobj hints hlen hg => by
    have KX := hY w _ Y
    obtain ⟨fd, cs, sp, ti, bind, hsp, hF⟩ := F w mg fa _ KX G.T.g hmg (fun y c P hr ht => let ⟨d', hd⟩ := Option.isSome_iff_exists.mp hr; PySem.W.tab_of G.T KX hd ht) G.X
    have rv := vals_ints hints
    have len := hints.length
    have tne : ∀ p ∈ cs, p.2 ≠ a := fun p hp z => by
      have e := (ti p hp).2.1
      rw [z, hobj] at e
      cases e
    cases own : (K w.params).lookup a with
    | some o =>
      have e := KX a o own
      rw [hobj] at e
      cases e
      obtain ⟨H, eH⟩ : ∃ H : Hp, H = fun b => if b ∈ cs.map (·.2) then some (.tbl #[]) else none := ⟨_, rfl⟩
      have inT : ∀ p ∈ cs, H p.2 = some (.tbl #[]) := fun p hp => by
        rw [eH]
        exact if_pos (List.mem_map.mpr ⟨p, hp, rfl⟩)
      have outT : ∀ b, b ∉ cs.map (·.2) → H b = none := fun b n => by
        rw [eH]
        exact if_neg n
      have na : a ∉ cs.map (·.2) := fun m => by
        obtain ⟨p, hp, e⟩ := List.mem_map.mp m
        exact tne p hp e
      refine entT_run KX G.T.g G.T.b G.T.builtins G.T.nolimit hg ti G.T.bmain hobj rv (Nat.le_trans hlen few) room hF bind (H := H) ⟨inT, fun b u r => .inr ?_, fun z => absurd (outT a na) z⟩
        (hsp H a ns hlen inT (.inr ⟨_, vs.toArray, _, own, rfl, rfl, rfl, by rw [List.size_toArray, len]; exact Nat.le_trans hlen few, by simpa using rv⟩))
      refine Decidable.byContradiction fun n => ?_
      rw [outT b fun m => n (let ⟨p, hp, e⟩ := List.mem_map.mp m; ⟨p, hp, e.symm⟩)] at r
      cases r
    | none =>
      obtain ⟨H, eH⟩ : ∃ H : Hp, H = fun b => if b = a then some (.frz { cls := .type "list", data := .seq vs.toArray } (.lst (ns.map V.int))) else if b ∈ cs.map (·.2) then some (.tbl #[]) else none := ⟨_, rfl⟩
      have atA : H a = some (.frz { cls := .type "list", data := .seq vs.toArray } (.lst (ns.map V.int))) := by rw [eH]; exact if_pos rfl
      have inT : ∀ p ∈ cs, H p.2 = some (.tbl #[]) := fun p hp => by
        rw [eH]
        exact (if_neg (tne p hp)).trans (if_pos (List.mem_map.mpr ⟨p, hp, rfl⟩))
      refine entT_run KX G.T.g G.T.b G.T.builtins G.T.nolimit hg ti G.T.bmain hobj rv (Nat.le_trans hlen few) room hF bind (H := H) ⟨inT, fun b u r => ?_, fun _ => own⟩ (hsp H a ns hlen inT (.inl (.inr ⟨_, atA⟩)))
      by_cases n : b = a
      · subst n
        rw [atA] at r
        exact .inl ⟨rfl, (Option.some.inj r).symm⟩
      · refine .inr (Decidable.byContradiction fun m => ?_)
        rw [eH] at r
        have r' := (if_neg n).symm.trans r
        rw [if_neg fun z => m (let ⟨p, hp, e⟩ := List.mem_map.mp z; ⟨p, hp, e.symm⟩)] at r'
        cases r'
end L2


/-! Own: a lambda handed to a def that calls it in a try: what is raised is wished for at the caller's very slots (the library's rule asks it for all slots). -/
namespace L2
open PySem PySem.Spec PyProof.Rows LamX
section
variable {X : Cx} {pins : List (Addr × Obj)} {σ : St} {H : Hp} {s : Shared}
theorem pe_actS {CXg : CXT} {Eg : XK} {Ng : List Str} {qg : Str} {sg : Scope} {g f c' : Addr} {cdg pm ctv : Value} {params : Arguments} {body : Expr} {scope : Scope} {k i : Nat} {a : Str} {pn : List (Addr × Obj)} {xe : Value → Shared → Prop} {W : WX} {tb : XK → TE} {p1 p2 : Pos}
    (I : Inv X pins σ H s) (L : LamS X.env.scope scope) (here : s.heap.get? f = some (PySem.W.kla_obj "<lambda>" (X.env.qual ++ "<lambda>") params body scope (cloFrom X.env.cells scope.names []) pm c' ctv)) (fno : H f = none) (ffr : f ∉ frs X.stack)
    (bd : bindArgs (PySem.W.kla_fn "<lambda>" (X.env.qual ++ "<lambda>") params body scope (cloFrom X.env.cells scope.names []) pm (.ref c') ctv) ⟨[], []⟩ = pure []) (tk : Takes ((cxOf CXg X.prog X.w X.K X.mg X.base Ng qg sg g cdg X.A X.stack s H Eg).tr pn xe) W)
    (room : Room (k + 1) (X.A.deeper (envOfC qg sg s.heap.objs.size g cdg))) (walk : ∀ (A : Around) (outer : List Env) (s : Shared) (H : Hp) (E : XK), Room k (A.deeper (lamEnv X scope s.heap.objs.size f c')) → PE (lamCx X A outer s H E scope f c') body (tb E))
    (hN : Ng[i]? = some a) (hv : Vis sg a) (hd : (a == ("__debug__" : Str)) = false := by decide) (hcd : (a == ("__classdict__" : Str)) = false := by decide) :
    PE ((cxOf CXg X.prog X.w X.K X.mg X.base Ng qg sg g cdg X.A X.stack s H Eg).tr pn xe) (.Call (.Name a p1) [] [] p2)
      (fun τ HZ Q => ∃ (Ech : XK) (Qn : VK), (∀ cls d H', Ech cls d H' → W cls d τ H') ∧ (∀ v H', Qn v H' → Q v H') ∧ τ[i]? = some (some (.ref f)) ∧ HZ c' = some (CodeO c' (X.env.qual ++ "<lambda>")) ∧ tb Ech σ HZ Qn) := by
  constructor
  intro pz sz τ HZ Q IZ ⟨Ech, Qn, imp, impQ, slot, code, want⟩
  refine wpAny_Call_Name_kw (thn ((pe_var (pos := p1) (i := i) hN hv hd hcd).run pz sz τ HZ (fun v H1 => v = .ref f ∧ H1 = HZ) IZ ⟨.ref f, slot, rfl, rfl⟩) fun u s1 ⟨v, H1, I1, r1, ev, eH⟩ => ?_)
  subst ev
  subst eH
  cases (show u = Value.ref f from r1)
  have still : s1.heap.get? f = some (PySem.W.kla_obj "<lambda>" (X.env.qual ++ "<lambda>") params body scope (cloFrom X.env.cells scope.names []) pm c' ctv) := I1.base.keep f _ here fno ffr (by simp [cxOf, Cx.tr])
  have grown : Un (frs X.stack) [] H H1 s.heap s1.heap := I1.base
  obtain ⟨⟨oc, ws, t, e1, e2, e3⟩, _, _⟩ := I1.hok c' _ code
  refine PySem.W.callWith_F0 ⟨_, _, _, _, still⟩ (wpAny_call (codeAny_mono (R := CR (L2.CX X.prog X.w) (envOfC qg sg s.heap.objs.size g cdg :: X.stack) X.prog X.w H1 s1 Qn Ech) ?_ fun r s' z => ?_))
  · show codeAny _ _ (.call (.ref f) ⟨[], []⟩) _ s1
    refine PySem.W.kla_callFunE room.depth still rfl L.co L.gen rfl ⟨c', oc, ws, t, rfl, e1, e2, e3⟩ ?_
    rw [bd]
    refine wpAny_pure (wpAny_newFunctionEnv (fun y hy => (L.own y hy).2) (fun y hy => absurd hy (by simp)) (fun h₁ ns sb => ⟨I1.nolimit.fresh _ sb, ?_⟩) L.kind)
    have kp : ∀ b o, s1.heap.get? b = some o → h₁.get? b = some o := fun b o e => sb.extBut b o (Nat.ne_of_lt (Heap.lt_size e)) (Heap.get?_push_of_some _ e)
    have J : Inv (lamCx X (X.A.deeper (envOfC qg sg s.heap.objs.size g cdg)) (envOfC qg sg s.heap.objs.size g cdg :: X.stack) s1 H1 Ech scope f c') [] σ H1 { s1 with heap := h₁, toks := s1.toks + ([] : List (Str × Value)).length } := lam_start2 I L I1.env0 room.hd grown ns kp
    exact PySem.W.kla_codeExpr (wpAny_mono ((walk _ _ s1 H1 _ (room.deeper _)).run [] _ _ H1 Qn J want) (fun v s' ⟨w, H', J', rv, q⟩ => ⟨w, H', J'.os, J'.bare, J'.base, J'.hok, rv, q⟩) fun _ _ z => z)
  · match r, z with
    | .error e, z => exact tk e s' (XE.of_call I1 (fun cls d H' h => imp cls d H' h) z)
    | .ok (.ret u), z =>
      obtain ⟨v, H2, J2, rv, q⟩ := I1.after z
      exact ⟨v, H2, J2, rv, impQ v H2 q⟩
    | .ok .next, z => exact z.elim
    | .ok .brk, z => exact z.elim
    | .ok .cont, z => exact z.elim
end
/-- the def that calls what it got, in its slot 0 -/
def GivesS (X : Cx) (Ng : List Str) (x : Str) (sg : Scope) (g : Addr) (cdg : Value) (bg : List Stmt) (a : Str) (q : Str) (TT : (XK → Hp → VK → Prop) → Hp → VK → Prop) : Prop :=
  ∀ (f c' : Addr) (s : Shared) (H : Hp) (Q : VK) (tl : XK → Hp → VK → Prop),
    (∀ (W : WX) (pn : List (Addr × Obj)) (xe : Value → Shared → Prop) (p1 p2 : Pos), Takes ((cxOf C8.CX0 X.prog X.w X.K X.mg X.base Ng x sg g cdg X.A X.stack s H C8.E0).tr pn xe) W →
      PE ((cxOf C8.CX0 X.prog X.w X.K X.mg X.base Ng x sg g cdg X.A X.stack s H C8.E0).tr pn xe) (.Call (.Name a p1) [] [] p2) (fun τ HZ Q => ∃ (Ech : XK) (Qn : VK), (∀ cls d H', Ech cls d H' → W cls d τ H') ∧ (∀ v H', Qn v H' → Q v H') ∧ τ[0]? = some (some (.ref f)) ∧ HZ c' = some (CodeO c' q) ∧ tl Ech HZ Qn)) →
    H c' = some (CodeO c' q) → TT tl H Q → ∃ t, PSs (cxOf C8.CX0 X.prog X.w X.K X.mg X.base Ng x sg g cdg X.A X.stack s H C8.E0).nox bg t ∧ t { nx := fun _ H' => Q .non H', rt := Q } (L2.start Ng [.ref f]) H
/-- x(lambda: body), x such a def -/
theorem pe_lamS {X : Cx} {T : List (Addr × Str)} {TT : (XK → Hp → VK → Prop) → Hp → VK → Prop} {x a : Str} {g c P : Addr} {k : Nat} {st : Stmt} {fd : FuncData} {Ng : List Str} {params : Arguments} {body : Expr} {scope : Scope} {t : XK → TE} {p lpos pos : Pos} (hg : Gl X x) (hm : X.mg x = some (.ref g))
    (F : Fun X.K x x st g fd) (hb : Binds X.K fd [a] []) (Sg : FnScope Ng [a] (defScope st)) (hNg : Ng[0]? = some a) (hva : Vis (defScope st) a) (gives : ∀ cdg, GivesS X Ng x (defScope st) g cdg (defBody st) a (X.env.qual ++ "<lambda>") TT)
    (TB : TabB X.base X.mg c P) (code : X.env.code = .ref c) (mT : (P, X.env.qual ++ "<lambda>") ∈ T) (uT : ∀ p ∈ T, p.1 = P → p.2 = X.env.qual ++ "<lambda>") (room : Room (k + 2) X.A) (L : LamS X.env.scope scope) (dfl : defaultsOf params X.env = ([], []))
    (bd : ∀ (q : Str) (cl : List (Str × Addr)) (pm cv ctv : Value), bindArgs (PySem.W.kla_fn "<lambda>" q params body scope cl pm cv ctv) ⟨[], []⟩ = pure [])
    (walk : ∀ (A : Around) (outer : List Env) (s : Shared) (H : Hp) (E : XK) (f c' : Addr), Room k (A.deeper (lamEnv X scope s.heap.objs.size f c')) → PE (lamCx X A outer s H E scope f c') body (t E))
    (hdb : (x == ("__debug__" : Str)) = false := by decide) (hd : (a == ("__debug__" : Str)) = false := by decide) (hcd : (a == ("__classdict__" : Str)) = false := by decide) : PE X (.Call (.Name x p) [.Lambda params body scope lpos] [] pos) (tLam T TT t) := by
  constructor
  intro pins s σ H Q I ⟨hT, want⟩
  refine wpAny_Call_Name_kw (ld_glob I hg hm ?_ hdb)
  refine PySem.W.callWith_K (h₀ := X.base) I.ok.mod.kin F.kp (pos := pos) ?_ (by rfl) (by rfl)
  show wpAny _ _ (spliced ((false, eval (.Lambda params body scope lpos) X.env) :: backTo pos (starEach [] X.env))) _ _ s
  refine Calls.spliced_cons (lam_make2 I TB code mT uT hT dfl (L.has I.ok) fun f c' pm' ctv H1 s' I1 eN T1 of fn fr co => Calls.spliced_nil ⟨I1.kIn, wpAny_call (codeAny_mono (R := CR C8.CX0 X.stack X.prog X.w H1 s' Q C8.E0) ?_ fun r s2 z => ?_)⟩)
  · obtain ⟨oc, od, kV, doc, pm, an, cdv, ct, osl, rfl, lk, cin⟩ := F.ex
    refine run_ofS (N := Ng) (ps := [a]) (us := [.ref f]) (vs := [.ref f]) lk cin Sg room I1.env0 (hb s' [.ref f] I1.kIn rfl) (.cons rfl .nil) rfl fun room' => ?_
    obtain ⟨t', term, q⟩ := gives cdv f c' s' H1 Q (fun E H' Q' => t E σ H' Q') (fun W pn xe p1 p2 tk => pe_actS (i := 0) I1 L of fn fr (bd _ _ _ _ _) tk room' (fun A outer s H E hr2 => walk A outer s H E f c' hr2) hNg hva hd hcd) co (want H1 eN T1)
    exact ⟨t', term.nox, q⟩
  · match r, z with
    | .error e, z => exact (show False from z).elim
    | .ok (.ret u), z => exact I1.after z
    | .ok .next, z => exact z.elim
    | .ok .brk, z => exact z.elim
    | .ok .cont, z => exact z.elim
end L2


/-! Own: calls with keywords alone, two or four of them turned; pairs of a text and an int as data. -/
namespace FT
open PySem L2 TL ClX
def tCallK0 (m : Nat) (sp : Sp) (gV : List V → List V → List V) (E : XK) (tk : TA) : TE := fun σ H Q => tk σ H fun zs H1 => zs.length = m ∧ sp (gV [] zs) H1 Q E
/-- f(k = v, ..), no value by place -/
theorem pe_callK0 {X : Cx} {CX : CXT} {k : Nat} {f : Addr} {fd : FuncData} {ps ks : List Str} {sp : Sp} {E : XK} {x : Str} {p pos : Pos} {kw : Keyword} {kws : List Keyword} {tk : TA} {g : List Value → List Value → List Value} {gV : List V → List V → List V}
    (F : FnOk X.prog X.w X.K X.mg X.base CX k f fd ps sp) (hr : Room k X.A) (hg : Gl X x) (hm : X.mg x = some (.ref f)) (hk : PySem.W.keepIn X.K (.ref f) = true) (hb : KBn X.K fd ps 0 ks g gV) (hx : Passes CX X E)
    (hkw : PK X (kw :: kws) tk) (hall : (backToKw pos (keywordEach (kw :: kws) X.env)).all (·.1.isSome) = true := by rfl) (hks : (backToKw pos (keywordEach (kw :: kws) X.env)).filterMap (·.1) = ks := by rfl)
    (hdb : (x == ("__debug__" : Str)) = false := by decide) (hpl : ((backTo pos (starEach [] X.env)).any (·.1) || (backToKw pos (keywordEach (kw :: kws) X.env)).any (·.1.isNone)) = false := by rfl) : PE X (.Call (.Name x p) [] (kw :: kws) pos) (tCallK0 ks.length sp gV E tk) := by
  refine ⟨fun pins s σ H Q I h => ?_⟩
  refine wpAny_Call_Name_kw (ld_glob I hg hm ?_ hdb)
  refine PySem.W.callWith_KW0 (h₀ := X.base) I.ok.mod.kin hk hall ?_ hpl
  refine thn (hkw.run pos pins s σ H _ I h) fun ws s2 ⟨zs, H2, J, rz, l2, want⟩ => ⟨J.kIn, ?_⟩
  rw [hks]
  exact run_fnN (us := []) (vs := []) F hr hb hx J .nil rz rfl l2 want
/-- four values, turned -/
def turn4 {α : Type} : List α → List α
  | [a, b, c, d] => [d, c, b, a]
  | l => l
theorem turn4_rel {vs : List V} {us : List Value} (r : Vals vs us) : Vals (turn4 vs) (turn4 us) := by
  match vs, us, r with
  | [], _, .nil => exact .nil
  | [_], _, .cons a .nil => exact .cons a .nil
  | [_, _], _, .cons a (.cons b .nil) => exact .cons a (.cons b .nil)
  | [_, _, _], _, .cons a (.cons b (.cons c .nil)) => exact .cons a (.cons b (.cons c .nil))
  | [_, _, _, _], _, .cons a (.cons b (.cons c (.cons d .nil))) => exact .cons d (.cons c (.cons b (.cons a .nil)))
  | _ :: _ :: _ :: _ :: _ :: _, _, .cons a (.cons b (.cons c (.cons d (.cons e r)))) => exact .cons a (.cons b (.cons c (.cons d (.cons e r))))
theorem kw4 {K : PySem.W.Frag} {x qual a b c d : Str} {st : Stmt} {f : Addr} {fd : FuncData} {ps : List Str} (F : L2.Fun K x qual st f fd)
    (h : ∀ (kV doc pm : Value) (an : Option Addr) (cdv ct u v y z : Value), bindArgs (PySem.W.fnOf x qual (defArgs st) (defBody st) (defScope st) .none kV doc pm an cdv ct) ⟨[], [(a, u), (b, v), (c, y), (d, z)]⟩ = pure (ps.zip [z, y, v, u])) :
    KBn K fd ps 0 [a, b, c, d] (fun _ ws => turn4 ws) (fun _ zs => turn4 zs) := by
  obtain ⟨oc, od, kV, doc, pm, an, cdv, ct, osl, rfl, lk, hcd⟩ := F.ex
  refine ⟨fun s us ws _ h1 h2 => ?_, fun _ r => turn4_rel r⟩
  match us, ws, h1, h2 with
  | [], [u, v, y, z], _, _ => exact .of_eq (h kV doc pm an cdv ct u v y z)
end FT


/-! two keywords, turned; defs that get a lambda -/
namespace FT
open PySem L2 TL ClX
def turn2 {α : Type} : List α → List α
  | [a, b] => [b, a]
  | l => l
theorem turn2_rel {vs : List V} {us : List Value} (r : Vals vs us) : Vals (turn2 vs) (turn2 us) := by
  cases r with
  | nil => exact .nil
  | cons a r =>
    cases r with
    | nil => exact .cons a .nil
    | cons b r =>
      cases r with
      | nil => exact .cons b (.cons a .nil)
      | cons c r => exact .cons a (.cons b (.cons c r))
abbrev tn2 (α : Type) : List α → List α → List α := fun _ ws => turn2 ws
theorem kw2 {K : PySem.W.Frag} {x qual a b : Str} {st : Stmt} {f : Addr} {fd : FuncData} {ps : List Str} (F : L2.Fun K x qual st f fd)
    (h : ∀ (kV doc pm : Value) (an : Option Addr) (cdv ct u v : Value), bindArgs (PySem.W.fnOf x qual (defArgs st) (defBody st) (defScope st) .none kV doc pm an cdv ct) ⟨[], [(a, u), (b, v)]⟩ = pure (ps.zip [v, u])) :
    KBn K fd ps 0 [a, b] (tn2 Value) (tn2 V) := by
  obtain ⟨oc, od, kV, doc, pm, an, cdv, ct, osl, rfl, lk, hcd⟩ := F.ex
  refine ⟨fun s us ws _ h1 h2 => ?_, fun _ r => turn2_rel r⟩
  match us, ws, h1, h2 with
  | [], [u, v], _, _ => exact .of_eq (h kV doc pm an cdv ct u v)
/-- the two defs that get a lambda -/
structure Ge (K : PySem.W.Frag) (mg : Str → Option Value) (x : Str) (st : Stmt) (f : Addr) (fd : FuncData) : Prop where
  fn : Fun K x x st f fd
  bn : Binds K fd ["_law_work"] []
  mgn : mg x = some (.ref f)
end FT


/-! Own: C.m(..) where m is a staticmethod of the class. -/
namespace L2
open PySem PySem.Spec PyProof.Rows
/-- C.m is a staticmethod: its record at p, its def at f -/
structure SMet (K : PySem.W.Frag) (C : Addr) (mc : Value) (m : Str) (p f : Addr) : Prop where
  at_ : PySem.W.findCls K (.ref C) mc m = some (.get (.builtin "staticmethod.__get__") (.ref p) .none (.ref C))
  rc : ∃ rest, PySem.W.recIn K p "staticmethod" = some (.ref f :: rest)
def tSMeth (C : Addr) (sp : Sp) (dvs : List V) (E : XK) (ta : TE) (t : TA) : TE := fun σ H Q => ta σ H fun x H1 => x = .ref C ∧ t σ H1 fun vs H2 => sp (vs ++ dvs) H2 Q E
section
variable {X : Cx} {CX : CXT} {k : Nat} {C p f : Addr} {mc : Value} {fd : FuncData} {ps : List Str} {sp : Sp} {dvs : List V} {ds : List Value} {E : XK} {o e : Expr} {es : List Expr} {m : Str} {pos apos : Pos} {ta : TE} {t : TA} {pl : Sem Bool}
theorem pe_smeth (he : PE X o ta) (r : ClX.CRead X.K C mc) (c : SMet X.K C mc m p f) (F : FnOk X.prog X.w X.K X.mg X.base CX k f fd ps sp) (hr : Room k X.A) (hk : PySem.W.keepIn X.K (.ref f) = true) (hb : Binds X.K fd ps ds) (hd : Vals dvs ds) (hx : Passes CX X E) (ha : PA X (e :: es) t)
    (one : starEach (e :: es) X.env = (false, eval e X.env) :: starEach es X.env := by rfl) (plain : (backTo pos (starEach es X.env)).any (·.1) = false := by rfl)
    (ev : eval (.Call (.Attribute o m apos) (e :: es) [] pos) X.env = (do
      let u ← eval o X.env
      standAt apos.atName
      let (g, first) ← holding [u] (getMethod u m pl)
      callWith pos g first (backTo pos (starEach (e :: es) X.env)) (backToKw pos (keywordEach [] X.env))) := by rfl) :
    PE X (.Call (.Attribute o m apos) (e :: es) [] pos) (tSMeth C sp dvs E ta t) := by
  refine ⟨fun pins s σ H Q I h => ?_⟩
  refine PySem.W.methodCall_KW (pl := pl) (thn (he.run pins s σ H _ I h) fun u s1 ⟨x, H1, J, rx, ex, q⟩ => ?_) ev
  subst ex
  obtain rfl : u = Value.ref C := rx
  obtain ⟨rest, hp⟩ := c.rc
  refine PySem.W.method_cls J.kIn r.ga (PySem.W.cls_bind J.kIn r.rd c.at_ (wpAny_call (PySem.W.sm_get (s := { s1 with toks := s1.toks + 1 }) J.kIn hp (PySem.W.handed_on rfl ?_))))
  refine PySem.W.callWith_K (h₀ := X.base) J.ok.mod.kin hk (thn (ha.run pos pins _ σ H1 _ (J.tok _) q) fun us s2 ⟨vs, H2, J2, rel, want⟩ => ⟨J2.kIn, ?_⟩) one plain
  have r2 : Vals (vs ++ dvs) (us ++ ds) := rel.append hd
  have len : (us ++ ds).length = ps.length := r2.length.symm.trans (F.len _ _ _ _ want)
  refine wpAny_call (codeAny_mono (F.run X.A X.stack s2 H2 ⟨us, []⟩ (us ++ ds) (vs ++ dvs) Q E hr J2.env0 (hb s2 us J2.kIn len) r2 want) fun r s' z => ?_)
  match r, z with
  | .error er, z => exact hx pins σ H2 s2 er s' J2 z
  | .ok (.ret u), z => exact J2.after z
  | .ok .next, z => exact z.elim
  | .ok .brk, z => exact z.elim
  | .ok .cont, z => exact z.elim
end
end L2


/-! what the module's top says of classes, of defs: the form that the row's end asks for. -/
namespace FT
open PySem L2 TL ClX
abbrev exTail : List Value := [.type "ValueError", .type "Exception", .type "BaseException", .type "object"]
/-- an own class at C, its chain behind it -/
def ClsAt (K : PySem.W.Frag) (C : Addr) (bm : List Value) : Prop := ∃ nm q N bs sn sub ab col dd k0 k1 k2 k3 k5, K.lookup C = some (excClassObj nm q C N bs bm true sn sub ab col dd k0 k1 k2 k3 k5 "ValueError.__new__")
section
variable {K : PySem.W.Frag} {C : Addr} {bm : List Value}
theorem ClsAt.cls (h : ClsAt K C bm) : ∃ cd : ClassData, PySem.W.clsIn K C = some cd ∧ cd.mro = .ref C :: bm ∧ cd.hasDict = true := by
  obtain ⟨nm, q, N, bs, sn, sub, ab, col, dd, k0, k1, k2, k3, k5, e⟩ := h
  refine ⟨{ name := nm, bases := bs, mro := .ref C :: bm, ns := N, qualname := q, hasDict := true, slotNames := sn, subclasses := sub, abstract := ab, collection := col }, ?_, rfl, rfl⟩
  unfold PySem.W.clsIn
  rw [e]
theorem ClsAt.ty (h : ClsAt K C bm) : PySem.W.typeIn K (.ref C) = some (.type "type") := by
  obtain ⟨nm, q, N, bs, sn, sub, ab, col, dd, k0, k1, k2, k3, k5, e⟩ := h
  show (K.lookup C).map (·.cls) = _
  rw [e] <;> rfl
theorem ClsAt.mroIs (h : ClsAt K C bm) (b : Value) : PySem.W.mroIn K C b = some ((Value.ref C :: bm).contains b) := by
  obtain ⟨cd, e1, e2, _⟩ := h.cls
  unfold PySem.W.mroIn
  rw [e1]
  show (if cd.mro.isEmpty then none else some (cd.mro.contains b)) = _
  rw [e2] <;> rfl
theorem ClsAt.sub (h : ClsAt K C bm) (b : Value) : PySem.W.subIn K (.ref C) b = some ((Value.ref C :: bm).contains b) := h.mroIs b
theorem ClsAt.hd (h : ClsAt K C bm) : PySem.W.hasDictIn K C = true := by
  obtain ⟨cd, e1, _, e3⟩ := h.cls
  show (PySem.W.clsIn K C).any (·.hasDict) = true
  rw [e1]
  exact e3
theorem ClsAt.isC (h : ClsAt K C bm) : (PySem.W.clsIn K C).isSome = true := by
  obtain ⟨cd, e1, _⟩ := h.cls
  rw [e1] <;> rfl
/-- isinstance of the class at C against the class at D -/
theorem ClsAt.kit {D : Addr} {bn : List Value} (h : ClsAt K C bm) (g : ClsAt K D bn) : PySem.W.kitOne K (.ref C) (.ref D) = some ((Value.ref C :: bm).contains (.ref D)) := by
  unfold PySem.W.kitOne
  by_cases e : (Value.ref C == Value.ref D) = true
  · rw [if_pos e, beq_iff_eq.mp e, List.contains_cons, beq_self_eq_true] <;> rfl
  · rw [if_neg e]
    have e2 : ((PySem.W.clsIn K D).isSome && PySem.W.typeIn K (.ref D) == some (.type "type")) = true := by rw [g.isC, g.ty] <;> rfl
    show (if _ then PySem.W.subIn K (.ref C) (.ref D) else none) = _
    rw [if_pos e2, h.sub]
theorem ClsAt.exm {D : Addr} {bn : List Value} (h : ClsAt K C bm) (g : ClsAt K D bn) (eD : (Value.ref D :: bn).contains (.type "BaseException") = true) : PySem.W.exmOne K (.ref C) (.ref D) = some ((Value.ref C :: bm).contains (.ref D)) :=
  PySem.W.exm_ref (by rw [g.sub, eD]) g.hd g.ty (h.sub _)
end
/-- what the top says of one error class -/
structure ClsF (K : PySem.W.Frag) (nm f : Str) (C I R : Addr) : Prop where
  nsn : PySem.W.nsIn K mainGlobals nm = some (some (.ref C))
  at_ : ClsAt K C (.ref R :: exTail)
  sa : PySem.W.findIn K (.ref C) "__setattr__" = some (some (.builtin "object.__setattr__"))
  ga : PySem.W.findIn K (.ref C) "__getattribute__" = some (some (.builtin "BaseException.__getattribute__"))
  gg : PySem.W.findIn K (.ref C) "__getattr__" = some none
  ha : PySem.W.findIn K (.ref C) "__class__" = some (some (.builtin "object.__class__"))
  kC : PySem.W.keepIn K (.ref C) = true
  no : PySem.W.findIn K (.ref C) f = some none
  ini : PySem.W.findIn K (.ref C) "__init__" = some (some (.ref I))
  ity : PySem.W.typeIn K (.ref I) = some (.type "function")
/-- and of what they share -/
structure RootF (K : PySem.W.Frag) (R : Addr) : Prop where
  nsn : PySem.W.nsIn K mainGlobals "RolloutError" = some (some (.ref R))
  at_ : ClsAt K R exTail
  rd : PySem.W.readsIn K R (.type "type") = true
  ga : PySem.W.specialIn K (.ref R) "__getattribute__" = some (some (.builtin "type.__getattribute__"))
  ini : PySem.W.findCls K (.ref R) (.type "type") "__init__" = some (.val (.builtin "ValueError.__init__"))
  hn : PySem.W.specialIn K (.builtin "object.__class__") "__get__" = some (some (.builtin "getset_descriptor.__get__"))
  ht : PySem.W.takesIn K (.builtin "object.__class__") = some true
theorem ClsF.x {K : PySem.W.Frag} {nm f : Str} {C I R : Addr} (c : ClsF K nm f C I R) (r : RootF K R) : XCls K C where
  cls := by
    obtain ⟨nm, q, N, bs, sn, sub, ab, col, dd, k0, k1, k2, k3, k5, e⟩ := c.at_
    exact ⟨nm, q, N, bs, _, sn, sub, ab, col, dd, k0, k1, k2, k3, k5, e, rfl⟩
  sa := c.sa
  exC := by rw [c.at_.sub] <;> rfl
  tyC := c.at_.ty
  kC := c.kC
  ga := c.ga
  gg := c.gg
  hdC := c.at_.hd
  ha := c.ha
  hn := r.hn
  ht := r.ht
  hm := by rw [c.at_.mroIs] <;> rfl
theorem has_cls {C R D : Addr} {b : Bool} (h : decide (C = D) = b) (n : R ≠ D) : (Value.ref C :: Value.ref R :: exTail).contains (.ref D) = b := by
  subst h
  by_cases e : C = D
  · subst e
    rw [List.contains_cons, beq_self_eq_true, decide_eq_true rfl] <;> rfl
  · have e1 : (Value.ref D == Value.ref C) = false := beq_eq_false_iff_ne.mpr fun z => e (Value.ref.inj z).symm
    have e2 : (Value.ref D == Value.ref R) = false := beq_eq_false_iff_ne.mpr fun z => n (Value.ref.inj z).symm
    rw [decide_eq_false e, List.contains_cons, e1, List.contains_cons, e2] <;> rfl
theorem has_root {C R : Addr} : (Value.ref C :: Value.ref R :: exTail).contains (.ref R) = true := by
  rw [List.contains_cons, List.contains_cons, beq_self_eq_true, Bool.true_or, Bool.or_true]
theorem kit_bt {K : PySem.W.Frag} {C R : Addr} (c : ClsAt K C (.ref R :: exTail)) : PySem.W.kitOne K (.ref C) (.type "ValueError") = some true := by
  unfold PySem.W.kitOne
  rw [if_neg (show ¬ (Value.ref C == Value.type "ValueError") = true from fun z => nomatch (show false = true from z))]
  have e2 : PySem.W.kitMeta "ValueError" = true := by decide +kernel
  show (if PySem.W.kitMeta "ValueError" = true then PySem.W.subIn K (.ref C) (.type "ValueError") else none) = _
  rw [if_pos e2, c.sub] <;> rfl
/-- what the top says of a class with a constant MOST -/
structure ClsK (K : PySem.W.Frag) (nm : Str) (C : Addr) (n : Int) (t : Nat) : Prop where
  nsn : PySem.W.nsIn K mainGlobals nm = some (some (.ref C))
  rd : PySem.W.readsIn K C (.type "type") = true
  ga : PySem.W.specialIn K (.ref C) "__getattribute__" = some (some (.builtin "type.__getattribute__"))
  most : PySem.W.findCls K (.ref C) (.type "type") "MOST" = some (.val (.int n t))
  pg : PySem.W.plainGet K C Str.empty = true
  hd : PySem.W.hasDictIn K C = true
  po : PySem.W.plainOver K C = true
  sa : PySem.W.findIn K (.ref C) "__setattr__" = some (some (.builtin "object.__setattr__"))
  mks : PySem.W.makesIn K C = true
  kp : PySem.W.keepIn K (.ref C) = true
  ha : PySem.W.findIn K (.ref C) "__class__" = some (some (.builtin "object.__class__"))
  hn : PySem.W.specialIn K (.builtin "object.__class__") "__get__" = some (some (.builtin "getset_descriptor.__get__"))
  ht : PySem.W.takesIn K (.builtin "object.__class__") = some true
  hm : PySem.W.mroIn K C (.type "object") = some true
/-- a method -/
structure MetK (K : PySem.W.Frag) (C : Addr) (m : Str) (f : Addr) : Prop where
  at_ : PySem.W.findIn K (.ref C) m = some (some (.ref f))
  fn : PySem.W.isFn K (.ref f) = true
/-- a property -/
structure PrK (K : PySem.W.Frag) (C : Addr) (m : Str) (p g : Addr) (rest : List Value) : Prop where
  at_ : PySem.W.findIn K (.ref C) m = some (some (.ref p))
  get : PySem.W.specialIn K (.ref p) "__get__" = some (some (.builtin "property.__get__"))
  tak : PySem.W.takesIn K (.ref p) = some true
  rec_ : PySem.W.recIn K p "property" = some (.ref g :: rest)
theorem ClsF.er {K : PySem.W.Frag} {h : Heap} {mg : Str → Option Value} {nm f : Str} {C I R : Addr} (X : K.In h) (G : h.Ns mainGlobals mg) (c : ClsF K nm f C I R) (r : RootF K R) : Er K mg nm f C I :=
  ⟨PySem.W.mg_of X G c.nsn, c.x r, c.ini, c.ity, c.no⟩
theorem RootF.rt {K : PySem.W.Frag} {h : Heap} {mg : Str → Option Value} {R : Addr} (X : K.In h) (G : h.Ns mainGlobals mg) (r : RootF K R) : Rt K mg R := ⟨PySem.W.mg_of X G r.nsn, ⟨r.rd, r.ga, r.ini⟩⟩
theorem ClsK.fc {K : PySem.W.Frag} {h : Heap} {mg : Str → Option Value} {CF : Addr} {t t2 : Nat} (X : K.In h) (G : h.Ns mainGlobals mg) (k : ClsK K "Forest" CF 12 t) (root : PySem.W.findCls K (.ref CF) (.type "type") "ROOT" = some (.val (.str "" t2))) : Fc K mg CF (.type "type") :=
  ⟨PySem.W.mg_of X G k.nsn, ⟨k.rd, k.ga⟩, ⟨_, k.most, ⟨_, rfl⟩⟩, ⟨_, root, ⟨_, rfl⟩⟩⟩
theorem ClsK.cls {K : PySem.W.Frag} {nm : Str} {C : Addr} {n : Int} {t : Nat} (k : ClsK K nm C n t) : Cls K C := ⟨k.pg, k.hd, k.po, k.sa⟩
/-- an int that the top computes -/
theorem loose_int {p : Program} {lv : List (Str × PySem.W.WData)} {mg : Str → Option Value} {h : Heap} {nm : Str} {n : Int} (x : PySem.W.XL p lv mg h) (m : (nm, PySem.W.WData.int n) ∈ lv) : ∃ t, mg nm = some (.int n t) := by
  obtain ⟨v, e, r⟩ := x.2.val _ m
  cases r with
  | int i t => exact ⟨t, e⟩
/-- a def with its code object and the table of that -/
structure TabK (K : PySem.W.Frag) (x : Str) (c P : Addr) : Prop where
  at_ : PySem.W.tabIn K x = some (c, P)
  no : K.lookup P = none
end FT


/-! what the top says of a class without a constant, of a static method -/
namespace FT
open PySem L2 TL ClX
structure ClsN (K : PySem.W.Frag) (nm : Str) (C : Addr) : Prop where
  nsn : PySem.W.nsIn K mainGlobals nm = some (some (.ref C))
  rd : PySem.W.readsIn K C (.type "type") = true
  ga : PySem.W.specialIn K (.ref C) "__getattribute__" = some (some (.builtin "type.__getattribute__"))
  pg : PySem.W.plainGet K C Str.empty = true
  hd : PySem.W.hasDictIn K C = true
  po : PySem.W.plainOver K C = true
  sa : PySem.W.findIn K (.ref C) "__setattr__" = some (some (.builtin "object.__setattr__"))
  mks : PySem.W.makesIn K C = true
  kp : PySem.W.keepIn K (.ref C) = true
theorem ClsN.cls {K : PySem.W.Frag} {nm : Str} {C : Addr} (k : ClsN K nm C) : Cls K C := ⟨k.pg, k.hd, k.po, k.sa⟩
/-- a static method -/
structure StK (K : PySem.W.Frag) (C : Addr) (m : Str) (p f : Addr) (rest : List Value) : Prop where
  at_ : PySem.W.findCls K (.ref C) (.type "type") m = some (.get (.builtin "staticmethod.__get__") (.ref p) .none (.ref C))
  rec_ : PySem.W.recIn K p "staticmethod" = some (.ref f :: rest)
theorem StK.sm {K : PySem.W.Frag} {C p f : Addr} {m : Str} {rest : List Value} (s : StK K C m p f rest) : SMet K C (.type "type") m p f := ⟨s.at_, _, s.rec_⟩
end FT


/-! need_flag, need_place, Assignment.users_of, at: with any value, either answer -/
namespace FT
open PySem L2 TL ClX LiI
def flagV (ts : List (Str × Str)) (v : V) : Bool := match v with
  | .str z => decide (z ∈ ts.map Prod.fst)
  | _ => false
def placeV (ts : List (Str × Str)) (v : V) : Bool := match v with
  | .str z => decide (z = "" ∨ z ∈ ts.map Prod.fst)
  | _ => false
def strV (v : V) : Str := match v with
  | .str z => z
  | _ => ""
def nmE (CN : Addr) (ok : Bool) (v : V) : Option Err := if ok = true then none else some (.e1 CN "name" v)
theorem nmE_t {CN : Addr} {b : Bool} {v : V} (h : b = true) : nmE CN b v = none := if_pos h
theorem nmE_f {CN : Addr} {b : Bool} {v : V} (h : b = false) : nmE CN b v = some (.e1 CN "name" v) := by
  subst h
  rfl
def spNeedFlE (K : PySem.W.Frag) (CF CN : Addr) : Sp := fun vs H Q E => ∃ (x : Addr) (ts : List (Str × Str)) (v : V), vs = [.ref x, v] ∧ FAt CF H x ts ∧ TreeOk ts ∧ IsDat K H v ∧ Res H Q E (nmE CN (flagV ts v) v)
def spNeedPlE (K : PySem.W.Frag) (CF CN : Addr) : Sp := fun vs H Q E => ∃ (x : Addr) (ts : List (Str × Str)) (v : V), vs = [.ref x, v] ∧ FAt CF H x ts ∧ TreeOk ts ∧ IsDat K H v ∧ Res H Q E (nmE CN (placeV ts v) v)
def spAUsersE (K : PySem.W.Frag) (CF CA CN : Addr) : Sp := fun vs H Q E => ∃ (y x : Addr) (ts : List (Str × Str)) (zs : List Str) (v : V), vs = [.ref y, v] ∧ AAt CA H y x zs ∧ FAt CF H x ts ∧ TreeOk ts ∧ (∀ z ∈ zs, Pl ts z) ∧ zs.length ≤ 1000 ∧ IsDat K H v ∧
  match nmE CN (flagV ts v) v with
  | none => ∀ (p : Addr) (H' : Hp), Same H H' → H p = none → H' p = some (.lst ((hasU ts zs (strV v)).map V.int)) → Q (.ref p) H'
  | some e => Out H E e
def spAAtE (K : PySem.W.Frag) (CF CA CN : Addr) : Sp := fun vs H Q E => ∃ (y x : Addr) (ts : List (Str × Str)) (zs : List Str) (v : V), vs = [.ref y, v] ∧ AAt CA H y x zs ∧ FAt CF H x ts ∧ TreeOk ts ∧ zs.length ≤ 1000 ∧ IsDat K H v ∧
  match nmE CN (placeV ts v) v with
  | none => ∀ (p : Addr) (H' : Hp), Same H H' → H p = none → H' p = some (.lst ((atU zs (strV v)).map V.int)) → Q (.ref p) H'
  | some e => Out H E e
theorem Dat.str_of {K : PySem.W.Frag} {H : Hp} {v : V} (d : Dat K H v "str") : ∃ z, v = .str z := by
  generalize e : "str" = T at d
  cases d with
  | str z => exact ⟨z, rfl⟩
  | _ => exact absurd e (by decide)
theorem Dat.str_no {K : PySem.W.Frag} {H : Hp} {v : V} {T : String} (d : Dat K H v T) (n : ¬ T = "str") (z : Str) : v ≠ .str z := fun e => by
  subst e
  cases d with
  | str => exact n rfl
section
variable {P : Program} {w : World} {K : PySem.W.Frag} {mg : Str → Option Value} {base : Heap}
abbrev NFlE : List Str := ["forest", "name"]
theorem scNfE : FnScope NFlE ["forest", "name"] (defScope s_need_flag) := ⟨rfl, rfl, rfl, by decide +kernel, rfl, by decide +kernel, by decide +kernel⟩
theorem ok_needFlE {f CF CN IN : Addr} {fd dN : FuncData} (F : Fun K "need_flag" "need_flag" s_need_flag f fd) (T : Nm mg) (O : FoC K CF) (S : Er1 P w K mg base "UnknownName" "name" CN IN dN) : FnOk P w K mg base (L2.CX P w) 3 f fd ["forest", "name"] (spNeedFlE K CF CN) := by
  refine F.okX scNfE (fun vs H Q E h => ?_) (fun cdv A outer s H vs Q E hr h => ?_)
  · obtain ⟨x, ts, v, rfl, _⟩ := h
    rfl
  · obtain ⟨x, ts, v, rfl, fa, o, ⟨T0, dv⟩, k⟩ := h
    have hu := hu_of hr
    have hr2 : Room 2 _ := hr.mono (by decide)
    refine ⟨_, pss_one (ps_if (PW.pt (pw_or (pt_not (pt_val (pe_callB call_isi (by rfl) T.isi (by decide +kernel) (pa_cons (pv 1) (pa_cons (pe_bltn (v := .ty "str") (u := .type "str") (by rfl) T.str (by decide +kernel) rfl) pa_nil)))))
          (pw_or1 (pt_cmp (pc_dnotin hu (pv 1) (pe_fld (pv 0) rfl)))))) (pss_one (ps_err1 S rfl (takes_of rfl rfl rfl rfl) hr2 rfl (pv 1))) pss_nil), ?_⟩
    obtain ⟨dx, dq, hx, hd⟩ := id fa
    refine ⟨_, rfl, v, _, _, _, _, rfl, .ty _, dv.ty, dv.str_, _, rfl, ?_⟩
    by_cases eT : T0 = "str"
    · subst eT
      obtain ⟨a, rfl⟩ := dv.str_of
      rw [decide_eq_true rfl]
      refine iteF ?_
      by_cases ma : a ∈ ts.map Prod.fst
      · obtain ⟨pa, hp⟩ := par_some o.nd ma
        rw [nmE_t (b := flagV ts (.str a)) (decide_eq_true ma)] at k
        refine ⟨_, rfl, _, rfl, x, CF, dx, _, .ref dq, rfl, hx, O.cl, O.nA, rfl, dq, _, rfl, dget_prs (.inl hd) hp, _, rfl, ?_⟩
        exact iteF (k H Same.refl)
      · rw [nmE_f (b := flagV ts (.str a)) (decide_eq_false ma)] at k
        have z := DGet.k (k := Sum.inr a) hd
        rw [val_prs, par_none ma] at z
        refine ⟨_, rfl, _, rfl, x, CF, dx, _, .ref dq, rfl, hx, O.cl, O.nA, rfl, dq, _, rfl, z, _, rfl, ?_⟩
        exact iteT ⟨_, rfl, out1 k Same.refl⟩
    · rw [decide_eq_false eT]
      have e0 : nmE CN (flagV ts v) v = some (.e1 CN "name" v) := by
        cases v with
        | str z => exact absurd rfl (dv.str_no eT z)
        | _ => rfl
      rw [e0] at k
      show if true = true then _ else _
      rw [if_pos rfl]
      exact iteT ⟨_, rfl, out1 k Same.refl⟩
abbrev NNpE : List Str := ["forest", "place"]
theorem scNpE : FnScope NNpE ["forest", "place"] (defScope s_need_place) := ⟨rfl, rfl, rfl, by decide +kernel, rfl, by decide +kernel, by decide +kernel⟩
theorem ok_needPlE {f CF CN IN : Addr} {mc : Value} {fd dN : FuncData} (F : Fun K "need_place" "need_place" s_need_place f fd) (T : Nm mg) (O : FoC K CF) (Z : Fc K mg CF mc) (S : Er1 P w K mg base "UnknownName" "name" CN IN dN) : FnOk P w K mg base (L2.CX P w) 3 f fd ["forest", "place"] (spNeedPlE K CF CN) := by
  obtain ⟨ur, cr⟩ := Z.root
  refine F.okX scNpE (fun vs H Q E h => ?_) (fun cdv A outer s H vs Q E hr h => ?_)
  · obtain ⟨x, ts, v, rfl, _⟩ := h
    rfl
  · obtain ⟨x, ts, v, rfl, fa, o, ⟨T0, dv⟩, k⟩ := h
    have hu := hu_of hr
    have hr2 : Room 2 _ := hr.mono (by decide)
    refine ⟨_, pss_one (ps_if (PW.pt (pw_or (pt_not (pt_val (pe_callB call_isi (by rfl) T.isi (by decide +kernel) (pa_cons (pv 1) (pa_cons (pe_bltn (v := .ty "str") (u := .type "str") (by rfl) T.str (by decide +kernel) rfl) pa_nil)))))
          (pw_or1 (PW.pt (pw_and (pt_cmpR op_ne (pv 1) (pe_cval (pe_glob (v := .ref CF) (by rfl) Z.gF rfl)) (nomark _)) (pw_and1 (pt_cmp (pc_dnotin hu (pv 1) (pe_fld (pv 0) rfl))))))))) (pss_one (ps_err1 S rfl (takes_of rfl rfl rfl rfl) hr2 rfl (pv 1))) pss_nil), ?_⟩
    obtain ⟨dx, dq, hx, hd⟩ := id fa
    refine ⟨_, rfl, v, _, _, _, _, rfl, .ty _, dv.ty, dv.str_, _, rfl, ?_⟩
    by_cases eT : T0 = "str"
    · subst eT
      obtain ⟨a, rfl⟩ := dv.str_of
      rw [decide_eq_true rfl]
      refine iteF ?_
      refine ⟨_, rfl, CF, mc, _, ur, rfl, Z.rd, cr, rfl, _, rfl, ?_⟩
      by_cases e : a = ""
      · rw [decide_eq_true (show V.str a = V.str "" by rw [e])]
        rw [nmE_t (b := placeV ts (.str a)) (decide_eq_true (.inl e))] at k
        refine iteF ?_
        exact iteF (k H Same.refl)
      · rw [decide_eq_false (show ¬ V.str a = V.str "" from fun z => e (V.str.inj z))]
        show if true = true then _ else _
        rw [if_pos rfl]
        by_cases ma : a ∈ ts.map Prod.fst
        · obtain ⟨pa, hp⟩ := par_some o.nd ma
          rw [nmE_t (b := placeV ts (.str a)) (decide_eq_true (.inr ma))] at k
          refine ⟨_, rfl, _, rfl, x, CF, dx, _, .ref dq, rfl, hx, O.cl, O.nA, rfl, dq, _, rfl, dget_prs (.inl hd) hp, _, rfl, ?_⟩
          exact iteF (k H Same.refl)
        · rw [nmE_f (b := placeV ts (.str a)) (decide_eq_false (by rintro (h | h); exact e h; exact ma h))] at k
          have z := DGet.k (k := Sum.inr a) hd
          rw [val_prs, par_none ma] at z
          refine ⟨_, rfl, _, rfl, x, CF, dx, _, .ref dq, rfl, hx, O.cl, O.nA, rfl, dq, _, rfl, z, _, rfl, ?_⟩
          exact iteT ⟨_, rfl, out1 k Same.refl⟩
    · rw [decide_eq_false eT]
      have e0 : nmE CN (placeV ts v) v = some (.e1 CN "name" v) := by
        cases v with
        | str z => exact absurd rfl (dv.str_no eT z)
        | _ => rfl
      rw [e0] at k
      show if true = true then _ else _
      rw [if_pos rfl]
      exact iteT ⟨_, rfl, out1 k Same.refl⟩
end
end FT


/-! Assignment.users_of, at with any value; flags_of, need_user, need_same_users -/
namespace FT
open PySem L2 TL ClX LiI
def spNeedUs (CA : Addr) : Sp := fun vs H Q _ => ∃ (y x : Addr) (zs : List Str) (i : Nat), vs = [.ref y, .int (i : Int)] ∧ AAt CA H y x zs ∧ i < zs.length ∧ Q .non H
def spAFlags (CF CA : Addr) : Sp := fun vs H Q _ => ∃ (y x : Addr) (ts : List (Str × Str)) (zs : List Str) (i : Nat) (z : Str), vs = [.ref y, .int (i : Int)] ∧ AAt CA H y x zs ∧ FAt CF H x ts ∧ TreeOk ts ∧ zs[i]? = some z ∧ Pl ts z ∧
  ∀ (p : Addr) (H' : Hp), Same H H' → H p = none → H' p = some (.tup ((pathOf ts z).map V.str)) → Q (.ref p) H'
def spSameUs (CA CM : Addr) : Sp := fun vs H Q E => ∃ (y1 y2 x1 x2 : Addr) (zs ws : List Str), vs = [.ref y1, .ref y2] ∧ AAt CA H y1 x1 zs ∧ AAt CA H y2 x2 ws ∧ Res H Q E (if zs.length = ws.length then none else some (.e0 CM))
section
variable {P : Program} {w : World} {K : PySem.W.Frag} {mg : Str → Option Value} {base : Heap}
abbrev NUsE : List Str := ["self", "name", "above", "user", "place"]
theorem scUsE : FnScope NUsE ["self", "name"] (defScope s_Assignment_users_of) := ⟨rfl, rfl, rfl, by decide +kernel, rfl, by decide +kernel, by decide +kernel⟩
theorem ok_ausersE {f fN fP CF CA CN : Addr} {mcA : Value} {fd fdN fdP : FuncData} (F : Fun K "users_of" "Assignment.users_of" s_Assignment_users_of f fd) (T : Nm mg) (O : FoC K CF) (B : Ac K mg CA mcA) (DN : Dn P w K mg base (L2.CX P w) 3 "need_flag" ["forest", "name"] (spNeedFlE K CF CN) fN fdN) (DP : Dn P w K mg base CX0 1 "path_in" ["above", "place"] spPathIn fP fdP) : FnOk P w K mg base (L2.CX P w) 4 f fd ["self", "name"] (spAUsersE K CF CA CN) := by
  refine F.okX scUsE (fun vs H Q E h => ?_) (fun cdv A outer s H vs Q E hr h => ?_)
  · obtain ⟨y, x, ts, zs, v, rfl, _⟩ := h
    rfl
  · obtain ⟨y, x, ts, zs, v, rfl, ⟨dy, p, hy, hp⟩, fa, o, pls, few, dv, k⟩ := h
    have hu := hu_of hr
    have nd := scUsE.nd
    have big : 1000 ≤ sizeLine := by decide
    refine ⟨_, pss_cons (ps_expr (pe_call DN.ok hr rfl DN.mgn DN.kp DN.bn .nil (passes_call (takes_of rfl rfl rfl rfl) (fun _ _ _ _ h => h)) (pa_cons (pe_fld (pv 0) rfl) (pa_cons (pv 1) pa_nil))))
      (pss_cons (ps_set (i := 2) nd rfl (.inr rfl) (pe_fld (pe_fld (pv 0) rfl) rfl))
      (pss_one (ps_ret (pe_lc (own := [("user", 3), ("place", 4)]) (g := gTup K 2 (gCons (gName 3) (gCons (gName 4) gNil))) (tt := tTest (tOp (rIn K false) (tVar 1) (tCall spPathIn [] E0 (tCons (tVar 2) (tCons (tVar 4) tNil))))) (te := tVar 3) rfl nd (pi_enum rfl T.enu (pa_cons (pe_fld (pv 0) rfl) pa_nil))
        (blkOk_by (N := NUsE) (sc := defScope s_Assignment_users_of) (by decide +kernel)) (fun _ _ _ _ _ => pg_tup rfl (pgs_cons (pg_name (i := 3) nd rfl (Or.inl rfl)) (pgs_cons (pg_name (i := 4) nd rfl (Or.inl rfl)) pgs_nil)))
        (fun _ _ _ _ _ => pts_one (pt_cmpR op_in_seq (pv 1) (pe_call DP.ok (hr.mono (by decide)) rfl DP.mgn DP.kp DP.bn .nil pass0 (pa_cons (pv 2) (pa_cons (pv 4) pa_nil))) rfl)) (fun _ _ _ _ _ => pv 3))))), ?_⟩
    obtain ⟨dx, dq, hx, hd⟩ := id fa
    refine ⟨_, rfl, y, CA, dy, _, .ref x, rfl, hy, B.cl, B.nF, rfl, _, rfl, x, ts, v, rfl, fa, o, dv, ?_⟩
    cases ok : flagV ts v with
    | false =>
      rw [nmE_f ok] at k
      exact k
    | true =>
    obtain ⟨a, rfl⟩ : ∃ a, v = .str a := by
      cases v with
      | str a => exact ⟨a, rfl⟩
      | _ => cases ok
    rw [nmE_t ok] at k
    refine fun H0 s0 => ?_
    have hx0 := s0 _ _ hx
    have hd0 := s0 _ _ hd
    refine ⟨_, rfl, y, CA, dy, _, .ref x, rfl, s0 _ _ hy, B.cl, B.nF, rfl, x, CF, dx, _, .ref dq, rfl, hx0, O.cl, O.nA, rfl, ?_⟩
    refine ⟨_, rfl, y, CA, dy, _, .ref p, rfl, s0 _ _ hy, B.cl, B.nP, rfl, p, _, rfl, SqL.of (s0 _ _ hp), fun D nD => ?_⟩
    refine lc_it walk_enum (fun j H' => Same H0 H' ∧ H' D = some (.lst ((selU j (hasC ts zs a)).map V.int))) ⟨same_new nD, upd_same⟩ (fun j H' _ w => SqL.of (w.1 _ _ (s0 _ _ hp))) ?_ ?_
    · intro j TT Ha Hb hj ⟨q1, q2⟩ ⟨T', y1, z, eT, nT, eH, ey, ez⟩
      subst eT
      subst eH
      cases ey
      obtain ⟨b, hb, rfl⟩ := map_of (f := V.str) (l := zs) (show (zs.map V.str)[j]? = some z from ez)
      have sT : Same Ha (upd Ha T' (.tup [.int (j : Int), .str b])) := same_new nT
      have jl := (List.getElem?_eq_some_iff.mp hb).1
      have ls := selU_len j (hasC ts zs a)
      refine ⟨T', [.int (j : Int), .str b], rfl, .inl (.inl upd_same), rfl, _, _, rfl, _, _, rfl, rfl, rfl, ?_⟩
      refine ⟨_, rfl, _, rfl, _, rfl, dq, ts, b, rfl, .inl (sT _ _ (q1 _ _ hd0)), o, pls b (List.mem_of_getElem? hb), fun pt H4 s4 npt hpt => ?_⟩
      refine ⟨pt, _, rfl, .inr (.inl (.inl hpt)), rfl, flat_strs _, _, rfl, ?_⟩
      rw [show (if false = true then !inV (V.str a) ((pathOf ts b).map V.str) else inV (V.str a) ((pathOf ts b).map V.str)) = decide (a ∈ pathOf ts b) from inV_strs a _]
      have more := selU_more j (hasC ts zs a)
      have ec : hasC ts zs a j = decide (a ∈ pathOf ts b) := by
        unfold hasC
        rw [hb]
      rw [ec] at more
      have q3 := s4 _ _ (sT _ _ q2)
      refine ite2 (fun yes => ?_) (fun no => ?_)
      · have yes : decide (a ∈ pathOf ts b) = true := yes
        rw [if_pos yes] at more
        refine ⟨_, rfl, _, q3, by rw [List.length_map]; omega, ((q1.trans sT).trans s4).put nD, by rw [upd_same, more, List.map_append] <;> rfl⟩
      · have no : ¬ decide (a ∈ pathOf ts b) = true := no
        rw [if_neg no, List.append_nil] at more
        exact ⟨(q1.trans sT).trans s4, by rw [more]; exact q3⟩
    · intro H1 ⟨q1, q2⟩
      rw [List.length_map] at q2
      exact k D H1 (s0.trans q1) (s0.free nD) q2
abbrev NAtE : List Str := ["self", "place", "user", "other"]
theorem scAtE : FnScope NAtE ["self", "place"] (defScope s_Assignment_at) := ⟨rfl, rfl, rfl, by decide +kernel, rfl, by decide +kernel, by decide +kernel⟩
theorem ok_aatE {f fN CF CA CN : Addr} {mcA : Value} {fd fdN : FuncData} (F : Fun K "at" "Assignment.at" s_Assignment_at f fd) (T : Nm mg) (B : Ac K mg CA mcA) (DN : Dn P w K mg base (L2.CX P w) 3 "need_place" ["forest", "place"] (spNeedPlE K CF CN) fN fdN) : FnOk P w K mg base (L2.CX P w) 4 f fd ["self", "place"] (spAAtE K CF CA CN) := by
  refine F.okX scAtE (fun vs H Q E h => ?_) (fun cdv A outer s H vs Q E hr h => ?_)
  · obtain ⟨y, x, ts, zs, v, rfl, _⟩ := h
    rfl
  · obtain ⟨y, x, ts, zs, v, rfl, ⟨dy, p, hy, hp⟩, fa, o, few, dv, k⟩ := h
    have hu := hu_of hr
    have nd := scAtE.nd
    have big : 1000 ≤ sizeLine := by decide
    refine ⟨_, pss_cons (ps_expr (pe_call DN.ok hr rfl DN.mgn DN.kp DN.bn .nil (passes_call (takes_of rfl rfl rfl rfl) (fun _ _ _ _ h => h)) (pa_cons (pe_fld (pv 0) rfl) (pa_cons (pv 1) pa_nil))))
      (pss_one (ps_ret (pe_lc (own := [("user", 2), ("other", 3)]) (g := gTup K 2 (gCons (gName 2) (gCons (gName 3) gNil))) (tt := tTest (tOp rEq (tVar 3) (tVar 1))) (te := tVar 2) rfl nd (pi_enum rfl T.enu (pa_cons (pe_fld (pv 0) rfl) pa_nil))
        (blkOk_by (N := NAtE) (sc := defScope s_Assignment_at) (by decide +kernel)) (fun _ _ _ _ _ => pg_tup rfl (pgs_cons (pg_name (i := 2) nd rfl (Or.inl rfl)) (pgs_cons (pg_name (i := 3) nd rfl (Or.inl rfl)) pgs_nil))) (fun _ _ _ _ _ => pts_one (pt_cmpR op_eq (pv 3) (pv 1) (nomark _))) (fun _ _ _ _ _ => pv 2)))), ?_⟩
    refine ⟨_, rfl, y, CA, dy, _, .ref x, rfl, hy, B.cl, B.nF, rfl, _, rfl, x, ts, v, rfl, fa, o, dv, ?_⟩
    cases ok : placeV ts v with
    | false =>
      rw [nmE_f ok] at k
      exact k
    | true =>
    obtain ⟨a, rfl⟩ : ∃ a, v = .str a := by
      cases v with
      | str a => exact ⟨a, rfl⟩
      | _ => cases ok
    rw [nmE_t ok] at k
    refine fun H0 s0 => ?_
    refine ⟨_, rfl, y, CA, dy, _, .ref p, rfl, s0 _ _ hy, B.cl, B.nP, rfl, p, _, rfl, SqL.of (s0 _ _ hp), fun D nD => ?_⟩
    refine lc_it walk_enum (fun j H' => Same H0 H' ∧ H' D = some (.lst ((selU j (atC zs a)).map V.int))) ⟨same_new nD, upd_same⟩ (fun j H' _ w => SqL.of (w.1 _ _ (s0 _ _ hp))) ?_ ?_
    · intro j TT Ha Hb hj ⟨q1, q2⟩ ⟨T', y1, z, eT, nT, eH, ey, ez⟩
      subst eT
      subst eH
      cases ey
      obtain ⟨b, hb, rfl⟩ := map_of (f := V.str) (l := zs) (show (zs.map V.str)[j]? = some z from ez)
      have sT : Same Ha (upd Ha T' (.tup [.int (j : Int), .str b])) := same_new nT
      have jl := (List.getElem?_eq_some_iff.mp hb).1
      have ls := selU_len j (atC zs a)
      refine ⟨T', [.int (j : Int), .str b], rfl, .inl (.inl upd_same), rfl, _, _, rfl, _, _, rfl, rfl, rfl, ?_⟩
      refine ⟨_, rfl, _, rfl, rfl, _, rfl, ?_⟩
      have more := selU_more j (atC zs a)
      have ec : atC zs a j = decide (b = a) := by
        unfold atC
        rw [hb]
        by_cases e : b = a
        · rw [decide_eq_true e, decide_eq_true (by rw [e])]
        · rw [decide_eq_false e, decide_eq_false fun z => e (Option.some.inj z)]
      by_cases e : b = a
      · rw [decide_eq_true (show V.str b = V.str a by rw [e])]
        show if true = true then _ else _
        rw [if_pos rfl]
        rw [ec, decide_eq_true e, if_pos rfl] at more
        refine ⟨_, rfl, _, sT _ _ q2, by rw [List.length_map]; omega, (q1.trans sT).put nD, by rw [upd_same, more, List.map_append] <;> rfl⟩
      · rw [decide_eq_false (show ¬ V.str b = V.str a from fun z => e (V.str.inj z))]
        rw [ec, decide_eq_false e, if_neg (by decide), List.append_nil] at more
        exact iteF ⟨q1.trans sT, by rw [more]; exact sT _ _ q2⟩
    · intro H1 ⟨q1, q2⟩
      rw [List.length_map] at q2
      exact k D H1 (s0.trans q1) (s0.free nD) q2
abbrev NNu : List Str := ["assignment", "user"]
theorem scNu : FnScope NNu ["assignment", "user"] (defScope s_need_user) := ⟨rfl, rfl, rfl, by decide +kernel, rfl, by decide +kernel, by decide +kernel⟩
theorem ok_needUs {f fI CA p1 g1 : Addr} {mcA : Value} {fd fdI fd1 : FuncData} (F : Fun K "need_user" "need_user" s_need_user f fd) (T : Nm mg) (B : Ac K mg CA mcA) (I : Dn P w K mg base CX0 1 "is_integer" ["value", "least"] (spIsInt K) fI fdI) (PT : PrN P w K mg base 1 CA "total" (spATotal CA) p1 g1 fd1) :
    FnOk P w K mg base CX0 3 f fd ["assignment", "user"] (spNeedUs CA) := by
  refine F.ok scNu (fun vs H Q E h => ?_) (fun cdv A outer s H vs Q E hr h => ?_)
  · obtain ⟨y, x, zs, i, rfl, _⟩ := h
    rfl
  · obtain ⟨y, x, zs, i, rfl, ha, il, k⟩ := h
    refine ⟨_, pss_one (ps_if (PW.pt (pw_or (pt_not (pt_val (pe_call I.ok (hr.mono (by decide)) rfl I.mgn I.kp I.bn .nil pass0 (pa_cons (pv 1) (pa_cons pe_int pa_nil)))))
        (pw_or1 (pt_cmpR op_ge (pv 1) (pe_prop (pv 0) B.cl PT.pr PT.fn hr PT.bn .nil pass0 (by rfl)) (nomark _))))) pss_never pss_nil), ?_⟩
    obtain ⟨dy, p, hy, hp⟩ := id ha
    refine ⟨_, rfl, .int (i : Int), 0, rfl, ⟨_, .int _⟩, _, rfl, ?_⟩
    rw [show isGe (.int (i : Int)) 0 = true from decide_eq_true (p := (0 : Int) ≤ (i : Int)) (by omega)]
    refine iteF ?_
    refine ⟨_, rfl, _, rfl, y, dy, _, rfl, hy, y, x, zs, rfl, ha, _, _, rfl, rfl, _, rfl, ?_⟩
    rw [decide_eq_false (show ¬ ((zs.length : Int) ≤ (i : Int)) by omega)]
    exact iteF k
abbrev NFg : List Str := ["self", "user"]
theorem scFg : FnScope NFg ["self", "user"] (defScope s_Assignment_flags_of) := ⟨rfl, rfl, rfl, by decide +kernel, rfl, by decide +kernel, by decide +kernel⟩
theorem ok_aflags {f fU fP CF CA : Addr} {mcA : Value} {fd fdU fdP : FuncData} (F : Fun K "flags_of" "Assignment.flags_of" s_Assignment_flags_of f fd) (O : FoC K CF) (B : Ac K mg CA mcA) (DU : Dn P w K mg base CX0 3 "need_user" ["assignment", "user"] (spNeedUs CA) fU fdU) (DP : Dn P w K mg base CX0 1 "path_in" ["above", "place"] spPathIn fP fdP) :
    FnOk P w K mg base CX0 4 f fd ["self", "user"] (spAFlags CF CA) := by
  refine F.ok scFg (fun vs H Q E h => ?_) (fun cdv A outer s H vs Q E hr h => ?_)
  · obtain ⟨y, x, ts, zs, i, z, rfl, _⟩ := h
    rfl
  · obtain ⟨y, x, ts, zs, i, z, rfl, ha, fa, o, hz, pl, k⟩ := h
    refine ⟨_, pss_cons (ps_expr (pe_call DU.ok hr rfl DU.mgn DU.kp DU.bn .nil pass0 (pa_cons (pv 0) (pa_cons (pv 1) pa_nil))))
      (pss_one (ps_ret (pe_call DP.ok (hr.mono (by decide)) rfl DP.mgn DP.kp DP.bn .nil pass0 (pa_cons (pe_fld (pe_fld (pv 0) rfl) rfl) (pa_cons (pe_ix ix_list (pe_fld (pv 0) rfl) (pv 1) (fun _ _ => rfl)) pa_nil))))), ?_⟩
    obtain ⟨dy, p, hy, hp⟩ := id ha
    obtain ⟨dx, dq, hx, hd⟩ := id fa
    refine ⟨_, rfl, _, rfl, y, x, zs, i, rfl, ha, (List.getElem?_eq_some_iff.mp hz).1, ?_⟩
    refine ⟨_, rfl, y, CA, dy, _, .ref x, rfl, hy, B.cl, B.nF, rfl, x, CF, dx, _, .ref dq, rfl, hx, O.cl, O.nA, rfl, ?_⟩
    refine ⟨_, rfl, y, CA, dy, _, .ref p, rfl, hy, B.cl, B.nP, rfl, _, rfl, p, _, _, .str z, rfl, rfl, SqL.of hp, atI_nat (map_at hz), ?_⟩
    exact ⟨dq, ts, z, rfl, .inl hd, o, pl, k⟩
abbrev NSu : List Str := ["one", "other"]
theorem scSu : FnScope NSu ["one", "other"] (defScope s_need_same_users) := ⟨rfl, rfl, rfl, by decide +kernel, rfl, by decide +kernel, by decide +kernel⟩
theorem ok_sameUs {f CA CM IM p1 g1 : Addr} {mcA : Value} {fd fdM fd1 : FuncData} (F : Fun K "need_same_users" "need_same_users" s_need_same_users f fd) (B : Ac K mg CA mcA) (PT : PrN P w K mg base 1 CA "total" (spATotal CA) p1 g1 fd1) (U : Er0 P w K mg base "Mismatch" CM IM fdM) :
    FnOk P w K mg base (L2.CX P w) 3 f fd ["one", "other"] (spSameUs CA CM) := by
  refine F.okX scSu (fun vs H Q E h => ?_) (fun cdv A outer s H vs Q E hr h => ?_)
  · obtain ⟨y1, y2, x1, x2, zs, ws, rfl, _⟩ := h
    rfl
  · obtain ⟨y1, y2, x1, x2, zs, ws, rfl, h1, h2, k⟩ := h
    refine ⟨_, pss_one (ps_if (pt_cmpR op_ne (pe_prop (pv 0) B.cl PT.pr PT.fn hr PT.bn .nil pass0 (by rfl)) (pe_prop (pv 1) B.cl PT.pr PT.fn hr PT.bn .nil pass0 (by rfl)) (nomark _)) (pss_one (ps_err0 U rfl (takes_of rfl rfl rfl rfl) hr rfl)) pss_nil), ?_⟩
    obtain ⟨d1, p1, a1, b1⟩ := id h1
    obtain ⟨d2, p2, a2, b2⟩ := id h2
    refine ⟨_, rfl, y1, d1, _, rfl, a1, y1, x1, zs, rfl, h1, _, rfl, y2, d2, _, rfl, a2, y2, x2, ws, rfl, h2, rfl, _, rfl, ?_⟩
    by_cases e : zs.length = ws.length
    · rw [if_pos e] at k
      rw [decide_eq_true (show V.int (zs.length : Int) = V.int (ws.length : Int) by rw [e])]
      exact iteF (k H Same.refl)
    · rw [if_neg e] at k
      rw [decide_eq_false (show ¬ V.int (zs.length : Int) = V.int (ws.length : Int) from fun z => e (by have := V.int.inj z; omega))]
      show if true = true then _ else _
      rw [if_pos rfl]
      exact out0 k Same.refl
end
end FT


/-! two layers, plain: joint numbers, groups, balance -/
namespace FT
open PySem L2 TL ClX LiI
/-- how many of the users have a flag -/
def numI (ts : List (Str × Str)) (zs : List Str) (us : List Int) (a : Str) : Int := ((us.filter fun u => hasC ts zs a u.toNat).length : Int)
theorem numI_more {ts : List (Str × Str)} {zs : List Str} {us : List Int} {z a : Str} {j i : Nat} (h : us[j]? = some (i : Int)) (hz : zs[i]? = some z) :
    numI ts zs (us.take (j + 1)) a = numI ts zs (us.take j) a + if a ∈ pathOf ts z then 1 else 0 := by
  unfold numI
  have e : hasC ts zs a ((i : Int)).toNat = decide (a ∈ pathOf ts z) := by
    unfold hasC
    rw [show ((i : Int)).toNat = i by omega, hz]
  rw [take_more h, List.filter_append, List.length_append]
  by_cases m : a ∈ pathOf ts z
  · rw [if_pos m, List.filter_cons, if_pos (by rw [e]; exact decide_eq_true m)] <;> rfl
  · rw [if_neg m, List.filter_cons, if_neg (by rw [e, decide_eq_false m]; decide)] <;> rfl
/-- the users with a flag in the first layer and a place in the second -/
def jn (ts : List (Str × Str)) (zs ws : List Str) (a b : Str) : Int := (((zs.zip ws).filter fun p => decide (p.2 = b) && decide (a ∈ pathOf ts p.1)).length : Int)
theorem range_filter {α : Type} (l : List α) (p : Nat → Bool) (q : α → Bool) (h : ∀ i x, l[i]? = some x → p i = q x) : ∀ j, j ≤ l.length → ((List.range j).filter p).length = ((l.take j).filter q).length
  | 0, _ => rfl
  | j + 1, hj => by
    have ih := range_filter l p q h j (by omega)
    have e : l[j]? = some l[j] := List.getElem?_eq_getElem (by omega)
    rw [List.range_succ, List.filter_append, List.length_append, take_more e, List.filter_append, List.length_append, ih, List.filter_cons, List.filter_cons, h j _ e]
    cases q l[j] <;> rfl
theorem zip_at {zs ws : List Str} {i : Nat} {p : Str × Str} (h : (zs.zip ws)[i]? = some p) : zs[i]? = some p.1 ∧ ws[i]? = some p.2 := by
  have := List.getElem?_zip_eq_some.mp h
  exact this
theorem num_jn {ts : List (Str × Str)} {zs ws : List Str} (l : zs.length = ws.length) (a b : Str) : numI ts zs (atU ws b) a = jn ts zs ws a b := by
  unfold numI atU selU jn
  rw [List.filter_map, List.length_map, List.filter_filter]
  have lz : (zs.zip ws).length = ws.length := by rw [List.length_zip]; omega
  have := range_filter (zs.zip ws) (fun i => hasC ts zs a i && atC ws b i) (fun p => decide (p.2 = b) && decide (a ∈ pathOf ts p.1)) (fun i p h => by
    obtain ⟨h1, h2⟩ := zip_at h
    unfold hasC atC
    rw [h1, h2, Bool.and_comm]
    congr 1
    by_cases e : p.2 = b
    · rw [decide_eq_true e, decide_eq_true (by rw [e])]
    · rw [decide_eq_false e, decide_eq_false fun z => e (Option.some.inj z)]) ws.length (by omega)
  rw [← lz, List.take_length] at this
  rw [← this, lz]
  congr 2
theorem users_jn {ts : List (Str × Str)} {zs ws : List Str} (l : zs.length = ws.length) (a b : Str) : (((atU ws b).filter fun u => decide (u ∈ hasU ts zs a)).length : Int) = jn ts zs ws a b := by
  rw [← num_jn l]
  unfold numI
  congr 2
  refine List.filter_congr fun u hu => ?_
  obtain ⟨i, rfl, il, _⟩ := mem_selU.mp hu
  rw [show ((i : Int)).toNat = i by omega]
  by_cases c : hasC ts zs a i = true
  · rw [c, decide_eq_true (show (i : Int) ∈ hasU ts zs a from mem_selU.mpr ⟨i, rfl, by omega, c⟩)]
  · have no : ¬ (i : Int) ∈ hasU ts zs a := fun z => by
      obtain ⟨i', e, _, h⟩ := mem_selU.mp z
      have e' : i = i' := by omega
      subst e'
      exact c h
    rw [decide_eq_false no, Bool.eq_false_iff.mpr c]
/-- a proportion, rounded down or up -/
def rdOk (s h t n : Int) : Bool := decide (s * h / t ≤ n) && decide (n ≤ (s * h + t - 1) / t)
theorem rdOk_iff {s h t n : Int} (t0 : 0 < t) : rdOk s h t n = decide (-t < n * t - s * h ∧ n * t - s * h < t) := by
  unfold rdOk
  rw [Bool.eq_iff_iff, Bool.and_eq_true, decide_eq_true_eq, decide_eq_true_eq, decide_eq_true_eq]
  generalize s * h = g
  have d1 := Int.mul_ediv_add_emod g t
  have m1 := Int.emod_nonneg g (show t ≠ 0 by omega)
  have m2 := Int.emod_lt_of_pos g t0
  have d2 := Int.mul_ediv_add_emod (g + t - 1) t
  have m3 := Int.emod_nonneg (g + t - 1) (show t ≠ 0 by omega)
  have m4 := Int.emod_lt_of_pos (g + t - 1) t0
  constructor
  · rintro ⟨a, b⟩
    have a' := Int.mul_le_mul_of_nonneg_left a (Int.le_of_lt t0)
    have b' := Int.mul_le_mul_of_nonneg_left b (Int.le_of_lt t0)
    rw [Int.mul_comm n t]
    omega
  · rintro ⟨a, b⟩
    rw [Int.mul_comm n t] at a b
    constructor
    · refine Int.le_of_lt_add_one (Int.lt_of_mul_lt_mul_left (a := t) ?_ (Int.le_of_lt t0))
      rw [Int.mul_add, Int.mul_one]
      omega
    · refine Int.le_of_lt_add_one (Int.lt_of_mul_lt_mul_left (a := t) ?_ (Int.le_of_lt t0))
      rw [Int.mul_add, Int.mul_one]
      omega
/-- a group in proportion; all groups -/
def grpOk (ts : List (Str × Str)) (zs : List Str) (us : List Int) : Bool := (ts.map Prod.fst).all fun a => rdOk (szZ ts zs a) (us.length : Int) (zs.length : Int) (numI ts zs us a)
def grps (us : List (Str × Str)) (ws : List Str) : List (List Int) := ((pls us).map (atU ws)).filter fun l => decide (0 < l.length)
def balB (ts us : List (Str × Str)) (zs ws : List Str) : Bool := (grps us ws).all (grpOk ts zs)
/-- lists of users at the addresses rs -/
def RwI (H : Hp) (rs : List Addr) (ls : List (List Int)) : Prop := Paired (fun (r : Addr) (l : List Int) => H r = some (.lst (l.map V.int))) rs ls
theorem RwI.imp {H H' : Hp} (m : ∀ r (l : List Int), H r = some (.lst (l.map V.int)) → H' r = some (.lst (l.map V.int))) : ∀ {rs : List Addr} {ls : List (List Int)}, RwI H rs ls → RwI H' rs ls
  | _, _, .nil => .nil
  | _, _, .cons h t => .cons (m _ _ h) (RwI.imp m t)
theorem RwI.mono {H H' : Hp} {rs : List Addr} {ls : List (List Int)} (s : Same H H') (p : RwI H rs ls) : RwI H' rs ls := p.imp fun r a e => s _ _ e
theorem RwI.off {H : Hp} {D : Addr} {o : HO} {rs : List Addr} {ls : List (List Int)} (n : D ∉ rs) (p : RwI H rs ls) : RwI (upd H D o) rs ls := by
  induction p with
  | nil => exact .nil
  | cons h t ih =>
    refine .cons ?_ (ih fun hm => n (List.mem_cons_of_mem _ hm))
    rw [upd_ne fun e => n (by rw [← e]; exact List.mem_cons_self ..)]
    exact h
theorem RwI.snoc {H : Hp} {r : Addr} {l : List Int} (h : H r = some (.lst (l.map V.int))) : ∀ {rs : List Addr} {ls : List (List Int)}, RwI H rs ls → RwI H (rs ++ [r]) (ls ++ [l])
  | _, _, .nil => .cons h .nil
  | _, _, .cons q t => .cons q (RwI.snoc h t)
theorem RwI.len {H : Hp} : ∀ {rs : List Addr} {ls : List (List Int)}, RwI H rs ls → rs.length = ls.length
  | _, _, .nil => rfl
  | _, _, .cons _ t => congrArg (· + 1) (RwI.len t)
theorem RwI.at_ {H : Hp} {rs : List Addr} {ls : List (List Int)} (p : RwI H rs ls) {i : Nat} {r : Addr} (h : rs[i]? = some r) : ∃ l, ls[i]? = some l ∧ H r = some (.lst (l.map V.int)) := LiI.paired_get p h
theorem RwI.mem {H : Hp} {rs : List Addr} {ls : List (List Int)} (p : RwI H rs ls) {r : Addr} (h : r ∈ rs) : ∃ l, H r = some (.lst (List.map V.int l)) := by
  obtain ⟨i, hi⟩ := List.mem_iff_getElem?.mp h
  obtain ⟨l, _, e⟩ := p.at_ hi
  exact ⟨l, e⟩
theorem refs_ne {rs : List Addr} {l : List Int} {r0 : Addr} {H : Hp} (h1 : H r0 = some (.lst (rs.map V.ref))) (h2 : H r0 = some (.lst (l.map V.int))) : rs = [] := by
  rw [h1] at h2
  have e := HO.lst.inj (Option.some.inj h2)
  cases rs with
  | nil => rfl
  | cons r t => cases l <;> cases e
end FT


/-! two layers: roundings, numbers_in, groups_of, joint, is_balanced -/
namespace FT
open PySem L2 TL ClX LiI
def spRound : Sp := fun vs H Q _ => ∃ (s h t : Int), vs = [.int s, .int h, .int t] ∧ 0 ≤ h ∧ h ≤ 1000 ∧ 0 < t ∧ t ≤ 1000 ∧
  ∀ (p : Addr) (H' : Hp), Same H H' → H p = none → H' p = some (.tup [.int (s * h / t), .int ((s * h + t - 1) / t)]) → Q (.ref p) H'
def spNumIn (CF CA : Addr) : Sp := fun vs H Q _ => ∃ (y x g : Addr) (ts : List (Str × Str)) (zs : List Str) (us : List Int), vs = [.ref y, .ref g] ∧ AAt CA H y x zs ∧ FAt CF H x ts ∧ TreeOk ts ∧ (∀ z ∈ zs, Pl ts z) ∧ H g = some (.lst (us.map V.int)) ∧ (∀ u ∈ us, ∃ i : Nat, u = (i : Int) ∧ i < zs.length) ∧
  ∀ (p : Addr) (H' : Hp), Same H H' → H p = none → H' p = some (.dK (tblI (ts.map Prod.fst) (numI ts zs us))) → Q (.ref p) H'
def spGroups (CF CA : Addr) : Sp := fun vs H Q _ => ∃ (y x : Addr) (ts : List (Str × Str)) (zs : List Str), vs = [.ref y] ∧ AAt CA H y x zs ∧ FAt CF H x ts ∧ TreeOk ts ∧ zs.length ≤ 1000 ∧
  ∀ (p : Addr) (rs : List Addr) (H' : Hp), Same H H' → H p = none → H' p = some (.lst (rs.map V.ref)) → RwI H' rs (grps ts zs) → Q (.ref p) H'
section
variable {P : Program} {w : World} {K : PySem.W.Frag} {mg : Str → Option Value} {base : Heap}
abbrev NRo : List Str := ["size", "here", "total"]
theorem scRo : FnScope NRo ["size", "here", "total"] (defScope s_roundings) := ⟨rfl, rfl, rfl, by decide +kernel, rfl, by decide +kernel, by decide +kernel⟩
theorem ok_round {f : Addr} {fd : FuncData} (F : Fun K "roundings" "roundings" s_roundings f fd) : FnOk P w K mg base CX0 1 f fd ["size", "here", "total"] spRound := by
  refine F.ok scRo (fun vs H Q E h => ?_) (fun cdv A outer s H vs Q E hr h => ?_)
  · obtain ⟨a, b, c, rfl, _⟩ := h
    rfl
  · obtain ⟨a, b, c, rfl, h0, h1, t0, t1, k⟩ := h
    have big : 1000 ≤ sizeLine := by decide
    refine ⟨_, pss_one (ps_ret (pe_tup (pa_cons (pe_op op_fdiv (pe_op op_mul (pv 0) (pv 1)) (pv 2)) (pa_cons (pe_op op_fdiv (pe_op op_sub (pe_op op_add (pe_op op_mul (pv 0) (pv 1)) (pv 2)) pe_int) (pv 2)) pa_nil)))), ?_⟩
    refine ⟨_, rfl, _, rfl, _, _, rfl, rfl, .inr ⟨by omega, by omega⟩, _, rfl, _, _, rfl, rfl, ⟨t0, by omega⟩, ?_⟩
    refine ⟨_, rfl, _, rfl, _, _, rfl, rfl, .inr ⟨by omega, by omega⟩, _, rfl, _, _, rfl, rfl, _, _, rfl, rfl, _, rfl, _, _, rfl, rfl, ⟨t0, by omega⟩, ?_⟩
    exact ⟨by show 2 ≤ sizeLine; omega, fun p np => k p _ (same_new np) np upd_same⟩
abbrev NNi : List Str := ["one", "group", "flag", "found", "user"]
theorem scNi : FnScope NNi ["one", "group"] (defScope s_numbers_in) := ⟨rfl, rfl, rfl, by decide +kernel, rfl, by decide +kernel, by decide +kernel⟩
theorem ok_numIn {f CF CA p1 g1 p2 g2 aF : Addr} {mcA : Value} {fd fd1 fd2 dF : FuncData} (F : Fun K "numbers_in" "numbers_in" s_numbers_in f fd) (O : FoC K CF) (B : Ac K mg CA mcA) (L1 : Pr1 P w K mg base CF "flags" (spFFlags CF) p1 g1 fd1) (PF : PrN P w K mg base 1 CA "forest" (spAForest CA) p2 g2 fd2) (MF : Mt P w K mg base CX0 4 CA "flags_of" ["self", "user"] (spAFlags CF CA) aF dF) :
    FnOk P w K mg base CX0 5 f fd ["one", "group"] (spNumIn CF CA) := by
  refine F.ok scNi (fun vs H Q E h => ?_) (fun cdv A outer s H vs Q E hr h => ?_)
  · obtain ⟨y, x, g, ts, zs, us, rfl, _⟩ := h
    rfl
  · obtain ⟨y, x, g, ts, zs, us, rfl, ha, fa, o, pl, hg, hu0, k⟩ := h
    have hu := hu_of hr
    have nd := scNi.nd
    have hr1 : Room 1 _ := hr.mono (by decide)
    have hr2 : Room 2 _ := hr.mono (by decide)
    have big : 1000 ≤ sizeLine := by decide
    have few := o.few
    refine ⟨_, pss_cons (ps_setDc (i := 3) (own := [("flag", 2)]) (g := gName 2) (tt := tYes) rfl nd rfl rfl (swd_true rfl rfl rfl (by decide +kernel)) (pi_list (pe_prop (pe_prop (pv 0) B.cl PF.pr PF.fn hr2 PF.bn .nil pass0 (by rfl)) O.cl L1.pr L1.fn hr2 L1.bn .nil pass0 (by rfl)))
          (blkOk_by (N := NNi) (sc := defScope s_numbers_in) (by decide +kernel)) (fun _ _ _ _ _ => pg_name (i := 2) nd rfl (Or.inl rfl)) (fun _ _ _ _ _ => pts_nil) (fun _ _ _ _ _ => pv 2) (fun _ _ _ _ _ => pe_int))
      (pss_cons (ps_for PassesOwn.never rfl (pi_list (pv 1)) (pg_name (i := 4) nd rfl (.inl rfl))
        (pss_one (ps_for PassesOwn.never rfl (pi_tup (pe_meth (pv 0) B.cl MF.mt MF.fn hr MF.bn .nil pass0 (pa_cons (pv 4) pa_nil))) (pg_name (i := 2) nd rfl (.inl rfl))
          (pss_one (ps_dput hu (pv 3) (pv 2) (pe_op op_add (pe_dget hu (pv 3) (pv 2) (fun _ _ => rfl)) pe_int) rfl)))))
      (pss_one (ps_ret (pv 3)))), ?_⟩
    obtain ⟨dy, p, hy, hp⟩ := id ha
    obtain ⟨dx, dq, hx, hd⟩ := id fa
    refine ⟨_, rfl, y, dy, _, rfl, hy, y, x, zs, rfl, ha, x, dx, _, rfl, hx, x, ts, rfl, fa, fun pf nf => ⟨pf, rfl, ⟨_, SqL.of upd_same⟩, fun D nD => ?_⟩⟩
    obtain ⟨H1, e1⟩ : ∃ X, X = upd H pf (.lst ((ts.map Prod.fst).map V.str)) := ⟨_, rfl⟩
    have s1 : Same H H1 := e1 ▸ same_new nf
    have a1 : H1 pf = some (.lst ((ts.map Prod.fst).map V.str)) := by rw [e1]; exact upd_same
    rw [← e1] at nD ⊢
    refine dc_it walk_list (fun i H' => Same H1 H' ∧ H' D = some (.dK (tblI ((ts.map Prod.fst).take i) fun _ => 0))) ⟨same_new nD, upd_same⟩ (fun i H' _ z => SqL.of (z.1 _ _ a1)) ?_ ?_
    · intro i y2 Hz Ha hi ⟨z1, z2⟩ ⟨eb, ex⟩
      subst eb
      obtain ⟨a, ha', rfl⟩ := map_of ex
      have fresh : a ∉ (ts.map Prod.fst).take i := nat_fresh o.nd ha'
      refine ⟨rfl, ?_⟩
      refine ⟨_, rfl, _, Sum.inr a, rfl, z2, ?_, Same.put z1 nD, ?_⟩
      · rw [tblI_len, List.length_take, List.length_map]
        omega
      · rw [upd_same, tblI_snoc fresh rfl, take_more ha']
    intro H3 ⟨z1, z2⟩
    rw [List.length_map, List.take_length] at z2
    have s03 : Same H H3 := s1.trans z1
    have np0 : H D = none := s1.free nD
    have hp3 : H3 D = some (.dK (tblI (ts.map Prod.fst) (numI ts zs []))) := by rw [z2] <;> rfl
    refine ⟨_, rfl, g, rfl, ⟨_, SqL.of (s03 _ _ hg)⟩, ?_⟩
    refine for_it walk_list (fun j σ' H' => (∃ u2 u4, σ' = [some (.ref y), some (.ref g), u2, some (.ref D), u4]) ∧ Same H H' ∧ H' D = some (.dK (tblI (ts.map Prod.fst) (numI ts zs (us.take j))))) ⟨⟨_, _, rfl⟩, s03, by rw [List.take_zero]; exact hp3⟩ (fun j σ' H' _ z => SqL.of (z.2.1 _ _ hg)) ?_ ?_
    · intro j y2 σ' Hz Ha hj ⟨⟨u2, u4, e⟩, sa, hpd⟩ ⟨eb, ex⟩
      subst e
      subst eb
      obtain ⟨u, hu1, rfl⟩ := map_of ex
      obtain ⟨i, rfl, il⟩ := hu0 u (List.mem_of_getElem? hu1)
      have hz : zs[i]? = some zs[i] := List.getElem?_eq_getElem il
      obtain ⟨z, ez⟩ : ∃ z, z = zs[i] := ⟨_, rfl⟩
      rw [← ez] at hz
      have mz := pl z (List.mem_of_getElem? hz)
      refine ⟨_, rfl, y, dy, _, rfl, sa _ _ hy, rfl, _, rfl, y, x, ts, zs, i, z, rfl, ha.mono sa, fa.mono sa, o, hz, mz, fun pt H4 s4 npt hpt => ?_⟩
      have pdt : D ≠ pt := ne_of_none hpd npt
      refine ⟨pt, rfl, ⟨_, .inl (.inl hpt)⟩, ?_⟩
      have nodup := path_nd o mz
      refine for_it walk_tup (fun i' σ' H' => (∃ u2, σ' = [some (.ref y), some (.ref g), u2, some (.ref D), some (.int (i : Int))]) ∧ Same H H' ∧ H' pt = some (.tup ((pathOf ts z).map V.str)) ∧ H' D = some (.dK (tblI (ts.map Prod.fst) fun a => numI ts zs (us.take j) a + if a ∈ (pathOf ts z).take i' then 1 else 0)))
        ⟨⟨_, rfl⟩, sa.trans s4, hpt, by rw [s4 _ _ hpd]; congr 2⟩ (fun i' σ' H' _ w => .inl (.inl w.2.2.1)) ?_ ?_
      · intro i' y3 σ2 Hy Hb hi ⟨⟨u2', e⟩, sb, hpt', hpd'⟩ ⟨eb, ex⟩
        subst e
        subst eb
        obtain ⟨b, hb, rfl⟩ := map_of ex
        have mb := path_all o mz b (List.mem_of_getElem? hb)
        have nb := nat_fresh nodup hb
        have dg : DGet Hb D (.str b) (some (.int (numI ts zs (us.take j) b + 0))) := by
          have w := DGet.k (k := Sum.inr b) hpd'
          rw [tblI_val mb, if_neg nb] at w
          exact w
        refine ⟨_, rfl, _, rfl, D, _, rfl, dg, _, _, rfl, rfl, _, rfl, _, rfl, D, _, rfl, DPut.k (k := Sum.inr b) hpd' (by rw [tblI_len, List.length_map]; omega), ?_⟩
        rw [tblI_put mb]
        refine ⟨⟨_, rfl⟩, sb.put np0, by rw [upd_ne pdt.symm]; exact hpt', ?_⟩
        rw [upd_same, take_more hb]
        congr 2
        refine tblI_congr fun a _ => ?_
        by_cases w : a = b
        · rw [if_pos w, w, if_pos (List.mem_append_right _ (List.mem_singleton_self _)), Int.add_zero]
        · rw [if_neg w]
          by_cases m : a ∈ (pathOf ts z).take i'
          · rw [if_pos m, if_pos (List.mem_append_left _ m)]
          · rw [if_neg m, if_neg fun h => (List.mem_append.mp h).elim m fun h => w (List.mem_singleton.mp h)]
      · intro σ2 Hb ⟨⟨u2', e⟩, sb, hpt', hpd'⟩
        subst e
        rw [List.length_map, List.take_length] at hpd'
        refine ⟨⟨_, _, rfl⟩, sb, ?_⟩
        rw [hpd']
        congr 2
        exact tblI_congr fun a _ => (numI_more hu1 hz).symm
    · intro σ' H4 ⟨⟨u2, u4, e⟩, sa, hpd⟩
      subst e
      rw [List.length_map, List.take_length] at hpd
      exact ⟨_, rfl, k D H4 sa np0 hpd⟩
abbrev NGr : List Str := ["other", "groups", "place", "group"]
theorem scGr : FnScope NGr ["other"] (defScope s_groups_of) := ⟨rfl, rfl, rfl, by decide +kernel, rfl, by decide +kernel, by decide +kernel⟩
theorem ok_groups {f fP CF CA p2 g2 aA : Addr} {mcA : Value} {fd fdP fd2 dA : FuncData} (F : Fun K "groups_of" "groups_of" s_groups_of f fd) (T : Nm mg) (B : Ac K mg CA mcA) (PF : PrN P w K mg base 1 CA "forest" (spAForest CA) p2 g2 fd2) (DP : Dn P w K mg base CX0 3 "places_of" ["forest"] (spPlacesOf CF) fP fdP)
    (MA : Mt P w K mg base CX0 2 CA "at" ["self", "place"] (spAAt CF CA) aA dA) :
    FnOk P w K mg base CX0 4 f fd ["other"] (spGroups CF CA) := by
  refine F.ok scGr (fun vs H Q E h => ?_) (fun cdv A outer s H vs Q E hr h => ?_)
  · obtain ⟨y, x, ts, zs, rfl, _⟩ := h
    rfl
  · obtain ⟨y, x, ts, zs, rfl, ha, fa, o, l1000, k⟩ := h
    have nd := scGr.nd
    have hr2 : Room 2 _ := hr.mono (by decide)
    have hr3 : Room 3 _ := hr.mono (by decide)
    have big : 1000 ≤ sizeLine := by decide
    have few := o.few
    refine ⟨_, pss_cons (ps_setLc (i := 1) (own := [("place", 2)]) (g := gName 2) (tt := tYes) rfl nd rfl rfl (sw_true rfl rfl rfl (by decide +kernel)) (pi_list (pe_call DP.ok hr3 rfl DP.mgn DP.kp DP.bn .nil pass0 (pa_cons (pe_prop (pv 0) B.cl PF.pr PF.fn hr2 PF.bn .nil pass0 (by rfl)) pa_nil)))
          (blkOk_by (N := NGr) (sc := defScope s_groups_of) (by decide +kernel)) (fun _ _ _ _ _ => pg_name (i := 2) nd rfl (Or.inl rfl)) (fun _ _ _ _ _ => pts_nil) (fun _ _ _ _ _ => pe_meth (pv 0) B.cl MA.mt MA.fn hr2 MA.bn .nil pass0 (pa_cons (pv 2) pa_nil)))
      (pss_one (ps_ret (pe_lc (own := [("group", 3)]) (g := gName 3) (tt := tTest (tOp (rI0 fun i j => .bl (decide (j < i))) (tCB (rLen K) (tCons (tVar 3) tNil)) (tC (.int 0)))) (te := tVar 3) rfl nd (pi_list (pv 1)) (blkOk_by (N := NGr) (sc := defScope s_groups_of) (by decide +kernel))
          (fun _ _ _ _ _ => pg_name (i := 3) nd rfl (Or.inl rfl)) (fun _ _ _ _ _ => pts_one (pt_cmpR op_gt (pe_callB call_len (by rfl) T.len PySem.boot_len (pa_cons (pv 3) pa_nil)) pe_int (nomark _))) (fun _ _ _ _ _ => pv 3)))), ?_⟩
    obtain ⟨dy, p, hy, hp⟩ := id ha
    refine ⟨_, rfl, y, dy, _, rfl, hy, y, x, zs, rfl, ha, x, ts, rfl, fa, few, fun pp H1 s1 npp hpp => ⟨pp, rfl, ⟨_, SqL.of hpp⟩, fun D nD => ?_⟩⟩
    refine lc_it walk_list (fun i H' => Same H1 H' ∧ ∃ rs : List Addr, H' D = some (.lst (rs.map V.ref)) ∧ RwI H' rs (((pls ts).take i).map (atU zs))) ⟨same_new nD, [], upd_same, .nil⟩ (fun i H' _ z => SqL.of (z.1 _ _ hpp)) ?_ ?_
    · intro i y2 Hz Ha hi ⟨z1, rs, hD, rw1⟩ ⟨eb, ex⟩
      subst eb
      obtain ⟨b, hb, rfl⟩ := map_of ex
      have mb : Pl ts b := mem_pls.mp (List.mem_of_getElem? hb)
      have lr := rw1.len
      rw [List.length_map, List.length_take] at lr
      have i13 : (pls ts).length ≤ 13 := by rw [pls_len]; omega
      refine ⟨rfl, ?_⟩
      have sa := s1.trans z1
      refine ⟨_, rfl, y, dy, _, rfl, sa _ _ hy, rfl, _, rfl, y, x, ts, zs, b, rfl, ha.mono sa, fa.mono sa, o, l1000, mb, fun r H4 s4 nr hrr => ?_⟩
      have nDr : D ∉ rs := fun hm => by
        obtain ⟨l, el⟩ := rw1.mem hm
        rw [refs_ne hD el] at hm
        exact nomatch hm
      refine ⟨_, s4 _ _ hD, by rw [List.length_map]; omega, (z1.trans s4).put nD, rs ++ [r], by rw [upd_same, List.map_append] <;> rfl, ?_⟩
      rw [take_more (show (pls ts)[i]? = some b from hb), List.map_append]
      have nrD : r ≠ D := (ne_of_none hD nr).symm
      exact RwI.snoc (by rw [upd_ne nrD]; exact hrr) ((rw1.mono s4).off nDr)
    intro H2 ⟨z1, rs, hD, rw1⟩
    rw [List.length_map] at rw1
    rw [show (("" : Str) :: ts.map Prod.fst) = pls ts from rfl, List.take_length] at rw1
    have s2 := s1.trans z1
    have lr := rw1.len
    rw [List.length_map, pls_len] at lr
    refine ⟨_, rfl, D, rfl, ⟨_, SqL.of hD⟩, fun D2 nD2 => ?_⟩
    refine lc_it walk_list (fun i H' => Same H2 H' ∧ ∃ rs2 : List Addr, H' D2 = some (.lst (rs2.map V.ref)) ∧ rs2.length ≤ i ∧ RwI H' rs2 ((((pls ts).map (atU zs)).take i).filter fun l => decide (0 < l.length))) ⟨same_new nD2, [], upd_same, Nat.le_refl _, by rw [List.take_zero]; exact .nil⟩ (fun i H' _ z => SqL.of (z.1 _ _ hD)) ?_ ?_
    · intro i y2 Hz Ha hi ⟨z3, rs2, hD2, l2, rw2⟩ ⟨eb, ex⟩
      subst eb
      obtain ⟨r, hr1, rfl⟩ := map_of ex
      rw [List.length_map] at hi
      obtain ⟨l, hl, hrl⟩ := rw1.at_ hr1
      have hrl' := z3 _ _ hrl
      refine ⟨rfl, ?_⟩
      refine ⟨_, rfl, _, _, rfl, .inl ⟨_, SqL.of hrl', rfl⟩, _, _, rfl, rfl, _, rfl, ?_⟩
      rw [take_more hl, List.filter_append, List.filter_cons, List.length_map]
      by_cases c : 0 < l.length
      · rw [decide_eq_true (show (0 : Int) < (l.length : Int) by omega), decide_eq_true c, if_pos rfl]
        show if true = true then _ else _
        rw [if_pos rfl]
        have nDr : D2 ∉ rs2 := fun hm => by
          obtain ⟨l, el⟩ := rw2.mem hm
          rw [refs_ne hD2 el] at hm
          exact nomatch hm
        have nrD : r ≠ D2 := ne_of_none hrl nD2
        refine ⟨_, rfl, _, hD2, by rw [List.length_map]; omega, z3.put nD2, rs2 ++ [r], by rw [upd_same, List.map_append] <;> rfl, by rw [List.length_append]; show _ + 1 ≤ _; omega, ?_⟩
        exact RwI.snoc (by rw [upd_ne nrD]; exact hrl') (rw2.off nDr)
      · rw [decide_eq_false (show ¬ (0 : Int) < (l.length : Int) by omega), decide_eq_false c, if_neg (by decide), List.filter_nil, List.append_nil]
        refine iteF ?_
        exact ⟨z3, rs2, hD2, by omega, rw2⟩
    · intro H3 ⟨z3, rs2, hD2, l2, rw2⟩
      rw [List.length_map] at rw2
      rw [show rs.length = ((pls ts).map (atU zs)).length by rw [List.length_map, pls_len]; exact lr, List.take_length] at rw2
      exact k D2 rs2 H3 (s2.trans z3) (s2.free nD2) hD2 rw2
end
end FT


/-! two layers: joint, is_balanced -/
namespace FT
open PySem L2 TL ClX LiI
theorem inV_intL (x : Int) : ∀ fs : List Int, inV (.int x) (fs.map V.int) = decide (x ∈ fs)
  | [] => rfl
  | y :: fs => by
    show (eqV (.int y) (.int x) || inV (.int x) (fs.map V.int)) = _
    rw [inV_intL x fs]
    have e : eqV (.int y) (.int x) = decide (x = y) := by
      show (y == x) = decide (x = y)
      rw [Bool.eq_iff_iff, beq_iff_eq, decide_eq_true_eq]
      exact eq_comm
    rw [e, Bool.eq_iff_iff]
    simp only [Bool.or_eq_true, decide_eq_true_eq, List.mem_cons]
theorem flat_intL : ∀ fs : List Int, (fs.map V.int).all flatV = true
  | [] => rfl
  | _ :: fs => flat_intL fs
/-- the error of joint -/
def jnE (CM CN : Addr) (ts us : List (Str × Str)) (n m : Nat) (nv pv : V) : Option Err := if n = m then (if flagV ts nv = true then nmE CN (placeV us pv) pv else some (.e1 CN "name" nv)) else some (.e0 CM)
def spJoint (K : PySem.W.Frag) (CF CA CM CN : Addr) : Sp := fun vs H Q E => ∃ (y1 y2 x1 x2 : Addr) (ts us : List (Str × Str)) (zs ws : List Str) (nv pv : V), vs = [.ref y1, .ref y2, nv, pv] ∧ AAt CA H y1 x1 zs ∧ AAt CA H y2 x2 ws ∧ FAt CF H x1 ts ∧ FAt CF H x2 us ∧ TreeOk ts ∧ TreeOk us ∧ (∀ z ∈ zs, Pl ts z) ∧ zs.length ≤ 1000 ∧ ws.length ≤ 1000 ∧ IsDat K H nv ∧ IsDat K H pv ∧
  match jnE CM CN ts us zs.length ws.length nv pv with
  | none => ∀ H', Same H H' → Q (.int (jn ts zs ws (strV nv) (strV pv))) H'
  | some e => Out H E e
def spBal (CF CA CM : Addr) : Sp := fun vs H Q E => ∃ (y1 y2 x1 x2 : Addr) (ts us : List (Str × Str)) (zs ws : List Str), vs = [.ref y1, .ref y2] ∧ AAt CA H y1 x1 zs ∧ AAt CA H y2 x2 ws ∧ FAt CF H x1 ts ∧ FAt CF H x2 us ∧ TreeOk ts ∧ TreeOk us ∧ (∀ z ∈ zs, Pl ts z) ∧ 1 ≤ zs.length ∧ zs.length ≤ 1000 ∧ ws.length ≤ 1000 ∧
  ((zs.length ≠ ws.length ∧ Out H E (.e0 CM)) ∨ (zs.length = ws.length ∧ ∀ H', Same H H' → Q (.bl (balB ts us zs ws)) H'))
theorem mem_grps {us : List (Str × Str)} {ws : List Str} {l : List Int} (h : l ∈ grps us ws) : ∃ b, l = atU ws b ∧ Pl us b := by
  obtain ⟨h1, _⟩ := List.mem_filter.mp h
  obtain ⟨b, hb, rfl⟩ := List.mem_map.mp h1
  exact ⟨b, rfl, mem_pls.mp hb⟩
section
variable {P : Program} {w : World} {K : PySem.W.Frag} {mg : Str → Option Value} {base : Heap}
abbrev NJo : List Str := ["one", "other", "name", "place", "having", "user"]
theorem scJo : FnScope NJo ["one", "other", "name", "place"] (defScope s_joint) := ⟨rfl, rfl, rfl, by decide +kernel, rfl, by decide +kernel, by decide +kernel⟩
theorem ok_joint {f fS CF CA CM CN aU aA : Addr} {mcA : Value} {fd fdS dU dA : FuncData} (F : Fun K "joint" "joint" s_joint f fd) (T : Nm mg) (B : Ac K mg CA mcA) (DS : Dn P w K mg base (L2.CX P w) 3 "need_same_users" ["one", "other"] (spSameUs CA CM) fS fdS)
    (MU : Mt P w K mg base (L2.CX P w) 4 CA "users_of" ["self", "name"] (spAUsersE K CF CA CN) aU dU) (MA : Mt P w K mg base (L2.CX P w) 4 CA "at" ["self", "place"] (spAAtE K CF CA CN) aA dA) :
    FnOk P w K mg base (L2.CX P w) 5 f fd ["one", "other", "name", "place"] (spJoint K CF CA CM CN) := by
  refine F.okX scJo (fun vs H Q E h => ?_) (fun cdv A outer s H vs Q E hr h => ?_)
  · obtain ⟨y1, y2, x1, x2, ts, us, zs, ws, nv, pv, rfl, _⟩ := h
    rfl
  · obtain ⟨y1, y2, x1, x2, ts, us, zs, ws, nv, pv0, rfl, h1, h2, fa, fb, o1, o2, pl, lz, lw, dn, dp, k⟩ := h
    have nd := scJo.nd
    have hr3 : Room 3 _ := hr.mono (by decide)
    have big : 2000 ≤ sizeLine := by decide
    refine ⟨_, pss_cons (ps_expr (pe_call DS.ok hr3 rfl DS.mgn DS.kp DS.bn .nil (passes_call (takes_of rfl rfl rfl rfl) (fun _ _ _ _ h => h)) (pa_cons (pv 0) (pa_cons (pv 1) pa_nil))))
      (pss_cons (ps_set (i := 4) nd rfl (.inr rfl) (pe_meth (pv 0) B.cl MU.mt MU.fn hr MU.bn .nil (passes_call (takes_of rfl rfl rfl rfl) (fun _ _ _ _ h => h)) (pa_cons (pv 2) pa_nil)))
      (pss_one (ps_ret (pe_callB call_len (by rfl) T.len PySem.boot_len (pa_cons (pe_lc (own := [("user", 5)]) (g := gName 5) (tt := tTest (tOp (rIn K false) (tVar 5) (tVar 4))) (te := tVar 5) rfl nd (pi_list (pe_meth (pv 1) B.cl MA.mt MA.fn hr MA.bn .nil (passes_call (takes_of rfl rfl rfl rfl) (fun _ _ _ _ h => h)) (pa_cons (pv 3) pa_nil)))
          (blkOk_by (N := NJo) (sc := defScope s_joint) (by decide +kernel)) (fun _ _ _ _ _ => pg_name (i := 5) nd rfl (Or.inl rfl)) (fun _ _ _ _ _ => pts_one (pt_cmpR op_in_seq (pv 5) (pv 4) rfl)) (fun _ _ _ _ _ => pv 5)) pa_nil))))), ?_⟩
    obtain ⟨d1, p1, a1, b1⟩ := id h1
    obtain ⟨d2, p2, a2, b2⟩ := id h2
    refine ⟨_, rfl, _, rfl, y1, y2, x1, x2, zs, ws, rfl, h1, h2, ?_⟩
    by_cases el : zs.length = ws.length
    · rw [if_pos el]
      unfold jnE at k
      rw [if_pos el] at k
      intro H1 s1
      refine ⟨_, rfl, y1, d1, _, rfl, s1 _ _ a1, rfl, _, rfl, y1, x1, ts, zs, nv, rfl, h1.mono s1, fa.mono s1, o1, pl, lz, dn.mono s1, ?_⟩
      cases ok : flagV ts nv with
      | false =>
        rw [ok] at k
        exact Out.mono s1 k
      | true =>
        rw [ok, if_pos rfl] at k
        intro hv H2 s2 nhv hhv
        have s02 := s1.trans s2
        refine ⟨_, rfl, y2, d2, _, rfl, s02 _ _ a2, rfl, _, rfl, y2, x2, us, ws, pv0, rfl, h2.mono s02, fb.mono s02, o2, lw, dp.mono s02, ?_⟩
        cases okp : placeV us pv0 with
        | false =>
          rw [nmE_f okp] at k
          exact Out.mono s02 k
        | true =>
          rw [nmE_t okp] at k
          intro la H3 s3 nla hla
          refine ⟨la, rfl, ⟨_, SqL.of hla⟩, fun D nD => ?_⟩
          have hhv3 := s3 _ _ hhv
          refine lc_it walk_list (fun i H' => Same H3 H' ∧ H' D = some (.lst (((((atU ws (strV pv0)).take i).filter fun u => decide (u ∈ hasU ts zs (strV nv)))).map V.int))) ⟨same_new nD, upd_same⟩ (fun i H' _ z => SqL.of (z.1 _ _ hla)) ?_ ?_
          · intro i y Hz Ha hi ⟨z1, hD⟩ ⟨eb, ex⟩
            subst eb
            obtain ⟨u, hu1, rfl⟩ := map_of ex
            refine ⟨rfl, ?_⟩
            refine ⟨_, rfl, _, rfl, hv, _, rfl, .inl (SqL.of (z1 _ _ hhv3)), rfl, flat_intL _, _, rfl, ?_⟩
            rw [show (if false = true then !inV (V.int u) ((hasU ts zs (strV nv)).map V.int) else inV (V.int u) ((hasU ts zs (strV nv)).map V.int)) = decide (u ∈ hasU ts zs (strV nv)) from inV_intL u _]
            rw [take_more hu1, List.filter_append, List.filter_cons]
            by_cases c : u ∈ hasU ts zs (strV nv)
            · rw [decide_eq_true c, if_pos rfl]
              show if true = true then _ else _
              rw [if_pos rfl]
              have ll : (((atU ws (strV pv0)).take i).filter fun u => decide (u ∈ hasU ts zs (strV nv))).length ≤ 1000 := by
                have l1 := List.length_filter_le (fun u => decide (u ∈ hasU ts zs (strV nv))) ((atU ws (strV pv0)).take i)
                have l2 := selU_len ws.length (atC ws (strV pv0))
                rw [List.length_take] at l1
                have l3 : (atU ws (strV pv0)).length ≤ ws.length := l2
                omega
              refine ⟨_, rfl, _, hD, by rw [List.length_map]; omega, z1.put nD, ?_⟩
              rw [upd_same, List.map_append] <;> rfl
            · rw [decide_eq_false c, if_neg (by decide), List.filter_nil, List.append_nil]
              exact iteF ⟨z1, hD⟩
          · intro H4 ⟨z1, hD⟩
            rw [List.length_map, List.take_length] at hD
            refine ⟨_, _, rfl, .inl ⟨_, SqL.of hD, rfl⟩, ?_⟩
            rw [List.length_map, users_jn el]
            exact k H4 ((s02.trans s3).trans z1)
    · rw [if_neg el]
      unfold jnE at k
      rw [if_neg el] at k
      exact k
abbrev NBl : List Str := ["one", "other", "sizes", "group", "numbers", "flag", "low", "high"]
theorem scBl : FnScope NBl ["one", "other"] (defScope s_is_balanced) := ⟨rfl, rfl, rfl, by decide +kernel, rfl, by decide +kernel, by decide +kernel⟩
theorem ok_bal {f fS fG fN fR CF CA CM p1 g1 p2 g2 p3 g3 p4 g4 : Addr} {mcA : Value} {fd fdS fdG fdN fdR fd1 fd2 fd3 fd4 : FuncData} (F : Fun K "is_balanced" "is_balanced" s_is_balanced f fd) (T : Nm mg) (O : FoC K CF) (B : Ac K mg CA mcA) (DS : Dn P w K mg base (L2.CX P w) 3 "need_same_users" ["one", "other"] (spSameUs CA CM) fS fdS)
    (DG : Dn P w K mg base CX0 4 "groups_of" ["other"] (spGroups CF CA) fG fdG) (DN : Dn P w K mg base CX0 5 "numbers_in" ["one", "group"] (spNumIn CF CA) fN fdN) (DR : Dn P w K mg base CX0 1 "roundings" ["size", "here", "total"] spRound fR fdR)
    (L1 : Pr1 P w K mg base CF "flags" (spFFlags CF) p1 g1 fd1) (PF : PrN P w K mg base 1 CA "forest" (spAForest CA) p2 g2 fd2) (PT : PrN P w K mg base 1 CA "total" (spATotal CA) p3 g3 fd3) (PS : PrN P w K mg base 4 CA "sizes" (spASizes CF CA) p4 g4 fd4) :
    FnOk P w K mg base (L2.CX P w) 6 f fd ["one", "other"] (spBal CF CA CM) := by
  refine F.okX scBl (fun vs H Q E h => ?_) (fun cdv A outer s H vs Q E hr h => ?_)
  · obtain ⟨y1, y2, x1, x2, ts, us, zs, ws, rfl, _⟩ := h
    rfl
  · obtain ⟨y1, y2, x1, x2, ts, us, zs, ws, rfl, h1, h2, fa, fb, o1, o2, pl, l1, lz, lw, k⟩ := h
    have nd := scBl.nd
    have hu := hu_of hr
    have hr1 : Room 1 _ := hr.mono (by decide)
    have hr2 : Room 2 _ := hr.mono (by decide)
    have hr3 : Room 3 _ := hr.mono (by decide)
    have hr4 : Room 4 _ := hr.mono (by decide)
    have big : 2000 ≤ sizeLine := by decide
    have few := o1.few
    refine ⟨_, pss_cons (ps_expr (pe_call DS.ok hr3 rfl DS.mgn DS.kp DS.bn .nil (passes_call (takes_of rfl rfl rfl rfl) (fun _ _ _ _ h => h)) (pa_cons (pv 0) (pa_cons (pv 1) pa_nil))))
      (pss_cons (ps_set (i := 2) nd rfl (.inl rfl) (pe_prop (pv 0) B.cl PS.pr PS.fn hr PS.bn .nil pass0 (by rfl)))
      (pss_cons (ps_for (passes_of rfl) rfl (pi_list (pe_call DG.ok hr4 rfl DG.mgn DG.kp DG.bn .nil pass0 (pa_cons (pv 1) pa_nil))) (pg_name (i := 3) nd rfl (.inl rfl))
        (pss_cons (ps_set (i := 4) nd rfl (.inl rfl) (pe_call DN.ok hr rfl DN.mgn DN.kp DN.bn .nil pass0 (pa_cons (pv 0) (pa_cons (pv 3) pa_nil))))
        (pss_one (ps_for (passes_of rfl) rfl (pi_list (pe_prop (pe_prop (pv 0) B.cl PF.pr PF.fn hr2 PF.bn .nil pass0 (by rfl)) O.cl L1.pr L1.fn hr2 L1.bn .nil pass0 (by rfl))) (pg_name (i := 5) nd rfl (.inl rfl))
          (pss_cons (ps_asg (pe_call DR.ok hr1 rfl DR.mgn DR.kp DR.bn .nil pass0 (pa_cons (pe_dget hu (pv 2) (pv 5) (fun _ _ => rfl)) (pa_cons (pe_callB call_len (by rfl) T.len PySem.boot_len (pa_cons (pv 3) pa_nil)) (pa_cons (pe_prop (pv 0) B.cl PT.pr PT.fn hr2 PT.bn .nil pass0 (by rfl)) pa_nil)))) (pg_tup rfl (pgs_cons (pg_name (i := 6) nd rfl (.inl rfl)) (pgs_cons (pg_name (i := 7) nd rfl (.inl rfl)) pgs_nil))))
          (pss_one (ps_if (pt_not (pt_chain op_le op_le (pv 6) (pe_dget hu (pv 4) (pv 5) (fun _ _ => rfl)) (pv 7))) (pss_one (ps_ret pe_bl)) pss_nil)))))))
      (pss_one (ps_ret pe_bl)))), ?_⟩
    obtain ⟨d1, p1, a1, b1⟩ := id h1
    obtain ⟨d2, p2, a2, b2⟩ := id h2
    obtain ⟨dx, dq, hx, hd⟩ := id fa
    refine ⟨_, rfl, _, rfl, y1, y2, x1, x2, zs, ws, rfl, h1, h2, ?_⟩
    rcases k with ⟨nel, k⟩ | ⟨el, k⟩
    · rw [if_neg nel]
      exact k
    rw [if_pos el]
    intro H1 s1
    refine ⟨_, rfl, y1, d1, _, rfl, s1 _ _ a1, y1, x1, ts, zs, rfl, h1.mono s1, fa.mono s1, o1, pl, fun sq H2 s2 nsq hsq => ?_⟩
    have s02 := s1.trans s2
    refine ⟨_, rfl, y2, x2, us, ws, rfl, h2.mono s02, fb.mono s02, o2, lw, fun gp rs H3 s3 ngp hgp rw3 => ⟨gp, rfl, ⟨_, SqL.of hgp⟩, ?_⟩⟩
    have s03 := s02.trans s3
    have hsq3 := s3 _ _ hsq
    refine for_it walk_list (fun j σ' H' => (∃ u3 u4 u5 u6 u7, σ' = [some (.ref y1), some (.ref y2), some (.ref sq), u3, u4, u5, u6, u7]) ∧ Same H3 H' ∧ ((grps us ws).take j).all (grpOk ts zs) = true) ⟨⟨_, _, _, _, _, rfl⟩, Same.refl, rfl⟩ (fun j σ' H' _ z => SqL.of (z.2.1 _ _ hgp)) ?_ ?_
    · intro j y σ' Hz Ha hj ⟨⟨u3, u4, u5, u6, u7, e⟩, z1, al⟩ ⟨eb, ex⟩
      subst e
      subst eb
      obtain ⟨r, hr', rfl⟩ := map_of ex
      obtain ⟨l, hl, hrl⟩ := rw3.at_ hr'
      have ml := List.mem_of_getElem? hl
      obtain ⟨b, rfl, _⟩ := mem_grps ml
      have sA := s03.trans z1
      have lb : (atU ws b).length ≤ ws.length := selU_len _ _
      refine ⟨_, rfl, _, rfl, y1, x1, r, ts, zs, atU ws b, rfl, h1.mono sA, fa.mono sA, o1, pl, z1 _ _ hrl, fun u hu' => ?_, fun nq H4 s4 nnq hnq => ?_⟩
      · obtain ⟨i, rfl, il, _⟩ := mem_selU.mp hu'
        exact ⟨i, rfl, by omega⟩
      have sB := sA.trans s4
      have s34 := z1.trans s4
      refine ⟨_, rfl, y1, d1, _, rfl, sB _ _ a1, y1, x1, zs, rfl, h1.mono sB, x1, dx, _, rfl, sB _ _ hx, x1, ts, rfl, fa.mono sB, fun pf nf => ⟨pf, rfl, ⟨_, SqL.of upd_same⟩, ?_⟩⟩
      obtain ⟨H5, e5⟩ : ∃ X, X = upd H4 pf (.lst ((ts.map Prod.fst).map V.str)) := ⟨_, rfl⟩
      have s5 : Same H4 H5 := e5 ▸ same_new nf
      have a5 : H5 pf = some (.lst ((ts.map Prod.fst).map V.str)) := by rw [e5]; exact upd_same
      rw [← e5]
      have s35 := s34.trans s5
      refine for_it walk_list (fun i σ' H' => (∃ u5 u6 u7, σ' = [some (.ref y1), some (.ref y2), some (.ref sq), some (.ref r), some (.ref nq), u5, u6, u7]) ∧ Same H5 H' ∧ ((ts.map Prod.fst).take i).all (fun a => rdOk (szZ ts zs a) ((atU ws b).length : Int) (zs.length : Int) (numI ts zs (atU ws b) a)) = true) ⟨⟨_, _, _, rfl⟩, Same.refl, rfl⟩ (fun i σ' H' _ z => SqL.of (z.2.1 _ _ a5)) ?_ ?_
      · intro i y3 σ2 Hy Hb hi ⟨⟨u5, u6, u7, e⟩, z5, al2⟩ ⟨eb, ex⟩
        subst e
        subst eb
        obtain ⟨a, ha, rfl⟩ := map_of ex
        have ma := List.mem_of_getElem? ha
        have sC := (s35.trans z5)
        have dg : DGet Hb sq (.str a) (some (.int (szZ ts zs a))) := by
          have w := DGet.k (k := Sum.inr a) (sC _ _ hsq3)
          rw [tblI_val ma] at w
          exact w
        have dg2 : DGet Hb nq (.str a) (some (.int (numI ts zs (atU ws b) a))) := by
          have w := DGet.k (k := Sum.inr a) ((s5.trans z5) _ _ hnq)
          rw [tblI_val ma] at w
          exact w
        have sD := s03.trans sC
        refine ⟨_, rfl, _, rfl, sq, _, rfl, dg, _, rfl, _, _, rfl, .inl ⟨_, SqL.of (sC _ _ hrl), rfl⟩, _, rfl, y1, d1, _, rfl, sD _ _ a1, y1, x1, zs, rfl, h1.mono sD, ?_⟩
        rw [List.length_map]
        refine ⟨_, _, _, rfl, by omega, by omega, by omega, by omega, fun tp H6 s6 ntp htp => ?_⟩
        have sE := sC.trans s6
        have dg6 : DGet H6 nq (.str a) (some (.int (numI ts zs (atU ws b) a))) := by
          have w := DGet.k (k := Sum.inr a) (((s5.trans z5).trans s6) _ _ hnq)
          rw [tblI_val ma] at w
          exact w
        refine ⟨tp, _, rfl, .inl (.inl htp), rfl, _, _, rfl, _, _, rfl, rfl, ?_⟩
        refine ⟨_, rfl, _, rfl, _, rfl, nq, _, rfl, dg6, _, _, rfl, rfl, _, rfl, ?_⟩
        have fin : rdOk (szZ ts zs a) ((atU ws b).length : Int) (zs.length : Int) (numI ts zs (atU ws b) a) = false → balB ts us zs ws = false := fun hn => by
          unfold balB
          rw [List.all_eq_false]
          refine ⟨_, ml, ?_⟩
          unfold grpOk
          rw [Bool.not_eq_true, List.all_eq_false]
          exact ⟨a, ma, by rw [hn]; decide⟩
        by_cases c1 : szZ ts zs a * ((atU ws b).length : Int) / (zs.length : Int) ≤ numI ts zs (atU ws b) a
        · rw [if_pos (decide_eq_true c1)]
          refine ⟨_, rfl, _, _, rfl, rfl, _, rfl, ?_⟩
          by_cases c2 : numI ts zs (atU ws b) a ≤ (szZ ts zs a * ((atU ws b).length : Int) + (zs.length : Int) - 1) / (zs.length : Int)
          · rw [decide_eq_true c2]
            refine iteF ⟨⟨_, _, _, rfl⟩, z5.trans s6, ?_⟩
            rw [take_more ha, List.all_append, al2, Bool.true_and]
            show (rdOk _ _ _ _ && true) = true
            unfold rdOk
            rw [decide_eq_true c1, decide_eq_true c2] <;> rfl
          · rw [decide_eq_false c2]
            show if true = true then _ else _
            rw [if_pos rfl]
            rw [fin (by unfold rdOk; rw [decide_eq_false c2, Bool.and_false])] at k
            exact k H6 (s03.trans sE)
        · rw [if_neg (by rw [decide_eq_false c1]; decide)]
          show ∃ k, _
          refine ⟨false, rfl, ?_⟩
          show if true = true then _ else _
          rw [if_pos rfl]
          rw [fin (by unfold rdOk; rw [decide_eq_false c1, Bool.false_and])] at k
          exact k H6 (s03.trans sE)
      · intro σ2 Hb ⟨⟨u5, u6, u7, e⟩, z5, al2⟩
        subst e
        rw [List.length_map, List.take_length] at al2
        refine ⟨⟨_, _, _, _, _, rfl⟩, s35.trans z5, ?_⟩
        rw [take_more hl, List.all_append, al, Bool.true_and]
        show (grpOk ts zs (atU ws b) && true) = true
        unfold grpOk
        rw [al2] <;> rfl
    · intro σ' H4 ⟨⟨u3, u4, u5, u6, u7, e⟩, z1, al⟩
      subst e
      rw [List.length_map, rw3.len, List.take_length] at al
      rw [show balB ts us zs ws = true from al] at k
      exact k H4 (s03.trans z1)
end
end FT


/-! family C: paths as lists, sizes that are drawn -/
namespace FT
open PySem L2 TL ClX LiI
/-- parents stand ahead of their children -/
def Ahead (t : List (Str × Str)) : Prop := ∀ (i : Nat) (p : Str × Str), t[i]? = some p → p.2 = "" ∨ p.2 ∈ (t.map Prod.fst).take i
theorem TreeUp.ahead {t : List (Str × Str)} (u : TreeUp t) : Ahead t := fun i p h => by
  have := u.up i p h
  rw [List.map_take] at this
  exact this
theorem TreeUp.ok {t : List (Str × Str)} (u : TreeUp t) : TreeOk t := tree_of u.one u.few u.nd (fun z hz => (u.nm z hz).name) u.ahead
theorem DrawAt.off_prs {H : Hp} {d c q : Addr} {t : List (Str × Str)} (x : DrawAt H d c) (hq : H q = some (.dK (prs t))) : q ≠ d ∧ q ≠ c := by
  obtain ⟨nx, mx, cells, a1, a2, _⟩ := x
  exact ⟨ne_of hq a1 (by intro z; cases z), ne_of hq a2 (by intro z; cases z)⟩
theorem Keep.at_ {d c p : Addr} {H H' : Hp} {u : HO} (k : Keep d c H H') (e : H p = some u) (n1 : p ≠ d) (n2 : p ≠ c) : H' p = some u := k p u n1 n2 e
def spSizesC : Sp := fun vs H Q _ => ∃ (d c q : Addr) (n : Int) (t : List (Str × Str)), vs = [.ref d, .ref q, .int n] ∧ DrawAt H d c ∧ H q = some (.dK (prs t)) ∧ TreeOk t ∧ Ahead t ∧ 0 ≤ n ∧ n ≤ 60 ∧
  ∀ (p : Addr) (ks : List Str) (sz : Str → Int) (H' : Hp), Fea t n sz → ks.Perm (t.map Prod.fst) → H p = none → H' p = some (.dK (tblI ks sz)) → DrawAt H' d c → Keep d c H H' → Q (.ref p) H'
def rankL (t : List (Str × Str)) (rk : Str → Nat) (σ : St) : Nat := match σ[1]? with
  | some (some (V.str a)) => if a ∈ t.map Prod.fst then rk a + 1 else 0
  | _ => 0
def spPathL : Sp := fun vs H Q _ => ∃ (q : Addr) (a : Str) (t : List (Str × Str)), vs = [.ref q, .str a] ∧ Rd H q (.dK (prs t)) ∧ TreeOk t ∧ Pl t a ∧ ∀ p H', Same H H' → H p = none → H' p = some (.lst ((pathOf t a).reverse.map V.str)) → Q (.ref p) H'
section
variable {P : Program} {w : World} {K : PySem.W.Frag} {mg : Str → Option Value} {base : Heap}
abbrev NPl : List Str := ["_law_tree_here", "_law_spot", "_law_found"]
theorem scPl : FnScope NPl ["_law_tree_here", "_law_spot"] (defScope s__law_path) := ⟨rfl, rfl, rfl, by decide +kernel, rfl, by decide +kernel, by decide +kernel⟩
theorem ok_pathL {f : Addr} {fd : FuncData} (F : Fun K "_law_path" "_law_path" s__law_path f fd) : FnOk P w K mg base CX0 1 f fd ["_law_tree_here", "_law_spot"] spPathL := by
  refine F.ok scPl (fun vs H Q E h => ?_) (fun cdv A outer s H vs Q E hr h => ?_)
  · obtain ⟨q, a, t, rfl, _⟩ := h
    rfl
  · obtain ⟨q, a, t, rfl, hq, o, pl, k⟩ := h
    have hu := hu_of hr
    obtain ⟨rk, r⟩ := o.up
    refine ⟨_, pss_cons (ps_set (i := 2) scPl.nd rfl (.inl rfl) (pe_lst pa_nil))
      (pss_cons (ps_while PassesOwn.never (pt_cmpR op_ne (pv 1) pe_str (nomark _))
        (pss_cons (ps_expr (pe_bm PySem.F.plainAttrs_list PySem.F.slot_list_append PySem.F.type_list_append mt_append (pv 2) (pa_cons (pv 1) pa_nil)))
        (pss_one (ps_set (i := 1) scPl.nd rfl (.inl rfl) (pe_dget hu (pv 0) (pv 1) (fun _ _ => rfl))))))
      (pss_one (ps_ret (pv 2)))), ?_⟩
    have big : 1000 ≤ sizeLine := by decide
    have few := o.few
    have rdm : ∀ {H'}, Same H H' → Rd H' q (.dK (prs t)) := fun s => hq.imp (s _ _) fun ⟨ob, e⟩ => ⟨ob, s _ _ e⟩
    refine ⟨by show 0 ≤ sizeLine; omega, fun p0 n0 => ?_⟩
    refine while_by (fun σ H' => ∃ (x : Str) (ws : List Str), σ = [some (.ref q), some (.str x), some (.ref p0)] ∧ Same H H' ∧ H' p0 = some (.lst (ws.map V.str)) ∧ Pl t x ∧ pathOf t a = pathOf t x ++ ws.reverse)
      (fun σ _ => rankL t rk σ) ⟨a, [], rfl, same_new n0, upd_same, pl, by rw [List.reverse_nil, List.append_nil]⟩ ?_ ?_
    · rintro σ H1 ⟨x, ws, rfl, s1, aw, px, epath⟩
      refine ⟨_, rfl, rfl, _, rfl, ?_⟩
      have lws : ws.length ≤ 12 := by
        have z := congrArg List.length epath
        rw [List.length_append, List.length_reverse] at z
        have := path_len t a
        omega
      by_cases e : x = ""
      · rw [decide_eq_true (show V.str x = V.str "" by rw [e])]
        refine iteF ?_
        rw [e, path_root, List.nil_append] at epath
        exact ⟨_, rfl, k p0 H1 s1 n0 (by rw [epath, List.reverse_reverse]; exact aw)⟩
      · rw [decide_eq_false (show ¬ V.str x = V.str "" from fun z => e (V.str.inj z))]
        show if true = true then _ else _
        rw [if_pos rfl]
        have mx := px.resolve_left e
        obtain ⟨pa, ep, hpa, lx⟩ := o.step r mx
        refine ⟨_, rfl, .inl ⟨rfl, _, SqL.of aw⟩, _, rfl, p0, _, _, rfl, rfl, aw, by rw [List.length_map]; omega, ?_⟩
        obtain ⟨H2, e2⟩ : ∃ X, X = upd H1 p0 (.lst (ws.map V.str ++ [V.str x])) := ⟨_, rfl⟩
        have s2 : Same H H2 := e2 ▸ s1.put n0
        rw [← e2]
        have dg : DGet H2 q (.str x) (some (.str pa)) := .inl ⟨_, Sum.inr x, rdm s2, rfl, by rw [val_prs, ep] <;> rfl⟩
        refine ⟨_, rfl, _, rfl, q, .str pa, rfl, dg, ⟨pa, ws ++ [x], rfl, s2, by rw [e2, upd_same, List.map_append] <;> rfl, hpa.imp id And.left, by rw [epath, path_step o mx ep, List.reverse_append, List.append_assoc] <;> rfl⟩, ?_⟩
        show (if pa ∈ t.map Prod.fst then rk pa + 1 else 0) < (if x ∈ t.map Prod.fst then rk x + 1 else 0)
        rw [if_pos mx]
        split
        · rename_i m
          have := (hpa.resolve_left fun z => o.root (by rw [← z]; exact m)).2
          omega
        · omega
    · exact fun σ H Q Q' hm ⟨v, e, z, b, eb, q⟩ => ⟨v, e, z, b, eb, hm _ _ q⟩
abbrev NSc : List Str := ["_law_state", "_law_tree_here", "_law_users", "_law_found", "_law_left", "_law_flag", "_law_most"]
theorem scSc : FnScope NSc ["_law_state", "_law_tree_here", "_law_users"] (defScope s__law_sizes) := ⟨rfl, rfl, rfl, by decide +kernel, rfl, by decide +kernel, by decide +kernel⟩
theorem ok_sizesC {f fT fP : Addr} {fd fdT fdP : FuncData} (F : Fun K "_law_sizes" "_law_sizes" s__law_sizes f fd) (T : Nm mg) (DT : Dn P w K mg base CX0 1 "_law_draw" ["_law_state", "_law_many"] spDraw fT fdT) (DP : Dn P w K mg base CX0 2 "_law_pick" ["_law_state", "_law_some"] (spPick K) fP fdP) :
    FnOk P w K mg base CX0 3 f fd ["_law_state", "_law_tree_here", "_law_users"] spSizesC := by
  refine F.ok scSc (fun vs H Q E h => ?_) (fun cdv A outer s H vs Q E hr h => ?_)
  · obtain ⟨d, c, q, n, t, rfl, _⟩ := h
    rfl
  · obtain ⟨d, c, q, n, t, rfl, hD, hq, o, ah, n0, n60, k⟩ := h
    have hu := hu_of hr
    have hr1 : Room 1 _ := hr.mono (by decide)
    have nd := scSc.nd
    have big : 1000 ≤ sizeLine := by decide
    have few := o.few
    refine ⟨_, pss_cons (ps_asg (pe_tup (pa_cons pe_dnewK (pa_cons (pe_disp (pps_cons pe_str (pv 2) pps_nil) (by rfl) (by rfl) (fun z => by cases z) (by decide)) pa_nil))) (pg_tup rfl (pgs_cons (pg_name (i := 3) nd rfl (.inr rfl)) (pgs_cons (pg_name (i := 4) nd rfl (.inl rfl)) pgs_nil))))
      (pss_cons (ps_lock (ps_for PassesOwn.never rfl (pi_keys (pv 1)) (pg_name (i := 5) nd rfl (.inl rfl))
        (pss_cons (ps_set (i := 6) nd rfl (.inl rfl) (pe_dget hu (pv 4) (pe_dget hu (pv 1) (pv 5) (fun _ _ => rfl)) (fun _ _ => rfl)))
        (pss_cons (ps_dput hu (pv 3) (pv 5) (pe_call DP.ok hr rfl DP.mgn DP.kp DP.bn .nil pass0 (pa_cons (pv 0) (pa_cons (pe_lst (pa_cons pe_int (pa_cons (pv 6)
          (pa_cons (pe_call DT.ok hr1 rfl DT.mgn DT.kp DT.bn .nil pass0 (pa_cons (pv 0) (pa_cons (pe_op op_add (pv 6) pe_int) pa_nil)))
          (pa_cons (pe_call DT.ok hr1 rfl DT.mgn DT.kp DT.bn .nil pass0 (pa_cons (pv 0) (pa_cons (pe_op op_add (pv 6) pe_int) pa_nil))) pa_nil))))) pa_nil))) rfl)
        (pss_cons (ps_dput hu (pv 4) (pe_dget hu (pv 1) (pv 5) (fun _ _ => rfl)) (pe_op op_sub (pv 6) (pe_dget hu (pv 3) (pv 5) (fun _ _ => rfl))) rfl)
        (pss_one (ps_dput hu (pv 4) (pv 5) (pe_dget hu (pv 3) (pv 5) (fun _ _ => rfl)) rfl)))))))
      (pss_one (ps_ret (pe_callTy (call_dictP rfl) (by rfl) T.dct (by decide +kernel) (pa_cons (pe_lc (own := [("_law_flag", 5)]) (g := gName 5) (tt := tYes) rfl nd (pi_list (pe_callB (call_sortedD rfl) (by rfl) T.srt (by decide +kernel) (pa_cons (pv 3) pa_nil)))
          (blkOk_by (N := NSc) (sc := defScope s__law_sizes) (by decide +kernel)) (fun _ _ _ _ _ => pg_name (i := 5) nd rfl (Or.inl rfl)) (fun _ _ _ _ _ => pts_nil) (fun _ _ _ _ _ => pe_tup (pa_cons (pv 5) (pa_cons (pe_dget hu (pv 3) (pv 5) (fun _ _ => rfl)) pa_nil)))) pa_nil))))), ?_⟩
    refine fun qf nqf ql nql => ⟨_, rfl, upd_same, [(Sum.inr "", V.int n)], rfl, by show 1 ≤ 15; omega, by show 2 ≤ sizeLine; omega, fun tp ntp => ⟨tp, _, rfl, .inl (.inl upd_same), rfl, _, _, rfl, _, _, rfl, rfl, ?_⟩⟩
    have qfl : qf ≠ ql := ne_of_none upd_same nql
    have nql0 : H ql = none := by rw [upd_ne qfl.symm] at nql; exact nql
    obtain ⟨H3, e3⟩ : ∃ X, X = upd (upd (upd (upd H qf (.dK [])) ql (.dK [])) ql (.dK (mergeK [] [(Sum.inr "", V.int n)]))) tp (.tup [.ref qf, .ref ql]) := ⟨_, rfl⟩
    have s02 : Same H (upd (upd (upd H qf (.dK [])) ql (.dK [])) ql (.dK (mergeK [] [(Sum.inr "", V.int n)]))) := ((same_new nqf).put nql0).put nql0
    have s03 : Same H H3 := e3 ▸ s02.trans (same_new ntp)
    have qlt : ql ≠ tp := ne_of_none upd_same ntp
    have qft : qf ≠ tp := ne_of_none (o := .dK []) (by rw [upd_ne qfl, upd_ne qfl, upd_same]) ntp
    have hf3 : H3 qf = some (.dK (tblI [] fun _ => 0)) := by
      rw [e3, upd_ne qft, upd_ne qfl, upd_ne qfl, upd_same] <;> rfl
    have hl3 : H3 ql = some (.dK (tblI [""] (resid [] n fun _ => 0))) := by
      rw [e3, upd_ne qlt, upd_same]
      show some (HO.dK [(Sum.inr "", V.int n)]) = some (HO.dK [(Sum.inr "", V.int (n - 0))])
      rw [Int.sub_zero]
    have dr3 := hD.mono s03
    have qfd := hD.apart nqf
    have qld := hD.apart nql0
    have qqf : q ≠ qf := ne_of_none hq nqf
    have qql : q ≠ ql := ne_of_none hq nql0
    have qd := hD.off_prs hq
    have hq3 := s03 _ _ hq
    rw [← e3]
    refine ⟨q, _, hq3, trivial, fun od => ⟨_, rfl, q, od, rfl, .inl ⟨_, upd_same, ?_⟩⟩⟩
    obtain ⟨H4, e4⟩ : ∃ X, X = upd H3 q (.frz od (.dK (prs t))) := ⟨_, rfl⟩
    have hq4 : H4 q = some (.frz od (.dK (prs t))) := by rw [e4, upd_same]
    have hf4 : H4 qf = some (.dK (tblI [] fun _ => 0)) := by rw [e4, upd_ne qqf.symm]; exact hf3
    have hl4 : H4 ql = some (.dK (tblI [""] (resid [] n fun _ => 0))) := by rw [e4, upd_ne qql.symm]; exact hl3
    have dr4 : DrawAt H4 d c := by rw [e4]; exact dr3.off qd.1 qd.2
    have k4 : ∀ x u, x ≠ q → x ≠ d → x ≠ c → H x = some u → H4 x = some u := fun x u nq _ _ e => by rw [e4, upd_ne nq]; exact s03 _ _ e
    rw [← e4]
    refine for_it walk_keys (fun j σ' H' => (∃ u5 u6, σ' = [some (.ref d), some (.ref q), some (.int n), some (.ref qf), some (.ref ql), u5, u6]) ∧ DrawAt H' d c ∧ H' q = some (.frz od (.dK (prs t))) ∧ (∀ x u, x ≠ q → x ≠ d → x ≠ c → H x = some u → H' x = some u) ∧
      ∃ sz : Str → Int, Dealt t n ((t.map Prod.fst).take j) (t.take j) sz ∧ H' qf = some (.dK (tblI ((t.map Prod.fst).take j) sz)) ∧ H' ql = some (.dK (tblI ("" :: (t.map Prod.fst).take j) (resid (t.take j) n sz))))
      ⟨⟨_, _, rfl⟩, dr4, hq4, k4, (fun _ => 0), Dealt.nil n0, hf4, hl4⟩ (fun j σ' H' _ z => z.2.2.1) ?_ ?_
    · intro j y σ' Hz Hb hj ⟨⟨u5, u6, e⟩, da, aqa, ka, sz, dl, hfa, hla⟩ ⟨eb, kk, vv, hk, ey⟩
      subst e
      subst eb
      subst ey
      obtain ⟨⟨a, pa⟩, hp, ee⟩ : ∃ x : Str × Str, t[j]? = some x ∧ (kk, vv) = (Sum.inr x.1, V.str x.2) := by
        unfold prs kvT at hk
        rw [List.map_map, List.getElem?_map] at hk
        obtain ⟨x, hx, z⟩ := Option.map_eq_some_iff.mp hk
        exact ⟨x, hx, z.symm⟩
      cases ee
      rw [show kV (Sum.inr a) = V.str a from rfl]
      have mp := List.mem_of_getElem? hp
      have ma : a ∈ t.map Prod.fst := List.mem_map.mpr ⟨_, mp, rfl⟩
      have hja : (t.map Prod.fst)[j]? = some a := by rw [List.getElem?_map, hp] <;> rfl
      have hpa := par_of o.nd mp
      have jl := (List.getElem?_eq_some_iff.mp hp).1
      have anr : a ≠ "" := fun z => o.root (by rw [← z]; exact ma)
      have fresh : a ∉ (t.map Prod.fst).take j := nat_fresh o.nd hja
      have mpa : pa = "" ∨ pa ∈ (t.map Prod.fst).take j := ah j _ hp
      have mpl : pa ∈ (("" : Str) :: (t.map Prod.fst).take j) := List.mem_cons.mpr mpa
      obtain ⟨m, em⟩ : ∃ m, m = resid (t.take j) n sz pa := ⟨_, rfl⟩
      have m0 : 0 ≤ m := by rw [em]; exact dl.res pa mpl
      have mn : m ≤ 60 := by
        have := dl.top_ pa mpl
        omega
      have lkeep : ((t.map Prod.fst).take j).length = j := by rw [List.length_take, List.length_map]; omega
      have dgp : DGet Hb q (.str a) (some (.str pa)) := .inl ⟨_, Sum.inr a, .inr ⟨od, aqa⟩, rfl, by rw [val_prs, hpa] <;> rfl⟩
      have gl : ∀ {H'}, H' ql = some (.dK (tblI ("" :: (t.map Prod.fst).take j) (resid (t.take j) n sz))) → DGet H' ql (.str pa) (some (.int m)) := fun {H'} h => by
        have z := DGet.k (k := Sum.inr pa) h
        rw [tblI_val mpl, ← em] at z
        exact z
      have bnd : (m + 1).natAbs < 2 ^ 200 := Nat.lt_trans (by omega : (m + 1).natAbs < 100) (by decide)
      refine ⟨_, rfl, _, rfl, _, rfl, q, .str pa, rfl, dgp, ql, _, rfl, gl hla, ?_⟩
      refine ⟨_, rfl, _, rfl, _, rfl, _, rfl, _, _, rfl, rfl, d, c, m + 1, rfl, da, by omega, bnd, fun k1 H7 k10 k11 d7 kp7 => ?_⟩
      have hf7 := kp7.at_ hfa qfd.1 qfd.2
      have hl7 := kp7.at_ hla qld.1 qld.2
      have hq7 := kp7.at_ aqa qd.1 qd.2
      refine ⟨_, rfl, _, rfl, _, _, rfl, rfl, d, c, m + 1, rfl, d7, by omega, bnd, fun k2 H8 k20 k21 d8 kp8 => ?_⟩
      have hf8 := kp8.at_ hf7 qfd.1 qfd.2
      have hl8 := kp8.at_ hl7 qld.1 qld.2
      have hq8 := kp8.at_ hq7 qd.1 qd.2
      refine ⟨by show 4 ≤ sizeLine; omega, fun pl npl => ?_⟩
      have pld := d8.apart npl
      have s8 := same_new (o := .lst (([0, m, k1, k2] : List Int).map V.int)) npl
      refine ⟨d, c, _, 4, (fun _ x => ∃ z, x = .int z ∧ z ∈ ([0, m, k1, k2] : List Int)), rfl, d8.mono s8, .inl ⟨pl, ([0, m, k1, k2] : List Int).map V.int, rfl, pld.1, pld.2, upd_same, rfl, items_ints (fun z hz => hz)⟩, by decide, by decide, fun i' x H9 xm d9 k9 => ?_⟩
      obtain ⟨z, rfl, hz⟩ := xm
      have zb : 0 ≤ z ∧ z ≤ m := by
        simp only [List.mem_cons, List.not_mem_nil, or_false] at hz
        rcases hz with rfl | rfl | rfl | rfl <;> omega
      obtain ⟨z0, z1⟩ := zb
      have hf9 := k9.at_ (s8 _ _ hf8) qfd.1 qfd.2
      have hl9 := k9.at_ (s8 _ _ hl8) qld.1 qld.2
      have hq9 := k9.at_ (s8 _ _ hq8) qd.1 qd.2
      have ka9 : ∀ x u, x ≠ q → x ≠ d → x ≠ c → H x = some u → H9 x = some u := fun x u nq nx ny e => k9 _ _ nx ny (s8 _ _ (kp8 _ _ nx ny (kp7 _ _ nx ny (ka x u nq nx ny e))))
      obtain ⟨dl', req⟩ := dl.step fresh anr mp mpa z0 (by rw [← em]; exact z1)
      refine ⟨_, rfl, _, rfl, qf, _, rfl, DPut.k (k := Sum.inr a) hf9 (by rw [tblI_len, lkeep]; omega), ?_⟩
      rw [tblI_congr (g' := fun x => if x = a then z else sz x) (fun b hb => (if_neg fun e => fresh (by rw [← e]; exact hb)).symm), tblI_snoc (g := fun x => if x = a then z else sz x) fresh (if_pos rfl).symm, ← take_more hja]
      obtain ⟨H10, e10⟩ : ∃ X, X = upd H9 qf (.dK (tblI ((t.map Prod.fst).take (j + 1)) fun x => if x = a then z else sz x)) := ⟨_, rfl⟩
      have hl10 : H10 ql = some (.dK (tblI ("" :: (t.map Prod.fst).take j) (resid (t.take j) n sz))) := by rw [e10, upd_ne qfl.symm]; exact hl9
      have hf10 : H10 qf = some (.dK (tblI ((t.map Prod.fst).take (j + 1)) fun x => if x = a then z else sz x)) := by rw [e10]; exact upd_same
      have hq10 : H10 q = some (.frz od (.dK (prs t))) := by rw [e10, upd_ne qqf]; exact hq9
      have maj : a ∈ (t.map Prod.fst).take (j + 1) := by rw [take_more hja]; exact List.mem_append_right _ (List.mem_singleton_self _)
      have gf : ∀ {H'}, H' qf = some (.dK (tblI ((t.map Prod.fst).take (j + 1)) fun x => if x = a then z else sz x)) → DGet H' qf (.str a) (some (.int z)) := fun {H'} h => by
        have w := DGet.k (k := Sum.inr a) h
        rw [tblI_val maj, if_pos rfl] at w
        exact w
      have dgp10 : DGet H10 q (.str a) (some (.str pa)) := .inl ⟨_, Sum.inr a, .inr ⟨od, hq10⟩, rfl, by rw [val_prs, hpa] <;> rfl⟩
      rw [← e10]
      refine ⟨_, rfl, _, rfl, _, rfl, qf, _, rfl, gf hf10, _, _, rfl, rfl, _, rfl, _, rfl, _, rfl, q, .str pa, rfl, dgp10, ql, _, rfl, DPut.k (k := Sum.inr pa) hl10 (by rw [tblI_len, List.length_cons, lkeep]; omega), ?_⟩
      rw [tblI_put mpl]
      obtain ⟨H11, e11⟩ : ∃ X, X = upd H10 ql (.dK (tblI ("" :: (t.map Prod.fst).take j) fun x => if x = pa then m - z else resid (t.take j) n sz x)) := ⟨_, rfl⟩
      have hl11 : H11 ql = some (.dK (tblI ("" :: (t.map Prod.fst).take j) fun x => if x = pa then m - z else resid (t.take j) n sz x)) := by rw [e11]; exact upd_same
      have hf11 : H11 qf = some (.dK (tblI ((t.map Prod.fst).take (j + 1)) fun x => if x = a then z else sz x)) := by rw [e11, upd_ne qfl]; exact hf10
      rw [← e11]
      refine ⟨_, rfl, _, rfl, qf, _, rfl, gf hf11, _, rfl, _, rfl, ql, _, rfl, DPut.k (k := Sum.inr a) hl11 (by rw [tblI_len, List.length_cons, lkeep]; omega), ?_⟩
      have nin : a ∉ (("" : Str) :: (t.map Prod.fst).take j) := fun h => (List.mem_cons.mp h).elim anr fresh
      obtain ⟨g, eg⟩ : ∃ g : Str → Int, g = fun p => if p = pa then m - z else if p = a then z else resid (t.take j) n sz p := ⟨_, rfl⟩
      have pne : a ≠ pa := fun e => nin (by rw [e]; exact mpl)
      rw [tblI_congr (l := "" :: (t.map Prod.fst).take j) (g' := g) (fun b hb => by
        rw [eg]
        show (if b = pa then _ else _) = if b = pa then _ else if b = a then _ else _
        rw [if_neg (show ¬ b = a from fun e => nin (by rw [← e]; exact hb))]), tblI_snoc (g := g) nin (by rw [eg]; show z = if a = pa then _ else if a = a then z else _; rw [if_neg pne, if_pos rfl]), List.cons_append, ← take_more hja]
      refine ⟨⟨_, _, rfl⟩, ?_, ?_, fun x u nq nx ny e => ?_, (fun x => if x = a then z else sz x), by rw [take_more hja, take_more hp]; exact dl', ?_, ?_⟩
      · rw [e11, e10]
        exact ((d9.off qfd.1 qfd.2).off qld.1 qld.2).off qld.1 qld.2
      · rw [upd_ne qql, e11, upd_ne qql]
        exact hq10
      · rw [upd_ne (ne_of_none e nql0), e11, upd_ne (ne_of_none e nql0), e10, upd_ne (ne_of_none e nqf)]
        exact ka9 x u nq nx ny e
      · rw [upd_ne qfl]
        exact hf11
      · rw [upd_same]
        congr 2
        refine tblI_congr fun b hb => ?_
        rw [take_more hja] at hb
        rw [take_more hp, req b hb, eg, em]
    · intro σ' H7 ⟨⟨u5, u6, e⟩, da, aqa, ka, sz, dl, hfa, hla⟩
      subst e
      rw [show (prs t).length = (t.map Prod.fst).length by rw [prs_len, List.length_map], List.take_length, List.length_map, List.take_length] at dl
      rw [show (prs t).length = (t.map Prod.fst).length by rw [prs_len, List.length_map], List.take_length] at hfa
      have fe : Fea t n sz := ⟨fun a ha => dl.nn a ha, fun p hp => dl.res p hp⟩
      refine ⟨aqa, ?_⟩
      obtain ⟨H8, e8⟩ : ∃ X, X = upd H7 q (.dK (prs t)) := ⟨_, rfl⟩
      have hf8 : H8 qf = some (.dK (tblI (t.map Prod.fst) sz)) := by rw [e8, upd_ne qqf.symm]; exact hfa
      have d8 : DrawAt H8 d c := by rw [e8]; exact da.off qd.1 qd.2
      have k8 : ∀ x u, x ≠ d → x ≠ c → H x = some u → H8 x = some u := fun x u nx ny e => by
        by_cases z : x = q
        · subst z
          rw [hq] at e
          rw [e8, upd_same]
          exact e
        · rw [e8, upd_ne z]
          exact ka x u z nx ny e
      rw [← e8]
      refine ⟨_, rfl, qf, _, t.map Prod.fst, rfl, .inl hf8, tblI_keys _ _, by rw [List.length_map]; omega, fun ks p perm srt np => ⟨p, rfl, ⟨_, SqL.of upd_same⟩, fun D nD => ?_⟩⟩
      obtain ⟨H9, e9⟩ : ∃ X, X = upd H8 p (.lst (ks.map V.str)) := ⟨_, rfl⟩
      have s9 : Same H8 H9 := e9 ▸ same_new np
      have a9 : H9 p = some (.lst (ks.map V.str)) := by rw [e9]; exact upd_same
      rw [← e9] at nD ⊢
      have lk := perm.length_eq
      rw [List.length_map] at lk
      refine lc_it walk_list (fun i H' => Same H9 H' ∧ ∃ rs : List Addr, H' D = some (.lst (rs.map V.ref)) ∧ PrG (fun a => .int (sz a)) H' rs (ks.take i)) ⟨same_new nD, [], upd_same, .nil⟩ (fun i H' _ z => SqL.of (z.1 _ _ a9)) ?_ ?_
      · intro i y Hz Ha hi ⟨z1, rs, hDD, pr⟩ ⟨eb, ex⟩
        subst eb
        obtain ⟨a, ha, rfl⟩ := map_of ex
        have ma : a ∈ t.map Prod.fst := perm.mem_iff.mp (List.mem_of_getElem? ha)
        have lr := pr.len
        rw [List.length_take] at lr
        refine ⟨rfl, ?_⟩
        have dg : DGet Ha qf (.str a) (some (.int (sz a))) := by
          have w := DGet.k (k := Sum.inr a) (z1 _ _ (s9 _ _ hf8))
          rw [tblI_val ma] at w
          exact w
        refine ⟨_, rfl, _, rfl, _, rfl, qf, _, rfl, dg, by show 2 ≤ sizeLine; omega, fun tq ntq => ?_⟩
        have sq : Same Ha (upd Ha tq (.tup [.str a, .int (sz a)])) := same_new ntq
        refine ⟨_, sq _ _ hDD, by rw [List.length_map]; omega, (z1.trans sq).put nD, rs ++ [tq], by rw [upd_same, List.map_append] <;> rfl, ?_⟩
        rw [take_more ha]
        exact PrG.push (sq _ _ hDD) (PrG.snoc upd_same (pr.mono sq))
      intro H10 ⟨z1, rs, hDD, pr⟩
      rw [List.length_map, List.take_length] at pr
      refine ⟨D, rs, _, rfl, SqL.of hDD, pr.kvs, fun pd npd => ?_⟩
      have ndk : ks.Nodup := perm.nodup_iff.mpr o.nd
      rw [merge_nd (by rw [map_fst]; exact ndk)]
      have s810 : Same H8 H10 := s9.trans z1
      have npd0 : H pd = none := by
        cases e : H pd with
        | none => rfl
        | some u =>
          by_cases e1 : pd = d
          · subst e1
            obtain ⟨nx, mx, cells, w1, _⟩ := d8
            rw [s810.free npd] at w1
            cases w1
          · by_cases e2 : pd = c
            · subst e2
              obtain ⟨nx, mx, cells, _, w1, _⟩ := d8
              rw [s810.free npd] at w1
              cases w1
            · have := s810 _ _ (k8 _ _ e1 e2 e)
              rw [npd] at this
              cases this
      exact k pd ks sz _ fe perm npd0 upd_same ((d8.mono s810).mono (same_new npd)) fun x u nx ny e => by
        rw [upd_ne (ne_of_none (s810 _ _ (k8 x u nx ny e)) npd)]
        exact s810 _ _ (k8 x u nx ny e)
end
end FT


/-! d.values() as a value, sum of it -/
namespace L2
open PySem PySem.Spec PyProof.Rows
/-- at v: the view of the values of the dict at d -/
def VwO (v d : Addr) : HO := .ext fun h => h.get? v = some ({ cls := .type "dict_values", data := .fields #[.ref d] } : Obj)
theorem vwo_ok {P : Program} {w : World} {H : Hp} {h : Heap} {v d : Addr} (e : h.get? v = some ({ cls := .type "dict_values", data := .fields #[.ref d] } : Obj)) : ObjOk P w H h v (VwO v d) :=
  ⟨e, ⟨_, e⟩, fun h1 h2 z k => k _ z⟩
theorem vwo_at {P : Program} {w : World} {H : Hp} {h : Heap} {v d : Addr} (ok : HOk P w H h) (e : H v = some (VwO v d)) : h.get? v = some ({ cls := .type "dict_values", data := .fields #[.ref d] } : Obj) := by
  have x : ObjOk P w H h v (.ext fun h => h.get? v = some ({ cls := .type "dict_values", data := .fields #[.ref d] } : Obj)) := ok v _ e
  exact x.1
theorem preSum_list : ∀ ns : List Int, preSum (fun i => (ns[i]?).getD 0) ns.length = ns.sum
  | [] => rfl
  | n :: ns => by
    show preSum _ (ns.length + 1) = _
    rw [PySem.W.kdu_shift, List.sum_cons, ← preSum_list ns] <;> rfl
section
variable {X : Cx}
def rDVals : V → List V → Hp → VK → Prop := fun x xs H Q => ∃ (a : Addr) (kvs : List (Key × V)), x = .ref a ∧ xs = [] ∧ H a = some (.dK kvs) ∧ ∀ v, H v = none → Q (.ref v) (upd H v (VwO v a))
theorem mt_dvals : MtR X "dict.values" rDVals := by
  intro pins s σ H x xs v us Q I rx rxs ⟨a, kvs, ex, exs, e, q⟩
  subst ex
  subst exs
  cases rx
  cases rxs
  obtain ⟨z, lo, vs, rel, dd⟩ := dk_of I.hok e
  refine call_meetsIn PySem.F.slot_dict_values dd.typeIs PySem.F.entry_dict_values (PySem.F.args_dict_values_1 _) (meets_dict_values (mixKind X.prog X.w) a lo) ⟨⟨vs, dd⟩, ?_⟩
  have at_ : (s.heap.push ({ cls := .type "dict_values", data := .fields #[.ref a] } : Obj)).get? s.heap.objs.size = some ({ cls := .type "dict_values", data := .fields #[.ref a] } : Obj) := Heap.get?_push_size _ rfl
  exact ⟨.ref s.heap.objs.size, upd H s.heap.objs.size (VwO s.heap.objs.size a), I.laid (t' := s.toks) (fun b u e => Heap.get?_push_of_some _ e) (Nat.le_refl _) (vwo_ok at_), rfl, q _ (I.hok.fresh (Nat.le_refl _))⟩
def rSumV : List V → Hp → VK → Prop := fun xs H Q => ∃ (v d : Addr) (kvs : List (Key × V)) (ns : List Int), xs = [.ref v] ∧ H v = some (VwO v d) ∧ H d = some (.dK kvs) ∧ kvs.map (·.2) = ns.map V.int ∧ Q (.int ns.sum) H
theorem cr_sumV (hc : X.calm = true) : CallR X (.builtin "sum") rSumV := by
  intro pins s σ H xs us Q I r ⟨v, d, kvs, ns, ex, ev, ed, en, q⟩
  subst ex
  obtain ⟨u, rfl, ru⟩ := vals1 r
  cases ru
  obtain ⟨z, lo, vs, rel, dd⟩ := dk_of I.hok ed
  obtain ⟨ep, hat⟩ := dd.dictAt
  have av := vwo_at I.hok ev
  have lv : kvs.length = vs.length := rel.length
  have ln : kvs.length = ns.length := by
    have e := congrArg List.length en
    rw [List.length_map, List.length_map] at e
    exact e
  have items : ∀ (i : Nat) (k : Key) (y : Value), vs[i]? = some (k, y) → ∃ t : Tok, y = Value.int ((ns[i]?).getD 0) t := fun i k y h => by
    have il := (List.getElem?_eq_some_iff.mp h).1
    obtain ⟨kv, hk⟩ : ∃ kv, kvs[i]? = some kv := ⟨_, List.getElem?_eq_getElem (by omega)⟩
    obtain ⟨b, hb, r1, r2⟩ := paired_get (show Paired _ kvs vs from rel) hk
    rw [h] at hb
    cases hb
    have e1 : (kvs.map (·.2))[i]? = some kv.2 := by rw [List.getElem?_map, hk] <;> rfl
    rw [en, List.getElem?_map] at e1
    obtain ⟨n, hn, e2⟩ := Option.map_eq_some_iff.mp e1
    rw [hn]
    rw [← e2] at r2
    exact r2
  refine PySem.call_sum_walkAnyS ?_
  obtain ⟨oI, St, hit, W, st⟩ := (PySem.W.kdl_values (knd := mixKind X.prog X.w) (kvs := vs) (ep := ep) (r := v) (d := d)).iter X.A.in1 s (I.ok.hd hc) ⟨⟨_, av, rfl, rfl⟩, hat⟩
  refine hit _ _ ⟨s.heap.objs.size, _, _, _, vs.length, _, _, (fun i => (ns[i]?).getD 0), rfl, W.toS, st, fun b hb => ?_, fun i y ⟨k, hy⟩ => items i k y hy, fun s' t' hm => ?_⟩
  · show b < (s.heap.push oI).objs.size
    rw [Heap.size_push]
    rcases List.mem_cons.mp hb with e | hb
    · rw [e]
      exact Nat.lt_succ_self _
    · rw [List.mem_singleton.mp hb]
      exact Nat.lt_succ_of_lt hat.lt_size
  · have hk : ∀ b o, s.heap.get? b = some o → s'.heap.get? b = some o := fun b o e =>
      hm.heap b o (fun hI => absurd (Heap.lt_size e) (by rw [List.mem_singleton.mp hI]; exact Nat.lt_irrefl _)) (Heap.get?_push_of_some _ e)
    rw [PySem.Moved.eq_with hm]
    rw [show vs.length = ns.length by omega, preSum_list]
    exact ⟨.int ns.sum, H, I.kept (t' := s'.toks) hk, ⟨_, rfl⟩, q⟩
end
end L2


/-! list(d.values()) -/
namespace L2
open PySem PySem.Spec PyProof.Rows
section
variable {X : Cx}
theorem vals_at : ∀ {kvs : List (Key × V)} {vs : List (Key × Value)}, Paired (fun (p : Key × V) (q : Key × Value) => p.1 = q.1 ∧ RelV p.2 q.2) kvs vs → Vals (kvs.map (·.2)) (vs.map (·.2))
  | _, _, .nil => .nil
  | _, _, .cons h t => .cons h.2 (vals_at t)
theorem call_listV (hcalm : X.calm = true) : CallR X (.type "list") (fun xs H Q => ∃ (v d : Addr) (kvs : List (Key × V)), xs = [.ref v] ∧ H v = some (VwO v d) ∧ H d = some (.dK kvs) ∧ ∀ p, H p = none → Q (.ref p) (upd H p (.lst (kvs.map (·.2))))) := by
  intro pins s σ H xs us Q I r q
  obtain ⟨v, d, kvs, ex, ev, hd, q⟩ := q
  subst ex
  obtain ⟨u, eu, rx⟩ := vals1 r
  subst eu
  cases rx
  obtain ⟨z, lo, vs, rel, dd⟩ := dk_of I.hok hd
  obtain ⟨ep, hat⟩ := dd.dictAt
  have av := vwo_at I.hok ev
  refine PySem.W.kdl_call (PySem.W.kdl_values (knd := mixKind X.prog X.w) (kvs := vs) (ep := ep) (r := v) (d := d)) (I.ok.hd hcalm) ⟨⟨_, av, rfl, rfl⟩, hat⟩ (by rw [← rel.length]; exact z) fun h' tk acc c' hk hD hacc => ?_
  have el : acc.toList = vs.map (·.2) := by
    refine List.ext_getElem? fun j => ?_
    rw [Array.getElem?_toList, List.getElem?_map]
    cases e : acc[j]? with
    | none =>
      have h1 : acc.size ≤ j := Array.getElem?_eq_none_iff.mp e
      rw [List.getElem?_eq_none (by rw [← hacc.1]; exact h1)] <;> rfl
    | some y =>
      obtain ⟨k, hk'⟩ := hacc.2 j y e
      rw [hk'] <;> rfl
  have hv : Vals (kvs.map (·.2)) acc.toList := by
    rw [el]
    exact vals_at rel
  exact ⟨.ref s.heap.objs.size, upd H s.heap.objs.size (.lst (kvs.map (·.2))), I.laid (t' := tk) hk (Nat.le_refl _)
    (show ObjOk X.prog X.w _ _ _ (.lst (kvs.map (·.2))) from ⟨by rw [List.length_map]; exact z, acc.toList, c', hv, by rw [Array.toArray_toList]; exact hD⟩), rfl, q _ (I.hok.fresh (Nat.le_refl _))⟩
end
end L2


/-! the law's own counts, groups, proportions -/
namespace FT
open PySem L2 TL ClX LiI
theorem szZ_permC {ts t : List (Str × Str)} (o : TreeOk ts) (pt : ts.Perm t) (zs : List Str) (a : Str) : szZ t zs a = szZ ts zs a := by
  unfold szZ
  simp only [path_perm o.nd pt]
/-- the places of a group -/
def zAt (zs : List Str) (us : List Int) : List Str := us.map fun u => (zs[u.toNat]?).getD ""
theorem zAt_num {t : List (Str × Str)} {zs : List Str} {us : List Int} (h : ∀ u ∈ us, ∃ i : Nat, u = (i : Int) ∧ i < zs.length) (a : Str) : szZ t (zAt zs us) a = numI t zs us a := by
  unfold szZ zAt numI
  rw [List.filter_map, List.length_map]
  congr 2
  refine List.filter_congr fun u hu => ?_
  obtain ⟨i, rfl, il⟩ := h u hu
  unfold hasC
  rw [Function.comp_apply, show ((i : Int)).toNat = i by omega, List.getElem?_eq_getElem il] <;> rfl
theorem rwI_map {H : Hp} {r : Str → Addr} {f : Str → List Int} : ∀ {ks : List Str}, (∀ b ∈ ks, H (r b) = some (.lst ((f b).map V.int))) → RwI H (ks.map r) (ks.map f)
  | [], _ => .nil
  | b :: ks, h => .cons (h b (List.mem_cons_self ..)) (rwI_map fun c hc => h c (List.mem_cons_of_mem _ hc))
def spCountsL : Sp := fun vs H Q _ => ∃ (q l : Addr) (t : List (Str × Str)) (zs : List Str), vs = [.ref q, .ref l] ∧ Rd H q (.dK (prs t)) ∧ TreeOk t ∧ H l = some (.lst (zs.map V.str)) ∧ (∀ z ∈ zs, Pl t z) ∧
  ∀ (p : Addr) (ks : List Str) (H' : Hp), Same H H' → H p = none → ks.Perm (t.map Prod.fst) → H' p = some (.dK (tblI ks (szZ t zs))) → Q (.ref p) H'
def spGroupsL : Sp := fun vs H Q _ => ∃ (l : Addr) (ws : List Str), vs = [.ref l] ∧ H l = some (.lst (ws.map V.str)) ∧ ws.length ≤ 1000 ∧
  ∀ (p : Addr) (rs : List Addr) (ks : List Str) (H' : Hp), Same H H' → H p = none → H' p = some (.lst (rs.map V.ref)) → ks.Nodup → (∀ b, b ∈ ks ↔ b ∈ ws) → RwI H' rs (ks.map (atU ws)) → (∀ r ∈ rs, H r = none) → Q (.ref p) H'
def spPropL : Sp := fun vs H Q _ => ∃ (q l g wq : Addr) (t : List (Str × Str)) (zs : List Str) (rs : List Addr) (ls : List (List Int)) (ks : List Str), vs = [.ref q, .ref l, .ref g, .ref wq] ∧ H q = some (.dK (prs t)) ∧ TreeOk t ∧ H l = some (.lst (zs.map V.str)) ∧ (∀ z ∈ zs, Pl t z) ∧ 1 ≤ zs.length ∧ zs.length ≤ 1000 ∧
  H g = some (.lst (rs.map V.ref)) ∧ RwI H rs ls ∧ (∀ us ∈ ls, us.length ≤ 1000 ∧ ∀ u ∈ us, ∃ i : Nat, u = (i : Int) ∧ i < zs.length) ∧ ks.Perm (t.map Prod.fst) ∧ H wq = some (.dK (tblI ks (szZ t zs))) ∧
  ∀ H', Same H H' → Q (.bl (ls.all (grpOk t zs))) H'
section
variable {P : Program} {w : World} {K : PySem.W.Frag} {mg : Str → Option Value} {base : Heap}
abbrev NCo : List Str := ["_law_tree_here", "_law_places_here", "_law_flag", "_law_found", "_law_spot"]
theorem scCo : FnScope NCo ["_law_tree_here", "_law_places_here"] (defScope s__law_counts) := ⟨rfl, rfl, rfl, by decide +kernel, rfl, by decide +kernel, by decide +kernel⟩
theorem ok_countsL {f fP : Addr} {fd fdP : FuncData} (F : Fun K "_law_counts" "_law_counts" s__law_counts f fd) (T : Nm mg) (DP : Dn P w K mg base CX0 1 "_law_path" ["_law_tree_here", "_law_spot"] spPathL fP fdP) : FnOk P w K mg base CX0 2 f fd ["_law_tree_here", "_law_places_here"] spCountsL := by
  refine F.ok scCo (fun vs H Q E h => ?_) (fun cdv A outer s H vs Q E hr h => ?_)
  · obtain ⟨q, l, t, zs, rfl, _⟩ := h
    rfl
  · obtain ⟨q, l, t, zs, rfl, hq, o, hl, pl, k⟩ := h
    have hu := hu_of hr
    have nd := scCo.nd
    have big : 1000 ≤ sizeLine := by decide
    have few := o.few
    refine ⟨_, pss_cons (ps_set (i := 3) nd rfl (.inl rfl) (pe_callTy (call_dictP rfl) (by rfl) T.dct (by decide +kernel) (pa_cons (pe_lc (own := [("_law_flag", 2)]) (g := gName 2) (tt := tYes) rfl nd (pi_list (pe_callB (call_sortedD rfl) (by rfl) T.srt (by decide +kernel) (pa_cons (pv 0) pa_nil)))
          (blkOk_by (N := NCo) (sc := defScope s__law_counts) (by decide +kernel)) (fun _ _ _ _ _ => pg_name (i := 2) nd rfl (Or.inl rfl)) (fun _ _ _ _ _ => pts_nil) (fun _ _ _ _ _ => pe_tup (pa_cons (pv 2) (pa_cons pe_int pa_nil)))) pa_nil)))
      (pss_cons (ps_for PassesOwn.never rfl (pi_list (pv 1)) (pg_name (i := 4) nd rfl (.inl rfl))
        (pss_one (ps_for PassesOwn.never rfl (pi_list (pe_call DP.ok hr rfl DP.mgn DP.kp DP.bn .nil pass0 (pa_cons (pv 0) (pa_cons (pv 4) pa_nil)))) (pg_name (i := 2) nd rfl (.inl rfl))
          (pss_one (ps_dput hu (pv 3) (pv 2) (pe_op op_add (pe_dget hu (pv 3) (pv 2) (fun _ _ => rfl)) pe_int) rfl)))))
      (pss_one (ps_ret (pv 3)))), ?_⟩
    refine ⟨_, rfl, q, prs t, t.map Prod.fst, rfl, hq, prs_keys t, by rw [List.length_map]; omega, fun ks p perm srt np => ⟨p, rfl, ⟨_, SqL.of upd_same⟩, fun D nD => ?_⟩⟩
    obtain ⟨H1, e1⟩ : ∃ X, X = upd H p (.lst (ks.map V.str)) := ⟨_, rfl⟩
    have s1 : Same H H1 := e1 ▸ same_new np
    have a1 : H1 p = some (.lst (ks.map V.str)) := by rw [e1]; exact upd_same
    rw [← e1] at nD ⊢
    have lk := perm.length_eq
    rw [List.length_map] at lk
    have ndk : ks.Nodup := perm.nodup_iff.mpr o.nd
    refine lc_it walk_list (fun i H' => Same H1 H' ∧ ∃ rs : List Addr, H' D = some (.lst (rs.map V.ref)) ∧ PrG (fun _ => .int 0) H' rs (ks.take i)) ⟨same_new nD, [], upd_same, .nil⟩ (fun i H' _ z => SqL.of (z.1 _ _ a1)) ?_ ?_
    · intro i y Hz Ha hi ⟨z1, rs, hD, pr⟩ ⟨eb, ex⟩
      subst eb
      obtain ⟨a, ha, rfl⟩ := map_of ex
      have lr := pr.len
      rw [List.length_take] at lr
      refine ⟨rfl, ?_⟩
      refine ⟨_, rfl, by show 2 ≤ sizeLine; omega, fun tq ntq => ?_⟩
      have sq : Same Ha (upd Ha tq (.tup [.str a, .int 0])) := same_new ntq
      refine ⟨_, sq _ _ hD, by rw [List.length_map]; omega, (z1.trans sq).put nD, rs ++ [tq], by rw [upd_same, List.map_append] <;> rfl, ?_⟩
      rw [take_more ha]
      exact PrG.push (sq _ _ hD) (PrG.snoc upd_same (pr.mono sq))
    intro H2 ⟨z1, rs, hD, pr⟩
    rw [List.length_map, List.take_length] at pr
    refine ⟨D, rs, _, rfl, SqL.of hD, pr.kvs, fun pd npd => ?_⟩
    rw [merge_nd (by rw [map_fst]; exact ndk)]
    have s02 : Same H H2 := s1.trans z1
    have np0 : H pd = none := s02.free npd
    obtain ⟨H3, e3⟩ : ∃ X, X = upd H2 pd (.dK (kvT (ks.map fun a => (a, V.int 0)))) := ⟨_, rfl⟩
    have s03 : Same H H3 := e3 ▸ s02.trans (same_new npd)
    have hp3 : H3 pd = some (.dK (tblI ks (szZ t []))) := by rw [e3, upd_same] <;> rfl
    rw [← e3]
    refine ⟨_, rfl, l, rfl, ⟨_, SqL.of (s03 _ _ hl)⟩, ?_⟩
    refine for_it walk_list (fun j σ' H' => (∃ u2 u4, σ' = [some (.ref q), some (.ref l), u2, some (.ref pd), u4]) ∧ Same H H' ∧ H' pd = some (.dK (tblI ks (szZ t (zs.take j))))) ⟨⟨_, _, rfl⟩, s03, by rw [List.take_zero]; exact hp3⟩ (fun j σ' H' _ z => SqL.of (z.2.1 _ _ hl)) ?_ ?_
    · intro j y σ' Hz Ha hj ⟨⟨u2, u4, e⟩, sa, hpd⟩ ⟨eb, ex⟩
      subst e
      subst eb
      obtain ⟨z, hz, rfl⟩ := map_of ex
      have mz := pl z (List.mem_of_getElem? hz)
      refine ⟨_, rfl, _, rfl, q, z, t, rfl, Rd.same sa hq, o, mz, fun pt H4 s4 npt hpt => ?_⟩
      have pdt : pd ≠ pt := ne_of_none hpd npt
      refine ⟨pt, rfl, ⟨_, SqL.of hpt⟩, ?_⟩
      have nodup : (pathOf t z).reverse.Nodup := (List.reverse_perm _).nodup_iff.mpr (path_nd o mz)
      refine for_it walk_list (fun i σ' H' => (∃ u2, σ' = [some (.ref q), some (.ref l), u2, some (.ref pd), some (.str z)]) ∧ Same H H' ∧ H' pt = some (.lst ((pathOf t z).reverse.map V.str)) ∧ H' pd = some (.dK (tblI ks fun a => szZ t (zs.take j) a + if a ∈ (pathOf t z).reverse.take i then 1 else 0)))
        ⟨⟨_, rfl⟩, sa.trans s4, hpt, by rw [s4 _ _ hpd]; congr 2⟩ (fun i σ' H' _ w => SqL.of w.2.2.1) ?_ ?_
      · intro i y2 σ2 Hy Hb hi ⟨⟨u2', e⟩, sb, hpt', hpd'⟩ ⟨eb, ex⟩
        subst e
        subst eb
        obtain ⟨b, hb, rfl⟩ := map_of ex
        have mb0 := path_all o mz b (List.mem_reverse.mp (List.mem_of_getElem? hb))
        have mb : b ∈ ks := perm.mem_iff.mpr mb0
        have nb := nat_fresh nodup hb
        have dg : DGet Hb pd (.str b) (some (.int (szZ t (zs.take j) b + 0))) := by
          have w := DGet.k (k := Sum.inr b) hpd'
          rw [tblI_val mb, if_neg nb] at w
          exact w
        refine ⟨_, rfl, _, rfl, pd, _, rfl, dg, _, _, rfl, rfl, _, rfl, _, rfl, pd, _, rfl, DPut.k (k := Sum.inr b) hpd' (by rw [tblI_len]; omega), ?_⟩
        rw [tblI_put mb]
        refine ⟨⟨_, rfl⟩, sb.put np0, by rw [upd_ne pdt.symm]; exact hpt', ?_⟩
        rw [upd_same, take_more hb]
        congr 2
        refine tblI_congr fun a _ => ?_
        by_cases w : a = b
        · rw [if_pos w, w, if_pos (List.mem_append_right _ (List.mem_singleton_self _)), Int.add_zero]
        · rw [if_neg w]
          by_cases m : a ∈ (pathOf t z).reverse.take i
          · rw [if_pos m, if_pos (List.mem_append_left _ m)]
          · rw [if_neg m, if_neg fun h => (List.mem_append.mp h).elim m fun h => w (List.mem_singleton.mp h)]
      · intro σ2 Hb ⟨⟨u2', e⟩, sb, hpt', hpd'⟩
        subst e
        rw [List.length_map, List.take_length] at hpd'
        refine ⟨⟨_, _, rfl⟩, sb, ?_⟩
        rw [hpd']
        congr 2
        exact tblI_congr fun a _ => by rw [szZ_more hz]; simp only [List.mem_reverse]
    · intro σ' H4 ⟨⟨u2, u4, e⟩, sa, hpd⟩
      subst e
      rw [List.length_map, List.take_length] at hpd
      exact ⟨_, rfl, k pd ks H4 sa np0 perm hpd⟩
abbrev NGp : List Str := ["_law_other_places", "_law_found", "_law_user", "_law_spot"]
theorem scGp : FnScope NGp ["_law_other_places"] (defScope s__law_groups) := ⟨rfl, rfl, rfl, by decide +kernel, rfl, by decide +kernel, by decide +kernel⟩
theorem ok_groupsL {f : Addr} {fd : FuncData} (F : Fun K "_law_groups" "_law_groups" s__law_groups f fd) (T : Nm mg) : FnOk P w K mg base CX0 1 f fd ["_law_other_places"] spGroupsL := by
  refine F.ok scGp (fun vs H Q E h => ?_) (fun cdv A outer s H vs Q E hr h => ?_)
  · obtain ⟨l, ws, rfl, _⟩ := h
    rfl
  · obtain ⟨l, ws, rfl, hl, l1000, k⟩ := h
    have hu := hu_of hr
    have nd := scGp.nd
    have big : 2000 ≤ sizeLine := by decide
    refine ⟨_, pss_cons (ps_set (i := 1) nd rfl (.inl rfl) pe_dnewK)
      (pss_cons (ps_for PassesOwn.never rfl (pi_enum rfl T.enu (pa_cons (pv 0) pa_nil)) (pg_tup rfl (pgs_cons (pg_name (i := 2) nd rfl (.inl rfl)) (pgs_cons (pg_name (i := 3) nd rfl (.inl rfl)) pgs_nil)))
        (pss_one (ps_dput hu (pv 1) (pv 3) (pe_op op_cat (pe_dget2 hu (pv 1) (pv 3) (pe_lst pa_nil) ⟨rfl, rfl, rfl, rfl⟩) (pe_lst (pa_cons (pv 2) pa_nil))) rfl)))
      (pss_one (ps_ret (pe_callTy (call_listV rfl) (by rfl) T.lst (by decide +kernel) (pa_cons (pe_bm0 PySem.F.plainAttrs_dict PySem.F.slot_dict_values PySem.F.type_dict_values mt_dvals (pv 1)) pa_nil))))), ?_⟩
    refine fun D nD => ⟨_, rfl, l, _, rfl, SqL.of ((same_new nD) _ _ hl), ?_⟩
    obtain ⟨H1, e1⟩ : ∃ X, X = upd H D (.dK []) := ⟨_, rfl⟩
    have s1 : Same H H1 := e1 ▸ same_new nD
    have a1 : H1 D = some (.dK (tblV [] fun _ => .ref D)) := by rw [e1]; exact upd_same
    rw [← e1]
    refine for_it walk_enum (fun j σ' H' => (∃ u2 u3, σ' = [some (.ref l), some (.ref D), u2, u3]) ∧ Same H H' ∧ ∃ (ks : List Str) (r : Str → Addr), H' D = some (.dK (tblV ks fun b => .ref (r b))) ∧ ks.Nodup ∧ (∀ b, b ∈ ks ↔ b ∈ ws.take j) ∧ ∀ b ∈ ks, H' (r b) = some (.lst ((selU j (atC ws b)).map V.int)) ∧ H (r b) = none)
      ⟨⟨_, _, rfl⟩, s1, [], (fun _ => D), a1, List.nodup_nil, fun b => by rw [List.take_zero], fun b hb => nomatch hb⟩ (fun j σ' H' _ z => SqL.of (z.2.1 _ _ hl)) ?_ ?_
    · intro j y σ' Ha Hb hj ⟨⟨u2, u3, e⟩, sa, ks, r, hD, ndk, mk, rw2⟩ ⟨T', y1, y2, eT, nT, eH, ey, ez⟩
      subst e
      subst eT
      subst eH
      cases ey
      have rw1 := fun b hb => (rw2 b hb).1
      obtain ⟨b, hb, rfl⟩ := map_of (f := V.str) (l := ws) (show (ws.map V.str)[j]? = some y2 from ez)
      have jl := (List.getElem?_eq_some_iff.mp hb).1
      have sT : Same Ha (upd Ha T' (.tup [.int (j : Int), .str b])) := same_new nT
      have lks : ks.length ≤ j := by
        have := sub_len ks (ws.take j) ndk fun x hx => (mk x).mp hx
        rw [List.length_take] at this
        omega
      have ec : ∀ c, atC ws c j = decide (b = c) := fun c => by
        unfold atC
        rw [hb]
        by_cases e : b = c
        · rw [decide_eq_true e, decide_eq_true (by rw [e])]
        · rw [decide_eq_false e, decide_eq_false fun z => e (Option.some.inj z)]
      refine ⟨T', _, rfl, .inl (.inl upd_same), rfl, _, _, rfl, _, _, rfl, rfl, ?_⟩
      obtain ⟨Hc, ec0⟩ : ∃ X, X = upd Ha T' (.tup [.int (j : Int), .str b]) := ⟨_, rfl⟩
      rw [← ec0] at sT ⊢
      have hDc := sT _ _ hD
      have nm : ∀ c, c ∈ ws.take (j + 1) ↔ c ∈ ws.take j ∨ c = b := fun c => by rw [take_more hb, List.mem_append, List.mem_singleton]
      have old : b ∉ ks → selU j (atC ws b) = [] := fun h => by
        cases e : selU j (atC ws b) with
        | nil => rfl
        | cons u t =>
          obtain ⟨i, _, il, ai⟩ := mem_selU.mp (show u ∈ selU j (atC ws b) by rw [e]; exact List.mem_cons_self ..)
          unfold atC at ai
          exact absurd ((mk b).mpr (List.mem_iff_getElem?.mpr ⟨i, by rw [List.getElem?_take, if_pos il]; exact of_decide_eq_true ai⟩)) h
      -- value first
      refine ⟨_, rfl, D, rfl, .inl ⟨_, .inl hDc⟩, _, rfl, by show 0 ≤ sizeLine; omega, fun e0 ne0 => ?_⟩
      have sE : Same Hc (upd Hc e0 (.lst [])) := same_new ne0
      obtain ⟨Hd, ed0⟩ : ∃ X, X = upd Hc e0 (.lst []) := ⟨_, rfl⟩
      have he0 : Hd e0 = some (.lst (([] : List Int).map V.int)) := by rw [ed0]; exact upd_same
      rw [← ed0] at sE ⊢
      have hDd := sE _ _ hDc
      obtain ⟨src, hsrc, hget⟩ : ∃ src, Hd src = some (.lst ((selU j (atC ws b)).map V.int)) ∧ ∃ o, DGet Hd D (.str b) o ∧ o.getD (.ref e0) = .ref src := by
        have w := DGet.k (k := Sum.inr b) hDd
        by_cases m : b ∈ ks
        · rw [tblV_val m] at w
          exact ⟨r b, sE _ _ (sT _ _ (rw1 b m)), _, w, rfl⟩
        · rw [tblV_none m] at w
          exact ⟨e0, by rw [old m]; exact he0, _, w, rfl⟩
      obtain ⟨oo, hoo, eoo⟩ := hget
      refine ⟨oo, hoo, ?_⟩
      rw [eoo]
      refine ⟨_, rfl, by show 1 ≤ sizeLine; omega, fun v1 nv1 => ⟨src, v1, (selU j (atC ws b)).map V.int, [V.int (j : Int)], rfl, rfl, by rw [upd_ne (ne_of_none hsrc nv1)]; exact hsrc, upd_same, ?_, fun pn npn => ?_⟩⟩
      · have := selU_len j (atC ws b)
        rw [List.length_map]
        show _ + 1 ≤ sizeLine
        omega
      have sV := same_new (o := .lst [V.int (j : Int)]) nv1
      obtain ⟨He, ee0⟩ : ∃ X, X = upd (upd Hd v1 (.lst [V.int (j : Int)])) pn (.lst ((selU j (atC ws b)).map V.int ++ [V.int (j : Int)])) := ⟨_, rfl⟩
      have sF : Same Hd He := ee0 ▸ sV.trans (same_new npn)
      have hpn : He pn = some (.lst ((selU (j + 1) (atC ws b)).map V.int)) := by
        rw [ee0, upd_same, selU_more, ec b, decide_eq_true rfl, if_pos rfl, List.map_append] <;> rfl
      rw [← ee0]
      have npn0 : H pn = none := (sa.trans ((sT.trans sE).trans sV)).free npn
      have sAll : Same Ha He := (sT.trans sE).trans sF
      have hDe := sAll _ _ hD
      have pnD : pn ≠ D := (ne_of_none (sV _ _ hDd) npn).symm
      have more : ∀ c, c ≠ b → selU (j + 1) (atC ws c) = selU j (atC ws c) := fun c n => by
        rw [selU_more, ec c, decide_eq_false (fun z => n z.symm), if_neg (by decide), List.append_nil]
      refine ⟨_, rfl, _, rfl, D, _, rfl, DPut.k (k := Sum.inr b) hDe (by rw [tblV_len]; omega), ⟨_, _, rfl⟩, ?_⟩
      have s9 : Same H (upd He D (.dK (putK (tblV ks fun b => .ref (r b)) (Sum.inr b) (.ref pn)))) := (sa.trans sAll).put nD
      refine ⟨s9, ?_⟩
      have offD : ∀ {c : Str}, c ∈ ks → r c ≠ D := fun {c} m => ne_of (rw1 c m) hD (by intro z; cases z)
      obtain ⟨r', rb, rc⟩ : ∃ r' : Str → Addr, r' b = pn ∧ ∀ c, c ≠ b → r' c = r c := ⟨fun c => if c = b then pn else r c, if_pos rfl, fun c n => if_neg n⟩
      by_cases m : b ∈ ks
      · refine ⟨ks, r', ?_, ndk, fun c => ?_, fun c hc => ?_⟩
        · rw [upd_same, tblV_put m]
          congr 2
          refine tblV_congr fun c _ => ?_
          by_cases e : c = b
          · rw [if_pos e, e, rb]
          · rw [if_neg e, rc c e]
        · rw [nm, mk]
          exact ⟨.inl, fun h => h.elim id fun e => by rw [e]; exact (mk b).mp m⟩
        · by_cases e : c = b
          · rw [e, rb, upd_ne pnD]
            exact ⟨hpn, npn0⟩
          · rw [rc c e, upd_ne (offD hc), more c e]
            exact ⟨sAll _ _ (rw1 c hc), (rw2 c hc).2⟩
      · refine ⟨ks ++ [b], r', ?_, ?_, fun c => ?_, fun c hc => ?_⟩
        · rw [upd_same]
          rw [tblV_congr (g' := fun c => V.ref (r' c)) fun c hc => by rw [rc c fun e => m (by rw [← e]; exact hc)]]
          rw [tblV_snoc m (by rw [rb])]
        · exact List.nodup_append.mpr ⟨ndk, by simp, fun x hx y hy => by rw [List.mem_singleton.mp hy]; exact fun e => m (by rw [← e]; exact hx)⟩
        · rw [nm, List.mem_append, List.mem_singleton, mk]
        · rcases List.mem_append.mp hc with h | h
          · have e : c ≠ b := fun z => m (by rw [← z]; exact h)
            rw [rc c e, upd_ne (offD h), more c e]
            exact ⟨sAll _ _ (rw1 c h), (rw2 c h).2⟩
          · have e := List.mem_singleton.mp h
            rw [e, rb, upd_ne pnD]
            exact ⟨hpn, npn0⟩
    · intro σ' H4 ⟨⟨u2, u3, e⟩, sa, ks, r, hD, ndk, mk, rw2⟩
      subst e
      rw [List.length_map, List.take_length] at mk
      rw [List.length_map] at rw2
      have rw1 := fun b hb => (rw2 b hb).1
      refine ⟨_, rfl, .inr (.inr (.inl ⟨rfl, .inl ⟨_, hD⟩⟩)), D, _, rfl, rfl, hD, fun vw nvw => ⟨vw, D, _, rfl, upd_same, by rw [upd_ne (ne_of_none hD nvw)]; exact hD, fun p np => ?_⟩⟩
      have s5 := same_new (o := VwO vw D) nvw
      have s6 := (sa.trans s5).trans (same_new (o := .lst ((tblV ks fun b => V.ref (r b)).map (·.2))) np)
      refine k p (ks.map r) ks _ s6 ((sa.trans s5).free np) ?_ ndk mk ?_ fun x hx => by
        obtain ⟨b, hb, rfl⟩ := List.mem_map.mp hx
        exact (rw2 b hb).2
      · rw [upd_same]
        congr 2
        unfold tblV kvT
        rw [List.map_map, List.map_map, List.map_map] <;> rfl
      · exact rwI_map fun b hb => (s5.trans (same_new np)) _ _ (rw1 b hb)
abbrev NPr : List Str := ["_law_tree_here", "_law_places_here", "_law_groups_here", "_law_wanted", "_law_group", "_law_numbers", "_law_flag", "_law_share", "_law_user"]
theorem scPr : FnScope NPr ["_law_tree_here", "_law_places_here", "_law_groups_here", "_law_wanted"] (defScope s__law_in_proportion) := ⟨rfl, rfl, rfl, by decide +kernel, rfl, by decide +kernel, by decide +kernel⟩
theorem ok_propL {f fC : Addr} {fd fdC : FuncData} (F : Fun K "_law_in_proportion" "_law_in_proportion" s__law_in_proportion f fd) (T : Nm mg) (DC : Dn P w K mg base CX0 2 "_law_counts" ["_law_tree_here", "_law_places_here"] spCountsL fC fdC) :
    FnOk P w K mg base CX0 3 f fd ["_law_tree_here", "_law_places_here", "_law_groups_here", "_law_wanted"] spPropL := by
  refine F.ok scPr (fun vs H Q E h => ?_) (fun cdv A outer s H vs Q E hr h => ?_)
  · obtain ⟨q, l, g, wq, t, zs, rs, ls, ks, rfl, _⟩ := h
    rfl
  · obtain ⟨q, l, g, wq, t, zs, rs, ls, ks, rfl, hq, o, hl, pl, l1, l2, hg, rw0, gi, pk, hw, k⟩ := h
    have hu := hu_of hr
    have nd := scPr.nd
    have big : 2000 ≤ sizeLine := by decide
    have few := o.few
    refine ⟨_, pss_cons (ps_for PassesOwn.never rfl (pi_list (pv 2)) (pg_name (i := 4) nd rfl (.inl rfl))
        (pss_cons (ps_set (i := 5) nd rfl (.inl rfl) (pe_call DC.ok hr rfl DC.mgn DC.kp DC.bn .nil pass0 (pa_cons (pv 0) (pa_cons (pe_lc (own := [("_law_user", 8)]) (g := gName 8) (tt := tYes) (te := tOp (rIxL K) (tVar 1) (tVar 8)) rfl nd (pi_list (pv 4))
          (blkOk_by (N := NPr) (sc := defScope s__law_in_proportion) (by decide +kernel)) (fun _ _ _ _ _ => pg_name (i := 8) nd rfl (Or.inl rfl)) (fun _ _ _ _ _ => pts_nil) (fun _ _ _ _ _ => pe_ix ix_list (pv 1) (pv 8) (fun _ _ => rfl))) pa_nil))))
        (pss_one (ps_lock (ps_for PassesOwn.never rfl (pi_keys (pv 0)) (pg_name (i := 6) nd rfl (.inl rfl))
          (pss_cons (ps_set (i := 7) nd rfl (.inl rfl) (pe_op op_mul (pe_dget hu (pv 3) (pv 6) (fun _ _ => rfl)) (pe_callB call_len (by rfl) T.len PySem.boot_len (pa_cons (pv 4) pa_nil))))
          (pss_one (ps_if (pt_cmpR op_ge (pe_callB call_abs (by rfl) T.abs (by decide +kernel) (pa_cons (pe_op op_sub (pe_op op_mul (pe_dget hu (pv 5) (pv 6) (fun _ _ => rfl)) (pe_callB call_len (by rfl) T.len PySem.boot_len (pa_cons (pv 1) pa_nil))) (pv 7)) pa_nil)) (pe_callB call_len (by rfl) T.len PySem.boot_len (pa_cons (pv 1) pa_nil)) (nomark _))
            (pss_one (ps_ret pe_bl)) pss_nil))))))))
      (pss_one (ps_ret pe_bl)), ?_⟩
    refine ⟨_, rfl, g, rfl, ⟨_, SqL.of hg⟩, ?_⟩
    refine for_it walk_list (fun j σ' H' => (∃ u4 u5 u6 u7, σ' = [some (.ref q), some (.ref l), some (.ref g), some (.ref wq), u4, u5, u6, u7, none]) ∧ Same H H' ∧ (ls.take j).all (grpOk t zs) = true) ⟨⟨_, _, _, _, rfl⟩, Same.refl, rfl⟩ (fun j σ' H' _ z => SqL.of (z.2.1 _ _ hg)) ?_ ?_
    · intro j y σ' Hz Ha hj ⟨⟨u4, u5, u6, u7, e⟩, sa, al⟩ ⟨eb, ex⟩
      subst e
      subst eb
      obtain ⟨r, hr', rfl⟩ := map_of ex
      obtain ⟨us, hus, hrl0⟩ := rw0.at_ hr'
      have mus := List.mem_of_getElem? hus
      obtain ⟨lus, gus⟩ := gi us mus
      have hrl := sa _ _ hrl0
      have hla := sa _ _ hl
      refine ⟨_, rfl, _, rfl, r, rfl, ⟨_, SqL.of hrl⟩, fun D nD => ?_⟩
      refine lc_it walk_list (fun i H' => Same Ha H' ∧ H' D = some (.lst ((zAt zs (us.take i)).map V.str))) ⟨same_new nD, upd_same⟩ (fun i H' _ z => SqL.of (z.1 _ _ hrl)) ?_ ?_
      · intro i y2 Hy Hb hi ⟨z1, hD⟩ ⟨eb, ex⟩
        subst eb
        obtain ⟨u, hu1, rfl⟩ := map_of ex
        obtain ⟨i', rfl, il⟩ := gus u (List.mem_of_getElem? hu1)
        have hz : zs[i']? = some zs[i'] := List.getElem?_eq_getElem il
        refine ⟨rfl, ?_⟩
        refine ⟨_, rfl, _, rfl, l, _, _, .str zs[i'], rfl, rfl, SqL.of (z1 _ _ hla), atI_nat (map_at hz), ?_⟩
        refine ⟨_, hD, ?_, z1.put nD, ?_⟩
        · unfold zAt
          rw [List.length_map, List.length_map, List.length_take]
          omega
        · rw [upd_same, take_more hu1]
          unfold zAt
          rw [List.map_append, List.map_append, List.map_cons, List.map_cons, show ((i' : Int)).toNat = i' by omega, hz] <;> rfl
      intro H1 ⟨z1, hD⟩
      rw [List.length_map, List.take_length] at hD
      have sA1 := sa.trans z1
      refine ⟨q, D, t, zAt zs us, rfl, .inl (sA1 _ _ hq), o, hD, fun z hz => ?_, fun np kn H2 s2 nnp pkn hnp => ?_⟩
      · unfold zAt at hz
        obtain ⟨u, mu, rfl⟩ := List.mem_map.mp hz
        obtain ⟨i', rfl, il⟩ := gus u mu
        rw [show ((i' : Int)).toNat = i' by omega, List.getElem?_eq_getElem il]
        exact pl _ (List.getElem_mem il)
      have s02 := sA1.trans s2
      have hq2 := s02 _ _ hq
      have hw2 := s02 _ _ hw
      have hl2 := s02 _ _ hl
      have hr2 := (z1.trans s2) _ _ hrl
      have wqq : wq ≠ q := ne_of hw hq (by
        intro z
        have z := HO.dK.inj z
        have l1 := pk.length_eq
        cases t with
        | nil => exact absurd o.one (by decide)
        | cons x t =>
          cases ks with
          | nil => cases l1
          | cons y l => cases z)
      have lq : l ≠ q := ne_of hl hq (by intro z; cases z)
      have rq : r ≠ q := ne_of hrl0 hq (by intro z; cases z)
      have npq : np ≠ q := (ne_of_none (sA1 _ _ hq) nnp).symm
      have one : ∀ b : Bool, b = ((t.map Prod.fst).all fun a => rdOk (szZ t zs a) (us.length : Int) (zs.length : Int) (numI t zs us a)) → b = grpOk t zs us := fun b e => e
      refine ⟨q, _, hq2, trivial, fun od => ⟨_, rfl, q, od, rfl, .inl ⟨_, upd_same, ?_⟩⟩⟩
      obtain ⟨Hl, el⟩ : ∃ X, X = upd H2 q (.frz od (.dK (prs t))) := ⟨_, rfl⟩
      have hql : Hl q = some (.frz od (.dK (prs t))) := by rw [el, upd_same]
      have kl : ∀ x u, x ≠ q → H2 x = some u → Hl x = some u := fun x u n e => by rw [el, upd_ne n]; exact e
      rw [← el]
      refine for_it walk_keys (fun i σ' H' => (∃ u6 u7, σ' = [some (.ref q), some (.ref l), some (.ref g), some (.ref wq), some (.ref r), some (.ref np), u6, u7, none]) ∧ H' q = some (.frz od (.dK (prs t))) ∧ (∀ x u, x ≠ q → H2 x = some u → H' x = some u) ∧ ((t.map Prod.fst).take i).all (fun a => rdOk (szZ t zs a) (us.length : Int) (zs.length : Int) (numI t zs us a)) = true)
        ⟨⟨_, _, rfl⟩, hql, kl, rfl⟩ (fun i σ' H' _ z => z.2.1) ?_ ?_
      · intro i y3 σ2 Hy Hb hi ⟨⟨u6, u7, e⟩, aq, sb, al2⟩ ⟨eb, kk, vv, hk, ey⟩
        subst e
        subst eb
        subst ey
        obtain ⟨⟨a, pa⟩, hp, ee⟩ : ∃ x : Str × Str, t[i]? = some x ∧ (kk, vv) = (Sum.inr x.1, V.str x.2) := by
          unfold prs kvT at hk
          rw [List.map_map, List.getElem?_map] at hk
          obtain ⟨x, hx, z⟩ := Option.map_eq_some_iff.mp hk
          exact ⟨x, hx, z.symm⟩
        cases ee
        rw [show kV (Sum.inr a) = V.str a from rfl]
        have ma : a ∈ t.map Prod.fst := List.mem_map.mpr ⟨_, List.mem_of_getElem? hp, rfl⟩
        have hja : (t.map Prod.fst)[i]? = some a := by rw [List.getElem?_map, hp] <;> rfl
        have dg : DGet Hb wq (.str a) (some (.int (szZ t zs a))) := by
          have w := DGet.k (k := Sum.inr a) (sb _ _ wqq hw2)
          rw [tblI_val (pk.mem_iff.mpr ma)] at w
          exact w
        have dg2 : DGet Hb np (.str a) (some (.int (numI t zs us a))) := by
          have w := DGet.k (k := Sum.inr a) (sb _ _ npq hnp)
          rw [tblI_val (pkn.mem_iff.mpr ma), zAt_num gus] at w
          exact w
        refine ⟨_, rfl, _, rfl, wq, _, rfl, dg, _, rfl, _, _, rfl, .inl ⟨_, SqL.of (sb _ _ rq hr2), rfl⟩, ?_⟩
        rw [List.length_map]
        refine ⟨_, _, rfl, rfl, .inr ⟨by omega, by omega⟩, ?_⟩
        refine ⟨_, rfl, _, rfl, np, _, rfl, dg2, _, rfl, _, _, rfl, .inl ⟨_, SqL.of (sb _ _ lq hl2), rfl⟩, ?_⟩
        rw [List.length_map]
        refine ⟨_, _, rfl, rfl, .inr ⟨by omega, by omega⟩, _, rfl, _, _, rfl, rfl, _, rfl, ?_⟩
        refine ⟨_, rfl, _, _, rfl, .inl ⟨_, SqL.of (sb _ _ lq hl2), rfl⟩, ?_⟩
        rw [List.length_map]
        refine ⟨_, _, rfl, rfl, _, rfl, ?_⟩
        have t0 : (0 : Int) < (zs.length : Int) := by omega
        have iff := rdOk_iff (s := szZ t zs a) (h := (us.length : Int)) (n := numI t zs us a) t0
        by_cases c : rdOk (szZ t zs a) (us.length : Int) (zs.length : Int) (numI t zs us a) = true
        · rw [c] at iff
          obtain ⟨c1, c2⟩ := of_decide_eq_true iff.symm
          rw [decide_eq_false (by split <;> omega)]
          refine iteF ⟨⟨_, _, rfl⟩, aq, sb, ?_⟩
          rw [take_more hja, List.all_append, al2, Bool.true_and]
          show (rdOk _ _ _ _ && true) = true
          rw [c] <;> rfl
        · rw [Bool.eq_false_iff.mpr c] at iff
          have nc := of_decide_eq_false iff.symm
          rw [decide_eq_true (by split <;> omega)]
          show if true = true then _ else _
          rw [if_pos rfl]
          have fin : ls.all (grpOk t zs) = false := by
            rw [List.all_eq_false]
            refine ⟨_, mus, ?_⟩
            unfold grpOk
            rw [Bool.not_eq_true, List.all_eq_false]
            exact ⟨a, ma, c⟩
          rw [fin] at k
          refine ⟨aq, k _ fun x u e => ?_⟩
          by_cases z : x = q
          · subst z
            rw [hq] at e
            rw [upd_same]
            exact e
          · rw [upd_ne z]
            exact sb x u z (s02 _ _ e)
      · intro σ2 Hb ⟨⟨u6, u7, e⟩, aq, sb, al2⟩
        subst e
        rw [show (prs t).length = (t.map Prod.fst).length by rw [prs_len, List.length_map], List.take_length] at al2
        refine ⟨aq, ⟨_, _, _, _, rfl⟩, fun x u e => ?_, ?_⟩
        · by_cases z : x = q
          · subst z
            rw [hq] at e
            rw [upd_same]
            exact e
          · rw [upd_ne z]
            exact sb x u z (s02 _ _ e)
        · rw [take_more hus, List.all_append, al, Bool.true_and]
          show (grpOk t zs us && true) = true
          unfold grpOk
          rw [al2] <;> rfl
    · intro σ' H4 ⟨⟨u4, u5, u6, u7, e⟩, sa, al⟩
      subst e
      rw [List.length_map, rw0.len, List.take_length] at al
      rw [al] at k
      exact k H4 sa
end
end FT


/-! the law's split: places dealt to groups -/
namespace FT
open PySem L2 TL ClX LiI
theorem sum_nnC {f : Str → Int} : ∀ {l : List Str}, (∀ a ∈ l, 0 ≤ f a) → 0 ≤ (l.map f).sum
  | [], _ => Int.le_refl _
  | a :: l, h => by
    rw [List.map_cons, List.sum_cons]
    have h1 := h a (List.mem_cons_self ..)
    have h2 := sum_nnC (f := f) (l := l) fun c hc => h c (List.mem_cons_of_mem _ hc)
    omega
theorem le_sumC {f : Str → Int} {b : Str} : ∀ {l : List Str}, (∀ a ∈ l, 0 ≤ f a) → b ∈ l → f b ≤ (l.map f).sum
  | a :: l, h, m => by
    rw [List.map_cons, List.sum_cons]
    have h1 := h a (List.mem_cons_self ..)
    have h2 : ∀ c ∈ l, 0 ≤ f c := fun b hb => h b (List.mem_cons_of_mem a hb)
    rcases List.mem_cons.mp m with rfl | m
    · have := sum_nnC h2
      omega
    · have := le_sumC h2 m
      omega
theorem fea_leC {ts : List (Str × Str)} {n : Int} {s : Str → Int} (o : TreeOk ts) (f : Fea ts n s) : ∀ a ∈ ts.map Prod.fst, s a ≤ n := by
  obtain ⟨rk, r⟩ := o.up
  have km : ∀ {a p : Str}, (a, p) ∈ ts → a ∈ kids ts p := fun {a p} h => by
    unfold kids
    exact List.mem_map.mpr ⟨(a, p), List.mem_filter.mpr ⟨h, decide_eq_true rfl⟩, rfl⟩
  have key : ∀ (m : Nat) (a : Str), a ∈ ts.map Prod.fst → rk a ≤ m → s a ≤ n := by
    intro m
    induction m with
    | zero =>
      intro a ha hm
      obtain ⟨p, hp, h, _⟩ := o.step r ha
      rcases h with e | ⟨_, l⟩
      · have := f.res p (by rw [e]; exact List.mem_cons_self ..)
        have l1 := le_sumC (f := s) (fun c hc => f.nn c (kids_sub hc)) (km (par_mem hp))
        unfold resid at this
        rw [if_pos e] at this
        omega
      · omega
    | succ m ih =>
      intro a ha hm
      obtain ⟨p, hp, h, _⟩ := o.step r ha
      have l1 := le_sumC (f := s) (fun c hc => f.nn c (kids_sub hc)) (km (par_mem hp))
      rcases h with e | ⟨mp, l⟩
      · have := f.res p (by rw [e]; exact List.mem_cons_self ..)
        unfold resid at this
        rw [if_pos e] at this
        omega
      · have := f.res p (List.mem_cons_of_mem _ mp)
        have ne : p ≠ "" := fun z => o.root (by rw [← z]; exact mp)
        unfold resid at this
        rw [if_neg ne] at this
        have := ih p mp (by omega)
        omega
  exact fun a ha => key (rk a) a ha (Nat.le_refl _)
theorem rep_strsC (n : Nat) (a : Str) : (List.replicate n [V.str a]).flatten = (List.replicate n a).map V.str := by
  rw [List.map_replicate]
  induction n with
  | zero => rfl
  | succ n ih => rw [List.replicate_succ, List.flatten_cons, ih, List.replicate_succ] <;> rfl
def spSplit : Sp := fun vs H Q _ => ∃ (d q wq g : Addr) (n : Nat) (t : List (Str × Str)) (ks : List Str) (sz : Str → Int) (rs : List Addr) (ls : List (List Int)), vs = [.ref d, .ref q, .ref wq, .ref g, .int (n : Int)] ∧ H q = some (.dK (prs t)) ∧ TreeOk t ∧ 1 ≤ n ∧ n ≤ 60 ∧ Fea t (n : Int) sz ∧ ks.Perm (t.map Prod.fst) ∧ H wq = some (.dK (tblI ks sz)) ∧
  H g = some (.lst (rs.map V.ref)) ∧ RwI H rs ls ∧ ls.length ≤ 60 ∧ (∀ us ∈ ls, ∀ u ∈ us, ∃ i : Nat, u = (i : Int) ∧ i < n) ∧
  ∀ (p : Addr) (zs : List Str) (H' : Hp), Same H H' → H p = none → zs.length = n → (∀ z ∈ zs, Pl t z) → H' p = some (.lst (zs.map V.str)) → Q (.ref p) H'
section
variable {P : Program} {w : World} {K : PySem.W.Frag} {mg : Str → Option Value} {base : Heap}
abbrev NSp : List Str := ["_law_state", "_law_tree_here", "_law_wanted", "_law_groups_here", "_law_users", "_law_line", "_law_left", "_law_flag", "_law_spot", "_law_order", "_law_found", "_law_step", "_law_user", "_law_group"]
theorem scSp : FnScope NSp ["_law_state", "_law_tree_here", "_law_wanted", "_law_groups_here", "_law_users"] (defScope s__law_split) := ⟨rfl, rfl, rfl, by decide +kernel, rfl, by decide +kernel, by decide +kernel⟩
theorem ok_split {f : Addr} {fd : FuncData} (F : Fun K "_law_split" "_law_split" s__law_split f fd) (T : Nm mg) : FnOk P w K mg base CX0 1 f fd ["_law_state", "_law_tree_here", "_law_wanted", "_law_groups_here", "_law_users"] spSplit := by
  refine F.ok scSp (fun vs H Q E h => ?_) (fun cdv A outer s H vs Q E hr h => ?_)
  · obtain ⟨d, q, wq, g, n, t, ks, sz, rs, ls, rfl, _⟩ := h
    rfl
  · obtain ⟨d, q, wq, g, n, t, ks, sz, rs, ls, rfl, hq, o, n1, n60, fe, pk, hw, hg, rw0, l60, gi, k⟩ := h
    have hu := hu_of hr
    have nd := scSp.nd
    have big : 100000 ≤ sizeLine := by decide
    have few := o.few
    refine ⟨_, pss_cons (ps_par (i := 5) (j := 6) rfl nd rfl rfl (by decide) rfl rfl (pa_cons (pe_lst pa_nil) (pa_cons (pe_callTy call_dictD (by rfl) T.dct (by decide +kernel) (pa_cons (pv 2) pa_nil)) pa_nil)) (by rfl))
      (pss_cons (ps_dput hu (pv 6) pe_str (pv 4) rfl)
      (pss_cons (ps_lock (ps_for PassesOwn.never rfl (pi_keys (pv 2)) (pg_name (i := 7) nd rfl (.inl rfl))
        (pss_one (ps_dput hu (pv 6) (pe_dget hu (pv 1) (pv 7) (fun _ _ => rfl)) (pe_op op_sub (pe_dget hu (pv 6) (pe_dget hu (pv 1) (pv 7) (fun _ _ => rfl)) (fun _ _ => rfl)) (pe_dget hu (pv 2) (pv 7) (fun _ _ => rfl))) rfl))))
      (pss_cons (ps_lock (ps_for PassesOwn.never rfl (pi_keys (pv 6)) (pg_name (i := 8) nd rfl (.inl rfl))
        (pss_one (ps_set (i := 5) nd rfl (.inl rfl) (pe_op op_cat (pv 5) (pe_op op_rep (pe_lst (pa_cons (pv 8) pa_nil)) (pe_dget hu (pv 6) (pv 8) (fun _ _ => rfl))))))))
      (pss_cons (ps_par (i := 9) (j := 10) rfl nd rfl rfl (by decide) rfl rfl (pa_cons (pe_lst pa_nil) (pa_cons (pe_op op_rep (pe_lst (pa_cons pe_str pa_nil)) (pv 4)) pa_nil)) (by rfl))
      (pss_cons (ps_for PassesOwn.never rfl (pi_range1 (by rfl) T.rng (pa_cons (pv 4) pa_nil)) (pg_name (i := 11) nd rfl (.inr rfl))
        (pss_one (ps_set (i := 9) nd rfl (.inl rfl) (pe_op op_cat (pv 9) (pe_lc (own := [("_law_group", 13)]) (g := gName 13) (tt := tTest (tOp (rI0 fun i j => .bl (decide (i < j))) (tVar 11) (tCB (rLen K) (tCons (tVar 13) tNil)))) (te := tOp (rIxL K) (tVar 13) (tVar 11)) rfl nd (pi_list (pv 3))
          (blkOk_by (N := NSp) (sc := defScope s__law_split) (by decide +kernel)) (fun _ _ _ _ _ => pg_name (i := 13) nd rfl (Or.inl rfl)) (fun _ _ _ _ _ => pts_one (pt_cmpR op_lt (pv 11) (pe_callB call_len (by rfl) T.len PySem.boot_len (pa_cons (pv 13) pa_nil)) (nomark _))) (fun _ _ _ _ _ => pe_ix ix_list (pv 13) (pv 11) (fun _ _ => rfl)))))))
      (pss_cons (ps_for PassesOwn.never rfl (pi_zip (by rfl) T.zip (pa_cons (pv 9) (pa_cons (pv 5) pa_nil))) (pg_tup rfl (pgs_cons (pg_name (i := 12) nd rfl (.inl rfl)) (pgs_cons (pg_name (i := 8) nd rfl (.inl rfl)) pgs_nil)))
        (pss_one (ps_asg (pv 8) (pg_sub (pv 10) (pv 12) set_list))))
      (pss_one (ps_ret (pv 10))))))))), ?_⟩
    have wqq : wq ≠ q := ne_of hw hq (by
      intro z
      have z := HO.dK.inj z
      have l1 := pk.length_eq
      cases t with
      | nil => exact absurd o.one (by decide)
      | cons x t =>
        cases ks with
        | nil => cases l1
        | cons y l => cases z)
    have lk := pk.length_eq
    rw [List.length_map] at lk
    have nrk : ("" : Str) ∉ ks := fun z => o.root (pk.mem_iff.mp z)
    have szn : ∀ a ∈ ks, 0 ≤ sz a ∧ sz a ≤ 60 := fun a ha => ⟨fe.nn a (pk.mem_iff.mp ha), by have := fea_leC o fe a (pk.mem_iff.mp ha); omega⟩
    refine ⟨by show 0 ≤ sizeLine; omega, fun pl npl => ⟨_, rfl, wq, _, rfl, .inl ((same_new npl) _ _ hw), fun pd npd => ⟨_, _, rfl, ?_⟩⟩⟩
    have pld : pl ≠ pd := ne_of_none upd_same npd
    have npd0 : H pd = none := by rw [upd_ne pld.symm] at npd; exact npd
    obtain ⟨H2, e2⟩ : ∃ X, X = upd (upd H pl (.lst [])) pd (.dK (tblI ks sz)) := ⟨_, rfl⟩
    have s2 : Same H H2 := e2 ▸ (same_new npl).trans (same_new npd)
    have hl2 : H2 pl = some (.lst (([] : List Str).map V.str)) := by rw [e2, upd_ne pld, upd_same] <;> rfl
    have hd2 : H2 pd = some (.dK (tblI ks sz)) := by rw [e2, upd_same]
    rw [← e2]
    refine ⟨_, rfl, _, rfl, pd, _, rfl, DPut.k (k := Sum.inr "") hd2 (by rw [tblI_len]; omega), ?_⟩
    obtain ⟨g0, g0r, g0n, g0e⟩ : ∃ g0 : Str → Int, g0 "" = (n : Int) ∧ (∀ p, 0 ≤ g0 p ∧ g0 p ≤ 60) ∧ ∀ a ∈ ks, sz a = g0 a := by
      refine ⟨fun p => if p = "" then (n : Int) else if p ∈ ks then sz p else 0, if_pos rfl, fun p => ?_, fun a ha => ?_⟩
      · show 0 ≤ (if p = "" then (n : Int) else if p ∈ ks then sz p else 0) ∧ (if p = "" then (n : Int) else if p ∈ ks then sz p else 0) ≤ 60
        by_cases e : p = ""
        · rw [if_pos e]
          omega
        · rw [if_neg e]
          by_cases m : p ∈ ks
          · rw [if_pos m]
            exact szn p m
          · rw [if_neg m]
            omega
      · show sz a = if a = "" then (n : Int) else if a ∈ ks then sz a else 0
        rw [if_neg (fun e => nrk (by rw [← e]; exact ha)), if_pos ha]
    rw [tblI_congr g0e, tblI_snoc nrk g0r.symm]
    obtain ⟨H3, e3⟩ : ∃ X, X = upd H2 pd (.dK (tblI (ks ++ [("" : Str)]) g0)) := ⟨_, rfl⟩
    have s3 : Same H H3 := e3 ▸ s2.put npd0
    have hl3 : H3 pl = some (.lst (([] : List Str).map V.str)) := by rw [e3, upd_ne pld]; exact hl2
    have hd3 : H3 pd = some (.dK (tblI (ks ++ [("" : Str)]) g0)) := by rw [e3, upd_same]
    rw [← e3]
    have wpd : wq ≠ pd := ne_of_none hw npd0
    have wpl : wq ≠ pl := ne_of_none hw npl
    -- what is left
    refine ⟨wq, _, s3 _ _ hw, trivial, fun od => ⟨_, rfl, wq, od, rfl, .inl ⟨_, upd_same, ?_⟩⟩⟩
    obtain ⟨H4, e4⟩ : ∃ X, X = upd H3 wq (.frz od (.dK (tblI ks sz))) := ⟨_, rfl⟩
    have hw4 : H4 wq = some (.frz od (.dK (tblI ks sz))) := by rw [e4, upd_same]
    have k4 : ∀ x u, x ≠ wq → H x = some u → H4 x = some u := fun x u nx e => by rw [e4, upd_ne nx]; exact s3 _ _ e
    have hl4 : H4 pl = some (.lst (([] : List Str).map V.str)) := by rw [e4, upd_ne wpl.symm]; exact hl3
    have hd4 : H4 pd = some (.dK (tblI (ks ++ [("" : Str)]) g0)) := by rw [e4, upd_ne wpd.symm]; exact hd3
    rw [← e4]
    refine for_it walk_keys (fun j σ' H' => (∃ u7 u8 u9 u10 u11 u12 u13, σ' = [some (.ref d), some (.ref q), some (.ref wq), some (.ref g), some (.int (n : Int)), some (.ref pl), some (.ref pd), u7, u8, u9, u10, u11, u12, u13]) ∧ H' wq = some (.frz od (.dK (tblI ks sz))) ∧ (∀ x u, x ≠ wq → H x = some u → H' x = some u) ∧ H' pl = some (.lst (([] : List Str).map V.str)) ∧
      ∃ g : Str → Int, H' pd = some (.dK (tblI (ks ++ [("" : Str)]) g)) ∧ ∀ p, -(60 * (j : Int)) ≤ g p ∧ g p ≤ 60) ⟨⟨_, _, _, _, _, _, _, rfl⟩, hw4, k4, hl4, g0, hd4, fun p => by have := g0n p; omega⟩ (fun j σ' H' _ z => z.2.1) ?_ ?_
    · intro j y σ' Hz Hb hj ⟨⟨u7, u8, u9, u10, u11, u12, u13, e⟩, aw, ka, hla, gg, hda, gb⟩ ⟨eb, kk, vv, hk, ey⟩
      subst e
      subst eb
      subst ey
      obtain ⟨a, ha, rfl, rfl⟩ := tblI_at hk
      rw [show kV (Sum.inr a) = V.str a from rfl]
      have mk := List.mem_of_getElem? ha
      have mt := pk.mem_iff.mp mk
      obtain ⟨pa, hp⟩ := par_some o.nd mt
      have mpa : pa ∈ ks ++ [("" : Str)] := by
        obtain ⟨rk, r⟩ := o.up
        rcases (r _ (par_mem hp)).2 with h | h
        · exact List.mem_append_right _ (List.mem_singleton.mpr h)
        · exact List.mem_append_left _ (pk.mem_iff.mpr h.1)
      have hqb := ka _ _ (fun e => wqq e.symm) hq
      have dg : DGet Hb q (.str a) (some (.str pa)) := dget_prs (.inl hqb) hp
      have dgw : DGet Hb wq (.str a) (some (.int (sz a))) := .inl ⟨_, Sum.inr a, .inr ⟨od, aw⟩, rfl, by rw [tblI_val mk] <;> rfl⟩
      have dgd : DGet Hb pd (.str pa) (some (.int (gg pa))) := by
        have w := DGet.k (k := Sum.inr pa) hda
        rw [tblI_val mpa] at w
        exact w
      refine ⟨_, rfl, _, rfl, _, rfl, q, _, rfl, dg, pd, _, rfl, dgd, _, rfl, _, rfl, wq, _, rfl, dgw, _, _, rfl, rfl, ?_⟩
      refine ⟨_, rfl, _, rfl, _, rfl, q, _, rfl, dg, pd, _, rfl, DPut.k (k := Sum.inr pa) hda (by rw [tblI_len, List.length_append]; show _ + 1 < _; omega), ?_⟩
      rw [tblI_put mpa]
      have zb := szn a mk
      refine ⟨⟨_, _, _, _, _, _, _, rfl⟩, by rw [upd_ne wpd]; exact aw, fun x u nx e => by rw [upd_ne (ne_of_none e npd0)]; exact ka x u nx e, by rw [upd_ne pld]; exact hla, _, upd_same, fun p => ?_⟩
      have b1 := gb p
      have b2 := gb pa
      show -(60 * ((j + 1 : Nat) : Int)) ≤ (if p = pa then _ else _) ∧ (if p = pa then _ else _) ≤ 60
      split <;> omega
    intro σ' H5 ⟨⟨u7, u8, u9, u10, u11, u12, u13, e⟩, aw, ka, hla, gg, hda, gb⟩
    subst e
    refine ⟨aw, ?_⟩
    rw [tblI_len] at gb
    obtain ⟨H6, e6⟩ : ∃ X, X = upd H5 wq (.dK (tblI ks sz)) := ⟨_, rfl⟩
    have s6 : Same H H6 := fun x u e => by
      by_cases z : x = wq
      · subst z
        rw [hw] at e
        rw [e6, upd_same]
        exact e
      · rw [e6, upd_ne z]
        exact ka x u z e
    have hl6 : H6 pl = some (.lst (([] : List Str).map V.str)) := by rw [e6, upd_ne wpl.symm]; exact hla
    have hd6 : H6 pd = some (.dK (tblI (ks ++ [("" : Str)]) gg)) := by rw [e6, upd_ne wpd.symm]; exact hda
    rw [← e6]
    -- the line
    refine ⟨pd, _, hd6, trivial, fun od2 => ⟨_, rfl, pd, od2, rfl, .inl ⟨_, upd_same, ?_⟩⟩⟩
    obtain ⟨H7, e7⟩ : ∃ X, X = upd H6 pd (.frz od2 (.dK (tblI (ks ++ [("" : Str)]) gg))) := ⟨_, rfl⟩
    have hd7 : H7 pd = some (.frz od2 (.dK (tblI (ks ++ [("" : Str)]) gg))) := by rw [e7, upd_same]
    have s7 : Same H H7 := e7 ▸ s6.put npd0
    have hl7 : H7 pl = some (.lst (([] : List Str).map V.str)) := by rw [e7, upd_ne pld]; exact hl6
    rw [← e7]
    refine for_it walk_keys (fun j σ' H' => ∃ (lp : Addr) (L : List Str), (∃ u7 u8 u9 u10 u11 u12 u13, σ' = [some (.ref d), some (.ref q), some (.ref wq), some (.ref g), some (.int (n : Int)), some (.ref lp), some (.ref pd), u7, u8, u9, u10, u11, u12, u13]) ∧ H' pd = some (.frz od2 (.dK (tblI (ks ++ [("" : Str)]) gg))) ∧ Same H H' ∧ H' lp = some (.lst (L.map V.str)) ∧ L.length ≤ 60 * j ∧ (∀ z ∈ L, Pl t z) ∧ lp ≠ pd)
      ⟨pl, [], ⟨_, _, _, _, _, _, _, rfl⟩, hd7, s7, hl7, Nat.zero_le _, (fun z hz => nomatch hz), pld⟩ (fun j σ' H' _ z => by obtain ⟨_, _, _, h, _⟩ := z; exact h) ?_ ?_
    · intro j y σ' Hz Hb hj ⟨lp, L, ⟨u7, u8, u9, u10, u11, u12, u13, e⟩, ad, sa, hlp, lL, pL, nlp⟩ ⟨eb, kk, vv, hk, ey⟩
      subst e
      subst eb
      subst ey
      obtain ⟨b, hb, rfl, rfl⟩ := tblI_at hk
      rw [show kV (Sum.inr b) = V.str b from rfl]
      have mb := List.mem_of_getElem? hb
      have jl := (List.getElem?_eq_some_iff.mp hb).1
      rw [List.length_append] at jl
      have jl : j < ks.length + 1 := jl
      have plb : Pl t b := by
        rcases List.mem_append.mp mb with h | h
        · exact .inr (pk.mem_iff.mp h)
        · exact .inl (List.mem_singleton.mp h)
      have gbb := gb b
      refine ⟨_, rfl, _, rfl, by show 1 ≤ sizeLine; omega, fun v1 nv1 => ?_⟩
      have sv := same_new (o := .lst [V.str b]) nv1
      have dgd : DGet (upd Hb v1 (.lst [V.str b])) pd (.str b) (some (.int (gg b))) := .inl ⟨_, Sum.inr b, .inr ⟨od2, sv _ _ ad⟩, rfl, by rw [tblI_val mb] <;> rfl⟩
      refine ⟨_, rfl, _, rfl, pd, _, rfl, dgd, v1, gg b, [V.str b], rfl, rfl, upd_same, by omega, by omega, by show 1 * (gg b).toNat ≤ sizeLine; omega, fun v2 nv2 => ?_⟩
      rw [rep_strsC]
      have sw := sv.trans (same_new (o := .lst ((List.replicate (gg b).toNat b).map V.str)) nv2)
      refine ⟨lp, v2, L.map V.str, (List.replicate (gg b).toNat b).map V.str, rfl, rfl, sw _ _ hlp, upd_same, by rw [List.length_map, List.length_map, List.length_replicate]; omega, fun v3 nv3 => ?_⟩
      have sx := sw.trans (same_new (o := .lst (L.map V.str ++ (List.replicate (gg b).toNat b).map V.str)) nv3)
      refine ⟨v3, L ++ List.replicate (gg b).toNat b, ⟨_, _, _, _, _, _, _, rfl⟩, sx _ _ ad, sa.trans sx, by rw [upd_same, List.map_append], by rw [List.length_append, List.length_replicate]; omega, fun z hz => ?_, (ne_of_none (sw _ _ ad) nv3).symm⟩
      rcases List.mem_append.mp hz with h | h
      · exact pL z h
      · rw [(List.mem_replicate.mp h).2]
        exact plb
    intro σ' H8 ⟨lp, L, ⟨u7, u8, u9, u10, u11, u12, u13, e⟩, ad, sa, hlp, lL, pL, nlp⟩
    subst e
    refine ⟨ad, ?_⟩
    rw [tblI_len, List.length_append] at lL
    have lL : L.length ≤ 60 * (ks.length + 1) := lL
    obtain ⟨H9, e9⟩ : ∃ X, X = upd H8 pd (.dK (tblI (ks ++ [("" : Str)]) gg)) := ⟨_, rfl⟩
    have s9 : Same H H9 := e9 ▸ sa.put npd0
    have hl9 : H9 lp = some (.lst (L.map V.str)) := by rw [e9, upd_ne nlp]; exact hlp
    rw [← e9]
    refine ⟨by show 0 ≤ sizeLine; omega, fun po npo => ⟨by show 1 ≤ sizeLine; omega, fun v1 nv1 => ⟨_, rfl, v1, (n : Int), [.str ""], rfl, rfl, upd_same, by omega, by omega, by show 1 * ((n : Int)).toNat ≤ sizeLine; omega, fun pf npf => ⟨_, _, rfl, ?_⟩⟩⟩⟩
    rw [rep_strsC, show ((n : Int)).toNat = n by omega]
    have t1 := same_new (o := .lst []) npo
    have t2 := t1.trans (same_new (o := .lst [V.str ""]) nv1)
    have t3 := t2.trans (same_new (o := .lst ((List.replicate n ("" : Str)).map V.str)) npf)
    obtain ⟨H10, e10⟩ : ∃ X, X = upd (upd (upd H9 po (.lst [])) v1 (.lst [V.str ""])) pf (.lst ((List.replicate n ("" : Str)).map V.str)) := ⟨_, rfl⟩
    rw [← e10] at t3 ⊢
    have s10 : Same H H10 := s9.trans t3
    have hpf : H10 pf = some (.lst ((List.replicate n ("" : Str)).map V.str)) := by rw [e10]; exact upd_same
    have npf0 : H pf = none := (s9.trans t2).free npf
    have hpo : H10 po = some (.lst (([] : List Int).map V.int)) := by
      have w : (upd (upd H9 po (.lst [])) v1 (.lst [V.str ""])) po = some (.lst []) := (same_new (o := .lst [V.str ""]) nv1) _ _ upd_same
      rw [e10, upd_ne (ne_of_none w npf)]
      exact w
    have hl10 := t3 _ _ hl9
    -- the order
    refine ⟨_, rfl, (n : Int), rfl, by omega, by omega, ?_⟩
    refine for_it (walk_range (lo := 0) (n := ((n : Int)).toNat)) (fun j σ' H' => ∃ (oa : Addr) (A : List Int), (∃ u7 u8 u11 u12 u13, σ' = [some (.ref d), some (.ref q), some (.ref wq), some (.ref g), some (.int (n : Int)), some (.ref lp), some (.ref pd), u7, u8, some (.ref oa), some (.ref pf), u11, u12, u13]) ∧ Same H10 H' ∧ H' oa = some (.lst (A.map V.int)) ∧ A.length ≤ 60 * j ∧ ∀ u ∈ A, ∃ i : Nat, u = (i : Int) ∧ i < n)
      ⟨po, [], ⟨_, _, _, _, _, rfl⟩, Same.refl, hpo, Nat.zero_le _, fun u hu' => nomatch hu'⟩ (fun _ _ _ _ _ => trivial) ?_ ?_
    · intro j y σ' Hz Hb hj ⟨oa, A, ⟨u7, u8, u11, u12, u13, e⟩, sb, hoa, lA, pA⟩ ⟨eb, ey⟩
      subst e
      subst eb
      subst ey
      have jn : j < n := by omega
      have sH := s10.trans sb
      refine ⟨_, rfl, _, rfl, g, rfl, ⟨_, SqL.of (sH _ _ hg)⟩, fun D nD => ?_⟩
      refine lc_it walk_list (fun i H' => Same Hb H' ∧ ∃ B : List Int, H' D = some (.lst (B.map V.int)) ∧ B.length ≤ i ∧ ∀ u ∈ B, ∃ i : Nat, u = (i : Int) ∧ i < n) ⟨same_new nD, [], upd_same, Nat.le_refl _, fun u hu' => nomatch hu'⟩ (fun i H' _ z => SqL.of (z.1 _ _ (sH _ _ hg))) ?_ ?_
      · intro i y2 Hy Hc hi ⟨z1, B, hB, lB, pB⟩ ⟨eb, ex⟩
        subst eb
        obtain ⟨r, hr', rfl⟩ := map_of ex
        have il := (List.getElem?_eq_some_iff.mp hr').1
        have lrs := rw0.len
        obtain ⟨us, hus, hrl0⟩ := rw0.at_ hr'
        have hrl := z1 _ _ (sH _ _ hrl0)
        refine ⟨rfl, ?_⟩
        refine ⟨_, rfl, _, rfl, _, _, rfl, .inl ⟨_, SqL.of hrl, rfl⟩, _, _, rfl, rfl, _, rfl, ?_⟩
        rw [List.length_map]
        by_cases c : j < us.length
        · rw [decide_eq_true (show (0 : Int) + (j : Int) < (us.length : Int) by omega)]
          show if true = true then _ else _
          rw [if_pos rfl]
          have hz : us[j]? = some us[j] := List.getElem?_eq_getElem c
          refine ⟨_, rfl, _, rfl, r, _, _, .int us[j], rfl, rfl, SqL.of hrl, by rw [Int.zero_add]; exact atI_nat (map_at hz), ?_⟩
          refine ⟨_, hB, by rw [List.length_map]; omega, z1.put nD, B ++ [us[j]], by rw [upd_same, List.map_append] <;> rfl, by rw [List.length_append]; show _ + 1 ≤ _; omega, fun u hu' => ?_⟩
          rcases List.mem_append.mp hu' with h | h
          · exact pB u h
          · rw [List.mem_singleton.mp h]
            exact gi us (List.mem_of_getElem? hus) _ (List.getElem_mem c)
        · rw [decide_eq_false (show ¬ (0 : Int) + (j : Int) < (us.length : Int) by omega)]
          exact iteF ⟨z1, B, hB, by omega, pB⟩
      intro H11 ⟨z1, B, hB, lB, pB⟩
      rw [List.length_map, rw0.len] at lB
      refine ⟨oa, D, A.map V.int, B.map V.int, rfl, rfl, z1 _ _ hoa, hB, by rw [List.length_map, List.length_map]; omega, fun v3 nv3 => ?_⟩
      refine ⟨v3, A ++ B, ⟨_, _, _, _, _, rfl⟩, (sb.trans z1).trans (same_new nv3), by rw [upd_same, List.map_append], by rw [List.length_append]; omega, fun u hu' => ?_⟩
      rcases List.mem_append.mp hu' with h | h
      · exact pA u h
      · exact pB u h
    intro σ' H12 ⟨oa, A, ⟨u7, u8, u11, u12, u13, e⟩, sb, hoa, lA, pA⟩
    subst e
    -- dealt
    refine ⟨_, rfl, _, rfl, oa, lp, _, _, rfl, SqL.of hoa, SqL.of (sb _ _ hl10), ?_⟩
    have hpf12 := sb _ _ hpf
    have hl12 := sb _ _ hl10
    have oap : oa ≠ pf := ne_of hoa hpf12 (by
      intro z
      have z := HO.lst.inj z
      cases A with
      | nil =>
        have l1 := congrArg List.length z
        rw [List.length_map, List.length_map, List.length_replicate] at l1
        have l1 : 0 = n := l1
        omega
      | cons u A =>
        cases n with
        | zero => omega
        | succ n => cases z)
    have lpp : lp ≠ pf := by
      have w := (t2 _ _ hl9)
      exact ne_of_none w npf
    have s12 : Same H H12 := s10.trans sb
    refine for_it (walk_zip rfl) (fun j σ' H' => (∃ u7 u8 u11 u12 u13, σ' = [some (.ref d), some (.ref q), some (.ref wq), some (.ref g), some (.int (n : Int)), some (.ref lp), some (.ref pd), u7, u8, some (.ref oa), some (.ref pf), u11, u12, u13]) ∧ (∀ x u, x ≠ pf → H12 x = some u → H' x = some u) ∧ ∃ F : List Str, H' pf = some (.lst (F.map V.str)) ∧ F.length = n ∧ ∀ z ∈ F, Pl t z)
      ⟨⟨_, _, _, _, _, rfl⟩, fun _ _ _ e => e, _, hpf12, by rw [List.length_replicate], fun z hz => by rw [(List.mem_replicate.mp hz).2]; exact .inl rfl⟩ (fun j σ' H' _ z => ⟨SqL.of (z.2.1 _ _ oap hoa), SqL.of (z.2.1 _ _ lpp hl12)⟩) ?_ ?_
    · intro j TT σ' Ha Hb hj ⟨⟨u7, u8, u11, u12, u13, e⟩, sc, F, hF, lF, pF⟩ ⟨T', x, y, eT, nT, eH, ex, ey⟩
      subst e
      subst eT
      subst eH
      obtain ⟨u, hu1, rfl⟩ := map_of (f := V.int) (l := A) ex
      obtain ⟨z, hz, rfl⟩ := map_of (f := V.str) (l := L) ey
      obtain ⟨i, rfl, il⟩ := pA u (List.mem_of_getElem? hu1)
      have plz := pL z (List.mem_of_getElem? hz)
      have sT : Same Ha (upd Ha T' (.tup [.int (i : Int), .str z])) := same_new nT
      refine ⟨T', _, rfl, .inl (.inl upd_same), rfl, _, _, rfl, _, _, rfl, rfl, ?_⟩
      refine ⟨_, rfl, _, rfl, _, rfl, pf, F.map V.str, (i : Int), i, rfl, rfl, sT _ _ hF, ixN_nat (by rw [List.length_map]; omega), ?_⟩
      refine ⟨⟨_, _, _, _, _, rfl⟩, fun x u n e => ?_, F.set i z, ?_, by rw [List.length_set]; exact lF, fun y hy => ?_⟩
      · rw [upd_ne n]
        exact sT _ _ (sc x u n e)
      · rw [upd_same, List.map_set]
      · rcases List.mem_or_eq_of_mem_set hy with h | h
        · exact pF y h
        · rw [h]
          exact plz
    · intro σ' H13 ⟨⟨u7, u8, u11, u12, u13, e⟩, sc, F, hF, lF, pF⟩
      subst e
      refine ⟨_, rfl, k pf F H13 (fun x u e => sc x u (ne_of_none e npf0) (s12 _ _ e)) npf0 lF pF hF⟩
end
end FT


/-! two layers that are drawn -/
namespace FT
open PySem L2 TL ClX LiI
theorem DrawAt.off_strs {H : Hp} {d c l : Addr} {zs : List Str} (x : DrawAt H d c) (hl : H l = some (.lst (zs.map V.str))) : l ≠ d ∧ (zs ≠ [] → l ≠ c) := by
  obtain ⟨nx, mx, cells, a1, a2, ne, _⟩ := x
  refine ⟨ne_of hl a1 fun z => ?_, fun nz => ne_of hl a2 fun z => ?_⟩
  · have z := HO.lst.inj z
    cases zs with
    | nil => cases z
    | cons b zs => cases z
  · have z := HO.lst.inj z
    cases zs with
    | nil => exact nz rfl
    | cons b zs =>
      cases cells with
      | nil => exact ne rfl
      | cons i cells => cases z
def spLayers : Sp := fun vs H Q _ => ∃ (d c : Addr), vs = [.ref d] ∧ DrawAt H d c ∧
  ∀ (p q1 l1 q2 l2 : Addr) (t u : List (Str × Str)) (zs ws : List Str) (H' : Hp), TreeUp t → TreeUp u → zs.length = ws.length → 1 ≤ zs.length → zs.length ≤ 24 → (∀ z ∈ zs, Pl t z) → (∀ z ∈ ws, Pl u z) → q1 ≠ q2 →
    H' p = some (.tup [.ref q1, .ref l1, .ref q2, .ref l2]) → H' q1 = some (.dK (prs t)) → H' l1 = some (.lst (zs.map V.str)) → H' q2 = some (.dK (prs u)) → H' l2 = some (.lst (ws.map V.str)) → DrawAt H' d c → Keep d c H H' → Q (.ref p) H'
section
variable {P : Program} {w : World} {K : PySem.W.Frag} {mg : Str → Option Value} {base : Heap}
abbrev NLy : List Str := ["_law_state", "_law_users", "_law_tree_here", "_law_other_tree", "_law_other_places", "_law_wanted", "_law_groups_here", "_law_spots", "_law_turn"]
theorem scLy : FnScope NLy ["_law_state"] (defScope s__law_layers) := ⟨rfl, rfl, rfl, by decide +kernel, rfl, by decide +kernel, by decide +kernel⟩
theorem ok_layers {f fD fP fT fL fS fG fX : Addr} {fd dD dP dT dL dS dG dX : FuncData} (F : Fun K "_law_layers" "_law_layers" s__law_layers f fd) (N : Nm mg) (D : Dn P w K mg base CX0 1 "_law_draw" ["_law_state", "_law_many"] spDraw fD dD) (Pk : Dn P w K mg base CX0 2 "_law_pick" ["_law_state", "_law_some"] (spPick K) fP dP)
    (Tr : Dn P w K mg base CX0 4 "_law_tree" ["_law_state", "_law_many"] spTree fT dT) (L : Dn P w K mg base CX0 3 "_law_places" ["_law_state", "_law_tree_here", "_law_users"] spPlaces fL dL) (S : Dn P w K mg base CX0 3 "_law_sizes" ["_law_state", "_law_tree_here", "_law_users"] spSizesC fS dS)
    (G : Dn P w K mg base CX0 1 "_law_groups" ["_law_other_places"] spGroupsL fG dG) (X : Dn P w K mg base CX0 1 "_law_split" ["_law_state", "_law_tree_here", "_law_wanted", "_law_groups_here", "_law_users"] spSplit fX dX) :
    FnOk P w K mg base CX0 5 f fd ["_law_state"] spLayers := by
  refine F.ok scLy (fun vs H Q E h => ?_) (fun cdv A outer s H vs Q E hr h => ?_)
  · obtain ⟨d, c, rfl, _⟩ := h
    rfl
  · obtain ⟨d, c, rfl, dr0, k⟩ := h
    have nd := scLy.nd
    have hr1 : Room 1 _ := hr.mono (by decide)
    have hr2 : Room 2 _ := hr.mono (by decide)
    have hr3 : Room 3 _ := hr.mono (by decide)
    have big : 1000 ≤ sizeLine := by decide
    refine ⟨_, pss_cons (ps_set (i := 1) nd rfl (.inl rfl) (pe_call Pk.ok hr2 rfl Pk.mgn Pk.kp Pk.bn .nil pass0 (pa_cons (pv 0) (pa_cons (pe_lst (pa_cons pe_int (pa_cons pe_int (pa_cons pe_int (pa_cons pe_int (pa_cons pe_int (pa_cons pe_int (pa_cons (pe_op op_add pe_int (pe_call D.ok hr1 rfl D.mgn D.kp D.bn .nil pass0 (pa_cons (pv 0) (pa_cons pe_int pa_nil)))) pa_nil)))))))) pa_nil))))
      (pss_cons (ps_par (i := 2) (j := 3) rfl nd rfl rfl (by decide) rfl rfl (pa_cons (pe_call Tr.ok hr rfl Tr.mgn Tr.kp Tr.bn .nil pass0 (pa_cons (pv 0) (pa_cons (pe_op op_add pe_int (pe_call D.ok hr1 rfl D.mgn D.kp D.bn .nil pass0 (pa_cons (pv 0) (pa_cons pe_int pa_nil)))) pa_nil)))
          (pa_cons (pe_call Tr.ok hr rfl Tr.mgn Tr.kp Tr.bn .nil pass0 (pa_cons (pv 0) (pa_cons (pe_op op_add pe_int (pe_call D.ok hr1 rfl D.mgn D.kp D.bn .nil pass0 (pa_cons (pv 0) (pa_cons pe_int pa_nil)))) pa_nil))) pa_nil)) (by rfl))
      (pss_cons (ps_set (i := 4) nd rfl (.inl rfl) (pe_call L.ok hr3 rfl L.mgn L.kp L.bn .nil pass0 (pa_cons (pv 0) (pa_cons (pv 3) (pa_cons (pv 1) pa_nil)))))
      (pss_cons (ps_par (i := 5) (j := 6) rfl nd rfl rfl (by decide) rfl rfl (pa_cons (pe_call S.ok hr3 rfl S.mgn S.kp S.bn .nil pass0 (pa_cons (pv 0) (pa_cons (pv 2) (pa_cons (pv 1) pa_nil)))) (pa_cons (pe_call G.ok hr1 rfl G.mgn G.kp G.bn .nil pass0 (pa_cons (pv 4) pa_nil)) pa_nil)) (by rfl))
      (pss_cons (ps_set (i := 7) nd rfl (.inl rfl) (pe_call L.ok hr3 rfl L.mgn L.kp L.bn .nil pass0 (pa_cons (pv 0) (pa_cons (pv 2) (pa_cons (pv 1) pa_nil)))))
      (pss_cons (ps_if (pt_cmpR op_gt (pe_call D.ok hr1 rfl D.mgn D.kp D.bn .nil pass0 (pa_cons (pv 0) (pa_cons pe_int pa_nil))) pe_int (nomark _))
        (pss_cons (ps_set (i := 7) nd rfl (.inl rfl) (pe_call X.ok hr1 rfl X.mgn X.kp X.bn .nil pass0 (pa_cons (pv 0) (pa_cons (pv 2) (pa_cons (pv 5) (pa_cons (pv 6) (pa_cons (pv 1) pa_nil)))))))
        (pss_one (ps_for PassesOwn.never rfl (pi_range1 (by rfl) N.rng (pa_cons (pe_call D.ok hr1 rfl D.mgn D.kp D.bn .nil pass0 (pa_cons (pv 0) (pa_cons pe_int pa_nil))) pa_nil)) (pg_name (i := 8) nd rfl (.inl rfl))
          (pss_one (ps_asg (pe_call Pk.ok hr2 rfl Pk.mgn Pk.kp Pk.bn .nil pass0 (pa_cons (pv 0) (pa_cons (pe_op op_cat (pe_lst (pa_cons pe_str pa_nil)) (pe_callTy (call_listD rfl) (by rfl) N.lst (by decide +kernel) (pa_cons (pv 2) pa_nil))) pa_nil))) (pg_sub (pv 7) (pe_call D.ok hr1 rfl D.mgn D.kp D.bn .nil pass0 (pa_cons (pv 0) (pa_cons (pv 1) pa_nil))) set_list)))))) pss_nil)
      (pss_one (ps_ret (pe_tup (pa_cons (pv 2) (pa_cons (pv 7) (pa_cons (pv 3) (pa_cons (pv 4) pa_nil)))))))))))), ?_⟩
    have b24 : ((24 : Int)).natAbs < 2 ^ 200 := by decide
    have b12 : ((12 : Int)).natAbs < 2 ^ 200 := by decide
    have b3 : ((3 : Int)).natAbs < 2 ^ 200 := by decide
    refine ⟨_, rfl, _, rfl, d, c, 24, rfl, dr0, by decide, b24, fun k0 H1 k00 k01 dr1 K1 => ⟨_, _, rfl, rfl, by show 7 ≤ sizeLine; omega, fun p1 n1 => ?_⟩⟩
    have ap1 := dr1.apart n1
    have s1 := same_new (o := .lst (([1, 2, 3, 6, 12, 24, 1 + k0] : List Int).map V.int)) n1
    refine ⟨d, c, _, 7, (fun _ x => ∃ z, x = .int z ∧ z ∈ ([1, 2, 3, 6, 12, 24, 1 + k0] : List Int)), rfl, dr1.mono s1, .inl ⟨p1, ([1, 2, 3, 6, 12, 24, 1 + k0] : List Int).map V.int, rfl, ap1.1, ap1.2, upd_same, rfl, items_ints (fun z hz => hz)⟩, by decide, by decide, fun i0 x H2 xm dr2 K2 => ?_⟩
    obtain ⟨nI, rfl, mn⟩ := xm
    obtain ⟨n, rfl, n1', n24⟩ : ∃ n : Nat, nI = (n : Int) ∧ 1 ≤ n ∧ n ≤ 24 := by
      refine ⟨nI.toNat, ?_⟩
      simp only [List.mem_cons, List.not_mem_nil, or_false] at mn
      omega
    have K02 : Keep d c H H2 := (K1.trans (Keep.of_same s1)).trans K2
    -- two trees
    refine ⟨_, rfl, _, rfl, d, c, 12, rfl, dr2, by decide, b12, fun k3 H3 k30 k31 dr3 K3 => ⟨_, _, rfl, rfl, d, c, (1 + k3).toNat, by rw [show (((1 + k3).toNat : Nat) : Int) = 1 + k3 by omega] <;> rfl, dr3, by omega, by omega, fun q1 t H4 ut lt nq1 hq1 dr4 K4 => ?_⟩⟩
    refine ⟨_, rfl, _, rfl, d, c, 12, rfl, dr4, by decide, b12, fun k5 H5 k50 k51 dr5 K5 => ⟨_, _, rfl, rfl, d, c, (1 + k5).toNat, by rw [show (((1 + k5).toNat : Nat) : Int) = 1 + k5 by omega] <;> rfl, dr5, by omega, by omega, fun q2 u H6 uu lu nq2 hq2 dr6 K6 => ⟨_, _, rfl, ?_⟩⟩⟩
    have q1d := dr4.off_prs hq1
    have q2d := dr6.off_prs hq2
    have hq1_5 := K5.at_ hq1 q1d.1 q1d.2
    have q12 : q1 ≠ q2 := ne_of_none hq1_5 nq2
    have hq1_6 := K6.at_ hq1_5 q1d.1 q1d.2
    have K06 : Keep d c H H6 := (((K02.trans K3).trans K4).trans K5).trans K6
    -- the second layer's places
    refine ⟨_, rfl, _, rfl, _, rfl, d, c, q2, n, u, rfl, dr6, hq2, uu.few, by omega, fun l2 ws H7 lw pw nl2 hl2 dr7 K7 => ?_⟩
    have wne : ws ≠ [] := fun e => by rw [e] at lw; have : 0 = n := lw; omega
    have l2d := dr7.off_strs hl2
    have l2c := l2d.2 wne
    have hq1_7 := K7.at_ hq1_6 q1d.1 q1d.2
    have hq2_7 := K7.at_ hq2 q2d.1 q2d.2
    -- sizes, groups
    refine ⟨_, rfl, _, rfl, _, rfl, d, c, q1, (n : Int), t, rfl, dr7, hq1_7, ut.ok, ut.ahead, by omega, by omega, fun wq ks sz H8 fe pk nwq hwq dr8 K8 => ?_⟩
    have hl2_8 := K8.at_ hl2 l2d.1 l2c
    have hq1_8 := K8.at_ hq1_7 q1d.1 q1d.2
    have hq2_8 := K8.at_ hq2_7 q2d.1 q2d.2
    refine ⟨_, rfl, l2, ws, rfl, hl2_8, by omega, fun g rs gks H9 s9 ng hg ngk mgk rw0 nrs => ⟨_, _, rfl, ?_⟩⟩
    have dr9 := dr8.mono s9
    have hq1_9 := s9 _ _ hq1_8
    have hq2_9 := s9 _ _ hq2_8
    have hl2_9 := s9 _ _ hl2_8
    have hwq_9 := s9 _ _ hwq
    -- the first layer's places
    refine ⟨_, rfl, _, rfl, _, rfl, d, c, q1, n, t, rfl, dr9, hq1_9, ut.few, by omega, fun l1 zs H10 lz pz nl1 hl1 dr10 K10 => ?_⟩
    have l1d := dr9.apart nl1
    have wqd : wq ≠ d ∧ wq ≠ c := dr7.apart (by
      cases e : H7 wq with
      | none => rfl
      | some u => exact absurd nwq (by rw [e]; intro z; cases z))
    have gd := dr8.apart ng
    have hq1_10 := K10.at_ hq1_9 q1d.1 q1d.2
    have hq2_10 := K10.at_ hq2_9 q2d.1 q2d.2
    have hl2_10 := K10.at_ hl2_9 l2d.1 l2c
    have hwq_10 := K10.at_ hwq_9 wqd.1 wqd.2
    have hg_10 := K10.at_ hg gd.1 gd.2
    have K010 : Keep d c H H10 := (((K06.trans K7).trans K8).trans (Keep.of_same s9)).trans K10
    have lz : zs.length = n := lz
    have lw : ws.length = n := lw
    refine ⟨_, rfl, d, c, 3, rfl, dr10, by decide, b3, fun k6 H11 k60 k61 dr11 K11 => ⟨_, _, rfl, rfl, _, rfl, ?_⟩⟩
    have hq1_11 := K11.at_ hq1_10 q1d.1 q1d.2
    have hq2_11 := K11.at_ hq2_10 q2d.1 q2d.2
    have hl2_11 := K11.at_ hl2_10 l2d.1 l2c
    have hl1_11 := K11.at_ hl1 l1d.1 l1d.2
    have hwq_11 := K11.at_ hwq_10 wqd.1 wqd.2
    have hg_11 := K11.at_ hg_10 gd.1 gd.2
    have K011 := K010.trans K11
    have rw11 : RwI H11 rs (gks.map (atU ws)) := by
      have step : ∀ {rs : List Addr} {ls : List (List Int)}, (∀ r ∈ rs, r ≠ d ∧ r ≠ c) → RwI H9 rs ls → RwI H11 rs ls := by
        intro rs ls h p
        induction p with
        | nil => exact .nil
        | cons hr t ih =>
          have hd := h _ (List.mem_cons_self ..)
          exact .cons (K11.at_ (K10.at_ hr hd.1 hd.2) hd.1 hd.2) (ih fun r hm => h r (List.mem_cons_of_mem _ hm))
      exact step (fun r hm => dr8.apart (nrs r hm)) rw0
    refine ite2 (fun _ => ?_) (fun _ => ?_)
    · refine ⟨_, rfl, _, rfl, _, rfl, _, rfl, _, rfl, d, q1, wq, g, n, t, ks, sz, rs, _, rfl, hq1_11, ut.ok, n1', by omega, fe, pk, hwq_11, hg_11, rw11, ?_, fun us hus x hx => ?_, fun l3 zs3 H12 s12 nl3 lz3 pz3 hl3 => ?_⟩
      · have := sub_len gks ws ngk fun x hx => (mgk x).mp hx
        rw [List.length_map]
        omega
      · obtain ⟨b, _, rfl⟩ := List.mem_map.mp hus
        obtain ⟨i, rfl, il, _⟩ := mem_selU.mp hx
        exact ⟨i, rfl, by omega⟩
      have l3d := dr11.apart nl3
      refine ⟨_, rfl, d, c, 3, rfl, dr11.mono s12, by decide, b3, fun k7 H13 k70 k71 dr13 K13 => ⟨_, rfl, by omega, by omega, ?_⟩⟩
      have h13 : ∀ {x : Addr} {o : HO}, H11 x = some o → x ≠ d → x ≠ c → H13 x = some o := fun {x o} e a b => K13.at_ (s12 _ _ e) a b
      refine for_it (walk_range (lo := 0) (n := k7.toNat)) (fun j σ' H' => (∃ u8, σ' = [some (.ref d), some (.int (n : Int)), some (.ref q1), some (.ref q2), some (.ref l2), some (.ref wq), some (.ref g), some (.ref l3), u8]) ∧ DrawAt H' d c ∧ H' q1 = some (.dK (prs t)) ∧ H' q2 = some (.dK (prs u)) ∧ H' l2 = some (.lst (ws.map V.str)) ∧ (∀ x o, x ≠ d → x ≠ c → H x = some o → H' x = some o) ∧ ∃ zs : List Str, H' l3 = some (.lst (zs.map V.str)) ∧ zs.length = n ∧ ∀ z ∈ zs, Pl t z)
        ⟨⟨_, rfl⟩, dr13, h13 hq1_11 q1d.1 q1d.2, h13 hq2_11 q2d.1 q2d.2, h13 hl2_11 l2d.1 l2c, fun x o a b e => K13.at_ (s12 _ _ (K011 x o a b e)) a b, zs3, K13.at_ hl3 l3d.1 l3d.2, lz3, pz3⟩ (fun _ _ _ _ _ => trivial) ?_ ?_
      · intro j y σ' Hz Hb hj ⟨⟨u8, e⟩, da, ha1, ha2, hal, ka, vs, hv, lv, pvs⟩ ⟨eb, ey⟩
        subst e
        subst eb
        subst ey
        refine ⟨_, rfl, by show 1 ≤ sizeLine; omega, fun v1 nv1 => ⟨_, rfl, q1, _, rfl, .inl ((same_new nv1) _ _ ha1), fun v2 nv2 => ?_⟩⟩
        have sv1 := same_new (o := .lst [V.str ""]) nv1
        have sv2 := sv1.trans (same_new (o := .lst ((prs t).map fun kv => kV kv.1)) nv2)
        have lt12 := ut.few
        refine ⟨v1, v2, [V.str ""], _, rfl, rfl, (same_new nv2) _ _ upd_same, upd_same, by rw [List.length_map, prs_len]; show 1 + _ ≤ sizeLine; omega, fun v3 nv3 => ?_⟩
        have sv3 := sv2.trans (same_new (o := .lst ([V.str ""] ++ (prs t).map fun kv => kV kv.1)) nv3)
        have ap3 := (da.mono sv2).apart nv3
        refine ⟨d, c, _, t.length + 1, (fun _ x => ∃ z, x = .str z ∧ Pl t z), rfl, da.mono sv3, .inl ⟨v3, _, rfl, ap3.1, ap3.2, upd_same, ?_, ?_⟩, by omega, by omega, fun i1 x H14 px dr14 K14 => ?_⟩
        · rw [List.length_append, List.length_map, prs_len]
          show 1 + _ = _
          omega
        · rw [keys_prs]
          exact items_strs (ws := "" :: t.map Prod.fst) fun z hz => List.mem_cons.mp hz
        obtain ⟨z, rfl, plz⟩ := px
        have a14 : ∀ {x : Addr} {o : HO}, Hb x = some o → x ≠ d → x ≠ c → H14 x = some o := fun {x o} e a b => K14.at_ (sv3 _ _ e) a b
        refine ⟨_, rfl, _, rfl, _, rfl, d, c, (n : Int), rfl, dr14, by omega, by omega, fun k8 H15 k80 k81 dr15 K15 => ?_⟩
        have a15 : ∀ {x : Addr} {o : HO}, Hb x = some o → x ≠ d → x ≠ c → H15 x = some o := fun {x o} e a b => K15.at_ (a14 e a b) a b
        have hv15 := a15 hv l3d.1 l3d.2
        refine ⟨l3, vs.map V.str, k8, k8.toNat, rfl, rfl, hv15, ?_, ?_⟩
        · have := ixN_nat (n := (vs.map V.str).length) (j := k8.toNat) (by rw [List.length_map]; omega)
          rw [show ((k8.toNat : Nat) : Int) = k8 by omega] at this
          exact this
        have l3q1 : q1 ≠ l3 := ne_of (ha1) hv (by intro z; cases z)
        have l3q2 : q2 ≠ l3 := ne_of (ha2) hv (by intro z; cases z)
        have l3l2 : l2 ≠ l3 := ne_of_none hl2_11 nl3
        refine ⟨⟨_, rfl⟩, dr15.off l3d.1 l3d.2, by rw [upd_ne l3q1]; exact a15 ha1 q1d.1 q1d.2, by rw [upd_ne l3q2]; exact a15 ha2 q2d.1 q2d.2, by rw [upd_ne l3l2]; exact a15 hal l2d.1 l2c, fun x o a b e => ?_, vs.set k8.toNat z, ?_, by rw [List.length_set]; exact lv, fun y hy => ?_⟩
        · have nx : x ≠ l3 := ne_of_none (K011 x o a b e) nl3
          rw [upd_ne nx]
          exact a15 (ka x o a b e) a b
        · rw [upd_same, List.map_set]
        · rcases List.mem_or_eq_of_mem_set hy with h | h
          · exact pvs y h
          · rw [h]
            exact plz
      · intro σ' H14 ⟨⟨u8, e⟩, da, ha1, ha2, hal, ka, vs, hv, lv, pvs⟩
        subst e
        refine ⟨_, rfl, _, rfl, _, rfl, _, rfl, by show 4 ≤ sizeLine; omega, fun p np => ?_⟩
        have sp := same_new (o := .tup [.ref q1, .ref l3, .ref q2, .ref l2]) np
        exact k p q1 l3 q2 l2 t u vs ws _ ut uu (by omega) (by omega) (by omega) pvs pw q12 upd_same (sp _ _ ha1) (sp _ _ hv) (sp _ _ ha2) (sp _ _ hal) (da.mono sp) fun x o a b e => sp _ _ (ka x o a b e)
    · refine ⟨_, rfl, _, rfl, _, rfl, _, rfl, by show 4 ≤ sizeLine; omega, fun p np => ?_⟩
      have sp := same_new (o := .tup [.ref q1, .ref l1, .ref q2, .ref l2]) np
      exact k p q1 l1 q2 l2 t u zs ws _ ut uu (by omega) (by omega) (by omega) pz pw q12 upd_same (sp _ _ hq1_11) (sp _ _ hl1_11) (sp _ _ hq2_11) (sp _ _ hl2_11) (dr11.mono sp) (K011.trans (Keep.of_same sp))
end
end FT


/-! isinstance of an exception of an own class, by a tuple of classes -/
namespace L2
open PySem PySem.Spec PyProof.Rows
section
variable {X : Cx}
def rIsXT (K : PySem.W.Frag) : List V → Hp → VK → Prop := fun xs H Q => ∃ (a C : Addr) (fs : List (Str × V)) (tp : Addr) (cs : List V) (ws : List Value) (b : Bool), xs = [.ref a, .ref tp] ∧ H tp = some (.tup cs) ∧ Paired ClsV cs ws ∧ XCls K C ∧ XV H a C fs ∧ PySem.W.kitAny K (.ref C) ws = some b ∧ Q (.bl b) H
theorem call_isXT : CallR X (.builtin "isinstance") (rIsXT X.K) := by
  intro pins s σ H xs us Q I r h
  obtain ⟨a, C, fs, tp, cs, ws, b, rfl, hT, k, T, xv, e, q⟩ := h
  obtain ⟨u1, u2, rfl, r1, r2⟩ := vals2 r
  cases (show u2 = Value.ref tp from r2)
  obtain rfl : u1 = Value.ref a := r1
  obtain ⟨ox, od, J⟩ := xv.inst I.hok
  have hcl : (PySem.W.clsIn X.K C).isSome = true := by
    obtain ⟨cd, hc, _⟩ := PySem.W.any_some T.hdC
    rw [hc] <;> rfl
  obtain ⟨_, its, rv, o, h1, h2, n, h3⟩ := (show ObjOk X.prog X.w H s.heap tp (.tup cs) from I.hok tp _ hT)
  have e3 := ClsV.all k rv
  subst e3
  obtain ⟨oc, od2, dt, sl⟩ := o
  simp only at h2 h3
  subst h2 h3
  exact PySem.W.kia_tup (PySem.W.kitx_exc hcl T.ga T.gg T.exC T.ha T.hn T.ht T.hm) I.kIn J h1 e (fun z => nomatch z) fun tk => ⟨.bl b, H, I.tok tk, rfl, q⟩
end
end L2


/-! data stays where all stays -/
namespace FT
open PySem L2 TL ClX
mutual
theorem dp_up {K : PySem.W.Frag} {H H' : Hp} (s : Same H H') : ∀ (d : PyData) (v : V), Dp K H v d → Dp K H' v d
  | .none, _, .non => .non
  | .bool _, _, .bl b => .bl b
  | .int _, _, .int i => .int i
  | .str _, _, .str x => .str x
  | .list ds, _, .lst h q => .lst (Same.sql s h) (dps_up s ds _ q)
  | .tuple ds, _, .tup h q => .tup (Same.sqt s h) (dps_up s ds _ q)
theorem dps_up {K : PySem.W.Frag} {H H' : Hp} (s : Same H H') : ∀ (ds : List PyData) (vs : List V), DpAll K H vs ds → DpAll K H' vs ds
  | [], _, .nil => .nil
  | d :: ds, _, .cons h q => .cons (dp_up s d _ h) (dps_up s ds _ q)
end
theorem dps_snoc {K : PySem.W.Frag} {H : Hp} {v : V} {d : PyData} (h : Dp K H v d) : ∀ {ds : List PyData} {vs : List V}, DpAll K H vs ds → DpAll K H (vs ++ [v]) (ds ++ [d])
  | _, _, .nil => .cons h .nil
  | _, _, .cons a r => .cons a (dps_snoc h r)
theorem dps_get {K : PySem.W.Frag} {H : Hp} : ∀ {ds : List PyData} {vs : List V}, DpAll K H vs ds → ∀ {i : Nat} {d : PyData}, ds[i]? = some d → ∃ v, vs[i]? = some v ∧ Dp K H v d
  | _, _, .nil, i, d, h => by simp at h
  | _, _, .cons a r, 0, d, h => by
    cases Option.some.inj h
    exact ⟨_, rfl, a⟩
  | _, _, .cons a r, i + 1, d, h => dps_get r (i := i) h
theorem dps_len {K : PySem.W.Frag} {H : Hp} : ∀ {ds : List PyData} {vs : List V}, DpAll K H vs ds → vs.length = ds.length
  | _, _, .nil => rfl
  | _, _, .cons a r => congrArg (· + 1) (dps_len r)
end FT


/-! _law_error of family C: a pair of a word and what the error tells -/
namespace FT
open PySem L2 TL ClX LamX NdefX
def cnC (i : Nat) : Str := (["Mismatch", "UnknownName", "InvalidSizes", "InvalidForest", "InvalidUsers", "UnknownUser", "InvalidPlace", "InvalidText", "Crowded", "InvalidNumber", "InvalidPin", "NotBest"] : List Str).getD i ""
structure ClC (K : PySem.W.Frag) (mg : Str → Option Value) (R : Addr) (C : Nat → Addr) : Prop where
  gR : mg "RolloutError" = some (.ref R)
  g : ∀ i, i < 12 → mg (cnC i) = some (.ref (C i))
  x : ∀ i, i < 12 → XCls K (C i)
  kit : ∀ i j, i < 12 → j < 12 → PySem.W.kitOne K (.ref (C i)) (.ref (C j)) = some (decide (i = j))
  te : ∀ i, i < 12 → PySem.W.exmOne K (.ref (C i)) (.ref R) = some true
  no : PySem.W.findIn K (.ref (C 1)) "name" = some none
theorem Shw.up {K : PySem.W.Frag} {H H' : Hp} (s : Same H H') {v : V} {D : PyData} (h : Shw K H v D) : Shw K H' v D := by
  rcases h with ⟨h, n⟩ | ⟨a, e, h, z⟩
  · exact .inl ⟨dp_up s _ _ h, n⟩
  · exact .inr ⟨a, e, s _ _ h, z⟩
/-- what is shown of a value, within bounds -/
structure ShwC (K : PySem.W.Frag) (H : Hp) (v : V) (D : PyData) : Prop where
  shw : Shw K H v D
  ok : D.showable = true
  dep : D.depth ≤ 60
  len : D.shown.length ≤ sizeLine
theorem ShwC.up {K : PySem.W.Frag} {H H' : Hp} (s : Same H H') {v : V} {D : PyData} (h : ShwC K H v D) : ShwC K H' v D := ⟨Shw.up s h.shw, h.ok, h.dep, h.len⟩
/-- what _law_error makes of a lambda -/
def TErrC (K : PySem.W.Frag) (C : Nat → Addr) : (XK → Hp → VK → Prop) → Hp → VK → Prop := fun tl H Q =>
  tl (fun cls d H' => (cls = .ref (C 0) ∧ d = none ∧ ∀ p H'', Same H' H'' → H' p = none → H'' p = some (.tup [.str "mismatch", .non]) → Q (.ref p) H'') ∨
    (∃ dd v D, cls = .ref (C 1) ∧ d = some dd ∧ H' dd = some (.xd [("name", v)]) ∧ ShwC K H' v D ∧ ∀ p H'', Same H' H'' → H' p = none → H'' p = some (.tup [.str "name", .str D.shown]) → Q (.ref p) H'')) H fun _ H' => ∀ H'', Same H' H'' → Q .non H''
theorem XV_monoC {H H' : Hp} {a C : Addr} {fs : List (Str × V)} (s : Same H H') (x : XV H a C fs) : XV H' a C fs := by
  rcases x with ⟨x, e⟩ | ⟨dx, x, y⟩
  · exact .inl ⟨x.elim (fun q => .inl (s _ _ q)) (fun q => .inr (s _ _ q)), e⟩
  · exact .inr ⟨dx, x.elim (fun q => .inl (s _ _ q)) (fun q => .inr (s _ _ q)), y.elim (fun q => .inl (s _ _ q)) (fun q => .inr (s _ _ q))⟩
def marksC (i : Nat) : List V := (List.range 9).map fun j => .bl (decide (i = j))
theorem marksC_count : ∀ i, i < 2 → (marksC i).countP (fun z => eqV z (.bl true)) = 1 := fun i hi => match i, hi with
  | 0, _ => rfl
  | 1, _ => rfl
theorem cat_segC {H : Hp} {l : Addr} {xs ys : List V} {Q : VK} (hl : H l = some (.lst xs)) (few : xs.length + ys.length ≤ 1000) (k : ∀ p H', Same H H' → H p = none → H' p = some (.lst (xs ++ ys)) → Q (.ref p) H') :
    ys.length ≤ sizeLine ∧ ∀ q, H q = none → rCat (.ref l) (.ref q) (upd H q (.lst ys)) Q := by
  have big : 1000 ≤ sizeLine := by decide
  refine ⟨by omega, fun q nq => ⟨l, q, xs, ys, rfl, rfl, by rw [upd_ne (ne_of_none hl nq)]; exact hl, upd_same, by omega, fun p np => ?_⟩⟩
  have s1 := same_new (o := .lst ys) nq
  exact k p _ (s1.trans (same_new np)) (s1.free np) upd_same
abbrev NEc : List Str := ["_law_work", "_law_caught", "e", "_law_kinds"]
theorem scEc : FnScope NEc ["_law_work"] (defScope s__law_error) := ⟨rfl, rfl, rfl, by decide +kernel, rfl, by decide +kernel, by decide +kernel⟩
theorem isi_rdC {K : PySem.W.Frag} {σ : St} {H : Hp} {a Ci D : Addr} {fs : List (Str × V)} {b : Bool} {Q : VK} (h0 : σ[1]? = some (some (.ref a))) (X : XCls K Ci) (xv : XV H a Ci fs) (kit : PySem.W.kitOne K (.ref Ci) (.ref D) = some b) (q : Q (.bl b) H) :
    tCB (rIsX K) (tCons (tVar 1) (tCons (tC (.ref D)) tNil)) σ H Q := ⟨_, h0, a, Ci, fs, .ref D, _, b, rfl, .own _, X, xv, kit, q⟩
theorem errC_gives {X : Cx} {g R : Addr} {C : Nat → Addr} {cdg : Value} {q : Str} (N : Nm X.mg) (L : ClC X.K X.mg R C) (clr : Clr X.A) (room : Room 1 X.A) (hrp : X.mg "repr" = none) : GivesS X NEc "_law_error" (defScope s__law_error) g cdg (defBody s__law_error) "_law_work" q (TErrC X.K C) := by
  intro f c' s H Q tl act hc h
  have isi : ∀ (j : Nat) (hj : j < 12), PySem.W.kitOne X.K (.ref (C 0)) (.ref (C j)) = some (decide (0 = j)) := fun j hj => L.kit 0 j (by decide) hj
  refine ⟨_, pss_cons (ps_set (i := 1) scEc.nd rfl (.inl rfl) pe_non)
    (pss_cons (ps_try_keep (X := (cxOf C8.CX0 X.prog X.w X.K X.mg X.base NEc "_law_error" (defScope s__law_error) g cdg X.A X.stack s H C8.E0).nox) (c := .ref R) (i := 2)
      rfl rfl rfl scEc.nd rfl rfl ⟨rfl, by decide, .inl L.gR⟩ LamX.takes0 (fun W pn xe tk _ => pss_one (ps_expr (act W pn xe _ _ tk))) (fun a oe cls d pn hz hf => pss_one (ps_set (i := 1) scEc.nd rfl (.inl rfl) (pv 2))))
    (pss_cons (ps_if (pt_cmpR op_isN (pv 1) pe_non (nomark _)) (pss_one (ps_ret pe_non)) pss_nil)
    (pss_cons (ps_set (i := 3) scEc.nd rfl (.inl rfl) (pe_lst (pa_cons (pe_callB call_isX (by rfl) N.isi (by decide +kernel) (pa_cons (pv 1) (pa_cons (pe_glob (v := .ref (C 0)) rfl (L.g 0 (by decide)) rfl) pa_nil))) (pa_cons (pe_callB call_isX (by rfl) N.isi (by decide +kernel) (pa_cons (pv 1) (pa_cons (pe_glob (v := .ref (C 1)) rfl (L.g 1 (by decide)) rfl) pa_nil)))
      (pa_cons (pe_callB call_isX (by rfl) N.isi (by decide +kernel) (pa_cons (pv 1) (pa_cons (pe_glob (v := .ref (C 2)) rfl (L.g 2 (by decide)) rfl) pa_nil))) pa_nil)))))
    (pss_cons (ps_set (i := 3) scEc.nd rfl (.inl rfl) (pe_op op_cat (pv 3) (pe_lst (pa_cons (pe_callB call_isX (by rfl) N.isi (by decide +kernel) (pa_cons (pv 1) (pa_cons (pe_glob (v := .ref (C 3)) rfl (L.g 3 (by decide)) rfl) pa_nil))) (pa_cons (pe_callB call_isX (by rfl) N.isi (by decide +kernel) (pa_cons (pv 1) (pa_cons (pe_glob (v := .ref (C 4)) rfl (L.g 4 (by decide)) rfl) pa_nil))) pa_nil)))))
    (pss_cons (ps_set (i := 3) scEc.nd rfl (.inl rfl) (pe_op op_cat (pv 3) (pe_lst (pa_cons (pe_callB call_isX (by rfl) N.isi (by decide +kernel) (pa_cons (pv 1) (pa_cons (pe_glob (v := .ref (C 5)) rfl (L.g 5 (by decide)) rfl) pa_nil))) (pa_cons (pe_callB call_isX (by rfl) N.isi (by decide +kernel) (pa_cons (pv 1) (pa_cons (pe_glob (v := .ref (C 6)) rfl (L.g 6 (by decide)) rfl) pa_nil))) pa_nil)))))
    (pss_cons (ps_set (i := 3) scEc.nd rfl (.inl rfl) (pe_op op_cat (pv 3) (pe_lst (pa_cons (pe_callB call_isX (by rfl) N.isi (by decide +kernel) (pa_cons (pv 1) (pa_cons (pe_glob (v := .ref (C 7)) rfl (L.g 7 (by decide)) rfl) pa_nil))) (pa_cons (pe_callB call_isX (by rfl) N.isi (by decide +kernel) (pa_cons (pv 1) (pa_cons (pe_glob (v := .ref (C 8)) rfl (L.g 8 (by decide)) rfl) pa_nil))) pa_nil)))))
    (pss_cons (ps_if (PW.pt (pw_or (pt_cmpR op_ne (pe_bm PySem.F.plainAttrs_list PySem.F.slot_list_count PySem.F.type_list_count mt_countF (pv 3) (pa_cons pe_bl pa_nil)) pe_int (nomark _)) (pw_or1 (pt_val (pe_callB call_isXT (by rfl) N.isi (by decide +kernel) (pa_cons (pv 1) (pa_cons (pe_tup (pa_cons (pe_glob (v := .ref (C 9)) rfl (L.g 9 (by decide)) rfl) (pa_cons (pe_glob (v := .ref (C 10)) rfl (L.g 10 (by decide)) rfl) (pa_cons (pe_glob (v := .ref (C 11)) rfl (L.g 11 (by decide)) rfl) pa_nil)))) pa_nil))))))) pss_never pss_nil)
    (pss_cons (ps_if (pt_val (pe_callB call_isX (by rfl) N.isi (by decide +kernel) (pa_cons (pv 1) (pa_cons (pe_glob (v := .ref (C 1)) rfl (L.g 1 (by decide)) rfl) pa_nil)))) (pss_one (ps_ret (pe_tup (pa_cons pe_str (pa_cons (pe_callB (call_repr clr.deeper (room.deeper _).units) (by rfl) hrp (by decide +kernel) (pa_cons (pe_xfld (pv 1)) pa_nil)) pa_nil))))) pss_nil)
    (pss_cons (ps_if (pt_val (pe_callB call_isX (by rfl) N.isi (by decide +kernel) (pa_cons (pv 1) (pa_cons (pe_glob (v := .ref (C 2)) rfl (L.g 2 (by decide)) rfl) pa_nil)))) pss_never pss_nil)
    (pss_cons (ps_if (pt_val (pe_callB call_isX (by rfl) N.isi (by decide +kernel) (pa_cons (pv 1) (pa_cons (pe_glob (v := .ref (C 7)) rfl (L.g 7 (by decide)) rfl) pa_nil)))) pss_never pss_nil)
    (pss_one (ps_ret (pe_ifExp (pt_val (pe_ix ix_list (pv 3) pe_int (fun _ _ => rfl))) (pe_tup (pa_cons pe_str (pa_cons pe_non pa_nil))) (pe_tup (pa_cons pe_str (pa_cons pe_non pa_nil)))))))))))))))), ?_⟩
  have big : 1000 ≤ sizeLine := by decide
  refine ⟨_, _, fun cls d H' z => ?_, fun v H' z => ?_, rfl, hc, h⟩
  · -- which error
    obtain ⟨i, hi, rfl, hd, fin⟩ : ∃ i, i < 2 ∧ cls = .ref (C i) ∧ (d = none ∨ ∃ dd fs, d = some dd ∧ H' dd = some (.xd fs)) ∧ ((i = 0 ∧ ∀ p H'', Same H' H'' → H' p = none → H'' p = some (.tup [.str "mismatch", .non]) → Q (.ref p) H'') ∨
        (i = 1 ∧ ∃ dd v D, d = some dd ∧ H' dd = some (.xd [("name", v)]) ∧ ShwC X.K H' v D ∧ ∀ p H'', Same H' H'' → H' p = none → H'' p = some (.tup [.str "name", .str D.shown]) → Q (.ref p) H'')) := by
      rcases z with ⟨rfl, rfl, k⟩ | ⟨dd, v, D, rfl, rfl, hdd, sh, k⟩
      · exact ⟨0, by decide, rfl, .inl rfl, .inl ⟨rfl, k⟩⟩
      · exact ⟨1, by decide, rfl, .inr ⟨dd, _, rfl, hdd⟩, .inr ⟨rfl, dd, v, D, rfl, hdd, sh, k⟩⟩
    have i12 : i < 12 := by omega
    refine ⟨true, C i, rfl, L.te i i12, fun _ a ha => ⟨_, rfl, ?_⟩, fun z => nomatch z⟩
    obtain ⟨H2, e2⟩ : ∃ X, X = upd H' a (exg a (C i) d) := ⟨_, rfl⟩
    have s2 : Same H' H2 := e2 ▸ same_new ha
    obtain ⟨fs, xv, xn⟩ : ∃ fs, XV H2 a (C i) fs ∧ ∀ dd v, d = some dd → H' dd = some (.xd [("name", v)]) → fs.lookup ("name" : Str) = some v := by
      rcases hd with rfl | ⟨dd, fs, rfl, hdd⟩
      · exact ⟨[], .inl ⟨.inr (by rw [e2]; exact upd_same), rfl⟩, fun _ _ z => nomatch z⟩
      · refine ⟨fs, .inr ⟨dd, .inr (by rw [e2]; exact upd_same), .inr (s2 _ _ hdd)⟩, fun d2 v ed e => ?_⟩
        cases ed
        rw [hdd] at e
        cases e
        rfl
    subst e2
    have Xi := L.x i i12
    refine ⟨_, rfl, rfl, _, rfl, iteF ?_⟩
    refine isi_rdC rfl Xi xv (L.kit i 0 i12 (by decide)) (isi_rdC rfl Xi xv (L.kit i 1 i12 (by decide)) (isi_rdC rfl Xi xv (L.kit i 2 i12 (by decide)) ⟨by show 3 ≤ sizeLine; omega, fun p0 n0 => ?_⟩))
    have s3 := same_new (o := .lst ([.bl (decide (i = 0)), .bl (decide (i = 1)), .bl (decide (i = 2))] : List V)) n0
    have a3 := upd_same (H := upd H' a (exg a (C i) d)) (a := p0) (o := .lst ([.bl (decide (i = 0)), .bl (decide (i = 1)), .bl (decide (i = 2))] : List V))
    have xv3 := XV_monoC s3 xv
    refine ⟨_, rfl, isi_rdC rfl Xi xv3 (L.kit i 3 i12 (by decide)) (isi_rdC rfl Xi xv3 (L.kit i 4 i12 (by decide)) (cat_segC a3 (by show 3 + 2 ≤ 1000; omega) fun p1 H4 s4 n1 a4 => ?_))⟩
    have xv4 := XV_monoC s4 xv3
    refine ⟨_, rfl, isi_rdC rfl Xi xv4 (L.kit i 5 i12 (by decide)) (isi_rdC rfl Xi xv4 (L.kit i 6 i12 (by decide)) (cat_segC a4 (by show 5 + 2 ≤ 1000; omega) fun p2 H5 s5 n2 a5 => ?_))⟩
    have xv5 := XV_monoC s5 xv4
    refine ⟨_, rfl, isi_rdC rfl Xi xv5 (L.kit i 7 i12 (by decide)) (isi_rdC rfl Xi xv5 (L.kit i 8 i12 (by decide)) (cat_segC a5 (by show 7 + 2 ≤ 1000; omega) fun p3 H6 s6 n3 a6 => ?_))⟩
    have xv6 := XV_monoC s6 xv5
    have a6' : H6 p3 = some (.lst (marksC i)) := a6
    have s06 : Same H' H6 := (((s2.trans s3).trans s4).trans s5).trans s6
    refine ⟨_, rfl, .inl ⟨rfl, _, SqL.of a6'⟩, p3, marksC i, .bl true, rfl, rfl, SqL.of a6', rfl, rfl, rfl, _, rfl, ?_⟩
    rw [marksC_count i hi]
    refine iteF ?_
    refine ⟨_, rfl, by show 3 ≤ sizeLine; omega, fun tp ntp => ?_⟩
    have s7 := same_new (o := .tup ([.ref (C 9), .ref (C 10), .ref (C 11)] : List V)) ntp
    have xv7 := XV_monoC s7 xv6
    have kA : PySem.W.kitAny X.K (.ref (C i)) [.ref (C 9), .ref (C 10), .ref (C 11)] = some false := by
      refine kitAny_cons (L.kit i 9 i12 (by decide)) (fun _ => kitAny_cons (L.kit i 10 i12 (by decide)) (fun _ => kitAny_cons (L.kit i 11 i12 (by decide)) (fun _ => rfl) fun z => ?_) fun z => ?_) fun z => ?_
      · exact absurd (of_decide_eq_true z) (by omega)
      · exact absurd (of_decide_eq_true z) (by omega)
      · exact absurd (of_decide_eq_true z) (by omega)
    refine ⟨a, C i, fs, tp, _, _, false, rfl, upd_same, .cons (.own _) (.cons (.own _) (.cons (.own _) .nil)), Xi, xv7, kA, false, rfl, iteF ?_⟩
    obtain ⟨H7, e7⟩ : ∃ X, X = upd H6 tp (.tup ([.ref (C 9), .ref (C 10), .ref (C 11)] : List V)) := ⟨_, rfl⟩
    rw [← e7] at s7 xv7 ⊢
    have s07 := s06.trans s7
    have a7 := s7 _ _ a6'
    rcases fin with ⟨rfl, k⟩ | ⟨rfl, dd, v, D, rfl, hdd, sh, k⟩
    · refine isi_rdC rfl Xi xv7 (L.kit 0 1 (by decide) (by decide)) ⟨false, rfl, iteF ?_⟩
      refine isi_rdC rfl Xi xv7 (L.kit 0 2 (by decide) (by decide)) ⟨false, rfl, iteF ?_⟩
      refine isi_rdC rfl Xi xv7 (L.kit 0 7 (by decide) (by decide)) ⟨false, rfl, iteF ?_⟩
      refine ⟨_, rfl, p3, _, _, .bl true, rfl, rfl, SqL.of a7, rfl, true, rfl, ?_⟩
      refine iteT ⟨by show 2 ≤ sizeLine; omega, fun p np => ?_⟩
      exact k p _ (s07.trans (same_new np)) (s07.free np) upd_same
    · refine isi_rdC rfl Xi xv7 (L.kit 1 1 (by decide) (by decide)) ⟨true, rfl, iteT ?_⟩
      refine ⟨_, rfl, a, C 1, fs, v, rfl, xv7, Xi, L.no, xn dd v rfl hdd, ?_⟩
      have sh7 := sh.up s07
      refine ⟨v, D, rfl, sh7.shw, sh7.ok, sh7.dep, sh7.len, ?_⟩
      refine ⟨by show 2 ≤ sizeLine; omega, fun p np => ?_⟩
      exact k p _ (s07.trans (same_new np)) (s07.free np) upd_same
  · exact ⟨_, rfl, rfl, _, rfl, iteT (z H' Same.refl)⟩
end FT


/-! family C: odd values, what stands through the checks -/
namespace FT
open PySem L2 TL ClX LiI LamX
theorem at_ext {H H' : Hp} {b : Addr} {o : HO} (e : ExtN H H') (h : H b = some o) (n : ∀ ps, o ≠ .tbl ps) : H' b = some o := e b o h n
theorem DrawAt.notDC {H : Hp} {d c b : Addr} {o : HO} (x : DrawAt H d c) (e : H b = some o) (n : ∀ xs, o ≠ .lst xs) : b ≠ d ∧ b ≠ c := by
  obtain ⟨nx, mx, cells, h1, h2, _⟩ := x
  refine ⟨fun z => ?_, fun z => ?_⟩
  · rw [z, h1] at e
    exact n _ (Option.some.inj e).symm
  · rw [z, h2] at e
    exact n _ (Option.some.inj e).symm
theorem DrawAt.extC {H H' : Hp} {d c : Addr} (x : DrawAt H d c) (e : ExtN H H') : DrawAt H' d c := by
  obtain ⟨nx, mx, cells, h1, h2, r⟩ := x
  exact ⟨nx, mx, cells, e _ _ h1 (fun ps z => nomatch z), e _ _ h2 (fun ps z => nomatch z), r⟩
theorem tabs_keepC {T : List (Addr × Str)} {d c : Addr} {H H' : Hp} (t : Tabs T H) (dr : DrawAt H d c) (k : Keep d c H H') : Tabs T H' := fun p hp => by
  obtain ⟨ps, e1, e2, e3⟩ := t p hp
  have off : ∀ {b : Addr} {o : HO}, H b = some o → (∀ xs, o ≠ .lst xs) → H' b = some o := fun {b o} e n => k b o (dr.notDC e n).1 (dr.notDC e n).2 e
  refine ⟨ps, off e1 (fun xs z => nomatch z), e2, fun pos cv hc => ?_⟩
  obtain ⟨c', q1, q2⟩ := e3 pos cv hc
  exact ⟨c', q1, off q2 (fun xs z => by unfold CodeO at z; cases z)⟩
theorem FAt.keepC {CF x : Addr} {H H' : Hp} {d c : Addr} {ts : List (Str × Str)} (dr : DrawAt H d c) (k : Keep d c H H') (h : FAt CF H x ts) : FAt CF H' x ts := by
  obtain ⟨dx, dq, h1, h2⟩ := h
  have a := dr.notDC h1 (fun xs z => nomatch z)
  have b := dr.notDC h2 (fun xs z => nomatch z)
  exact ⟨dx, dq, k _ _ a.1 a.2 h1, k _ _ b.1 b.2 h2⟩
theorem AAt.keepC {CA y x : Addr} {H H' : Hp} {d c : Addr} {zs : List Str} (ne : zs ≠ []) (dr : DrawAt H d c) (k : Keep d c H H') (h : AAt CA H y x zs) : AAt CA H' y x zs := by
  obtain ⟨dy, p, h1, h2⟩ := h
  have a := dr.notDC h1 (fun xs z => nomatch z)
  have b := dr.off_strs h2
  exact ⟨dy, p, k _ _ a.1 a.2 h1, k _ _ b.1 (b.2 ne) h2⟩
theorem FAt.extC {CF x : Addr} {H H' : Hp} {ts : List (Str × Str)} (k : ExtN H H') (h : FAt CF H x ts) : FAt CF H' x ts := by
  obtain ⟨dx, dq, h1, h2⟩ := h
  exact ⟨dx, dq, k _ _ h1 (fun ps z => nomatch z), k _ _ h2 (fun ps z => nomatch z)⟩
theorem AAt.extC {CA y x : Addr} {H H' : Hp} {zs : List Str} (k : ExtN H H') (h : AAt CA H y x zs) : AAt CA H' y x zs := by
  obtain ⟨dy, p, h1, h2⟩ := h
  exact ⟨dy, p, k _ _ h1 (fun ps z => nomatch z), k _ _ h2 (fun ps z => nomatch z)⟩
/-- an odd value, off the drawing state -/
inductive OddC (s : Str) (d c : Addr) (H : Hp) : V → PyData → Prop
  | non : OddC s d c H .non .none
  | five : OddC s d c H (.int 5) (.int 5)
  | nob : OddC s d c H (.str "nobody") (.str "nobody")
  | own : OddC s d c H (.str s) (.str s)
  | tup {a : Addr} (h : H a = some (.tup [.int 1])) : OddC s d c H (.ref a) (.tuple [.int 1])
  | nil {a : Addr} (h : H a = some (.lst [])) (n : a ≠ d ∧ a ≠ c) : OddC s d c H (.ref a) (.list [])
  | dct {a : Addr} (h : H a = some (.dK [])) : OddC s d c H (.ref a) (.dict [])
  | tru : OddC s d c H (.bl true) (.bool true)
  | lst {a : Addr} (h : H a = some (.lst [.str "a"])) (n : a ≠ d ∧ a ≠ c) : OddC s d c H (.ref a) (.list [.str "a"])
theorem OddC.imp {s : Str} {d c : Addr} {H H' : Hp} {v : V} {D : PyData} (m : ∀ a o, H a = some o → (∀ ps, o ≠ .tbl ps) → ((∃ xs, o = .lst xs) → a ≠ d ∧ a ≠ c) → H' a = some o) (h : OddC s d c H v D) : OddC s d c H' v D := by
  cases h with
  | non => exact .non
  | five => exact .five
  | nob => exact .nob
  | own => exact .own
  | tup h => exact .tup (m _ _ h (fun ps z => nomatch z) fun ⟨xs, z⟩ => nomatch z)
  | nil h n => exact .nil (m _ _ h (fun ps z => nomatch z) fun _ => n) n
  | dct h => exact .dct (m _ _ h (fun ps z => nomatch z) fun ⟨xs, z⟩ => nomatch z)
  | tru => exact .tru
  | lst h n => exact .lst (m _ _ h (fun ps z => nomatch z) fun _ => n) n
theorem OddC.extC {s : Str} {d c : Addr} {H H' : Hp} {v : V} {D : PyData} (e : ExtN H H') (h : OddC s d c H v D) : OddC s d c H' v D := h.imp fun a o q n _ => e a o q n
theorem OddC.keepC {s : Str} {d c : Addr} {H H' : Hp} {v : V} {D : PyData} (dr : DrawAt H d c) (k : Keep d c H H') (h : OddC s d c H v D) : OddC s d c H' v D := h.imp fun a o q _ n => by
  by_cases z : ∃ xs, o = .lst xs
  · exact k _ _ (n z).1 (n z).2 q
  · have w := dr.notDC q (fun xs e => z ⟨xs, e⟩)
    exact k _ _ w.1 w.2 q
/-- the words that stand among the odd values -/
structure WrdC (s : Str) : Prop where
  ok : PyData.strOk s = true
  sh : (PyData.str s).showable = true
  ls : (PyData.str s).shown.length ≤ sizeLine
  so : PyData.strOk (PyData.str s).shown = true
theorem wrd_root : WrdC "" := ⟨by decide +kernel, by decide +kernel, by decide +kernel, by decide +kernel⟩
theorem wrd_A : WrdC "A" := ⟨by decide +kernel, by decide +kernel, by decide +kernel, by decide +kernel⟩
theorem OddC.shw {K : PySem.W.Frag} {s : Str} {d c : Addr} {H : Hp} {v : V} {D : PyData} (w : WrdC s) (h : OddC s d c H v D) : ShwC K H v D ∧ PyData.strOk D.shown = true := by
  cases h with
  | non => exact ⟨⟨.inl ⟨.non, rfl⟩, by decide +kernel, by decide +kernel, by decide +kernel⟩, by decide +kernel⟩
  | five => exact ⟨⟨.inl ⟨.int 5, rfl⟩, by decide +kernel, by decide +kernel, by decide +kernel⟩, by decide +kernel⟩
  | nob => exact ⟨⟨.inl ⟨.str _, rfl⟩, by decide +kernel, by decide +kernel, by decide +kernel⟩, by decide +kernel⟩
  | own => exact ⟨⟨.inl ⟨.str _, rfl⟩, w.sh, by show (0 : Nat) ≤ 60; decide, w.ls⟩, w.so⟩
  | tup h => exact ⟨⟨.inl ⟨.tup (.inl (.inl h)) (.cons (.int 1) .nil), rfl⟩, by decide +kernel, by decide +kernel, by decide +kernel⟩, by decide +kernel⟩
  | nil h n => exact ⟨⟨.inl ⟨.lst (SqL.of h) .nil, rfl⟩, by decide +kernel, by decide +kernel, by decide +kernel⟩, by decide +kernel⟩
  | dct h => exact ⟨⟨.inr ⟨_, rfl, h, rfl⟩, by decide +kernel, by decide +kernel, by decide +kernel⟩, by decide +kernel⟩
  | tru => exact ⟨⟨.inl ⟨.bl true, rfl⟩, by decide +kernel, by decide +kernel, by decide +kernel⟩, by decide +kernel⟩
  | lst h n => exact ⟨⟨.inl ⟨.lst (SqL.of h) (.cons (.str _) .nil), rfl⟩, by decide +kernel, by decide +kernel, by decide +kernel⟩, by decide +kernel⟩
theorem OddC.dat {K : PySem.W.Frag} {s : Str} {d c : Addr} {H : Hp} {v : V} {D : PyData} (h : OddC s d c H v D) : IsDat K H v := by
  cases h with
  | non => exact ⟨_, .non⟩
  | five => exact ⟨_, .int 5⟩
  | nob => exact ⟨_, .str _⟩
  | own => exact ⟨_, .str _⟩
  | tup h => exact ⟨_, .tup h⟩
  | nil h n => exact ⟨_, .lst h⟩
  | dct h => exact ⟨_, .dct h⟩
  | tru => exact ⟨_, .bl true⟩
  | lst h n => exact ⟨_, .lst h⟩
theorem OddC.noflag {ts : List (Str × Str)} {s : Str} {d c : Addr} {H : Hp} {v : V} {D : PyData} (h : OddC s d c H v D) (n1 : ("nobody" : Str) ∉ ts.map Prod.fst) (n2 : s ∉ ts.map Prod.fst) : flagV ts v = false := by
  cases h with
  | nob => exact decide_eq_false n1
  | own => exact decide_eq_false n2
  | _ => rfl
theorem OddC.noplace {ts : List (Str × Str)} {s : Str} {d c : Addr} {H : Hp} {v : V} {D : PyData} (h : OddC s d c H v D) (n1 : ("nobody" : Str) ∉ ts.map Prod.fst) (n2 : s ∉ ts.map Prod.fst) (n3 : s ≠ "") : placeV ts v = false := by
  cases h with
  | nob => exact decide_eq_false fun z => z.elim (by decide +kernel) n1
  | own => exact decide_eq_false fun z => z.elim n3 n2
  | _ => rfl
/-! ### the checks' readings -/
theorem eqv_pair (a : Str) (d : PyData) (h : PyData.eqv d d = true) : PyData.eqv (.tuple [.str a, d]) (.tuple [.str a, d]) = true := by
  simp [PyData.eqv, PyData.eqvAll, h]
theorem eqv_str (a : Str) : PyData.eqv (.str a) (.str a) = true := by
  simp [PyData.eqv]
def tPair (w : Str) (te : TE) : TE := tTup (tCons (tC (.str w)) (tCons te tNil))
theorem chk_mis {K : PySem.W.Frag} {C : Nat → Addr} {T : List (Addr × Str)} {σ : St} {t : XK → TE} {tr : TS} {D : Ends} {H1 : Hp} (hT : Tabs T H1)
    (call : ∀ H2, ExtN H1 H2 → Tabs T H2 → ∀ (E : XK) (Q' : VK), (∀ H3, Same H2 H3 → E (.ref (C 0)) none H3) → t E σ H2 Q') (k : ∀ H2 H3, ExtN H1 H2 → Tabs T H2 → Same H2 H3 → D.nx σ H3) :
    tIfS (tTest (tOp (rNeD K) (tLam T (TErrC K C) t) (tPair "mismatch" (tC .non)))) tr tNext D σ H1 := by
  refine ⟨hT, fun H2 e2 t2 => call H2 e2 t2 _ _ (fun H3 s3 => .inl ⟨rfl, rfl, fun p H4 s4 np hp => ⟨by show 2 ≤ sizeLine; decide, fun q nq => ?_⟩⟩)⟩
  have s5 := same_new (o := .tup [.str "mismatch", .non]) nq
  refine ⟨.tuple [.str "mismatch", .none], .tuple [.str "mismatch", .none], .tup (.inl (.inl (s5 _ _ hp))) (.cons (.str _) (.cons .non .nil)), .tup (.inl (.inl upd_same)) (.cons (.str _) (.cons .non .nil)), by decide +kernel, by decide +kernel, _, rfl, ?_⟩
  rw [eqv_pair _ _ (by decide +kernel)]
  exact iteF (k H2 _ e2 t2 ((s3.trans s4).trans s5))
end FT


/-! family C: layers refused -/
namespace FT
open PySem L2 TL ClX LiI LamX
theorem shaped_pair {a z : Str} (ha : PyData.strOk a = true) (hz : PyData.strOk z = true) : SeqAt.shaped (.tuple [.str a, .str z]) = true := by
  simp [SeqAt.shaped, PyData.canLay0, PyData.canLayAll0, PyData.depth, PyData.depthAll, ha, hz]
theorem ok_name_word : PyData.strOk "name" = true := by decide +kernel
/-- what a name that is refused makes of both sides -/
theorem pair_nam {K : PySem.W.Frag} {C : Nat → Addr} {CN : Addr} (eN : C 1 = CN) {σ : St} {t : XK → TE} {H2 : Hp} {v : V} {D : PyData} {i : Nat} (hv : σ[i]? = some (some v)) (sh : ShwC K H2 v D) (so : PyData.strOk D.shown = true) (Q : V → V → Hp → Prop)
    (call : ∀ (E : XK) (Q' : VK), Out H2 E (.e1 CN "name" v) → t E σ H2 Q')
    (k : ∀ p q H', Same H2 H' → Dp K H' (.ref p) (.tuple [.str "name", .str D.shown]) → Dp K H' (.ref q) (.tuple [.str "name", .str D.shown]) → Q (.ref p) (.ref q) H') :
    TErrC K C (fun E H' Q' => t E σ H' Q') H2 fun x H3 => tPair "name" (tCB (rRepr K) (tCons (tVar i) tNil)) σ H3 fun y H4 => Q x y H4 := by
  refine call _ _ fun d H3 s3 nd hd => .inr ⟨d, v, D, by rw [eN], rfl, hd, sh.up s3, fun p H4 s4 np hp => ?_⟩
  have s24 := s3.trans s4
  have sh4 := sh.up s24
  refine ⟨_, hv, v, D, rfl, sh4.shw, sh4.ok, sh4.dep, sh4.len, by show 2 ≤ sizeLine; decide, fun q nq => ?_⟩
  have s5 := same_new (o := .tup [.str "name", .str D.shown]) nq
  exact k p q _ (s24.trans s5) (.tup (.inl (.inl (s5 _ _ hp))) (.cons (.str _) (.cons (.str _) .nil))) (.tup (.inl (.inl upd_same)) (.cons (.str _) (.cons (.str _) .nil)))
theorem chk_nam {K : PySem.W.Frag} {C : Nat → Addr} {CN : Addr} (eN : C 1 = CN) {T : List (Addr × Str)} {σ : St} {t : XK → TE} {tr : TS} {D : Ends} {H1 : Hp} {v : V} {dv : PyData} {i : Nat} (hv : σ[i]? = some (some v)) (so : PyData.strOk dv.shown = true) (hT : Tabs T H1)
    (sh : ∀ H2, ExtN H1 H2 → ShwC K H2 v dv) (call : ∀ H2, ExtN H1 H2 → Tabs T H2 → ∀ (E : XK) (Q' : VK), Out H2 E (.e1 CN "name" v) → t E σ H2 Q') (k : ∀ H2 H3, ExtN H1 H2 → Tabs T H2 → Same H2 H3 → D.nx σ H3) :
    tIfS (tTest (tOp (rNeD K) (tLam T (TErrC K C) t) (tPair "name" (tCB (rRepr K) (tCons (tVar i) tNil))))) tr tNext D σ H1 := by
  refine ⟨hT, fun H2 e2 t2 => pair_nam eN hv (sh H2 e2) so _ (call H2 e2 t2) fun p q H' s d1 d2 => ⟨_, _, d1, d2, shaped_pair ok_name_word so, shaped_pair ok_name_word so, _, rfl, ?_⟩⟩
  rw [eqv_pair _ _ (eqv_str _)]
  exact iteF (k H2 H' e2 t2 s)
theorem chk_namR {K : PySem.W.Frag} {C : Nat → Addr} {CN : Addr} (eN : C 1 = CN) {T : List (Addr × Str)} {σ : St} {t : XK → TE} {D : Ends} {H1 : Hp} {v : V} {dv : PyData} {i : Nat} (hv : σ[i]? = some (some v)) (so : PyData.strOk dv.shown = true) (hT : Tabs T H1)
    (sh : ∀ H2, ExtN H1 H2 → ShwC K H2 v dv) (call : ∀ H2, ExtN H1 H2 → Tabs T H2 → ∀ (E : XK) (Q' : VK), Out H2 E (.e1 CN "name" v) → t E σ H2 Q') (k : ∀ H2 H3, ExtN H1 H2 → Tabs T H2 → Same H2 H3 → D.rt (.bl true) H3) :
    tRet (tOp (rEqD K) (tLam T (TErrC K C) t) (tPair "name" (tCB (rRepr K) (tCons (tVar i) tNil)))) D σ H1 := by
  refine ⟨hT, fun H2 e2 t2 => pair_nam eN hv (sh H2 e2) so _ (call H2 e2 t2) fun p q H' s d1 d2 => ⟨_, _, d1, d2, shaped_pair ok_name_word so, shaped_pair ok_name_word so, ?_⟩⟩
  rw [eqv_pair _ _ (eqv_str _)]
  exact k H2 H' e2 t2 s
end FT


/-! Forest.__init__, with the word that its own dict is a new one -/
namespace FT
open PySem L2 TL ClX
def spFInitN (CF : Addr) : Sp := fun vs H Q _ => ∃ (x q dx : Addr) (t : List (Str × Str)), vs = [.ref x, .ref q] ∧ H x = some (.ins CF dx []) ∧ H q = some (.dK (prs t)) ∧ TreeOk t ∧
  ∀ (H' : Hp) (ts : List (Str × Str)), ts.Perm t → Asc ts → FAt CF H' x ts → (∀ b o, b ≠ x → H b = some o → H' b = some o) → (∀ dy dq, H' x = some (.ins CF dy [("above", .ref dq)]) → H dq = none) → Q .non H'
section
variable {P : Program} {w : World} {K : PySem.W.Frag} {mg : Str → Option Value} {base : Heap}
theorem ok_finitN {f fN CF : Addr} {fd fdN : FuncData} (F : Fun K "__init__" "Forest.__init__" s_Forest___init__ f fd) (T : Nm mg) (O : FoC K CF) (GN : Dn P w K mg base CX0 2 "need_parents" ["parents"] spNeed fN fdN) :
    FnOk P w K mg base CX0 3 f fd ["self", "parents"] (spFInitN CF) := by
  refine F.ok scFInit (fun vs H Q E h => ?_) (fun cdv A outer s H vs Q E hr h => ?_)
  · obtain ⟨x, q, dx, t, rfl, _⟩ := h
    rfl
  · obtain ⟨x, q, dx, t, rfl, hx, hq, o, k⟩ := h
    have hu := hu_of hr
    refine ⟨_, pss_cons (ps_expr (pe_call GN.ok hr rfl GN.mgn GN.kp GN.bn .nil pass0 (pa_cons (pv 1) pa_nil)))
      (pss_one (ps_fld (pv 0) (pe_dc (own := [("name", 2)]) (g := gName 2) (tt := tYes) rfl scFInit.nd (pi_list (pe_callB (call_sortedD rfl) (by rfl) T.srt (by decide +kernel) (pa_cons (pv 1) pa_nil)))
        (blkOk_by (N := ["self", "parents", "name"]) (sc := defScope s_Forest___init__) (by decide +kernel))
        (fun _ _ _ _ _ => pg_name (i := 2) scFInit.nd rfl (Or.inl rfl)) (fun _ _ _ _ _ => pts_nil) (fun _ _ _ _ _ => pv 2) (fun _ _ _ _ _ => pe_dget hu (pv 1) (pv 2) (fun _ _ => rfl))) rfl)), ?_⟩
    have few := o.few
    have big : 1000 ≤ sizeLine := by decide
    refine ⟨_, rfl, q, t, rfl, hq, o, fun H1 s1 => ?_⟩
    have hq1 := s1 _ _ hq
    refine ⟨_, rfl, q, prs t, t.map Prod.fst, rfl, .inl hq1, prs_keys t, by rw [List.length_map]; omega, fun ys p perm srt np => ⟨p, rfl, ⟨_, SqL.of upd_same⟩, fun D nD => ?_⟩⟩
    obtain ⟨H2, e2⟩ : ∃ X, X = upd H1 p (.lst (ys.map V.str)) := ⟨_, rfl⟩
    have s2 : Same H H2 := s1.trans (e2 ▸ same_new np)
    have at2 : H2 p = some (.lst (ys.map V.str)) := by rw [e2]; exact upd_same
    rw [← e2] at nD ⊢
    have ndy : ys.Nodup := perm.nodup_iff.mpr o.nd
    have ly := perm.length_eq
    rw [List.length_map] at ly
    refine dc_it walk_list (fun i H' => Same H2 H' ∧ ∃ ts : List (Str × Str), H' D = some (.dK (prs ts)) ∧ ts.map Prod.fst = ys.take i ∧ ∀ p ∈ ts, p ∈ t) ⟨same_new nD, [], upd_same, by rw [List.take_zero] <;> rfl, fun p h => by cases h⟩ (fun i H' _ z => SqL.of (z.1 _ _ at2)) ?_ ?_
    · intro i y Ha Hb hi ⟨q1, ts, hD, ets, hts⟩ ⟨eb, ex⟩
      subst eb
      rw [List.getElem?_map] at ex
      obtain ⟨a, ha, rfl⟩ := Option.map_eq_some_iff.mp ex
      have ma : a ∈ t.map Prod.fst := perm.mem_iff.mp (List.mem_of_getElem? ha)
      obtain ⟨pa, hv⟩ := par_some o.nd ma
      have hqa := q1 _ _ (s2 _ _ hq)
      have fresh : a ∉ ts.map Prod.fst := by
        rw [ets]
        intro hm
        obtain ⟨j, hj⟩ := List.mem_iff_getElem?.mp hm
        have jl := (List.getElem?_eq_some_iff.mp hj).1
        have il := (List.getElem?_eq_some_iff.mp ha).1
        rw [List.length_take] at jl
        rw [List.getElem?_take, if_pos (by omega)] at hj
        have := (List.getElem?_inj (by omega) ndy).mp (hj.trans ha.symm)
        omega
      have lt := congrArg List.length ets
      rw [List.length_map, List.length_take] at lt
      refine ⟨rfl, ?_⟩
      refine ⟨_, rfl, _, rfl, _, rfl, q, V.str pa, rfl, by have z := DGet.k (k := Sum.inr a) hqa; rw [val_prs, hv] at z; exact z, prs ts, Sum.inr a, rfl, hD, by rw [prs_len]; omega, ?_, ts ++ [(a, pa)], ?_, ?_, fun z hz => ?_⟩
      · intro b u e
        rw [upd_ne (ne_of_none e nD)]
        exact q1 b u e
      · rw [upd_same, put_new fresh]
      · rw [List.map_append, ets, take_more ha] <;> rfl
      · rcases List.mem_append.mp hz with h | h
        · exact hts z h
        · rw [List.mem_singleton.mp h]
          exact par_mem hv
    · intro H3 ⟨q1, ts, hD, ets, hts⟩
      rw [List.length_map, List.take_length] at ets
      have s3 : Same H H3 := s2.trans q1
      refine ⟨_, rfl, x, CF, dx, [], rfl, s3 _ _ hx, O.cl, O.nA, by show 0 < 1000; decide, ?_⟩
      have xD : D ≠ x := (ne_of_none (s2 _ _ hx) nD).symm
      refine k _ ts (perm_pairs o.nd (by rw [ets]; exact perm) hts) (by unfold Asc; rw [ets]; exact srt) ⟨dx, D, upd_same, by rw [upd_ne xD]; exact hD⟩ (fun b u bx e => ?_) fun dy dq e => ?_
      · rw [upd_ne bx]
        exact s3 b u e
      · rw [upd_same] at e
        cases e
        exact s2.free nD
end
end FT


/-! family C: _law_refused -/
namespace FT
open PySem L2 TL ClX LiI LamX
/-- what it leans on -/
structure W35 (P : Program) (w : World) (K : PySem.W.Frag) (mg : Str → Option Value) (base : Heap) (CF CA CM CN : Addr) (mc mcA : Value) (f : Nat → Addr) (fd : Nat → FuncData) (pP gP : Addr) (dP : FuncData) : Prop where
  Z : Fc K mg CF mc
  B : Ac K mg CA mcA
  pk : Dn P w K mg base CX0 2 "_law_pick" ["_law_state", "_law_some"] (spPick K) (f 0) (fd 0)
  fi : FnOk P w K mg base CX0 3 (f 1) (fd 1) ["self", "parents"] (spFInitN CF)
  fim : Mk K CF (f 1)
  fib : Binds K (fd 1) ["self", "parents"] []
  ai : FnOk P w K mg base CX0 1 (f 2) (fd 2) ["self", "forest", "places"] (spAInit CF CA)
  aim : Mk K CA (f 2)
  aib : Binds K (fd 2) ["self", "forest", "places"] []
  jo : Dn P w K mg base (L2.CX P w) 5 "joint" ["one", "other", "name", "place"] (spJoint K CF CA CM CN) (f 3) (fd 3)
  ba : Dn P w K mg base (L2.CX P w) 6 "is_balanced" ["one", "other"] (spBal CF CA CM) (f 4) (fd 4)
  pP : PrN P w K mg base 1 CA "places" (spAPlaces CA) pP gP dP
def spRefused (CF CA : Addr) (T : List (Addr × Str)) : Sp := fun vs H Q _ => ∃ (d c q1 q2 y1 y2 x1 x2 : Addr) (t u ts us : List (Str × Str)) (zs ws : List Str), vs = [.ref d, .ref y1, .ref y2, .ref q1, .ref q2] ∧ DrawAt H d c ∧ Tabs T H ∧ H q1 = some (.dK (prs t)) ∧ H q2 = some (.dK (prs u)) ∧ TreeUp t ∧ TreeUp u ∧
  ts.Perm t ∧ us.Perm u ∧ Asc us ∧ FAt CF H x1 ts ∧ FAt CF H x2 us ∧ AAt CA H y1 x1 zs ∧ AAt CA H y2 x2 ws ∧ zs.length = ws.length ∧ 1 ≤ zs.length ∧ zs.length ≤ 24 ∧ (∀ z ∈ zs, Pl ts z) ∧ (∀ z ∈ ws, Pl us z) ∧
  ∀ H', DrawAt H' d c → Tabs T H' → Q (.bl true) H'
theorem asc_oneC {ts us : List (Str × Str)} (o : TreeOk ts) (p : us.Perm ts) (a : Asc ts) (b : Asc us) : us = ts := by
  have e : us.map Prod.fst = ts.map Prod.fst := sorted_one (p.map _) b a
  refine List.ext_getElem? fun i => ?_
  have ei : (us.map Prod.fst)[i]? = (ts.map Prod.fst)[i]? := by rw [e]
  rw [List.getElem?_map, List.getElem?_map] at ei
  cases h1 : us[i]? with
  | none =>
    rw [h1] at ei
    cases h2 : ts[i]? with
    | none => rfl
    | some q => rw [h2] at ei; cases ei
  | some q1 =>
    rw [h1] at ei
    cases h2 : ts[i]? with
    | none => rw [h2] at ei; cases ei
    | some q2 =>
      rw [h2] at ei
      have ek : q1.1 = q2.1 := Option.some.inj ei
      have z1 := par_of o.nd (p.mem_iff.mp (List.mem_of_getElem? h1))
      have z2 := par_of o.nd (List.mem_of_getElem? h2)
      rw [ek, z2] at z1
      exact congrArg some (Prod.ext ek (Option.some.inj z1).symm)
abbrev lamQ (x : Str) : Str := x ++ ".<locals>." ++ "<lambda>"
abbrev NRf : List Str := ["_law_state", "_law_first", "_law_second", "_law_tree_here", "_law_other_tree", "_law_bad", "_law_flag", "_law_longer", "_law_odd"]
section
variable {P : Program} {w : World} {K : PySem.W.Frag} {mg : Str → Option Value} {base : Heap}
theorem scRf : FnScope NRf ["_law_state", "_law_first", "_law_second", "_law_tree_here", "_law_other_tree"] (defScope s__law_refused) := ⟨rfl, rfl, rfl, by decide +kernel, rfl, by decide +kernel, by decide +kernel⟩
/-- nine odd values, one drawn -/
theorem odd_pick {s : Str} {H : Hp} {d c t1 l1 d1 l2 p : Addr} (dr : DrawAt H d c) (n1 : H t1 = none) (n2 : (upd H t1 (.tup [.int 1])) l1 = none) (n3 : (upd (upd H t1 (.tup [.int 1])) l1 (.lst [])) d1 = none) (n4 : (upd (upd (upd H t1 (.tup [.int 1])) l1 (.lst [])) d1 (.dK [])) l2 = none)
    (n5 : (upd (upd (upd (upd H t1 (.tup [.int 1])) l1 (.lst [])) d1 (.dK [])) l2 (.lst [.str "a"])) p = none) {Q : VK}
    (k : ∀ x D H', OddC s d c H' x D → DrawAt H' d c → Keep d c H H' → Q x H') :
    spPick K [.ref d, .ref p] (upd (upd (upd (upd (upd H t1 (.tup [.int 1])) l1 (.lst [])) d1 (.dK [])) l2 (.lst [.str "a"])) p (.lst [.non, .int 5, .str "nobody", .str s, .ref t1, .ref l1, .ref d1, .bl true, .ref l2])) Q E0 := by
  have s1 := same_new (o := .tup [.int 1]) n1
  have s2 := same_new (o := .lst []) n2
  have s3 := same_new (o := .dK []) n3
  have s4 := same_new (o := .lst [.str "a"]) n4
  have s5 := same_new (o := .lst [.non, .int 5, .str "nobody", .str s, .ref t1, .ref l1, .ref d1, .bl true, .ref l2]) n5
  obtain ⟨H5, e5⟩ : ∃ X, X = upd (upd (upd (upd (upd H t1 (.tup [.int 1])) l1 (.lst [])) d1 (.dK [])) l2 (.lst [.str "a"])) p (.lst [.non, .int 5, .str "nobody", .str s, .ref t1, .ref l1, .ref d1, .bl true, .ref l2]) := ⟨_, rfl⟩
  have h1 : H5 t1 = some (.tup [.int 1]) := by rw [e5]; exact s5 _ _ (s4 _ _ (s3 _ _ (s2 _ _ upd_same)))
  have h2 : H5 l1 = some (.lst []) := by rw [e5]; exact s5 _ _ (s4 _ _ (s3 _ _ upd_same))
  have h3 : H5 d1 = some (.dK []) := by rw [e5]; exact s5 _ _ (s4 _ _ upd_same)
  have h4 : H5 l2 = some (.lst [.str "a"]) := by rw [e5]; exact s5 _ _ upd_same
  have h5 : H5 p = some (.lst [.non, .int 5, .str "nobody", .str s, .ref t1, .ref l1, .ref d1, .bl true, .ref l2]) := by rw [e5]; exact upd_same
  have a2 := (dr.mono s1).apart n2
  have a4 := (((dr.mono s1).mono s2).mono s3).apart n4
  have a5 := ((((dr.mono s1).mono s2).mono s3).mono s4).apart n5
  have sA : Same H H5 := e5 ▸ (((s1.trans s2).trans s3).trans s4).trans s5
  have dr5 := dr.mono sA
  rw [← e5]
  refine ⟨d, c, _, 9, (fun _ x => ∃ D, OddC s d c H5 x D), rfl, dr5, .inl ⟨p, _, rfl, a5.1, a5.2, h5, rfl, fun i x hx => ?_⟩, by decide, by decide, fun i x H6 ⟨D, od⟩ dr6 k6 => k x D H6 (od.keepC dr5 k6) dr6 ((Keep.of_same sA).trans k6)⟩
  match i, hx with
  | 0, hx => exact Option.some.inj hx ▸ ⟨_, .non⟩
  | 1, hx => exact Option.some.inj hx ▸ ⟨_, .five⟩
  | 2, hx => exact Option.some.inj hx ▸ ⟨_, .nob⟩
  | 3, hx => exact Option.some.inj hx ▸ ⟨_, .own⟩
  | 4, hx => exact Option.some.inj hx ▸ ⟨_, .tup h1⟩
  | 5, hx => exact Option.some.inj hx ▸ ⟨_, .nil h2 a2⟩
  | 6, hx => exact Option.some.inj hx ▸ ⟨_, .dct h3⟩
  | 7, hx => exact Option.some.inj hx ▸ ⟨_, .tru⟩
  | 8, hx => exact Option.some.inj hx ▸ ⟨_, .lst h4 a4⟩
  | i + 9, hx => cases hx
theorem ok_refused {f0 fEr CF CA CM CN R co ta pP gP : Addr} {mc mcA : Value} {CC : Nat → Addr} {T : List (Addr × Str)} {f : Nat → Addr} {fd : Nat → FuncData} {fd0 fdEr dP : FuncData} (F : FunC K "_law_refused" "_law_refused" s__law_refused f0 fd0 co) (N : Nm mg) (L : W35 P w K mg base CF CA CM CN mc mcA f fd pP gP dP)
    (GE : Ge K mg "_law_error" s__law_error fEr fdEr) (C : ClC K mg R CC) (eM : CC 0 = CM) (eN : CC 1 = CN) (TB : TabB base mg co ta) (hmT : (ta, lamQ "_law_refused") ∈ T) (hut : ∀ p ∈ T, p.1 = ta → p.2 = lamQ "_law_refused") :
    FnG P w K mg base CX0 9 f0 fd0 ["_law_state", "_law_first", "_law_second", "_law_tree_here", "_law_other_tree"] (spRefused CF CA T) := by
  refine F.okG scRf (fun vs H Q E h => ?_) (fun A outer s H vs Q E clr hr h => ?_)
  · obtain ⟨d, c, q1, q2, y1, y2, x1, x2, t, u, ts, us, zs, ws, rfl, _⟩ := h
    rfl
  · obtain ⟨d, c, q1, q2, y1, y2, x1, x2, t, u, ts, us, zs, ws, rfl, dr, tT, hq1, hq2, ut, uu, pts, pus, asc, fa, fb, aa, ab, el, z1, z24, pz, pw, k⟩ := h
    have hr1 : Room 1 _ := hr.mono (by decide)
    have hr2 : Room 2 _ := hr.mono (by decide)
    have hr4 : Room 4 _ := hr.mono (by decide)
    have nd := scRf.nd
    have big : 1000 ≤ sizeLine := by decide
    refine ⟨_, pss_cons (ps_set (i := 8) nd rfl (.inr rfl) (pe_call L.pk.ok hr2 rfl L.pk.mgn L.pk.kp L.pk.bn .nil pass0 (pa_cons (pv 0) (pa_cons (pe_lst (pa_cons pe_non (pa_cons pe_int (pa_cons pe_str (pa_cons pe_str (pa_cons (pe_tup (pa_cons pe_int pa_nil)) (pa_cons (pe_lst pa_nil) (pa_cons pe_dnewK (pa_cons pe_bl (pa_cons (pe_lst (pa_cons pe_str pa_nil)) pa_nil)))))))))) pa_nil))))
      (pss_cons (ps_set (i := 5) nd rfl (.inr rfl) (pe_call L.pk.ok hr2 rfl L.pk.mgn L.pk.kp L.pk.bn .nil pass0 (pa_cons (pv 0) (pa_cons (pe_lst (pa_cons pe_non (pa_cons pe_int (pa_cons pe_str (pa_cons pe_str (pa_cons (pe_tup (pa_cons pe_int pa_nil)) (pa_cons (pe_lst pa_nil) (pa_cons pe_dnewK (pa_cons pe_bl (pa_cons (pe_lst (pa_cons pe_str pa_nil)) pa_nil)))))))))) pa_nil))))
      (pss_cons (ps_set (i := 6) nd rfl (.inr rfl) (pe_call L.pk.ok hr2 rfl L.pk.mgn L.pk.kp L.pk.bn .nil pass0 (pa_cons (pv 0) (pa_cons (pe_callB (call_sortedD rfl) (by rfl) N.srt (by decide +kernel) (pa_cons (pv 3) pa_nil)) pa_nil))))
      (pss_cons (ps_set (i := 7) nd rfl (.inr rfl) (pe_make L.aim L.ai hr2 (by rfl) L.B.gA L.aib .nil pass0 (pa_cons (pe_make L.fim L.fi hr4 (by rfl) L.Z.gF L.fib .nil pass0 (pa_cons (pv 4) pa_nil)) (pa_cons (pe_op op_cat (pe_prop (pv 2) L.B.cl L.pP.pr L.pP.fn hr2 L.pP.bn .nil pass0 (by rfl)) (pe_lst (pa_cons pe_str pa_nil))) pa_nil))))
      (pss_cons (ps_if (pt_cmpR (op_neD hr.units) (pe_lamS (T := T) (k := 6) (t := fun E => tCall (spJoint K CF CA CM CN) [] E (tCons (tVar 1) (tCons (tVar 7) (tCons (tVar 8) (tCons (tVar 5) tNil))))) rfl GE.mgn GE.fn GE.bn scEc rfl (.inl rfl) (fun cdg => errC_gives N C clr.deeper hr1 N.rep) TB rfl hmT hut hr (lamS_by (sc := defScope s__law_refused) (by decide +kernel)) rfl (fun _ _ _ _ _ => rfl)
          (fun A outer s H E f c' hr2 => pe_call L.jo.ok (hr2.mono (by decide)) rfl L.jo.mgn L.jo.kp L.jo.bn .nil (passes_call (takes_of rfl rfl rfl rfl) (fun _ _ _ _ h => h)) (pa_cons (pv 1) (pa_cons (pv 7) (pa_cons (pv 8) (pa_cons (pv 5) pa_nil)))))) (pe_tup (pa_cons pe_str (pa_cons pe_non pa_nil))) (nomark _)) (pss_one (ps_ret pe_bl)) pss_nil)
      (pss_cons (ps_if (pt_cmpR (op_neD hr.units) (pe_lamS (T := T) (k := 6) (t := fun E => tCall (spBal CF CA CM) [] E (tCons (tVar 7) (tCons (tVar 1) tNil))) rfl GE.mgn GE.fn GE.bn scEc rfl (.inl rfl) (fun cdg => errC_gives N C clr.deeper hr1 N.rep) TB rfl hmT hut hr (lamS_by (sc := defScope s__law_refused) (by decide +kernel)) rfl (fun _ _ _ _ _ => rfl)
          (fun A outer s H E f c' hr2 => pe_call L.ba.ok (hr2.mono (by decide)) rfl L.ba.mgn L.ba.kp L.ba.bn .nil (passes_call (takes_of rfl rfl rfl rfl) (fun _ _ _ _ h => h)) (pa_cons (pv 7) (pa_cons (pv 1) pa_nil)))) (pe_tup (pa_cons pe_str (pa_cons pe_non pa_nil))) (nomark _)) (pss_one (ps_ret pe_bl)) pss_nil)
      (pss_cons (ps_if (pt_cmpR (op_neD hr.units) (pe_lamS (T := T) (k := 6) (t := fun E => tCall (spJoint K CF CA CM CN) [] E (tCons (tVar 1) (tCons (tVar 2) (tCons (tVar 8) (tCons (tVar 5) tNil))))) rfl GE.mgn GE.fn GE.bn scEc rfl (.inl rfl) (fun cdg => errC_gives N C clr.deeper hr1 N.rep) TB rfl hmT hut hr (lamS_by (sc := defScope s__law_refused) (by decide +kernel)) rfl (fun _ _ _ _ _ => rfl)
          (fun A outer s H E f c' hr2 => pe_call L.jo.ok (hr2.mono (by decide)) rfl L.jo.mgn L.jo.kp L.jo.bn .nil (passes_call (takes_of rfl rfl rfl rfl) (fun _ _ _ _ h => h)) (pa_cons (pv 1) (pa_cons (pv 2) (pa_cons (pv 8) (pa_cons (pv 5) pa_nil)))))) (pe_tup (pa_cons pe_str (pa_cons (pe_callB (call_repr clr.deeper hr.units) (by rfl) N.rep (by decide +kernel) (pa_cons (pv 8) pa_nil)) pa_nil))) (nomark _)) (pss_one (ps_ret pe_bl)) pss_nil)
      (pss_one (ps_ret (pe_cmpR (op_eqD hr.units) (pe_lamS (T := T) (k := 6) (t := fun E => tCall (spJoint K CF CA CM CN) [] E (tCons (tVar 1) (tCons (tVar 2) (tCons (tVar 6) (tCons (tVar 5) tNil))))) rfl GE.mgn GE.fn GE.bn scEc rfl (.inl rfl) (fun cdg => errC_gives N C clr.deeper hr1 N.rep) TB rfl hmT hut hr (lamS_by (sc := defScope s__law_refused) (by decide +kernel)) rfl (fun _ _ _ _ _ => rfl)
          (fun A outer s H E f c' hr2 => pe_call L.jo.ok (hr2.mono (by decide)) rfl L.jo.mgn L.jo.kp L.jo.bn .nil (passes_call (takes_of rfl rfl rfl rfl) (fun _ _ _ _ h => h)) (pa_cons (pv 1) (pa_cons (pv 2) (pa_cons (pv 6) (pa_cons (pv 5) pa_nil)))))) (pe_tup (pa_cons pe_str (pa_cons (pe_callB (call_repr clr.deeper hr.units) (by rfl) N.rep (by decide +kernel) (pa_cons (pv 5) pa_nil)) pa_nil))) (nomark _)))))))))), ?_⟩
    have zne : zs ≠ [] := fun e => by rw [e] at z1; exact absurd z1 (by decide)
    have wne : ws ≠ [] := fun e => by rw [e] at el; exact zne (List.length_eq_zero_iff.mp el)
    have o1 : TreeOk ts := ut.ok.perm pts.symm
    have o2 : TreeOk us := uu.ok.perm pus.symm
    have nmT : ∀ z ∈ ts.map Prod.fst, NameF z := fun z hz => ut.nm z ((pts.map Prod.fst).mem_iff.mp hz)
    have nmU : ∀ z ∈ us.map Prod.fst, NameF z := fun z hz => uu.nm z ((pus.map Prod.fst).mem_iff.mp hz)
    have q1d := dr.notDC hq1 (fun xs z => nomatch z)
    have q2d := dr.notDC hq2 (fun xs z => nomatch z)
    -- odd values
    refine ⟨_, rfl, by show 1 ≤ sizeLine; omega, fun t1 nt1 => ⟨by show 0 ≤ sizeLine; omega, fun l1 nl1 d1 nd1 => ⟨by show 1 ≤ sizeLine; omega, fun l2 nl2 => ⟨by show 9 ≤ sizeLine; omega, fun p np => odd_pick dr nt1 nl1 nd1 nl2 np fun ov Do H1 od1 dr1 k1 => ?_⟩⟩⟩⟩
    have tb1 := tabs_keepC tT dr k1
    have fa1 := fa.keepC dr k1
    have fb1 := fb.keepC dr k1
    have aa1 := aa.keepC zne dr k1
    have ab1 := ab.keepC wne dr k1
    have hq1_1 := k1.at_ hq1 q1d.1 q1d.2
    have hq2_1 := k1.at_ hq2 q2d.1 q2d.2
    refine ⟨_, rfl, by show 1 ≤ sizeLine; omega, fun t1 nt1 => ⟨by show 0 ≤ sizeLine; omega, fun l1 nl1 d1 nd1 => ⟨by show 1 ≤ sizeLine; omega, fun l2 nl2 => ⟨by show 9 ≤ sizeLine; omega, fun p np => odd_pick dr1 nt1 nl1 nd1 nl2 np fun bv Db H2 bd2 dr2 k2 => ?_⟩⟩⟩⟩
    have tb2 := tabs_keepC tb1 dr1 k2
    have fa2 := fa1.keepC dr1 k2
    have fb2 := fb1.keepC dr1 k2
    have aa2 := aa1.keepC zne dr1 k2
    have ab2 := ab1.keepC wne dr1 k2
    have od2 := od1.keepC dr1 k2
    have hq1_2 := k2.at_ hq1_1 q1d.1 q1d.2
    have hq2_2 := k2.at_ hq2_1 q2d.1 q2d.2
    -- a flag
    have lt1 := ut.one
    have lt12 := ut.few
    refine ⟨_, rfl, _, rfl, q1, prs t, t.map Prod.fst, rfl, .inl hq1_2, prs_keys t, by rw [List.length_map]; omega, fun ks p perm srt np => ?_⟩
    have lk := perm.length_eq
    rw [List.length_map] at lk
    have s3 := same_new (o := .lst (ks.map V.str)) np
    have pd := dr2.apart np
    refine ⟨d, c, _, ks.length, (fun _ x => ∃ z, x = .str z ∧ z ∈ t.map Prod.fst), rfl, dr2.mono s3, .inl ⟨p, ks.map V.str, rfl, pd.1, pd.2, upd_same, List.length_map .., items_strs (fun z hz => perm.mem_iff.mp hz)⟩, by omega, by omega, fun i x H4 px dr4 k4 => ?_⟩
    obtain ⟨fl, rfl, mfl⟩ := px
    have dr3 := dr2.mono s3
    have tb4 := tabs_keepC (tb2.ext s3) dr3 k4
    have fa4 := (fa2.mono s3).keepC dr3 k4
    have fb4 := (fb2.mono s3).keepC dr3 k4
    have aa4 := (aa2.mono s3).keepC zne dr3 k4
    have ab4 := (ab2.mono s3).keepC wne dr3 k4
    have od4 := (od2.extC (ExtN.of s3)).keepC dr3 k4
    have bd4 := (bd2.extC (ExtN.of s3)).keepC dr3 k4
    have hq2_4 := k4.at_ (s3 _ _ hq2_2) q2d.1 q2d.2
    -- longer
    refine ⟨_, rfl, fun x3 dx3 nx3 ndx3 nxd3 => ?_⟩
    have sN : Same H4 (upd (upd H4 dx3 (.own x3)) x3 (.ins CF dx3 [])) := fun b u e => by
      rw [upd_ne (ne_of_none e nx3), upd_ne (ne_of_none e ndx3)]
      exact e
    refine ⟨x3, q2, dx3, u, rfl, upd_same, sN _ _ hq2_4, uu.ok, fun H5 vs3 pvs ascv fc5 oth5 _ => ⟨rfl, ?_⟩⟩
    have s45 : Same H4 H5 := fun b u e => oth5 b u (ne_of_none e nx3) (sN _ _ e)
    have ab5 := ab4.mono s45
    obtain ⟨dy, pp, hy, hp⟩ := id ab5
    refine ⟨_, rfl, y2, dy, _, rfl, hy, y2, x2, ws, rfl, ab5, fun pw np' => ⟨by show 1 ≤ sizeLine; omega, fun v1 nv1 => ⟨pw, v1, ws.map V.str, [.str ""], rfl, rfl, (same_new nv1) _ _ upd_same, upd_same, by rw [List.length_map]; show _ + 1 ≤ sizeLine; omega, fun pn npn => ?_⟩⟩⟩
    have s56 := ((same_new (o := .lst (ws.map V.str)) np').trans (same_new (o := .lst [V.str ""]) nv1)).trans (same_new (o := .lst (ws.map V.str ++ [V.str ""])) npn)
    obtain ⟨H6, e6⟩ : ∃ X, X = upd (upd (upd H5 pw (.lst (ws.map V.str))) v1 (.lst [V.str ""])) pn (.lst (ws.map V.str ++ [V.str ""])) := ⟨_, rfl⟩
    have hpn : H6 pn = some (.lst ((ws ++ [("" : Str)]).map V.str)) := by rw [e6, upd_same, List.map_append] <;> rfl
    rw [← e6] at s56 ⊢
    refine fun y3 dy3 ny3 ndy3 nyd3 => ?_
    have sM : Same H6 (upd (upd H6 dy3 (.own y3)) y3 (.ins CA dy3 [])) := fun b u e => by
      rw [upd_ne (ne_of_none e ny3), upd_ne (ne_of_none e ndy3)]
      exact e
    have evs : vs3 = us := asc_oneC o2 (pvs.trans pus.symm) asc ascv
    subst evs
    refine ⟨y3, x3, pn, dy3, vs3, ws ++ [("" : Str)], rfl, upd_same, (fc5.mono s56).mono sM, o2, sM _ _ hpn, by rw [List.length_append]; show 1 ≤ _ + 1; omega, by rw [List.length_append]; show _ + 1 ≤ 60; omega, fun z hz => ?_, fun H7 ac7 oth7 => ⟨rfl, ?_⟩⟩
    · rcases List.mem_append.mp hz with h | h
      · exact pw z h
      · exact .inl (List.mem_singleton.mp h)
    have s67 : Same H6 H7 := fun b u e => oth7 b u (ne_of_none e ny3) (sM _ _ e)
    have s47 := (s45.trans s56).trans s67
    have dr7 := dr4.mono s47
    have tb7 := tb4.ext s47
    have fa7 := fa4.mono s47
    have fb7 := fb4.mono s47
    have fc7 := fc5.mono (s56.trans s67)
    have aa7 := aa4.mono s47
    have ab7 := ab4.mono s47
    have od7 := od4.extC (ExtN.of s47)
    have bd7 := bd4.extC (ExtN.of s47)
    have nel : zs.length ≠ (ws ++ [("" : Str)]).length := by
      rw [List.length_append]
      show _ ≠ _ + 1
      omega
    have root1 := o1.root
    have nobT : ("nobody" : Str) ∉ ts.map Prod.fst := fun m => (nmT _ m).nobody rfl
    have nobU : ("nobody" : Str) ∉ vs3.map Prod.fst := fun m => (nmU _ m).nobody rfl
    have bigU : ("A" : Str) ∉ vs3.map Prod.fst := fun m => (nmU _ m).big rfl
    have mflT : fl ∈ ts.map Prod.fst := (pts.map Prod.fst).mem_iff.mpr mfl
    have plv : ∀ z ∈ ws ++ [("" : Str)], Pl vs3 z := fun z hz => by
      rcases List.mem_append.mp hz with h | h
      · exact pw z h
      · exact .inl (List.mem_singleton.mp h)
    -- other numbers of users
    refine chk_mis tb7 (fun H8 e8 t8 E' Q' out => ?_) fun H8 H9 e8 t8 s89 => ?_
    · refine ⟨_, rfl, _, rfl, _, rfl, _, rfl, y1, y3, x1, x3, ts, vs3, zs, ws ++ [("" : Str)], ov, bv, rfl, aa7.extC e8, ac7.extC e8, fa7.extC e8, fc7.extC e8, o1, o2, pz, by omega, by rw [List.length_append]; show _ + 1 ≤ 1000; omega, (od7.extC e8).dat, (bd7.extC e8).dat, ?_⟩
      unfold jnE
      rw [if_neg nel]
      exact fun H' s => by rw [← eM]; exact out H' s
    have e79 : ExtN H7 H9 := e8.trans (ExtN.of s89)
    have tb9 := t8.ext s89
    refine chk_mis tb9 (fun H10 e10 t10 E' Q' out => ?_) fun H10 H11 e10 t10 s1011 => ?_
    · have ee := e79.trans e10
      refine ⟨_, rfl, _, rfl, y3, y1, x3, x1, vs3, ts, ws ++ [("" : Str)], zs, rfl, ac7.extC ee, aa7.extC ee, fc7.extC ee, fa7.extC ee, o2, o1, plv, by rw [List.length_append]; show 1 ≤ _ + 1; omega, by rw [List.length_append]; show _ + 1 ≤ 1000; omega, by omega, .inl ⟨nel.symm, fun H' s => by rw [← eM]; exact out H' s⟩⟩
    have e711 : ExtN H7 H11 := (e79.trans e10).trans (ExtN.of s1011)
    have tb11 := t10.ext s1011
    have jnl : zs.length = ws.length := el
    refine chk_nam eN (i := 8) rfl (od7.shw (K := K) wrd_root).2 tb11 (fun H12 e12 => ((od7.extC (e711.trans e12)).shw wrd_root).1) (fun H12 e12 t12 E' Q' out => ?_) fun H12 H13 e12 t12 s1213 => ?_
    · have ee := e711.trans e12
      refine ⟨_, rfl, _, rfl, _, rfl, _, rfl, y1, y2, x1, x2, ts, vs3, zs, ws, ov, bv, rfl, aa7.extC ee, ab7.extC ee, fa7.extC ee, fb7.extC ee, o1, o2, pz, by omega, by omega, (od7.extC ee).dat, (bd7.extC ee).dat, ?_⟩
      unfold jnE
      rw [if_pos jnl, od7.noflag nobT root1, if_neg (by decide)]
      exact out
    have e713 : ExtN H7 H13 := (e711.trans e12).trans (ExtN.of s1213)
    have tb13 := t12.ext s1213
    refine chk_namR eN (i := 5) rfl (bd7.shw (K := K) wrd_A).2 tb13 (fun H14 e14 => ((bd7.extC (e713.trans e14)).shw wrd_A).1) (fun H14 e14 t14 E' Q' out => ?_) fun H14 H15 e14 t14 s1415 => ?_
    · have ee := e713.trans e14
      refine ⟨_, rfl, _, rfl, _, rfl, _, rfl, y1, y2, x1, x2, ts, vs3, zs, ws, .str fl, bv, rfl, aa7.extC ee, ab7.extC ee, fa7.extC ee, fb7.extC ee, o1, o2, pz, by omega, by omega, ⟨_, .str fl⟩, (bd7.extC ee).dat, ?_⟩
      unfold jnE
      rw [if_pos jnl, if_pos (show flagV ts (.str fl) = true from decide_eq_true mflT), nmE_f (bd7.noplace nobU bigU (by decide +kernel))]
      exact out
    exact k H15 (dr7.extC ((e713.trans e14).trans (ExtN.of s1415))) (t14.ext s1415)
end
end FT


/-! k35, plain: joint numbers and proportions, both ways of counting -/
namespace FT
open PySem L2 TL ClX LiI
theorem having_jn {ts t : List (Str × Str)} (o : TreeOk ts) (pt : ts.Perm t) (zs ws : List Str) (a b : Str) :
    ((((((zs.zip ws).filter fun p => decide (p.2 = b)).map Prod.fst).filter fun z => decide (a ∈ (pathOf t z).reverse)).length : Nat) : Int) = jn ts zs ws a b := by
  unfold jn
  rw [List.filter_map, List.length_map, List.filter_filter]
  congr 2
  refine List.filter_congr fun p _ => ?_
  rw [Function.comp_apply, path_perm o.nd pt, Bool.and_comm]
  congr 1
  rw [Bool.eq_iff_iff, decide_eq_true_eq, decide_eq_true_eq, List.mem_reverse]
theorem grp_perm {ts t : List (Str × Str)} (o : TreeOk ts) (pt : ts.Perm t) (zs : List Str) (us : List Int) : grpOk t zs us = grpOk ts zs us := by
  have ef : ∀ a, rdOk (szZ t zs a) (us.length : Int) (zs.length : Int) (numI t zs us a) = rdOk (szZ ts zs a) (us.length : Int) (zs.length : Int) (numI ts zs us a) := fun a => by
    rw [szZ_permC o pt]
    congr 1
    unfold numI hasC
    simp only [path_perm o.nd pt]
  unfold grpOk
  rw [Bool.eq_iff_iff, List.all_eq_true, List.all_eq_true]
  constructor
  · intro h a ha
    rw [← ef]
    exact h a ((pt.map Prod.fst).mem_iff.mp ha)
  · intro h a ha
    rw [ef]
    exact h a ((pt.map Prod.fst).mem_iff.mpr ha)
theorem atU_pos {ws : List Str} {b : Str} : 0 < (atU ws b).length ↔ b ∈ ws := by
  constructor
  · intro h
    obtain ⟨u, hu⟩ := List.exists_mem_of_length_pos h
    obtain ⟨i, _, _, ai⟩ := mem_selU.mp hu
    exact List.mem_iff_getElem?.mpr ⟨i, of_decide_eq_true ai⟩
  · intro h
    obtain ⟨i, hi⟩ := List.mem_iff_getElem?.mp h
    have il := (List.getElem?_eq_some_iff.mp hi).1
    exact List.length_pos_of_mem (show (i : Int) ∈ atU ws b from mem_selU.mpr ⟨i, rfl, il, decide_eq_true hi⟩)
theorem prop_bal {ts t us : List (Str × Str)} (o : TreeOk ts) (pt : ts.Perm t) {zs ws ks : List Str} (pw : ∀ z ∈ ws, Pl us z) (mk : ∀ b, b ∈ ks ↔ b ∈ ws) : (ks.map (atU ws)).all (grpOk t zs) = balB ts us zs ws := by
  unfold balB
  rw [Bool.eq_iff_iff, List.all_eq_true, List.all_eq_true]
  constructor
  · intro h l hl
    obtain ⟨b, rfl, _⟩ := mem_grps hl
    obtain ⟨_, h2⟩ := List.mem_filter.mp hl
    have mb := (mk b).mpr (atU_pos.mp (of_decide_eq_true h2))
    rw [← grp_perm o pt]
    exact h _ (List.mem_map.mpr ⟨b, mb, rfl⟩)
  · intro h l hl
    obtain ⟨b, hb, rfl⟩ := List.mem_map.mp hl
    have mb := (mk b).mp hb
    rw [grp_perm o pt]
    exact h _ (List.mem_filter.mpr ⟨List.mem_map.mpr ⟨b, mem_pls.mpr (pw b mb), rfl⟩, decide_eq_true (atU_pos.mpr mb)⟩)
end FT


/-! law_k35: the law -/
namespace FT
open PySem L2 TL ClX LiI LamX
structure V35 (P : Program) (w : World) (K : PySem.W.Frag) (mg : Str → Option Value) (base : Heap) (CF CA CM CN : Addr) (T : List (Addr × Str)) (f : Nat → Addr) (fd fj : Nat → FuncData) (g : Nat → Addr) (gd : Nat → FuncData) : Prop where
  bg : Dn P w K mg base CX0 1 "_law_begin" ["_law_script"] (spBegin K) (g 0) (gd 0)
  ly : Dn P w K mg base CX0 5 "_law_layers" ["_law_state"] spLayers (g 1) (gd 1)
  pa : Dn P w K mg base CX0 1 "_law_path" ["_law_tree_here", "_law_spot"] spPathL (g 2) (gd 2)
  co : Dn P w K mg base CX0 2 "_law_counts" ["_law_tree_here", "_law_places_here"] spCountsL (g 3) (gd 3)
  gr : Dn P w K mg base CX0 1 "_law_groups" ["_law_other_places"] spGroupsL (g 4) (gd 4)
  pr : Dn P w K mg base CX0 3 "_law_in_proportion" ["_law_tree_here", "_law_places_here", "_law_groups_here", "_law_wanted"] spPropL (g 5) (gd 5)
  rf : FnG P w K mg base CX0 9 (g 6) (gd 6) ["_law_state", "_law_first", "_law_second", "_law_tree_here", "_law_other_tree"] (spRefused CF CA T)
  rfk : PySem.W.keepIn K (.ref (g 6)) = true
  rfb : Binds K (gd 6) ["_law_state", "_law_first", "_law_second", "_law_tree_here", "_law_other_tree"] []
  rfm : mg "_law_refused" = some (.ref (g 6))
  jok : KBn K (fd 3) ["one", "other", "name", "place"] 0 ["place", "name", "other", "one"] (fun _ ws => turn4 ws) (fun _ zs => turn4 zs)
  bak : KBn K (fd 4) ["one", "other"] 0 ["other", "one"] (tn2 Value) (tn2 V)
def spLaw35 (K : PySem.W.Frag) (T : List (Addr × Str)) : Sp := fun vs H Q _ => ∃ (a : Addr) (ns : List Int), vs = [.ref a] ∧ SqL K H a (ns.map V.int) ∧ ns.length ≤ 63 ∧ Tabs T H ∧ ∀ H', Q (.bl true) H'
abbrev N35 : List Str := ["_law_script", "_law_state", "_law_turn", "_law_tree_here", "_law_spots", "_law_other_tree", "_law_other_places", "_law_first", "_law_second", "_law_flag", "_law_spot", "_law_there", "_law_having", "_law_told", "_law_spare", "_law_due", "_law_here", "_law_mate"]
section
variable {P : Program} {w : World} {K : PySem.W.Frag} {mg : Str → Option Value} {base : Heap}
theorem sc35 : FnScope N35 ["_law_script"] (defScope s_law) := ⟨rfl, rfl, rfl, by decide +kernel, rfl, by decide +kernel, by decide +kernel⟩
theorem ok_law35 {f0 CF CA CM CN pP gP : Addr} {mc mcA : Value} {T : List (Addr × Str)} {f g : Nat → Addr} {fd gd fj : Nat → FuncData} {fd0 dP : FuncData} (F : Fun K "law" "law" s_law f0 fd0) (N : Nm mg) (L : W35 P w K mg base CF CA CM CN mc mcA f fd pP gP dP) (M : V35 P w K mg base CF CA CM CN T f fd fj g gd) :
    FnG P w K mg base CX0 10 f0 fd0 ["_law_script"] (spLaw35 K T) := by
  refine F.okG sc35 (fun vs H Q E h => ?_) (fun cdv A outer s H vs Q E clr hr h => ?_)
  · obtain ⟨a, ns, rfl, _⟩ := h
    rfl
  · obtain ⟨a, ns, rfl, hS, hlen, tT, k⟩ := h
    have hu := hu_of hr
    have nd := sc35.nd
    have hr1 : Room 1 _ := hr.mono (by decide)
    have hr2 : Room 2 _ := hr.mono (by decide)
    have hr3 : Room 3 _ := hr.mono (by decide)
    have hr5 : Room 5 _ := hr.mono (by decide)
    have hr4 : Room 4 _ := hr.mono (by decide)
    have hr6 : Room 6 _ := hr.mono (by decide)
    have big : 1000 ≤ sizeLine := by decide
    refine ⟨_, (pss_cons (ps_set (i := 1) nd rfl (.inl rfl) (pe_call M.bg.ok hr1 rfl M.bg.mgn M.bg.kp M.bg.bn .nil pass0 (pa_cons (pv 0) pa_nil)))
      (pss_cons (ps_for PassesOwn.never rfl (pi_range1 (by rfl) N.rng (pa_cons pe_int pa_nil)) (pg_name (i := 2) nd rfl (.inl rfl)) (pss_cons (ps_asg (pe_call M.ly.ok hr5 rfl M.ly.mgn M.ly.kp M.ly.bn .nil pass0 (pa_cons (pv 1) pa_nil)) (pg_tup rfl (pgs_cons (pg_name (i := 3) nd rfl (.inr rfl)) (pgs_cons (pg_name (i := 4) nd rfl (.inl rfl)) (pgs_cons (pg_name (i := 5) nd rfl (.inl rfl)) (pgs_cons (pg_name (i := 6) nd rfl (.inl rfl)) pgs_nil))))))
      (pss_cons (ps_par (i := 7) (j := 8) rfl nd rfl rfl (by decide) rfl rfl (pa_cons (pe_make L.aim L.ai hr2 (by rfl) L.B.gA L.aib .nil pass0 (pa_cons (pe_make L.fim L.fi hr4 (by rfl) L.Z.gF L.fib .nil pass0 (pa_cons (pv 3) pa_nil)) (pa_cons (pv 4) pa_nil))) (pa_cons (pe_make L.aim L.ai hr2 (by rfl) L.B.gA L.aib .nil pass0 (pa_cons (pe_make L.fim L.fi hr4 (by rfl) L.Z.gF L.fib .nil pass0 (pa_cons (pv 5) pa_nil)) (pa_cons (pv 6) pa_nil))) pa_nil)) (by rfl))
      (pss_cons (ps_lock (ps_for PassesOwn.never rfl (pi_keys (pv 3)) (pg_name (i := 9) nd rfl (.inr rfl)) (pss_one (ps_for PassesOwn.never rfl (pi_list (pe_op op_cat (pe_lst (pa_cons pe_str pa_nil)) (pe_callTy (call_listD rfl) (by rfl) N.lst (by decide +kernel) (pa_cons (pv 5) pa_nil)))) (pg_name (i := 10) nd rfl (.inr rfl)) (pss_cons (ps_setLc (i := 11) (own := [("_law_here", 16), ("_law_mate", 17)]) (g := gTup K 2 (gCons (gName 16) (gCons (gName 17) gNil))) (tt := tTest (tOp rEq (tVar 17) (tVar 10))) (te := tVar 16) rfl nd rfl rfl (sw_true rfl rfl rfl (by decide +kernel)) (pi_zip (by rfl) N.zip (pa_cons (pv 4) (pa_cons (pv 6) pa_nil)))
              (blkOk_by (N := N35) (sc := defScope s_law) (by decide +kernel)) (fun _ _ _ _ _ => pg_tup rfl (pgs_cons (pg_name (i := 16) nd rfl (Or.inl rfl)) (pgs_cons (pg_name (i := 17) nd rfl (Or.inl rfl)) pgs_nil))) (fun _ _ _ _ _ => pts_one (pt_cmpR op_eq (pv 17) (pv 10) (nomark _))) (fun _ _ _ _ _ => pv 16))
      (pss_cons (ps_setLc (i := 12) (own := [("_law_here", 16)]) (g := gName 16) (tt := tTest (tOp (rIn K false) (tVar 9) (tCall spPathL [] E0 (tCons (tVar 3) (tCons (tVar 16) tNil))))) (te := tVar 16) rfl nd rfl rfl (sw_true rfl rfl rfl (by decide +kernel)) (pi_list (pv 11))
              (blkOk_by (N := N35) (sc := defScope s_law) (by decide +kernel)) (fun _ _ _ _ _ => pg_name (i := 16) nd rfl (Or.inl rfl)) (fun _ _ _ _ _ => pts_one (pt_cmpR op_in_seq (pv 9) (pe_call M.pa.ok hr1 rfl M.pa.mgn M.pa.kp M.pa.bn .nil pass0 (pa_cons (pv 3) (pa_cons (pv 16) pa_nil))) rfl)) (fun _ _ _ _ _ => pv 16))
      (pss_cons (ps_set (i := 13) nd rfl (.inl rfl) (pe_call (E := E0) L.jo.ok hr5 rfl L.jo.mgn L.jo.kp L.jo.bn .nil L2.passL (pa_cons (pv 7) (pa_cons (pv 8) (pa_cons (pv 9) (pa_cons (pv 10) pa_nil))))))
      (pss_one (ps_if (PW.pt (pw_or (pt_val (pe_callB call_isi (by rfl) N.isi (by decide +kernel) (pa_cons (pv 13) (pa_cons (pe_bltn (v := .ty "bool") (u := .type "bool") (by rfl) N.bool (by decide +kernel) rfl) pa_nil)))) (pw_or1 (pt_cmpR op_ne (pv 13) (pe_callB call_len (by rfl) N.len PySem.boot_len (pa_cons (pv 12) pa_nil)) (nomark _))))) (pss_one (ps_ret pe_bl)) pss_nil)))))))))
      (pss_cons (ps_set (i := 14) nd rfl (.inl rfl) (pe_call L.pk.ok hr2 rfl L.pk.mgn L.pk.kp L.pk.bn .nil pass0 (pa_cons (pv 1) (pa_cons (pe_callB (call_sortedD rfl) (by rfl) N.srt (by decide +kernel) (pa_cons (pv 3) pa_nil)) pa_nil))))
      (pss_cons (ps_if (pt_cmpR op_ne (pe_callK0 (E := E0) L.jo.ok hr5 rfl L.jo.mgn L.jo.kp M.jok L2.passL (pk_cons pe_str (pk_cons (pv 14) (pk_cons (pv 8) (pk_cons (pv 7) pk_nil))))) (pe_call (E := E0) L.jo.ok hr5 rfl L.jo.mgn L.jo.kp L.jo.bn .nil L2.passL (pa_cons (pv 7) (pa_cons (pv 8) (pa_cons (pv 14) (pa_cons pe_str pa_nil))))) (nomark _)) (pss_one (ps_ret pe_bl)) pss_nil)
      (pss_cons (ps_set (i := 15) nd rfl (.inl rfl) (pe_call M.pr.ok hr3 rfl M.pr.mgn M.pr.kp M.pr.bn .nil pass0 (pa_cons (pv 3) (pa_cons (pv 4) (pa_cons (pe_call M.gr.ok hr1 rfl M.gr.mgn M.gr.kp M.gr.bn .nil pass0 (pa_cons (pv 6) pa_nil)) (pa_cons (pe_call M.co.ok hr2 rfl M.co.mgn M.co.kp M.co.bn .nil pass0 (pa_cons (pv 3) (pa_cons (pv 4) pa_nil))) pa_nil))))))
      (pss_cons (ps_set (i := 13) nd rfl (.inl rfl) (pe_lst (pa_cons (pe_call (E := E0) L.ba.ok hr6 rfl L.ba.mgn L.ba.kp L.ba.bn .nil L2.passL (pa_cons (pv 7) (pa_cons (pv 8) pa_nil))) (pa_cons (pe_callK0 (E := E0) L.ba.ok hr6 rfl L.ba.mgn L.ba.kp M.bak L2.passL (pk_cons (pv 8) (pk_cons (pv 7) pk_nil))) pa_nil))))
      (pss_cons (ps_if (pt_cmpR op_ne (pe_callB (call_repr clr.deeper hr.units) (by rfl) N.rep (by decide +kernel) (pa_cons (pv 13) pa_nil)) (pe_callB (call_repr clr.deeper hr.units) (by rfl) N.rep (by decide +kernel) (pa_cons (pe_lst (pa_cons (pv 15) (pa_cons (pv 15) pa_nil))) pa_nil)) (nomark _)) (pss_one (ps_ret pe_bl)) pss_nil)
      (pss_one (ps_if (pt_not (pt_val (pe_callG M.rf clr.deeper hr rfl M.rfm M.rfk M.rfb .nil pass0 (pa_cons (pv 1) (pa_cons (pv 7) (pa_cons (pv 8) (pa_cons (pv 3) (pa_cons (pv 5) pa_nil)))))))) (pss_one (ps_ret pe_bl)) pss_nil)))))))))))
      (pss_one (ps_ret pe_bl)))), ?_⟩
    refine ⟨_, rfl, a, ns, rfl, hS, hlen, fun H0 d c s0 nd0 nc0 dr0 => ?_⟩
    have tT0 : Tabs T H0 := tT.ext s0
    refine ⟨3, rfl, by decide, by decide, ?_⟩
    refine for_it (walk_range (lo := 0) (n := (3 : Int).toNat)) (fun j σ' H' => (∃ u2 u3 u4 u5 u6 u7 u8 u9 u10 u11 u12 u13 u14 u15, σ' = [some (.ref a), some (.ref d), u2, u3, u4, u5, u6, u7, u8, u9, u10, u11, u12, u13, u14, u15, none, none]) ∧ DrawAt H' d c ∧ Tabs T H') ⟨⟨_, _, _, _, _, _, _, _, _, _, _, _, _, _, rfl⟩, dr0, tT0⟩ (fun _ _ _ _ _ => trivial) ?_ (fun σ' H' _ => k H')
    intro jj xj σ' Ha Hb hj ⟨⟨u2, u3, u4, u5, u6, u7, u8, u9, u10, u11, u12, u13, u14, u15, e⟩, dr, tb⟩ ⟨ea, eb⟩
    subst e
    subst ea
    subst eb
    clear hj
    -- layers
    refine ⟨_, rfl, d, c, rfl, dr, fun p q1 l1 q2 l2 t u zs ws H1 ut uu el z1 z24 pz pw q12 hp hq1 hl1 hq2 hl2 dr1 k1 => ⟨p, _, rfl, .inl (.inl hp), rfl, _, _, rfl, _, _, rfl, _, _, rfl, _, _, rfl, rfl, ?_⟩⟩
    have tb1 := tabs_keepC tb dr k1
    have zne : zs ≠ [] := fun e => by rw [e] at z1; exact absurd z1 (by decide)
    have wne : ws ≠ [] := fun e => by rw [e] at el; exact zne (List.length_eq_zero_iff.mp el)
    -- assignments
    refine ⟨_, rfl, fun x1 dx nx ndx nxd => ?_⟩
    have sN : Same H1 (upd (upd H1 dx (.own x1)) x1 (.ins CF dx [])) := fun b u e => by
      rw [upd_ne (ne_of_none e nx), upd_ne (ne_of_none e ndx)]
      exact e
    refine ⟨x1, q1, dx, t, rfl, upd_same, sN _ _ hq1, ut.ok, fun H2 ts pts asc fa2 oth new2 => ⟨rfl, _, rfl, fun y1 dy ny ndy nyd => ?_⟩⟩
    have s12 : Same H1 H2 := fun b u e => oth b u (ne_of_none e nx) (sN _ _ e)
    have o1 : TreeOk ts := ut.ok.perm pts.symm
    have pzT : ∀ z ∈ zs, Pl ts z := fun z hz => (pz z hz).imp id fun m => (pts.map Prod.fst).mem_iff.mpr m
    have sN1 : Same H2 (upd (upd H2 dy (.own y1)) y1 (.ins CA dy [])) := fun b u e => by
      rw [upd_ne (ne_of_none e ny), upd_ne (ne_of_none e ndy)]
      exact e
    refine ⟨y1, x1, l1, dy, ts, zs, rfl, upd_same, fa2.mono sN1, o1, sN1 _ _ (s12 _ _ hl1), z1, by omega, pzT, fun H3 aa3 oth2 => ⟨rfl, _, rfl, fun x2 dx2 nx2 ndx2 nxd2 => ?_⟩⟩
    have s23 : Same H2 H3 := fun b u e => oth2 b u (ne_of_none e ny) (sN1 _ _ e)
    have s13 := s12.trans s23
    have sN2 : Same H3 (upd (upd H3 dx2 (.own x2)) x2 (.ins CF dx2 [])) := fun b u e => by
      rw [upd_ne (ne_of_none e nx2), upd_ne (ne_of_none e ndx2)]
      exact e
    refine ⟨x2, q2, dx2, u, rfl, upd_same, sN2 _ _ (s13 _ _ hq2), uu.ok, fun H4 us pus ascu fb4 oth3 new4 => ⟨rfl, _, rfl, fun y2 dy2 ny2 ndy2 nyd2 => ?_⟩⟩
    have s34 : Same H3 H4 := fun b u e => oth3 b u (ne_of_none e nx2) (sN2 _ _ e)
    have s14 := s13.trans s34
    have o2 : TreeOk us := uu.ok.perm pus.symm
    have pwU : ∀ z ∈ ws, Pl us z := fun z hz => (pw z hz).imp id fun m => (pus.map Prod.fst).mem_iff.mpr m
    have sN3 : Same H4 (upd (upd H4 dy2 (.own y2)) y2 (.ins CA dy2 [])) := fun b u e => by
      rw [upd_ne (ne_of_none e ny2), upd_ne (ne_of_none e ndy2)]
      exact e
    refine ⟨y2, x2, l2, dy2, us, ws, rfl, upd_same, fb4.mono sN3, o2, sN3 _ _ (s14 _ _ hl2), by omega, by omega, pwU, fun H5 ab5 oth4 => ⟨rfl, _, _, rfl, ?_⟩⟩
    have s45 : Same H4 H5 := fun b u e => oth4 b u (ne_of_none e ny2) (sN3 _ _ e)
    have s35 := s34.trans s45
    have s15 := s14.trans s45
    have aa5 := aa3.mono s35
    have fa5 := fa2.mono (s23.trans s35)
    have fb5 := fb4.mono s45
    have hq1_5 := s15 _ _ hq1
    have hq2_5 := s15 _ _ hq2
    have hl1_5 := s15 _ _ hl1
    have hl2_5 := s15 _ _ hl2
    have dr5 := dr1.mono s15
    have tb5 := tb1.ext s15
    obtain ⟨dxa, dqa, fa_1, fa_2⟩ := id fa2
    have dqa1 : dqa ≠ q1 := (ne_of_none (sN _ _ hq1) (new2 _ _ fa_1)).symm
    obtain ⟨dxb, dqb, fb_1, fb_2⟩ := id fb4
    have dqb1 : dqb ≠ q1 := (ne_of_none (sN2 _ _ (s13 _ _ hq1)) (new4 _ _ fb_1)).symm
    have fa_5 := (s23.trans s35) _ _ fa_1
    have fa_6 := (s23.trans s35) _ _ fa_2
    have fb_5 := s45 _ _ fb_1
    have fb_6 := s45 _ _ fb_2
    have lt12 := ut.few
    have lu12 := uu.few
    -- all flags and places
    refine ⟨q1, _, hq1_5, trivial, fun od => ⟨_, rfl, q1, od, rfl, .inl ⟨_, upd_same, ?_⟩⟩⟩
    obtain ⟨H6, e6⟩ : ∃ X, X = upd H5 q1 (.frz od (.dK (prs t))) := ⟨_, rfl⟩
    have hq6 : H6 q1 = some (.frz od (.dK (prs t))) := by rw [e6, upd_same]
    have k56 : ∀ x o, x ≠ q1 → H5 x = some o → H6 x = some o := fun x o n e => by rw [e6, upd_ne n]; exact e
    rw [← e6]
    have offq : ∀ {x : Addr} {o : HO}, H5 x = some o → (∀ kvs, o ≠ .dK kvs) → x ≠ q1 := fun {x o} e n z => by
      rw [z, hq1_5] at e
      exact n _ (Option.some.inj e).symm
    refine for_it walk_keys (fun j σ' H' => (∃ u9 u10 u11 u12 u13, σ' = [some (.ref a), some (.ref d), some (.int (0 + (jj : Int))), some (.ref q1), some (.ref l1), some (.ref q2), some (.ref l2), some (.ref y1), some (.ref y2), u9, u10, u11, u12, u13, u14, u15, none, none]) ∧ H' q1 = some (.frz od (.dK (prs t))) ∧ ∀ x o, x ≠ q1 → H5 x = some o → H' x = some o) ⟨⟨_, _, _, _, _, rfl⟩, hq6, k56⟩ (fun j σ' H' _ z => z.2.1) ?_ ?_
    · intro j y σ' Hz Hc hj ⟨⟨u9, u10, u11, u12, u13, e⟩, aq, ka⟩ ⟨eb, kk, vv, hk, ey⟩
      subst e
      subst eb
      subst ey
      obtain ⟨⟨a0, pa⟩, hp0, ee⟩ : ∃ x : Str × Str, t[j]? = some x ∧ (kk, vv) = (Sum.inr x.1, V.str x.2) := by
        unfold prs kvT at hk
        rw [List.map_map, List.getElem?_map] at hk
        obtain ⟨x, hx, z⟩ := Option.map_eq_some_iff.mp hk
        exact ⟨x, hx, z.symm⟩
      cases ee
      rw [show kV (Sum.inr a0) = V.str a0 from rfl]
      have ma : a0 ∈ t.map Prod.fst := List.mem_map.mpr ⟨_, List.mem_of_getElem? hp0, rfl⟩
      have maT : a0 ∈ ts.map Prod.fst := (pts.map Prod.fst).mem_iff.mpr ma
      refine ⟨by show 1 ≤ sizeLine; omega, fun v1 nv1 => ⟨_, rfl, q2, _, rfl, .inl ((same_new nv1) _ _ (ka _ _ q12.symm hq2_5)), fun v2 nv2 => ⟨v1, v2, [.str ""], _, rfl, rfl, (same_new nv2) _ _ upd_same, upd_same, by rw [List.length_map, prs_len]; show 1 + _ ≤ sizeLine; omega, fun v3 nv3 => ⟨v3, rfl, ⟨_, SqL.of upd_same⟩, ?_⟩⟩⟩⟩
      have s67 := ((same_new (o := .lst [V.str ""]) nv1).trans (same_new (o := .lst ((prs u).map fun kv => kV kv.1)) nv2)).trans (same_new (o := .lst ([V.str ""] ++ (prs u).map fun kv => kV kv.1)) nv3)
      obtain ⟨H7, e7⟩ : ∃ X, X = upd (upd (upd Hc v1 (.lst [V.str ""])) v2 (.lst ((prs u).map fun kv => kV kv.1))) v3 (.lst ([V.str ""] ++ (prs u).map fun kv => kV kv.1)) := ⟨_, rfl⟩
      have a7 : H7 v3 = some (.lst ((pls u).map V.str)) := by rw [e7, upd_same, keys_prs] <;> rfl
      rw [← e7] at s67 ⊢
      have aq7 := s67 _ _ aq
      have ka7 : ∀ x o, x ≠ q1 → H5 x = some o → H7 x = some o := fun x o n e => s67 _ _ (ka x o n e)
      refine for_it (walk_list (xs := (pls u).map V.str)) (fun i σ' H' => (∃ u10 u11 u12 u13, σ' = [some (.ref a), some (.ref d), some (.int (0 + (jj : Int))), some (.ref q1), some (.ref l1), some (.ref q2), some (.ref l2), some (.ref y1), some (.ref y2), some (.str a0), u10, u11, u12, u13, u14, u15, none, none]) ∧ Same H7 H') ⟨⟨_, _, _, _, rfl⟩, Same.refl⟩ (fun i σ' H' _ z => SqL.of (z.2 _ _ a7)) ?_ ?_
      · intro i y σ' Hy Hd hi ⟨⟨u10, u11, u12, u13, e⟩, sb⟩ ⟨eb, ex⟩
        subst e
        subst eb
        obtain ⟨b, hb, rfl⟩ := map_of ex
        have plb : Pl u b := mem_pls.mp (List.mem_of_getElem? hb)
        have plbU : placeV us (.str b) = true := decide_eq_true (plb.imp id fun m => (pus.map Prod.fst).mem_iff.mpr m)
        have aqd := sb _ _ aq7
        have kd : ∀ x o, x ≠ q1 → H5 x = some o → Hd x = some o := fun x o n e => sb _ _ (ka7 x o n e)
        have hl1d := kd _ _ (offq hl1_5 (fun kvs z => nomatch z)) hl1_5
        have hl2d := kd _ _ (offq hl2_5 (fun kvs z => nomatch z)) hl2_5
        -- those there
        refine ⟨_, rfl, _, rfl, l1, l2, _, _, rfl, SqL.of hl1d, SqL.of hl2d, fun D nD => ?_⟩
        refine lc_it (walk_zip rfl) (fun i H' => Same Hd H' ∧ H' D = some (.lst (((((zs.zip ws).take i).filter fun p => decide (p.2 = b)).map Prod.fst).map V.str))) ⟨same_new nD, upd_same⟩ (fun i H' _ z => ⟨SqL.of (z.1 _ _ hl1d), SqL.of (z.1 _ _ hl2d)⟩) ?_ ?_
        · intro i TT Hx He hi ⟨z1, hD⟩ ⟨T', x, y, eT, nT, eH, ex, ey⟩
          subst eT
          subst eH
          obtain ⟨z, hz, rfl⟩ := map_of (f := V.str) (l := zs) ex
          obtain ⟨m, hm, rfl⟩ := map_of (f := V.str) (l := ws) ey
          have hzm : (zs.zip ws)[i]? = some (z, m) := List.getElem?_zip_eq_some.mpr ⟨hz, hm⟩
          have sT : Same Hx (upd Hx T' (.tup [.str z, .str m])) := same_new nT
          refine ⟨T', _, rfl, .inl (.inl upd_same), rfl, _, _, rfl, _, _, rfl, rfl, rfl, ?_⟩
          refine ⟨_, rfl, _, rfl, rfl, _, rfl, ?_⟩
          rw [take_more hzm, List.filter_append, List.filter_cons]
          have il := (List.getElem?_eq_some_iff.mp hz).1
          have lf : (((zs.zip ws).take i).filter fun p => decide (p.2 = b)).length ≤ i := Nat.le_trans (List.length_filter_le _ _) (by rw [List.length_take]; omega)
          by_cases e : m = b
          · rw [decide_eq_true (show V.str m = V.str b by rw [e]), decide_eq_true (show (z, m).2 = b from e), if_pos rfl]
            show if true = true then _ else _
            rw [if_pos rfl]
            refine ⟨_, rfl, _, sT _ _ hD, by rw [List.length_map, List.length_map]; omega, (z1.trans sT).put nD, ?_⟩
            rw [upd_same, List.map_append, List.map_append] <;> rfl
          · rw [decide_eq_false (show ¬ V.str m = V.str b from fun w => e (V.str.inj w)), decide_eq_false (show ¬ (z, m).2 = b from e), if_neg (by decide), List.filter_nil, List.append_nil]
            exact iteF ⟨z1.trans sT, sT _ _ hD⟩
        intro H8 ⟨z1, hD⟩
        rw [List.length_map, List.length_map, show min zs.length ws.length = (zs.zip ws).length by rw [List.length_zip], List.take_length] at hD
        obtain ⟨Th, eTh⟩ : ∃ Th, Th = ((zs.zip ws).filter fun p => decide (p.2 = b)).map Prod.fst := ⟨_, rfl⟩
        rw [← eTh] at hD
        have lTh : Th.length ≤ 24 := by
          rw [eTh, List.length_map]
          refine Nat.le_trans (List.length_filter_le _ _) ?_
          rw [List.length_zip]
          omega
        have plTh : ∀ z ∈ Th, Pl t z := fun z hz => by
          rw [eTh] at hz
          obtain ⟨⟨z0, m0⟩, hm, rfl⟩ := List.mem_map.mp hz
          exact pz _ (List.of_mem_zip (List.mem_filter.mp hm).1).1
        -- those who have it
        refine ⟨_, rfl, D, rfl, ⟨_, SqL.of hD⟩, fun D2 nD2 => ?_⟩
        have aq8 := z1 _ _ aqd
        refine lc_it walk_list (fun i H' => Same H8 H' ∧ H' D2 = some (.lst (((Th.take i).filter fun z => decide (a0 ∈ (pathOf t z).reverse)).map V.str))) ⟨same_new nD2, upd_same⟩ (fun i H' _ z => SqL.of (z.1 _ _ hD)) ?_ ?_
        · intro i y Hx He hi ⟨z2, hD2⟩ ⟨eb, ex⟩
          subst eb
          obtain ⟨z, hz, rfl⟩ := map_of ex
          have il := (List.getElem?_eq_some_iff.mp hz).1
          refine ⟨rfl, ?_⟩
          refine ⟨_, rfl, _, rfl, _, rfl, q1, z, t, rfl, .inr ⟨od, z2 _ _ aq8⟩, ut.ok, plTh z (List.mem_of_getElem? hz), fun pt H9 s9 npt hpt => ⟨pt, _, rfl, .inl (SqL.of hpt), rfl, flat_strs _, _, rfl, ?_⟩⟩
          rw [show (if false = true then !inV (V.str a0) ((pathOf t z).reverse.map V.str) else inV (V.str a0) ((pathOf t z).reverse.map V.str)) = decide (a0 ∈ (pathOf t z).reverse) from inV_strs a0 _]
          rw [take_more hz, List.filter_append, List.filter_cons]
          have lf : ((Th.take i).filter fun z => decide (a0 ∈ (pathOf t z).reverse)).length ≤ i := Nat.le_trans (List.length_filter_le _ _) (by rw [List.length_take]; omega)
          by_cases e : a0 ∈ (pathOf t z).reverse
          · rw [decide_eq_true e, if_pos rfl]
            show if true = true then _ else _
            rw [if_pos rfl]
            refine ⟨_, rfl, _, s9 _ _ hD2, by rw [List.length_map]; omega, (z2.trans s9).put nD2, ?_⟩
            rw [upd_same, List.map_append] <;> rfl
          · rw [decide_eq_false e, if_neg (by decide), List.filter_nil, List.append_nil]
            exact iteF ⟨z2.trans s9, s9 _ _ hD2⟩
        intro H9 ⟨z2, hD2⟩
        rw [List.length_map, List.take_length] at hD2
        have k9 : ∀ x o, x ≠ q1 → H5 x = some o → H9 x = some o := fun x o n e => z2 _ _ (z1 _ _ (kd x o n e))
        have fa9 : FAt CF H9 x1 ts := ⟨dxa, dqa, k9 _ _ (offq fa_5 (fun kvs z => nomatch z)) fa_5, k9 _ _ dqa1 fa_6⟩
        have fb9 : FAt CF H9 x2 us := ⟨dxb, dqb, k9 _ _ (offq fb_5 (fun kvs z => nomatch z)) fb_5, k9 _ _ dqb1 fb_6⟩
        have offA : ∀ {y0 x0 : Addr} {vs : List Str}, AAt CA H5 y0 x0 vs → AAt CA H9 y0 x0 vs := fun {y0 x0 vs} h => by
          obtain ⟨dy, pp, h1, h2⟩ := h
          exact ⟨dy, pp, k9 _ _ (offq h1 (fun kvs z => nomatch z)) h1, k9 _ _ (offq h2 (fun kvs z => nomatch z)) h2⟩
        refine ⟨_, rfl, _, rfl, _, rfl, _, rfl, y1, y2, x1, x2, ts, us, zs, ws, .str a0, .str b, rfl, offA aa5, offA ab5, fa9, fb9, o1, o2, pzT, by omega, by omega, ⟨_, .str _⟩, ⟨_, .str _⟩, ?_⟩
        unfold jnE
        rw [if_pos el, if_pos (show flagV ts (.str a0) = true from decide_eq_true maT), nmE_t plbU]
        intro H10 s10
        have dj : Dat K H10 (.int (jn ts zs ws a0 b)) "int" := .int _
        refine ⟨_, rfl, .int (jn ts zs ws a0 b), _, _, _, false, rfl, .ty _, dj.ty, dj.bool_, false, rfl, iteF ?_⟩
        refine ⟨_, rfl, _, rfl, _, _, rfl, .inl ⟨_, SqL.of (s10 _ _ hD2), rfl⟩, rfl, _, rfl, ?_⟩
        rw [List.length_map]
        rw [decide_eq_true (show V.int (jn ts zs ws (strV (.str a0)) (strV (.str b))) = V.int ((Th.filter fun z => decide (a0 ∈ (pathOf t z).reverse)).length : Int) by
          show V.int (jn ts zs ws a0 b) = _
          rw [eTh, having_jn o1 pts])]
        refine iteF ⟨⟨_, _, _, _, rfl⟩, ((sb.trans z1).trans z2).trans s10⟩
      · intro σ2 Hd ⟨⟨u10, u11, u12, u13, e⟩, sb⟩
        subst e
        exact ⟨⟨_, _, _, _, _, rfl⟩, sb _ _ aq7, fun x o n e => sb _ _ (ka7 x o n e)⟩
    intro σ' H7 ⟨⟨u9, u10, u11, u12, u13, e⟩, aq, ka⟩
    subst e
    refine ⟨aq, ?_⟩
    obtain ⟨H8, e8⟩ : ∃ X, X = upd H7 q1 (.dK (prs t)) := ⟨_, rfl⟩
    have s58 : Same H5 H8 := fun x o e => by
      by_cases z : x = q1
      · subst z
        rw [hq1_5] at e
        rw [e8, upd_same]
        exact e
      · rw [e8, upd_ne z]
        exact ka x o z e
    rw [← e8]
    have dr8 := dr5.mono s58
    have tb8 := tb5.ext s58
    have aa8 := aa5.mono s58
    have ab8 := ab5.mono s58
    have fa8 := fa5.mono s58
    have fb8 := fb5.mono s58
    have hq1_8 := s58 _ _ hq1_5
    have hq2_8 := s58 _ _ hq2_5
    have hl1_8 := s58 _ _ hl1_5
    have hl2_8 := s58 _ _ hl2_5
    -- a spare flag
    refine ⟨_, rfl, _, rfl, q1, prs t, t.map Prod.fst, rfl, .inl hq1_8, prs_keys t, by rw [List.length_map]; omega, fun ks p9 perm srt np9 => ?_⟩
    have lk := perm.length_eq
    rw [List.length_map] at lk
    have lt1 := ut.one
    have s9 := same_new (o := .lst (ks.map V.str)) np9
    have pd := dr8.apart np9
    have dr9 := dr8.mono s9
    refine ⟨d, c, _, ks.length, (fun _ x => ∃ z, x = .str z ∧ z ∈ t.map Prod.fst), rfl, dr9, .inl ⟨p9, ks.map V.str, rfl, pd.1, pd.2, upd_same, List.length_map .., items_strs (fun z hz => perm.mem_iff.mp hz)⟩, by omega, by omega, fun i x H10 px dr10 k10 => ?_⟩
    obtain ⟨fl, rfl, mfl⟩ := px
    have mflT : flagV ts (.str fl) = true := decide_eq_true ((pts.map Prod.fst).mem_iff.mpr mfl)
    have rootU : placeV us (.str "") = true := decide_eq_true (show ("" : Str) = "" ∨ ("" : Str) ∈ us.map Prod.fst from .inl rfl)
    have tb10 := tabs_keepC (tb8.ext s9) dr9 k10
    have aa10 := (aa8.mono s9).keepC zne dr9 k10
    have ab10 := (ab8.mono s9).keepC wne dr9 k10
    have fa10 := (fa8.mono s9).keepC dr9 k10
    have fb10 := (fb8.mono s9).keepC dr9 k10
    have q1d := dr9.notDC (s9 _ _ hq1_8) (fun xs z => nomatch z)
    have q2d := dr9.notDC (s9 _ _ hq2_8) (fun xs z => nomatch z)
    have l1d := dr9.off_strs (s9 _ _ hl1_8)
    have l2d := dr9.off_strs (s9 _ _ hl2_8)
    have hq1_10 := k10.at_ (s9 _ _ hq1_8) q1d.1 q1d.2
    have hq2_10 := k10.at_ (s9 _ _ hq2_8) q2d.1 q2d.2
    have hl1_10 := k10.at_ (s9 _ _ hl1_8) l1d.1 (l1d.2 zne)
    have hl2_10 := k10.at_ (s9 _ _ hl2_8) l2d.1 (l2d.2 wne)
    have jnone : jnE CM CN ts us zs.length ws.length (.str fl) (.str "") = none := by
      unfold jnE
      rw [if_pos el, if_pos mflT, nmE_t rootU]
    refine ⟨_, rfl, _, rfl, _, rfl, rfl, y1, y2, x1, x2, ts, us, zs, ws, .str fl, .str "", rfl, aa10, ab10, fa10, fb10, o1, o2, pzT, by omega, by omega, ⟨_, .str _⟩, ⟨_, .str _⟩, ?_⟩
    rw [jnone]
    intro H11 s11
    refine ⟨_, rfl, _, rfl, _, rfl, y1, y2, x1, x2, ts, us, zs, ws, .str fl, .str "", rfl, aa10.mono s11, ab10.mono s11, fa10.mono s11, fb10.mono s11, o1, o2, pzT, by omega, by omega, ⟨_, .str _⟩, ⟨_, .str _⟩, ?_⟩
    rw [jnone]
    intro H12 s12'
    refine ⟨rfl, _, rfl, ?_⟩
    rw [decide_eq_true rfl]
    refine iteF ?_
    have s102 := s11.trans s12'
    -- what is due
    refine ⟨_, rfl, _, rfl, _, rfl, l2, ws, rfl, s102 _ _ hl2_10, by omega, fun gp rs gks H13 s13' ngp hgp ngk mgk rw0 nrs => ?_⟩
    have s103 := s102.trans s13'
    refine ⟨_, rfl, _, rfl, q1, l1, t, zs, rfl, .inl (s103 _ _ hq1_10), ut.ok, s103 _ _ hl1_10, pz, fun wq kn H14 s14' nwq pkn hwq => ?_⟩
    have s104 := s103.trans s14'
    refine ⟨q1, l1, gp, wq, t, zs, rs, gks.map (atU ws), kn, rfl, s104 _ _ hq1_10, ut.ok, s104 _ _ hl1_10, pz, z1, by omega, s14' _ _ hgp, rw0.mono s14', fun g hg => ?_, pkn, hwq, fun H15 s15' => ?_⟩
    · obtain ⟨b, _, rfl⟩ := List.mem_map.mp hg
      refine ⟨Nat.le_trans (selU_len _ _) (by omega), fun u hu' => ?_⟩
      obtain ⟨i, rfl, il, _⟩ := mem_selU.mp hu'
      exact ⟨i, rfl, by omega⟩
    rw [prop_bal o1 pts pwU mgk]
    have s105 := s104.trans s15'
    -- both answers
    refine ⟨_, rfl, _, rfl, y1, y2, x1, x2, ts, us, zs, ws, rfl, aa10.mono s105, ab10.mono s105, fa10.mono s105, fb10.mono s105, o1, o2, pzT, z1, by omega, by omega, .inr ⟨el, fun H16 s16 => ?_⟩⟩
    have s106 := s105.trans s16
    refine ⟨_, rfl, _, rfl, rfl, y1, y2, x1, x2, ts, us, zs, ws, rfl, aa10.mono s106, ab10.mono s106, fa10.mono s106, fb10.mono s106, o1, o2, pzT, z1, by omega, by omega, .inr ⟨el, fun H17 s17 => ⟨by show 2 ≤ sizeLine; omega, fun pl npl => ?_⟩⟩⟩
    have s107 := s106.trans s17
    obtain ⟨bb, ebb⟩ : ∃ bb, bb = balB ts us zs ws := ⟨_, rfl⟩
    rw [← ebb]
    have s18 := same_new (o := .lst [V.bl bb, V.bl bb]) npl
    obtain ⟨H18, e18⟩ : ∃ X, X = upd H17 pl (.lst [V.bl bb, V.bl bb]) := ⟨_, rfl⟩
    have hpl : H18 pl = some (.lst [V.bl bb, V.bl bb]) := by rw [e18]; exact upd_same
    rw [← e18] at s18 ⊢
    have fits : (PyData.list [.bool bb, .bool bb]).showable = true ∧ (PyData.list [.bool bb, .bool bb]).depth ≤ 60 ∧ (PyData.list [.bool bb, .bool bb]).shown.length ≤ sizeLine := by
      cases bb <;> exact ⟨by decide +kernel, by decide +kernel, by decide +kernel⟩
    obtain ⟨f1, f2, f3⟩ := fits
    refine ⟨_, rfl, .ref pl, .list [.bool bb, .bool bb], rfl, .inl ⟨.lst (SqL.of hpl) (.cons (.bl _) (.cons (.bl _) .nil)), rfl⟩, f1, f2, f3, _, rfl, _, rfl, by show 2 ≤ sizeLine; omega, fun p2 np2 => ?_⟩
    have s19 := same_new (o := .lst [V.bl bb, V.bl bb]) np2
    refine ⟨.ref p2, .list [.bool bb, .bool bb], rfl, .inl ⟨.lst (SqL.of upd_same) (.cons (.bl _) (.cons (.bl _) .nil)), rfl⟩, f1, f2, f3, rfl, _, rfl, ?_⟩
    rw [decide_eq_true rfl]
    refine iteF ?_
    have s109 := (s107.trans s18).trans s19
    refine ⟨_, rfl, _, rfl, _, rfl, _, rfl, _, rfl, d, c, q1, q2, y1, y2, x1, x2, t, u, ts, us, zs, ws, rfl, dr10.mono s109, tb10.ext s109, s109 _ _ hq1_10, s109 _ _ hq2_10, ut, uu, pts, pus, ascu, fa10.mono s109, fb10.mono s109, aa10.mono s109, ab10.mono s109, el, z1, z24, pzT, pwU, fun H20 dr20 tb20 => ⟨true, rfl, ?_⟩⟩
    exact iteF ⟨⟨_, _, _, _, _, _, _, _, _, _, _, _, _, _, rfl⟩, dr20, tb20⟩
end
end FT


namespace FT
open PySem PySem.Spec PyProof.Rows L2 TL ClX LamX NdefX
section
variable {q : Program} {l : PySem.W.OpenLaw} {w : World} {K : PySem.W.Frag} {h : Heap} {mg : Str → Option Value} {fa : Addr}
theorem all_mk {f_bgC f_dtC f_dpC f_nmC f_trC f_plC f_szC f_grC f_spC f_lyC f_phC f_coC f_prC f_isn f_isa f_nd f_fiN f_ai f_at f_sus f_nflE f_pi f_ausE f_npE f_aatE f_jo f_af f_fl f_po f_np f_aat f_gof f_ii f_nus f_afl f_nin f_rnd f_so f_as f_ba f_ap f_erC f_rfC f_law p_at p_af p_fl p_as p_ap C_Mismatch C_UnknownName C_InvalidSizes C_InvalidForest C_InvalidUsers C_UnknownUser C_InvalidPlace C_InvalidText C_Crowded C_InvalidNumber C_InvalidPin C_NotBest I_Mismatch I_UnknownName I_InvalidSizes I_InvalidForest I_InvalidUsers I_UnknownUser I_InvalidPlace I_InvalidText I_Crowded I_InvalidNumber I_InvalidPin I_NotBest R c_rfC t_rfC CF CA : Addr} {d_bgC d_dtC d_dpC d_nmC d_trC d_plC d_szC d_grC d_spC d_lyC d_phC d_coC d_prC d_isn d_isa d_nd d_fiN d_ai d_at d_sus d_nflE d_pi d_ausE d_npE d_aatE d_jo d_af d_fl d_po d_np d_aat d_gof d_ii d_nus d_afl d_nin d_rnd d_so d_as d_ba d_ap d_erC d_rfC d_law D_Mismatch D_UnknownName D_InvalidSizes D_InvalidForest D_InvalidUsers D_UnknownUser D_InvalidPlace D_InvalidText D_Crowded D_InvalidNumber D_InvalidPin D_NotBest : FuncData} {tL tT tR tCF tCA : Nat} {r_at r_af r_fl r_as r_ap : List Value} (X : K.In h) (G : h.Ns mainGlobals mg) (hfa : mg "law" = some (.ref fa)) (TO : TabsOf q K h)
    (kCF : ClsK K "Forest" CF 12 tCF)
    (noCF_above : PySem.W.findIn K (.ref CF) "above" = some none)
    (kCA : ClsK K "Assignment" CA 60 tCA)
    (noCA_own_forest : PySem.W.findIn K (.ref CA) "own_forest" = some none)
    (noCA_own_places : PySem.W.findIn K (.ref CA) "own_places" = some none)
    (root : PySem.W.findCls K (.ref CF) (.type "type") "ROOT" = some (.val (.str "" tR)))
    (cL : PySem.W.nsIn K mainGlobals "LONGEST" = some (some (.int 8 tL)))
    (cT : PySem.W.nsIn K mainGlobals "LETTERS" = some (some (.str letters tT)))
    (n_bgC : PySem.W.nsIn K mainGlobals "_law_begin" = some (some (.ref f_bgC)))
    (u_bgC : L2.Fun K "_law_begin" "_law_begin" s__law_begin f_bgC d_bgC)
    (n_dtC : PySem.W.nsIn K mainGlobals "_law_draw" = some (some (.ref f_dtC)))
    (u_dtC : L2.Fun K "_law_draw" "_law_draw" s__law_draw f_dtC d_dtC)
    (n_dpC : PySem.W.nsIn K mainGlobals "_law_pick" = some (some (.ref f_dpC)))
    (u_dpC : L2.Fun K "_law_pick" "_law_pick" s__law_pick f_dpC d_dpC)
    (n_nmC : PySem.W.nsIn K mainGlobals "_law_names" = some (some (.ref f_nmC)))
    (u_nmC : L2.Fun K "_law_names" "_law_names" s__law_names f_nmC d_nmC)
    (n_trC : PySem.W.nsIn K mainGlobals "_law_tree" = some (some (.ref f_trC)))
    (u_trC : L2.Fun K "_law_tree" "_law_tree" s__law_tree f_trC d_trC)
    (n_plC : PySem.W.nsIn K mainGlobals "_law_places" = some (some (.ref f_plC)))
    (u_plC : L2.Fun K "_law_places" "_law_places" s__law_places f_plC d_plC)
    (n_szC : PySem.W.nsIn K mainGlobals "_law_sizes" = some (some (.ref f_szC)))
    (u_szC : L2.Fun K "_law_sizes" "_law_sizes" s__law_sizes f_szC d_szC)
    (n_grC : PySem.W.nsIn K mainGlobals "_law_groups" = some (some (.ref f_grC)))
    (u_grC : L2.Fun K "_law_groups" "_law_groups" s__law_groups f_grC d_grC)
    (n_spC : PySem.W.nsIn K mainGlobals "_law_split" = some (some (.ref f_spC)))
    (u_spC : L2.Fun K "_law_split" "_law_split" s__law_split f_spC d_spC)
    (n_lyC : PySem.W.nsIn K mainGlobals "_law_layers" = some (some (.ref f_lyC)))
    (u_lyC : L2.Fun K "_law_layers" "_law_layers" s__law_layers f_lyC d_lyC)
    (n_phC : PySem.W.nsIn K mainGlobals "_law_path" = some (some (.ref f_phC)))
    (u_phC : L2.Fun K "_law_path" "_law_path" s__law_path f_phC d_phC)
    (n_coC : PySem.W.nsIn K mainGlobals "_law_counts" = some (some (.ref f_coC)))
    (u_coC : L2.Fun K "_law_counts" "_law_counts" s__law_counts f_coC d_coC)
    (n_prC : PySem.W.nsIn K mainGlobals "_law_in_proportion" = some (some (.ref f_prC)))
    (u_prC : L2.Fun K "_law_in_proportion" "_law_in_proportion" s__law_in_proportion f_prC d_prC)
    (n_isn : PySem.W.nsIn K mainGlobals "is_name" = some (some (.ref f_isn)))
    (u_isn : L2.Fun K "is_name" "is_name" s_is_name f_isn d_isn)
    (n_isa : PySem.W.nsIn K mainGlobals "is_ancestor" = some (some (.ref f_isa)))
    (u_isa : L2.Fun K "is_ancestor" "is_ancestor" s_is_ancestor f_isa d_isa)
    (n_nd : PySem.W.nsIn K mainGlobals "need_parents" = some (some (.ref f_nd)))
    (u_nd : L2.Fun K "need_parents" "need_parents" s_need_parents f_nd d_nd)
    (n_sus : PySem.W.nsIn K mainGlobals "need_same_users" = some (some (.ref f_sus)))
    (u_sus : L2.Fun K "need_same_users" "need_same_users" s_need_same_users f_sus d_sus)
    (n_nflE : PySem.W.nsIn K mainGlobals "need_flag" = some (some (.ref f_nflE)))
    (u_nflE : L2.Fun K "need_flag" "need_flag" s_need_flag f_nflE d_nflE)
    (n_pi : PySem.W.nsIn K mainGlobals "path_in" = some (some (.ref f_pi)))
    (u_pi : L2.Fun K "path_in" "path_in" s_path_in f_pi d_pi)
    (n_npE : PySem.W.nsIn K mainGlobals "need_place" = some (some (.ref f_npE)))
    (u_npE : L2.Fun K "need_place" "need_place" s_need_place f_npE d_npE)
    (n_jo : PySem.W.nsIn K mainGlobals "joint" = some (some (.ref f_jo)))
    (u_jo : L2.Fun K "joint" "joint" s_joint f_jo d_jo)
    (n_po : PySem.W.nsIn K mainGlobals "places_of" = some (some (.ref f_po)))
    (u_po : L2.Fun K "places_of" "places_of" s_places_of f_po d_po)
    (n_np : PySem.W.nsIn K mainGlobals "need_place" = some (some (.ref f_np)))
    (u_np : L2.Fun K "need_place" "need_place" s_need_place f_np d_np)
    (n_gof : PySem.W.nsIn K mainGlobals "groups_of" = some (some (.ref f_gof)))
    (u_gof : L2.Fun K "groups_of" "groups_of" s_groups_of f_gof d_gof)
    (n_ii : PySem.W.nsIn K mainGlobals "is_integer" = some (some (.ref f_ii)))
    (u_ii : L2.Fun K "is_integer" "is_integer" s_is_integer f_ii d_ii)
    (n_nus : PySem.W.nsIn K mainGlobals "need_user" = some (some (.ref f_nus)))
    (u_nus : L2.Fun K "need_user" "need_user" s_need_user f_nus d_nus)
    (n_nin : PySem.W.nsIn K mainGlobals "numbers_in" = some (some (.ref f_nin)))
    (u_nin : L2.Fun K "numbers_in" "numbers_in" s_numbers_in f_nin d_nin)
    (n_rnd : PySem.W.nsIn K mainGlobals "roundings" = some (some (.ref f_rnd)))
    (u_rnd : L2.Fun K "roundings" "roundings" s_roundings f_rnd d_rnd)
    (n_so : PySem.W.nsIn K mainGlobals "sizes_of" = some (some (.ref f_so)))
    (u_so : L2.Fun K "sizes_of" "sizes_of" s_sizes_of f_so d_so)
    (n_ba : PySem.W.nsIn K mainGlobals "is_balanced" = some (some (.ref f_ba)))
    (u_ba : L2.Fun K "is_balanced" "is_balanced" s_is_balanced f_ba d_ba)
    (n_erC : PySem.W.nsIn K mainGlobals "_law_error" = some (some (.ref f_erC)))
    (u_erC : L2.Fun K "_law_error" "_law_error" s__law_error f_erC d_erC)
    (n_rfC : PySem.W.nsIn K mainGlobals "_law_refused" = some (some (.ref f_rfC)))
    (u_rfC : FunC K "_law_refused" "_law_refused" s__law_refused f_rfC d_rfC c_rfC)
    (t1_rfC : PySem.W.tabIn K "_law_refused" = some (c_rfC, t_rfC))
    (t2_rfC : K.lookup t_rfC = none)
    (t3_rfC : ((recsOf q).find? (fun e => e.name == ("_law_refused" : Str))).isSome = true)
    (n_law : PySem.W.nsIn K mainGlobals "law" = some (some (.ref f_law)))
    (u_law : L2.Fun K "law" "law" s_law f_law d_law)
    (m_fiN : MetK K CF "__init__" f_fiN)
    (m_ai : MetK K CA "__init__" f_ai)
    (m_ausE : MetK K CA "users_of" f_ausE)
    (m_aatE : MetK K CA "at" f_aatE)
    (m_aat : MetK K CA "at" f_aat)
    (m_afl : MetK K CA "flags_of" f_afl)
    (m_at : PrK K CA "total" p_at f_at r_at)
    (m_af : PrK K CA "forest" p_af f_af r_af)
    (m_fl : PrK K CF "flags" p_fl f_fl r_fl)
    (m_as : PrK K CA "sizes" p_as f_as r_as)
    (m_ap : PrK K CA "places" p_ap f_ap r_ap)
    (u_fiN : L2.Fun K "__init__" "Forest.__init__" s_Forest___init__ f_fiN d_fiN)
    (u_ai : L2.Fun K "__init__" "Assignment.__init__" s_Assignment___init__ f_ai d_ai)
    (u_ausE : L2.Fun K "users_of" "Assignment.users_of" s_Assignment_users_of f_ausE d_ausE)
    (u_aatE : L2.Fun K "at" "Assignment.at" s_Assignment_at f_aatE d_aatE)
    (u_aat : L2.Fun K "at" "Assignment.at" s_Assignment_at f_aat d_aat)
    (u_afl : L2.Fun K "flags_of" "Assignment.flags_of" s_Assignment_flags_of f_afl d_afl)
    (u_at : L2.Fun K "total" "Assignment.total" s_Assignment_total f_at d_at)
    (u_af : L2.Fun K "forest" "Assignment.forest" s_Assignment_forest f_af d_af)
    (u_fl : L2.Fun K "flags" "Forest.flags" s_Forest_flags f_fl d_fl)
    (u_as : L2.Fun K "sizes" "Assignment.sizes" s_Assignment_sizes f_as d_as)
    (u_ap : L2.Fun K "places" "Assignment.places" s_Assignment_places f_ap d_ap)
    (rt0 : RootF K R)
    (e_Mismatch : ClsF K "Mismatch" "" C_Mismatch I_Mismatch R)
    (i_Mismatch : L2.Fun K "__init__" "Mismatch.__init__" s_Mismatch___init__ I_Mismatch D_Mismatch)
    (e_UnknownName : ClsF K "UnknownName" "name" C_UnknownName I_UnknownName R)
    (i_UnknownName : L2.Fun K "__init__" "UnknownName.__init__" s_UnknownName___init__ I_UnknownName D_UnknownName)
    (e_InvalidSizes : ClsF K "InvalidSizes" "place" C_InvalidSizes I_InvalidSizes R)
    (i_InvalidSizes : L2.Fun K "__init__" "InvalidSizes.__init__" s_InvalidSizes___init__ I_InvalidSizes D_InvalidSizes)
    (e_InvalidForest : ClsF K "InvalidForest" "name" C_InvalidForest I_InvalidForest R)
    (i_InvalidForest : L2.Fun K "__init__" "InvalidForest.__init__" s_InvalidForest___init__ I_InvalidForest D_InvalidForest)
    (e_InvalidUsers : ClsF K "InvalidUsers" "" C_InvalidUsers I_InvalidUsers R)
    (i_InvalidUsers : L2.Fun K "__init__" "InvalidUsers.__init__" s_InvalidUsers___init__ I_InvalidUsers D_InvalidUsers)
    (e_UnknownUser : ClsF K "UnknownUser" "user" C_UnknownUser I_UnknownUser R)
    (i_UnknownUser : L2.Fun K "__init__" "UnknownUser.__init__" s_UnknownUser___init__ I_UnknownUser D_UnknownUser)
    (e_InvalidPlace : ClsF K "InvalidPlace" "user" C_InvalidPlace I_InvalidPlace R)
    (i_InvalidPlace : L2.Fun K "__init__" "InvalidPlace.__init__" s_InvalidPlace___init__ I_InvalidPlace D_InvalidPlace)
    (e_InvalidText : ClsF K "InvalidText" "line" C_InvalidText I_InvalidText R)
    (i_InvalidText : L2.Fun K "__init__" "InvalidText.__init__" s_InvalidText___init__ I_InvalidText D_InvalidText)
    (e_Crowded : ClsF K "Crowded" "users" C_Crowded I_Crowded R)
    (i_Crowded : L2.Fun K "__init__" "Crowded.__init__" s_Crowded___init__ I_Crowded D_Crowded)
    (e_InvalidNumber : ClsF K "InvalidNumber" "" C_InvalidNumber I_InvalidNumber R)
    (i_InvalidNumber : L2.Fun K "__init__" "InvalidNumber.__init__" s_InvalidNumber___init__ I_InvalidNumber D_InvalidNumber)
    (e_InvalidPin : ClsF K "InvalidPin" "index" C_InvalidPin I_InvalidPin R)
    (i_InvalidPin : L2.Fun K "__init__" "InvalidPin.__init__" s_InvalidPin___init__ I_InvalidPin D_InvalidPin)
    (e_NotBest : ClsF K "NotBest" "" C_NotBest I_NotBest R)
    (i_NotBest : L2.Fun K "__init__" "NotBest.__init__" s_NotBest___init__ I_NotBest D_NotBest)
    (apart : ∀ i : Fin 12, R ≠ ([C_Mismatch, C_UnknownName, C_InvalidSizes, C_InvalidForest, C_InvalidUsers, C_UnknownUser, C_InvalidPlace, C_InvalidText, C_Crowded, C_InvalidNumber, C_InvalidPin, C_NotBest] : List Nat).getD i.1 0)
    (dist : ∀ i j : Fin 12, decide (([C_Mismatch, C_UnknownName, C_InvalidSizes, C_InvalidForest, C_InvalidUsers, C_UnknownUser, C_InvalidPlace, C_InvalidText, C_Crowded, C_InvalidNumber, C_InvalidPin, C_NotBest] : List Nat).getD i.1 0 = ([C_Mismatch, C_UnknownName, C_InvalidSizes, C_InvalidForest, C_InvalidUsers, C_UnknownUser, C_InvalidPlace, C_InvalidText, C_Crowded, C_InvalidNumber, C_InvalidPin, C_NotBest] : List Nat).getD j.1 0) = decide (i.1 = j.1))
    (z_abs : PySem.W.nsIn K mainGlobals "abs" = some none)
    (z_len : PySem.W.nsIn K mainGlobals "len" = some none)
    (z_rng : PySem.W.nsIn K mainGlobals "range" = some none)
    (z_enu : PySem.W.nsIn K mainGlobals "enumerate" = some none)
    (z_zip : PySem.W.nsIn K mainGlobals "zip" = some none)
    (z_isi : PySem.W.nsIn K mainGlobals "isinstance" = some none)
    (z_all : PySem.W.nsIn K mainGlobals "all" = some none)
    (z_srt : PySem.W.nsIn K mainGlobals "sorted" = some none)
    (z_lst : PySem.W.nsIn K mainGlobals "list" = some none)
    (z_dct : PySem.W.nsIn K mainGlobals "dict" = some none)
    (z_str : PySem.W.nsIn K mainGlobals "str" = some none)
    (z_int : PySem.W.nsIn K mainGlobals "int" = some none)
    (z_tup : PySem.W.nsIn K mainGlobals "tuple" = some none)
    (z_sum : PySem.W.nsIn K mainGlobals "sum" = some none)
    (z_min : PySem.W.nsIn K mainGlobals "min" = some none)
    (z_max : PySem.W.nsIn K mainGlobals "max" = some none)
    (z_rep : PySem.W.nsIn K mainGlobals "repr" = some none)
    (z_bool : PySem.W.nsIn K mainGlobals "bool" = some none)
    (z_any : PySem.W.nsIn K mainGlobals "any" = some none)
    (z_vE : PySem.W.nsIn K mainGlobals "ValueError" = some none)
    : LawTG l w K 10 63 "_law_script" mg fa h := by
  cases hfa.symm.trans (PySem.W.mg_of X G n_law)
  have N : Nm mg := ⟨PySem.W.mg_none_of X G z_abs, PySem.W.mg_none_of X G z_len, PySem.W.mg_none_of X G z_rng, PySem.W.mg_none_of X G z_enu, PySem.W.mg_none_of X G z_zip, PySem.W.mg_none_of X G z_isi, PySem.W.mg_none_of X G z_all, PySem.W.mg_none_of X G z_srt, PySem.W.mg_none_of X G z_lst, PySem.W.mg_none_of X G z_dct, PySem.W.mg_none_of X G z_str, PySem.W.mg_none_of X G z_int, PySem.W.mg_none_of X G z_tup, PySem.W.mg_none_of X G z_sum, PySem.W.mg_none_of X G z_min, PySem.W.mg_none_of X G z_max, PySem.W.mg_none_of X G z_rep, PySem.W.mg_none_of X G z_bool, PySem.W.mg_none_of X G z_any, PySem.W.mg_none_of X G z_vE⟩
  have Cs_ : Cs mg := ⟨⟨_, PySem.W.mg_of X G cL⟩, ⟨_, PySem.W.mg_of X G cT⟩⟩
  have O : FoC K CF := ⟨kCF.cls, noCF_above⟩
  have Z : Fc K mg CF (.type "type") := kCF.fc X G root
  have B : Ac K mg CA (.type "type") := ⟨PySem.W.mg_of X G kCA.nsn, ⟨kCA.rd, kCA.ga⟩, ⟨_, kCA.most, ⟨_, rfl⟩⟩, kCA.cls, noCA_own_forest, noCA_own_places⟩
  have b_bgC := u_bgC.binds (ps := ["_law_script"]) fun _ _ _ _ _ _ us hl => match us, hl with | [_], _ => rfl
  have b_dtC := u_dtC.binds (ps := ["_law_state", "_law_many"]) fun _ _ _ _ _ _ us hl => match us, hl with | [_, _], _ => rfl
  have b_dpC := u_dpC.binds (ps := ["_law_state", "_law_some"]) fun _ _ _ _ _ _ us hl => match us, hl with | [_, _], _ => rfl
  have b_nmC := u_nmC.binds (ps := ["_law_state", "_law_many"]) fun _ _ _ _ _ _ us hl => match us, hl with | [_, _], _ => rfl
  have b_trC := u_trC.binds (ps := ["_law_state", "_law_many"]) fun _ _ _ _ _ _ us hl => match us, hl with | [_, _], _ => rfl
  have b_plC := u_plC.binds (ps := ["_law_state", "_law_tree_here", "_law_users"]) fun _ _ _ _ _ _ us hl => match us, hl with | [_, _, _], _ => rfl
  have b_szC := u_szC.binds (ps := ["_law_state", "_law_tree_here", "_law_users"]) fun _ _ _ _ _ _ us hl => match us, hl with | [_, _, _], _ => rfl
  have b_grC := u_grC.binds (ps := ["_law_other_places"]) fun _ _ _ _ _ _ us hl => match us, hl with | [_], _ => rfl
  have b_spC := u_spC.binds (ps := ["_law_state", "_law_tree_here", "_law_wanted", "_law_groups_here", "_law_users"]) fun _ _ _ _ _ _ us hl => match us, hl with | [_, _, _, _, _], _ => rfl
  have b_lyC := u_lyC.binds (ps := ["_law_state"]) fun _ _ _ _ _ _ us hl => match us, hl with | [_], _ => rfl
  have b_phC := u_phC.binds (ps := ["_law_tree_here", "_law_spot"]) fun _ _ _ _ _ _ us hl => match us, hl with | [_, _], _ => rfl
  have b_coC := u_coC.binds (ps := ["_law_tree_here", "_law_places_here"]) fun _ _ _ _ _ _ us hl => match us, hl with | [_, _], _ => rfl
  have b_prC := u_prC.binds (ps := ["_law_tree_here", "_law_places_here", "_law_groups_here", "_law_wanted"]) fun _ _ _ _ _ _ us hl => match us, hl with | [_, _, _, _], _ => rfl
  have b_isn := u_isn.binds (ps := ["value"]) fun _ _ _ _ _ _ us hl => match us, hl with | [_], _ => rfl
  have b_isa := u_isa.binds (ps := ["parents", "name"]) fun _ _ _ _ _ _ us hl => match us, hl with | [_, _], _ => rfl
  have b_nd := u_nd.binds (ps := ["parents"]) fun _ _ _ _ _ _ us hl => match us, hl with | [_], _ => rfl
  have b_fiN := u_fiN.binds (ps := ["self", "parents"]) fun _ _ _ _ _ _ us hl => match us, hl with | [_, _], _ => rfl
  have b_ai := u_ai.binds (ps := ["self", "forest", "places"]) fun _ _ _ _ _ _ us hl => match us, hl with | [_, _, _], _ => rfl
  have b_at := u_at.binds (ps := ["self"]) fun _ _ _ _ _ _ us hl => match us, hl with | [_], _ => rfl
  have b_sus := u_sus.binds (ps := ["one", "other"]) fun _ _ _ _ _ _ us hl => match us, hl with | [_, _], _ => rfl
  have b_nflE := u_nflE.binds (ps := ["forest", "name"]) fun _ _ _ _ _ _ us hl => match us, hl with | [_, _], _ => rfl
  have b_pi := u_pi.binds (ps := ["above", "place"]) fun _ _ _ _ _ _ us hl => match us, hl with | [_, _], _ => rfl
  have b_ausE := u_ausE.binds (ps := ["self", "name"]) fun _ _ _ _ _ _ us hl => match us, hl with | [_, _], _ => rfl
  have b_npE := u_npE.binds (ps := ["forest", "place"]) fun _ _ _ _ _ _ us hl => match us, hl with | [_, _], _ => rfl
  have b_aatE := u_aatE.binds (ps := ["self", "place"]) fun _ _ _ _ _ _ us hl => match us, hl with | [_, _], _ => rfl
  have b_jo := u_jo.binds (ps := ["one", "other", "name", "place"]) fun _ _ _ _ _ _ us hl => match us, hl with | [_, _, _, _], _ => rfl
  have b_af := u_af.binds (ps := ["self"]) fun _ _ _ _ _ _ us hl => match us, hl with | [_], _ => rfl
  have b_fl := u_fl.binds (ps := ["self"]) fun _ _ _ _ _ _ us hl => match us, hl with | [_], _ => rfl
  have b_po := u_po.binds (ps := ["forest"]) fun _ _ _ _ _ _ us hl => match us, hl with | [_], _ => rfl
  have b_np := u_np.binds (ps := ["forest", "place"]) fun _ _ _ _ _ _ us hl => match us, hl with | [_, _], _ => rfl
  have b_aat := u_aat.binds (ps := ["self", "place"]) fun _ _ _ _ _ _ us hl => match us, hl with | [_, _], _ => rfl
  have b_gof := u_gof.binds (ps := ["other"]) fun _ _ _ _ _ _ us hl => match us, hl with | [_], _ => rfl
  have b_ii := u_ii.binds (ps := ["value", "least"]) fun _ _ _ _ _ _ us hl => match us, hl with | [_, _], _ => rfl
  have b_nus := u_nus.binds (ps := ["assignment", "user"]) fun _ _ _ _ _ _ us hl => match us, hl with | [_, _], _ => rfl
  have b_afl := u_afl.binds (ps := ["self", "user"]) fun _ _ _ _ _ _ us hl => match us, hl with | [_, _], _ => rfl
  have b_nin := u_nin.binds (ps := ["one", "group"]) fun _ _ _ _ _ _ us hl => match us, hl with | [_, _], _ => rfl
  have b_rnd := u_rnd.binds (ps := ["size", "here", "total"]) fun _ _ _ _ _ _ us hl => match us, hl with | [_, _, _], _ => rfl
  have b_so := u_so.binds (ps := ["forest", "places"]) fun _ _ _ _ _ _ us hl => match us, hl with | [_, _], _ => rfl
  have b_as := u_as.binds (ps := ["self"]) fun _ _ _ _ _ _ us hl => match us, hl with | [_], _ => rfl
  have b_ba := u_ba.binds (ps := ["one", "other"]) fun _ _ _ _ _ _ us hl => match us, hl with | [_, _], _ => rfl
  have b_ap := u_ap.binds (ps := ["self"]) fun _ _ _ _ _ _ us hl => match us, hl with | [_], _ => rfl
  have b_erC := u_erC.binds (ps := ["_law_work"]) fun _ _ _ _ _ _ us hl => match us, hl with | [_], _ => rfl
  have b_rfC := (u_rfC.fun).binds (ps := ["_law_state", "_law_first", "_law_second", "_law_tree_here", "_law_other_tree"]) fun _ _ _ _ _ _ us hl => match us, hl with | [_, _, _, _, _], _ => rfl
  have g_bgC := PySem.W.mg_of X G n_bgC
  have g_dtC := PySem.W.mg_of X G n_dtC
  have g_dpC := PySem.W.mg_of X G n_dpC
  have g_nmC := PySem.W.mg_of X G n_nmC
  have g_trC := PySem.W.mg_of X G n_trC
  have g_plC := PySem.W.mg_of X G n_plC
  have g_szC := PySem.W.mg_of X G n_szC
  have g_grC := PySem.W.mg_of X G n_grC
  have g_spC := PySem.W.mg_of X G n_spC
  have g_lyC := PySem.W.mg_of X G n_lyC
  have g_phC := PySem.W.mg_of X G n_phC
  have g_coC := PySem.W.mg_of X G n_coC
  have g_prC := PySem.W.mg_of X G n_prC
  have g_isn := PySem.W.mg_of X G n_isn
  have g_isa := PySem.W.mg_of X G n_isa
  have g_nd := PySem.W.mg_of X G n_nd
  have g_sus := PySem.W.mg_of X G n_sus
  have g_nflE := PySem.W.mg_of X G n_nflE
  have g_pi := PySem.W.mg_of X G n_pi
  have g_npE := PySem.W.mg_of X G n_npE
  have g_jo := PySem.W.mg_of X G n_jo
  have g_po := PySem.W.mg_of X G n_po
  have g_np := PySem.W.mg_of X G n_np
  have g_gof := PySem.W.mg_of X G n_gof
  have g_ii := PySem.W.mg_of X G n_ii
  have g_nus := PySem.W.mg_of X G n_nus
  have g_nin := PySem.W.mg_of X G n_nin
  have g_rnd := PySem.W.mg_of X G n_rnd
  have g_so := PySem.W.mg_of X G n_so
  have g_ba := PySem.W.mg_of X G n_ba
  have g_erC := PySem.W.mg_of X G n_erC
  have g_rfC := PySem.W.mg_of X G n_rfC
  have rt := rt0.rt X G
  have at_ : ∀ i, i < 12 → ClsAt K (([C_Mismatch, C_UnknownName, C_InvalidSizes, C_InvalidForest, C_InvalidUsers, C_UnknownUser, C_InvalidPlace, C_InvalidText, C_Crowded, C_InvalidNumber, C_InvalidPin, C_NotBest] : List Nat).getD i 0) (.ref R :: exTail) := fun i hi => match i, hi with
    | 0, _ => e_Mismatch.at_
    | 1, _ => e_UnknownName.at_
    | 2, _ => e_InvalidSizes.at_
    | 3, _ => e_InvalidForest.at_
    | 4, _ => e_InvalidUsers.at_
    | 5, _ => e_UnknownUser.at_
    | 6, _ => e_InvalidPlace.at_
    | 7, _ => e_InvalidText.at_
    | 8, _ => e_Crowded.at_
    | 9, _ => e_InvalidNumber.at_
    | 10, _ => e_InvalidPin.at_
    | 11, _ => e_NotBest.at_
  have xs_ : ∀ i, i < 12 → XCls K (([C_Mismatch, C_UnknownName, C_InvalidSizes, C_InvalidForest, C_InvalidUsers, C_UnknownUser, C_InvalidPlace, C_InvalidText, C_Crowded, C_InvalidNumber, C_InvalidPin, C_NotBest] : List Nat).getD i 0) := fun i hi => match i, hi with
    | 0, _ => e_Mismatch.x rt0
    | 1, _ => e_UnknownName.x rt0
    | 2, _ => e_InvalidSizes.x rt0
    | 3, _ => e_InvalidForest.x rt0
    | 4, _ => e_InvalidUsers.x rt0
    | 5, _ => e_UnknownUser.x rt0
    | 6, _ => e_InvalidPlace.x rt0
    | 7, _ => e_InvalidText.x rt0
    | 8, _ => e_Crowded.x rt0
    | 9, _ => e_InvalidNumber.x rt0
    | 10, _ => e_InvalidPin.x rt0
    | 11, _ => e_NotBest.x rt0
  have kits : ∀ i j, i < 12 → j < 12 → PySem.W.kitOne K (.ref (([C_Mismatch, C_UnknownName, C_InvalidSizes, C_InvalidForest, C_InvalidUsers, C_UnknownUser, C_InvalidPlace, C_InvalidText, C_Crowded, C_InvalidNumber, C_InvalidPin, C_NotBest] : List Nat).getD i 0)) (.ref (([C_Mismatch, C_UnknownName, C_InvalidSizes, C_InvalidForest, C_InvalidUsers, C_UnknownUser, C_InvalidPlace, C_InvalidText, C_Crowded, C_InvalidNumber, C_InvalidPin, C_NotBest] : List Nat).getD j 0)) = some (decide (i = j)) := fun i j hi hj => by rw [(at_ i hi).kit (at_ j hj), has_cls (dist ⟨i, hi⟩ ⟨j, hj⟩) (apart ⟨j, hj⟩)]
  have exs : ∀ i j, i < 12 → j < 12 → PySem.W.exmOne K (.ref (([C_Mismatch, C_UnknownName, C_InvalidSizes, C_InvalidForest, C_InvalidUsers, C_UnknownUser, C_InvalidPlace, C_InvalidText, C_Crowded, C_InvalidNumber, C_InvalidPin, C_NotBest] : List Nat).getD i 0)) (.ref (([C_Mismatch, C_UnknownName, C_InvalidSizes, C_InvalidForest, C_InvalidUsers, C_UnknownUser, C_InvalidPlace, C_InvalidText, C_Crowded, C_InvalidNumber, C_InvalidPin, C_NotBest] : List Nat).getD j 0)) = some (decide (i = j)) := fun i j hi hj => by rw [(at_ i hi).exm (at_ j hj) rfl, has_cls (dist ⟨i, hi⟩ ⟨j, hj⟩) (apart ⟨j, hj⟩)]
  obtain ⟨T, eT⟩ : ∃ T : List (Addr × Str), T = [(t_rfC, lamQ "_law_refused")] := ⟨_, rfl⟩
  have m_rfC : (t_rfC, lamQ "_law_refused") ∈ T := by rw [eT]; simp
  have un_rfC : ∀ p ∈ T, p.1 = t_rfC → p.2 = lamQ "_law_refused" := fun p hp e => by
    rw [eT] at hp
    simp only [List.mem_cons, List.not_mem_nil, or_false] at hp
    rcases hp with rfl
    · rfl
  refine ⟨d_law, ([(c_rfC, t_rfC)] : List (Addr × Addr)), spLaw35 K T, fun p hp => ?_, fun s u => ?_, fun H a ns hl hts hS => ?_, fun base KB GB TBs => ?_⟩
  · simp only [List.mem_cons, List.not_mem_nil, or_false] at hp
    rcases hp with rfl
    · exact ⟨(TO _ _ _ t3_rfC t1_rfC).1, (TO _ _ _ t3_rfC t1_rfC).2, t2_rfC⟩
  · obtain ⟨oc, od, kV, doc, pm, an, cdv, ct, osl, rfl, lk, hcd⟩ := u_law.ex
    exact .of_eq rfl
  · refine ⟨a, ns, rfl, hS, hl, ?_, fun _ => rfl⟩
    intro p hp
    rw [eT] at hp
    simp only [List.mem_cons, List.not_mem_nil, or_false] at hp
    rcases hp with rfl
    · exact TabS.nil (hts (c_rfC, t_rfC) (by simp))
  have E_Mismatch : Er0 l.prog w K mg base "Mismatch" C_Mismatch I_Mismatch D_Mismatch := ⟨e_Mismatch.er X G rt0, ok_Mismatch i_Mismatch rt (e_Mismatch.er X G rt0), i_Mismatch.binds (ps := ["self"]) fun _ _ _ _ _ _ us hl => match us, hl with | [_], _ => rfl⟩
  have E_UnknownName : Er1 l.prog w K mg base "UnknownName" "name" C_UnknownName I_UnknownName D_UnknownName := ⟨e_UnknownName.er X G rt0, ok_UnknownName i_UnknownName rt (e_UnknownName.er X G rt0), i_UnknownName.binds (ps := ["self", "name"]) fun _ _ _ _ _ _ us hl => match us, hl with | [_, _], _ => rfl⟩
  have D_bgC : Dn l.prog w K mg base CX0 1 "_law_begin" ["_law_script"] (spBegin K) f_bgC d_bgC := ⟨ok_begin u_bgC N, u_bgC.kp, b_bgC, g_bgC⟩
  have D_dtC : Dn l.prog w K mg base CX0 1 "_law_draw" ["_law_state", "_law_many"] (spDraw) f_dtC d_dtC := ⟨ok_draw u_dtC N, u_dtC.kp, b_dtC, g_dtC⟩
  have D_dpC : Dn l.prog w K mg base CX0 2 "_law_pick" ["_law_state", "_law_some"] (spPick K) f_dpC d_dpC := ⟨ok_pick u_dpC N u_dtC b_dtC g_dtC, u_dpC.kp, b_dpC, g_dpC⟩
  have D_nmC : Dn l.prog w K mg base CX0 3 "_law_names" ["_law_state", "_law_many"] (spNames K) f_nmC d_nmC := ⟨ok_names u_nmC N u_dtC b_dtC g_dtC u_dpC b_dpC g_dpC, u_nmC.kp, b_nmC, g_nmC⟩
  have D_trC : Dn l.prog w K mg base CX0 4 "_law_tree" ["_law_state", "_law_many"] (spTree) f_trC d_trC := ⟨ok_tree u_trC N u_dtC b_dtC g_dtC u_dpC b_dpC g_dpC u_nmC b_nmC g_nmC, u_trC.kp, b_trC, g_trC⟩
  have D_plC : Dn l.prog w K mg base CX0 3 "_law_places" ["_law_state", "_law_tree_here", "_law_users"] (spPlaces) f_plC d_plC := ⟨ok_places u_plC N u_dtC b_dtC g_dtC u_dpC b_dpC g_dpC, u_plC.kp, b_plC, g_plC⟩
  have D_szC : Dn l.prog w K mg base CX0 3 "_law_sizes" ["_law_state", "_law_tree_here", "_law_users"] (spSizesC) f_szC d_szC := ⟨ok_sizesC u_szC N D_dtC D_dpC, u_szC.kp, b_szC, g_szC⟩
  have D_grC : Dn l.prog w K mg base CX0 1 "_law_groups" ["_law_other_places"] (spGroupsL) f_grC d_grC := ⟨ok_groupsL u_grC N, u_grC.kp, b_grC, g_grC⟩
  have D_spC : Dn l.prog w K mg base CX0 1 "_law_split" ["_law_state", "_law_tree_here", "_law_wanted", "_law_groups_here", "_law_users"] (spSplit) f_spC d_spC := ⟨ok_split u_spC N, u_spC.kp, b_spC, g_spC⟩
  have D_lyC : Dn l.prog w K mg base CX0 5 "_law_layers" ["_law_state"] (spLayers) f_lyC d_lyC := ⟨ok_layers u_lyC N D_dtC D_dpC D_trC D_plC D_szC D_grC D_spC, u_lyC.kp, b_lyC, g_lyC⟩
  have D_phC : Dn l.prog w K mg base CX0 1 "_law_path" ["_law_tree_here", "_law_spot"] (spPathL) f_phC d_phC := ⟨ok_pathL u_phC, u_phC.kp, b_phC, g_phC⟩
  have D_coC : Dn l.prog w K mg base CX0 2 "_law_counts" ["_law_tree_here", "_law_places_here"] (spCountsL) f_coC d_coC := ⟨ok_countsL u_coC N D_phC, u_coC.kp, b_coC, g_coC⟩
  have D_prC : Dn l.prog w K mg base CX0 3 "_law_in_proportion" ["_law_tree_here", "_law_places_here", "_law_groups_here", "_law_wanted"] (spPropL) f_prC d_prC := ⟨ok_propL u_prC N D_coC, u_prC.kp, b_prC, g_prC⟩
  have D_isn : Dn l.prog w K mg base CX0 1 "is_name" ["value"] (spIsName) f_isn d_isn := ⟨ok_isName u_isn N Cs_, u_isn.kp, b_isn, g_isn⟩
  have D_isa : Dn l.prog w K mg base CX0 1 "is_ancestor" ["parents", "name"] (spIsAnc) f_isa d_isa := ⟨ok_isAnc u_isa, u_isa.kp, b_isa, g_isa⟩
  have D_nd : Dn l.prog w K mg base CX0 2 "need_parents" ["parents"] (spNeed) f_nd d_nd := ⟨ok_need u_nd N Cs_ Z D_isn D_isa, u_nd.kp, b_nd, g_nd⟩
  have F_fiN : FnOk l.prog w K mg base CX0 3 f_fiN d_fiN ["self", "parents"] (spFInitN CF) := ok_finitN u_fiN N O D_nd
  have MK_fiN : Mk K CF f_fiN := ⟨kCF.mks, m_fiN.at_, m_fiN.fn, kCF.kp⟩
  have F_ai : FnOk l.prog w K mg base CX0 1 f_ai d_ai ["self", "forest", "places"] (spAInit CF CA) := ok_ainit u_ai N O Z B
  have MK_ai : Mk K CA f_ai := ⟨kCA.mks, m_ai.at_, m_ai.fn, kCA.kp⟩
  have P_at : PrN l.prog w K mg base 1 CA "total" (spATotal CA) p_at f_at d_at := ⟨⟨m_at.at_, m_at.get, m_at.tak, ⟨_, m_at.rec_⟩⟩, ok_atotal u_at N B, b_at⟩
  have D_sus : Dn l.prog w K mg base (L2.CX l.prog w) 3 "need_same_users" ["one", "other"] (spSameUs CA C_Mismatch) f_sus d_sus := ⟨ok_sameUs u_sus B P_at E_Mismatch, u_sus.kp, b_sus, g_sus⟩
  have D_nflE : Dn l.prog w K mg base (L2.CX l.prog w) 3 "need_flag" ["forest", "name"] (spNeedFlE K CF C_UnknownName) f_nflE d_nflE := ⟨ok_needFlE u_nflE N O E_UnknownName, u_nflE.kp, b_nflE, g_nflE⟩
  have D_pi : Dn l.prog w K mg base CX0 1 "path_in" ["above", "place"] (spPathIn) f_pi d_pi := ⟨ok_pathIn u_pi N, u_pi.kp, b_pi, g_pi⟩
  have F_ausE : FnOk l.prog w K mg base (L2.CX l.prog w) 4 f_ausE d_ausE ["self", "name"] (spAUsersE K CF CA C_UnknownName) := ok_ausersE u_ausE N O B D_nflE D_pi
  have M_ausE : Mt l.prog w K mg base (L2.CX l.prog w) 4 CA "users_of" ["self", "name"] (spAUsersE K CF CA C_UnknownName) f_ausE d_ausE := ⟨⟨m_ausE.at_, m_ausE.fn, u_ausE.kp⟩, F_ausE, b_ausE⟩
  have D_npE : Dn l.prog w K mg base (L2.CX l.prog w) 3 "need_place" ["forest", "place"] (spNeedPlE K CF C_UnknownName) f_npE d_npE := ⟨ok_needPlE u_npE N O Z E_UnknownName, u_npE.kp, b_npE, g_npE⟩
  have F_aatE : FnOk l.prog w K mg base (L2.CX l.prog w) 4 f_aatE d_aatE ["self", "place"] (spAAtE K CF CA C_UnknownName) := ok_aatE u_aatE N B D_npE
  have M_aatE : Mt l.prog w K mg base (L2.CX l.prog w) 4 CA "at" ["self", "place"] (spAAtE K CF CA C_UnknownName) f_aatE d_aatE := ⟨⟨m_aatE.at_, m_aatE.fn, u_aatE.kp⟩, F_aatE, b_aatE⟩
  have D_jo : Dn l.prog w K mg base (L2.CX l.prog w) 5 "joint" ["one", "other", "name", "place"] (spJoint K CF CA C_Mismatch C_UnknownName) f_jo d_jo := ⟨ok_joint u_jo N B D_sus M_ausE M_aatE, u_jo.kp, b_jo, g_jo⟩
  have P_af : PrN l.prog w K mg base 1 CA "forest" (spAForest CA) p_af f_af d_af := ⟨⟨m_af.at_, m_af.get, m_af.tak, ⟨_, m_af.rec_⟩⟩, ok_aforest u_af B, b_af⟩
  have P_fl : Pr1 l.prog w K mg base CF "flags" (spFFlags CF) p_fl f_fl d_fl := ⟨⟨m_fl.at_, m_fl.get, m_fl.tak, ⟨_, m_fl.rec_⟩⟩, ok_fflags u_fl N O, b_fl⟩
  have D_po : Dn l.prog w K mg base CX0 3 "places_of" ["forest"] (spPlacesOf CF) f_po d_po := ⟨ok_placesOf u_po N O Z P_fl, u_po.kp, b_po, g_po⟩
  have D_np : Dn l.prog w K mg base CX0 1 "need_place" ["forest", "place"] (spNeedPl CF) f_np d_np := ⟨ok_needPl u_np N O Z, u_np.kp, b_np, g_np⟩
  have F_aat : FnOk l.prog w K mg base CX0 2 f_aat d_aat ["self", "place"] (spAAt CF CA) := ok_aat u_aat N B D_np
  have M_aat : Mt l.prog w K mg base CX0 2 CA "at" ["self", "place"] (spAAt CF CA) f_aat d_aat := ⟨⟨m_aat.at_, m_aat.fn, u_aat.kp⟩, F_aat, b_aat⟩
  have D_gof : Dn l.prog w K mg base CX0 4 "groups_of" ["other"] (spGroups CF CA) f_gof d_gof := ⟨ok_groups u_gof N B P_af D_po M_aat, u_gof.kp, b_gof, g_gof⟩
  have D_ii : Dn l.prog w K mg base CX0 1 "is_integer" ["value", "least"] (spIsInt K) f_ii d_ii := ⟨ok_isInt u_ii N, u_ii.kp, b_ii, g_ii⟩
  have D_nus : Dn l.prog w K mg base CX0 3 "need_user" ["assignment", "user"] (spNeedUs CA) f_nus d_nus := ⟨ok_needUs u_nus N B D_ii P_at, u_nus.kp, b_nus, g_nus⟩
  have F_afl : FnOk l.prog w K mg base CX0 4 f_afl d_afl ["self", "user"] (spAFlags CF CA) := ok_aflags u_afl O B D_nus D_pi
  have M_afl : Mt l.prog w K mg base CX0 4 CA "flags_of" ["self", "user"] (spAFlags CF CA) f_afl d_afl := ⟨⟨m_afl.at_, m_afl.fn, u_afl.kp⟩, F_afl, b_afl⟩
  have D_nin : Dn l.prog w K mg base CX0 5 "numbers_in" ["one", "group"] (spNumIn CF CA) f_nin d_nin := ⟨ok_numIn u_nin O B P_fl P_af M_afl, u_nin.kp, b_nin, g_nin⟩
  have D_rnd : Dn l.prog w K mg base CX0 1 "roundings" ["size", "here", "total"] (spRound) f_rnd d_rnd := ⟨ok_round u_rnd, u_rnd.kp, b_rnd, g_rnd⟩
  have D_so : Dn l.prog w K mg base CX0 3 "sizes_of" ["forest", "places"] (spSizesOf CF) f_so d_so := ⟨ok_sizesOf u_so N O P_fl D_pi, u_so.kp, b_so, g_so⟩
  have P_as : PrN l.prog w K mg base 4 CA "sizes" (spASizes CF CA) p_as f_as d_as := ⟨⟨m_as.at_, m_as.get, m_as.tak, ⟨_, m_as.rec_⟩⟩, ok_asizes u_as B D_so, b_as⟩
  have D_ba : Dn l.prog w K mg base (L2.CX l.prog w) 6 "is_balanced" ["one", "other"] (spBal CF CA C_Mismatch) f_ba d_ba := ⟨ok_bal u_ba N O B D_sus D_gof D_nin D_rnd P_fl P_af P_at P_as, u_ba.kp, b_ba, g_ba⟩
  have P_ap : PrN l.prog w K mg base 1 CA "places" (spAPlaces CA) p_ap f_ap d_ap := ⟨⟨m_ap.at_, m_ap.get, m_ap.tak, ⟨_, m_ap.rec_⟩⟩, ok_aplaces u_ap N B, b_ap⟩
  have GE : Ge K mg "_law_error" s__law_error f_erC d_erC := ⟨u_erC, b_erC, g_erC⟩
  have _g := g_rfC
  have CC_ : ClC K mg R (fun i => ([C_Mismatch, C_UnknownName, C_InvalidSizes, C_InvalidForest, C_InvalidUsers, C_UnknownUser, C_InvalidPlace, C_InvalidText, C_Crowded, C_InvalidNumber, C_InvalidPin, C_NotBest] : List Nat).getD i 0) := ⟨rt.g, fun i hi => match i, hi with
    | 0, _ => PySem.W.mg_of X G e_Mismatch.nsn
    | 1, _ => PySem.W.mg_of X G e_UnknownName.nsn
    | 2, _ => PySem.W.mg_of X G e_InvalidSizes.nsn
    | 3, _ => PySem.W.mg_of X G e_InvalidForest.nsn
    | 4, _ => PySem.W.mg_of X G e_InvalidUsers.nsn
    | 5, _ => PySem.W.mg_of X G e_UnknownUser.nsn
    | 6, _ => PySem.W.mg_of X G e_InvalidPlace.nsn
    | 7, _ => PySem.W.mg_of X G e_InvalidText.nsn
    | 8, _ => PySem.W.mg_of X G e_Crowded.nsn
    | 9, _ => PySem.W.mg_of X G e_InvalidNumber.nsn
    | 10, _ => PySem.W.mg_of X G e_InvalidPin.nsn
    | 11, _ => PySem.W.mg_of X G e_NotBest.nsn, xs_, kits, fun i hi => by rw [(at_ i hi).exm rt0.at_ rfl, has_root], E_UnknownName.e.no⟩
  have W : W35 l.prog w K mg base CF CA C_Mismatch C_UnknownName (.type "type") (.type "type") (fun i => ([f_dpC, f_fiN, f_ai, f_jo, f_ba] : List Nat).getD i 0) (fun i => ([d_dpC, d_fiN, d_ai, d_jo, d_ba] : List FuncData).getD i d_ai) p_ap f_ap d_ap := { Z := Z, B := B, pk := D_dpC, fi := F_fiN, fim := MK_fiN, fib := b_fiN, ai := F_ai, aim := MK_ai, aib := b_ai, jo := D_jo, ba := D_ba, pP := P_ap }
  have RF := ok_refused u_rfC N W GE CC_ rfl rfl (TBs (c_rfC, t_rfC) (by simp)) m_rfC un_rfC
  have V_ : V35 l.prog w K mg base CF CA C_Mismatch C_UnknownName T (fun i => ([f_dpC, f_fiN, f_ai, f_jo, f_ba] : List Nat).getD i 0) (fun i => ([d_dpC, d_fiN, d_ai, d_jo, d_ba] : List FuncData).getD i d_ai) (fun _ => d_ai) (fun i => ([f_bgC, f_lyC, f_phC, f_coC, f_grC, f_prC, f_rfC] : List Nat).getD i 0) (fun i => ([d_bgC, d_lyC, d_phC, d_coC, d_grC, d_prC, d_rfC] : List FuncData).getD i d_ai) := { bg := D_bgC, ly := D_lyC, pa := D_phC, co := D_coC, gr := D_grC, pr := D_prC, rf := RF, rfk := u_rfC.kp, rfb := b_rfC, rfm := g_rfC, jok := kw4 u_jo fun _ _ _ _ _ _ _ _ _ _ => rfl, bak := kw2 u_ba fun _ _ _ _ _ _ _ _ => rfl }
  exact ok_law35 u_law N W V_
end
theorem walk {l : PySem.W.OpenLaw} {q : Program} {loose : List Str} {XP : (Str → Option Value) → Heap → Prop} {YP : World → Heap → Prop} {d : DefRec} {K : Params → PySem.W.Frag} (hn : l.most = some 63) (hdf : d.params.defaults = [])
    (hY : ∀ (w : World) (h : Heap), YP w h → (K w.params).In h)
    (F : ∀ (w : World) (mg : Str → Option Value) (fa : Addr) (h : Heap), (K w.params).In h → h.Ns mainGlobals mg → mg d.name = some (.ref fa) → TabsOf q (K w.params) h → XP mg h → LawTG l w (K w.params) 10 63 "_law_script" mg fa h) :
    PySem.W.WalkO q loose XP YP l.row.toRowW d [] (fun f vs => PySem.call f vs) :=
  walk_tabG (n := 63) (k := 10) (x := "_law_script") hn (by decide) hdf ⟨rfl, by decide, by decide⟩ hY F
end FT


open PySem PySem.W PyProof.Rows
set_option maxRecDepth 100000 in
set_option maxHeartbeats 0 in
theorem PySem.Challenge.cw_flagtrees_k35_joint_numbers_holds : PySem.Challenge.rw_flagtrees_k35_joint_numbers.Holds := by
  w_on; o_law; k_head; (case hw => w_witness2)
  k_fill
  refine FT.walk (l := PySem.Challenge.rw_flagtrees_k35_joint_numbers) rfl rfl (fun w h Y => PySem.W.km_in_of Y) ?F
  case F =>
    intro w mg fa h KX G hm TO XX
    have hmg : mg "law" = some (.ref fa) := hm
    clear hm
    refine' FT.all_mk KX G hmg TO ?kCF ?noCF_above ?kCA ?noCA_own_forest ?noCA_own_places ?root ?cL ?cT ?n_bgC ?u_bgC ?n_dtC ?u_dtC ?n_dpC ?u_dpC ?n_nmC ?u_nmC ?n_trC ?u_trC ?n_plC ?u_plC ?n_szC ?u_szC ?n_grC ?u_grC ?n_spC ?u_spC ?n_lyC ?u_lyC ?n_phC ?u_phC ?n_coC ?u_coC ?n_prC ?u_prC ?n_isn ?u_isn ?n_isa ?u_isa ?n_nd ?u_nd ?n_sus ?u_sus ?n_nflE ?u_nflE ?n_pi ?u_pi ?n_npE ?u_npE ?n_jo ?u_jo ?n_po ?u_po ?n_np ?u_np ?n_gof ?u_gof ?n_ii ?u_ii ?n_nus ?u_nus ?n_nin ?u_nin ?n_rnd ?u_rnd ?n_so ?u_so ?n_ba ?u_ba ?n_erC ?u_erC ?n_rfC ?u_rfC ?t1_rfC ?t2_rfC ?t3_rfC ?n_law ?u_law ?m_fiN ?m_ai ?m_ausE ?m_aatE ?m_aat ?m_afl ?m_at ?m_af ?m_fl ?m_as ?m_ap ?u_fiN ?u_ai ?u_ausE ?u_aatE ?u_aat ?u_afl ?u_at ?u_af ?u_fl ?u_as ?u_ap ?rt0 ?e_Mismatch ?i_Mismatch ?e_UnknownName ?i_UnknownName ?e_InvalidSizes ?i_InvalidSizes ?e_InvalidForest ?i_InvalidForest ?e_InvalidUsers ?i_InvalidUsers ?e_UnknownUser ?i_UnknownUser ?e_InvalidPlace ?i_InvalidPlace ?e_InvalidText ?i_InvalidText ?e_Crowded ?i_Crowded ?e_InvalidNumber ?i_InvalidNumber ?e_InvalidPin ?i_InvalidPin ?e_NotBest ?i_NotBest ?apart ?dist ?z_abs ?z_len ?z_rng ?z_enu ?z_zip ?z_isi ?z_all ?z_srt ?z_lst ?z_dct ?z_str ?z_int ?z_tup ?z_sum ?z_min ?z_max ?z_rep ?z_bool ?z_any ?z_vE
    (case kCF => (refine' ⟨?nsn, ?rd, ?ga, ?most, ?pg, ?hd, ?po, ?sa, ?mks, ?kp, ?ha, ?hn, ?ht, ?hm⟩; (case nsn => k_is); (case rd => k_is); (case ga => k_is); (case most => k_is); (case pg => k_is); (case hd => k_is); (case po => k_is); (case sa => k_is); (case mks => k_is); (case kp => k_is); (case ha => k_is); (case hn => k_is); (case ht => k_is); (case hm => k_is)))
    (case noCF_above => k_is)
    (case kCA => (refine' ⟨?nsn, ?rd, ?ga, ?most, ?pg, ?hd, ?po, ?sa, ?mks, ?kp, ?ha, ?hn, ?ht, ?hm⟩; (case nsn => k_is); (case rd => k_is); (case ga => k_is); (case most => k_is); (case pg => k_is); (case hd => k_is); (case po => k_is); (case sa => k_is); (case mks => k_is); (case kp => k_is); (case ha => k_is); (case hn => k_is); (case ht => k_is); (case hm => k_is)))
    (case noCA_own_forest => k_is)
    (case noCA_own_places => k_is)
    (case root => k_is)
    (case cL => k_is)
    (case cT => k_is)
    (case n_bgC => k_is)
    (case u_bgC => (refine' L2.fun_mk ?l ?c ?k; (case l => k_is); (case c => k_is); (case k => k_is)))
    (case n_dtC => k_is)
    (case u_dtC => (refine' L2.fun_mk ?l ?c ?k; (case l => k_is); (case c => k_is); (case k => k_is)))
    (case n_dpC => k_is)
    (case u_dpC => (refine' L2.fun_mk ?l ?c ?k; (case l => k_is); (case c => k_is); (case k => k_is)))
    (case n_nmC => k_is)
    (case u_nmC => (refine' L2.fun_mk ?l ?c ?k; (case l => k_is); (case c => k_is); (case k => k_is)))
    (case n_trC => k_is)
    (case u_trC => (refine' L2.fun_mk ?l ?c ?k; (case l => k_is); (case c => k_is); (case k => k_is)))
    (case n_plC => k_is)
    (case u_plC => (refine' L2.fun_mk ?l ?c ?k; (case l => k_is); (case c => k_is); (case k => k_is)))
    (case n_szC => k_is)
    (case u_szC => (refine' L2.fun_mk ?l ?c ?k; (case l => k_is); (case c => k_is); (case k => k_is)))
    (case n_grC => k_is)
    (case u_grC => (refine' L2.fun_mk ?l ?c ?k; (case l => k_is); (case c => k_is); (case k => k_is)))
    (case n_spC => k_is)
    (case u_spC => (refine' L2.fun_mk ?l ?c ?k; (case l => k_is); (case c => k_is); (case k => k_is)))
    (case n_lyC => k_is)
    (case u_lyC => (refine' L2.fun_mk ?l ?c ?k; (case l => k_is); (case c => k_is); (case k => k_is)))
    (case n_phC => k_is)
    (case u_phC => (refine' L2.fun_mk ?l ?c ?k; (case l => k_is); (case c => k_is); (case k => k_is)))
    (case n_coC => k_is)
    (case u_coC => (refine' L2.fun_mk ?l ?c ?k; (case l => k_is); (case c => k_is); (case k => k_is)))
    (case n_prC => k_is)
    (case u_prC => (refine' L2.fun_mk ?l ?c ?k; (case l => k_is); (case c => k_is); (case k => k_is)))
    (case n_isn => k_is)
    (case u_isn => (refine' L2.fun_mk ?l ?c ?k; (case l => k_is); (case c => k_is); (case k => k_is)))
    (case n_isa => k_is)
    (case u_isa => (refine' L2.fun_mk ?l ?c ?k; (case l => k_is); (case c => k_is); (case k => k_is)))
    (case n_nd => k_is)
    (case u_nd => (refine' L2.fun_mk ?l ?c ?k; (case l => k_is); (case c => k_is); (case k => k_is)))
    (case n_sus => k_is)
    (case u_sus => (refine' L2.fun_mk ?l ?c ?k; (case l => k_is); (case c => k_is); (case k => k_is)))
    (case n_nflE => k_is)
    (case u_nflE => (refine' L2.fun_mk ?l ?c ?k; (case l => k_is); (case c => k_is); (case k => k_is)))
    (case n_pi => k_is)
    (case u_pi => (refine' L2.fun_mk ?l ?c ?k; (case l => k_is); (case c => k_is); (case k => k_is)))
    (case n_npE => k_is)
    (case u_npE => (refine' L2.fun_mk ?l ?c ?k; (case l => k_is); (case c => k_is); (case k => k_is)))
    (case n_jo => k_is)
    (case u_jo => (refine' L2.fun_mk ?l ?c ?k; (case l => k_is); (case c => k_is); (case k => k_is)))
    (case n_po => k_is)
    (case u_po => (refine' L2.fun_mk ?l ?c ?k; (case l => k_is); (case c => k_is); (case k => k_is)))
    (case n_np => k_is)
    (case u_np => (refine' L2.fun_mk ?l ?c ?k; (case l => k_is); (case c => k_is); (case k => k_is)))
    (case n_gof => k_is)
    (case u_gof => (refine' L2.fun_mk ?l ?c ?k; (case l => k_is); (case c => k_is); (case k => k_is)))
    (case n_ii => k_is)
    (case u_ii => (refine' L2.fun_mk ?l ?c ?k; (case l => k_is); (case c => k_is); (case k => k_is)))
    (case n_nus => k_is)
    (case u_nus => (refine' L2.fun_mk ?l ?c ?k; (case l => k_is); (case c => k_is); (case k => k_is)))
    (case n_nin => k_is)
    (case u_nin => (refine' L2.fun_mk ?l ?c ?k; (case l => k_is); (case c => k_is); (case k => k_is)))
    (case n_rnd => k_is)
    (case u_rnd => (refine' L2.fun_mk ?l ?c ?k; (case l => k_is); (case c => k_is); (case k => k_is)))
    (case n_so => k_is)
    (case u_so => (refine' L2.fun_mk ?l ?c ?k; (case l => k_is); (case c => k_is); (case k => k_is)))
    (case n_ba => k_is)
    (case u_ba => (refine' L2.fun_mk ?l ?c ?k; (case l => k_is); (case c => k_is); (case k => k_is)))
    (case n_erC => k_is)
    (case u_erC => (refine' L2.fun_mk ?l ?c ?k; (case l => k_is); (case c => k_is); (case k => k_is)))
    (case n_rfC => k_is)
    (case u_rfC => (refine' L2.funC_mk ?l ?e ?k; (case l => k_is); (case e => k_is); (case k => k_is)))
    (case t1_rfC => rfl)
    (case t2_rfC => rfl)
    (case t3_rfC => rfl)
    (case n_law => k_is)
    (case u_law => (refine' L2.fun_mk ?l ?c ?k; (case l => k_is); (case c => k_is); (case k => k_is)))
    (case m_fiN => (refine' ⟨?at_, ?fn⟩; (case at_ => k_is); (case fn => k_is)))
    (case m_ai => (refine' ⟨?at_, ?fn⟩; (case at_ => k_is); (case fn => k_is)))
    (case m_ausE => (refine' ⟨?at_, ?fn⟩; (case at_ => k_is); (case fn => k_is)))
    (case m_aatE => (refine' ⟨?at_, ?fn⟩; (case at_ => k_is); (case fn => k_is)))
    (case m_aat => (refine' ⟨?at_, ?fn⟩; (case at_ => k_is); (case fn => k_is)))
    (case m_afl => (refine' ⟨?at_, ?fn⟩; (case at_ => k_is); (case fn => k_is)))
    (case m_at => (refine' ⟨?at_, ?get, ?tak, ?rec_⟩; (case at_ => k_is); (case get => k_is); (case tak => k_is); (case rec_ => k_is)))
    (case m_af => (refine' ⟨?at_, ?get, ?tak, ?rec_⟩; (case at_ => k_is); (case get => k_is); (case tak => k_is); (case rec_ => k_is)))
    (case m_fl => (refine' ⟨?at_, ?get, ?tak, ?rec_⟩; (case at_ => k_is); (case get => k_is); (case tak => k_is); (case rec_ => k_is)))
    (case m_as => (refine' ⟨?at_, ?get, ?tak, ?rec_⟩; (case at_ => k_is); (case get => k_is); (case tak => k_is); (case rec_ => k_is)))
    (case m_ap => (refine' ⟨?at_, ?get, ?tak, ?rec_⟩; (case at_ => k_is); (case get => k_is); (case tak => k_is); (case rec_ => k_is)))
    (case u_fiN => (refine' L2.fun_mk ?l ?c ?k; (case l => k_is); (case c => k_is); (case k => k_is)))
    (case u_ai => (refine' L2.fun_mk ?l ?c ?k; (case l => k_is); (case c => k_is); (case k => k_is)))
    (case u_ausE => (refine' L2.fun_mk ?l ?c ?k; (case l => k_is); (case c => k_is); (case k => k_is)))
    (case u_aatE => (refine' L2.fun_mk ?l ?c ?k; (case l => k_is); (case c => k_is); (case k => k_is)))
    (case u_aat => (refine' L2.fun_mk ?l ?c ?k; (case l => k_is); (case c => k_is); (case k => k_is)))
    (case u_afl => (refine' L2.fun_mk ?l ?c ?k; (case l => k_is); (case c => k_is); (case k => k_is)))
    (case u_at => (refine' L2.fun_mk ?l ?c ?k; (case l => k_is); (case c => k_is); (case k => k_is)))
    (case u_af => (refine' L2.fun_mk ?l ?c ?k; (case l => k_is); (case c => k_is); (case k => k_is)))
    (case u_fl => (refine' L2.fun_mk ?l ?c ?k; (case l => k_is); (case c => k_is); (case k => k_is)))
    (case u_as => (refine' L2.fun_mk ?l ?c ?k; (case l => k_is); (case c => k_is); (case k => k_is)))
    (case u_ap => (refine' L2.fun_mk ?l ?c ?k; (case l => k_is); (case c => k_is); (case k => k_is)))
    (case rt0 => (refine' ⟨?nsn, ?at_, ?rd, ?ga, ?ini, ?hn, ?ht⟩; (case nsn => k_is); (case at_ => (refine' ⟨_, _, _, _, _, _, _, _, _, _, _, _, _, _, ?xl⟩; (case xl => rfl))); (case rd => k_is); (case ga => k_is); (case ini => k_is); (case hn => k_is); (case ht => k_is)))
    (case e_Mismatch => (refine' ⟨?nsn, ?at_, ?sa, ?ga, ?gg, ?ha, ?kC, ?no, ?ini, ?ity⟩; (case nsn => k_is); (case at_ => (refine' ⟨_, _, _, _, _, _, _, _, _, _, _, _, _, _, ?xl⟩; (case xl => rfl))); (case sa => k_is); (case ga => k_is); (case gg => k_is); (case ha => k_is); (case kC => k_is); (case no => k_is); (case ini => k_is); (case ity => k_is)))
    (case i_Mismatch => (refine' L2.fun_mk ?l ?c ?k; (case l => k_is); (case c => k_is); (case k => k_is)))
    (case e_UnknownName => (refine' ⟨?nsn, ?at_, ?sa, ?ga, ?gg, ?ha, ?kC, ?no, ?ini, ?ity⟩; (case nsn => k_is); (case at_ => (refine' ⟨_, _, _, _, _, _, _, _, _, _, _, _, _, _, ?xl⟩; (case xl => rfl))); (case sa => k_is); (case ga => k_is); (case gg => k_is); (case ha => k_is); (case kC => k_is); (case no => k_is); (case ini => k_is); (case ity => k_is)))
    (case i_UnknownName => (refine' L2.fun_mk ?l ?c ?k; (case l => k_is); (case c => k_is); (case k => k_is)))
    (case e_InvalidSizes => (refine' ⟨?nsn, ?at_, ?sa, ?ga, ?gg, ?ha, ?kC, ?no, ?ini, ?ity⟩; (case nsn => k_is); (case at_ => (refine' ⟨_, _, _, _, _, _, _, _, _, _, _, _, _, _, ?xl⟩; (case xl => rfl))); (case sa => k_is); (case ga => k_is); (case gg => k_is); (case ha => k_is); (case kC => k_is); (case no => k_is); (case ini => k_is); (case ity => k_is)))
    (case i_InvalidSizes => (refine' L2.fun_mk ?l ?c ?k; (case l => k_is); (case c => k_is); (case k => k_is)))
    (case e_InvalidForest => (refine' ⟨?nsn, ?at_, ?sa, ?ga, ?gg, ?ha, ?kC, ?no, ?ini, ?ity⟩; (case nsn => k_is); (case at_ => (refine' ⟨_, _, _, _, _, _, _, _, _, _, _, _, _, _, ?xl⟩; (case xl => rfl))); (case sa => k_is); (case ga => k_is); (case gg => k_is); (case ha => k_is); (case kC => k_is); (case no => k_is); (case ini => k_is); (case ity => k_is)))
    (case i_InvalidForest => (refine' L2.fun_mk ?l ?c ?k; (case l => k_is); (case c => k_is); (case k => k_is)))
    (case e_InvalidUsers => (refine' ⟨?nsn, ?at_, ?sa, ?ga, ?gg, ?ha, ?kC, ?no, ?ini, ?ity⟩; (case nsn => k_is); (case at_ => (refine' ⟨_, _, _, _, _, _, _, _, _, _, _, _, _, _, ?xl⟩; (case xl => rfl))); (case sa => k_is); (case ga => k_is); (case gg => k_is); (case ha => k_is); (case kC => k_is); (case no => k_is); (case ini => k_is); (case ity => k_is)))
    (case i_InvalidUsers => (refine' L2.fun_mk ?l ?c ?k; (case l => k_is); (case c => k_is); (case k => k_is)))
    (case e_UnknownUser => (refine' ⟨?nsn, ?at_, ?sa, ?ga, ?gg, ?ha, ?kC, ?no, ?ini, ?ity⟩; (case nsn => k_is); (case at_ => (refine' ⟨_, _, _, _, _, _, _, _, _, _, _, _, _, _, ?xl⟩; (case xl => rfl))); (case sa => k_is); (case ga => k_is); (case gg => k_is); (case ha => k_is); (case kC => k_is); (case no => k_is); (case ini => k_is); (case ity => k_is)))
    (case i_UnknownUser => (refine' L2.fun_mk ?l ?c ?k; (case l => k_is); (case c => k_is); (case k => k_is)))
    (case e_InvalidPlace => (refine' ⟨?nsn, ?at_, ?sa, ?ga, ?gg, ?ha, ?kC, ?no, ?ini, ?ity⟩; (case nsn => k_is); (case at_ => (refine' ⟨_, _, _, _, _, _, _, _, _, _, _, _, _, _, ?xl⟩; (case xl => rfl))); (case sa => k_is); (case ga => k_is); (case gg => k_is); (case ha => k_is); (case kC => k_is); (case no => k_is); (case ini => k_is); (case ity => k_is)))
    (case i_InvalidPlace => (refine' L2.fun_mk ?l ?c ?k; (case l => k_is); (case c => k_is); (case k => k_is)))
    (case e_InvalidText => (refine' ⟨?nsn, ?at_, ?sa, ?ga, ?gg, ?ha, ?kC, ?no, ?ini, ?ity⟩; (case nsn => k_is); (case at_ => (refine' ⟨_, _, _, _, _, _, _, _, _, _, _, _, _, _, ?xl⟩; (case xl => rfl))); (case sa => k_is); (case ga => k_is); (case gg => k_is); (case ha => k_is); (case kC => k_is); (case no => k_is); (case ini => k_is); (case ity => k_is)))
    (case i_InvalidText => (refine' L2.fun_mk ?l ?c ?k; (case l => k_is); (case c => k_is); (case k => k_is)))
    (case e_Crowded => (refine' ⟨?nsn, ?at_, ?sa, ?ga, ?gg, ?ha, ?kC, ?no, ?ini, ?ity⟩; (case nsn => k_is); (case at_ => (refine' ⟨_, _, _, _, _, _, _, _, _, _, _, _, _, _, ?xl⟩; (case xl => rfl))); (case sa => k_is); (case ga => k_is); (case gg => k_is); (case ha => k_is); (case kC => k_is); (case no => k_is); (case ini => k_is); (case ity => k_is)))
    (case i_Crowded => (refine' L2.fun_mk ?l ?c ?k; (case l => k_is); (case c => k_is); (case k => k_is)))
    (case e_InvalidNumber => (refine' ⟨?nsn, ?at_, ?sa, ?ga, ?gg, ?ha, ?kC, ?no, ?ini, ?ity⟩; (case nsn => k_is); (case at_ => (refine' ⟨_, _, _, _, _, _, _, _, _, _, _, _, _, _, ?xl⟩; (case xl => rfl))); (case sa => k_is); (case ga => k_is); (case gg => k_is); (case ha => k_is); (case kC => k_is); (case no => k_is); (case ini => k_is); (case ity => k_is)))
    (case i_InvalidNumber => (refine' L2.fun_mk ?l ?c ?k; (case l => k_is); (case c => k_is); (case k => k_is)))
    (case e_InvalidPin => (refine' ⟨?nsn, ?at_, ?sa, ?ga, ?gg, ?ha, ?kC, ?no, ?ini, ?ity⟩; (case nsn => k_is); (case at_ => (refine' ⟨_, _, _, _, _, _, _, _, _, _, _, _, _, _, ?xl⟩; (case xl => rfl))); (case sa => k_is); (case ga => k_is); (case gg => k_is); (case ha => k_is); (case kC => k_is); (case no => k_is); (case ini => k_is); (case ity => k_is)))
    (case i_InvalidPin => (refine' L2.fun_mk ?l ?c ?k; (case l => k_is); (case c => k_is); (case k => k_is)))
    (case e_NotBest => (refine' ⟨?nsn, ?at_, ?sa, ?ga, ?gg, ?ha, ?kC, ?no, ?ini, ?ity⟩; (case nsn => k_is); (case at_ => (refine' ⟨_, _, _, _, _, _, _, _, _, _, _, _, _, _, ?xl⟩; (case xl => rfl))); (case sa => k_is); (case ga => k_is); (case gg => k_is); (case ha => k_is); (case kC => k_is); (case no => k_is); (case ini => k_is); (case ity => k_is)))
    (case i_NotBest => (refine' L2.fun_mk ?l ?c ?k; (case l => k_is); (case c => k_is); (case k => k_is)))
    (case apart => decide +kernel)
    (case dist => decide +kernel)
    (case z_abs => k_is)
    (case z_len => k_is)
    (case z_rng => k_is)
    (case z_enu => k_is)
    (case z_zip => k_is)
    (case z_isi => k_is)
    (case z_all => k_is)
    (case z_srt => k_is)
    (case z_lst => k_is)
    (case z_dct => k_is)
    (case z_str => k_is)
    (case z_int => k_is)
    (case z_tup => k_is)
    (case z_sum => k_is)
    (case z_min => k_is)
    (case z_max => k_is)
    (case z_rep => k_is)
    (case z_bool => k_is)
    (case z_any => k_is)
    (case z_vE => k_is)
