import PyProof.Rows.All
import Wide.All
import OpenK.AllK
import Wide.FinOn
import PyProof.EqAt
import PyProof.EqKinds
import PyProof.TupleCall
import KE.KFromBytes
import KE.KExcIs
import HandS.ForMost
import HandS.Exc
import HandS.TryOnly
import HandS.ExcInit
import HandS.ExcIs
import HandS.ExcField
import HandS.IsInst
import HandS.ClsMeth
import HandS.Defaults
import HandS.SortKw
import HandS.More
import HandS.Nested
import PyProof.Rows.StrRules
import PyProof.Rows.SortKeyStr
import HandS.DictComp
import KE.KUnpackStar
import HandS.Flow
import HandS.Walk
import HandS.Wide
import HandS.Text
import HandS.Style
import HandS.Property
import HandS.WordsDict
import HandS.ListItems
import HandS.Finally
import HandS.WordsExc
import HandS.Dict
import HandS.SetFor
import PyProof.Rows.StrInSeq3
import HandS.Conv
import PyProof.ReprBulk
import HandS.Lambda
import HandS.EndBits
import KE.KNest
import KE.RegKIsAll
import Wide.Loose
import PySem.Challenge.RW_flagtrees_k19_whole_there_and_back
set_option Elab.async false
set_option linter.all false
set_option maxRecDepth 100000
set_option maxHeartbeats 8000000

/-! Own: an exception class over ValueError called with one keyword, `C(name=value)`. The library's lemmas (HandSPX.call_own) say it for calls without keywords; these say it for one keyword. -/
namespace FX
open PySem PySem.W PySem.Calls PyProof.Rows PySem.HandSPX
section
variable {Mo : Model} {Ar : Around} {Er : Value → Shared → Prop} {he : Heap} {ge : Array GenState} {dr : Drawn} {tk : Nat} {os : OsState}
variable {nm qn : Str} {C N : Addr} {bs bm bmB : List Value} {hdct : Bool} {sn : List Str} {sub : List Value} {ab : Bool} {col : Option Bool} {dd : Option Addr} {k0 k1 k2 k3 k5 : Option Value} {B idN idI : String}
variable {kn : Str} {kv : Value} {more : List Value}
/-- the class object of an exception class, short -/
abbrev XO (nm qn : Str) (C N : Addr) (bs bm : List Value) (hdct : Bool) (sn : List Str) (sub : List Value) (ab : Bool) (col : Option Bool) (dd : Option Addr) (k0 k1 k2 k3 k5 : Option Value) (idN : String) : Obj :=
  excClassObj nm qn C N bs bm hdct sn sub ab col dd k0 k1 k2 k3 k5 idN
abbrev SameTy (bm bmB : List Value) : Prop := ∀ T : String, bm.contains (.type T) = bmB.contains (.type T)
theorem hasT {T : String} {b : Bool} (st : SameTy bm bmB) (e : bmB.contains (.type T) = b) : (Value.ref C :: bm).contains (.type T) = b := by
  rw [List.contains_cons, st, e] <;> rfl
theorem chk_kw (F : ExcBaseFacts B idN idI bmB) (st : SameTy bm bmB) {P : Unit → Shared → Prop} (oC : he.get? C = some (XO nm qn C N bs bm hdct sn sub ab col dd k0 k1 k2 k3 k5 idN)) (fin : P () ⟨he, ge, dr, tk, os⟩) :
    wpAny Mo Ar (checkBuiltinCall idN ⟨.ref C :: more, [(kn, kv)]⟩) P Er ⟨he, ge, dr, tk, os⟩ := by
  have yes := hasT (C := C) st F.hasB
  have ns := F.noStar
  simp only [checkBuiltinCall, F.newKind, F.newSplit, F.newRow]
  repeat (first
    | refine wpAny_loadPart_at oC ?_
    | (refine wpAny_isSubtype_exc oC ?_; rw [yes])
    | refine wpAny_staticBase_exc oC ?_
    | refine wpAny_madeBy_exc oC ?_
    | simp only [bne_self_eq_false, Bool.false_eq_true, if_false]
    | wp_step)
  exact fin
end
section
variable {pg : Program} {w : World} {Ar : Around} {Er : Value → Shared → Prop} {Rs : Result → Shared → Prop} {he : Heap} {ge : Array GenState} {dr : Drawn} {tk : Nat} {os : OsState}
variable {nm qn : Str} {C N fI : Addr} {bs bm bmB : List Value} {hdct : Bool} {sn : List Str} {sub : List Value} {ab : Bool} {col : Option Bool} {dd : Option Addr} {k0 k1 k2 k3 k5 : Option Value} {B idN idI : String}
variable {kn : Str} {kv : Value} {more : List Value}
/-- the heap with the new exception -/
abbrev withX (he : Heap) (C : Addr) (more : List Value) : Heap := (he.push (W.kdv_tup more)).push (excO C he.objs.size)
theorem new_kw (F : ExcBaseFacts B idN idI bmB) (st : SameTy bm bmB) (oC : he.get? C = some (XO nm qn C N bs bm hdct sn sub ab col dd k0 k1 k2 k3 k5 idN)) (sz : more.length ≤ sizeLine)
    (fin : Rs (.ok (.ret (.ref (he.objs.size + 1)))) ⟨withX he C more, ge, dr, tk, os⟩) : codeAny (model pg w) Ar (.builtin idN ⟨.ref C :: more, [(kn, kv)]⟩) Rs ⟨he, ge, dr, tk, os⟩ := by
  have ends := F.ends
  have yes := hasT (C := C) st F.hasB
  have noA := hasT (C := C) st F.noAttr
  have noN := hasT (C := C) st F.noName
  refine codeAny_builtinAt F.entry ?_
  unfold Builtin.«BaseException.__new__»
  refine PySem.wpAt_bind ?_
  show PySem.wpAt _ _ _ (stack >>= _) _ _ _
  refine PySem.wpAt_bind (PySem.wpAt_stack fun _ _ => PySem.wpAt_of_wpAny ?_)
  wp_walk
  refine PySem.wpAt_of_wpAny ?_
  rw [F.owner]
  repeat (first
    | with_reducible refine wpAny_madeHere_exc F.canon oC ?_
    | with_reducible refine wpAny_loadPart_at oC ?_
    | (with_reducible refine wpAny_isSubtype_exc oC ?_; first | rw [yes] | rw [noA] | rw [noN])
    | wp_step)
  show Rs _ _
  rw [Heap.size_push]
  exact fin
theorem tcall_kw (F : ExcBaseFacts B idN idI bmB) (st : SameTy bm bmB) {P : Fin → Shared → Prop} (oC : he.get? C = some (XO nm qn C N bs bm hdct sn sub ab col dd k0 k1 k2 k3 k5 idN)) (sz : more.length ≤ sizeLine)
    (li : W.Looks (model pg w) he (typeLookup (.ref C) "__init__") (some (.ref fI))) (lb : ∀ me, W.Looks (model pg w) he (bindSpecial (.ref fI) me) (.ref fI, [me]))
    (fin : codeAny (model pg w) Ar (.call (.ref fI) ⟨.ref (he.objs.size + 1) :: more, [(kn, kv)]⟩) (fun r z => match r with | .ok (.ret v) => v = .none ∧ P (.done (.ret (.ref (he.objs.size + 1)))) z | .ok _ => False | .error e => Er e z)
      ⟨withX he C more, ge, dr, tk, os⟩) : wpAny (model pg w) Ar (Builtin.«type.__call__» ⟨.ref C :: more, [(kn, kv)]⟩) P Er ⟨he, ge, dr, tk, os⟩ := by
  repeat (first
    | with_reducible refine wpAny_loadPart_at oC ?_
    | with_reducible refine wpAny_madeBy_exc oC ?_
    | wp_step)
  refine codeAny_call_builtin_code (Code.quiet_builtin _ F.quiet) (chk_kw F st oC (new_kw F st oC sz ?_))
  show wpAny _ _ _ _ _ _
  have kept : ∀ b o, he.get? b = some o → (withX he C more).get? b = some o := fun _ _ q => Heap.get?_push_of_some _ (Heap.get?_push_of_some _ q)
  have oC2 := kept _ _ oC
  have oX : (withX he C more).get? (he.objs.size + 1) = some (excO C he.objs.size) := by heap_get
  have self : (Value.ref C :: bm).contains (.ref C) = true := by simp
  have li2 := li.keeps kept
  have lb2 := (lb (.ref (he.objs.size + 1))).keeps kept
  unfold isInstance
  repeat (first
    | with_reducible refine wpAny_loadPart_at oX ?_
    | (with_reducible refine wpAny_isSubtype_exc oC2 ?_; rw [self])
    | wp_step)
  show wpAny _ _ (typeLookup (.ref C) _) _ _ _
  refine li2.at (wpAny_holding (wpAny_bind (lb2.at ?_)))
  refine wpAny_bind (wpAny_call (codeAny_mono fin fun r z q => ?_))
  rcases r with _ | (_ | _ | _ | _) <;> first | exact q | exact q.elim | skip
  obtain ⟨rfl, q⟩ := q
  first
    | exact wpAny_pure (wpAny_pure q)
    | (wp_walk; exact q)
theorem call_kw (F : ExcBaseFacts B idN idI bmB) (st : SameTy bm bmB) (oC : he.get? C = some (XO nm qn C N bs bm hdct sn sub ab col dd k0 k1 k2 k3 k5 idN)) (sz : more.length ≤ sizeLine)
    (li : W.Looks (model pg w) he (typeLookup (.ref C) "__init__") (some (.ref fI))) (lb : ∀ me, W.Looks (model pg w) he (bindSpecial (.ref fI) me) (.ref fI, [me]))
    (fin : codeAny (model pg w) (Ar.under (.builtin "type.__call__" ⟨.ref C :: more, [(kn, kv)]⟩)) (.call (.ref fI) ⟨.ref (he.objs.size + 1) :: more, [(kn, kv)]⟩) (W.InitBack (he.objs.size + 1) Rs) ⟨withX he C more, ge, dr, tk, os⟩) :
    codeAny (model pg w) Ar (.call (.ref C) ⟨more, [(kn, kv)]⟩) Rs ⟨he, ge, dr, tk, os⟩ := by
  have l1 := tc_lookup
  have l2 := tc_bind (.ref C)
  have ty : (⟨he, ge, dr, tk, os⟩ : Shared).TypeIs (.ref C) "type" := ⟨_, oC, rfl⟩
  refine codeAny_of_tree (show wpAny _ _ (callAny (.ref C) _) _ _ _ from ?_)
  repeat (any_goals (first
    | assumption
    | with_reducible refine wpAny_loadPart_at oC ?_
    | wp_step))
  refine ⟨rfl, codeAny_call_builtin_at (Code.quiet_builtin _ (by decide +kernel)) entry_typeCall (wpAny_check_type_call_sub oC (tcall_kw F st oC sz li lb (codeAny_mono fin fun r z q => ?_)))⟩
  rcases r with _ | (_ | _ | _ | _) <;> exact q
end
end FX


namespace L2
open PySem PySem.Spec PyProof.Rows
/-- what the written part says of an own exception class over ValueError -/
structure XCls (K : PySem.W.Frag) (C : Addr) : Prop where
  cls : ∃ nm q N bs bm sn sub ab col dd k0 k1 k2 k3 k5, K.lookup C = some (excClassObj nm q C N bs bm true sn sub ab col dd k0 k1 k2 k3 k5 "ValueError.__new__") ∧ PySem.HandSPX.refsVE bm = true
  sa : PySem.W.findIn K (.ref C) "__setattr__" = some (some (.builtin "object.__setattr__"))
  exC : PySem.W.subIn K (.ref C) (.type "BaseException") = some true
  tyC : PySem.W.typeIn K (.ref C) = some (.type "type")
  kC : PySem.W.keepIn K (.ref C) = true
  ga : PySem.W.findIn K (.ref C) "__getattribute__" = some (some (.builtin "BaseException.__getattribute__"))
  gg : PySem.W.findIn K (.ref C) "__getattr__" = some none
  hdC : PySem.W.hasDictIn K C = true
  ha : PySem.W.findIn K (.ref C) "__class__" = some (some (.builtin "object.__class__"))
  hn : PySem.W.specialIn K (.builtin "object.__class__") "__get__" = some (some (.builtin "getset_descriptor.__get__"))
  ht : PySem.W.takesIn K (.builtin "object.__class__") = some true
  hm : PySem.W.mroIn K C (.type "object") = some true
theorem XCls.oex {K : PySem.W.Frag} {C : Addr} (c : XCls K C) : OexC K C := ⟨c.cls, c.sa, c.exC, c.tyC, c.kC⟩
/-- an exception object at a, by class and dict, its fields not told -/
def exg (a C : Addr) (d : Option Addr) : HO := .ext fun h => ∃ vs sl, h.get? a = some ({ cls := .ref C, dict := d, data := .fields vs, slots := sl } : Obj)
theorem exg_ok {P : Program} {w : World} {H : Hp} {h : Heap} {e C : Addr} {d : Option Addr} {vs : Array Value} {sl : Array (Option Value)} (he : h.get? e = some ({ cls := .ref C, dict := d, data := .fields vs, slots := sl } : Obj)) : ObjOk P w H h e (exg e C d) :=
  ⟨⟨vs, sl, he⟩, ⟨_, he⟩, fun h1 h2 z k => by
    obtain ⟨vs, sl, q⟩ := z
    exact ⟨vs, sl, k _ q⟩⟩
def XAt (H : Hp) (a C : Addr) (d : Option Addr) : Prop := H a = some (exo a C d) ∨ H a = some (exg a C d)
theorem XAt.obj {P : Program} {w : World} {H : Hp} {h : Heap} {a C : Addr} {d : Option Addr} (x : XAt H a C d) (hok : HOk P w H h) : ∃ ox vs, h.get? a = some ox ∧ ox.cls = .ref C ∧ ox.dict = d ∧ ox.data = .fields vs := by
  rcases x with e | e
  · obtain ⟨t1, q⟩ := exo_at hok e
    exact ⟨_, _, q, rfl, rfl, rfl⟩
  · have z : ObjOk P w H h a (.ext fun h => ∃ vs sl, h.get? a = some ({ cls := .ref C, dict := d, data := .fields vs, slots := sl } : Obj)) := hok a _ e
    obtain ⟨⟨vs, sl, q⟩, _⟩ := z
    exact ⟨_, vs, q, rfl, rfl, rfl⟩
def XD (H : Hp) (dx : Addr) (fs : List (Str × V)) : Prop := H dx = some (exd dx fs) ∨ H dx = some (.xd fs)
theorem XD.at {P : Program} {w : World} {H : Hp} {h : Heap} {dx : Addr} {fs : List (Str × V)} (x : XD H dx fs) (hok : HOk P w H h) : ∃ mA, h.Ns1 dx mA ∧ ∀ f, RelO (fs.lookup f) (mA f) := by
  rcases x with e | e
  · exact exd_at hok e
  · have z : ObjOk P w H h dx (.xd fs) := hok dx _ e
    exact z
/-- an exception of the class at C stands at a; its attributes are fs -/
def XV (H : Hp) (a C : Addr) (fs : List (Str × V)) : Prop := (XAt H a C none ∧ fs = []) ∨ ∃ dx, XAt H a C (some dx) ∧ XD H dx fs
theorem XV.inst {P : Program} {w : World} {H : Hp} {h : Heap} {a C : Addr} {fs : List (Str × V)} (x : XV H a C fs) (hok : HOk P w H h) : ∃ ox od, PySem.W.InstAt h a ox C od := by
  rcases x with ⟨x, _⟩ | ⟨dx, x, y⟩
  · obtain ⟨ox, vs, e1, e2, e3, e4⟩ := x.obj hok
    exact ⟨ox, none, e1, e2, by unfold PySem.W.notCls; rw [e4] <;> rfl, by rw [e3]; trivial⟩
  · obtain ⟨ox, vs, e1, e2, e3, e4⟩ := x.obj hok
    obtain ⟨mA, hn, hr⟩ := y.at hok
    obtain ⟨od, ho, hl⟩ := lookIn_ns hn
    exact ⟨ox, some od, e1, e2, by unfold PySem.W.notCls; rw [e4] <;> rfl, by rw [e3]; exact ho⟩
theorem XV.look {P : Program} {w : World} {H : Hp} {h : Heap} {a C : Addr} {fs : List (Str × V)} {f : Str} {v : V} (x : XV H a C fs) (hok : HOk P w H h) (hl : fs.lookup f = some v) :
    ∃ ox od u, PySem.W.InstAt h a ox C (some od) ∧ PySem.W.lookIn f od = some (some u) ∧ RelV v u := by
  rcases x with ⟨_, e⟩ | ⟨dx, x, y⟩
  · rw [e] at hl
    cases hl
  · obtain ⟨ox, vs, e1, e2, e3, e4⟩ := x.obj hok
    obtain ⟨mA, hn, hr⟩ := y.at hok
    obtain ⟨od, ho, hk⟩ := lookIn_ns hn
    obtain ⟨u, hu, ru⟩ := RelO.some_of (v := v) (o := mA f) (by rw [← hl]; exact hr f)
    exact ⟨ox, od, u, ⟨e1, e2, by unfold PySem.W.notCls; rw [e4] <;> rfl, by rw [e3]; exact ho⟩, by rw [hk, hu], ru⟩

section
variable {X : Cx}
/-- isinstance(e, c), e an exception of an own class -/
def rIsX (K : PySem.W.Frag) : List V → Hp → VK → Prop := fun xs H Q => ∃ (a C : Addr) (fs : List (Str × V)) (c : V) (u : Value) (b : Bool), xs = [.ref a, c] ∧ ClsV c u ∧ XCls K C ∧ XV H a C fs ∧ PySem.W.kitOne K (.ref C) u = some b ∧ Q (.bl b) H
theorem call_isX : CallR X (.builtin "isinstance") (rIsX X.K) := by
  intro pins s σ H xs us Q I r h
  obtain ⟨a, C, fs, c, u, b, rfl, k, T, xv, e, q⟩ := h
  obtain ⟨u1, u2, rfl, r1, r2⟩ := vals2 r
  have e2 := k.eq r2
  subst e2
  obtain rfl : u1 = Value.ref a := r1
  obtain ⟨ox, od, J⟩ := xv.inst I.hok
  have hcl : (PySem.W.clsIn X.K C).isSome = true := by
    obtain ⟨cd, hc, _⟩ := PySem.W.any_some T.hdC
    rw [hc] <;> rfl
  exact PySem.W.kia_one (PySem.W.kitx_exc hcl T.ga T.gg T.exC T.ha T.hn T.ht T.hm) I.kIn J e (fun z => nomatch z) fun tk => ⟨.bl b, H, I.tok tk, rfl, q⟩
/-- e.f -/
def tXFld (K : PySem.W.Frag) (te : TE) (f : Str) : TE := fun σ H Q => te σ H fun x H1 => ∃ (a C : Addr) (fs : List (Str × V)) (v : V), x = .ref a ∧ XV H1 a C fs ∧ XCls K C ∧ PySem.W.findIn K (.ref C) f = some none ∧ fs.lookup f = some v ∧ Q v H1
theorem pe_xfld {e : Expr} {te : TE} {pos : Pos} {n : Str} (he : PE X e te) (hb : attributeBase e n X.env (eval e X.env) = eval e X.env := by rfl) : PE X (.Attribute e n pos) (tXFld X.K te n) := by
  refine ⟨fun pins s σ H Q I h => ?_⟩
  refine attr_of hb (thn (he.run pins s σ H _ I h) fun u s1 hh => ?_)
  obtain ⟨x, H1, I1, rx, a, C, fs, v, ex, xv, T, hno, hl, q⟩ := hh
  subst ex
  obtain rfl : u = Value.ref a := rx
  obtain ⟨ox, od, u, J, hk, ru⟩ := xv.look I1.hok hl
  exact HandSPX.exc_get I1.kIn J T.ga T.gg T.exC (PySem.W.findObj_own T.hdC hno rfl hk) (handed_of ru) ⟨v, H1, I1.tok _, ru, q⟩
/-- R.__init__(self, ..), R an own class whose __init__ is ValueError's -/
structure XIni (K : PySem.W.Frag) (R : Addr) : Prop where
  rd : PySem.W.readsIn K R (.type "type") = true
  ga : PySem.W.specialIn K (.ref R) "__getattribute__" = some (some (.builtin "type.__getattribute__"))
  at_ : PySem.W.findCls K (.ref R) (.type "type") "__init__" = some (.val (.builtin "ValueError.__init__"))
theorem pe_clsinit {R : Addr} {rn : Str} {e : Expr} {es : List Expr} {ta : TA} {p1 p2 pos : Pos} {pl : Sem Bool} (T0 : XIni X.K R) (hg : Gl X rn) (hm : X.mg rn = some (.ref R)) (ha : PA X (e :: es) ta)
    (hdb : (rn == ("__debug__" : Str)) = false := by decide)
    (hc : eval (.Call (.Attribute (.Name rn p1) "__init__" p2) (e :: es) [] pos) X.env = (do
      let ov ← eval (.Name rn p1) X.env
      standAt p2.atName
      let (f, first) ← holding [ov] (getMethod ov "__init__" pl)
      callWith pos f first (backTo pos (starEach (e :: es) X.env)) (backToKw pos (keywordEach [] X.env))) := by rfl)
    (he : starEach (e :: es) X.env = (false, eval e X.env) :: starEach es X.env := by rfl) (hpl : (backTo pos (starEach es X.env)).any (·.1) = false := by rfl) :
    PE X (.Call (.Attribute (.Name rn p1) "__init__" p2) (e :: es) [] pos) (tVeI X.K ta) := by
  refine ⟨fun pins s σ H Q I h => ?_⟩
  refine PySem.W.methodCall_KW (ld_glob I hg hm ?_ hdb) hc
  refine PySem.W.method_cls I.kIn T0.ga (PySem.W.cls_value I.kIn T0.rd T0.at_ rfl ?_)
  show wpAny _ _ (callWith pos (Value.builtin "ValueError.__init__") [] (backTo pos (starEach (e :: es) X.env)) []) _ _ _
  refine PyProof.Rows.callWith_method1 (thn (ha.run pos pins _ σ H _ (I.tok _) h) fun us s1 ⟨vs, H1, I1, r1, a, C, ws, ev, hl, T, ea, q⟩ => ?_) he hpl
  subst ev
  cases r1 with
  | @cons _ u0 _ ur ra rw' =>
    obtain rfl : u0 = Value.ref a := ra
    have hlen : ur.length ≤ sizeLine := by
      rw [← Paired.length rw', sizeLine_eq]
      omega
    exact oinit_ok T I1 ea hlen fun s' J => ⟨.non, H1, J, rfl, q⟩

/-! ### C(..) as a value -/
variable {CX : CXT} {C fI : Addr} {k : Nat} {fd : FuncData} {ps : List Str} {sp : Sp} {ds : List Value} {dvs : List V} {E : XK}
/-- the state with a new exception of C laid, its arguments at the heap's end -/
theorem Inv.xnew {pins : List (Addr × Obj)} {σ : St} {H : Hp} {hp : Heap} {gn : Array GenState} {dr : Drawn} {tk : Nat} {os : OsState} (C : Addr) (us : List Value) (I : Inv X pins σ H ⟨hp, gn, dr, tk, os⟩) :
    H (hp.objs.size + 1) = none ∧ Inv X pins σ (upd H (hp.objs.size + 1) (exo (hp.objs.size + 1) C none)) ⟨FX.withX hp C us, gn, dr, tk, os⟩ := by
  have le : hp.objs.size ≤ hp.objs.size + 1 := Nat.le_succ _
  have at_ : (FX.withX hp C us).get? (hp.objs.size + 1) = some (PySem.HandSPX.excO C hp.objs.size) := by heap_get
  exact ⟨I.hok.fresh le, I.laid (t' := tk) (h' := FX.withX hp C us) (fun _ _ z => Heap.get?_push_of_some _ (Heap.get?_push_of_some _ z)) le (exo_ok at_)⟩
/-- behind __init__: its answer is None, the call's answer the new object -/
theorem xback {pins : List (Addr × Obj)} {σ : St} {H : Hp} {s s' : Shared} {a : Addr} {Q : VK} {r : Result} (hx : Passes CX X E) (I : Inv X pins σ H s)
    (z : CR CX X.stack X.prog X.w H s (fun v H2 => v = .non ∧ Q (.ref a) H2) E r s') : PySem.W.InitBack a (fun r s' => match r with | .ok (.ret u) => EP X pins σ Q u s' | .ok _ => False | .error e => X.xe e s') r s' := by
  match r, z with
  | .error er, z => exact hx pins σ H s er s' I z
  | .ok (.ret u), z =>
    obtain ⟨v, H2, J, rv, ev, q⟩ := I.after z
    subst ev
    exact ⟨rv, .ref a, H2, J, rfl, q⟩
  | .ok .next, z => exact z.elim
  | .ok .brk, z => exact z.elim
  | .ok .cont, z => exact z.elim
theorem run_mkx {pins : List (Addr × Obj)} {σ : St} {H1 : Hp} {s : Shared} {Q : VK} {us : List Value} {vs : List V} (T : OexC X.K C) (iC : PySem.W.findIn X.K (.ref C) "__init__" = some (some (.ref fI))) (tI : PySem.W.typeIn X.K (.ref fI) = some (.type "function"))
    (F1 : FnOk X.prog X.w X.K X.mg X.base CX k fI fd ps sp) (hr : Room (k + 1) X.A) (hb : Binds X.K fd ps ds) (hd : Vals dvs ds) (hx : Passes CX X E) (I1 : Inv X pins σ H1 s) (r1 : Vals vs us) (hz : vs.length ≤ 1000)
    (q1 : ∀ a, H1 a = none → sp (.ref a :: (vs ++ dvs)) (upd H1 a (exo a C none)) (fun v H2 => v = .non ∧ Q (.ref a) H2) E) :
    wpAny (model X.prog X.w) X.A (call (.ref C) us) (EP X pins σ Q) X.xe s := by
  obtain ⟨_, _, _, _, bm, _, _, _, _, _, _, _, _, _, _, oC, tail⟩ := T.cls
  obtain ⟨hp, gn, dr, tk, os⟩ := s
  obtain ⟨new, J⟩ := Inv.xnew C us I1
  have want := q1 _ new
  have rel : Vals (V.ref (hp.objs.size + 1) :: (vs ++ dvs)) (Value.ref (hp.objs.size + 1) :: (us ++ ds)) := .cons rfl (r1.append hd)
  have len : (Value.ref (hp.objs.size + 1) :: us ++ ds).length = ps.length := rel.length.symm.trans (F1.len _ _ _ _ want)
  have few : us.length ≤ sizeLine := by
    have := r1.length
    rw [sizeLine_eq]; omega
  have go := F1.run _ X.stack _ _ ⟨Value.ref (hp.objs.size + 1) :: us, []⟩ (Value.ref (hp.objs.size + 1) :: (us ++ ds)) _ _ E (hr.make C us []) (J.env0.make C us []) (hb _ (Value.ref (hp.objs.size + 1) :: us) J.kIn len) rel want
  exact wpAny_call (PySem.HandSPX.call_own F.excBase_ValueError (fun Y => PySem.HandSPX.refsVE_contains Y bm tail) (I1.kIn _ _ oC) (PySem.W.looks_findIn I1.kIn iC) (fun me => PySem.W.bind_fn I1.kIn me tI) few (codeAny_mono go fun r z q => xback hx J q))
theorem run_mkxK {pins : List (Addr × Obj)} {σ : St} {H1 : Hp} {s : Shared} {Q : VK} {u : Value} {v : V} {kn : Str} {g : List Value → List Value → List Value} {gV : List V → List V → List V} (T : OexC X.K C) (iC : PySem.W.findIn X.K (.ref C) "__init__" = some (some (.ref fI))) (tI : PySem.W.typeIn X.K (.ref fI) = some (.type "function"))
    (F1 : FnOk X.prog X.w X.K X.mg X.base CX k fI fd ps sp) (hr : Room (k + 1) X.A) (hb : KBn X.K fd ps 1 [kn] g gV) (hx : Passes CX X E) (I1 : Inv X pins σ H1 s) (r1 : RelV v u)
    (q1 : ∀ a, H1 a = none → sp (gV [.ref a] [v]) (upd H1 a (exo a C none)) (fun v H2 => v = .non ∧ Q (.ref a) H2) E) :
    wpAny (model X.prog X.w) X.A (call (.ref C) [] [(kn, u)]) (EP X pins σ Q) X.xe s := by
  obtain ⟨_, _, _, _, bm, _, _, _, _, _, _, _, _, _, _, oC, tail⟩ := T.cls
  obtain ⟨hp, gn, dr, tk, os⟩ := s
  obtain ⟨new, J⟩ := Inv.xnew C [] I1
  have rel : Vals (gV [V.ref (hp.objs.size + 1)] [v]) (g [Value.ref (hp.objs.size + 1)] [u]) := hb.rel (.cons rfl .nil) (.cons r1 .nil)
  have go := F1.run _ X.stack _ _ ⟨[Value.ref (hp.objs.size + 1)], [(kn, u)]⟩ (g [Value.ref (hp.objs.size + 1)] [u]) _ _ E (hr.make C [] [(kn, u)]) (J.env0.make C [] [(kn, u)]) (hb.to _ [Value.ref (hp.objs.size + 1)] [u] J.kIn rfl rfl) rel (q1 _ new)
  exact wpAny_call (FX.call_kw F.excBase_ValueError (fun Y => PySem.HandSPX.refsVE_contains Y bm tail) (I1.kIn _ _ oC) (Nat.zero_le _) (PySem.W.looks_findIn I1.kIn iC) (fun me => PySem.W.bind_fn I1.kIn me tI) (codeAny_mono go fun r z q => xback hx J q))
/-- C(e, ..) as a value; C's own __init__ keeps sp -/
def tMkX (C : Addr) (sp : Sp) (dvs : List V) (E : XK) (ta : TA) : TE := fun σ H Q => ta σ H fun vs H1 => vs.length ≤ 1000 ∧ ∀ a, H1 a = none → sp (.ref a :: (vs ++ dvs)) (upd H1 a (exo a C none)) (fun v H2 => v = .non ∧ Q (.ref a) H2) E
def tMkXK (C : Addr) (sp : Sp) (gV : List V → List V → List V) (E : XK) (te : TE) : TE := fun σ H Q => te σ H fun v H1 => ∀ a, H1 a = none → sp (gV [.ref a] [v]) (upd H1 a (exo a C none)) (fun v H2 => v = .non ∧ Q (.ref a) H2) E
variable {x : Str} {e : Expr} {es : List Expr} {ta : TA} {te : TE} {p pos kpos : Pos}
theorem pe_mkx (T : XCls X.K C) (iC : PySem.W.findIn X.K (.ref C) "__init__" = some (some (.ref fI))) (tI : PySem.W.typeIn X.K (.ref fI) = some (.type "function"))
    (F1 : FnOk X.prog X.w X.K X.mg X.base CX k fI fd ps sp) (hr : Room (k + 1) X.A) (hg : Gl X x) (hm : X.mg x = some (.ref C)) (hb : Binds X.K fd ps ds) (hd : Vals dvs ds) (hx : Passes CX X E) (ha : PA X (e :: es) ta)
    (hdb : (x == ("__debug__" : Str)) = false := by decide) (he : starEach (e :: es) X.env = (false, eval e X.env) :: starEach es X.env := by rfl) (hpl : (backTo pos (starEach es X.env)).any (·.1) = false := by rfl) :
    PE X (.Call (.Name x p) (e :: es) [] pos) (tMkX C sp dvs E ta) := by
  refine ⟨fun pins s σ H Q I h => ?_⟩
  refine wpAny_Call_Name_kw (ld_glob I hg hm ?_ hdb)
  refine PySem.W.callWith_K (h₀ := X.base) I.ok.mod.kin T.kC (thn (ha.run pos pins s σ H _ I h) fun us s1 ⟨vs, H1, I1, r, hz, q⟩ => ⟨I1.kIn, ?_⟩) he hpl
  exact run_mkx T.oex iC tI F1 hr hb hd hx I1 r hz q
theorem pe_mkx0 (T : XCls X.K C) (iC : PySem.W.findIn X.K (.ref C) "__init__" = some (some (.ref fI))) (tI : PySem.W.typeIn X.K (.ref fI) = some (.type "function"))
    (F1 : FnOk X.prog X.w X.K X.mg X.base CX k fI fd ps sp) (hr : Room (k + 1) X.A) (hg : Gl X x) (hm : X.mg x = some (.ref C)) (hb : Binds X.K fd ps ds) (hd : Vals dvs ds) (hx : Passes CX X E)
    (hdb : (x == ("__debug__" : Str)) = false := by decide) : PE X (.Call (.Name x p) [] [] pos) (tMkX C sp dvs E tNil) := by
  refine ⟨fun pins s σ H Q I h => ?_⟩
  refine wpAny_Call_Name_kw (ld_glob I hg hm ?_ hdb)
  exact PySem.W.callWith_K0 I.kIn T.kC (run_mkx (us := []) T.oex iC tI F1 hr hb hd hx I .nil h.1 h.2)
theorem pe_mkxK {kn : Str} {g : List Value → List Value → List Value} {gV : List V → List V → List V} (T : XCls X.K C) (iC : PySem.W.findIn X.K (.ref C) "__init__" = some (some (.ref fI))) (tI : PySem.W.typeIn X.K (.ref fI) = some (.type "function"))
    (F1 : FnOk X.prog X.w X.K X.mg X.base CX k fI fd ps sp) (hr : Room (k + 1) X.A) (hg : Gl X x) (hm : X.mg x = some (.ref C)) (hb : KBn X.K fd ps 1 [kn] g gV) (hx : Passes CX X E) (he : PE X e te)
    (hall : (backToKw pos (keywordEach [⟨some kn, e, kpos⟩] X.env)).all (·.1.isSome) = true := by rfl) (hks : (backToKw pos (keywordEach [⟨some kn, e, kpos⟩] X.env)).filterMap (·.1) = [kn] := by rfl) (hdb : (x == ("__debug__" : Str)) = false := by decide)
    (hpl : ((backTo pos (starEach [] X.env)).any (·.1) || (backToKw pos (keywordEach [⟨some kn, e, kpos⟩] X.env)).any (·.1.isNone)) = false := by rfl) :
    PE X (.Call (.Name x p) [] [⟨some kn, e, kpos⟩] pos) (tMkXK C sp gV E te) := by
  refine ⟨fun pins s σ H Q I h => ?_⟩
  refine wpAny_Call_Name_kw (ld_glob I hg hm ?_ hdb)
  refine PySem.W.callWith_KW0 (h₀ := X.base) I.ok.mod.kin T.kC hall ?_ hpl
  refine wpAny_evalAll_cons (wpAny_bind (thn (he.run pins s σ H _ I h) fun u s1 ⟨v, H1, I1, r1, q1⟩ => wpAny_bind (wpAny_standAt (wpAny_pure (wpAny_evalAll_nil ⟨I1.kIn, ?_⟩)))))
  rw [hks]
  exact run_mkxK T.oex iC tI F1 hr hb hx I1 r1 q1
end
end L2


/-! try: .. except C as n: .., the caught exception known behind the try -/
namespace L2
open PySem PySem.Spec PyProof.Rows
section
variable {X : Cx} {pins : List (Addr × Obj)} {σ : St} {H : Hp} {s : Shared}
/-- an object that stands there is known from now on; the entry had none at its place -/
theorem Inv.known {a : Addr} {o : HO} (I : Inv X pins σ H s) (hn : H a = none) (h0 : X.s_0.heap.get? a = none) (hL : a ≠ X.env.locals) (h2 : ∀ x c, X.env.cells.lookup x = some c → c ≠ a) (h3 : ∀ p ∈ X.pn ++ pins, p.1 ≠ a)
    (new : ObjOk X.prog X.w (upd H a o) s.heap a o) : Inv X pins σ (upd H a o) s := by
  have nit : ∀ b u, H b = some u → b ≠ a := fun b u e z => by rw [z, hn] at e; cases e
  refine ⟨I.ok, I.os, I.bare, ⟨I.base.keep, I.base.slot, fun b o e n hx => ?_, I.base.there, fun b xs e => ?_, fun b o xs e => ?_, fun b ps e => ?_⟩, I.loc, I.cell, ?_, fun x c e => ?_, fun p hp => ?_, fun b u e => ?_, I.len⟩
  · rw [upd_ne (fun z => by rw [z, h0] at e; cases e)]
    exact I.base.free b o e n hx
  · have q := I.base.tups b xs e
    rw [upd_ne (nit b _ q)]
    exact q
  · have q := I.base.frzs b o xs e
    rw [upd_ne (nit b _ q)]
    exact q
  · obtain ⟨m, q⟩ := I.base.tbls b ps e
    exact ⟨m, by rw [upd_ne (nit b _ q)]; exact q⟩
  · rw [upd_ne (Ne.symm hL)]
    exact I.free
  · rw [upd_ne (h2 x c e)]
    exact I.freeC x c e
  · obtain ⟨e, n, r⟩ := I.pin p hp
    exact ⟨e, by rw [upd_ne (h3 p hp)]; exact n, r⟩
  · by_cases hb : b = a
    · subst hb
      rw [upd_same] at e
      cases e
      exact new
    · rw [upd_ne hb] at e
      exact (I.hok b u e).stay (fun c v hc q => q) (fun c q => by rw [upd_ne (nit c _ q)]; exact q) fun c _ q => by rw [upd_ne (nit c _ q)]; exact q
end
/-- what a landed exception is: its object, where it does not lie -/
structure Landed (X : Cx) (pins : List (Addr × Obj)) (σ : St) (H : Hp) (a C : Addr) (d : Option Addr) (h : Heap) (s : Shared) : Prop where
  inv : Inv X pins σ H { s with heap := h }
  obj : ∃ vs sl, h.get? a = some ({ cls := .ref C, dict := d, data := .fields vs, slots := sl } : Obj)
  free : H a = none
  entry : X.s_0.heap.get? a = none
  loc : a ≠ X.env.locals
  fs : a ∉ X.fs
  pin : ∀ p ∈ X.pn ++ pins, p.1 ≠ a
theorem Landed.of {X : Cx} {pins : List (Addr × Obj)} {σ : St} {H : Hp} {a C : Addr} {d : Option Addr} {h B : Heap} {s sI : Shared} (hs : X.stack = X.env :: X.outer) (hf : X.env.frame = some X.env.locals) (hex : X.ex = []) (J : Inv X pins σ H sI) (na : H a = none)
    (nb : ∀ b o, sI.heap.get? b = some o → b ∉ frs X.stack → B.get? b = some o) (hB : B.get? a = none) (ff : h.FunFrames B (X.env :: X.outer)) (there : ∃ oe vs, h.get? a = some oe ∧ Zc (.ref C) d oe ∧ oe.data = .fields vs) (K : Inv X pins σ H { s with heap := h }) : Landed X pins σ H a C d h s := by
  obtain ⟨⟨oc, od, odt, osl⟩, ws, at_, ⟨z1, z2⟩, z3⟩ := there
  have off : a ∉ frs (X.env :: X.outer) := fun hm => by
    obtain ⟨_, u, hu, plain⟩ := ff.mem hm
    rw [at_] at hu
    exact plain ws (by rw [← Option.some.inj hu]; exact z3)
  have out : sI.heap.get? a = none := by
    cases q : sI.heap.get? a with
    | none => rfl
    | some o => exact absurd (nb a o q (by rw [hs]; exact off)) (by rw [hB]; simp)
  refine ⟨K, ⟨ws, osl, ?_⟩, na, ?_, fun z => off (List.mem_filterMap.mpr ⟨X.env, .head _, by rw [hf, z]⟩), fun hm => ?_, fun p hp z => ?_⟩
  · dsimp only at z1 z2 z3
    rw [at_, z1, z2, z3]
  · cases q : X.s_0.heap.get? a with
    | none => rfl
    | some o =>
      obtain ⟨_, q2⟩ := J.base.there a o q (by rw [hex]; simp)
      rw [out] at q2
      cases q2
  · obtain ⟨e, m, q⟩ := List.mem_filterMap.mp hm
    exact off (List.mem_filterMap.mpr ⟨e, .tail _ m, q⟩)
  · have q := (J.pin p hp).1
    rw [z, out] at q
    cases q
/-- what is wanted of an exception in the try: as wAs, but behind the suite the exception is known -/
def wAsK (K : PySem.W.Frag) (c : Value) (i : Nat) (ts : Addr → Value → Option Addr → TS) (Wout : WX) (D : Ends) : WX := fun cls d σ H => ∃ b C, cls = Value.ref C ∧ PySem.W.exmOne K cls c = some b ∧
  (b = true → ∀ a, H a = none → ts a cls d ⟨fun σ' H' => D.nx (σ'.set i none) (upd H' a (exg a C d)), D.rt, fun σ' H' => D.bk (σ'.set i none) H', fun σ' H' => D.ct (σ'.set i none) H'⟩ (σ.set i (some (.ref a))) H) ∧ (b = false → Wout cls d σ H)
section
variable {X : Cx} {x n : Str} {c : Value} {i : Nat} {body suite : List Stmt} {st : Stmt} {np pos hpos : Pos} {tb : WX → TS} {ts : Addr → Value → Option Addr → TS} {Wout : WX}
/-- the end of such a suite -/
theorem keep_end {pins : List (Addr × Obj)} {σ σ6 : St} {H H6 : Hp} {a C : Addr} {d : Option Addr} {h : Heap} {s s6 : Shared} {oe : Obj} {Q : Shared → Prop} (L : Landed X pins σ H a C d h s) (eo : h.get? a = some oe) (hN : X.N.Nodup) (hi : X.N[i]? = some n) (hln : X.env.kindOf n = some .local)
    (S : Inv (X.suite a ((a, oe) :: (X.pn ++ pins))) [] σ6 H6 s6) (q : ∀ s7, Inv X pins (σ6.set i none) (upd H6 a (exg a C d)) s7 → Q s7) : wpAny (model X.prog X.w) X.A (do bindName X.env n .none; unbindBehindTheSuite X.env n hpos) (fun _ s7 => Q s7) X.xe s6 := by
  obtain ⟨p1, p2, _⟩ := S.pin (a, oe) (List.mem_append_left _ (.head _))
  obtain ⟨ws, sl, e0⟩ := L.obj
  rw [eo] at e0
  have p3 : s6.heap.get? a = some oe := p1
  rw [Option.some.inj e0] at p3
  have U := S.unsuite L.inv.ok
  refine gone_ok (U.known (o := exg a C d) p2 L.entry L.loc (fun y k e z => ?_) L.pin (exg_ok p3)) hN hi hln q
  obtain ⟨_, _, w1, w2⟩ := U.cell y k e
  rw [z, p3] at w1
  rw [← Option.some.inj w1] at w2
  cases w2
/-- try: body / except x as n: suite -/
theorem ps_try_keep (hs : X.stack = X.env :: X.outer) (hf : X.env.frame = some X.env.locals) (hex : X.ex = []) (hN : X.N.Nodup) (hi : X.N[i]? = some n) (hln : X.env.kindOf n = some .local) (hc : Names X x c) (tk : Takes X Wout)
    (hb : ∀ (W : WX) (pn : List (Addr × Obj)) (xe : Value → Shared → Prop), Takes (X.tr pn xe) W → PassesOwn (model X.prog X.w) X.A X.env xe → PSs (X.tr pn xe) body (tb W))
    (hsu : ∀ (a : Addr) (oe : Obj) (cls : Value) (d : Option Addr) (pn : List (Addr × Obj)), Zc cls d oe → (∃ vs, oe.data = .fields vs) → PSs (X.suite a ((a, oe) :: pn)) (st :: suite) (ts a cls d)) :
    PS X (.Try body [.ExceptHandler (some (.Name x np)) (some n) (st :: suite) hpos] [] [] pos) (fun D σ H => tb (wAsK X.K c i ts Wout D) D σ H) := by
  constructor
  intro pins s σ H D I h
  refine wpAny_Try_except (wpAny_mono ((hb (wAsK X.K c i ts Wout D) (X.pn ++ pins) (fun e t1 => wpAny (model X.prog X.w) X.A (noteFrame e X.env) (fun _ t2 => wpAny (model X.prog X.w) X.A (setFlight e none) (fun _ t3 =>
    wpAny (model X.prog X.w) X.A (handleBy e X.env [.ExceptHandler (some (.Name x np)) (some n) (st :: suite) hpos]) (SP X pins D) X.xe t3) X.xe t2) X.xe t1) (fun u s' air => ?_) PassesOwn.looking).run [] s σ H D (I.toTry _) h) (fun f t1 ok => ?_) fun _ _ z => z)
  case refine_2 =>
    cases f with
    | next => exact let ⟨σ1, H1, K, q⟩ := ok; wpAny_execs_nil ⟨σ1, H1, K.ofTry I.ok, q⟩
    | brk => exact let ⟨σ1, H1, K, q⟩ := ok; ⟨σ1, H1, K.ofTry I.ok, q⟩
    | cont => exact let ⟨σ1, H1, K, q⟩ := ok; ⟨σ1, H1, K.ofTry I.ok, q⟩
    | ret u => exact let ⟨v, σ1, H1, K, rv, q⟩ := ok; ⟨v, σ1, H1, K.ofTry I.ok, rv, q⟩
  case refine_1 =>
    obtain ⟨a, B, sI, pins', σ', H', cls, d, rfl, J', nb, up, sky, na, os, ag, b, C, rfl, mb, yes, no⟩ := air
    have J := J'.ofTry I.ok
    rw [hs] at sky
    have hfr : X.A.frames = some (X.env :: X.outer) := I.ok.frames.trans (congrArg some hs)
    show wpAny (model X.prog X.w) X.A (noteFrame (.ref a) X.env) _ _ _
    refine Sky.land Zc.steady hfr hf sky fun hA flA upA => ?_
    have KA : Inv X pins σ' H' { s' with heap := hA } := J.landed nb flA.1 (up.trans upA) os ag
    obtain ⟨oA, wA, atA, zA, dA⟩ := flA.there
    have LA := Landed.of (s := s') hs hf hex J na nb flA.2.1 flA.2.2.1 ⟨oA, wA, atA, zA, dA⟩ KA
    have SA := KA.suite atA dA na LA.loc LA.fs
    refine wpAny_handleBy_cons (codeAny_handlers_test ?_) fun z => by cases z
    have ty : PySem.W.Looks (model X.prog X.w) hA (typeOf (.ref a)) (.ref C) := fun _ _ _ _ kk q => wpAny_typeOf_ref (kk _ _ atA) (by rw [zA.1]; exact q)
    have mk := PySem.W.exm_one (M := model X.prog X.w) KA.kIn ty mb
    have named : ∀ {Q E : Value → Shared → Prop}, Q c { s' with heap := hA } → wpAny (model X.prog X.w) (X.A.mark (some (.ref a))) (eval (.Name x np) X.env) Q E { s' with heap := hA } := fun q => by
      obtain ⟨g, gd, e | ⟨e, bt, nn⟩⟩ := hc
      · exact ld_glob SA g e q gd
      · exact ld_blt SA g e bt q nn gd
    refine named (mk.here ?_)
    match b, yes, no with
    | true, yes, _ =>
      refine codeAny_handlers_suite_as (HandSPX.lands_againZ flA fun hC flC upC => ?_)
      have KC : Inv X pins σ' H' { s' with heap := hC } := J.landed nb flC.1 ((up.trans upA).trans upC) os ag
      obtain ⟨oC, wC, atC, zC, dC⟩ := flC.there
      have LC := Landed.of (s := s') hs hf hex J na nb flC.2.1 flC.2.2.1 ⟨oC, wC, atC, zC, dC⟩ KC
      refine store_ok (X := X.suite a ((a, oC) :: (X.pn ++ pins))) (v := .ref a) (KC.suite atC dC na LC.loc LC.fs) hN hi (.inl hln) rfl (fun t5 S5 => ?_) (.inr hln)
      refine wpAny_mono ((hsu a oC _ d (X.pn ++ pins) zC ⟨_, dC⟩).run [] t5 _ H' _ S5 (yes rfl a na)) (fun f t6 e6 => ?_) fun _ _ z => z.elim
      have plain : ∀ {σ6 : St} {H6 : Hp} {Q : Shared → Prop}, Inv (X.suite a ((a, oC) :: (X.pn ++ pins))) [] σ6 H6 t6 → (∀ t7, Inv X pins (σ6.set i none) H6 t7 → Q t7) → wpAny (model X.prog X.w) X.A (do bindName X.env n .none; unbindBehindTheSuite X.env n hpos) (fun _ t7 => Q t7) X.xe t6 :=
        fun S q => gone_ok (S.unsuite I.ok) hN hi hln q
      cases f with
      | next => exact let ⟨σ6, H6, S6, q6⟩ := e6; keep_end LC atC hN hi hln S6 fun t7 K7 => ⟨_, _, K7, q6⟩
      | brk => exact let ⟨σ6, H6, S6, q6⟩ := e6; plain S6 fun t7 K7 => ⟨_, _, K7, q6⟩
      | cont => exact let ⟨σ6, H6, S6, q6⟩ := e6; plain S6 fun t7 K7 => ⟨_, _, K7, q6⟩
      | ret u => exact let ⟨v6, σ6, H6, S6, r6, q6⟩ := e6; plain S6 fun t7 K7 => ⟨_, _, _, K7, r6, q6⟩
    | false, _, no =>
      show wpAny _ X.A (handleBy (.ref a) X.env []) _ _ _
      refine wpAny_handleBy_nil ?_
      obtain ⟨oe, vs, tb1, _, _, e1, _, e2, e3, _⟩ := flA.2.2.2
      unfold PySem.passOn
      refine wpAny_bind (wpAny_field e1 e2 e3 ?_)
      rw [if_neg (by simp)]
      have fly : wpAny (model X.prog X.w) X.A (setFlight (.ref a) X.env.frame) (fun _ t4 => wpAny (model X.prog X.w) X.A (throw (.ref a) : Sem Flow) (SP X pins D) X.xe t4) X.xe { s' with heap := hA } := by
        rw [hf]
        exact HandSPX.setFlight_upZ flA fun hD held upD => wpAny_throw (tk _ _ ⟨a, B, sI, pins, σ', H', .ref C, d, rfl, J, nb, (up.trans upA).trans upD, .inr (.inr (by rw [hs]; exact held)), na, os, ag, no rfl⟩)
      first | exact wpAny_bind (wpAny_pure (wpAny_bind fly)) | exact wpAny_bind fly
end
end L2


/-! raise C(..) where C's own __init__ writes no attribute -/
namespace L2
open PySem PySem.Spec PyProof.Rows
section
variable {X : Cx} {o e : Expr} {es : List Expr} {to te : TE} {ta : TA} {f : Str} {p p' p1 p2 pos : Pos}
/-- C(e, ..), C's own __init__ keeping sp; no attribute is written -/
def tMkO0 (C : Addr) (sp : Sp) (dvs : List V) (ta : TA) : St → Hp → XK → Prop := fun σ H Q => ta σ H fun vs H1 => vs.length ≤ 1000 ∧ ∀ a, H1 a = none → sp (.ref a :: (vs ++ dvs)) (upd H1 a (exo a C none))
  (fun v H2 => v = .non ∧ H2 a = some (exo a C none) ∧ Q (.ref C) none (del H2 a)) (fun _ _ _ => False)
/-- the new exception is let go -/
theorem mk_gone {pins : List (Addr × Obj)} {σ : St} {H1 H2 : Hp} {hp hp2 h2 : Heap} {g1 g2 : Array GenState} {d1 d2 : Drawn} {t1 t2 : Nat} {os1 os2 : OsState} {a C : Addr} (I1 : Inv X pins σ H1 ⟨hp, g1, d1, t1, os1⟩) (young : hp.objs.size ≤ a)
    (k : ∀ b o, hp.get? b = some o → hp2.get? b = some o) (un : Un (frs X.stack) [] (upd H1 a (exo a C none)) H2 hp2 h2) (hok : HOk X.prog X.w H2 h2) (ho : os2 = os1) (hb : AllBare g2) (ea : H2 a = some (exo a C none)) :
    ∃ (t0 : Addr) (G : Heap), Inv X pins σ (del H2 a) ⟨G, g2, d2, t2, os2⟩ ∧ (∀ b o, G.get? b = some o → h2.get? b = some o) ∧ G.get? a = none ∧ h2.get? a = some ({ cls := .ref C, dict := none, data := .fields #[.ref t0, .none, .none, .none, .bool false, .none] } : Obj) ∧ del H2 a a = none := by
  obtain ⟨t0, at2⟩ := exo_at hok ea
  have n1 : H1 a = none := I1.hok.fresh young
  obtain ⟨G, in_, out⟩ := restrict h2 fun b => decide (b ≠ a)
  have other : ∀ b, b ≠ a → G.get? b = h2.get? b := fun b nb => in_ b (decide_eq_true nb)
  have gone : G.get? a = none := out a (by simp)
  have old : ∀ {b : Addr} {o : Obj}, hp.get? b = some o → b ≠ a := fun z => Nat.ne_of_lt (Nat.lt_of_lt_of_le (Heap.lt_size z) young)
  have low : ∀ {b : Addr}, b ≠ a → H1 b = none → upd H1 a (exo a C none) b = none := fun nb n => (upd_ne nb).trans n
  have high : ∀ {b : Addr} {u : HO}, H1 b = some u → upd H1 a (exo a C none) b = some u ∧ b ≠ a := fun z => ⟨(upd_ne (ne_of_none z n1)).trans z, ne_of_none z n1⟩
  have U : Un (frs X.stack) [] H1 (del H2 a) hp G := by
    refine ⟨fun b o z n hf hx => (other b (old z)).trans (un.keep b o (k b o z) (low (old z) n) hf hx), fun b o z n hf hx => ?_, fun b o z n hx => (del_ne (old z)).trans (un.free b o (k b o z) (low (old z) n) hx), fun b o z hx => ?_, fun b xs z => (del_ne (high z).2).trans (un.tups b xs (high z).1),
      fun b o v z => (del_ne (high z).2).trans (un.frzs b o v (high z).1), fun b ps z => ?_⟩
    · obtain ⟨sl, q⟩ := un.slot b o (k b o z) (low (old z) n) hf hx
      exact ⟨sl, (other b (old z)).trans q⟩
    · obtain ⟨o', q⟩ := un.there b o (k b o z) hx
      exact ⟨o', (other b (old z)).trans q⟩
    · obtain ⟨m, q⟩ := un.tbls b ps (high z).1
      exact ⟨m, (del_ne (high z).2).trans q⟩
  have held : HOk X.prog X.w (del H2 a) G := fun b o z => by
    have nb : b ≠ a := fun e => by
      rw [e, del_same] at z
      cases z
    rw [del_ne nb] at z
    refine (hok b o z).stay (fun c v hc y => ?_) (fun c hc => (del_ne (at_ne ea hc exo_own)).trans hc) fun c xs hc => (del_ne (at_ne ea hc exo_tup)).trans hc
    refine (other c ?_).trans y
    rcases hc with rfl | hc
    · exact nb
    · exact at_ne ea hc exo_own
  refine ⟨t0, G, I1.call' (ch := []) ho U held hb (fun b z => absurd z (by simp)), fun b o z => ?_, gone, at2, del_same⟩
  by_cases nb : b = a
  · rw [nb, gone] at z
    cases z
  · exact (other b nb).symm.trans z
variable {CX : CXT} {x : Str} {C fI : Addr} {k : Nat} {fd : FuncData} {ps : List Str} {sp : Sp} {ds : List Value} {dvs : List V}
theorem run_mk0 {pins : List (Addr × Obj)} {σ : St} {H1 : Hp} {s : Shared} {Q : XK} {us : List Value} {vs : List V} (T : OexC X.K C) (iC : PySem.W.findIn X.K (.ref C) "__init__" = some (some (.ref fI))) (tI : PySem.W.typeIn X.K (.ref fI) = some (.type "function"))
    (F1 : FnOk X.prog X.w X.K X.mg X.base CX k fI fd ps sp) (hr : Room (k + 1) X.A) (hb : Binds X.K fd ps ds) (hd : Vals dvs ds) (hx : Passes CX X (fun _ _ _ => False)) (I1 : Inv X pins σ H1 s) (r1 : Vals vs us) (hz : vs.length ≤ 1000)
    (q1 : ∀ a, H1 a = none → sp (.ref a :: (vs ++ dvs)) (upd H1 a (exo a C none)) (fun v H2 => v = .non ∧ H2 a = some (exo a C none) ∧ Q (.ref C) none (del H2 a)) (fun _ _ _ => False)) :
    wpAny (model X.prog X.w) X.A (call (.ref C) us) (MkP X pins σ Q) X.xe s := by
  obtain ⟨_, _, _, _, bm, _, _, _, _, _, _, _, _, _, _, oC, tail⟩ := T.cls
  obtain ⟨hp, gn, dr, tk, os⟩ := s
  obtain ⟨new, J⟩ := Inv.xnew C us I1
  have want := q1 _ new
  have rel : Vals (V.ref (hp.objs.size + 1) :: (vs ++ dvs)) (Value.ref (hp.objs.size + 1) :: (us ++ ds)) := .cons rfl (r1.append hd)
  have len : (Value.ref (hp.objs.size + 1) :: us ++ ds).length = ps.length := rel.length.symm.trans (F1.len _ _ _ _ want)
  have few : us.length ≤ sizeLine := by
    have := r1.length
    rw [sizeLine_eq]; omega
  have go := F1.run _ X.stack _ _ ⟨Value.ref (hp.objs.size + 1) :: us, []⟩ (Value.ref (hp.objs.size + 1) :: (us ++ ds)) _ _ (fun _ _ _ => False) (hr.make C us []) (J.env0.make C us []) (hb _ (Value.ref (hp.objs.size + 1) :: us) J.kIn len) rel want
  refine wpAny_call (PySem.HandSPX.call_own F.excBase_ValueError (fun Y => PySem.HandSPX.refsVE_contains Y bm tail) (I1.kIn _ _ oC) (PySem.W.looks_findIn I1.kIn iC) (fun me => PySem.W.bind_fn I1.kIn me tI) few (codeAny_mono go fun r z q => ?_))
  match r, q with
  | .error er, q => exact hx pins σ _ _ er z J q
  | .ok (.ret u), q =>
    obtain ⟨v, H2, os2, bare2, un2, hok2, rv, ev, ea, q2⟩ := q
    subst ev
    obtain ⟨h2, g2, d2, t2, os'⟩ := z
    have up : ∀ b o, hp.get? b = some o → (FX.withX hp C us).get? b = some o := fun b o e => Heap.get?_push_of_some _ (Heap.get?_push_of_some _ e)
    obtain ⟨t0, G, JG, kG, gG, oG, nG⟩ := mk_gone (d2 := d2) (t2 := t2) I1 (Nat.le_succ _) up un2 hok2 os2 bare2 ea
    exact ⟨rv, _, _, _, ⟨G, g2, d2, t2, os'⟩, _, .ref C, none, rfl, JG, kG, gG, oG, ⟨rfl, rfl⟩, rfl, rfl, nG, rfl, bare2, raises_own T.exC T.tyC, q2⟩
  | .ok .next, q => exact q.elim
  | .ok .brk, q => exact q.elim
  | .ok .cont, q => exact q.elim
/-- C() -/
theorem pmk_none (T : OexC X.K C) (iC : PySem.W.findIn X.K (.ref C) "__init__" = some (some (.ref fI))) (tI : PySem.W.typeIn X.K (.ref fI) = some (.type "function"))
    (F1 : FnOk X.prog X.w X.K X.mg X.base CX k fI fd ps sp) (hr : Room (k + 1) X.A) (hb : Binds X.K fd ps ds) (hd : Vals dvs ds) (hx : Passes CX X (fun _ _ _ => False)) (hg : Gl X x) (hm : X.mg x = some (.ref C)) (hdb : (x == ("__debug__" : Str)) = false := by decide) :
    PMk X (.Call (.Name x p) [] [] pos) (tMkO0 C sp dvs tNil) := by
  intro pins s σ H Q I h
  refine wpAny_Call_Name_kw (ld_glob I hg hm ?_ hdb)
  exact PySem.W.callWith_K0 I.kIn T.kC (run_mk0 (us := []) T iC tI F1 hr hb hd hx I .nil h.1 h.2)
end
end L2


/-! sorted(a dict of texts, key=a lambda of one parameter that gives (int, text)) -/
namespace SrtKy
open PySem PyProof.Rows Srt SrtO
/-- a tuple of a number and a text -/
def IsIS (h : Heap) (v : Value) (x : Int) (z : Str) : Prop := ∃ a o t u n, v = .ref a ∧ h.get? a = some o ∧ o.cls = .type "tuple" ∧ o.data = .seq #[.int x t, .str z u] n
theorem IsIS.keeps {h h' : Heap} {v : Value} {x : Int} {z : Str} (p : IsIS h v x z) (k : ∀ b o, h.get? b = some o → o.cls = .type "tuple" → h'.get? b = some o) : IsIS h' v x z := by
  obtain ⟨a, o, t, u, n, e, ho, hc, hd⟩ := p
  exact ⟨a, o, t, u, n, e, k _ _ ho hc, hc, hd⟩
def isLt (p q : Int × Str) : Bool := if p.1 = q.1 then decide (p.2.cps.toList < q.2.cps.toList) else decide (p.1 < q.1)
theorem isLt_iff {p q : Int × Str} : isLt p q = true ↔ p.1 < q.1 ∨ (p.1 = q.1 ∧ p.2.cps.toList < q.2.cps.toList) := by
  unfold isLt
  by_cases e : p.1 = q.1
  · rw [if_pos e, decide_eq_true_eq]
    constructor
    · exact fun h => .inr ⟨e, h⟩
    · rintro (h | h)
      · omega
      · exact h.2
  · rw [if_neg e, decide_eq_true_eq]
    constructor
    · exact .inl
    · rintro (h | h)
      · exact h
      · exact absurd h.1 e
theorem isLt_no {p q : Int × Str} : isLt p q = false ↔ q.1 < p.1 ∨ (p.1 = q.1 ∧ q.2.cps.toList ≤ p.2.cps.toList) := by
  unfold isLt
  by_cases e : p.1 = q.1
  · rw [if_pos e, decide_eq_false_iff_not, List.not_lt]
    constructor
    · exact fun h => .inr ⟨e, h⟩
    · rintro (h | h)
      · omega
      · exact h.2
  · rw [if_neg e, decide_eq_false_iff_not]
    constructor
    · exact fun h => .inl (by omega)
    · rintro (h | h)
      · omega
      · exact absurd h.1 e
theorem swo_is {α : Type} (k : α → Int × Str) : Swo fun v u => isLt (k v) (k u) := by
  refine ⟨fun x y h => ?_, fun x y z h1 h2 => ?_⟩
  · refine isLt_no.mpr ?_
    rcases isLt_iff.mp h with h | ⟨e, h⟩
    · exact .inl h
    · exact .inr ⟨e.symm, List.le_of_lt h⟩
  · refine isLt_no.mpr ?_
    rcases isLt_no.mp h1 with a | ⟨a, a'⟩ <;> rcases isLt_no.mp h2 with b | ⟨b, b'⟩
    · exact .inl (by omega)
    · exact .inl (by omega)
    · exact .inl (by omega)
    · exact .inr ⟨by omega, List.le_trans a' b'⟩
section
variable {prog : Program} {w : World} {s : Shared} {A : Around} {E : Value → Shared → Prop}
/-- two such tuples compare as isLt says -/
theorem is_lt {a1 a2 : Addr} {o1 o2 : Obj} {x1 x2 : Int} {z1 z2 : Str} {t1 t2 u1 u2 : Tok} {n1 n2 : Nat} (g1 : s.heap.get? a1 = some o1) (d1 : o1.data = .seq #[.int x1 t1, .str z1 u1] n1) (g2 : s.heap.get? a2 = some o2) (d2 : o2.data = .seq #[.int x2 t2, .str z2 u2] n2) :
    wpAny (model prog w) A (keyLt' (tuples' true) (.ref a1) (.ref a2)) (fun r s' => s' = s ∧ r = isLt (x1, z1) (x2, z2)) (fun _ _ => False) s := by
  refine PySem.W.kat_lt g1 d1 g2 d2 ?_
  show PySem.W.KatLex prog w A true (decide (2 < 2)) _ [(.int x1 t1, .int x2 t2), (.str z1 u1, .str z2 u2)] 0 s
  refine PySem.W.kat_cons (SeqAt.EqAt.int_int x1 t1 x2 t2 prog w _ _ (PySem.W.kat_go (fun y1 => ?_) fun y1 => ?_))
  · have e1 : x1 = x2 := of_decide_eq_true (by simpa using y1)
    refine PySem.W.kat_yes (PySem.W.kat_cons (SeqAt.EqAt.str_str z1 u1 z2 u2 prog w _ _ (PySem.W.kat_go (fun y2 => ?_) fun y2 => ?_)))
    · have e2 : z1 = z2 := of_decide_eq_true (by simpa using y2)
      subst e1 e2
      exact PySem.W.kat_yes (PySem.W.kat_nil ⟨rfl, ((swo_is id).refl (x1, z1)).symm⟩)
    · exact PySem.W.kat_no (PySem.W.kat_one _ _ (PyProof.Rows.lt_str ⟨rfl, (if_pos (c := (x1, z1).1 = (x2, z2).1) e1).symm⟩))
  · have e1 : ¬ x1 = x2 := fun e => by
      subst e
      simp at y1
    exact PySem.W.kat_no (oneLt_int ⟨rfl, (if_neg (c := (x1, z1).1 = (x2, z2).1) e1).symm⟩)
theorem is_cmp {keys : List Value} {k : Value → Int × Str} (hp : ∀ v ∈ keys, IsIS s.heap v (k v).1 (k v).2) : Cmp prog w A s (tuples' true) (fun p => p.1 ∈ keys) (fun p q => isLt (k p.1) (k q.1)) := by
  rintro ⟨v1, w1⟩ ⟨v2, w2⟩ m1 m2
  obtain ⟨a1, o1, t1, u1, n1, e1, g1, _, d1⟩ := hp v1 m1
  obtain ⟨a2, o2, t2, u2, n2, e2, g2, _, d2⟩ := hp v2 m2
  have q := is_lt (prog := prog) (w := w) (A := A) (s := s) g1 d1 g2 d2
  rw [← e1, ← e2] at q
  exact q
theorem is_firsts {h : Heap} (keys : List Value) (hp : ∀ v ∈ keys, ∃ x z, IsIS h v x z) : ∃ fs : List Value, PySem.W.KatTups h keys fs ∧ fs.length = keys.length ∧ ∀ f ∈ fs, ∃ x t, f = Value.int x t := by
  induction keys with
  | nil => exact ⟨[], .nil, rfl, fun _ m => nomatch m⟩
  | cons v keys ih =>
    obtain ⟨fs, i1, i2, i3⟩ := ih fun u m => hp u (.tail _ m)
    obtain ⟨x, z, a, o, t, u, n, rfl, g, c, d⟩ := hp v (.head _)
    exact ⟨.int x t :: fs, .cons g c d rfl i1, congrArg Nat.succ i2, fun f m => (List.mem_cons.mp m).elim (fun e => ⟨x, t, e⟩) (i3 f)⟩
theorem is_kind {keys : List Value} {k : Value → Int × Str} {Q : SortKind → Shared → Prop} (some_ : 0 < keys.length) (hp : ∀ v ∈ keys, IsIS s.heap v (k v).1 (k v).2) (q : Q (tuples' true) s) : wpAny (model prog w) A (keyKind' keys.toArray) Q E s := by
  obtain ⟨fs, i1, i2, i3⟩ := is_firsts keys fun v m => ⟨_, _, hp v m⟩
  have differ : (Value.type "int" != Value.type "tuple") = true := by decide +kernel
  refine PySem.W.kat_kind (T := .type "int") i1 (by omega) (fun f m => ?_) rfl (by rw [differ]; exact q)
  obtain ⟨x, t, rfl⟩ := i3 f m
  exact PySem.W.Looks.now
/-- the sort itself: the keys stand in the store at kS, the list at a is empty -/
theorem key_end {a kS : Addr} {keys vs : List Value} {e e1 : Nat} {k : Value → Int × Str} {P : PySem.Fin → Shared → Prop} (hk : s.heap.get? kS = some (seqObj "list" keys.toArray e)) (ha : s.heap.get? a = some (seqObj "list" #[] e1)) (ne : kS ≠ a)
    (hl : keys.length = vs.length) (hz : vs.length ≤ sizeLine) (hp : ∀ v ∈ keys, IsIS s.heap v (k v).1 (k v).2)
    (h : ∀ (h' : Heap) (out : List (Value × Value)) (c : Nat), out.Perm (keys.zip vs) → out.Pairwise (fun p q => isLt (k q.1) (k p.1) = false) → (∀ b o, b ≠ kS → b ≠ a → s.heap.get? b = some o → h'.get? b = some o) →
      h'.get? a = some (seqObj "list" (out.map (·.2)).toArray c) → (∃ c', h'.get? kS = some (seqObj "list" #[] c')) → P (.done (.ret .none)) { s with heap := h' }) :
    wpAny (model prog w) A (ksk_end a false vs.toArray e1 (.ref kS) keys.toArray) P E s := by
  have ezip : (keys.toArray.zip vs.toArray).toList = keys.zip vs := by
    rw [ksk_zip, List.toList_toArray]
  have lz : (keys.zip vs).length = vs.length := by rw [List.length_zip, hl, Nat.min_self]
  have tail : ∀ st : SortSt, Srtd (fun p q : Keyed => isLt (k p.1) (k q.1)) (arrOf st).toList → Stb (fun p q : Keyed => isLt (k p.1) (k q.1)) (arrOf st).toList (keys.zip vs) → failedOf st = none →
      wpAny (model prog w) A (ksk_tail a false e1 (.ref kS) st) P E s := by
    intro st hs hb hf
    have hpm : (arrOf st).toList.Perm (keys.zip vs) := hb.perm
    have ls : ((arrOf st).map (·.2)).size = vs.length := by
      rw [Array.size_map, ← Array.length_toList, hpm.length_eq, lz]
    unfold ksk_tail
    try dsimp only
    refine wpAny_bind (listUpdate_at hk rfl ?_ (by rw [List.size_toArray, hl]; exact hz) (Nat.zero_le _))
    refine wpAny_bind (wpAny_letGo ?_)
    have ha1 : (s.heap.update kS (Obj.mapSeq fun _ => (#[] : Array Value))).get? a = some (seqObj "list" #[] e1) := ((Heap.SameBut.update s.heap kS _).2 a ne.symm).trans ha
    obtain ⟨c1, hk1⟩ : ∃ c1, (s.heap.update kS (Obj.mapSeq fun _ => (#[] : Array Value))).get? kS = some (seqObj "list" #[] c1) := ⟨_, get?_update_seq hk fun _ => #[]⟩
    refine wpAny_bind (seqEpoch_at ha1 rfl ?_)
    refine wpAny_bind (listUpdate_at ha1 rfl ?_ (Nat.zero_le _) (by show ((arrOf st).map (·.2)).size ≤ _; omega))
    rw [hf]
    simp only [bne_self_eq_false, Bool.false_eq_true, if_false]
    have s2 := Heap.SameBut.update (s.heap.update kS (Obj.mapSeq fun _ => (#[] : Array Value))) a (Obj.mapSeq fun _ => (arrOf st).map (·.2))
    obtain ⟨c2, hc2⟩ : ∃ c2, ((s.heap.update kS (Obj.mapSeq fun _ => (#[] : Array Value))).update a (Obj.mapSeq fun _ => (arrOf st).map (·.2))).get? a = some (seqObj "list" ((arrOf st).map (·.2)) c2) := ⟨_, get?_update_seq ha1 fun _ => (arrOf st).map (·.2)⟩
    have eo : (((arrOf st).toList.map (·.2)).toArray : Array Value) = (arrOf st).map (·.2) := by
      apply Array.ext'
      rw [List.toList_toArray, Array.toList_map]
    refine wpAny_pure (h _ (arrOf st).toList c2 hpm hs (fun b o n1 n2 q => (s2.2 b n2).trans (((Heap.SameBut.update s.heap kS _).2 b n1).trans q)) (by rw [eo]; exact hc2) ⟨c1, (s2.2 kS ne).trans hk1⟩)
  unfold ksk_end
  try dsimp only
  simp only [Bool.false_eq_true, if_false]
  by_cases h2 : vs.toArray.size < 2
  · rw [if_pos h2, if_pos h2]
    refine wpAny_bind (wpAny_pure ?_)
    rw [StateT.run_pure]
    refine wpAny_bind (wpAny_pure ?_)
    try dsimp only
    refine tail (SortSt.mk' general' (keys.toArray.zip vs.toArray) #[] 7 none) ?_ ?_ rfl
    · show Srtd _ (keys.toArray.zip vs.toArray).toList
      rw [ezip]
      rw [List.size_toArray] at h2
      match hh : keys.zip vs with
      | [] => exact List.Pairwise.nil
      | [v] => exact List.pairwise_singleton _ _
      | _ :: _ :: l =>
        rw [hh] at lz
        rw [List.length_cons, List.length_cons] at lz
        omega
    · show Stb _ (keys.toArray.zip vs.toArray).toList _
      rw [ezip]
      exact Stb.refl _
  · rw [if_neg h2, if_neg h2]
    rw [List.size_toArray] at h2
    refine wpAny_bind (is_kind (k := k) (by omega) hp ?_)
    have hall : AllL (fun p : Keyed => p.1 ∈ keys) (keys.toArray.zip vs.toArray).toList := fun p hm => by
      rw [ezip] at hm
      exact (List.of_mem_zip hm).1
    refine wpAny_bind (wpAny_mono (wpS_sortO (st0 := SortSt.mk' (tuples' true) (keys.toArray.zip vs.toArray) #[] 7 none)
      (Q := fun _ st' => Srtd (fun p q : Keyed => isLt (k p.1) (k q.1)) (arrOf st').toList ∧ Stb (fun p q : Keyed => isLt (k p.1) (k q.1)) (arrOf st').toList (keys.toArray.zip vs.toArray).toList ∧ failedOf st' = none)
      (swo_is fun p : Keyed => k p.1) (is_cmp hp) rfl hall rfl rfl fun st' a1 a2 a3 => ⟨a1, a2, a3⟩) ?_ fun _ _ e => e)
    rintro ⟨⟨⟩, st'⟩ s' ⟨rfl, hp1, hp2, hf⟩
    try dsimp only
    rw [ezip] at hp2
    exact tail st' hp1 hp2 hf
end
end SrtKy


namespace L2
open PySem PySem.Spec PyProof.Rows
section
variable {X : Cx} {pins : List (Addr × Obj)} {σ : St} {H : Hp} {s : Shared} {h' : Heap}
/-- an object that was not told is known from now on (it is younger than the entry, no frame, no cell, no pin) -/
theorem Inv.adopt {a : Addr} {o : HO} {t' : Nat} (I : Inv X pins σ H s) (k : ∀ b u, b ≠ a → s.heap.get? b = some u → h'.get? b = some u) (hn : H a = none) (hL : a ≠ X.env.locals) (h1 : a ∈ X.ex ∨ X.s_0.heap.objs.size ≤ a)
    (h2 : ∀ x c, X.env.cells.lookup x = some c → c ≠ a) (h3 : ∀ p ∈ X.pn ++ pins, p.1 ≠ a) (new : ObjOk X.prog X.w (upd H a o) h' a o) : Inv X pins σ (upd H a o) { s with heap := h', toks := t' } := by
  have nit : ∀ b u, H b = some u → b ≠ a := fun b u e z => by rw [z, hn] at e; cases e
  refine I.step (g' := s.gens) (d' := s.drawn) (ch := [a]) (fun b hb => ?_) (fun b o _ _ hc e _ => k b o (fun z => hc (by simp [z])) e) (fun b o _ _ hc e _ => ⟨o.slots, k b o (fun z => hc (by simp [z])) e⟩) (fun b _ hc _ n => by rw [upd_ne (fun z => hc (by simp [z]))]; exact n)
    (fun b o hc e => ⟨o, k b o (fun z => hc (by simp [z])) e⟩) (fun b _ e => by rw [upd_ne (nit b _ e)]; exact e) (fun b _ _ e => by rw [upd_ne (nit b _ e)]; exact e) (fun b ps e => ⟨#[], by rw [upd_ne (nit b _ e), e]; simp⟩) (fun m hm => ?_) (fun b u e => ?_) I.bare
  · have e : b = a := by simpa using hb
    subst e
    exact ⟨h1, hL, h2, h3⟩
  · obtain ⟨o, es, ep, ho, r⟩ := hm
    exact ⟨o, es, ep, k _ o (Ne.symm hL) ho, r⟩
  · by_cases hb : b = a
    · subst hb
      rw [upd_same] at e
      cases e
      exact new
    · rw [upd_ne hb] at e
      refine (I.hok b u e).stay (fun c v hc q => k c v ?_ q) (fun c q => by rw [upd_ne (nit c _ q)]; exact q) fun c _ q => by rw [upd_ne (nit c _ q)]; exact q
      rcases hc with z | z
      · rw [z]; exact hb
      · exact nit c _ z
/-- the same, a second object of ours having changed too -/
theorem Inv.adopt2 {a a2 : Addr} {o : HO} {t' : Nat} (I : Inv X pins σ H s) (k : ∀ b u, b ≠ a → b ≠ a2 → s.heap.get? b = some u → h'.get? b = some u) (hn : H a = none) (hn2 : H a2 = none)
    (hL : ∀ b, b = a ∨ b = a2 → ((b ∈ X.ex ∨ X.s_0.heap.objs.size ≤ b) ∧ b ≠ X.env.locals ∧ (∀ x c, X.env.cells.lookup x = some c → c ≠ b) ∧ ∀ p ∈ X.pn ++ pins, p.1 ≠ b)) (new : ObjOk X.prog X.w (upd H a o) h' a o) :
    Inv X pins σ (upd H a o) { s with heap := h', toks := t' } := by
  have nit : ∀ b u, H b = some u → b ≠ a := fun b u e z => by rw [z, hn] at e; cases e
  have nit2 : ∀ b u, H b = some u → b ≠ a2 := fun b u e z => by rw [z, hn2] at e; cases e
  refine I.step (g' := s.gens) (d' := s.drawn) (ch := [a, a2]) (fun b hb => hL b (by simpa using hb)) (fun b o _ _ hc e _ => k b o (fun z => hc (by simp [z])) (fun z => hc (by simp [z])) e)
    (fun b o _ _ hc e _ => ⟨o.slots, k b o (fun z => hc (by simp [z])) (fun z => hc (by simp [z])) e⟩) (fun b _ hc _ n => by rw [upd_ne (fun z => hc (by simp [z]))]; exact n)
    (fun b o hc e => ⟨o, k b o (fun z => hc (by simp [z])) (fun z => hc (by simp [z])) e⟩) (fun b _ e => by rw [upd_ne (nit b _ e)]; exact e) (fun b _ _ e => by rw [upd_ne (nit b _ e)]; exact e) (fun b ps e => ⟨#[], by rw [upd_ne (nit b _ e), e]; simp⟩) (fun m hm => ?_) (fun b u e => ?_) I.bare
  · obtain ⟨o, es, ep, ho, r⟩ := hm
    exact ⟨o, es, ep, k _ o (Ne.symm (hL a (.inl rfl)).2.1) (Ne.symm (hL a2 (.inr rfl)).2.1) ho, r⟩
  · by_cases hb : b = a
    · subst hb
      rw [upd_same] at e
      cases e
      exact new
    · rw [upd_ne hb] at e
      have hb2 := nit2 b _ e
      refine (I.hok b u e).stay (fun c v hc q => k c v ?_ ?_ q) (fun c q => by rw [upd_ne (nit c _ q)]; exact q) fun c _ q => by rw [upd_ne (nit c _ q)]; exact q
      · rcases hc with z | z
        · rw [z]; exact hb
        · exact nit c _ z
      · rcases hc with z | z
        · rw [z]; exact hb2
        · exact nit2 c _ z
/-- no cell of ours is a list -/
theorem Inv.nocell {a : Addr} {u : Obj} (I : Inv X pins σ H s) (h : s.heap.get? a = some u) (d : ∀ v, u.data ≠ .cell v) : ∀ x c, X.env.cells.lookup x = some c → c ≠ a := fun x c e z => by
  obtain ⟨v, o, ho, hd⟩ := I.cell x c e
  rw [z, h] at ho
  cases ho
  exact d _ hd
end
/-- what the keys of the first items are -/
def KysAt (H : Hp) (key : V → Int × Str) (xs : List V) (kA : List Value) : Prop := ∀ (j : Nat) (kv : Value), kA[j]? = some kv → ∃ (t : Addr) (x : V), kv = Value.ref t ∧ xs[j]? = some x ∧ H t = some (.tup [.int (key x).1, .str (key x).2])
theorem KysAt.up {H H' : Hp} {key : V → Int × Str} {xs : List V} {kA : List Value} (h : KysAt H key xs kA) (t : ∀ b ys, H b = some (.tup ys) → H' b = some (.tup ys)) : KysAt H' key xs kA := fun j kv e => by
  obtain ⟨a, x, e1, e2, e3⟩ := h j kv e
  exact ⟨a, x, e1, e2, t _ _ e3⟩
theorem KysAt.snoc {H : Hp} {key : V → Int × Str} {xs : List V} {kA : List Value} {t : Addr} {x : V} (h : KysAt H key xs kA) (hx : xs[kA.length]? = some x) (ht : H t = some (.tup [.int (key x).1, .str (key x).2])) : KysAt H key xs (kA ++ [.ref t]) := fun j kv e => by
  by_cases hj : j < kA.length
  · rw [List.getElem?_append_left hj] at e
    exact h j kv e
  · rw [List.getElem?_append_right (by omega)] at e
    have h0 : j - kA.length = 0 := by
      have := (List.getElem?_eq_some_iff.mp e).1
      rw [List.length_singleton] at this
      omega
    rw [h0] at e
    have e' : Value.ref t = kv := Option.some.inj e
    have : j = kA.length := by omega
    subst this
    exact ⟨t, x, e'.symm, hx, ht⟩
/-- the key that stands at an address -/
def keyOfL (H : Hp) : Value → Int × Str
  | .ref t => match H t with
    | some (.tup [.int n, .str z]) => (n, z)
    | _ => (0, "")
  | _ => (0, "")
theorem keyOfL_at {H : Hp} {t : Addr} {n : Int} {z : Str} (h : H t = some (.tup [.int n, .str z])) : keyOfL H (.ref t) = (n, z) := by
  show (match H t with
    | some (.tup [.int n, .str z]) => (n, z)
    | _ => ((0 : Int), ("" : Str))) = (n, z)
  rw [h]
theorem KysAt.is {X : Cx} {pins : List (Addr × Obj)} {σ : St} {H : Hp} {s : Shared} {key : V → Int × Str} {xs : List V} {kA : List Value} (I : Inv X pins σ H s) (h : KysAt H key xs kA) : ∀ v ∈ kA, SrtKy.IsIS s.heap v (keyOfL H v).1 (keyOfL H v).2 := fun v hv => by
  obtain ⟨j, hj⟩ := List.mem_iff_getElem?.mp hv
  obtain ⟨t, x, rfl, _, e⟩ := h j v hj
  rw [keyOfL_at e]
  obtain ⟨_, its, r, o, ho, hc, n, hd⟩ := I.hok _ _ e
  obtain ⟨u1, u2, rfl, ri, rj⟩ := vals2 r
  obtain ⟨t1, rfl⟩ := ri
  obtain ⟨t2, rfl⟩ := rj
  exact ⟨t, o, t1, t2, n, rfl, ho, hc, hd⟩
/-- a list whose picture is a permutation of a picture -/
theorem perm_lift {α β : Type} (f : α → β) {l m' : List β} (p : l.Perm m') : ∀ m : List α, m' = m.map f → ∃ l' : List α, l'.Perm m ∧ l'.map f = l := by
  induction p with
  | nil =>
    intro m e
    have : m = [] := List.map_eq_nil_iff.mp e.symm
    subst this
    exact ⟨[], .refl _, rfl⟩
  | cons x p ih =>
    intro m e
    cases m with
    | nil => cases e
    | cons y m =>
      rw [List.map_cons] at e
      injection e with e1 e2
      obtain ⟨l', h1, h2⟩ := ih m e2
      exact ⟨y :: l', h1.cons y, by rw [List.map_cons, h2, e1]⟩
  | swap x y l =>
    intro m e
    match m with
    | [] => cases e
    | [_] => simp at e
    | a :: b :: m =>
      rw [List.map_cons, List.map_cons] at e
      injection e with e1 e2
      injection e2 with e2 e3
      exact ⟨b :: a :: m, .swap a b m, by rw [List.map_cons, List.map_cons, e1, e2, e3]⟩
  | trans _ _ ih1 ih2 =>
    intro m e
    obtain ⟨l2, h1, h2⟩ := ih2 m e
    obtain ⟨l3, h3, h4⟩ := ih1 l2 h2.symm
    exact ⟨l3, h3.trans h1, h4⟩
theorem vals_map {α : Type} {f : α → V} {g : α → Value} : ∀ l : List α, (∀ p ∈ l, RelV (f p) (g p)) → Vals (l.map f) (l.map g)
  | [], _ => .nil
  | p :: l, h => .cons (h p (List.mem_cons_self ..)) (vals_map l fun q hq => h q (List.mem_cons_of_mem _ hq))
section
variable {X : Cx} {pins : List (Addr × Obj)} {σ : St} {H : Hp} {s : Shared}
theorem key_sort {A' : Around} {a f : Addr} {n : Nat} {xs : List V} {vs : List Value} {key : V → Int × Str} {J : Hp → Prop} {R : PySem.Fin → Shared → Prop} {E : Value → Shared → Prop}
    (I : Inv X pins σ H s) (hJ : J H) (r : Vals xs vs) (ha : s.heap.get? a = some (seqObj "list" vs.toArray n)) (hn : H a = none) (ho : X.s_0.heap.objs.size ≤ a) (hL : a ≠ X.env.locals) (hF : a ∉ X.fs) (hP : ∀ p ∈ X.pn ++ pins, p.1 ≠ a) (hz : vs.length ≤ sizeLine)
    (call_ : ∀ (x : V) (u : Value) (s' : Shared) (H' : Hp) (pins' : List (Addr × Obj)), x ∈ xs → RelV x u → Inv X (pins' ++ pins) σ H' s' → J H' → wpAny (model X.prog X.w) A' (call (.ref f) [u])
      (EP X (pins' ++ pins) σ fun v H2 => J H2 ∧ (∀ b ys, H' b = some (.tup ys) → H2 b = some (.tup ys)) ∧ ∃ t, v = .ref t ∧ H2 t = some (.tup [.int (key x).1, .str (key x).2])) (fun _ _ => False) s')
    (h : ∀ (ys : List V) (H1 : Hp) (s1 : Shared), ys.Perm xs → ys.Pairwise (fun x y => SrtKy.isLt (key y) (key x) = false) → J H1 → H1 a = none → Inv X pins σ (upd H1 a (.lst ys)) s1 → R (.done (.ret .none)) s1) :
    wpAny (model X.prog X.w) A' (ksk_tree a (.ref f) false) R E s := by
  have hlen : xs.length = vs.length := r.length
  obtain ⟨e1, ho1⟩ : ∃ e1, (s.heap.update a (Obj.mapSeq fun _ => (#[] : Array Value))).get? a = some (seqObj "list" #[] e1) := ⟨_, get?_update_seq ha fun _ => #[]⟩
  have emptied := Heap.SameBut.update s.heap a (Obj.mapSeq fun _ => (#[] : Array Value))
  unfold ksk_tree
  refine wpAny_bind (listItems_at ha rfl ?_)
  refine wpAny_bind (listUpdate_at ha rfl ?_ (by rw [List.size_toArray]; exact hz) (Nat.zero_le _))
  refine wpAny_bind (seqEpoch_at ho1 rfl ?_)
  refine wpAny_bind (wpAny_newTuple ?_ (by show vs.length ≤ _; exact hz))
  refine wpAny_bind (wpAny_newList ?_ (Nat.zero_le _))
  refine wpAny_holding ?_
  have next_ : ((s.heap.update a (Obj.mapSeq fun _ => (#[] : Array Value))).push (seqObj "tuple" vs.toArray 0)).objs.size = s.heap.objs.size + 1 := by rw [size_push', Heap.size_update]
  show wpAny _ _ (ksk_rest a (.ref f) false vs.toArray e1 (.ref ((s.heap.update a (Obj.mapSeq fun _ => (#[] : Array Value))).push (seqObj "tuple" vs.toArray 0)).objs.size)) _ _ { s with heap := ((s.heap.update a (Obj.mapSeq fun _ => (#[] : Array Value))).push (seqObj "tuple" vs.toArray 0)).push (seqObj "list" #[] 0) }
  have hk0 : (((s.heap.update a (Obj.mapSeq fun _ => (#[] : Array Value))).push (seqObj "tuple" vs.toArray 0)).push (seqObj "list" #[] 0)).get? ((s.heap.update a (Obj.mapSeq fun _ => (#[] : Array Value))).push (seqObj "tuple" vs.toArray 0)).objs.size = some (seqObj "list" #[] 0) := Heap.get?_push_size _ rfl
  have ha0 : (((s.heap.update a (Obj.mapSeq fun _ => (#[] : Array Value))).push (seqObj "tuple" vs.toArray 0)).push (seqObj "list" #[] 0)).get? a = some (seqObj "list" #[] e1) := Heap.get?_push_of_some _ (Heap.get?_push_of_some _ ho1)
  have hcell : ∀ x c, X.env.cells.lookup x = some c → c ≠ a := I.nocell ha (fun v z => nomatch z)
  have I1 : Inv X pins σ H { s with heap := ((s.heap.update a (Obj.mapSeq fun _ => (#[] : Array Value))).push (seqObj "tuple" vs.toArray 0)).push (seqObj "list" #[] 0) } :=
    I.turned (t' := s.toks) (it := a) (fun b o hb e => Heap.get?_push_of_some _ (Heap.get?_push_of_some _ ((emptied.2 b hb).trans e))) hn hL (.inr ho) hcell hP
  have hkn : s.heap.objs.size ≤ ((s.heap.update a (Obj.mapSeq fun _ => (#[] : Array Value))).push (seqObj "tuple" vs.toArray 0)).objs.size := by omega
  have hka : ((s.heap.update a (Obj.mapSeq fun _ => (#[] : Array Value))).push (seqObj "tuple" vs.toArray 0)).objs.size ≠ a := Nat.ne_of_gt (by rw [next_]; exact Nat.lt_succ_of_lt (Heap.lt_size ha))
  generalize ((s.heap.update a (Obj.mapSeq fun _ => (#[] : Array Value))).push (seqObj "tuple" vs.toArray 0)).objs.size = kS at hkn hka hk0 ⊢
  generalize ((s.heap.update a (Obj.mapSeq fun _ => (#[] : Array Value))).push (seqObj "tuple" vs.toArray 0)).push (seqObj "list" #[] 0) = h3 at I1 hk0 ha0 ⊢
  have kL : kS ≠ X.env.locals := Nat.ne_of_gt (Nat.lt_of_lt_of_le I.lt hkn)
  have kF : kS ∉ X.fs := I.nofs hkn
  have kP : ∀ p ∈ X.pn ++ pins, p.1 ≠ kS := fun p hp => Nat.ne_of_lt (Nat.lt_of_lt_of_le (Heap.lt_size (I.pin p hp).1) hkn)
  have kO : X.s_0.heap.objs.size ≤ kS := Nat.le_trans I.sz hkn
  have I2 : Inv X ([(kS, seqObj "list" ([] : List Value).toArray 0), (a, seqObj "list" #[] e1)] ++ pins) σ H { s with heap := h3 } := I1.pins_of fun p hp => by
    rcases List.mem_append.mp hp with hp | hp
    · rcases List.mem_cons.mp hp with rfl | hp
      · exact ⟨hk0, I.hok.fresh hkn, kL, kF, fun v z => nomatch z⟩
      · rw [List.mem_singleton.mp hp]
        exact ⟨ha0, hn, hL, hF, fun v z => nomatch z⟩
    · exact I1.pin p (List.mem_append_right _ hp)
  unfold ksk_rest
  refine wpAny_bind (wpAny_rule ?_)
  first
    | rw [List.forIn_toArray]
    | (rw [← Array.forIn_toList]; simp only [List.toList_toArray])
    | rw [← Array.forIn_toList]
  refine wpAny_bind (ksk_fold (fun i s' => ∃ (H' : Hp) (kA : List Value) (e : Nat), Inv X ([(kS, seqObj "list" kA.toArray e), (a, seqObj "list" #[] e1)] ++ pins) σ H' s' ∧ J H' ∧ kA.length = i ∧ KysAt H' key xs kA) vs 0 { s with heap := h3 }
    ⟨H, [], 0, I2, hJ, rfl, fun j kv e => by simp at e⟩ ?step ?done)
  case step =>
    rintro j u s' hu ⟨H', kA, e, I', hJ', hkl, hK⟩
    rw [Nat.zero_add] at hkl
    have hj : j < vs.length := (List.getElem?_eq_some_iff.mp hu).1
    obtain ⟨x, hx⟩ : ∃ x, xs[j]? = some x := ⟨_, List.getElem?_eq_getElem (by omega)⟩
    obtain ⟨u', hu', rx⟩ := r.get hx
    have eu : u' = u := by
      rw [hu] at hu'
      exact (Option.some.inj hu').symm
    subst eu
    refine wpAny_bind (wpAny_attempt (wpAny_mono (call_ x u' s' H' _ (List.mem_of_getElem? hx) rx I' hJ') (fun v s'' he => ?_) fun _ _ hF => hF.elim))
    obtain ⟨v', H2, J2, rv, hJ2, ht, t, ev, htt⟩ := he
    subst ev
    obtain rfl : v = Value.ref t := rv
    try dsimp only
    obtain ⟨nk, nkn, _, _, _⟩ := J2.pin (kS, seqObj "list" kA.toArray e) (List.mem_append_right _ (List.mem_append_left _ (.head _)))
    obtain ⟨na, nan, _, _, _⟩ := J2.pin (a, seqObj "list" #[] e1) (List.mem_append_right _ (List.mem_append_left _ (.tail _ (.head _))))
    obtain ⟨g, gg, gd, gt, gos⟩ := s''
    have hx1 := Heap.SameBut.update g kS (Obj.mapSeq (·.push (.ref t)))
    obtain ⟨c2, hc2⟩ : ∃ c2, (g.update kS (Obj.mapSeq (·.push (.ref t)))).get? kS = some (seqObj "list" (kA.toArray.push (.ref t)) c2) := ⟨_, get?_update_seq nk (·.push (.ref t))⟩
    refine wpAny_bind (listUpdate_at nk rfl ?_ (by rw [List.size_toArray]; omega) (by rw [Array.size_push, List.size_toArray]; omega))
    have J3 : Inv X pins σ H2 ⟨g, gg, gd, gt, gos⟩ := J2.pins_of fun p hp => J2.pin p (List.mem_append_right _ (List.mem_append_right _ hp))
    have J4 : Inv X pins σ H2 { (⟨g, gg, gd, gt, gos⟩ : Shared) with heap := g.update kS (Obj.mapSeq (·.push (.ref t))) } :=
      J3.turned (t' := gt) (it := kS) (fun b o hb q => (hx1.2 b hb).trans q) nkn kL (.inr kO) (J3.nocell nk (fun v z => nomatch z)) kP
    have eA : (kA ++ [Value.ref t]).toArray = kA.toArray.push (.ref t) := by simp
    refine wpAny_pure ⟨rfl, H2, kA ++ [.ref t], c2, J4.pins_of fun p hp => ?_, hJ2, by rw [List.length_append, List.length_singleton]; omega, (hK.up ht).snoc (by rw [hkl]; exact hx) htt⟩
    rcases List.mem_append.mp hp with hp | hp
    · rcases List.mem_cons.mp hp with rfl | hp
      · exact ⟨by rw [eA]; exact hc2, nkn, kL, kF, fun v z => nomatch z⟩
      · rw [List.mem_singleton.mp hp]
        exact ⟨(hx1.2 a hka.symm).trans na, nan, hL, hF, fun v z => nomatch z⟩
    · exact J4.pin p (List.mem_append_right _ hp)
  case done =>
    rintro s' ⟨H', kA, e, I', hJ', hkl, hK⟩
    rw [Nat.zero_add] at hkl
    obtain ⟨nk, nkn, _, _, _⟩ := I'.pin (kS, seqObj "list" kA.toArray e) (List.mem_append_right _ (List.mem_append_left _ (.head _)))
    obtain ⟨na, nan, _, _, _⟩ := I'.pin (a, seqObj "list" #[] e1) (List.mem_append_right _ (List.mem_append_left _ (.tail _ (.head _))))
    try dsimp only
    refine wpAny_bind (listItems_at nk rfl ?_)
    refine SrtKy.key_end (k := keyOfL H') nk na hka hkl hz (hK.is I') fun h' out c hp hs kp hA _ => ?_
    have J3 : Inv X pins σ H' s' := I'.pins_of fun p hp => I'.pin p (List.mem_append_right _ (List.mem_append_right _ hp))
    have lz : (kA.zip vs).length = xs.length := by rw [List.length_zip, hkl, Nat.min_self, hlen]
    obtain ⟨l', p1, p2⟩ := perm_lift Prod.fst hp ((kA.zip vs).zip xs) (by rw [List.map_fst_zip (by omega)])
    have every : ∀ p ∈ l', keyOfL H' p.1.1 = key p.2 ∧ RelV p.2 p.1.2 := fun p hm => by
      obtain ⟨j, hj⟩ := List.mem_iff_getElem?.mp (p1.mem_iff.mp hm)
      obtain ⟨⟨q1, q2⟩, q3⟩ := p
      rw [List.getElem?_zip_eq_some] at hj
      obtain ⟨hj1, hj2⟩ := hj
      rw [List.getElem?_zip_eq_some] at hj1
      obtain ⟨k1, k2⟩ := hj1
      obtain ⟨t, x, e3, e4, e5⟩ := hK j q1 k1
      obtain ⟨u, hu, ru⟩ := r.get hj2
      rw [k2] at hu
      cases hu
      rw [hj2] at e4
      cases e4
      subst e3
      exact ⟨keyOfL_at e5, ru⟩
    have py : (l'.map Prod.snd).Perm xs := by
      have q := p1.map Prod.snd
      rw [List.map_snd_zip (by omega)] at q
      exact q
    have pw : (l'.map Prod.snd).Pairwise (fun x y => SrtKy.isLt (key y) (key x) = false) := by
      rw [← p2, List.pairwise_map] at hs
      rw [List.pairwise_map]
      refine hs.imp_of_mem fun {p q} hm hm' hpq => ?_
      rw [← (every p hm).1, ← (every q hm').1]
      exact hpq
    have ev : Vals (l'.map Prod.snd) (out.map (·.2)) := by
      rw [← p2, List.map_map]
      exact vals_map l' fun p hm => (every p hm).2
    have hzy : (l'.map Prod.snd).length ≤ sizeLine := by rw [py.length_eq, hlen]; exact hz
    refine h _ H' _ py pw hJ' nan (J3.adopt2 (t' := s'.toks) (a := a) (a2 := kS) (o := .lst (l'.map Prod.snd)) (fun b u h1 h2 q => kp b u h2 h1 q) nan nkn (fun b hb => ?_) ⟨hzy, out.map (·.2), c, ev, hA⟩)
    rcases hb with rfl | rfl
    · exact ⟨.inr ho, hL, J3.nocell na (fun v z => nomatch z), hP⟩
    · exact ⟨.inr kO, kL, J3.nocell nk (fun v z => nomatch z), kP⟩
end
end L2


namespace L2
open PySem PySem.Spec PyProof.Rows LamX NdefX
/-- all that was told stays -/
def HKeep (H H' : Hp) : Prop := ∀ b o, H b = some o → H' b = some o
/-- the lambda as a function of the layer (its body is an expression: none of the statements' field is read) -/
def lamF (X : Cx) (params : Arguments) (scope : Scope) (c' : Addr) : NF := ⟨"<lambda>", X.env.qual ++ "<lambda>", params, [], scope, cloFrom X.env.cells scope.names [], c'⟩
/-- sorted(e, key=lambda ..): js: where the captured names stand among ours -/
def tSortLam (T : List (Addr × Str)) (q : Str) (N : List Str) (js : List Nat) (ta : TA) (tb : TE) : TE := fun σ H Q => ta σ H fun vs H1 => ∃ x : V, vs = [x] ∧ Tabs T H1 ∧ ∀ (c' : Addr) (H2 : Hp), ExtN H1 H2 → Tabs T H2 → H2 c' = some (CodeO c' q) →
  ∃ (a : Addr) (kvs : List (Key × V)) (ks : List Str) (key : Str → Int × Str), x = .ref a ∧ Rd H2 a (.dK kvs) ∧ kvs.map (·.1) = ks.map Sum.inr ∧ ks.length ≤ sizeLine ∧
    (∀ k ∈ ks, ∀ H, HKeep H2 H → tb (startF N [.str k] (js.map (NdefX.slotAt σ))) H fun v H3 => HKeep H H3 ∧ ∃ t, v = .ref t ∧ H3 t = some (.tup [.int (key k).1, .str (key k).2])) ∧
    ∀ (ys : List Str) (H3 : Hp) (p : Addr), ys.Perm ks → ys.Pairwise (fun x y => SrtKy.isLt (key y) (key x) = false) → HKeep H2 H3 → H3 p = none → Q (.ref p) (upd H3 p (.lst (ys.map V.str)))
section
variable {X : Cx}
theorem lam_call {pins : List (Addr × Obj)} {σ : St} {H : Hp} {s : Shared} {A' : Around} {f c' : Addr} {pm ctv : Value} {params : Arguments} {body : Expr} {scope : Scope} {N ps fr : List Str} {js : List Nat} {k : Nat} {us : List Value} {vs : List V} {tb : TE} {Q : VK}
    (I : Inv X pins σ H s) (hf : s.heap.get? f = some (PySem.W.kla_obj "<lambda>" (X.env.qual ++ "<lambda>") params body scope (cloFrom X.env.cells scope.names []) pm c' ctv)) (hc : H c' = some (CodeO c' (X.env.qual ++ "<lambda>")))
    (hb : bindArgs (PySem.W.kla_fn "<lambda>" (X.env.qual ++ "<lambda>") params body scope (cloFrom X.env.cells scope.names []) pm (.ref c') ctv) ⟨us, []⟩ = pure (ps.zip us)) (S : NScope N ps fr scope) (cp : Caps X (cloFrom X.env.cells scope.names []) fr js)
    (hr : Room (k + 1) A') (e0 : Env0 X.prog X.w X.K X.mg X.base A' X.stack s H) (hl : vs.length = ps.length) (r : Vals vs us)
    (hbody : ∀ (A : Around) (outer : List Env) (s : Shared) (H : Hp), Room k (A.deeper (envF (lamF X params scope c') f s.heap.objs.size)) → PE (ncx C8.CX0 X.prog X.w X.K X.mg X.base N (lamF X params scope c') f A outer s H C8.E0) body tb)
    (q : tb (startF N vs (js.map (NdefX.slotAt σ))) H Q) : wpAny (model X.prog X.w) A' (call (.ref f) us) (EP X pins σ fun v H2 => Q v H2 ∧ ∀ b ys, H b = some (.tup ys) → H2 b = some (.tup ys)) (fun _ _ => False) s := by
  obtain ⟨⟨oc, vs', t, hoc, hdc, hvc⟩, _, _⟩ := I.hok c' _ hc
  have rc : codeAny (model X.prog X.w) A' (.call (.ref f) ⟨us, []⟩) (CR C8.CX0 X.stack X.prog X.w H s (fun v H2 => Q v H2 ∧ ∀ b ys, H b = some (.tup ys) → H2 b = some (.tup ys)) C8.E0) s := by
    refine PySem.W.kla_callFunE hr.depth hf rfl S.co S.gen rfl ⟨c', oc, vs', t, rfl, hoc, hdc, hvc⟩ ?_
    rw [hb]
    refine wpAny_pure (wpAny_newFunctionEnv S.nocell (fun ⟨par, _⟩ mem => S.par par (List.of_mem_zip mem).1) (fun h₁ hns hsb => ⟨(e0.mod.nolimit.keeps fun b o e => (e0.bs b o e).1).fresh _ hsb, ?_⟩) S.kind)
    show codeAny _ _ (.expr body (envF (lamF X params scope c') f s.heap.objs.size)) _ _
    have stays : ∀ b o, s.heap.get? b = some o → h₁.get? b = some o := fun b o e => hsb.extBut b o (Nat.ne_of_lt (Heap.lt_size e)) (Heap.get?_push_of_some _ e)
    have J : Inv (ncx C8.CX0 X.prog X.w X.K X.mg X.base N (lamF X params scope c') f A' X.stack s H C8.E0) [] (startF N vs (js.map (NdefX.slotAt σ))) H { s with heap := h₁, toks := s.toks + (ps.zip us).length } :=
      inv_startN (F := lamF X params scope c') S hr.hd e0 hl r (cells_of I cp) hns stays
    refine PySem.W.kla_codeExpr (wpAny_mono ((hbody A' X.stack s H (hr.deeper _)).run [] _ _ H Q J q) (fun v s' hq => ?_) fun e s' hq => hq)
    obtain ⟨w', H', J', rv, hq'⟩ := hq
    exact ⟨w', H', J'.os, J'.bare, J'.base, J'.hok, rv, hq', J'.base.tups⟩
  refine wpAny_call (codeAny_mono rc fun r s' hq => ?_)
  cases r with
  | error e => exact (show False from hq).elim
  | ok fl =>
    cases fl with
    | ret u => exact I.after hq
    | next => exact False.elim hq
    | brk => exact False.elim hq
    | cont => exact False.elim hq
/-- THE RULE: sorted(e, key=lambda each: ..), e a dict of texts -/
theorem pe_sortedLam {T : List (Addr × Str)} {c P : Addr} {k : Nat} {params : Arguments} {body : Expr} {scope : Scope} {N fr : List Str} {js : List Nat} {each : Str} {e : Expr} {ta : TA} {tb : TE} {p pos kpos lpos : Pos} (hg : Gl X "sorted") (hm : X.mg "sorted" = none) (hcalm : X.calm = true) (ha : PA X [e] ta)
    (TB : TabB X.base X.mg c P) (hcode : X.env.code = .ref c) (hmT : (P, X.env.qual ++ "<lambda>") ∈ T) (hu : ∀ p ∈ T, p.1 = P → p.2 = X.env.qual ++ "<lambda>") (hdef : defaultsOf params X.env = ([], []))
    (hfree : ∀ y ∈ scope.names, y.2 = .free → X.env.scope.names.lookup y.1 = some .cell ∨ X.env.scope.names.lookup y.1 = some .free) (hfr : ∀ y ∈ fr, (y, NameKind.free) ∈ scope.names) (hjs : js.map (fun j => X.N[j]?) = fr.map some) (S : NScope N [each] fr scope)
    (hb : ∀ (q : Str) (cl : List (Str × Addr)) (pm cv ctv : Value) (u : Value), bindArgs (PySem.W.kla_fn "<lambda>" q params body scope cl pm cv ctv) ⟨[u], []⟩ = pure [(each, u)]) (hr : Room (k + 3) X.A)
    (hbody : ∀ (A : Around) (outer : List Env) (s : Shared) (H : Hp) (f c' : Addr), Room k (A.deeper (envF (lamF X params scope c') f s.heap.objs.size)) → PE (ncx C8.CX0 X.prog X.w X.K X.mg X.base N (lamF X params scope c') f A outer s H C8.E0) body tb)
    (hse : backTo pos (starEach [e] X.env) = (false, eval e X.env) :: backTo pos (starEach [] X.env) := by rfl) (hpl : (backTo pos (starEach [e] X.env)).any (·.1) = false := by rfl)
    (hall : (backToKw pos (keywordEach [⟨some "key", .Lambda params body scope lpos, kpos⟩] X.env)).all (·.1.isSome) = true := by rfl) (hnone : (backToKw pos (keywordEach [⟨some "key", .Lambda params body scope lpos, kpos⟩] X.env)).any (·.1.isNone) = false := by rfl)
    (hks : (backToKw pos (keywordEach [⟨some "key", .Lambda params body scope lpos, kpos⟩] X.env)).filterMap (·.1) = [Str.ofString "key"] := by rfl) :
    PE X (.Call (.Name "sorted" p) [e] [⟨some "key", .Lambda params body scope lpos, kpos⟩] pos) (tSortLam T (X.env.qual ++ "<lambda>") N js ta tb) := by
  refine ⟨fun pins s σ H Q I h => ?_⟩
  refine wpAny_Call_Name_kw (ld_blt I hg hm PyProof.Rows.Boot.«sorted» ?_ (by decide) (by decide))
  have hfr2 : ∀ y ∈ scope.names, y.2 = .free → ∃ c, X.env.cells.lookup y.1 = some c := fun y hy e => (hfree y hy e).elim (fun z => I.ok.has _ (.inl z)) fun z => I.ok.has _ (.inr z)
  refine PyProof.Rows.callWith_kw (thn (ha.run pos pins s σ H _ I h) fun us s1 hh => ?_) hse hpl hall hnone
  obtain ⟨vs, H1, I1, r1, x, ev, hT, hx⟩ := hh
  subst ev
  obtain ⟨ux, rfl, rx⟩ := vals1 r1
  rw [hks]
  show wpAny _ _ (evalAll ((do let v ← eval (.Lambda params body scope lpos) X.env; standAt pos; pure v) :: (backToKw pos (keywordEach [] X.env)).map (·.2))) _ _ s1
  refine wpAny_evalAll_cons (wpAny_bind (lam_make2 I1 TB hcode hmT hu hT hdef hfr2 fun f c' pm ctv H2 s2 I2 eN hT2 of f0 fF hc => ?_))
  refine wpAny_bind (wpAny_standAt (wpAny_pure (wpAny_evalAll_nil ?_)))
  obtain ⟨a, kvs, ks, key, rfl, hd, hkeys0, hz, hbs, hk⟩ := hx c' H2 eN hT2 hc
  cases rx
  show wpAny _ _ (call (.builtin "sorted") [.ref a] [(Str.ofString "key", .ref f)]) _ _ s2
  obtain ⟨z, lo, vs, rel, dd⟩ := dk_rd I2.hok hd
  obtain ⟨ep, hat⟩ := dd.dictAt
  have hkeys : vs.map (·.1) = ks.map Sum.inr := rel.keys.symm.trans hkeys0
  have hl : vs.length = ks.length := by
    have e := congrArg List.length hkeys
    rw [List.length_map, List.length_map] at e
    exact e
  have h16 : vs.length ≤ sizeLine := by rw [hl]; exact hz
  refine PyProof.Rows.call_function_entry_kw PyProof.Rows.kind_sorted PyProof.Rows.plain_sorted PyProof.Rows.entry_sorted (ksk_s1 _ _) ?_
  unfold Builtin.«sorted»
  refine wpAny_bind (m := checkCount "sorted" 1 1 _) (wpAny_pure ?_)
  refine wpAny_bind (PySem.W.kdu_collect (A := X.A.in1) (PySem.W.kdl_dict (knd := mixKind X.prog X.w) (kvs := vs) (ep := ep) lo) (I2.ok.hd hcalm) hat h16 fun h' tk acc hk2 hacc => ?_)
  have many : acc.toList.length = ks.length := by rw [Array.length_toList, hacc.1, hl]
  have hS : Vals (ks.map V.str) acc.toList := by
    have rows : Vals (vs.map fun p => kV p.1) acc.toList := keys_at (by rw [Array.length_toList]; exact hacc.1) fun j v e => hacc.2 j v (by rw [← Array.getElem?_toList]; exact e)
    have ek : (vs.map fun p => kV p.1) = ks.map V.str := by
      have e := congrArg (List.map kV) hkeys
      rw [List.map_map, List.map_map] at e
      exact e
    rw [ek] at rows
    exact rows
  have I3 : Inv X pins σ H2 { s2 with heap := h', toks := tk } := I2.kept hk2
  refine wpAny_bind (wpAny_newList ?_ (by rw [many]; exact hz))
  have laid_ : (h'.push (seqObj "list" acc.toList.toArray 0)).get? h'.objs.size = some (seqObj "list" acc.toList.toArray 0) := Heap.get?_push_size _ rfl
  show wpAny _ _ _ _ _ { s2 with heap := h'.push (seqObj "list" acc.toList.toArray 0), toks := tk }
  obtain ⟨fo, efo⟩ : ∃ fo, fo = PySem.W.kla_obj "<lambda>" (X.env.qual ++ "<lambda>") params body scope (cloFrom X.env.cells scope.names []) pm c' ctv := ⟨_, rfl⟩
  rw [← efo] at of
  have of3 : h'.get? f = some fo := hk2 _ _ of
  have fL : f ≠ X.env.locals := fun e => by
    obtain ⟨m, ⟨o, es, ep2, ho, hd2, _⟩, _⟩ := I2.loc
    rw [← e, of] at ho
    have ho' := Option.some.inj ho
    rw [← ho', efo] at hd2
    cases hd2
  have fFs : f ∉ X.fs := fun hm => fF (I2.ok.stk.elim (fun e => by rw [e]; exact hm) fun e => by rw [e.1]; exact (List.mem_filterMap.mpr (by
    obtain ⟨x, hx, q⟩ := List.mem_filterMap.mp hm
    exact ⟨x, List.mem_cons_of_mem _ hx, q⟩)))
  have I4 : Inv X ((f, fo) :: pins) σ H2 { s2 with heap := h'.push (seqObj "list" acc.toList.toArray 0), toks := tk } := (I3.kept (t' := tk) fun b u e => Heap.get?_push_of_some _ e).pins_of fun p hp => by
    rcases List.mem_cons.mp hp with rfl | hp
    · exact ⟨Heap.get?_push_of_some _ of3, f0, fL, fFs, fun v z => by
        rw [efo] at z
        cases z⟩
    · exact ⟨Heap.get?_push_of_some _ (I3.pin p (List.mem_append_right _ hp)).1, (I3.pin p (List.mem_append_right _ hp)).2⟩
  refine wpAny_bind (wpAny_holding (wpAny_call_entry_kw PyProof.Rows.slot_list_sort ⟨_, laid_, rfl⟩ PyProof.Rows.entry_list_sort ?_ (ksk_l1 _ _)))
  rw [ksk_t1]
  have hlt : ∀ p ∈ X.pn ++ ((f, fo) :: pins), p.1 ≠ h'.objs.size := fun p hp => by
    have lt : p.1 < h'.objs.size := by
      rcases List.mem_append.mp hp with hp | hp
      · exact Heap.lt_size (I3.pin p (List.mem_append_left _ hp)).1
      · rcases List.mem_cons.mp hp with rfl | hp
        · exact Heap.lt_size of3
        · exact Heap.lt_size (I3.pin p (List.mem_append_right _ hp)).1
    exact Nat.ne_of_lt lt
  refine key_sort (A' := X.A.in1.in1) (a := h'.objs.size) (xs := ks.map V.str) (key := fun v => match v with | .str y => key y | _ => (0, "")) (J := HKeep H2) I4 (fun _ _ e => e) hS laid_ (I3.hok.fresh (Nat.le_refl _)) I3.sz (Nat.ne_of_gt I3.lt) (I3.nofs (Nat.le_refl _)) hlt (by rw [many]; exact hz) (fun x u s' H' pins' hxm rx I' hJ => ?_) (fun ys H3 s3 py pw hJ hn J3 => ?_)
  · obtain ⟨y, hy, rfl⟩ := List.mem_map.mp hxm
    obtain ⟨of5, _, _, _, _⟩ := I'.pin (f, fo) (List.mem_append_right _ (List.mem_append_right _ (.head _)))
    rw [efo] at of5
    refine wpAny_mono (lam_call (vs := [V.str y]) (ps := [each]) (Q := fun v H3 => HKeep H' H3 ∧ ∃ t, v = .ref t ∧ H3 t = some (.tup [.int (key y).1, .str (key y).2])) I' of5 (hJ _ _ hc) (hb _ _ _ _ _ _) S (Caps.made I'.ok hfree hfr hjs) (hr.in1.in1) I'.env0.in1.in1 rfl (.cons rx .nil)
      (fun A outer s H hr2 => hbody A outer s H f c' hr2) (hbs y hy H' hJ)) (fun v s' hq => ?_) fun _ _ z => z
    obtain ⟨w, H4, I5, rv, ⟨q1, q2⟩, q3⟩ := hq
    exact ⟨w, H4, I5, rv, fun b o e => q1 b o (hJ b o e), q3, q2⟩
  · obtain ⟨zs, pz, ez⟩ := perm_lift V.str py ks rfl
    refine ⟨_, rfl, wpAny_pure ⟨_, rfl, .ref h'.objs.size, upd H3 h'.objs.size (.lst (zs.map V.str)), ?_, rfl, hk zs H3 _ pz ?_ hJ hn⟩⟩
    · rw [ez]
      exact J3.pins_of fun p hp => J3.pin p (List.mem_append_right _ (List.mem_cons_of_mem _ hp))
    · rw [← ez, List.pairwise_map] at pw
      exact pw
end
end L2


/-! y = {k: v for ..}, y a local; an expression whose answer is locked -/
namespace L2
open PySem PySem.Spec PyProof.Rows
section
variable {X : Cx} {i : Nat} {y : Str} {py : Pos} {kx vx tg iter : Expr} {ifs : List Expr} {scope : Scope} {own : List (Str × Nat)} {pos spos : Pos} {wi : TI} {g : TG} {tt : TT} {tk tv : TE}
theorem swd_true {gs : List Comprehension} {l : Nat} {env : Env} (kind : env.scope.kind = .function) (loc : env.scope.names.lookup y = some .local) (line : (py.line == pos.line) = true) (ap : (scope.names.any fun (n, k) => n == y && (k == .local || k == .cell)) = false) :
    swapsWith (.DictComp kx vx gs scope pos) (some (.Name y py)) l env = pure true := by
  have h1 : env.kindOf y = some .local := loc
  have h2 : env.blockKind = .function := by unfold Env.blockKind; rw [kind] <;> rfl
  unfold swapsWith
  simp only [h2, h1, ap, Expr.pos, line]
  rfl
theorem ps_setDc (hc : X.calm = true) (nd : X.N.Nodup) (hy : X.N[i]? = some y) (loc : X.env.scope.names.lookup y = some .local) (sw : swapsWith (.DictComp kx vx [⟨tg, iter, ifs, 0⟩] scope pos) (some (.Name y py)) spos.line X.env = pure true) (hi : PI X tg iter wi) (ok : BlkOk X.N X.env.scope scope own)
    (hg : ∀ (s : Shared) (H : Hp) (C : Addr) (cl : List (Str × Addr)) (fp : List Addr), PG (X.blk s H scope (compEnvC scope cl C X.env) fp) tg g) (ht : ∀ (s : Shared) (H : Hp) (C : Addr) (cl : List (Str × Addr)) (fp : List Addr), PTs (X.blk s H scope (compEnvC scope cl C X.env) fp) ifs tt)
    (hk : ∀ (s : Shared) (H : Hp) (C : Addr) (cl : List (Str × Addr)) (fp : List Addr), PE (X.blk s H scope (compEnvC scope cl C X.env) fp) kx tk)
    (hv : ∀ (s : Shared) (H : Hp) (C : Addr) (cl : List (Str × Addr)) (fp : List Addr), PE (X.blk s H scope (compEnvC scope cl C X.env) fp) vx tv) (hs : ∀ x, foldedSetIterable iter X.env x = pure x := by intro _; rfl) :
    PS X (.Assign [.Name y py] (.DictComp kx vx [⟨tg, iter, ifs, 0⟩] scope pos) spos) (tAsg (tDc wi g tt tk tv (own.map (·.2))) (gName i)) := by
  constructor
  intro pins s σ H D I h
  have want : tDc wi g tt tk tv (own.map (·.2)) σ H (fun x H1 => gName i x σ H1 D.nx) := h
  rw [exec_Assign_Name_used _ _ _ _ sw]
  refine wpAny_bind (wpAny_standAt (wpAny_bind ?_))
  show wpAny _ X.A (do let _ ← comprehension (.DictComp kx vx [⟨tg, iter, ifs, 0⟩] scope pos) scope X.env (firstIterPos [⟨tg, iter, ifs, 0⟩] pos) newDict false (eval iter X.env) (some (assign (.Name y py) X.env))) _ _ s
  refine wpAny_bind (thn (dc_core (Qf := fun _ s' => SP X pins D .next s') hc nd I hi ok hg ht hk hv hs want fun L C s' m H' J q hn f => ?_) fun _ _ z => wpAny_pure (wpAny_pure z))
  show wpAny _ _ (assign (.Name y py) X.env (.ref L)) _ _ _
  refine wpAny_assign_Name (store_ok2 (v := V.ref L) J nd hy (.inl loc) rfl (fun s2 J2 ⟨a, sb, ha⟩ => ?_) (.inr loc))
  obtain ⟨z0, z1, z2, z3, z4, z5⟩ := f
  have off : C ≠ a := ha.elim (fun e => e ▸ z1) fun e => (z4 y a e).symm
  exact ⟨m, hn.sameBut sb off, fun h3 sb3 => ⟨_, H', J2.turned (t' := s2.toks) (fun b o hb e => (sb3.2 b hb).trans e) z0 z1 z3 z4 z5, q⟩⟩
/-- e, its answer locked from then on -/
def tLk (te : TE) : TE := fun σ H Q => te σ H fun x H1 => ∃ d u, x = .ref d ∧ H1 d = some u ∧ Mut (some u) ∧ ∀ od, Q (.ref d) (upd H1 d (.frz od u))
theorem pe_lk {e : Expr} {te : TE} (he : PE X e te) : PE X e (tLk te) := by
  constructor
  intro pins s σ H Q I h
  refine thn (he.run pins s σ H _ I h) fun v s1 ⟨x, H1, J, r, d, u, ex, hd, mu, q⟩ => ?_
  subst ex
  obtain ⟨od, J1⟩ := J.lock hd mu
  exact ⟨.ref d, _, J1, r, q od⟩
end
end L2


namespace FT
open PySem L2
/-- the i-th statement of the row's text -/
def top (i : Nat) : Stmt := PySem.Challenge.pw_flagtrees_k19_whole_there_and_back.main.body.getD i (.Pass ⟨0, 0, 0, 0⟩)
abbrev s__wall : Stmt := top 0
abbrev s_InvalidForest___init__ : Stmt := inClass (top 3) 0
abbrev s_UnknownName___init__ : Stmt := inClass (top 4) 0
abbrev s_InvalidUsers___init__ : Stmt := inClass (top 5) 0
abbrev s_InvalidSizes___init__ : Stmt := inClass (top 6) 0
abbrev s_InvalidPlace___init__ : Stmt := inClass (top 7) 0
abbrev s_InvalidLists___init__ : Stmt := inClass (top 8) 0
abbrev s_is_name : Stmt := top 12
abbrev s_is_ancestor : Stmt := top 13
abbrev s_need_parents : Stmt := top 14
abbrev s_Forest___init__ : Stmt := inClass (top 15) 2
abbrev s_Forest___eq__ : Stmt := inClass (top 15) 3
abbrev s_Forest_flags : Stmt := inClass (top 15) 4
abbrev s_Forest_parents : Stmt := inClass (top 15) 5
abbrev s_Forest_text : Stmt := inClass (top 15) 6
abbrev s_Forest_children : Stmt := inClass (top 15) 7
abbrev s_Forest_path : Stmt := inClass (top 15) 8
abbrev s_Forest_under : Stmt := inClass (top 15) 9
abbrev s_Forest_distance : Stmt := inClass (top 15) 10
abbrev s_Forest_walk : Stmt := inClass (top 15) 11
abbrev s_Forest_parse : Stmt := inClass (top 15) 12
abbrev s_path_in : Stmt := top 16
abbrev s_places_of : Stmt := top 17
abbrev s_need_place : Stmt := top 18
abbrev s_is_integer : Stmt := top 20
abbrev s_need_users : Stmt := top 21
abbrev s_need_feasible : Stmt := top 22
abbrev s_residents_of : Stmt := top 23
abbrev s_sizes_of : Stmt := top 25
abbrev s_Assignment___init__ : Stmt := inClass (top 26) 1
abbrev s_Assignment___eq__ : Stmt := inClass (top 26) 2
abbrev s_Assignment_forest : Stmt := inClass (top 26) 3
abbrev s_Assignment_places : Stmt := inClass (top 26) 4
abbrev s_Assignment_total : Stmt := inClass (top 26) 5
abbrev s_Assignment_sizes : Stmt := inClass (top 26) 6
abbrev s_Assignment_flags_of : Stmt := inClass (top 26) 7
abbrev s_Assignment_has : Stmt := inClass (top 26) 8
abbrev s_Assignment_users_of : Stmt := inClass (top 26) 9
abbrev s_Assignment_at : Stmt := inClass (top 26) 10
abbrev s_Assignment_moved : Stmt := inClass (top 26) 11
abbrev s_Assignment_empty : Stmt := inClass (top 26) 12
abbrev s_amounts_of : Stmt := top 28
abbrev s_crossings : Stmt := top 29
abbrev s_edge_order : Stmt := top 30
abbrev s_edges_at : Stmt := top 32
abbrev s_changed_lists : Stmt := top 33
abbrev s_listed_sizes : Stmt := top 34
abbrev s_listed_places : Stmt := top 35
abbrev s_are_lists : Stmt := top 36
abbrev s_Rollout___init__ : Stmt := inClass (top 37) 0
abbrev s_Rollout___eq__ : Stmt := inClass (top 37) 1
abbrev s_Rollout_forest : Stmt := inClass (top 37) 2
abbrev s_Rollout_total : Stmt := inClass (top 37) 3
abbrev s_Rollout_lists : Stmt := inClass (top 37) 4
abbrev s_Rollout_sizes : Stmt := inClass (top 37) 5
abbrev s_Rollout_assignment : Stmt := inClass (top 37) 6
abbrev s_Rollout_depth : Stmt := inClass (top 37) 7
abbrev s_Rollout_change : Stmt := inClass (top 37) 8
abbrev s_Rollout_resize : Stmt := inClass (top 37) 9
abbrev s_Rollout_undo : Stmt := inClass (top 37) 10
abbrev s_Rollout_load : Stmt := inClass (top 37) 11
abbrev s__law_begin : Stmt := top 39
abbrev s__law_mixed : Stmt := top 40
abbrev s__law_take : Stmt := top 41
abbrev s__law_pick : Stmt := top 42
abbrev s__law_forest : Stmt := top 43
abbrev s__law_sizes : Stmt := top 44
abbrev s__law_fits : Stmt := top 45
abbrev s__law_path : Stmt := top 46
abbrev s__law_counted : Stmt := top 47
abbrev s__law_drawn_lists : Stmt := top 48
abbrev s__law_is_direct : Stmt := top 49
abbrev s__law_flipped : Stmt := top 50
abbrev s_law : Stmt := top 51
end FT


/-! heaps, lists, texts: what all the laws' proofs share. -/
namespace FT
open PySem L2 TL
abbrev Same (H H' : Hp) : Prop := ∀ b o, H b = some o → H' b = some o
theorem Same.refl {H : Hp} : Same H H := fun _ _ e => e
theorem Same.trans {H H1 H2 : Hp} (a : Same H H1) (b : Same H1 H2) : Same H H2 := fun x o e => b x o (a x o e)
theorem Same.free {H H' : Hp} {p : Addr} (s : Same H H') (n : H' p = none) : H p = none := by
  cases e : H p with
  | none => rfl
  | some o =>
    rw [s p o e] at n
    cases n
theorem Same.sql {K : PySem.W.Frag} {H H' : Hp} {a : Addr} {xs : List V} (e : Same H H') (h : SqL K H a xs) : SqL K H' a xs := by
  rcases h with (h | ⟨o, h⟩) | h
  · exact .inl (.inl (e _ _ h))
  · exact .inl (.inr ⟨o, e _ _ h⟩)
  · exact .inr h
theorem Same.sqt {K : PySem.W.Frag} {H H' : Hp} {a : Addr} {xs : List V} (e : Same H H') (h : SqT K H a xs) : SqT K H' a xs := by
  rcases h with (h | ⟨o, h⟩) | h
  · exact .inl (.inl (e _ _ h))
  · exact .inl (.inr ⟨o, e _ _ h⟩)
  · exact .inr h
theorem same_new {H : Hp} {p : Addr} {o : HO} (n : H p = none) : Same H (upd H p o) := fun b u e => by
  rw [upd_ne (ne_of_none e n)]
  exact e
theorem Same.put {H H' : Hp} {p : Addr} {o : HO} (s : Same H H') (n : H p = none) : Same H (upd H' p o) := fun b u e => by
  rw [upd_ne (ne_of_none e n)]
  exact s b u e
/-- what the text finds among the module's names -/
structure Nm (mg : Str → Option Value) : Prop where
  abs : mg "abs" = none
  len : mg "len" = none
  rng : mg "range" = none
  enu : mg "enumerate" = none
  zip : mg "zip" = none
  isi : mg "isinstance" = none
  all : mg "all" = none
  srt : mg "sorted" = none
  lst : mg "list" = none
  dct : mg "dict" = none
  str : mg "str" = none
  int : mg "int" = none
  tup : mg "tuple" = none
  sum : mg "sum" = none
  min : mg "min" = none
  max : mg "max" = none
  rep : mg "repr" = none
  bool : mg "bool" = none
  any : mg "any" = none
  vE : mg "ValueError" = none
theorem take_more {α : Type} {l : List α} {i : Nat} {x : α} (h : l[i]? = some x) : l.take (i + 1) = l.take i ++ [x] := by
  rw [List.take_succ, h] <;> rfl
theorem cut_ints (ns : List Int) (lo hi : Option Int) : ∃ ms : List Int, cutV (ns.map V.int) lo hi = ms.map V.int ∧ ms.length ≤ ns.length := by
  unfold cutV
  generalize HT.sIx (ns.map V.int).length 0 lo = i
  generalize HT.sIx (ns.map V.int).length (ns.map V.int).length hi = j
  refine ⟨(ns.drop i).take (j - i), by rw [List.map_take, List.map_drop], ?_⟩
  rw [List.length_take, List.length_drop]
  omega
theorem cut_take {xs : List V} {j : Nat} (h : j ≤ xs.length) : cutV xs none (some (j : Int)) = xs.take j := by
  have e : HT.sIx xs.length xs.length (some (j : Int)) = min j xs.length := HT.sIx_nat _ _ j
  show (xs.drop 0).take (HT.sIx xs.length xs.length (some (j : Int)) - 0) = xs.take j
  rw [e, List.drop_zero, Nat.sub_zero, Nat.min_eq_left h]
theorem map_at {α : Type} {f : α → V} {cells : List α} {j : Nat} {z : α} (h : cells[j]? = some z) : (cells.map f)[j]? = some (f z) := by
  rw [List.getElem?_map, h] <;> rfl
theorem map_of {α : Type} {f : α → V} {l : List α} {j : Nat} {x : V} (h : (l.map f)[j]? = some x) : ∃ z, l[j]? = some z ∧ x = f z := by
  rw [List.getElem?_map] at h
  obtain ⟨z, hz, rfl⟩ := Option.map_eq_some_iff.mp h
  exact ⟨z, hz, rfl⟩
theorem ixN_nat {n j : Nat} (h : j < n) : ixN n (j : Int) = some j := by
  unfold ixN
  rw [if_pos (by omega), if_pos (by omega)]
  simp
theorem map_erase {α β : Type} (f : α → β) : ∀ (l : List α) (i : Nat), (l.map f).eraseIdx i = (l.eraseIdx i).map f
  | [], _ => rfl
  | _ :: _, 0 => rfl
  | a :: l, i + 1 => congrArg (List.cons (f a)) (map_erase f l i)
theorem erase_perm {α : Type} : ∀ (l : List α) (i : Nat) (h : i < l.length), (l[i] :: l.eraseIdx i).Perm l
  | [], _, h => absurd h (Nat.not_lt_zero _)
  | _ :: _, 0, _ => .refl _
  | a :: l, i + 1, h => (List.Perm.swap a _ _).trans ((erase_perm l i (Nat.lt_of_succ_lt_succ h)).cons a)
/-- how many items stand there -/
def many (H : Hp) (a : Addr) : Nat := match H a with
  | some (.lst xs) => xs.length
  | _ => 0
theorem many_at {H : Hp} {a : Addr} {xs : List V} (h : H a = some (.lst xs)) : many H a = xs.length := by
  unfold many
  rw [h]
theorem items_strs {Pz : Str → Prop} {ws : List Str} (h : ∀ z ∈ ws, Pz z) : ∀ (i : Nat) (x : V), (ws.map V.str)[i]? = some x → ∃ z, x = .str z ∧ Pz z := fun i x e => by
  obtain ⟨z, hz, rfl⟩ := map_of e
  exact ⟨z, rfl, h z (List.mem_of_getElem? hz)⟩
theorem items_ints {Pz : Int → Prop} {ws : List Int} (h : ∀ z ∈ ws, Pz z) : ∀ (i : Nat) (x : V), (ws.map V.int)[i]? = some x → ∃ z, x = .int z ∧ Pz z := fun i x e => by
  obtain ⟨z, hz, rfl⟩ := map_of e
  exact ⟨z, rfl, h z (List.mem_of_getElem? hz)⟩
theorem inV_strs (x : Str) : ∀ fs : List Str, inV (.str x) (fs.map V.str) = decide (x ∈ fs)
  | [] => rfl
  | y :: fs => by
    show (eqV (.str y) (.str x) || inV (.str x) (fs.map V.str)) = _
    rw [inV_strs x fs]
    have e : eqV (.str y) (.str x) = decide (x = y) := by
      show (y == x) = decide (x = y)
      rw [Bool.eq_iff_iff, beq_iff_eq, decide_eq_true_eq]
      exact eq_comm
    rw [e, Bool.eq_iff_iff]
    simp only [Bool.or_eq_true, decide_eq_true_eq, List.mem_cons]
theorem flat_strs : ∀ fs : List Str, (fs.map V.str).all flatV = true
  | [] => rfl
  | _ :: fs => flat_strs fs
/-! ### texts -/
/-- a name: letters, one to eight, not self -/
def NameL (z : Str) : Prop := (∀ c ∈ tl z, 97 ≤ c ∧ c ≤ 122) ∧ 1 ≤ (tl z).length ∧ (tl z).length ≤ 8 ∧ z ≠ "self"
instance (z : Str) : Decidable (NameL z) := by unfold NameL; infer_instance
theorem NameL.len {z : Str} (h : NameL z) : 1 ≤ z.length ∧ z.length ≤ 8 := by
  rw [len_tl]
  exact ⟨h.2.1, h.2.2.1⟩
theorem NameL.self {z : Str} (h : NameL z) : z ≠ "self" := h.2.2.2
theorem NameL.ne {z : Str} (h : NameL z) : z ≠ "" := fun e => by
  subst e
  have := h.2.1
  revert this
  decide +kernel
theorem strOk_name {z : Str} (h : NameL z) : PyData.strOk z = true := by
  unfold PyData.strOk
  simp only [Bool.and_eq_true, decide_eq_true_eq, Array.all_eq_true_iff_forall_mem]
  intro c hc
  have := h.1 c (Array.mem_toList_iff.mpr hc)
  omega
theorem strOk_root : PyData.strOk "" = true := by decide +kernel
/-! ### order -/
theorem rising_all : ∀ (l : List Str) (p : Str), PyProof.Rows.risingS p l = true → (∀ y ∈ l, tl p ≤ tl y) ∧ l.Pairwise (fun a b => tl a ≤ tl b)
  | [], p, _ => ⟨fun y h => (by cases h), List.Pairwise.nil⟩
  | x :: r, p, h => by
    have h' : (!PySem.Spec.ltCps x.cps.toList p.cps.toList && PyProof.Rows.risingS x r) = true := h
    rw [Bool.and_eq_true, PyProof.Rows.ltCps_eq] at h'
    obtain ⟨h1, h2⟩ := h'
    have px : tl p ≤ tl x := by
      show ¬ (tl x < tl p)
      intro z
      rw [decide_eq_true z] at h1
      cases h1
    obtain ⟨i1, i2⟩ := rising_all r x h2
    refine ⟨fun y hy => ?_, List.pairwise_cons.mpr ⟨i1, i2⟩⟩
    rcases List.mem_cons.mp hy with rfl | hy
    · exact px
    · exact List.le_trans px (i1 y hy)
theorem sorted_pw {l : List Str} (h : PyProof.Rows.sortedS l = true) : l.Pairwise (fun a b => tl a ≤ tl b) := by
  cases l with
  | nil => exact .nil
  | cons x r =>
    obtain ⟨i1, i2⟩ := rising_all r x h
    exact List.pairwise_cons.mpr ⟨i1, i2⟩
/-- one order of the same texts -/
theorem sorted_one {l m : List Str} (p : l.Perm m) (hl : PyProof.Rows.sortedS l = true) (hm : PyProof.Rows.sortedS m = true) : l = m :=
  List.Perm.eq_of_pairwise (le := fun a b => tl a ≤ tl b) (fun a b _ _ h1 h2 => ext_tl (List.le_antisymm h1 h2)) (sorted_pw hl) (sorted_pw hm) p
/-! ### comprehensions of dicts, locks -/
/-- a dict comprehension over a walk: Pv by the turn and the heap (the new dict at D within) -/
theorem dc_it {J : It} {n : Nat} {G : Hp → Prop} {Y : Nat → Hp → V → Hp → Prop} (w : Walk J n G Y) {g : TG} {tt : TT} {tk tv : TE} {vs : List Nat} {σ : St} {H1 : Hp} {D : Addr} {Qd : Hp → Prop} (Pv : Nat → Hp → Prop) (h0 : Pv 0 (upd H1 D (.dK []))) (hG : ∀ i H, i ≤ n → Pv i H → G H)
    (hs : ∀ i x H H', i < n → Pv i H → Y i H x H' → g x (wipe σ vs) H' fun σ2 H2 => wipe σ2 vs = wipe σ vs ∧ tt σ2 H2 fun b H3 =>
      if b = true then tk σ2 H3 fun y H4 => tv σ2 H4 fun z H5 => ∃ kvs k, y = kV k ∧ H5 D = some (.dK kvs) ∧ kvs.length < sizeLine ∧ Pv (i + 1) (upd H5 D (.dK (putK kvs k z))) else Pv (i + 1) H3) (hd : ∀ H, Pv n H → Qd H) :
    ∃ W : Nat → Nat → Hp → Prop, (∃ m, W 0 m (upd H1 D (.dK []))) ∧ ∀ i m H, W i m H →
      (J.stop i H ∧ Qd H) ∨ (J.go i H ∧ ∃ Nx : Hp → Prop, (∀ H', Nx H' → ∃ m', m' < m ∧ W (i + 1) m' H') ∧ ∀ x H', J.yld i H x H' → g x (wipe σ vs) H' fun σ2 H2 => wipe σ2 vs = wipe σ vs ∧ tt σ2 H2 fun b H3 =>
        if b = true then tk σ2 H3 fun y H4 => tv σ2 H4 fun z H5 => ∃ kvs k, y = kV k ∧ H5 D = some (.dK kvs) ∧ kvs.length < sizeLine ∧ Nx (upd H5 D (.dK (putK kvs k z))) else Nx H3) := by
  refine ⟨fun i m H => m = n - i ∧ i ≤ n ∧ Pv i H, ⟨n, by simp, Nat.zero_le _, h0⟩, fun i m H ⟨em, hi, p⟩ => ?_⟩
  have gh := hG i H hi p
  rcases Nat.lt_or_ge i n with lt | ge
  · exact .inr ⟨w.goes i H lt gh, Pv (i + 1), fun H' p' => ⟨n - (i + 1), by omega, rfl, lt, p'⟩, fun x H' y => hs i x H H' lt p (w.yields i H x H' lt gh y)⟩
  · have ei : i = n := by omega
    subst ei
    exact .inl ⟨w.stops H gh, hd H p⟩
theorem unlock_same {H H' : Hp} {q : Addr} {u : HO} {o : Obj} (e : H q = some u) (s : Same (upd H q (.frz o u)) H') : Same H (upd H' q u) := fun b x h => by
  by_cases z : b = q
  · subst z
    rw [upd_same]
    exact e.symm.trans h |>.symm ▸ rfl
  · rw [upd_ne z]
    exact s b x (by rw [upd_ne z]; exact h)
/-! ### dicts with text keys, by any values -/
/-- a dict of values by texts -/
def kvT (t : List (Str × V)) : List (Key × V) := t.map fun p => (Sum.inr p.1, p.2)
theorem kvT_len (t : List (Str × V)) : (kvT t).length = t.length := by unfold kvT; rw [List.length_map]
theorem kvT_app (t : List (Str × V)) (f : Str) (z : V) : kvT t ++ [(Sum.inr f, z)] = kvT (t ++ [(f, z)]) := by
  unfold kvT
  rw [List.map_append] <;> rfl
theorem kvT_any (t : List (Str × V)) (f : Str) : ((kvT t).any fun kv => decide (kv.1 = Sum.inr f)) = decide (f ∈ t.map Prod.fst) := by
  induction t with
  | nil => rfl
  | cons p t ih =>
    show (decide ((Sum.inr p.1 : Key) = Sum.inr f) || ((kvT t).any fun kv => decide (kv.1 = Sum.inr f))) = _
    rw [ih, Bool.eq_iff_iff]
    simp only [Bool.or_eq_true, decide_eq_true_eq, List.map_cons, List.mem_cons]
    constructor
    · rintro (h | h)
      · exact .inl (Sum.inr.inj h).symm
      · exact .inr h
    · rintro (h | h)
      · exact .inl (by rw [h])
      · exact .inr h
theorem kvT_put {t : List (Str × V)} {f : Str} {z : V} (n : f ∉ t.map Prod.fst) : putK (kvT t) (Sum.inr f) z = kvT (t ++ [(f, z)]) := by
  unfold putK
  rw [kvT_any, decide_eq_false n, if_neg (by decide), kvT_app]
/-- the value of a key -/
def look (t : List (Str × V)) (f : Str) : Option V := (t.find? fun p => decide (p.1 = f)).map Prod.snd
theorem look_cons (p : Str × V) (t : List (Str × V)) (f : Str) : look (p :: t) f = if p.1 = f then some p.2 else look t f := by
  unfold look
  rw [List.find?_cons]
  by_cases e : p.1 = f
  · rw [if_pos e, decide_eq_true e] <;> rfl
  · rw [if_neg e, decide_eq_false e]
theorem kvT_val : ∀ (t : List (Str × V)) (f : Str), valV (kvT t) (Sum.inr f) = look t f
  | [], f => rfl
  | p :: t, f => by
    rw [look_cons]
    by_cases e : p.1 = f
    · rw [if_pos e]
      exact valV_pos (by show (Sum.inr p.1 : Key) = Sum.inr f; rw [e])
    · rw [if_neg e]
      exact (valV_neg (p := (Sum.inr p.1, p.2)) (fun z => e (Sum.inr.inj z))).trans (kvT_val t f)
theorem look_none {t : List (Str × V)} {f : Str} (n : f ∉ t.map Prod.fst) : look t f = none := by
  induction t with
  | nil => rfl
  | cons p t ih =>
    rw [List.map_cons, List.mem_cons] at n
    rw [look_cons, if_neg (fun e => n (.inl e.symm))]
    exact ih fun m => n (.inr m)
theorem look_some {t : List (Str × V)} {f : Str} (h : f ∈ t.map Prod.fst) : ∃ v, look t f = some v := by
  induction t with
  | nil => cases h
  | cons p t ih =>
    rw [look_cons]
    by_cases e : p.1 = f
    · exact ⟨_, if_pos e⟩
    · rw [if_neg e]
      exact ih ((List.mem_cons.mp h).resolve_left fun z => e z.symm)
theorem look_has {t : List (Str × V)} {f : Str} : (look t f).isSome = decide (f ∈ t.map Prod.fst) := by
  by_cases h : f ∈ t.map Prod.fst
  · obtain ⟨v, e⟩ := look_some h
    rw [e, decide_eq_true h] <;> rfl
  · rw [look_none h, decide_eq_false h] <;> rfl
theorem look_mem {t : List (Str × V)} {f : Str} {v : V} (h : look t f = some v) : (f, v) ∈ t := by
  induction t with
  | nil => cases h
  | cons p t ih =>
    rw [look_cons] at h
    by_cases e : p.1 = f
    · rw [if_pos e] at h
      cases h
      exact List.mem_cons.mpr (.inl (by rw [← e]))
    · rw [if_neg e] at h
      exact List.mem_cons_of_mem _ (ih h)
theorem look_of {t : List (Str × V)} {f : Str} {v : V} (nd : (t.map Prod.fst).Nodup) (h : (f, v) ∈ t) : look t f = some v := by
  induction t with
  | nil => cases h
  | cons p t ih =>
    obtain ⟨n1, n2⟩ := List.nodup_cons.mp nd
    rw [look_cons]
    rcases List.mem_cons.mp h with e | h
    · subst e
      exact if_pos rfl
    · rw [if_neg fun e => n1 (by rw [e]; exact List.mem_map.mpr ⟨_, h, rfl⟩)]
      exact ih n2 h
theorem look_app {t u : List (Str × V)} {f : Str} : look (t ++ u) f = (look t f).or (look u f) := by
  induction t with
  | nil => rfl
  | cons p t ih =>
    rw [List.cons_append, look_cons, look_cons, ih]
    by_cases e : p.1 = f
    · rw [if_pos e, if_pos e] <;> rfl
    · rw [if_neg e, if_neg e]
theorem look_perm {t u : List (Str × V)} (nd : (t.map Prod.fst).Nodup) (p : t.Perm u) (f : Str) : look t f = look u f := by
  cases e : look t f with
  | some v => exact (look_of ((p.map _).nodup_iff.mp nd) (p.mem_iff.mp (look_mem e))).symm
  | none =>
    cases e2 : look u f with
    | none => rfl
    | some v =>
      have := look_of nd (p.mem_iff.mpr (look_mem e2))
      rw [e] at this
      cases this
/-- a key's value, written anew -/
def putT (t : List (Str × V)) (f : Str) (z : V) : List (Str × V) := if f ∈ t.map Prod.fst then t.map fun p => if p.1 = f then (p.1, z) else p else t ++ [(f, z)]
theorem kvT_putT (t : List (Str × V)) (f : Str) (z : V) : putK (kvT t) (Sum.inr f) z = kvT (putT t f z) := by
  by_cases h : f ∈ t.map Prod.fst
  · unfold putK putT
    rw [kvT_any, decide_eq_true h, if_pos rfl, if_pos h]
    unfold kvT
    rw [List.map_map, List.map_map]
    refine List.map_congr_left fun p _ => ?_
    show (if (Sum.inr p.1 : Key) = Sum.inr f then ((Sum.inr p.1 : Key), z) else (Sum.inr p.1, p.2)) = (Sum.inr (if p.1 = f then (p.1, z) else p).1, (if p.1 = f then (p.1, z) else p).2)
    by_cases e : p.1 = f
    · rw [if_pos e, if_pos (by rw [e])]
    · rw [if_neg e, if_neg fun q => e (Sum.inr.inj q)]
  · rw [kvT_put h]
    unfold putT
    rw [if_neg h]
theorem putT_keys {t : List (Str × V)} {f : Str} {z : V} (h : f ∈ t.map Prod.fst) : (putT t f z).map Prod.fst = t.map Prod.fst := by
  unfold putT
  rw [if_pos h, List.map_map]
  refine List.map_congr_left fun p _ => ?_
  show (if p.1 = f then (p.1, z) else p).1 = p.1
  by_cases e : p.1 = f
  · rw [if_pos e]
  · rw [if_neg e]
theorem look_put (t : List (Str × V)) (f g : Str) (z : V) : look (putT t f z) g = if g = f then some z else look t g := by
  by_cases h : f ∈ t.map Prod.fst
  · unfold putT
    rw [if_pos h]
    have key : ∀ t : List (Str × V), look (t.map fun p => if p.1 = f then (p.1, z) else p) g = if g = f then (if f ∈ t.map Prod.fst then some z else none) else look t g := by
      intro t
      induction t with
      | nil =>
        show (none : Option V) = _
        by_cases e : g = f
        · rw [if_pos e]
          simp
        · rw [if_neg e] <;> rfl
      | cons p t ih =>
        rw [List.map_cons, look_cons, ih, look_cons]
        have e1 : (if p.1 = f then (p.1, z) else p).1 = p.1 := by
          by_cases e : p.1 = f
          · rw [if_pos e]
          · rw [if_neg e]
        rw [e1]
        by_cases e : g = f
        · subst e
          rw [if_pos rfl, if_pos rfl]
          by_cases q : p.1 = g
          · rw [if_pos q, if_pos q, if_pos (by rw [List.map_cons, ← q]; exact List.mem_cons_self ..)]
          · rw [if_neg q]
            by_cases m : g ∈ t.map Prod.fst
            · rw [if_pos m, if_pos (by rw [List.map_cons]; exact List.mem_cons_of_mem _ m)]
            · rw [if_neg m, if_neg (by rw [List.map_cons, List.mem_cons]; rintro (z | z); exact q z.symm; exact m z)]
        · rw [if_neg e, if_neg e]
          by_cases q : p.1 = g
          · rw [if_pos q, if_pos q, if_neg (by rw [q]; exact e)]
          · rw [if_neg q, if_neg q]
    rw [key]
    by_cases e : g = f
    · rw [if_pos e, if_pos e, if_pos h]
    · rw [if_neg e, if_neg e]
  · unfold putT
    rw [if_neg h, look_app]
    by_cases e : g = f
    · subst e
      rw [if_pos rfl, look_none h, look_cons, if_pos rfl] <;> rfl
    · rw [if_neg e, look_cons, if_neg (fun q => e q.symm)]
      cases look t g <;> rfl
end FT


/-! forests as pairs of a flag and its parent, in any order. -/
namespace FT
open PySem L2 TL
/-- a dict of texts by texts -/
def prs (t : List (Str × Str)) : List (Key × V) := kvT (t.map fun p => (p.1, V.str p.2))
theorem prs_len (t : List (Str × Str)) : (prs t).length = t.length := by unfold prs; rw [kvT_len, List.length_map]
theorem prs_fst (t : List (Str × Str)) : (t.map fun p => (p.1, V.str p.2)).map Prod.fst = t.map Prod.fst := by rw [List.map_map] <;> rfl
theorem prs_keys (t : List (Str × Str)) : (prs t).map (·.1) = (t.map Prod.fst).map Sum.inr := by unfold prs kvT; rw [List.map_map, List.map_map, List.map_map] <;> rfl
theorem keys_prs (t : List (Str × Str)) : ((prs t).map fun kv => kV kv.1) = (t.map Prod.fst).map V.str := by
  unfold prs kvT
  rw [List.map_map, List.map_map, List.map_map] <;> rfl
theorem put_new {t : List (Str × Str)} {f z : Str} (n : f ∉ t.map Prod.fst) : putK (prs t) (Sum.inr f) (V.str z) = prs (t ++ [(f, z)]) := by
  unfold prs
  rw [kvT_put (by rw [prs_fst]; exact n), List.map_append] <;> rfl
/-- the parent of a flag -/
def par (t : List (Str × Str)) (a : Str) : Option Str := (t.find? fun p => decide (p.1 = a)).map Prod.snd
theorem par_cons (p : Str × Str) (t : List (Str × Str)) (a : Str) : par (p :: t) a = if p.1 = a then some p.2 else par t a := by
  unfold par
  rw [List.find?_cons]
  by_cases e : p.1 = a
  · rw [if_pos e, decide_eq_true e] <;> rfl
  · rw [if_neg e, decide_eq_false e]
theorem val_prs (a : Str) : ∀ t : List (Str × Str), valV (prs t) (Sum.inr a) = (par t a).map V.str
  | [] => rfl
  | p :: t => by
    have ih := val_prs a t
    unfold prs at ih ⊢
    rw [List.map_cons, kvT_val, look_cons, par_cons]
    rw [kvT_val] at ih
    by_cases e : p.1 = a
    · rw [if_pos e, if_pos e] <;> rfl
    · rw [if_neg e, if_neg e, ih]
theorem par_mem {t : List (Str × Str)} {a z : Str} (h : par t a = some z) : (a, z) ∈ t := by
  induction t with
  | nil => cases h
  | cons p t ih =>
    rw [par_cons] at h
    by_cases e : p.1 = a
    · rw [if_pos e] at h
      cases h
      exact List.mem_cons.mpr (.inl (by rw [← e]))
    · rw [if_neg e] at h
      exact List.mem_cons_of_mem _ (ih h)
theorem par_of {t : List (Str × Str)} {a z : Str} (nd : (t.map Prod.fst).Nodup) (h : (a, z) ∈ t) : par t a = some z := by
  induction t with
  | nil => cases h
  | cons p t ih =>
    obtain ⟨n1, n2⟩ := List.nodup_cons.mp nd
    rw [par_cons]
    rcases List.mem_cons.mp h with e | h
    · subst e
      exact if_pos rfl
    · rw [if_neg fun e => n1 (by rw [e]; exact List.mem_map.mpr ⟨_, h, rfl⟩)]
      exact ih n2 h
theorem par_none {t : List (Str × Str)} {a : Str} (n : a ∉ t.map Prod.fst) : par t a = none := by
  cases e : par t a with
  | none => rfl
  | some z => exact absurd (List.mem_map.mpr ⟨_, par_mem e, rfl⟩) n
theorem par_some {t : List (Str × Str)} {a : Str} (nd : (t.map Prod.fst).Nodup) (h : a ∈ t.map Prod.fst) : ∃ z, par t a = some z := by
  obtain ⟨p, hp, rfl⟩ := List.mem_map.mp h
  exact ⟨p.2, par_of nd hp⟩
theorem par_perm {t u : List (Str × Str)} (nd : (t.map Prod.fst).Nodup) (p : t.Perm u) (a : Str) : par t a = par u a := by
  cases e : par t a with
  | some v => exact (par_of ((p.map _).nodup_iff.mp nd) (p.mem_iff.mp (par_mem e))).symm
  | none =>
    cases e2 : par u a with
    | none => rfl
    | some v =>
      have := par_of nd (p.mem_iff.mpr (par_mem e2))
      rw [e] at this
      cases this
/-- each parent has a lower rank -/
def Rk (t : List (Str × Str)) (rk : Str → Nat) : Prop := ∀ p ∈ t, rk p.1 < t.length ∧ (p.2 = "" ∨ (p.2 ∈ t.map Prod.fst ∧ rk p.2 < rk p.1))
/-- a forest of one to twelve flags -/
structure TreeOk (t : List (Str × Str)) : Prop where
  one : 1 ≤ t.length
  few : t.length ≤ 12
  nd : (t.map Prod.fst).Nodup
  nm : ∀ z ∈ t.map Prod.fst, NameL z
  up : ∃ rk : Str → Nat, Rk t rk
theorem TreeOk.perm {t u : List (Str × Str)} (p : t.Perm u) (o : TreeOk t) : TreeOk u := by
  obtain ⟨rk, hr⟩ := o.up
  have l := p.length_eq
  refine ⟨by have := o.one; omega, by have := o.few; omega, (p.map _).nodup_iff.mp o.nd, fun z h => o.nm z ((p.map _).mem_iff.mpr h), rk, fun q hq => ?_⟩
  obtain ⟨h1, h2⟩ := hr q (p.mem_iff.mpr hq)
  exact ⟨by omega, h2.imp id fun h => ⟨(p.map _).mem_iff.mp h.1, h.2⟩⟩
theorem TreeOk.root {t : List (Str × Str)} (o : TreeOk t) : ("" : Str) ∉ t.map Prod.fst := fun h => (o.nm _ h).ne rfl
/-- the step up -/
theorem TreeOk.step {t : List (Str × Str)} (o : TreeOk t) {rk : Str → Nat} (r : Rk t rk) {a : Str} (h : a ∈ t.map Prod.fst) : ∃ p : Str, par t a = some p ∧ (p = "" ∨ (p ∈ t.map Prod.fst ∧ rk p < rk a)) ∧ rk a < t.length := by
  obtain ⟨z, hz⟩ := par_some o.nd h
  obtain ⟨h1, h2⟩ := r _ (par_mem hz)
  exact ⟨z, hz, h2, h1⟩
/-! ### paths -/
/-- the flags from the top down to a place; n bounds the steps -/
def upN (t : List (Str × Str)) : Nat → Str → List Str
  | 0, _ => []
  | n + 1, a => if a = "" then [] else upN t n ((par t a).getD "") ++ [a]
def pathOf (t : List (Str × Str)) (a : Str) : List Str := upN t t.length a
/-- a place: the root or a flag -/
def Pl (t : List (Str × Str)) (a : Str) : Prop := a = "" ∨ a ∈ t.map Prod.fst
theorem upN_root (t : List (Str × Str)) (n : Nat) : upN t n "" = [] := by
  cases n with
  | zero => rfl
  | succ n => exact if_pos rfl
theorem upN_eq {t : List (Str × Str)} (o : TreeOk t) {rk : Str → Nat} (r : Rk t rk) : ∀ (n m : Nat) (a : Str), Pl t a → (a ≠ "" → rk a < n) → (a ≠ "" → rk a < m) → upN t n a = upN t m a := by
  intro n
  induction n with
  | zero =>
    intro m a hp h1 h2
    by_cases e : a = ""
    · subst e
      rw [upN_root, upN_root]
    · exact absurd (h1 e) (Nat.not_lt_zero _)
  | succ n ih =>
    intro m a hp h1 h2
    by_cases e : a = ""
    · subst e
      rw [upN_root, upN_root]
    · cases m with
      | zero => exact absurd (h2 e) (Nat.not_lt_zero _)
      | succ m =>
        obtain ⟨p, ep, hp2, _⟩ := o.step r (hp.resolve_left e)
        have q1 := h1 e
        have q2 := h2 e
        show (if a = "" then [] else upN t n ((par t a).getD "") ++ [a]) = if a = "" then [] else upN t m ((par t a).getD "") ++ [a]
        rw [if_neg e, if_neg e, ep]
        show upN t n p ++ [a] = upN t m p ++ [a]
        rw [ih m p (hp2.imp id And.left) (fun z => by have := (hp2.resolve_left z).2; omega) (fun z => by have := (hp2.resolve_left z).2; omega)]
theorem path_root (t : List (Str × Str)) : pathOf t "" = [] := upN_root _ _
theorem path_step {t : List (Str × Str)} (o : TreeOk t) {a p : Str} (h : a ∈ t.map Prod.fst) (e : par t a = some p) : pathOf t a = pathOf t p ++ [a] := by
  obtain ⟨rk, r⟩ := o.up
  have ne : a ≠ "" := fun z => o.root (by rw [← z]; exact h)
  obtain ⟨p', e', hp, la⟩ := o.step r h
  cases e.symm.trans e'
  have lt := o.one
  obtain ⟨n, hn⟩ : ∃ n, t.length = n + 1 := ⟨t.length - 1, by omega⟩
  unfold pathOf
  rw [hn]
  show (if a = "" then [] else upN t n ((par t a).getD "") ++ [a]) = _
  rw [if_neg ne, e]
  show upN t n p ++ [a] = _
  rw [upN_eq o r n (n + 1) p (hp.imp id And.left) (fun z => by have := (hp.resolve_left z).2; omega) (fun z => by have := (hp.resolve_left z).2; omega)]
theorem path_perm {t u : List (Str × Str)} (nd : (t.map Prod.fst).Nodup) (p : t.Perm u) (a : Str) : pathOf t a = pathOf u a := by
  unfold pathOf
  rw [p.length_eq]
  generalize u.length = n
  induction n generalizing a with
  | zero => rfl
  | succ n ih =>
    show (if a = "" then [] else upN t n ((par t a).getD "") ++ [a]) = if a = "" then [] else upN u n ((par u a).getD "") ++ [a]
    rw [ih, par_perm nd p]
theorem upN_len (t : List (Str × Str)) : ∀ (n : Nat) (a : Str), (upN t n a).length ≤ n
  | 0, _ => Nat.le_refl _
  | n + 1, a => by
    show (if a = "" then [] else upN t n ((par t a).getD "") ++ [a]).length ≤ n + 1
    by_cases e : a = ""
    · rw [if_pos e]
      exact Nat.zero_le _
    · rw [if_neg e, List.length_append]
      have := upN_len t n ((par t a).getD "")
      show _ + 1 ≤ n + 1
      omega
theorem path_len (t : List (Str × Str)) (a : Str) : (pathOf t a).length ≤ t.length := upN_len _ _ _
theorem upN_all {t : List (Str × Str)} (o : TreeOk t) : ∀ (n : Nat) (a : Str), Pl t a → ∀ z ∈ upN t n a, z ∈ t.map Prod.fst
  | 0, _, _, z, h => by cases h
  | n + 1, a, hp, z, h => by
    have h' : z ∈ (if a = "" then [] else upN t n ((par t a).getD "") ++ [a]) := h
    by_cases e : a = ""
    · rw [if_pos e] at h'
      cases h'
    · rw [if_neg e] at h'
      have ha := hp.resolve_left e
      obtain ⟨rk, r⟩ := o.up
      obtain ⟨p, ep, hp2, _⟩ := o.step r ha
      rw [ep] at h'
      rcases List.mem_append.mp h' with h' | h'
      · exact upN_all o n p (hp2.imp id And.left) z h'
      · rw [List.mem_singleton.mp h']
        exact ha
theorem path_all {t : List (Str × Str)} (o : TreeOk t) {a : Str} (h : Pl t a) : ∀ z ∈ pathOf t a, z ∈ t.map Prod.fst := upN_all o _ _ h
/-! ### sums over children -/
/-- the sum of sizes of the children of a place -/
def kids (t : List (Str × Str)) (p : Str) : List Str := (t.filter fun q => decide (q.2 = p)).map Prod.fst
def resid (t : List (Str × Str)) (n : Int) (sz : Str → Int) (p : Str) : Int := (if p = "" then n else sz p) - ((kids t p).map sz).sum
theorem kids_snoc (t : List (Str × Str)) (q : Str × Str) (p : Str) : kids (t ++ [q]) p = kids t p ++ (if q.2 = p then [q.1] else []) := by
  unfold kids
  rw [List.filter_append, List.map_append]
  by_cases e : q.2 = p
  · rw [if_pos e, List.filter_cons, decide_eq_true e, List.filter_nil] <;> rfl
  · rw [if_neg e, List.filter_cons, decide_eq_false e, List.filter_nil] <;> rfl
theorem kids_perm {t u : List (Str × Str)} (h : t.Perm u) (p : Str) : (kids t p).Perm (kids u p) := (h.filter _).map _
theorem sum_perm {l m : List Int} (h : l.Perm m) : l.sum = m.sum := by
  induction h with
  | nil => rfl
  | cons x _ ih => rw [List.sum_cons, List.sum_cons, ih]
  | swap x y l => rw [List.sum_cons, List.sum_cons, List.sum_cons, List.sum_cons]; omega
  | trans _ _ a b => rw [a, b]
theorem resid_perm {t u : List (Str × Str)} (h : t.Perm u) (n : Int) (sz : Str → Int) (p : Str) : resid t n sz p = resid u n sz p := by
  unfold resid
  rw [sum_perm ((kids_perm h p).map sz)]
theorem resid_snoc (t : List (Str × Str)) (q : Str × Str) (n : Int) (sz : Str → Int) (p : Str) : resid (t ++ [q]) n sz p = if q.2 = p then resid t n sz p - sz q.1 else resid t n sz p := by
  unfold resid
  rw [kids_snoc]
  by_cases e : q.2 = p
  · rw [if_pos e, if_pos e, List.map_append, List.sum_append]
    show _ - (_ + (sz q.1 + 0)) = _
    omega
  · rw [if_neg e, if_neg e, List.append_nil]
end FT


namespace FT
open PySem L2 TL ClX
def letters : Str := "abcdefghijklmnopqrstuvwxyz"
theorem in_letters {c : Nat} (h0 : 97 ≤ c) (h1 : c ≤ 122) : c ∈ letters.cps.toList := by
  have all : ∀ i : Fin 26, (97 + i.1) ∈ letters.cps.toList := by decide +kernel
  have q := all ⟨c - 97, by omega⟩
  rw [show 97 + (⟨c - 97, by omega⟩ : Fin 26).1 = c by show 97 + (c - 97) = c; omega] at q
  exact q
/-- the module's own constants -/
structure Cs (mg : Str → Option Value) : Prop where
  long : ∃ t, mg "LONGEST" = some (.int 8 t)
  lett : ∃ t, mg "LETTERS" = some (.str letters t)
/-- the class Forest: its two constants -/
structure Fc (K : PySem.W.Frag) (mg : Str → Option Value) (CF : Addr) (mc : Value) : Prop where
  gF : mg "Forest" = some (.ref CF)
  rd : CRead K CF mc
  most : ∃ u, CVal K CF mc "MOST" (.int 12) u
  root : ∃ u, CVal K CF mc "ROOT" (.str "") u
/-- one of the text's defs, called by place -/
structure Dn (P : Program) (w : World) (K : PySem.W.Frag) (mg : Str → Option Value) (base : Heap) (CX : CXT) (k : Nat) (x : Str) (ps : List Str) (sp : Sp) (f : Addr) (fd : FuncData) : Prop where
  ok : FnOk P w K mg base CX k f fd ps sp
  kp : PySem.W.keepIn K (.ref f) = true
  bn : Binds K fd ps []
  mgn : mg x = some (.ref f)
def spIsName : Sp := fun vs H Q _ => ∃ z : Str, vs = [.str z] ∧ NameL z ∧ ∀ H', Same H H' → Q (.bl true) H'
def spIsAnc : Sp := fun vs H Q _ => ∃ (q : Addr) (f : Str) (t : List (Str × Str)), vs = [.ref q, .str f] ∧ H q = some (.dK (prs t)) ∧ TreeOk t ∧ f ∈ t.map Prod.fst ∧ ∀ H', Same H H' → Q (.bl false) H'
def spNeed : Sp := fun vs H Q _ => ∃ (q : Addr) (t : List (Str × Str)), vs = [.ref q] ∧ H q = some (.dK (prs t)) ∧ TreeOk t ∧ ∀ H', Same H H' → Q .non H'
section
variable {P : Program} {w : World} {K : PySem.W.Frag} {mg : Str → Option Value} {base : Heap}
theorem scIsName : FnScope ["value", "letter"] ["value"] (defScope s_is_name) := ⟨rfl, rfl, rfl, by decide +kernel, rfl, by decide +kernel, by decide +kernel⟩
theorem ok_isName {f : Addr} {fd : FuncData} (F : Fun K "is_name" "is_name" s_is_name f fd) (T : Nm mg) (C : Cs mg) : FnOk P w K mg base CX0 1 f fd ["value"] spIsName := by
  obtain ⟨t1, g1⟩ := C.long
  obtain ⟨t2, g2⟩ := C.lett
  refine F.ok scIsName (fun vs H Q E h => ?_) (fun cdv A outer s H vs Q E hr h => ?_)
  · obtain ⟨z, rfl, _⟩ := h
    rfl
  · obtain ⟨z, rfl, nm, k⟩ := h
    refine ⟨_, pss_cons (ps_if (PW.pt (pw_or (pt_not (pt_val (pe_callB call_isi (by rfl) T.isi (by decide +kernel) (pa_cons (pv 0) (pa_cons (pe_bltn (v := .ty "str") (u := .type "str") (by rfl) T.str (by decide +kernel) rfl) pa_nil)))))
        (pw_or (pt_not (pt_chain op_le op_le pe_int (pe_callB call_len_str (by rfl) T.len PySem.boot_len (pa_cons (pv 0) pa_nil)) (pe_glob (v := .int 8) (by rfl) g1 ⟨_, rfl⟩))) (pw_or1 (pt_cmpR op_eq (pv 0) pe_str (nomark _))))))
        (pss_one (ps_ret pe_bl)) pss_nil)
      (pss_one (ps_ret (pe_callB (cr_all rfl) (by rfl) T.all (by decide +kernel) (pa_cons (pe_lc (own := [("letter", 1)]) (g := gName 1) (tt := tYes) (te := tOp (fun x y H Q => ∃ (c : Nat) (z : Str), x = .str ⟨#[c]⟩ ∧ y = .str z ∧ Q (.bl (decide (c ∈ z.cps.toList))) H) (tVar 1) (tC (.str letters))) rfl scIsName.nd (pi_str (pv 0))
        (blkOk_by (N := ["value", "letter"]) (sc := defScope s_is_name) (by decide +kernel))
        (fun _ _ _ _ _ => pg_name (i := 1) scIsName.nd rfl (Or.inl rfl)) (fun _ _ _ _ _ => pts_nil) (fun _ _ _ _ _ => pe_cmpR op_in_sign (pv 1) (pe_glob (v := .str letters) (by rfl) g2 ⟨_, rfl⟩) rfl)) pa_nil)))), ?_⟩
    have l := nm.len
    have big : 1000 ≤ sizeLine := by decide
    refine ⟨_, rfl, .str z, _, _, _, true, rfl, .ty _, .base (.str z), kit_ty (by decide +kernel), true, rfl, ?_⟩
    refine iteF ?_
    refine ⟨_, rfl, z, rfl, by omega, _, _, rfl, rfl, _, rfl, ?_⟩
    rw [if_pos (decide_eq_true (by omega))]
    refine ⟨_, _, rfl, rfl, _, rfl, ?_⟩
    rw [decide_eq_true (show (z.length : Int) ≤ 8 by omega)]
    refine iteF ?_
    refine ⟨_, rfl, rfl, _, rfl, ?_⟩
    rw [decide_eq_false (show ¬ V.str z = V.str "self" from fun e => nm.self (V.str.inj e))]
    refine iteF ?_
    refine ⟨_, rfl, z, rfl, fun D nD => lc_it walk_str (fun i H' => Same H H' ∧ H' D = some (.lst ((List.replicate i true).map V.bl))) ⟨same_new nD, upd_same⟩ (fun _ _ _ _ => trivial) ?_ ?_⟩
    · intro i x Ha Hb hi ⟨q1, q2⟩ ⟨e, ch, hc, ex⟩
      subst e
      subst ex
      have hm : ch ∈ letters.cps.toList := by
        have hz : ch ∈ tl z := by
          rw [← Array.getElem?_toList] at hc
          exact List.mem_of_getElem? hc
        exact in_letters (nm.1 ch hz).1 (nm.1 ch hz).2
      refine ⟨rfl, ?_⟩
      refine ⟨_, rfl, ch, letters, rfl, rfl, _, q2, ?_, ?_, ?_⟩
      · rw [List.length_map, List.length_replicate]
        have : z.cps.size = z.length := rfl
        omega
      · exact Same.put q1 nD
      · rw [upd_same, decide_eq_true hm, List.replicate_succ', List.map_append] <;> rfl
    · intro H' ⟨q1, q2⟩
      refine ⟨D, _, rfl, SqL.of q2, ?_⟩
      have e : (List.replicate z.cps.size true).all id = true := by simp
      rw [e]
      exact k H' q1
def rankS (t : List (Str × Str)) (rk : Str → Nat) (σ : St) : Nat := match σ[3]? with
  | some (some (V.str a)) => if a ∈ t.map Prod.fst then rk a + 1 else 0
  | _ => 0
theorem scIsAnc : FnScope ["parents", "name", "seen", "above"] ["parents", "name"] (defScope s_is_ancestor) := ⟨rfl, rfl, rfl, by decide +kernel, rfl, by decide +kernel, by decide +kernel⟩
theorem ok_isAnc {f : Addr} {fd : FuncData} (F : Fun K "is_ancestor" "is_ancestor" s_is_ancestor f fd) : FnOk P w K mg base CX0 1 f fd ["parents", "name"] spIsAnc := by
  refine F.ok scIsAnc (fun vs H Q E h => ?_) (fun cdv A outer s H vs Q E hr h => ?_)
  · obtain ⟨q, g, t, rfl, _⟩ := h
    rfl
  · obtain ⟨q, g, t, rfl, hq, o, hg, k⟩ := h
    have hu := hu_of hr
    obtain ⟨rk, r⟩ := o.up
    refine ⟨_, pss_cons (ps_set (i := 2) scIsAnc.nd rfl (.inl rfl) (pe_lst pa_nil))
      (pss_cons (ps_set (i := 3) scIsAnc.nd rfl (.inl rfl) (pe_dget hu (pv 0) (pv 1) (fun _ _ => rfl)))
      (pss_cons (ps_while PassesOwn.never (PW.pt (pw_and (pt_cmp (pc_din hu (pv 3) (pv 0))) (pw_and1 (pt_cmpR op_notIn_seq (pv 3) (pv 2) rfl))))
        (pss_cons (ps_if (pt_cmpR op_eq (pv 3) (pv 1) (nomark _)) (pss_one (ps_ret pe_bl)) pss_nil)
        (pss_cons (ps_expr (pe_bm PySem.F.plainAttrs_list PySem.F.slot_list_append PySem.F.type_list_append mt_append (pv 2) (pa_cons (pv 3) pa_nil)))
        (pss_one (ps_set (i := 3) scIsAnc.nd rfl (.inl rfl) (pe_dget hu (pv 0) (pv 3) (fun _ _ => rfl)))))))
      (pss_one (ps_ret pe_bl)))), ?_⟩
    obtain ⟨p0, v0, w0, i0⟩ := o.step r hg
    have few := o.few
    have big : 1000 ≤ sizeLine := by decide
    refine ⟨by show 0 ≤ sizeLine; omega, fun l nl => ?_⟩
    have hq1 : (upd H l (.lst [])) q = some (.dK (prs t)) := by rw [upd_ne (ne_of_none hq nl)]; exact hq
    have ql : q ≠ l := ne_of_none hq nl
    refine ⟨_, rfl, _, rfl, q, V.str p0, rfl, by have z := DGet.k (k := Sum.inr g) hq1; rw [val_prs, v0] at z; exact z, ?_⟩
    refine while_by (fun σ H' => ∃ (a : Str) (ws : List Str), σ = [some (.ref q), some (.str g), some (.ref l), some (.str a)] ∧ H' l = some (.lst (ws.map V.str)) ∧ (∀ b u, H b = some u → H' b = some u) ∧ (a = "" ∨ (a ∈ t.map Prod.fst ∧ rk a < rk g ∧ ws.length + rk a < t.length)))
      (fun σ _ => rankS t rk σ) ⟨p0, [], rfl, upd_same, same_new nl, w0.imp id fun z => ⟨z.1, z.2, by simp only [List.length_nil]; omega⟩⟩ ?_ ?_
    · rintro σ Hx ⟨a, ws, rfl, hl, sm, ha⟩
      have hqx := sm _ _ hq
      have dg := DGet.k (k := Sum.inr a) hqx
      rw [val_prs] at dg
      refine ⟨_, rfl, _, rfl, q, _, rfl, dg, _, rfl, ?_⟩
      rcases ha with rfl | ⟨ha, ia, la⟩
      · rw [par_none o.root]
        refine iteF ?_
        exact iteF (k Hx sm)
      · obtain ⟨p, hv, hp, il⟩ := o.step r ha
        rw [hv]
        show if true = true then _ else _
        rw [if_pos rfl]
        refine ⟨_, rfl, _, rfl, l, _, rfl, .inl (SqL.of hl), rfl, flat_strs ws, _, rfl, ?_⟩
        rw [inV_strs]
        by_cases hw : a ∈ ws
        · rw [decide_eq_true hw]
          exact iteF (k Hx sm)
        · rw [decide_eq_false hw]
          show if true = true then _ else _
          rw [if_pos rfl]
          refine ⟨_, rfl, _, rfl, rfl, _, rfl, ?_⟩
          rw [decide_eq_false (show ¬ V.str a = V.str g from fun e => by
            have := V.str.inj e
            subst this
            omega)]
          refine iteF ?_
          refine ⟨_, rfl, .inl ⟨rfl, _, SqL.of hl⟩, _, rfl, l, _, _, rfl, rfl, hl, by rw [List.length_map]; omega, ?_⟩
          have hq2 : (upd Hx l (.lst (ws.map V.str ++ [.str a]))) q = some (.dK (prs t)) := by rw [upd_ne ql]; exact hqx
          refine ⟨_, rfl, _, rfl, q, V.str p, rfl, by have z := DGet.k (k := Sum.inr a) hq2; rw [val_prs, hv] at z; exact z, ?_⟩
          refine ⟨⟨p, ws ++ [a], rfl, by rw [upd_same, List.map_append] <;> rfl, fun b u e => ?_, ?_⟩, ?_⟩
          · rw [upd_ne (ne_of_none e nl)]
            exact sm b u e
          · rcases hp with rfl | ⟨hp, ip⟩
            · exact .inl rfl
            · refine .inr ⟨hp, by omega, ?_⟩
              rw [List.length_append]
              show ws.length + 1 + rk p < t.length
              omega
          · show rankS t rk [some (.ref q), some (.str g), some (.ref l), some (.str p)] < rankS t rk [some (.ref q), some (.str g), some (.ref l), some (.str a)]
            have e1 : rankS t rk [some (.ref q), some (.str g), some (.ref l), some (.str a)] = rk a + 1 := if_pos ha
            rw [e1]
            rcases hp with rfl | ⟨hp, ip⟩
            · have e2 : rankS t rk [some (.ref q), some (.str g), some (.ref l), some (.str "")] = 0 := if_neg o.root
              rw [e2]
              omega
            · have e2 : rankS t rk [some (.ref q), some (.str g), some (.ref l), some (.str p)] = rk p + 1 := if_pos hp
              rw [e2]
              omega
    · intro σ Hx Qa Qb h
      rintro ⟨v, e1, w, e2, a, r, e3, g, d, e4, z⟩
      refine ⟨v, e1, w, e2, a, r, e3, g, d, e4, ?_⟩
      cases d with
      | false =>
        rw [if_neg (by decide)] at z ⊢
        exact h _ _ z
      | true =>
        rw [if_pos rfl] at z ⊢
        obtain ⟨v, e1, w, e2, p, xs, e3, e4, e5, e6, b, e7, z⟩ := z
        exact ⟨v, e1, w, e2, p, xs, e3, e4, e5, e6, b, e7, h _ _ z⟩
theorem scNeed : FnScope ["parents", "name", "above", "other"] ["parents"] (defScope s_need_parents) := ⟨rfl, rfl, rfl, by decide +kernel, rfl, by decide +kernel, by decide +kernel⟩
theorem ok_need {f fI fA CF : Addr} {mc : Value} {fd fdI fdA : FuncData} (F : Fun K "need_parents" "need_parents" s_need_parents f fd) (T : Nm mg) (C : Cs mg) (Z : Fc K mg CF mc)
    (FI : Dn P w K mg base CX0 1 "is_name" ["value"] spIsName fI fdI) (FA : Dn P w K mg base CX0 1 "is_ancestor" ["parents", "name"] spIsAnc fA fdA) : FnOk P w K mg base CX0 2 f fd ["parents"] spNeed := by
  obtain ⟨um, cm⟩ := Z.most
  obtain ⟨ur, cr⟩ := Z.root
  refine F.ok scNeed (fun vs H Q E h => ?_) (fun cdv A outer s H vs Q E hr h => ?_)
  · obtain ⟨q, t, rfl, _⟩ := h
    rfl
  · obtain ⟨q, t, rfl, hq, o, k⟩ := h
    have hu := hu_of hr
    obtain ⟨rk, r⟩ := o.up
    refine ⟨_, pss_cons (ps_if (PW.pt (pw_or (pt_not (pt_val (pe_callB call_isi (by rfl) T.isi (by decide +kernel) (pa_cons (pv 0) (pa_cons (pe_bltn (v := .ty "dict") (u := .type "dict") (by rfl) T.dct (by decide +kernel) rfl) pa_nil)))))
        (pw_or1 (pt_not (pt_chain op_le op_le pe_int (pe_callB call_lenD (by rfl) T.len PySem.boot_len (pa_cons (pv 0) pa_nil)) (pe_cval (pe_glob (v := .ref CF) (by rfl) Z.gF rfl))))))) pss_never pss_nil)
      (pss_cons (ps_if (pt_not (pt_val (pe_callB (cr_all rfl) (by rfl) T.all (by decide +kernel) (pa_cons (pe_lock (pe_lc (own := [("name", 1)]) (g := gName 1) (tt := tYes) rfl scNeed.nd (pi_keys (pv 0))
        (blkOk_by (N := ["parents", "name", "above", "other"]) (sc := defScope s_need_parents) (by decide +kernel))
        (fun _ _ _ _ _ => pg_name (i := 1) scNeed.nd rfl (Or.inl rfl)) (fun _ _ _ _ _ => pts_nil) (fun _ _ _ _ _ => pe_call FI.ok hr rfl FI.mgn FI.kp FI.bn .nil pass0 (pa_cons (pv 1) pa_nil)))) pa_nil)))) pss_never pss_nil)
      (pss_one (ps_for PassesOwn.never rfl (pi_list (pe_callB (call_sortedD rfl) (by rfl) T.srt (by decide +kernel) (pa_cons (pv 0) pa_nil))) (pg_name (i := 1) scNeed.nd rfl (.inl rfl))
        (pss_cons (ps_set (i := 2) scNeed.nd rfl (.inl rfl) (pe_dget hu (pv 0) (pv 1) (fun _ _ => rfl)))
        (pss_cons (ps_if (PW.pt (pw_or (pt_not (pt_val (pe_callB call_isi (by rfl) T.isi (by decide +kernel) (pa_cons (pv 2) (pa_cons (pe_bltn (v := .ty "str") (u := .type "str") (by rfl) T.str (by decide +kernel) rfl) pa_nil)))))
          (pw_or1 (PW.pt (pw_and (pt_cmpR op_ne (pv 2) (pe_cval (pe_glob (v := .ref CF) (by rfl) Z.gF rfl)) (nomark _)) (pw_and1 (pt_cmp (pc_dnotin hu (pv 2) (pv 0))))))))) pss_never pss_nil)
        (pss_one (ps_if (pt_val (pe_call FA.ok hr rfl FA.mgn FA.kp FA.bn .nil pass0 (pa_cons (pe_lock (pe_dc (own := [("other", 3)]) (g := gName 3) (tt := tB (tCB (rIsi K) (tCons (tDGet (tVar 0) (tVar 3)) (tCons (tC (.ty "str")) tNil)))) rfl scNeed.nd (pi_keys (pv 0))
          (blkOk_by (N := ["parents", "name", "above", "other"]) (sc := defScope s_need_parents) (by decide +kernel))
          (fun _ _ _ _ _ => pg_name (i := 3) scNeed.nd rfl (Or.inl rfl)) (fun _ _ _ _ _ => pts_one (pt_val (pe_callB call_isi (by rfl) T.isi (by decide +kernel) (pa_cons (pe_dget hu (pv 0) (pv 3) (fun _ _ => rfl)) (pa_cons (pe_bltn (v := .ty "str") (u := .type "str") (by rfl) T.str (by decide +kernel) rfl) pa_nil)))))
          (fun _ _ _ _ _ => pv 3) (fun _ _ _ _ _ => pe_dget hu (pv 0) (pv 3) (fun _ _ => rfl)))) (pa_cons (pv 1) pa_nil)))) pss_never pss_nil))))))), ?_⟩
    have few := o.few
    have one := o.one
    have big : 1000 ≤ sizeLine := by decide
    have lp := prs_len t
    -- a dict, of one to twelve
    refine ⟨_, rfl, .ref q, _, _, _, true, rfl, .ty _, .base (.dK hq), kit_ty (by decide +kernel), true, rfl, ?_⟩
    refine iteF ?_
    refine ⟨_, rfl, q, _, rfl, hq, _, _, rfl, rfl, _, rfl, ?_⟩
    rw [if_pos (decide_eq_true (by omega))]
    refine ⟨CF, mc, _, um, rfl, Z.rd, cm, _, _, rfl, rfl, _, rfl, ?_⟩
    rw [decide_eq_true (show ((prs t).length : Int) ≤ 12 by omega)]
    refine iteF ?_
    -- all are names
    refine ⟨q, .dK (prs t), hq, trivial, fun od => ⟨_, rfl, q, od, rfl, .inl ⟨prs t, upd_same, fun D nD => ?_⟩⟩⟩
    have Dq : D ≠ q := (ne_of_none upd_same nD).symm
    have key : ∀ {i : Nat} {k : Key} {v : V}, (prs t)[i]? = some (k, v) → ∃ a p : Str, k = Sum.inr a ∧ v = .str p ∧ t[i]? = some (a, p) := fun {i k v} h => by
      unfold prs kvT at h
      rw [List.map_map, List.getElem?_map] at h
      obtain ⟨⟨a, p⟩, hp, e⟩ := Option.map_eq_some_iff.mp h
      cases e
      exact ⟨a, p, rfl, rfl, hp⟩
    refine lc_it walk_keys (fun i H' => Same (upd H q (.frz od (.dK (prs t)))) H' ∧ H' D = some (.lst ((List.replicate i true).map V.bl))) ⟨same_new nD, upd_same⟩ (fun i H' _ z => z.1 q _ upd_same) ?_ ?_
    · intro i x Ha Hb hi ⟨q1, q2⟩ ⟨e, k', v, hk, ex⟩
      subst e
      subst ex
      obtain ⟨a, p, rfl, rfl, hp⟩ := key hk
      refine ⟨rfl, ?_⟩
      refine ⟨_, rfl, a, rfl, o.nm a (List.mem_map.mpr ⟨(a, p), List.mem_of_getElem? hp, rfl⟩), fun H' s' => ⟨_, s' D _ q2, ?_, ?_, ?_⟩⟩
      · rw [List.length_map, List.length_replicate]
        omega
      · intro b u e
        rw [upd_ne (ne_of_none e nD)]
        exact s' _ _ (q1 b u e)
      · rw [upd_same, List.replicate_succ', List.map_append] <;> rfl
    intro H1 ⟨q1, q2⟩
    refine ⟨q1 q _ upd_same, D, _, rfl, SqL.of (by rw [upd_ne Dq]; exact q2), true, by rw [show (List.replicate (prs t).length true).all id = true by simp], ?_⟩
    refine iteF ?_
    have s1 : Same H (upd H1 q (.dK (prs t))) := unlock_same hq q1
    -- one by one, in their order
    refine ⟨_, rfl, q, prs t, t.map Prod.fst, rfl, .inl upd_same, prs_keys t, by rw [List.length_map]; omega, fun ys p perm srt np => ⟨p, rfl, ⟨_, SqL.of upd_same⟩, ?_⟩⟩
    obtain ⟨H2, e2⟩ : ∃ X, X = upd (upd H1 q (.dK (prs t))) p (.lst (ys.map V.str)) := ⟨_, rfl⟩
    have s2 : Same H H2 := s1.trans (e2 ▸ same_new np)
    have at2 : H2 p = some (.lst (ys.map V.str)) := by rw [e2]; exact upd_same
    rw [← e2]
    refine for_it walk_list (fun j σ' H' => (∃ u1 u2 u3, σ' = [some (.ref q), u1, u2, u3]) ∧ Same H2 H') ⟨⟨_, _, _, rfl⟩, fun _ _ e => e⟩ (fun j σ' H' _ z => SqL.of (z.2 _ _ at2)) ?_ ?_
    · intro j x σ' Ha Hb hj ⟨⟨u1, u2, u3, e⟩, sa⟩ ⟨eb, ex⟩
      subst e
      subst eb
      rw [List.getElem?_map] at ex
      obtain ⟨a, ha, rfl⟩ := Option.map_eq_some_iff.mp ex
      have ma : a ∈ t.map Prod.fst := perm.mem_iff.mp (List.mem_of_getElem? ha)
      obtain ⟨pa, hv, hpa, ia⟩ := o.step r ma
      have s0a : Same H Hb := s2.trans sa
      have hqa := s0a _ _ hq
      refine ⟨_, rfl, _, rfl, q, V.str pa, rfl, by have z := DGet.k (k := Sum.inr a) hqa; rw [val_prs, hv] at z; exact z, ?_⟩
      refine ⟨_, rfl, .str pa, _, _, _, true, rfl, .ty _, .base (.str pa), kit_ty (by decide +kernel), true, rfl, ?_⟩
      refine iteF ?_
      have anc : tIfS (tB (tCall spIsAnc [] E0 (tCons (tLockE (tDc (iKeys (tVar 0)) (gName 3) (tB (tCB (rIsi K) (tCons (tDGet (tVar 0) (tVar 3)) (tCons (tC (.ty "str")) tNil)))) (tVar 3) (tDGet (tVar 0) (tVar 3)) [3])) (tCons (tVar 1) tNil)))) tNever tNext
          ⟨fun σ' H' => (∃ u1 u2 u3, σ' = [some (.ref q), u1, u2, u3]) ∧ Same H2 H', fun v H' => Q v H', fun σ' H' => Q .non H', fun σ' H' => (∃ u1 u2 u3, σ' = [some (.ref q), u1, u2, u3]) ∧ Same H2 H'⟩ [some (.ref q), some (.str a), some (.str pa), u3] Hb := by
        refine ⟨q, .dK (prs t), hqa, trivial, fun od => ⟨_, rfl, q, od, rfl, .inl ⟨prs t, upd_same, fun D nD => ?_⟩⟩⟩
        have Dq : D ≠ q := (ne_of_none upd_same nD).symm
        refine dc_it walk_keys (fun i H' => Same (upd Hb q (.frz od (.dK (prs t)))) H' ∧ H' D = some (.dK (prs (t.take i)))) ⟨same_new nD, upd_same⟩ (fun i H' _ z => z.1 q _ upd_same) ?_ ?_
        · intro i x Hc Hd hi ⟨q1, q2⟩ ⟨e, k', v, hk, ex⟩
          subst e
          subst ex
          obtain ⟨b, r', rfl, rfl, hp⟩ := key hk
          have fz := q1 q _ upd_same
          have dg : DGet Hd q (.str b) (some (.str r')) := .inl ⟨prs t, Sum.inr b, .inr ⟨od, fz⟩, rfl, by rw [val_prs, par_of o.nd (List.mem_of_getElem? hp)] <;> rfl⟩
          have nb : b ∉ (t.take i).map Prod.fst := fun hm => by
            rw [List.map_take] at hm
            obtain ⟨j, hj⟩ := List.mem_iff_getElem?.mp hm
            have jl := (List.getElem?_eq_some_iff.mp hj).1
            rw [List.length_take] at jl
            rw [List.getElem?_take, if_pos (by omega)] at hj
            have e0 : (t.map Prod.fst)[i]? = some b := by rw [List.getElem?_map, hp] <;> rfl
            have := (List.getElem?_inj (by omega) o.nd).mp (hj.trans e0.symm)
            omega
          refine ⟨rfl, ?_⟩
          refine ⟨_, rfl, _, rfl, q, _, rfl, dg, .str r', _, _, _, true, rfl, .ty _, .base (.str r'), kit_ty (by decide +kernel), true, rfl, ?_⟩
          show if true = true then _ else _
          rw [if_pos rfl]
          refine ⟨_, rfl, _, rfl, _, rfl, q, _, rfl, dg, prs (t.take i), Sum.inr b, rfl, q2, ?_, ?_, ?_⟩
          · rw [prs_len, List.length_take]
            omega
          · intro c u e
            rw [upd_ne (ne_of_none e nD)]
            exact q1 c u e
          · rw [upd_same, put_new nb, take_more hp]
        · intro Hc ⟨q1, q2⟩
          rw [lp, List.take_length] at q2
          refine ⟨q1 q _ upd_same, _, rfl, D, a, t, rfl, by rw [upd_ne Dq]; exact q2, o, ma, fun H' s' => ⟨false, rfl, iteF ⟨⟨_, _, _, rfl⟩, (sa.trans (unlock_same hqa q1)).trans s'⟩⟩⟩
      rcases hpa with rfl | ⟨hp, _⟩
      · refine ⟨_, rfl, CF, mc, _, ur, rfl, Z.rd, cr, rfl, _, rfl, ?_⟩
        rw [decide_eq_true rfl]
        refine iteF ?_
        exact iteF anc
      · obtain ⟨pp, hv2, _⟩ := o.step r hp
        refine ⟨_, rfl, CF, mc, _, ur, rfl, Z.rd, cr, rfl, _, rfl, ?_⟩
        have ne : ¬ V.str pa = V.str "" := fun e => o.root (by rw [← V.str.inj e]; exact hp)
        rw [decide_eq_false ne]
        show if true = true then _ else _
        rw [if_pos rfl]
        refine ⟨_, rfl, _, rfl, q, V.str pp, rfl, by have z := DGet.k (k := Sum.inr pa) hqa; rw [val_prs, hv2] at z; exact z, _, rfl, ?_⟩
        exact iteF anc
    · intro σ' H' ⟨_, sa⟩
      exact k H' (s2.trans sa)
/-! ### Forest -/
/-- a forest at x, its pairs ts -/
def FAt (CF : Addr) (H : Hp) (x : Addr) (ts : List (Str × Str)) : Prop := ∃ dx dq, H x = some (.ins CF dx [("above", .ref dq)]) ∧ H dq = some (.dK (prs ts))
theorem FAt.mono {CF x : Addr} {H H' : Hp} {ts : List (Str × Str)} (s : Same H H') (h : FAt CF H x ts) : FAt CF H' x ts := let ⟨dx, dq, e1, e2⟩ := h; ⟨dx, dq, s _ _ e1, s _ _ e2⟩
/-- in ascending order -/
def Asc (ts : List (Str × Str)) : Prop := PyProof.Rows.sortedS (ts.map Prod.fst) = true
/-- facts of a class of the text -/
structure FoC (K : PySem.W.Frag) (CF : Addr) : Prop where
  cl : Cls K CF
  nA : NoAttr K CF "above"
def spFInit (CF : Addr) : Sp := fun vs H Q _ => ∃ (x q dx : Addr) (t : List (Str × Str)), vs = [.ref x, .ref q] ∧ H x = some (.ins CF dx []) ∧ H q = some (.dK (prs t)) ∧ TreeOk t ∧
  ∀ (H' : Hp) (ts : List (Str × Str)), ts.Perm t → Asc ts → FAt CF H' x ts → (∀ b o, b ≠ x → H b = some o → H' b = some o) → Q .non H'
def spFFlags (CF : Addr) : Sp := fun vs H Q _ => ∃ (x : Addr) (ts : List (Str × Str)), vs = [.ref x] ∧ FAt CF H x ts ∧ ∀ p, H p = none → Q (.ref p) (upd H p (.lst ((ts.map Prod.fst).map V.str)))
def spFParents (CF : Addr) : Sp := fun vs H Q _ => ∃ (x : Addr) (ts : List (Str × Str)), vs = [.ref x] ∧ FAt CF H x ts ∧ ∀ p, H p = none → Q (.ref p) (upd H p (.dK (prs ts)))
theorem scFInit : FnScope ["self", "parents", "name"] ["self", "parents"] (defScope s_Forest___init__) := ⟨rfl, rfl, rfl, by decide +kernel, rfl, by decide +kernel, by decide +kernel⟩
theorem perm_pairs : ∀ {ts t : List (Str × Str)}, (t.map Prod.fst).Nodup → (ts.map Prod.fst).Perm (t.map Prod.fst) → (∀ p ∈ ts, p ∈ t) → ts.Perm t
  | [], t, _, pf, _ => by
    have := pf.length_eq
    rw [List.length_map, List.length_map] at this
    rw [List.length_eq_zero_iff.mp (this.symm : t.length = 0)]
  | p :: ts, t, nd, pf, h => by
    have mp := h p (List.mem_cons_self ..)
    have pe := List.perm_cons_erase mp
    have pk : (ts.map Prod.fst).Perm ((t.erase p).map Prod.fst) := (pf.trans (pe.map Prod.fst)).cons_inv
    have nk := (pe.map Prod.fst).nodup_iff.mp nd
    obtain ⟨n1, n2⟩ := List.nodup_cons.mp (show (p.1 :: (t.erase p).map Prod.fst).Nodup from nk)
    refine ((perm_pairs n2 pk fun q hq => ?_).cons p).trans pe.symm
    rcases List.mem_cons.mp (pe.mem_iff.mp (h q (List.mem_cons_of_mem _ hq))) with e | m
    · exfalso
      refine n1 (pk.mem_iff.mp (List.mem_map.mpr ⟨q, hq, ?_⟩))
      rw [e]
    · exact m
theorem ok_finit {f fN CF : Addr} {fd fdN : FuncData} (F : Fun K "__init__" "Forest.__init__" s_Forest___init__ f fd) (T : Nm mg) (O : FoC K CF) (GN : Dn P w K mg base CX0 2 "need_parents" ["parents"] spNeed fN fdN) :
    FnOk P w K mg base CX0 3 f fd ["self", "parents"] (spFInit CF) := by
  refine F.ok scFInit (fun vs H Q E h => ?_) (fun cdv A outer s H vs Q E hr h => ?_)
  · obtain ⟨x, q, dx, t, rfl, _⟩ := h
    rfl
  · obtain ⟨x, q, dx, t, rfl, hx, hq, o, k⟩ := h
    have hu := hu_of hr
    refine ⟨_, pss_cons (ps_expr (pe_call GN.ok hr rfl GN.mgn GN.kp GN.bn .nil pass0 (pa_cons (pv 1) pa_nil)))
      (pss_one (ps_fld (pv 0) (pe_dc (own := [("name", 2)]) (g := gName 2) (tt := tYes) rfl scFInit.nd (pi_list (pe_callB (call_sortedD rfl) (by rfl) T.srt (by decide +kernel) (pa_cons (pv 1) pa_nil)))
        (blkOk_by (N := ["self", "parents", "name"]) (sc := defScope s_Forest___init__) (by decide +kernel))
        (fun _ _ _ _ _ => pg_name (i := 2) scFInit.nd rfl (Or.inl rfl)) (fun _ _ _ _ _ => pts_nil) (fun _ _ _ _ _ => pv 2) (fun _ _ _ _ _ => pe_dget hu (pv 1) (pv 2) (fun _ _ => rfl))) rfl)), ?_⟩
    have few := o.few
    have big : 1000 ≤ sizeLine := by decide
    refine ⟨_, rfl, q, t, rfl, hq, o, fun H1 s1 => ?_⟩
    have hq1 := s1 _ _ hq
    refine ⟨_, rfl, q, prs t, t.map Prod.fst, rfl, .inl hq1, prs_keys t, by rw [List.length_map]; omega, fun ys p perm srt np => ⟨p, rfl, ⟨_, SqL.of upd_same⟩, fun D nD => ?_⟩⟩
    obtain ⟨H2, e2⟩ : ∃ X, X = upd H1 p (.lst (ys.map V.str)) := ⟨_, rfl⟩
    have s2 : Same H H2 := s1.trans (e2 ▸ same_new np)
    have at2 : H2 p = some (.lst (ys.map V.str)) := by rw [e2]; exact upd_same
    rw [← e2] at nD ⊢
    have ndy : ys.Nodup := perm.nodup_iff.mpr o.nd
    have ly := perm.length_eq
    rw [List.length_map] at ly
    refine dc_it walk_list (fun i H' => Same H2 H' ∧ ∃ ts : List (Str × Str), H' D = some (.dK (prs ts)) ∧ ts.map Prod.fst = ys.take i ∧ ∀ p ∈ ts, p ∈ t) ⟨same_new nD, [], upd_same, by rw [List.take_zero] <;> rfl, fun p h => by cases h⟩ (fun i H' _ z => SqL.of (z.1 _ _ at2)) ?_ ?_
    · intro i y Ha Hb hi ⟨q1, ts, hD, ets, hts⟩ ⟨eb, ex⟩
      subst eb
      rw [List.getElem?_map] at ex
      obtain ⟨a, ha, rfl⟩ := Option.map_eq_some_iff.mp ex
      have ma : a ∈ t.map Prod.fst := perm.mem_iff.mp (List.mem_of_getElem? ha)
      obtain ⟨pa, hv⟩ := par_some o.nd ma
      have hqa := q1 _ _ (s2 _ _ hq)
      have fresh : a ∉ ts.map Prod.fst := by
        rw [ets]
        intro hm
        obtain ⟨j, hj⟩ := List.mem_iff_getElem?.mp hm
        have jl := (List.getElem?_eq_some_iff.mp hj).1
        have il := (List.getElem?_eq_some_iff.mp ha).1
        rw [List.length_take] at jl
        rw [List.getElem?_take, if_pos (by omega)] at hj
        have := (List.getElem?_inj (by omega) ndy).mp (hj.trans ha.symm)
        omega
      have lt := congrArg List.length ets
      rw [List.length_map, List.length_take] at lt
      refine ⟨rfl, ?_⟩
      refine ⟨_, rfl, _, rfl, _, rfl, q, V.str pa, rfl, by have z := DGet.k (k := Sum.inr a) hqa; rw [val_prs, hv] at z; exact z, prs ts, Sum.inr a, rfl, hD, by rw [prs_len]; omega, ?_, ts ++ [(a, pa)], ?_, ?_, fun z hz => ?_⟩
      · intro b u e
        rw [upd_ne (ne_of_none e nD)]
        exact q1 b u e
      · rw [upd_same, put_new fresh]
      · rw [List.map_append, ets, take_more ha] <;> rfl
      · rcases List.mem_append.mp hz with h | h
        · exact hts z h
        · rw [List.mem_singleton.mp h]
          exact par_mem hv
    · intro H3 ⟨q1, ts, hD, ets, hts⟩
      rw [List.length_map, List.take_length] at ets
      have s3 : Same H H3 := s2.trans q1
      refine ⟨_, rfl, x, CF, dx, [], rfl, s3 _ _ hx, O.cl, O.nA, by show 0 < 1000; decide, ?_⟩
      have xD : D ≠ x := (ne_of_none (s2 _ _ hx) nD).symm
      refine k _ ts (perm_pairs o.nd (by rw [ets]; exact perm) hts) (by unfold Asc; rw [ets]; exact srt) ⟨dx, D, upd_same, by rw [upd_ne xD]; exact hD⟩ fun b u bx e => ?_
      rw [upd_ne bx]
      exact s3 b u e
theorem scFFlags : FnScope ["self"] ["self"] (defScope s_Forest_flags) := ⟨rfl, rfl, rfl, by decide +kernel, rfl, by decide +kernel, by decide +kernel⟩
theorem ok_fflags {f CF : Addr} {fd : FuncData} (F : Fun K "flags" "Forest.flags" s_Forest_flags f fd) (T : Nm mg) (O : FoC K CF) : FnOk P w K mg base CX0 1 f fd ["self"] (spFFlags CF) := by
  refine F.ok scFFlags (fun vs H Q E h => ?_) (fun cdv A outer s H vs Q E hr h => ?_)
  · obtain ⟨x, ts, rfl, _⟩ := h
    rfl
  · obtain ⟨x, ts, rfl, ⟨dx, dq, hx, hd⟩, k⟩ := h
    refine ⟨_, pss_one (ps_ret (pe_callTy (call_listD rfl) (by rfl) T.lst (by decide +kernel) (pa_cons (pe_fld (pv 0) rfl) pa_nil))), ?_⟩
    refine ⟨_, rfl, x, CF, dx, _, .ref dq, rfl, hx, O.cl, O.nA, rfl, dq, prs ts, rfl, .inl hd, fun p np => ?_⟩
    rw [keys_prs]
    exact k p np
theorem scFParents : FnScope ["self"] ["self"] (defScope s_Forest_parents) := ⟨rfl, rfl, rfl, by decide +kernel, rfl, by decide +kernel, by decide +kernel⟩
theorem ok_fparents {f CF : Addr} {fd : FuncData} (F : Fun K "parents" "Forest.parents" s_Forest_parents f fd) (T : Nm mg) (O : FoC K CF) : FnOk P w K mg base CX0 1 f fd ["self"] (spFParents CF) := by
  refine F.ok scFParents (fun vs H Q E h => ?_) (fun cdv A outer s H vs Q E hr h => ?_)
  · obtain ⟨x, ts, rfl, _⟩ := h
    rfl
  · obtain ⟨x, ts, rfl, ⟨dx, dq, hx, hd⟩, k⟩ := h
    refine ⟨_, pss_one (ps_ret (pe_callTy call_dictD (by rfl) T.dct (by decide +kernel) (pa_cons (pe_fld (pv 0) rfl) pa_nil))), ?_⟩
    exact ⟨_, rfl, x, CF, dx, _, .ref dq, rfl, hx, O.cl, O.nA, rfl, dq, prs ts, rfl, .inl hd, fun p np => k p np⟩
/-- a property of a class -/
structure Pr1 (P : Program) (w : World) (K : PySem.W.Frag) (mg : Str → Option Value) (base : Heap) (CF : Addr) (x : Str) (sp : Sp) (p g : Addr) (fd : FuncData) : Prop where
  pr : PropOf K CF x p g
  fn : FnOk P w K mg base CX0 1 g fd ["self"] sp
  bn : Binds K fd ["self"] []
def spPlacesOf (CF : Addr) : Sp := fun vs H Q _ => ∃ (x : Addr) (ts : List (Str × Str)), vs = [.ref x] ∧ FAt CF H x ts ∧ ts.length ≤ 12 ∧ ∀ p H', Same H H' → H p = none → H' p = some (.lst ((("" : Str) :: ts.map Prod.fst).map V.str)) → Q (.ref p) H'
theorem scPlacesOf : FnScope ["forest"] ["forest"] (defScope s_places_of) := ⟨rfl, rfl, rfl, by decide +kernel, rfl, by decide +kernel, by decide +kernel⟩
theorem ok_placesOf {f CF p1 g1 : Addr} {mc : Value} {fd fd1 : FuncData} (F : Fun K "places_of" "places_of" s_places_of f fd) (T : Nm mg) (O : FoC K CF) (Z : Fc K mg CF mc) (L : Pr1 P w K mg base CF "flags" (spFFlags CF) p1 g1 fd1) :
    FnOk P w K mg base CX0 3 f fd ["forest"] (spPlacesOf CF) := by
  obtain ⟨ur, cr⟩ := Z.root
  refine F.ok scPlacesOf (fun vs H Q E h => ?_) (fun cdv A outer s H vs Q E hr h => ?_)
  · obtain ⟨x, ts, rfl, _⟩ := h
    rfl
  · obtain ⟨x, ts, rfl, fa, few, k⟩ := h
    obtain ⟨dx, dq, hx, hd⟩ := id fa
    have big : 1000 ≤ sizeLine := by decide
    refine ⟨_, pss_one (ps_ret (pe_op op_cat (pe_lst (pa_cons (pe_cval (pe_glob (v := .ref CF) (by rfl) Z.gF rfl)) pa_nil)) (pe_prop (pv 0) O.cl L.pr L.fn hr L.bn .nil pass0 (by rfl)))), ?_⟩
    refine ⟨CF, mc, _, ur, rfl, Z.rd, cr, by show 1 ≤ sizeLine; omega, fun p1 n1 => ?_⟩
    have s1 : Same H (upd H p1 (.lst [.str ""])) := same_new n1
    refine ⟨_, rfl, x, dx, _, rfl, s1 _ _ hx, x, ts, rfl, fa.mono s1, fun p2 n2 => ⟨p1, p2, [.str ""], (ts.map Prod.fst).map V.str, rfl, rfl, by rw [upd_ne (ne_of_none upd_same n2), upd_same], upd_same, ?_, fun p3 n3 => ?_⟩⟩
    · rw [List.length_map, List.length_map]
      show 1 + _ ≤ sizeLine
      omega
    · have s3 : Same H (upd (upd (upd H p1 (.lst [.str ""])) p2 (.lst ((ts.map Prod.fst).map V.str))) p3 (.lst ([.str ""] ++ (ts.map Prod.fst).map V.str))) := (s1.trans (same_new n2)).trans (same_new n3)
      exact k p3 _ s3 (Same.free (s1.trans (same_new n2)) n3) upd_same
end
end FT


/-! the package's errors: their __init__, how they are raised. -/
namespace FT
open PySem L2 TL ClX
/-- what the top has written of an error class at C, its __init__ at I; f its attribute, or the empty text -/
structure Er (K : PySem.W.Frag) (mg : Str → Option Value) (nm f : Str) (C I : Addr) : Prop where
  g : mg nm = some (.ref C)
  x : XCls K C
  ini : PySem.W.findIn K (.ref C) "__init__" = some (some (.ref I))
  ity : PySem.W.typeIn K (.ref I) = some (.type "function")
  no : PySem.W.findIn K (.ref C) f = some none
theorem Er.xf {K : PySem.W.Frag} {mg : Str → Option Value} {nm f : Str} {C I : Addr} (e : Er K mg nm f C I) : XfC K C := ⟨e.x.ga, e.x.gg, e.x.exC, e.x.hdC⟩
/-- the base class -/
structure Rt (K : PySem.W.Frag) (mg : Str → Option Value) (R : Addr) : Prop where
  g : mg "RolloutError" = some (.ref R)
  ini : XIni K R
def spInit1 (C : Addr) (f : Str) : Sp := fun vs H Q _ => ∃ (a : Addr) (v : V), vs = [.ref a, v] ∧ H a = some (exo a C none) ∧ ∀ d, H d = none → d ≠ a → Q .non (upd (upd H d (exd d [(f, v)])) a (exo a C (some d)))
def spInit0 (C : Addr) : Sp := fun vs H Q _ => ∃ (a : Addr), vs = [.ref a] ∧ H a = some (exo a C none) ∧ Q .non H
/-- C(v): what is asked -/
theorem raise1 {C : Addr} {f : Str} {H1 : Hp} {Q : XK} {v : V} (k : ∀ d, H1 d = none → Q (.ref C) (some d) (upd H1 d (.xd [(f, v)]))) :
    [v].length ≤ 1000 ∧ ∀ a, H1 a = none → spInit1 C f (.ref a :: ([v] ++ [])) (upd H1 a (exo a C none))
      (fun w H2 => w = .non ∧ ∃ (d : Addr) (fs : List (Str × V)), H2 a = some (exo a C (some d)) ∧ H2 d = some (exd d fs) ∧ H1 d = none ∧ Q (.ref C) (some d) (upd (del H2 a) d (.xd fs))) (fun _ _ _ => False) := by
  refine ⟨by show 1 ≤ 1000; omega, fun a na => ⟨a, v, rfl, upd_same, fun d nd nda => ⟨rfl, d, [(f, v)], upd_same, by rw [upd_ne nda, upd_same], ?_, ?_⟩⟩⟩
  · rw [upd_ne nda] at nd
    exact nd
  · rw [upd_ne nda] at nd
    have e : upd (del (upd (upd (upd H1 a (exo a C none)) d (exd d [(f, v)])) a (exo a C (some d))) a) d (.xd [(f, v)]) = upd H1 d (.xd [(f, v)]) := by
      funext b
      by_cases h1 : b = d
      · subst h1
        rw [upd_same, upd_same]
      · rw [upd_ne h1, upd_ne h1]
        by_cases h2 : b = a
        · subst h2
          rw [del_same, na]
        · rw [del_ne h2, upd_ne h2, upd_ne h1, upd_ne h2]
    rw [e]
    exact k d nd
/-- C(): what is asked -/
theorem raise0 {C : Addr} {H1 : Hp} {Q : XK} (k : Q (.ref C) none H1) :
    ([] : List V).length ≤ 1000 ∧ ∀ a, H1 a = none → spInit0 C (.ref a :: ([] ++ [])) (upd H1 a (exo a C none)) (fun v H2 => v = .non ∧ H2 a = some (exo a C none) ∧ Q (.ref C) none (del H2 a)) (fun _ _ _ => False) := by
  refine ⟨Nat.zero_le _, fun a na => ⟨a, rfl, upd_same, rfl, upd_same, ?_⟩⟩
  have e : del (upd H1 a (exo a C none)) a = H1 := by
    funext b
    by_cases h : b = a
    · subst h
      rw [del_same, na]
    · rw [del_ne h, upd_ne h]
  rw [e]
  exact k
/-- an error class with its __init__, as a whole: with one value -/
structure Er1 (P : Program) (w : World) (K : PySem.W.Frag) (mg : Str → Option Value) (base : Heap) (nm f : Str) (C I : Addr) (fd : FuncData) : Prop where
  e : Er K mg nm f C I
  fn : FnOk P w K mg base CX0 1 I fd ["self", f] (spInit1 C f)
  bn : Binds K fd ["self", f] []
structure Er0 (P : Program) (w : World) (K : PySem.W.Frag) (mg : Str → Option Value) (base : Heap) (nm : Str) (C I : Addr) (fd : FuncData) : Prop where
  e : Er K mg nm "" C I
  fn : FnOk P w K mg base CX0 1 I fd ["self"] (spInit0 C)
  bn : Binds K fd ["self"] []
section
variable {X : Cx} {W : WX} {nm f : Str} {C I : Addr} {fd : FuncData} {ex : Expr} {te : TE} {p pos pos2 : Pos}
/-- raise C(e) -/
theorem ps_err1 (L : Er1 X.prog X.w X.K X.mg X.base nm f C I fd) (hc : X.calm = true) (tk : Takes X W) (hr : Room 2 X.A) (hg : Gl X nm) (he : PE X ex te) (hdb : (nm == ("__debug__" : Str)) = false := by decide)
    (hse : starEach (ex :: []) X.env = (false, eval ex X.env) :: starEach [] X.env := by rfl) (hpl : (backTo pos (starEach [] X.env)).any (·.1) = false := by rfl) :
    PS X (.Raise (some (.Call (.Name nm p) [ex] [] pos)) none pos2) (fun _ σ H => tMkO C (spInit1 C f) [] (tCons te tNil) σ H fun cls d H' => W cls d σ H') :=
  ps_raise hc tk (pmk_oex L.e.x.oex L.e.ini L.e.ity L.fn hr L.bn .nil (fun _ _ _ _ _ _ _ h => h.elim) hg L.e.g (pa_cons (hs := hse) he pa_nil) hdb hse hpl)
/-- raise C() -/
theorem ps_err0 (L : Er0 X.prog X.w X.K X.mg X.base nm C I fd) (hc : X.calm = true) (tk : Takes X W) (hr : Room 2 X.A) (hg : Gl X nm) (hdb : (nm == ("__debug__" : Str)) = false := by decide) :
    PS X (.Raise (some (.Call (.Name nm p) [] [] pos)) none pos2) (fun _ σ H => tMkO0 C (spInit0 C) [] tNil σ H fun cls d H' => W cls d σ H') :=
  ps_raise hc tk (pmk_none L.e.x.oex L.e.ini L.e.ity L.fn hr L.bn .nil (fun _ _ _ _ _ _ _ h => h.elim) hg L.e.g hdb)
end
end FT


namespace FT
open PySem L2 TL ClX
section
variable {P : Program} {w : World} {K : PySem.W.Frag} {mg : Str → Option Value} {base : Heap}
theorem sc_InvalidForest : FnScope ["self", "name"] ["self", "name"] (defScope s_InvalidForest___init__) := ⟨rfl, rfl, rfl, by decide +kernel, rfl, by decide +kernel, by decide +kernel⟩
theorem ok_InvalidForest {f R C I : Addr} {fd : FuncData} (F : Fun K "__init__" "InvalidForest.__init__" s_InvalidForest___init__ f fd) (T : Rt K mg R) (L : Er K mg "InvalidForest" "name" C I) : FnOk P w K mg base CX0 1 f fd ["self", "name"] (spInit1 C "name") := by
  refine F.ok sc_InvalidForest (fun vs H Q E h => ?_) (fun cdv A outer s H vs Q E hr h => ?_)
  · obtain ⟨a, v, rfl, _⟩ := h
    rfl
  · obtain ⟨a, v, rfl, ha, k⟩ := h
    refine ⟨_, pss_cons (ps_expr (pe_clsinit T.ini rfl T.g (pa_cons (pv 0) (pa_cons pe_str pa_nil)))) (pss_one (ps_ost (pv 0) (pv 1))), ?_⟩
    refine ⟨_, rfl, a, C, _, rfl, by show 1 ≤ 1000; omega, L.x.oex, ha, ?_⟩
    exact ⟨_, rfl, _, rfl, a, C, rfl, L.x.oex, L.no, .inl ⟨ha, fun d nd nda => k d nd nda⟩⟩
theorem sc_UnknownName : FnScope ["self", "name"] ["self", "name"] (defScope s_UnknownName___init__) := ⟨rfl, rfl, rfl, by decide +kernel, rfl, by decide +kernel, by decide +kernel⟩
theorem ok_UnknownName {f R C I : Addr} {fd : FuncData} (F : Fun K "__init__" "UnknownName.__init__" s_UnknownName___init__ f fd) (T : Rt K mg R) (L : Er K mg "UnknownName" "name" C I) : FnOk P w K mg base CX0 1 f fd ["self", "name"] (spInit1 C "name") := by
  refine F.ok sc_UnknownName (fun vs H Q E h => ?_) (fun cdv A outer s H vs Q E hr h => ?_)
  · obtain ⟨a, v, rfl, _⟩ := h
    rfl
  · obtain ⟨a, v, rfl, ha, k⟩ := h
    refine ⟨_, pss_cons (ps_expr (pe_clsinit T.ini rfl T.g (pa_cons (pv 0) (pa_cons pe_str pa_nil)))) (pss_one (ps_ost (pv 0) (pv 1))), ?_⟩
    refine ⟨_, rfl, a, C, _, rfl, by show 1 ≤ 1000; omega, L.x.oex, ha, ?_⟩
    exact ⟨_, rfl, _, rfl, a, C, rfl, L.x.oex, L.no, .inl ⟨ha, fun d nd nda => k d nd nda⟩⟩
theorem sc_InvalidUsers : FnScope ["self"] ["self"] (defScope s_InvalidUsers___init__) := ⟨rfl, rfl, rfl, by decide +kernel, rfl, by decide +kernel, by decide +kernel⟩
theorem ok_InvalidUsers {f R C I : Addr} {fd : FuncData} (F : Fun K "__init__" "InvalidUsers.__init__" s_InvalidUsers___init__ f fd) (T : Rt K mg R) (L : Er K mg "InvalidUsers" "" C I) : FnOk P w K mg base CX0 1 f fd ["self"] (spInit0 C) := by
  refine F.ok sc_InvalidUsers (fun vs H Q E h => ?_) (fun cdv A outer s H vs Q E hr h => ?_)
  · obtain ⟨a, rfl, _⟩ := h
    rfl
  · obtain ⟨a, rfl, ha, k⟩ := h
    refine ⟨_, pss_one (ps_expr (pe_clsinit T.ini rfl T.g (pa_cons (pv 0) (pa_cons pe_str pa_nil)))), ?_⟩
    exact ⟨_, rfl, a, C, _, rfl, by show 1 ≤ 1000; omega, L.x.oex, ha, k⟩
theorem sc_InvalidSizes : FnScope ["self", "place"] ["self", "place"] (defScope s_InvalidSizes___init__) := ⟨rfl, rfl, rfl, by decide +kernel, rfl, by decide +kernel, by decide +kernel⟩
theorem ok_InvalidSizes {f R C I : Addr} {fd : FuncData} (F : Fun K "__init__" "InvalidSizes.__init__" s_InvalidSizes___init__ f fd) (T : Rt K mg R) (L : Er K mg "InvalidSizes" "place" C I) : FnOk P w K mg base CX0 1 f fd ["self", "place"] (spInit1 C "place") := by
  refine F.ok sc_InvalidSizes (fun vs H Q E h => ?_) (fun cdv A outer s H vs Q E hr h => ?_)
  · obtain ⟨a, v, rfl, _⟩ := h
    rfl
  · obtain ⟨a, v, rfl, ha, k⟩ := h
    refine ⟨_, pss_cons (ps_expr (pe_clsinit T.ini rfl T.g (pa_cons (pv 0) (pa_cons pe_str pa_nil)))) (pss_one (ps_ost (pv 0) (pv 1))), ?_⟩
    refine ⟨_, rfl, a, C, _, rfl, by show 1 ≤ 1000; omega, L.x.oex, ha, ?_⟩
    exact ⟨_, rfl, _, rfl, a, C, rfl, L.x.oex, L.no, .inl ⟨ha, fun d nd nda => k d nd nda⟩⟩
theorem sc_InvalidPlace : FnScope ["self", "user"] ["self", "user"] (defScope s_InvalidPlace___init__) := ⟨rfl, rfl, rfl, by decide +kernel, rfl, by decide +kernel, by decide +kernel⟩
theorem ok_InvalidPlace {f R C I : Addr} {fd : FuncData} (F : Fun K "__init__" "InvalidPlace.__init__" s_InvalidPlace___init__ f fd) (T : Rt K mg R) (L : Er K mg "InvalidPlace" "user" C I) : FnOk P w K mg base CX0 1 f fd ["self", "user"] (spInit1 C "user") := by
  refine F.ok sc_InvalidPlace (fun vs H Q E h => ?_) (fun cdv A outer s H vs Q E hr h => ?_)
  · obtain ⟨a, v, rfl, _⟩ := h
    rfl
  · obtain ⟨a, v, rfl, ha, k⟩ := h
    refine ⟨_, pss_cons (ps_expr (pe_clsinit T.ini rfl T.g (pa_cons (pv 0) (pa_cons pe_str pa_nil)))) (pss_one (ps_ost (pv 0) (pv 1))), ?_⟩
    refine ⟨_, rfl, a, C, _, rfl, by show 1 ≤ 1000; omega, L.x.oex, ha, ?_⟩
    exact ⟨_, rfl, _, rfl, a, C, rfl, L.x.oex, L.no, .inl ⟨ha, fun d nd nda => k d nd nda⟩⟩
theorem sc_InvalidLists : FnScope ["self"] ["self"] (defScope s_InvalidLists___init__) := ⟨rfl, rfl, rfl, by decide +kernel, rfl, by decide +kernel, by decide +kernel⟩
theorem ok_InvalidLists {f R C I : Addr} {fd : FuncData} (F : Fun K "__init__" "InvalidLists.__init__" s_InvalidLists___init__ f fd) (T : Rt K mg R) (L : Er K mg "InvalidLists" "" C I) : FnOk P w K mg base CX0 1 f fd ["self"] (spInit0 C) := by
  refine F.ok sc_InvalidLists (fun vs H Q E h => ?_) (fun cdv A outer s H vs Q E hr h => ?_)
  · obtain ⟨a, rfl, _⟩ := h
    rfl
  · obtain ⟨a, rfl, ha, k⟩ := h
    refine ⟨_, pss_one (ps_expr (pe_clsinit T.ini rfl T.g (pa_cons (pv 0) (pa_cons pe_str pa_nil)))), ?_⟩
    exact ⟨_, rfl, a, C, _, rfl, by show 1 ≤ 1000; omega, L.x.oex, ha, k⟩
end
end FT


namespace FT
open PySem L2 TL ClX
/-! ### data of any kind -/
inductive Dat (K : PySem.W.Frag) (H : Hp) : V → String → Prop where
  | non : Dat K H .non "NoneType"
  | bl (b : Bool) : Dat K H (.bl b) "bool"
  | int (i : Int) : Dat K H (.int i) "int"
  | str (z : Str) : Dat K H (.str z) "str"
  | lst {a : Addr} {xs : List V} (h : H a = some (.lst xs)) : Dat K H (.ref a) "list"
  | tup {a : Addr} {xs : List V} (h : H a = some (.tup xs)) : Dat K H (.ref a) "tuple"
  | dct {a : Addr} {kvs : List (Key × V)} (h : H a = some (.dK kvs)) : Dat K H (.ref a) "dict"
theorem Dat.ty {K : PySem.W.Frag} {H : Hp} {v : V} {T : String} (d : Dat K H v T) : TyX K H v (.type T) := by
  cases d with
  | non => exact .base .non
  | bl b => exact .base (.bl b)
  | int i => exact .base (.int i)
  | str z => exact .base (.str z)
  | lst h => exact .base (.lst h)
  | tup h => exact .base (.tup h)
  | dct h => exact .base (.dK h)
theorem Dat.mono {K : PySem.W.Frag} {H H' : Hp} {v : V} {T : String} (s : Same H H') (d : Dat K H v T) : Dat K H' v T := by
  cases d with
  | non => exact .non
  | bl b => exact .bl b
  | int i => exact .int i
  | str z => exact .str z
  | lst h => exact .lst (s _ _ h)
  | tup h => exact .tup (s _ _ h)
  | dct h => exact .dct (s _ _ h)
def IsDat (K : PySem.W.Frag) (H : Hp) (v : V) : Prop := ∃ T, Dat K H v T
theorem IsDat.mono {K : PySem.W.Frag} {H H' : Hp} {v : V} (s : Same H H') (d : IsDat K H v) : IsDat K H' v := let ⟨T, d⟩ := d; ⟨T, d.mono s⟩
/-- isinstance(v, int) -/
def isIntV : V → Bool
  | .int _ => true
  | .bl _ => true
  | _ => false
def isBlV : V → Bool
  | .bl _ => true
  | _ => false
def isDictV (H : Hp) (v : V) : Bool := match v with
  | .ref a => match H a with
    | some (.dK _) => true
    | _ => false
  | _ => false
theorem Dat.int_ {K : PySem.W.Frag} {H : Hp} {v : V} {T : String} (d : Dat K H v T) : PySem.W.kitOne K (.type T) (.type "int") = some (isIntV v) := by
  cases d with
  | non => exact kit_ty (r := false) (by decide +kernel)
  | bl b => exact kit_ty (r := true) (by decide +kernel)
  | int i => exact kit_ty (r := true) (by decide +kernel)
  | str z => exact kit_ty (r := false) (by decide +kernel)
  | lst h => exact kit_ty (r := false) (by decide +kernel)
  | tup h => exact kit_ty (r := false) (by decide +kernel)
  | dct h => exact kit_ty (r := false) (by decide +kernel)
theorem Dat.bool_ {K : PySem.W.Frag} {H : Hp} {v : V} {T : String} (d : Dat K H v T) : PySem.W.kitOne K (.type T) (.type "bool") = some (isBlV v) := by
  cases d with
  | non => exact kit_ty (r := false) (by decide +kernel)
  | bl b => exact kit_ty (r := true) (by decide +kernel)
  | int i => exact kit_ty (r := false) (by decide +kernel)
  | str z => exact kit_ty (r := false) (by decide +kernel)
  | lst h => exact kit_ty (r := false) (by decide +kernel)
  | tup h => exact kit_ty (r := false) (by decide +kernel)
  | dct h => exact kit_ty (r := false) (by decide +kernel)
theorem Dat.dict_ {K : PySem.W.Frag} {H : Hp} {v : V} {T : String} (d : Dat K H v T) : PySem.W.kitOne K (.type T) (.type "dict") = some (decide (T = "dict")) := by
  cases d with
  | non => exact kit_ty (r := false) (by decide +kernel)
  | bl b => exact kit_ty (r := false) (by decide +kernel)
  | int i => exact kit_ty (r := false) (by decide +kernel)
  | str z => exact kit_ty (r := false) (by decide +kernel)
  | lst h => exact kit_ty (r := false) (by decide +kernel)
  | tup h => exact kit_ty (r := false) (by decide +kernel)
  | dct h => exact kit_ty (r := true) (by decide +kernel)
theorem Dat.str_ {K : PySem.W.Frag} {H : Hp} {v : V} {T : String} (d : Dat K H v T) : PySem.W.kitOne K (.type T) (.type "str") = some (decide (T = "str")) := by
  cases d with
  | non => exact kit_ty (r := false) (by decide +kernel)
  | bl b => exact kit_ty (r := false) (by decide +kernel)
  | int i => exact kit_ty (r := false) (by decide +kernel)
  | str z => exact kit_ty (r := true) (by decide +kernel)
  | lst h => exact kit_ty (r := false) (by decide +kernel)
  | tup h => exact kit_ty (r := false) (by decide +kernel)
  | dct h => exact kit_ty (r := false) (by decide +kernel)
/-- an integer, no bool, of at least l -/
def isGe (v : V) (l : Int) : Bool := match v with
  | .int i => decide (l ≤ i)
  | _ => false
/-! ### what is raised -/
inductive Err where
  | e0 (C : Addr)
  | e1 (C : Addr) (f : Str) (v : V)
/-- the way out of such an error, from the heap H -/
def Out (H : Hp) (E : XK) : Err → Prop
  | .e0 C => ∀ H', Same H H' → E (.ref C) none H'
  | .e1 C f v => ∀ d H', Same H H' → H d = none → H' d = some (.xd [(f, v)]) → E (.ref C) (some d) H'
theorem Out.mono {H H1 : Hp} {E : XK} {e : Err} (s : Same H H1) (o : Out H E e) : Out H1 E e := by
  cases e with
  | e0 C => exact fun H' s' => o H' (s.trans s')
  | e1 C f v => exact fun d H' s' n => o d H' (s.trans s') (s.free n)
/-- raise C(v) in a def that lets it out -/
theorem out1 {C : Addr} {f : Str} {v : V} {H H1 : Hp} {E : XK} (o : Out H E (.e1 C f v)) (s : Same H H1) :
    [v].length ≤ 1000 ∧ ∀ a, H1 a = none → spInit1 C f (.ref a :: ([v] ++ [])) (upd H1 a (exo a C none))
      (fun w H2 => w = .non ∧ ∃ (d : Addr) (fs : List (Str × V)), H2 a = some (exo a C (some d)) ∧ H2 d = some (exd d fs) ∧ H1 d = none ∧ E (.ref C) (some d) (upd (del H2 a) d (.xd fs))) (fun _ _ _ => False) :=
  raise1 (Q := fun cls d H' => E cls d H') fun d nd => o d _ (s.trans (same_new nd)) (s.free nd) upd_same
theorem out0 {C : Addr} {H H1 : Hp} {E : XK} (o : Out H E (.e0 C)) (s : Same H H1) :
    ([] : List V).length ≤ 1000 ∧ ∀ a, H1 a = none → spInit0 C (.ref a :: ([] ++ [])) (upd H1 a (exo a C none)) (fun v H2 => v = .non ∧ H2 a = some (exo a C none) ∧ E (.ref C) none (del H2 a)) (fun _ _ _ => False) :=
  raise0 (Q := fun cls d H' => E cls d H') (o _ s)
/-- a call of a def that may raise, in a def that lets it out -/
theorem passX {P : Program} {w : World} {X : Cx} {E : XK} (tk : Takes X (fun cls d _ H => E cls d H)) : Passes (L2.CX X.prog X.w) X E := passes_call tk (fun _ _ _ _ h => h)
/-! ### numbers by places -/
def tblI (l : List Str) (g : Str → Int) : List (Key × V) := kvT (l.map fun a => (a, V.int (g a)))
theorem tblI_len (l : List Str) (g : Str → Int) : (tblI l g).length = l.length := by unfold tblI; rw [kvT_len, List.length_map]
theorem tblI_fst (l : List Str) (g : Str → Int) : (l.map fun a => (a, V.int (g a))).map Prod.fst = l := by rw [List.map_map]; exact List.map_id _
theorem tblI_keys (l : List Str) (g : Str → Int) : (tblI l g).map (·.1) = l.map Sum.inr := by unfold tblI kvT; rw [List.map_map, List.map_map] <;> rfl
theorem tblI_at {l : List Str} {g : Str → Int} {i : Nat} {k : Key} {v : V} (h : (tblI l g)[i]? = some (k, v)) : ∃ a, l[i]? = some a ∧ k = Sum.inr a ∧ v = .int (g a) := by
  unfold tblI kvT at h
  rw [List.map_map, List.getElem?_map] at h
  obtain ⟨a, ha, e⟩ := Option.map_eq_some_iff.mp h
  cases e
  exact ⟨a, ha, rfl, rfl⟩
theorem tblI_val {l : List Str} {g : Str → Int} {a : Str} (h : a ∈ l) : valV (tblI l g) (Sum.inr a) = some (.int (g a)) := by
  unfold tblI
  rw [kvT_val]
  induction l with
  | nil => cases h
  | cons b l ih =>
    rw [List.map_cons, look_cons]
    by_cases e : b = a
    · subst e
      exact if_pos rfl
    · rw [if_neg e]
      exact ih ((List.mem_cons.mp h).resolve_left fun z => e z.symm)
theorem tblI_none {l : List Str} {g : Str → Int} {a : Str} (h : a ∉ l) : valV (tblI l g) (Sum.inr a) = none := by
  unfold tblI
  rw [kvT_val, look_none (by rw [tblI_fst]; exact h)]
theorem tblI_put {l : List Str} {g : Str → Int} {a : Str} {z : Int} (h : a ∈ l) : putK (tblI l g) (Sum.inr a) (.int z) = tblI l (fun p => if p = a then z else g p) := by
  unfold tblI
  rw [kvT_putT]
  unfold putT
  rw [if_pos (by rw [tblI_fst]; exact h), List.map_map]
  congr 1
  refine List.map_congr_left fun p _ => ?_
  show (if p = a then (p, V.int z) else (p, V.int (g p))) = (p, V.int (if p = a then z else g p))
  by_cases e : p = a
  · rw [if_pos e, if_pos e]
  · rw [if_neg e, if_neg e]
theorem tblI_snoc {l : List Str} {g : Str → Int} {a : Str} {z : Int} (h : a ∉ l) (e : z = g a) : putK (tblI l g) (Sum.inr a) (.int z) = tblI (l ++ [a]) g := by
  unfold tblI
  rw [kvT_put (by rw [tblI_fst]; exact h), List.map_append, e] <;> rfl
theorem tblI_congr {l : List Str} {g g' : Str → Int} (h : ∀ a ∈ l, g a = g' a) : tblI l g = tblI l g' := by
  unfold tblI
  rw [List.map_congr_left fun a ha => by rw [h a ha]]
/-! ### feasible sizes -/
/-- sizes: a dict, its pairs told, or another value -/
def SzV (K : PySem.W.Frag) (H : Hp) (sv : V) : Option (List (Key × V)) → Prop
  | some kvs => ∃ q, sv = .ref q ∧ H q = some (.dK kvs) ∧ ∀ p ∈ kvs, IsDat K H p.2
  | none => ∃ T, Dat K H sv T ∧ T ≠ "dict"
theorem SzV.mono {K : PySem.W.Frag} {H H' : Hp} {sv : V} {o : Option (List (Key × V))} (s : Same H H') (h : SzV K H sv o) : SzV K H' sv o := by
  cases o with
  | none => exact let ⟨T, d, n⟩ := h; ⟨T, d.mono s, n⟩
  | some kvs => exact let ⟨q, e, h, a⟩ := h; ⟨q, e, s _ _ h, fun p hp => (a p hp).mono s⟩
def szOf (kvs : List (Key × V)) (a : Str) : Int := match valV kvs (Sum.inr a) with
  | some (.int i) => i
  | _ => 0
def badKey (kvs : List (Key × V)) (a : Str) : Bool := !isGe ((valV kvs (Sum.inr a)).getD .non) 0
/-- the place of the first fault, as the error tells it -/
def feas (ts : List (Str × Str)) (n : Int) : Option (List (Key × V)) → Option V
  | none => some .non
  | some kvs => if kvs.length ≠ ts.length then some .non else if (ts.map Prod.fst).all (fun a => (valV kvs (Sum.inr a)).isSome) = false then some .non else
    match (ts.map Prod.fst).find? (badKey kvs) with
    | some a => some (.str a)
    | none => ((("" : Str) :: ts.map Prod.fst).find? fun p => decide (resid ts n (szOf kvs) p < 0)).map V.str
def usersOk (v : V) (m : Int) : Bool := match v with
  | .int i => decide (1 ≤ i) && decide (i ≤ m)
  | _ => false
def feE (CS : Addr) (ts : List (Str × Str)) (n : Int) (o : Option (List (Key × V))) : Option Err := (feas ts n o).map fun v => .e1 CS "place" v
def szE (CU CS : Addr) (ts : List (Str × Str)) (uv : V) (o : Option (List (Key × V))) : Option Err := if usersOk uv (10 ^ 30) = true then feE CS ts (match uv with | .int n => n | _ => 0) o else some (.e0 CU)
/-- a def that hands back None, or raises -/
def Res (H : Hp) (Q : VK) (E : XK) : Option Err → Prop
  | none => ∀ H', Same H H' → Q .non H'
  | some e => Out H E e
theorem Res.mono {H H1 : Hp} {Q : VK} {E : XK} {o : Option Err} (s : Same H H1) (r : Res H Q E o) : Res H1 Q E o := by
  cases o with
  | none => exact fun H' s' => r H' (s.trans s')
  | some e => exact Out.mono s r
def spIsInt (K : PySem.W.Frag) : Sp := fun vs H Q _ => ∃ (v : V) (l : Int), vs = [v, .int l] ∧ IsDat K H v ∧ Q (.bl (isGe v l)) H
def spUsers (K : PySem.W.Frag) (CU : Addr) : Sp := fun vs H Q E => ∃ (v : V) (m : Int), vs = [v, .int m] ∧ IsDat K H v ∧ Res H Q E (if usersOk v m = true then none else some (.e0 CU))
def spResid (CF : Addr) : Sp := fun vs H Q _ => ∃ (x q : Addr) (n : Int) (ts : List (Str × Str)) (kvs : List (Key × V)), vs = [.ref x, .int n, .ref q] ∧ FAt CF H x ts ∧ TreeOk ts ∧ H q = some (.dK kvs) ∧ (∀ a ∈ ts.map Prod.fst, valV kvs (Sum.inr a) = some (.int (szOf kvs a))) ∧
  ∀ p H', Same H H' → H p = none → H' p = some (.dK (tblI ("" :: ts.map Prod.fst) (resid ts n (szOf kvs)))) → Q (.ref p) H'
def spFeas (K : PySem.W.Frag) (CF CS : Addr) : Sp := fun vs H Q E => ∃ (x : Addr) (n : Int) (sv : V) (ts : List (Str × Str)) (o : Option (List (Key × V))), vs = [.ref x, .int n, sv] ∧ FAt CF H x ts ∧ TreeOk ts ∧ SzV K H sv o ∧ Res H Q E (feE CS ts n o)
def spNSizes (K : PySem.W.Frag) (CF CU CS : Addr) : Sp := fun vs H Q E => ∃ (x : Addr) (uv sv : V) (ts : List (Str × Str)) (o : Option (List (Key × V))), vs = [.ref x, uv, sv] ∧ FAt CF H x ts ∧ TreeOk ts ∧ IsDat K H uv ∧ SzV K H sv o ∧ Res H Q E (szE CU CS ts uv o)
section
variable {P : Program} {w : World} {K : PySem.W.Frag} {mg : Str → Option Value} {base : Heap}
theorem scIsInt : FnScope ["value", "least"] ["value", "least"] (defScope s_is_integer) := ⟨rfl, rfl, rfl, by decide +kernel, rfl, by decide +kernel, by decide +kernel⟩
theorem ok_isInt {f : Addr} {fd : FuncData} (F : Fun K "is_integer" "is_integer" s_is_integer f fd) (T : Nm mg) : FnOk P w K mg base CX0 1 f fd ["value", "least"] (spIsInt K) := by
  refine F.ok scIsInt (fun vs H Q E h => ?_) (fun cdv A outer s H vs Q E hr h => ?_)
  · obtain ⟨v, l, rfl, _⟩ := h
    rfl
  · obtain ⟨v, l, rfl, ⟨t, d⟩, k⟩ := h
    refine ⟨_, pss_one (ps_ret (pe_and (pe_callB call_isi (by rfl) T.isi (by decide +kernel) (pa_cons (pv 0) (pa_cons (pe_bltn (v := .ty "int") (u := .type "int") (by rfl) T.int (by decide +kernel) rfl) pa_nil)))
      (pe_and (pe_not (pe_callB call_isi (by rfl) T.isi (by decide +kernel) (pa_cons (pv 0) (pa_cons (pe_bltn (v := .ty "bool") (u := .type "bool") (by rfl) T.bool (by decide +kernel) rfl) pa_nil)))) (pe_one (pe_cmpR op_ge (pv 0) (pv 1) (nomark _)))))), ?_⟩
    refine ⟨_, rfl, v, _, _, _, _, rfl, .ty _, d.ty, d.int_, _, rfl, ?_⟩
    refine ite2 (fun yes => ⟨_, rfl, v, _, _, _, _, rfl, .ty _, d.ty, d.bool_, _, rfl, _, rfl, ?_⟩) (fun no => ?_)
    · refine ite2 (fun yes2 => ?_) (fun no2 => ?_)
      · cases v with
        | int i => exact ⟨_, rfl, _, rfl, i, l, rfl, rfl, k⟩
        | bl b => cases yes2
        | _ => cases yes
      · cases v with
        | int i => exact absurd rfl no2
        | bl b => exact k
        | _ => cases yes
    · cases v with
      | int i => exact absurd rfl no
      | bl b => exact absurd rfl no
      | _ => exact k
theorem scUsers : FnScope ["users", "most"] ["users", "most"] (defScope s_need_users) := ⟨rfl, rfl, rfl, by decide +kernel, rfl, by decide +kernel, by decide +kernel⟩
theorem ok_users {f fI CU IU : Addr} {fd fdI dU : FuncData} (F : Fun K "need_users" "need_users" s_need_users f fd) (T : Nm mg) (I : Dn P w K mg base CX0 1 "is_integer" ["value", "least"] (spIsInt K) fI fdI) (U : Er0 P w K mg base "InvalidUsers" CU IU dU) :
    FnOk P w K mg base (L2.CX P w) 3 f fd ["users", "most"] (spUsers K CU) := by
  refine F.okX scUsers (fun vs H Q E h => ?_) (fun cdv A outer s H vs Q E hr h => ?_)
  · obtain ⟨v, m, rfl, _⟩ := h
    rfl
  · obtain ⟨v, m, rfl, d, k⟩ := h
    refine ⟨_, pss_one (ps_if (PW.pt (pw_or (pt_not (pt_val (pe_call I.ok (hr.mono (by decide)) rfl I.mgn I.kp I.bn .nil pass0 (pa_cons (pv 0) (pa_cons pe_int pa_nil))))) (pw_or1 (pt_cmpR op_gt (pv 0) (pv 1) (nomark _))))) (pss_one (ps_err0 U rfl (takes_of rfl rfl rfl rfl) hr rfl)) pss_nil), ?_⟩
    refine ⟨_, rfl, v, 1, rfl, d, _, rfl, ?_⟩
    cases v with
    | int i =>
      by_cases h1 : 1 ≤ i
      · rw [show isGe (.int i) 1 = true from decide_eq_true h1]
        refine iteF ?_
        refine ⟨_, rfl, _, rfl, i, m, rfl, rfl, _, rfl, ?_⟩
        by_cases h2 : i ≤ m
        · rw [decide_eq_false (show ¬ m < i by omega)]
          rw [if_pos (show usersOk (.int i) m = true by show (decide (1 ≤ i) && decide (i ≤ m)) = true; rw [decide_eq_true h1, decide_eq_true h2] <;> rfl)] at k
          exact iteF (k H Same.refl)
        · rw [decide_eq_true (show m < i by omega)]
          rw [if_neg (show ¬ usersOk (.int i) m = true by show ¬ (decide (1 ≤ i) && decide (i ≤ m)) = true; rw [decide_eq_false h2, Bool.and_false]; decide)] at k
          exact iteT (out0 k Same.refl)
      · rw [show isGe (.int i) 1 = false from decide_eq_false h1]
        rw [if_neg (show ¬ usersOk (.int i) m = true by show ¬ (decide (1 ≤ i) && decide (i ≤ m)) = true; rw [decide_eq_false h1, Bool.false_and]; decide)] at k
        show if true = true then _ else _
        rw [if_pos rfl]
        exact iteT (out0 k Same.refl)
    | _ =>
      show if true = true then _ else _
      rw [if_pos rfl]
      exact iteT (out0 k Same.refl)
end
end FT


namespace FT
open PySem L2 TL ClX
section
variable {P : Program} {w : World} {K : PySem.W.Frag} {mg : Str → Option Value} {base : Heap}
abbrev NRes : List Str := ["forest", "users", "sizes", "found", "parents", "name", "place"]
theorem scRes : FnScope NRes ["forest", "users", "sizes"] (defScope s_residents_of) := ⟨rfl, rfl, rfl, by decide +kernel, rfl, by decide +kernel, by decide +kernel⟩
theorem ok_resid {f fP CF p1 g1 p2 g2 : Addr} {mc : Value} {fd fdP fd1 fd2 : FuncData} (F : Fun K "residents_of" "residents_of" s_residents_of f fd) (T : Nm mg) (O : FoC K CF) (Z : Fc K mg CF mc)
    (G : Dn P w K mg base CX0 3 "places_of" ["forest"] (spPlacesOf CF) fP fdP) (L1 : Pr1 P w K mg base CF "flags" (spFFlags CF) p1 g1 fd1) (L2 : Pr1 P w K mg base CF "parents" (spFParents CF) p2 g2 fd2) :
    FnOk P w K mg base CX0 4 f fd ["forest", "users", "sizes"] (spResid CF) := by
  obtain ⟨ur, cr⟩ := Z.root
  refine F.ok scRes (fun vs H Q E h => ?_) (fun cdv A outer s H vs Q E hr h => ?_)
  · obtain ⟨x, q, n, ts, kvs, rfl, _⟩ := h
    rfl
  · obtain ⟨x, q, n, ts, kvs, rfl, fa, o, hq, hv, k⟩ := h
    have hu := hu_of hr
    have hr2 : Room 2 _ := hr.mono (by decide)
    have big : 1000 ≤ sizeLine := by decide
    have few := o.few
    refine ⟨_, pss_cons (ps_setDc (i := 3) (own := [("place", 6)]) (g := gName 6) (tt := tYes) (tv := tIf (tTest (tOp rEq (tVar 6) (tCVal K (tC (.ref CF)) "ROOT"))) (tVar 1) (tDGet (tVar 2) (tVar 6))) rfl scRes.nd rfl rfl (swd_true rfl rfl rfl (by decide +kernel)) (pi_list (pe_call G.ok (hr.mono (by decide)) rfl G.mgn G.kp G.bn .nil pass0 (pa_cons (pv 0) pa_nil)))
        (blkOk_by (N := NRes) (sc := defScope s_residents_of) (by decide +kernel))
        (fun _ _ _ _ _ => pg_name (i := 6) scRes.nd rfl (Or.inl rfl)) (fun _ _ _ _ _ => pts_nil) (fun _ _ _ _ _ => pv 6)
        (fun _ _ _ _ _ => pe_ifExp (pt_cmpR op_eq (pv 6) (pe_cval (pe_glob (v := .ref CF) (by rfl) Z.gF rfl)) (nomark _)) (pv 1) (pe_dget hu (pv 2) (pv 6) (fun _ _ => rfl))))
      (pss_cons (ps_set (i := 4) scRes.nd rfl (.inl rfl) (pe_prop (pv 0) O.cl L2.pr L2.fn hr2 L2.bn .nil pass0 (by rfl)))
      (pss_cons (ps_for PassesOwn.never rfl (pi_list (pe_prop (pv 0) O.cl L1.pr L1.fn hr2 L1.bn .nil pass0 (by rfl))) (pg_name (i := 5) scRes.nd rfl (.inl rfl))
        (pss_one (ps_dput hu (pv 3) (pe_dget hu (pv 4) (pv 5) (fun _ _ => rfl)) (pe_op op_sub (pe_dget hu (pv 3) (pe_dget hu (pv 4) (pv 5) (fun _ _ => rfl)) (fun _ _ => rfl)) (pe_dget hu (pv 2) (pv 5) (fun _ _ => rfl))) rfl)))
      (pss_one (ps_ret (pv 3))))), ?_⟩
    obtain ⟨pls, epl⟩ : ∃ l, l = (("" : Str) :: ts.map Prod.fst) := ⟨_, rfl⟩
    have ndp : pls.Nodup := by rw [epl]; exact List.nodup_cons.mpr ⟨o.root, o.nd⟩
    have lpl : pls.length = ts.length + 1 := by rw [epl, List.length_cons, List.length_map]
    rw [← epl] at k
    refine ⟨_, rfl, x, ts, rfl, fa, few, fun p0 H0 s0 n0 a0 => ⟨p0, rfl, ⟨_, SqL.of a0⟩, fun D nD => ?_⟩⟩
    rw [← epl] at a0
    refine dc_it walk_list (fun i H' => Same H0 H' ∧ H' D = some (.dK (tblI (pls.take i) (resid [] n (szOf kvs))))) ⟨same_new nD, upd_same⟩ (fun i H' _ z => SqL.of (z.1 _ _ a0)) ?_ ?_
    · intro i y Ha Hb hi ⟨q1, q2⟩ ⟨eb, ex⟩
      subst eb
      obtain ⟨a, ha, rfl⟩ := map_of ex
      have ma : a ∈ pls := List.mem_of_getElem? ha
      have fresh : a ∉ pls.take i := fun hm => by
        obtain ⟨j, hj⟩ := List.mem_iff_getElem?.mp hm
        have jl := (List.getElem?_eq_some_iff.mp hj).1
        rw [List.length_take] at jl
        rw [List.getElem?_take, if_pos (by omega)] at hj
        have := (List.getElem?_inj (by omega) ndp).mp (hj.trans ha.symm)
        omega
      have fin : ∀ z, z = resid [] n (szOf kvs) a → ∃ kvs1 k1, V.str a = kV k1 ∧ Hb D = some (.dK kvs1) ∧ kvs1.length < sizeLine ∧ (Same H0 (upd Hb D (.dK (putK kvs1 k1 (.int z)))) ∧ (upd Hb D (.dK (putK kvs1 k1 (.int z)))) D = some (.dK (tblI (pls.take (i + 1)) (resid [] n (szOf kvs))))) := fun z ez =>
        ⟨_, Sum.inr a, rfl, q2, by rw [tblI_len, List.length_take]; omega, Same.put q1 nD, by rw [upd_same, tblI_snoc fresh ez, take_more ha]⟩
      refine ⟨rfl, ?_⟩
      refine ⟨_, rfl, ?_⟩
      refine ⟨_, rfl, CF, mc, _, ur, rfl, Z.rd, cr, rfl, _, rfl, ?_⟩
      by_cases e : a = ""
      · rw [decide_eq_true (show V.str a = V.str "" by rw [e])]
        refine iteT ⟨_, rfl, fin n ?_⟩
        rw [e]
        show n = n - 0
        omega
      · rw [decide_eq_false (show ¬ V.str a = V.str "" from fun z => e (V.str.inj z))]
        have mk : a ∈ ts.map Prod.fst := by
          rw [epl] at ma
          exact (List.mem_cons.mp ma).resolve_left e
        refine iteF ⟨_, rfl, _, rfl, q, .int (szOf kvs a), rfl, ?_, fin _ ?_⟩
        · have z := DGet.k (k := Sum.inr a) (q1 _ _ (s0 _ _ hq))
          rw [hv a mk] at z
          exact z
        · show szOf kvs a = (if a = "" then n else szOf kvs a) - 0
          rw [if_neg e]
          omega
    · intro H1 ⟨q1, q2⟩
      have lp2 : (pls.map V.str).length = pls.length := List.length_map _
      rw [lp2, List.take_length] at q2
      have s1 : Same H H1 := s0.trans q1
      have nD0 : H D = none := s0.free nD
      obtain ⟨dx, dq, hx, hd⟩ := id fa
      refine ⟨_, rfl, x, dx, _, rfl, s1 _ _ hx, x, ts, rfl, fa.mono s1, fun pp npp => ?_⟩
      have pD : D ≠ pp := ne_of_none q2 npp
      obtain ⟨H2, e2⟩ : ∃ X, X = upd H1 pp (.dK (prs ts)) := ⟨_, rfl⟩
      have s12 : Same H1 H2 := e2 ▸ same_new npp
      have a2 : H2 pp = some (.dK (prs ts)) := by rw [e2]; exact upd_same
      rw [← e2]
      have s2 := s1.trans s12
      refine ⟨_, rfl, x, dx, _, rfl, s2 _ _ hx, x, ts, rfl, fa.mono s2, fun pf npf => ⟨pf, rfl, ⟨_, SqL.of upd_same⟩, ?_⟩⟩
      obtain ⟨H3, e3⟩ : ∃ X, X = upd H2 pf (.lst ((ts.map Prod.fst).map V.str)) := ⟨_, rfl⟩
      have s23 : Same H2 H3 := e3 ▸ same_new npf
      have a3 : H3 pf = some (.lst ((ts.map Prod.fst).map V.str)) := by rw [e3]; exact upd_same
      rw [← e3]
      have s3 := s2.trans s23
      have pfD : pf ≠ D := fun z => by rw [z, s23 _ _ (s12 _ _ q2)] at a3; cases a3
      refine for_it walk_list (fun j σ' H' => (∃ u5, σ' = [some (.ref x), some (.int n), some (.ref q), some (.ref D), some (.ref pp), u5, none]) ∧ Same H H' ∧ H' pp = some (.dK (prs ts)) ∧ H' pf = some (.lst ((ts.map Prod.fst).map V.str)) ∧ H' D = some (.dK (tblI pls (resid (ts.take j) n (szOf kvs)))))
        ⟨⟨none, rfl⟩, s3, s23 _ _ a2, a3, s23 _ _ (s12 _ _ q2)⟩ (fun j σ' H' _ z => SqL.of z.2.2.2.1) ?_ ?_
      · intro j y σ' Ha Hb hj ⟨⟨u5, e⟩, sa, app, apf, aD⟩ ⟨eb, ex⟩
        subst e
        subst eb
        obtain ⟨a, ha, rfl⟩ := map_of ex
        obtain ⟨⟨a', pa⟩, hp, rfl⟩ := Option.map_eq_some_iff.mp (show (ts[j]?).map Prod.fst = some a by rw [← List.getElem?_map]; exact ha)
        have mp := List.mem_of_getElem? hp
        have mk : a' ∈ ts.map Prod.fst := List.mem_map.mpr ⟨_, mp, rfl⟩
        have ep := par_of o.nd mp
        obtain ⟨rk, r⟩ := o.up
        have mpa : pa ∈ pls := by
          rw [epl]
          exact List.mem_cons.mpr ((r _ mp).2.imp id And.left)
        have dg : DGet Hb pp (.str a') (some (.str pa)) := by
          have z := DGet.k (k := Sum.inr a') app
          rw [val_prs, ep] at z
          exact z
        refine ⟨_, rfl, _, rfl, _, rfl, pp, _, rfl, dg, D, .int (resid (ts.take j) n (szOf kvs) pa), rfl, ?_, ?_⟩
        · have z := DGet.k (k := Sum.inr pa) aD
          rw [tblI_val mpa] at z
          exact z
        · refine ⟨_, rfl, _, rfl, q, .int (szOf kvs a'), rfl, ?_, _, _, rfl, rfl, ?_⟩
          · have z := DGet.k (k := Sum.inr a') (sa _ _ hq)
            rw [hv a' mk] at z
            exact z
          · refine ⟨_, rfl, _, rfl, _, rfl, pp, _, rfl, dg, D, _, rfl, DPut.k (k := Sum.inr pa) aD (by rw [tblI_len]; omega), ?_⟩
            refine ⟨⟨_, rfl⟩, fun b u e => ?_, ?_, ?_, ?_⟩
            · rw [upd_ne (ne_of_none e nD0)]
              exact sa b u e
            · rw [upd_ne pD.symm]
              exact app
            · rw [upd_ne pfD]
              exact apf
            · rw [upd_same, tblI_put mpa]
              congr 2
              refine tblI_congr fun b _ => ?_
              rw [take_more hp, resid_snoc]
              by_cases e : b = pa
              · rw [if_pos e, if_pos e.symm, e]
              · rw [if_neg e, if_neg fun z => e z.symm]
      · intro σ' H4 ⟨⟨u5, e⟩, sa, app, apf, aD⟩
        subst e
        rw [List.length_map, List.length_map, List.take_length] at aD
        exact ⟨_, rfl, k D H4 sa nD0 aD⟩
end
end FT


namespace FT
open PySem L2 TL ClX
theorem valV_mem {kvs : List (Key × V)} {k : Key} {v : V} (h : valV kvs k = some v) : (k, v) ∈ kvs := by
  unfold valV at h
  obtain ⟨p, hp, e⟩ := Option.map_eq_some_iff.mp h
  have m := List.mem_of_find?_eq_some hp
  have q : p.1 = k := of_decide_eq_true (List.find?_some (p := fun kv : Key × V => decide (kv.1 = k)) hp)
  obtain ⟨k', v'⟩ := p
  cases e
  cases (show k' = k from q)
  exact m
theorem feas_some (ts : List (Str × Str)) (n : Int) (kvs : List (Key × V)) : feas ts n (some kvs) = if kvs.length ≠ ts.length then some .non else if (ts.map Prod.fst).all (fun a => (valV kvs (Sum.inr a)).isSome) = false then some .non else
    match (ts.map Prod.fst).find? (badKey kvs) with
    | some a => some (.str a)
    | none => ((("" : Str) :: ts.map Prod.fst).find? fun p => decide (resid ts n (szOf kvs) p < 0)).map V.str := rfl
theorem find_at {α : Type} {p : α → Bool} : ∀ {l : List α} {j : Nat} {a : α}, l[j]? = some a → (l.take j).find? p = none → p a = true → l.find? p = some a
  | [], j, a, h, _, _ => by simp at h
  | x :: l, 0, a, h, _, hp => by
    have e : x = a := Option.some.inj h
    subst e
    rw [List.find?_cons, hp]
  | x :: l, j + 1, a, h, hn, hp => by
    have hn' : (x :: l.take j).find? p = none := hn
    rw [List.find?_cons] at hn' ⊢
    cases e : p x with
    | true =>
      rw [e] at hn'
      cases hn'
    | false =>
      rw [e] at hn'
      exact find_at h hn' hp
theorem find_more {α : Type} {p : α → Bool} {l : List α} {j : Nat} {a : α} (h : l[j]? = some a) (hn : (l.take j).find? p = none) (hp : p a = false) : (l.take (j + 1)).find? p = none := by
  rw [take_more h, List.find?_append, hn]
  show [a].find? p = none
  rw [List.find?_cons, hp] <;> rfl
theorem len_int {a b : Nat} : decide (V.int (a : Int) = V.int (b : Int)) = decide (a = b) := by
  rw [Bool.eq_iff_iff, decide_eq_true_eq, decide_eq_true_eq]
  constructor
  · intro h
    have := V.int.inj h
    omega
  · intro h
    rw [h]
section
variable {P : Program} {w : World} {K : PySem.W.Frag} {mg : Str → Option Value} {base : Heap}
abbrev NFe : List Str := ["forest", "users", "sizes", "name", "left", "place"]
theorem scFe : FnScope NFe ["forest", "users", "sizes"] (defScope s_need_feasible) := ⟨rfl, rfl, rfl, by decide +kernel, rfl, by decide +kernel, by decide +kernel⟩
theorem ok_feas {f fR fI CF CS IS p1 g1 : Addr} {fd fdR fdI dS fd1 : FuncData} (F : Fun K "need_feasible" "need_feasible" s_need_feasible f fd) (T : Nm mg) (O : FoC K CF) (S : Er1 P w K mg base "InvalidSizes" "place" CS IS dS)
    (R : Dn P w K mg base CX0 4 "residents_of" ["forest", "users", "sizes"] (spResid CF) fR fdR) (I : Dn P w K mg base CX0 1 "is_integer" ["value", "least"] (spIsInt K) fI fdI) (L1 : Pr1 P w K mg base CF "flags" (spFFlags CF) p1 g1 fd1) :
    FnOk P w K mg base (L2.CX P w) 5 f fd ["forest", "users", "sizes"] (spFeas K CF CS) := by
  refine F.okX scFe (fun vs H Q E h => ?_) (fun cdv A outer s H vs Q E hr h => ?_)
  · obtain ⟨x, n, sv, ts, o, rfl, _⟩ := h
    rfl
  · obtain ⟨x, n, sv, ts, so, rfl, fa, o, hz, k⟩ := h
    have hu := hu_of hr
    have hr2 : Room 2 _ := hr.mono (by decide)
    have big : 1000 ≤ sizeLine := by decide
    have few := o.few
    have flags : PE (cxOf (L2.CX P w) P w K mg base NFe "need_feasible" (defScope s_need_feasible) f cdv A outer s H E) (.Name "forest" ⟨0, 0, 0, 0⟩) (tVar 0) := pv 0
    refine ⟨_, pss_cons (ps_if (PW.pt (pw_or (pt_not (pt_val (pe_callB call_isi (by rfl) T.isi (by decide +kernel) (pa_cons (pv 2) (pa_cons (pe_bltn (v := .ty "dict") (u := .type "dict") (by rfl) T.dct (by decide +kernel) rfl) pa_nil)))))
        (pw_or1 (pt_cmpR op_ne (pe_callB call_lenD (by rfl) T.len PySem.boot_len (pa_cons (pv 2) pa_nil)) (pe_callB call_len_seq (by rfl) T.len PySem.boot_len (pa_cons (pe_prop (pv 0) O.cl L1.pr L1.fn hr2 L1.bn .nil pass0 (by rfl)) pa_nil)) (nomark _)))))
        (pss_one (ps_err1 S rfl (takes_of rfl rfl rfl rfl) hr2 rfl pe_non)) pss_nil)
      (pss_cons (ps_if (pt_not (pt_val (pe_callB (cr_all rfl) (by rfl) T.all (by decide +kernel) (pa_cons (pe_lc (own := [("name", 3)]) (g := gName 3) (tt := tYes) rfl scFe.nd (pi_list (pe_prop (pv 0) O.cl L1.pr L1.fn hr2 L1.bn .nil pass0 (by rfl)))
          (blkOk_by (N := NFe) (sc := defScope s_need_feasible) (by decide +kernel))
          (fun _ _ _ _ _ => pg_name (i := 3) scFe.nd rfl (Or.inl rfl)) (fun _ _ _ _ _ => pts_nil) (fun _ _ _ _ _ => pe_cmp (pc_din hu (pv 3) (pv 2)) rfl)) pa_nil))))
        (pss_one (ps_err1 S rfl (takes_of rfl rfl rfl rfl) hr2 rfl pe_non)) pss_nil)
      (pss_cons (ps_for (passes_of rfl) rfl (pi_list (pe_prop (pv 0) O.cl L1.pr L1.fn hr2 L1.bn .nil pass0 (by rfl))) (pg_name (i := 3) scFe.nd rfl (.inl rfl))
        (pss_one (ps_if (pt_not (pt_val (pe_call I.ok (hr.mono (by decide)) rfl I.mgn I.kp I.bn .nil pass0 (pa_cons (pe_dget hu (pv 2) (pv 3) (fun _ _ => rfl)) (pa_cons pe_int pa_nil))))) (pss_one (ps_err1 S rfl (takes_of rfl rfl rfl rfl) hr2 rfl (pv 3))) pss_nil)))
      (pss_cons (ps_set (i := 4) scFe.nd rfl (.inl rfl) (pe_call R.ok hr rfl R.mgn R.kp R.bn .nil pass0 (pa_cons (pv 0) (pa_cons (pv 1) (pa_cons (pv 2) pa_nil)))))
      (pss_one (ps_lock (ps_for (passes_of rfl) rfl (pi_keys (pv 4)) (pg_name (i := 5) scFe.nd rfl (.inl rfl))
        (pss_one (ps_if (pt_cmpR op_lt (pe_dget hu (pv 4) (pv 5) (fun _ _ => rfl)) pe_int (nomark _)) (pss_one (ps_err1 S rfl (takes_of rfl rfl rfl rfl) hr2 rfl (pv 5))) pss_nil)))))))), ?_⟩
    obtain ⟨dx, dq, hx, hd⟩ := id fa
    cases so with
    | none =>
      obtain ⟨t, d, nd⟩ := hz
      refine ⟨_, rfl, sv, _, _, _, _, rfl, .ty _, d.ty, d.dict_, _, rfl, ?_⟩
      rw [decide_eq_false nd]
      show if true = true then _ else _
      rw [if_pos rfl]
      exact iteT (out1 k Same.refl)
    | some kvs =>
      obtain ⟨q, rfl, hq, dat⟩ := hz
      refine ⟨_, rfl, .ref q, _, _, _, _, rfl, .ty _, (Dat.dct (K := K) hq).ty, (Dat.dct (K := K) hq).dict_, _, rfl, ?_⟩
      rw [decide_eq_true rfl]
      refine iteF ?_
      refine ⟨_, rfl, q, kvs, rfl, hq, ?_⟩
      refine ⟨_, rfl, x, dx, _, rfl, hx, x, ts, rfl, fa, fun pf nf => ⟨pf, _, rfl, .inl (SqL.of upd_same), rfl, _, rfl, ?_⟩⟩
      rw [List.length_map, List.length_map, len_int]
      have s1 := same_new (o := .lst ((ts.map Prod.fst).map V.str)) nf
      obtain ⟨H1, e1⟩ : ∃ X, X = upd H pf (.lst ((ts.map Prod.fst).map V.str)) := ⟨_, rfl⟩
      rw [← e1] at s1 ⊢
      by_cases el : kvs.length = ts.length
      · rw [decide_eq_true el]
        refine iteF ?_
        -- all there?
        refine ⟨_, rfl, x, dx, _, rfl, s1 _ _ hx, x, ts, rfl, fa.mono s1, fun pg ng => ⟨pg, rfl, ⟨_, SqL.of upd_same⟩, fun D nD => ?_⟩⟩
        obtain ⟨H2, e2⟩ : ∃ X, X = upd H1 pg (.lst ((ts.map Prod.fst).map V.str)) := ⟨_, rfl⟩
        have s12 : Same H1 H2 := e2 ▸ same_new ng
        have a2 : H2 pg = some (.lst ((ts.map Prod.fst).map V.str)) := by rw [e2]; exact upd_same
        have s2 := s1.trans s12
        rw [← e2] at nD ⊢
        refine lc_it walk_list (fun i H' => Same H2 H' ∧ H' D = some (.lst ((((ts.map Prod.fst).take i).map fun a => (valV kvs (Sum.inr a)).isSome).map V.bl))) ⟨same_new nD, upd_same⟩ (fun i H' _ z => SqL.of (z.1 _ _ a2)) ?_ ?_
        · intro i y Ha Hb hi ⟨q1, q2⟩ ⟨eb, ex⟩
          subst eb
          obtain ⟨a, ha, rfl⟩ := map_of ex
          refine ⟨rfl, ?_⟩
          refine ⟨_, rfl, _, rfl, q, _, rfl, DGet.k (k := Sum.inr a) (q1 _ _ (s2 _ _ hq)), _, q2, ?_, Same.put q1 nD, ?_⟩
          · rw [List.length_map, List.length_map, List.length_take, List.length_map]
            omega
          · rw [upd_same, take_more ha, List.map_append, List.map_append] <;> rfl
        · intro H3 ⟨q1, q2⟩
          have s3 := s2.trans q1
          rw [List.length_map, List.take_length] at q2
          refine ⟨D, _, rfl, SqL.of q2, _, rfl, ?_⟩
          have eall : (((ts.map Prod.fst).map fun a => (valV kvs (Sum.inr a)).isSome)).all id = (ts.map Prod.fst).all fun a => (valV kvs (Sum.inr a)).isSome := by rw [List.all_map] <;> rfl
          rw [eall]
          cases ea : (ts.map Prod.fst).all fun a => (valV kvs (Sum.inr a)).isSome with
          | false =>
            refine iteT (out1 (H := H) ?_ s3)
            have e : feE CS ts n (some kvs) = some (.e1 CS "place" .non) := by
              unfold feE
              rw [feas_some, if_neg (fun z => z el), if_pos ea] <;> rfl
            rw [e] at k
            exact k
          | true =>
            refine iteF ?_
            have there : ∀ a ∈ ts.map Prod.fst, ∃ v, valV kvs (Sum.inr a) = some v := fun a ha => Option.isSome_iff_exists.mp (List.all_eq_true.mp ea a ha)
            -- one by one
            refine ⟨_, rfl, x, dx, _, rfl, s3 _ _ hx, x, ts, rfl, fa.mono s3, fun ph nh => ⟨ph, rfl, ⟨_, SqL.of upd_same⟩, ?_⟩⟩
            obtain ⟨H4, e4⟩ : ∃ X, X = upd H3 ph (.lst ((ts.map Prod.fst).map V.str)) := ⟨_, rfl⟩
            have s4 : Same H H4 := s3.trans (e4 ▸ same_new nh)
            have a4 : H4 ph = some (.lst ((ts.map Prod.fst).map V.str)) := by rw [e4]; exact upd_same
            rw [← e4]
            refine for_it walk_list (fun j σ' H' => (∃ u3, σ' = [some (.ref x), some (.int n), some (.ref q), u3, none, none]) ∧ Same H4 H' ∧ ((ts.map Prod.fst).take j).find? (badKey kvs) = none)
              ⟨⟨none, rfl⟩, Same.refl, rfl⟩ (fun j σ' H' _ z => SqL.of (z.2.1 _ _ a4)) ?_ ?_
            · intro j y σ' Ha Hb hj ⟨⟨u3, e⟩, sa, good⟩ ⟨eb, ex⟩
              subst e
              subst eb
              obtain ⟨a, ha, rfl⟩ := map_of ex
              obtain ⟨v, hv⟩ := there a (List.mem_of_getElem? ha)
              have s0 := s4.trans sa
              refine ⟨_, rfl, _, rfl, q, v, rfl, by have z := DGet.k (k := Sum.inr a) (s0 _ _ hq); rw [hv] at z; exact z, v, 0, rfl, (dat _ (valV_mem hv)).mono s0, _, rfl, ?_⟩
              cases eg : isGe v 0 with
              | true => exact iteF ⟨⟨_, rfl⟩, sa, find_more ha good (by unfold badKey; rw [hv]; show (!isGe v 0) = false; rw [eg] <;> rfl)⟩
              | false =>
                refine iteT ⟨_, rfl, out1 (H := H) ?_ s0⟩
                have e : feE CS ts n (some kvs) = some (.e1 CS "place" (.str a)) := by
                  unfold feE
                  rw [feas_some, if_neg (fun z => z el), if_neg (by rw [ea]; decide), find_at ha good (by unfold badKey; rw [hv]; show (!isGe v 0) = true; rw [eg] <;> rfl)] <;> rfl
                rw [e] at k
                exact k
            · intro σ' H5 ⟨⟨u3, e⟩, sa, good⟩
              subst e
              rw [List.length_map, List.take_length] at good
              have s5 := s4.trans sa
              have nums : ∀ a ∈ ts.map Prod.fst, valV kvs (Sum.inr a) = some (.int (szOf kvs a)) := fun a ha => by
                obtain ⟨v, hv⟩ := there a ha
                have g := List.find?_eq_none.mp good a ha
                unfold badKey at g
                rw [hv] at g
                unfold szOf
                rw [hv]
                cases v with
                | int i => rfl
                | _ => exact absurd rfl g
              refine ⟨_, rfl, _, rfl, _, rfl, x, q, n, ts, kvs, rfl, fa.mono s5, o, s5 _ _ hq, nums, fun F H6 s56 nF aF => ?_⟩
              have s6 := s5.trans s56
              have nF0 := s5.free nF
              refine ⟨F, _, aF, trivial, fun od => ⟨_, rfl, F, od, rfl, .inl ⟨_, upd_same, ?_⟩⟩⟩
              obtain ⟨pls, epl⟩ : ∃ l, l = (("" : Str) :: ts.map Prod.fst) := ⟨_, rfl⟩
              rw [← epl] at aF ⊢
              have ek : feE CS ts n (some kvs) = ((pls.find? fun p => decide (resid ts n (szOf kvs) p < 0)).map V.str).map fun v => .e1 CS "place" v := by
                unfold feE
                rw [feas_some, if_neg (fun z => z el), if_neg (by rw [ea]; decide), good, epl]
              rw [ek] at k
              refine for_it walk_keys (fun j σ' H' => (∃ u5, σ' = [some (.ref x), some (.int n), some (.ref q), u3, some (.ref F), u5]) ∧ Same H H' ∧ H' F = some (.frz od (.dK (tblI pls (resid ts n (szOf kvs))))) ∧ (pls.take j).find? (fun p => decide (resid ts n (szOf kvs) p < 0)) = none)
                ⟨⟨none, rfl⟩, Same.put s6 nF0, upd_same, rfl⟩ (fun j σ' H' _ z => z.2.2.1) ?_ ?_
              · intro j y σ' Ha Hb hj ⟨⟨u5, e⟩, sa, aF', good'⟩ ⟨eb, kk, vv, hk, ey⟩
                subst e
                subst eb
                subst ey
                obtain ⟨a, ha, rfl, rfl⟩ := tblI_at hk
                refine ⟨_, rfl, _, rfl, F, .int (resid ts n (szOf kvs) a), rfl, .inl ⟨_, Sum.inr a, .inr ⟨od, aF'⟩, rfl, (tblI_val (List.mem_of_getElem? ha)).symm⟩, _, _, rfl, rfl, _, rfl, ?_⟩
                by_cases neg : resid ts n (szOf kvs) a < 0
                · rw [decide_eq_true neg]
                  refine iteT ⟨_, rfl, out1 (H := H) ?_ sa⟩
                  rw [find_at ha good' (decide_eq_true neg)] at k
                  exact k
                · rw [decide_eq_false neg]
                  exact iteF ⟨⟨_, rfl⟩, sa, aF', find_more ha good' (decide_eq_false neg)⟩
              · intro σ' H7 ⟨⟨u5, e⟩, sa, aF', good'⟩
                rw [tblI_len, List.take_length] at good'
                rw [good'] at k
                exact ⟨aF', k _ (Same.put sa nF0)⟩
      · rw [decide_eq_false el]
        show if true = true then _ else _
        rw [if_pos rfl]
        refine out1 (H := H) ?_ s1
        have e : feE CS ts n (some kvs) = some (.e1 CS "place" .non) := by
          unfold feE
          rw [feas_some, if_pos el] <;> rfl
        rw [e] at k
        exact k
end
end FT


namespace FT
open PySem L2 TL ClX
theorem feE_none {CS : Addr} {ts : List (Str × Str)} {n : Int} : feE CS ts n none ≠ none := fun h => nomatch h
theorem feE_ok {CS : Addr} {ts : List (Str × Str)} {n : Int} {kvs : List (Key × V)} (h : feE CS ts n (some kvs) = none) : kvs.length = ts.length ∧ (∀ a ∈ ts.map Prod.fst, valV kvs (Sum.inr a) = some (.int (szOf kvs a)) ∧ 0 ≤ szOf kvs a) ∧ ∀ p ∈ (("" : Str) :: ts.map Prod.fst), 0 ≤ resid ts n (szOf kvs) p := by
  unfold feE at h
  rw [feas_some] at h
  by_cases el : kvs.length = ts.length
  · rw [if_neg (fun z => z el)] at h
    cases ea : (ts.map Prod.fst).all fun a => (valV kvs (Sum.inr a)).isSome with
    | false =>
      rw [if_pos ea] at h
      cases h
    | true =>
      rw [if_neg (by rw [ea]; decide)] at h
      cases eb : (ts.map Prod.fst).find? (badKey kvs) with
      | some a =>
        rw [eb] at h
        cases h
      | none =>
        rw [eb] at h
        refine ⟨el, fun a ha => ?_, fun p hp => ?_⟩
        · obtain ⟨v, hv⟩ := Option.isSome_iff_exists.mp (List.all_eq_true.mp ea a ha)
          have g := List.find?_eq_none.mp eb a ha
          unfold badKey at g
          rw [hv] at g
          unfold szOf
          rw [hv]
          cases v with
          | int i =>
            refine ⟨rfl, ?_⟩
            show 0 ≤ i
            have g' : ¬ (!decide ((0 : Int) ≤ i)) = true := g
            by_cases z : (0 : Int) ≤ i
            · exact z
            · rw [decide_eq_false z] at g'
              exact absurd rfl g'
          | _ => exact absurd rfl g
        · cases ef : ((("" : Str) :: ts.map Prod.fst).find? fun p => decide (resid ts n (szOf kvs) p < 0)) with
          | some p =>
            rw [ef] at h
            cases h
          | none =>
            have z := List.find?_eq_none.mp ef p hp
            have z' : ¬ resid ts n (szOf kvs) p < 0 := fun q => z (decide_eq_true q)
            omega
  · rw [if_pos el] at h
    cases h
def kvsOf (o : Option (List (Key × V))) : List (Key × V) := o.getD []
def numV (v : V) : Int := match v with
  | .int n => n
  | _ => 0
/-- what amounts raises -/
def amE (CU CS : Addr) (ts : List (Str × Str)) (uv : V) (o1 o2 : Option (List (Key × V))) : Option Err := (szE CU CS ts uv o1).or (feE CS ts (numV uv) o2)
def amt (o1 o2 : Option (List (Key × V))) (a : Str) : Int := szOf (kvsOf o2) a - szOf (kvsOf o1) a
theorem szE_feE {CU CS : Addr} {ts : List (Str × Str)} {uv : V} {o : Option (List (Key × V))} (h : szE CU CS ts uv o = none) : ∃ n, uv = .int n ∧ 1 ≤ n ∧ n ≤ 10 ^ 30 ∧ feE CS ts n o = none := by
  unfold szE at h
  by_cases u : usersOk uv (10 ^ 30) = true
  · rw [if_pos u] at h
    cases uv with
    | int n =>
      have u' : (decide (1 ≤ n) && decide (n ≤ 10 ^ 30)) = true := u
      rw [Bool.and_eq_true, decide_eq_true_eq, decide_eq_true_eq] at u'
      exact ⟨n, rfl, u'.1, u'.2, h⟩
    | _ => cases u
  · rw [if_neg u] at h
    cases h
def absI (z : Int) : Int := if z < 0 then -z else z
def spAmtOf (CF : Addr) : Sp := fun vs H Q _ => ∃ (x q1 q2 : Addr) (ts : List (Str × Str)) (k1 k2 : List (Key × V)), vs = [.ref x, .ref q1, .ref q2] ∧ FAt CF H x ts ∧ TreeOk ts ∧ H q1 = some (.dK k1) ∧ H q2 = some (.dK k2) ∧
  (∀ a ∈ ts.map Prod.fst, valV k1 (Sum.inr a) = some (.int (szOf k1 a))) ∧ (∀ a ∈ ts.map Prod.fst, valV k2 (Sum.inr a) = some (.int (szOf k2 a))) ∧
  ∀ p H', Same H H' → H p = none → H' p = some (.dK (tblI (ts.map Prod.fst) fun a => szOf k2 a - szOf k1 a)) → Q (.ref p) H'
def spAmounts (K : PySem.W.Frag) (CF CU CS : Addr) : Sp := fun vs H Q E => ∃ (x : Addr) (uv sv nv : V) (ts : List (Str × Str)) (o1 o2 : Option (List (Key × V))), vs = [.ref x, uv, sv, nv] ∧ FAt CF H x ts ∧ TreeOk ts ∧ IsDat K H uv ∧ SzV K H sv o1 ∧ SzV K H nv o2 ∧
  match amE CU CS ts uv o1 o2 with
  | none => ∀ p H', Same H H' → H p = none → H' p = some (.dK (tblI (ts.map Prod.fst) (amt o1 o2))) → Q (.ref p) H'
  | some e => Out H E e
def spLeast (K : PySem.W.Frag) (CF CU CS : Addr) : Sp := fun vs H Q E => ∃ (x : Addr) (uv sv nv : V) (ts : List (Str × Str)) (o1 o2 : Option (List (Key × V))), vs = [.ref x, uv, sv, nv] ∧ FAt CF H x ts ∧ TreeOk ts ∧ IsDat K H uv ∧ SzV K H sv o1 ∧ SzV K H nv o2 ∧
  match amE CU CS ts uv o1 o2 with
  | none => ∀ H', Same H H' → Q (.int ((ts.map Prod.fst).map fun a => absI (amt o1 o2 a)).sum) H'
  | some e => Out H E e
section
variable {P : Program} {w : World} {K : PySem.W.Frag} {mg : Str → Option Value} {base : Heap}
theorem scAmtOf : FnScope ["forest", "sizes", "new", "name"] ["forest", "sizes", "new"] (defScope s_amounts_of) := ⟨rfl, rfl, rfl, by decide +kernel, rfl, by decide +kernel, by decide +kernel⟩
theorem ok_amtOf {f CF p1 g1 : Addr} {fd fd1 : FuncData} (F : Fun K "amounts_of" "amounts_of" s_amounts_of f fd) (O : FoC K CF) (L1 : Pr1 P w K mg base CF "flags" (spFFlags CF) p1 g1 fd1) :
    FnOk P w K mg base CX0 3 f fd ["forest", "sizes", "new"] (spAmtOf CF) := by
  refine F.ok scAmtOf (fun vs H Q E h => ?_) (fun cdv A outer s H vs Q E hr h => ?_)
  · obtain ⟨x, q1, q2, ts, k1, k2, rfl, _⟩ := h
    rfl
  · obtain ⟨x, q1, q2, ts, k1, k2, rfl, fa, o, h1, h2, n1, n2, k⟩ := h
    have hu := hu_of hr
    have big : 1000 ≤ sizeLine := by decide
    have few := o.few
    refine ⟨_, pss_one (ps_ret (pe_dc (own := [("name", 3)]) (g := gName 3) (tt := tYes) rfl scAmtOf.nd (pi_list (pe_prop (pv 0) O.cl L1.pr L1.fn hr L1.bn .nil pass0 (by rfl)))
        (blkOk_by (N := ["forest", "sizes", "new", "name"]) (sc := defScope s_amounts_of) (by decide +kernel))
        (fun _ _ _ _ _ => pg_name (i := 3) scAmtOf.nd rfl (Or.inl rfl)) (fun _ _ _ _ _ => pts_nil) (fun _ _ _ _ _ => pv 3)
        (fun _ _ _ _ _ => pe_op op_sub (pe_dget hu (pv 2) (pv 3) (fun _ _ => rfl)) (pe_dget hu (pv 1) (pv 3) (fun _ _ => rfl))))), ?_⟩
    obtain ⟨dx, dq, hx, hd⟩ := id fa
    refine ⟨_, rfl, x, dx, _, rfl, hx, x, ts, rfl, fa, fun pf nf => ⟨pf, rfl, ⟨_, SqL.of upd_same⟩, fun D nD => ?_⟩⟩
    obtain ⟨H1, e1⟩ : ∃ X, X = upd H pf (.lst ((ts.map Prod.fst).map V.str)) := ⟨_, rfl⟩
    have s1 : Same H H1 := e1 ▸ same_new nf
    have a1 : H1 pf = some (.lst ((ts.map Prod.fst).map V.str)) := by rw [e1]; exact upd_same
    rw [← e1] at nD ⊢
    refine dc_it walk_list (fun i H' => Same H1 H' ∧ H' D = some (.dK (tblI ((ts.map Prod.fst).take i) fun a => szOf k2 a - szOf k1 a))) ⟨same_new nD, upd_same⟩ (fun i H' _ z => SqL.of (z.1 _ _ a1)) ?_ ?_
    · intro i y Ha Hb hi ⟨z1, z2⟩ ⟨eb, ex⟩
      subst eb
      obtain ⟨a, ha, rfl⟩ := map_of ex
      have ma := List.mem_of_getElem? ha
      have fresh : a ∉ (ts.map Prod.fst).take i := fun hm => by
        obtain ⟨j, hj⟩ := List.mem_iff_getElem?.mp hm
        have jl := (List.getElem?_eq_some_iff.mp hj).1
        rw [List.length_take] at jl
        rw [List.getElem?_take, if_pos (by omega)] at hj
        have := (List.getElem?_inj (by omega) o.nd).mp (hj.trans ha.symm)
        omega
      refine ⟨rfl, ?_⟩
      refine ⟨_, rfl, _, rfl, _, rfl, q2, .int (szOf k2 a), rfl, ?_, _, rfl, _, rfl, q1, .int (szOf k1 a), rfl, ?_, _, _, rfl, rfl, _, Sum.inr a, rfl, z2, ?_, Same.put z1 nD, ?_⟩
      · have z := DGet.k (k := Sum.inr a) (z1 _ _ (s1 _ _ h2))
        rw [n2 a ma] at z
        exact z
      · have z := DGet.k (k := Sum.inr a) (z1 _ _ (s1 _ _ h1))
        rw [n1 a ma] at z
        exact z
      · rw [tblI_len, List.length_take, List.length_map]
        omega
      · rw [upd_same, tblI_snoc fresh rfl, take_more ha]
    · intro H3 ⟨z1, z2⟩
      rw [List.length_map, List.take_length] at z2
      exact k D H3 (s1.trans z1) (s1.free nD) z2
end
end FT


namespace FT
open PySem L2 TL ClX LiI
/-! ### crossings -/
def crs (g : Str → Int) (ts : List (Str × Str)) : List (Str × Str × Int) := ts.flatMap fun p => if 0 < g p.1 then [(p.2, p.1, g p.1)] else if g p.1 < 0 then [(p.1, p.2, - g p.1)] else []
def EdG (H : Hp) (rs : List Addr) (es : List (Str × Str × Int)) : Prop := Paired (fun (r : Addr) (e : Str × Str × Int) => H r = some (.tup [.str e.1, .str e.2.1, .int e.2.2])) rs es
theorem EdG.mono {H H' : Hp} (s : Same H H') : ∀ {rs : List Addr} {es : List (Str × Str × Int)}, EdG H rs es → EdG H' rs es
  | _, _, .nil => .nil
  | _, _, .cons h t => .cons (s _ _ h) (EdG.mono s t)
theorem EdG.push {H : Hp} {D : Addr} {xs : List V} {o : HO} (e : H D = some (.lst xs)) : ∀ {rs : List Addr} {es : List (Str × Str × Int)}, EdG H rs es → EdG (upd H D o) rs es
  | _, _, .nil => .nil
  | _, _, .cons h t => .cons (by rw [upd_ne (ne_of h e (by intro z; cases z))]; exact h) (EdG.push e t)
theorem EdG.snoc {H : Hp} {r : Addr} {e : Str × Str × Int} (h : H r = some (.tup [.str e.1, .str e.2.1, .int e.2.2])) : ∀ {rs : List Addr} {es : List (Str × Str × Int)}, EdG H rs es → EdG H (rs ++ [r]) (es ++ [e])
  | _, _, .nil => .cons h .nil
  | _, _, .cons q t => .cons q (EdG.snoc h t)
theorem EdG.len {H : Hp} : ∀ {rs : List Addr} {es : List (Str × Str × Int)}, EdG H rs es → rs.length = es.length
  | _, _, .nil => rfl
  | _, _, .cons _ t => congrArg (· + 1) (EdG.len t)
theorem EdG.at_ {H : Hp} {rs : List Addr} {es : List (Str × Str × Int)} (p : EdG H rs es) {i : Nat} {r : Addr} (h : rs[i]? = some r) : ∃ e, es[i]? = some e ∧ H r = some (.tup [.str e.1, .str e.2.1, .int e.2.2]) := LiI.paired_get p h
theorem crs_snoc (g : Str → Int) (ts : List (Str × Str)) (p : Str × Str) : crs g (ts ++ [p]) = crs g ts ++ (if 0 < g p.1 then [(p.2, p.1, g p.1)] else if g p.1 < 0 then [(p.1, p.2, - g p.1)] else []) := by
  unfold crs
  rw [List.flatMap_append, List.flatMap_cons, List.flatMap_nil, List.append_nil]
theorem crs_len (g : Str → Int) : ∀ ts : List (Str × Str), (crs g ts).length ≤ ts.length
  | [] => Nat.le_refl _
  | p :: ts => by
    unfold crs
    rw [List.flatMap_cons, List.length_append, List.length_cons]
    have i := crs_len g ts
    unfold crs at i
    have : (if 0 < g p.1 then [(p.2, p.1, g p.1)] else if g p.1 < 0 then [(p.1, p.2, - g p.1)] else []).length ≤ 1 := by
      split
      · exact Nat.le_refl _
      · split
        · exact Nat.le_refl _
        · exact Nat.zero_le _
    omega
def spCross (CF : Addr) : Sp := fun vs H Q _ => ∃ (x q : Addr) (ts : List (Str × Str)) (g : Str → Int), vs = [.ref x, .ref q] ∧ FAt CF H x ts ∧ TreeOk ts ∧ H q = some (.dK (tblI (ts.map Prod.fst) g)) ∧
  ∀ p rs H', Same H H' → H p = none → H' p = some (.lst (rs.map V.ref)) → EdG H' rs (crs g ts) → Q (.ref p) H'
section
variable {P : Program} {w : World} {K : PySem.W.Frag} {mg : Str → Option Value} {base : Heap}
abbrev NCr : List Str := ["forest", "changed", "found", "name", "above"]
theorem scCr : FnScope NCr ["forest", "changed"] (defScope s_crossings) := ⟨rfl, rfl, rfl, by decide +kernel, rfl, by decide +kernel, by decide +kernel⟩
theorem ok_cross {f CF p1 g1 : Addr} {fd fd1 : FuncData} (F : Fun K "crossings" "crossings" s_crossings f fd) (O : FoC K CF) (L1 : Pr1 P w K mg base CF "flags" (spFFlags CF) p1 g1 fd1) : FnOk P w K mg base CX0 3 f fd ["forest", "changed"] (spCross CF) := by
  refine F.ok scCr (fun vs H Q E h => ?_) (fun cdv A outer s H vs Q E hr h => ?_)
  · obtain ⟨x, q, ts, g, rfl, _⟩ := h
    rfl
  · obtain ⟨x, q, ts, g, rfl, fa, o, hq, k⟩ := h
    have hu := hu_of hr
    have nd := scCr.nd
    have big : 1000 ≤ sizeLine := by decide
    have few := o.few
    refine ⟨_, pss_cons (ps_set (i := 2) nd rfl (.inl rfl) (pe_lst pa_nil))
      (pss_cons (ps_for PassesOwn.never rfl (pi_list (pe_prop (pv 0) O.cl L1.pr L1.fn hr L1.bn .nil pass0 (by rfl))) (pg_name (i := 3) nd rfl (.inl rfl))
        (pss_cons (ps_set (i := 4) nd rfl (.inl rfl) (pe_dget hu (pe_fld (pv 0) rfl) (pv 3) (fun _ _ => rfl)))
        (pss_cons (ps_if (pt_cmpR op_gt (pe_dget hu (pv 1) (pv 3) (fun _ _ => rfl)) pe_int (nomark _)) (pss_one (ps_expr (pe_bm PySem.F.plainAttrs_list PySem.F.slot_list_append PySem.F.type_list_append mt_append (pv 2) (pa_cons (pe_tup (pa_cons (pv 4) (pa_cons (pv 3) (pa_cons (pe_dget hu (pv 1) (pv 3) (fun _ _ => rfl)) pa_nil)))) pa_nil)))) pss_nil)
        (pss_one (ps_if (pt_cmpR op_lt (pe_dget hu (pv 1) (pv 3) (fun _ _ => rfl)) pe_int (nomark _)) (pss_one (ps_expr (pe_bm PySem.F.plainAttrs_list PySem.F.slot_list_append PySem.F.type_list_append mt_append (pv 2) (pa_cons (pe_tup (pa_cons (pv 3) (pa_cons (pv 4) (pa_cons (pe_un un_neg (pe_dget hu (pv 1) (pv 3) (fun _ _ => rfl))) pa_nil)))) pa_nil)))) pss_nil)))))
      (pss_one (ps_ret (pv 2)))), ?_⟩
    obtain ⟨dx, dq, hx, hd⟩ := id fa
    refine ⟨by show 0 ≤ sizeLine; omega, fun D nD => ?_⟩
    obtain ⟨H1, e1⟩ : ∃ X, X = upd H D (.lst []) := ⟨_, rfl⟩
    have s1 : Same H H1 := e1 ▸ same_new nD
    have a1 : H1 D = some (.lst []) := by rw [e1]; exact upd_same
    rw [← e1]
    refine ⟨_, rfl, x, dx, _, rfl, s1 _ _ hx, x, ts, rfl, fa.mono s1, fun pf npf => ⟨pf, rfl, ⟨_, SqL.of upd_same⟩, ?_⟩⟩
    obtain ⟨H2, e2⟩ : ∃ X, X = upd H1 pf (.lst ((ts.map Prod.fst).map V.str)) := ⟨_, rfl⟩
    have s12 : Same H1 H2 := e2 ▸ same_new npf
    have a2 : H2 pf = some (.lst ((ts.map Prod.fst).map V.str)) := by rw [e2]; exact upd_same
    have pfD : pf ≠ D := (ne_of_none a1 npf).symm
    rw [← e2]
    refine for_it walk_list (fun j σ' H' => (∃ u3 u4, σ' = [some (.ref x), some (.ref q), some (.ref D), u3, u4]) ∧ Same H H' ∧ H' pf = some (.lst ((ts.map Prod.fst).map V.str)) ∧ ∃ rs : List Addr, H' D = some (.lst (rs.map V.ref)) ∧ EdG H' rs (crs g (ts.take j)))
      ⟨⟨none, none, rfl⟩, s1.trans s12, a2, [], s12 _ _ a1, .nil⟩ (fun j σ' H' _ z => SqL.of z.2.2.1) ?_ ?_
    · intro j y σ' Ha Hb hj ⟨⟨u3, u4, e⟩, sa, apf, rs, hD, ed⟩ ⟨eb, ex⟩
      subst e
      subst eb
      obtain ⟨a, ha, rfl⟩ := map_of ex
      obtain ⟨⟨a', pa⟩, hp, rfl⟩ := Option.map_eq_some_iff.mp (show (ts[j]?).map Prod.fst = some a by rw [← List.getElem?_map]; exact ha)
      have mp := List.mem_of_getElem? hp
      have mk : a' ∈ ts.map Prod.fst := List.mem_map.mpr ⟨_, mp, rfl⟩
      have ep := par_of o.nd mp
      have dg : ∀ {H'}, Same H H' → DGet H' q (.str a') (some (.int (g a'))) := fun s => by
        have z := DGet.k (k := Sum.inr a') (s _ _ hq)
        rw [tblI_val mk] at z
        exact z
      have dp : DGet Hb dq (.str a') (some (.str pa)) := by
        have z := DGet.k (k := Sum.inr a') (sa _ _ hd)
        rw [val_prs, ep] at z
        exact z
      have lrs := ed.len
      have lc := crs_len g (ts.take j)
      rw [List.length_take] at lc
      have more := take_more hp
      have put : ∀ (e3 : Str × Str × Int) (tq : Addr), Hb tq = none → crs g (ts.take (j + 1)) = crs g (ts.take j) ++ [e3] → ∃ (l : Addr) (xs : List V) (y : V), V.ref D = .ref l ∧ [V.ref tq] = [y] ∧ (upd Hb tq (.tup [.str e3.1, .str e3.2.1, .int e3.2.2])) l = some (.lst xs) ∧ xs.length < sizeLine ∧
          (Same H (upd (upd Hb tq (.tup [.str e3.1, .str e3.2.1, .int e3.2.2])) l (.lst (xs ++ [y]))) ∧ (upd (upd Hb tq (.tup [.str e3.1, .str e3.2.1, .int e3.2.2])) l (.lst (xs ++ [y]))) pf = some (.lst ((ts.map Prod.fst).map V.str)) ∧
            ∃ rs : List Addr, (upd (upd Hb tq (.tup [.str e3.1, .str e3.2.1, .int e3.2.2])) l (.lst (xs ++ [y]))) D = some (.lst (rs.map V.ref)) ∧ EdG (upd (upd Hb tq (.tup [.str e3.1, .str e3.2.1, .int e3.2.2])) l (.lst (xs ++ [y]))) rs (crs g (ts.take (j + 1)))) := fun e3 tq nt ec => by
        have st : Same Hb (upd Hb tq (.tup [.str e3.1, .str e3.2.1, .int e3.2.2])) := same_new nt
        refine ⟨D, _, _, rfl, rfl, st _ _ hD, by rw [List.length_map]; omega, (sa.trans st).put nD, by rw [upd_ne pfD]; exact st _ _ apf, rs ++ [tq], by rw [upd_same, List.map_append] <;> rfl, ?_⟩
        rw [ec]
        exact EdG.push (st _ _ hD) (EdG.snoc upd_same (ed.mono st))
      refine ⟨_, rfl, x, CF, dx, _, .ref dq, rfl, sa _ _ hx, O.cl, O.nA, rfl, _, rfl, dq, .str pa, rfl, dp, ?_⟩
      refine ⟨_, rfl, _, rfl, q, .int (g a'), rfl, dg sa, _, _, rfl, rfl, _, rfl, ?_⟩
      have ecs := crs_snoc g (ts.take j) (a', pa)
      rw [← more] at ecs
      by_cases pos : 0 < g a'
      · rw [decide_eq_true pos]
        rw [if_pos pos] at ecs
        refine iteT ⟨_, rfl, .inl ⟨rfl, _, SqL.of hD⟩, _, rfl, _, rfl, _, rfl, _, rfl, q, .int (g a'), rfl, dg sa, by show 3 ≤ sizeLine; omega, fun tq nt => ?_⟩
        obtain ⟨l, xs, y, z1, z2, z3, z4, z5, z6, z7⟩ := put (pa, a', g a') tq nt ecs
        refine ⟨l, xs, y, z1, z2, z3, z4, ?_⟩
        refine ⟨_, rfl, _, rfl, q, .int (g a'), rfl, dg z5, _, _, rfl, rfl, _, rfl, ?_⟩
        rw [decide_eq_false (show ¬ g a' < 0 by omega)]
        exact iteF ⟨⟨_, _, rfl⟩, z5, z6, z7⟩
      · rw [decide_eq_false pos]
        rw [if_neg pos] at ecs
        refine iteF ⟨_, rfl, _, rfl, q, .int (g a'), rfl, dg sa, _, _, rfl, rfl, _, rfl, ?_⟩
        by_cases neg : g a' < 0
        · rw [decide_eq_true neg]
          rw [if_pos neg] at ecs
          refine iteT ⟨_, rfl, .inl ⟨rfl, _, SqL.of hD⟩, _, rfl, _, rfl, _, rfl, _, rfl, q, .int (g a'), rfl, dg sa, _, rfl, by show 3 ≤ sizeLine; omega, fun tq nt => ?_⟩
          obtain ⟨l, xs, y, z1, z2, z3, z4, z5, z6, z7⟩ := put (a', pa, - g a') tq nt ecs
          exact ⟨l, xs, y, z1, z2, z3, z4, ⟨_, _, rfl⟩, z5, z6, z7⟩
        · rw [decide_eq_false neg]
          rw [if_neg neg, List.append_nil] at ecs
          exact iteF ⟨⟨_, _, rfl⟩, sa, apf, rs, hD, by rw [ecs]; exact ed⟩
    · intro σ' H3 ⟨⟨u3, u4, e⟩, sa, apf, rs, hD, ed⟩
      subst e
      rw [List.length_map, List.length_map, List.take_length] at ed
      exact ⟨_, rfl, k D rs H3 sa nD hD ed⟩
end
end FT


/-! family B (laws k17 to k28, k55): the drawing state as a dict; begin. -/
namespace FT
open PySem L2 TL ClX
/-- the drawing state: at d the dict, its lists at l (large) and i (items) -/
def stB (l i : Addr) (lf tn : Int) : List (Key × V) := [(Sum.inr "large", .ref l), (Sum.inr "items", .ref i), (Sum.inr "left", .int lf), (Sum.inr "turn", .int tn)]
/-- b: a bound on the turns that were taken -/
def DrawB (H : Hp) (d l i : Addr) (b : Int) : Prop := ∃ (lf tn : Int) (lg it : List Int), H d = some (.dK (stB l i lf tn)) ∧ H l = some (.lst (lg.map V.int)) ∧ H i = some (.lst (it.map V.int)) ∧ l ≠ i ∧ (∀ z ∈ lg, 0 ≤ z) ∧ (∀ z ∈ it, 0 ≤ z) ∧ lg.length ≤ 63 ∧ it.length ≤ 63 ∧ 0 ≤ lf ∧ 0 ≤ tn ∧ tn ≤ b
/-- all that was tracked, but d and l, is as it was -/
def KeepB (d l : Addr) (H H' : Hp) : Prop := ∀ b o, b ≠ d → b ≠ l → H b = some o → H' b = some o
def spBeginB (K : PySem.W.Frag) : Sp := fun vs H Q _ => ∃ (a : Addr) (ns : List Int), vs = [.ref a] ∧ SqL K H a (ns.map V.int) ∧ ns.length ≤ 63 ∧
  ∀ (H' : Hp) (d l i : Addr), Same H H' → H d = none → H l = none → H i = none → DrawB H' d l i 0 → Q (.ref d) H'
theorem DrawB.more {H : Hp} {d l i : Addr} {b b' : Int} (x : DrawB H d l i b) (h : b ≤ b') : DrawB H d l i b' := by
  obtain ⟨lf, tn, lg, it, a1, a2, a3, a4, a5, a6, a7, a8, a9, a10, a11⟩ := x
  exact ⟨lf, tn, lg, it, a1, a2, a3, a4, a5, a6, a7, a8, a9, a10, by omega⟩
theorem DrawB.mono {H H' : Hp} {d l i : Addr} {b : Int} (s : Same H H') (x : DrawB H d l i b) : DrawB H' d l i b := by
  obtain ⟨lf, tn, lg, it, a1, a2, a3, r⟩ := x
  exact ⟨lf, tn, lg, it, s _ _ a1, s _ _ a2, s _ _ a3, r⟩
theorem DrawB.apart {H : Hp} {d l i p : Addr} {b : Int} (x : DrawB H d l i b) (n : H p = none) : p ≠ d ∧ p ≠ l ∧ p ≠ i := by
  obtain ⟨lf, tn, lg, it, a1, a2, a3, r⟩ := x
  exact ⟨(ne_of_none a1 n).symm, (ne_of_none a2 n).symm, (ne_of_none a3 n).symm⟩
def magsB (ms : List Int) : List Int := ms.map fun i => if i < 0 then -i else i
theorem magsB_nn (ms : List Int) : ∀ z ∈ magsB ms, 0 ≤ z := fun z h => by
  obtain ⟨i, _, rfl⟩ := List.mem_map.mp h
  split <;> omega
section
variable {P : Program} {w : World} {K : PySem.W.Frag} {mg : Str → Option Value} {base : Heap}
abbrev NBb : List Str := ["_law_script", "_law_items", "_law_item"]
theorem scBb : FnScope NBb ["_law_script"] (defScope s__law_begin) := ⟨rfl, rfl, rfl, by decide +kernel, rfl, by decide +kernel, by decide +kernel⟩
theorem ok_beginB {f : Addr} {fd : FuncData} (F : Fun K "_law_begin" "_law_begin" s__law_begin f fd) (T : Nm mg) : FnOk P w K mg base CX0 1 f fd ["_law_script"] (spBeginB K) := by
  refine F.ok scBb (fun vs H Q E h => ?_) (fun cdv A outer s H vs Q E hr h => ?_)
  · obtain ⟨a, ns, rfl, _⟩ := h
    rfl
  · obtain ⟨a, ns, rfl, hS, hlen, k⟩ := h
    have nd := scBb.nd
    have big : 1000 ≤ sizeLine := by decide
    refine ⟨_, pss_cons (ps_setLc (i := 1) (own := [("_law_item", 2)]) (g := gName 2) (tt := tYes) rfl nd rfl rfl (sw_true rfl rfl rfl (by decide +kernel)) (pi_list (pe_slice sl_list (pv 0) po_none (po_some pe_int)))
        (blkOk_by (N := NBb) (sc := defScope s__law_begin) (by decide +kernel)) (fun _ _ _ _ _ => pg_name (i := 2) nd rfl (Or.inl rfl)) (fun _ _ _ _ _ => pts_nil) (fun _ _ _ _ _ => pe_callB call_abs (by rfl) T.abs (by decide +kernel) (pa_cons (pv 2) pa_nil)))
      (pss_one (ps_ret (pe_disp (pps_cons pe_str (pe_lc (own := [("_law_item", 2)]) (g := gName 2) (tt := tTest (tOp (rI0 fun i j => .bl (decide (i ≥ j))) (tVar 2) (tOp (rI CPow fun i j => .int (i ^ j.toNat)) (tC (.int 10)) (tC (.int 18))))) (te := tVar 2) rfl nd (pi_list (pv 1))
        (blkOk_by (N := NBb) (sc := defScope s__law_begin) (by decide +kernel)) (fun _ _ _ _ _ => pg_name (i := 2) nd rfl (Or.inl rfl)) (fun _ _ _ _ _ => pts_one (pt_cmpR op_ge (pv 2) (pe_op op_pow pe_int pe_int) (nomark _))) (fun _ _ _ _ _ => pv 2))
        (pps_cons pe_str (pv 1) (pps_cons pe_str pe_int (pps_cons pe_str pe_int pps_nil)))) (by rfl) (by rfl) (fun z => by cases z) (by decide)))), ?_⟩
    obtain ⟨ms, em, lm⟩ := cut_ints ns none (some 63)
    refine ⟨_, rfl, _, rfl, a, _, rfl, hS, fun p np => ?_⟩
    rw [em]
    have s1 : Same H (upd H p (.lst (ms.map V.int))) := same_new np
    refine ⟨p, rfl, ⟨_, SqL.of upd_same⟩, fun D nD => lc_list (xs := ms.map V.int) (fun i H' => Same (upd H p (.lst (ms.map V.int))) H' ∧ H' D = some (.lst ((magsB (ms.take i)).map V.int))) ⟨same_new nD, by rw [upd_same, List.take_zero] <;> rfl⟩ (fun i H' _ q => Same.sql q.1 (SqL.of upd_same)) ?_ ?_⟩
    · intro i x H' hx ⟨q1, q2⟩
      obtain ⟨z, hz, rfl⟩ := map_of hx
      refine ⟨rfl, ?_⟩
      refine ⟨_, rfl, z, rfl, _, q2, ?_, Same.put q1 nD, ?_⟩
      · rw [List.length_map]
        unfold magsB
        rw [List.length_map, List.length_take]
        omega
      · rw [upd_same, take_more hz]
        unfold magsB
        rw [List.map_append, List.map_append] <;> rfl
    intro H2 ⟨q1, q2⟩
    rw [List.length_map, List.take_length] at q2
    have s2 : Same H H2 := s1.trans q1
    have nD0 : H D = none := s1.free nD
    obtain ⟨it, eit⟩ : ∃ it, it = magsB ms := ⟨_, rfl⟩
    rw [← eit] at q2
    have lit : it.length ≤ 63 := by
      rw [eit]
      unfold magsB
      rw [List.length_map]
      omega
    refine fun dq ndq => ?_
    have sd := same_new (o := .dK []) ndq
    refine ⟨_, rfl, D, rfl, ⟨_, SqL.of (sd _ _ q2)⟩, fun D2 nD2 => lc_list (xs := it.map V.int) (fun i H' => Same (upd H2 dq (.dK [])) H' ∧ H' D2 = some (.lst (((it.take i).filter fun z => decide (z ≥ 10 ^ 18)).map V.int))) ⟨same_new nD2, by rw [upd_same] <;> rfl⟩ (fun i H' _ q => Same.sql q.1 (SqL.of (sd _ _ q2))) ?_ ?_⟩
    · intro i x H' hx ⟨z1, z2⟩
      obtain ⟨z, hz, rfl⟩ := map_of hx
      refine ⟨rfl, ?_⟩
      refine ⟨_, rfl, _, _, rfl, rfl, ⟨by decide, by decide, by decide⟩, _, _, rfl, rfl, _, rfl, ?_⟩
      have lf : ((it.take i).filter fun z => decide (z ≥ 10 ^ 18)).length ≤ 63 := by
        have := List.length_filter_le (fun z : Int => decide (z ≥ 10 ^ 18)) (it.take i)
        rw [List.length_take] at this
        omega
      refine ite2 (fun yes => ?_) (fun no => ?_)
      · have yes : decide (z ≥ 10 ^ 18) = true := yes
        refine ⟨_, rfl, _, z2, by rw [List.length_map]; omega, Same.put z1 nD2, ?_⟩
        rw [upd_same, take_more hz, List.filter_append, List.filter_cons, if_pos yes, List.filter_nil, List.map_append] <;> rfl
      · have no : ¬ decide (z ≥ 10 ^ 18) = true := no
        refine ⟨z1, ?_⟩
        rw [z2, take_more hz, List.filter_append, List.filter_cons, if_neg no, List.filter_nil, List.append_nil]
    intro H3 ⟨z1, z2⟩
    rw [List.length_map, List.take_length] at z2
    have hdq : H3 dq = some (.dK []) := z1 _ _ upd_same
    have nD2' : H2 D2 = none := sd.free nD2
    refine ⟨_, rfl, hdq, stB D2 D 0 0, rfl, by show 4 ≤ 15; omega, ?_⟩
    have Dd : D ≠ dq := ne_of_none q2 ndq
    have D2d : D2 ≠ dq := (ne_of_none upd_same nD2).symm
    have DD2 : D2 ≠ D := (ne_of_none (sd _ _ q2) nD2).symm
    have s3 : Same H (upd H3 dq (.dK (stB D2 D 0 0))) := fun b u e => by
      have e2 := s2 b u e
      have nb : b ≠ dq := ne_of_none e2 ndq
      rw [upd_ne nb]
      exact z1 _ _ (by rw [upd_ne nb]; exact e2)
    refine k _ dq D2 D s3 (s2.free ndq) (s2.free nD2') nD0 ⟨0, 0, (it.filter fun z => decide (z ≥ 10 ^ 18)), it, upd_same, by rw [upd_ne D2d]; exact z2, by rw [upd_ne Dd]; exact z1 _ _ (sd _ _ q2), DD2, fun z hz => ?_, fun z hz => ?_, ?_, lit, by omega, by omega, by omega⟩
    · rw [eit] at hz
      exact magsB_nn ms z (List.mem_filter.mp hz).1
    · rw [eit] at hz
      exact magsB_nn ms z hz
    · have := List.length_filter_le (fun z : Int => decide (z ≥ 10 ^ 18)) it
      omega
end
end FT


/-! Own: repr over the layer. repr asks what calls of repr are under way (A.guards), and the layer's contracts do not tell it: a contract FnG that tells it too, its rule for a def's body, its call, the end. -/
namespace L2
open PySem PySem.Spec PyProof.Rows
/-- no repr is under way -/
abbrev Clr (A : Around) : Prop := A.guards = some []
theorem Clr.deeper {A : Around} {env : Env} (h : Clr A) : Clr (A.deeper env) := by
  have h' : A.guards = some [] := h
  show (A.deeper env).guards = some []
  first
    | exact h'
    | (simp [Around.deeper, h', pushGuards, Code.guards, Code.isGuard])
structure FnG (P : Program) (w : World) (K : PySem.W.Frag) (mg : Str → Option Value) (base : Heap) (CX : CXT) (k : Nat) (f : Addr) (fd : FuncData) (ps : List Str) (sp : Sp) : Prop where
  len : ∀ vs H Q E, sp vs H Q E → vs.length = ps.length
  run : ∀ (A : Around) (outer : List Env) (s : Shared) (H : Hp) (args : Args) (us : List Value) (vs : List V) (Q : VK) (E : XK), Clr A → Room k A → Env0 P w K mg base A outer s H → BindsTo s fd args (ps.zip us) → Vals vs us → sp vs H Q E →
    codeAny (model P w) A (.call (.ref f) args) (CR CX outer P w H s Q E) s
theorem FnOk.g {P : Program} {w : World} {K : PySem.W.Frag} {mg : Str → Option Value} {base : Heap} {CX : CXT} {k : Nat} {f : Addr} {fd : FuncData} {ps : List Str} {sp : Sp} (F : FnOk P w K mg base CX k f fd ps sp) : FnG P w K mg base CX k f fd ps sp :=
  ⟨F.len, fun A outer s H args us vs Q E _ => F.run A outer s H args us vs Q E⟩
section
variable {P : Program} {w : World} {K : PySem.W.Frag} {mg : Str → Option Value} {base : Heap}
/-- a def by its body, where nothing is raised out of it -/
theorem Fun.okG {x qual : Str} {st : Stmt} {f : Addr} {fd : FuncData} {N ps : List Str} {k : Nat} {sp : Sp} (F : Fun K x qual st f fd) (S : FnScope N ps (defScope st)) (len : ∀ vs H Q E, sp vs H Q E → vs.length = ps.length)
    (body : ∀ (cdv : Value) (A : Around) (outer : List Env) (s : Shared) (H : Hp) (vs : List V) (Q : VK) (E : XK), Clr A → Room k (A.deeper (envOfC qual (defScope st) s.heap.objs.size f cdv)) → sp vs H Q E →
      ∃ t, PSs (cxOf CX0 P w K mg base N qual (defScope st) f cdv A outer s H E).nox (defBody st) t ∧ t { nx := fun _ H' => Q .non H', rt := Q } (start N vs) H) : FnG P w K mg base CX0 (k + 1) f fd ps sp := by
  obtain ⟨oc, od, kV, doc, pm, an, cdv, ct, osl, rfl, lk, code⟩ := F.ex
  refine ⟨len, fun A outer s H args us vs Q E clr room e0 binds rel want => ?_⟩
  have nps := len _ _ _ _ want
  have KX : K.In s.heap := e0.mod.kin.keeps fun b o e => (e0.bs b o e).1
  have lim : s.heap.NoLimit := e0.mod.nolimit.keeps fun b o e => (e0.bs b o e).1
  refine codeAny_call_function room.depth (KX _ _ lk) rfl S.co S.gen rfl (PySem.W.codeRec_of KX code) (binds _ _ _ _ (wpAny_newFunctionEnv_cells S.kind (fun y hy => ?_) fun env he s1 x => ?_))
  · obtain ⟨n, v⟩ := y
    exact (S.par n (List.of_mem_zip hy).1).elim .inl fun q => .inr ⟨q, PySem.W.cellsFrom_some _ _ _ (.inl q)⟩
  · subst he
    obtain ⟨t, term, q⟩ := body cdv A outer s H vs Q E clr (room.deeper _) want
    have I : Inv (cxOf CX0 P w K mg base N qual (defScope st) f cdv A outer s H E) [] (start N vs) H s1 := inv_start S room.hd e0 nps rel x
    refine ⟨lim.keeps x.toInCall.keep, codeAny_func (wpAny_mono (term.nox.run [] s1 (start N vs) H _ I q) (fun fl s' z => ?_) fun _ _ z => z)⟩
    match fl, z with
    | .ret u, ⟨v, _, H', J, rv, q⟩ => exact ⟨v, H', J.os, J.bare, J.base, J.hok, rv, q⟩
    | .next, ⟨_, H', J, q⟩ => exact ⟨.non, H', J.os, J.bare, J.base, J.hok, rfl, q⟩
    | .brk, ⟨_, _, _, q⟩ => exact q.elim
    | .cont, ⟨_, _, _, q⟩ => exact q.elim
end
section
variable {X : Cx} {CX : CXT} {k : Nat} {f : Addr} {fd : FuncData} {ps : List Str} {sp : Sp} {dvs : List V} {ds : List Value} {E : XK} {x : Str} {p pos : Pos} {e : Expr} {es : List Expr} {t : TA}
/-- f(e, ..), f of such a contract -/
theorem pe_callG (F : FnG X.prog X.w X.K X.mg X.base CX k f fd ps sp) (clr : Clr X.A) (hr : Room k X.A) (hg : Gl X x) (hm : X.mg x = some (.ref f)) (hk : PySem.W.keepIn X.K (.ref f) = true) (hb : Binds X.K fd ps ds) (hd : Vals dvs ds) (hx : Passes CX X E)
    (ha : PA X (e :: es) t) (dbg : (x == ("__debug__" : Str)) = false := by decide) (one : starEach (e :: es) X.env = (false, eval e X.env) :: starEach es X.env := by rfl) (plain : (backTo pos (starEach es X.env)).any (·.1) = false := by rfl) :
    PE X (.Call (.Name x p) (e :: es) [] pos) (tCall sp dvs E t) := by
  refine ⟨fun pins s σ H Q I h => wpAny_Call_Name_kw (ld_glob I hg hm ?_ dbg)⟩
  refine PySem.W.callWith_K (h₀ := X.base) I.ok.mod.kin hk (thn (ha.run pos pins s σ H _ I h) fun us s1 ⟨vs, H1, J, rel, want⟩ => ⟨J.kIn, ?_⟩) one plain
  have r2 : Vals (vs ++ dvs) (us ++ ds) := rel.append hd
  have len : (us ++ ds).length = ps.length := r2.length.symm.trans (F.len _ _ _ _ want)
  refine wpAny_call (codeAny_mono (F.run X.A X.stack s1 H1 ⟨us, []⟩ (us ++ ds) (vs ++ dvs) Q E clr hr J.env0 (hb s1 us J.kIn len) r2 want) fun r s' z => ?_)
  match r, z with
  | .error er, z => exact hx pins σ H1 s1 er s' J z
  | .ok (.ret u), z => exact J.after z
  | .ok .next, z => exact z.elim
  | .ok .brk, z => exact z.elim
  | .ok .cont, z => exact z.elim
/-! ### repr -/
/-- what is shown: data without dicts, or the empty dict -/
def Shw (K : PySem.W.Frag) (H : Hp) (x : V) (d : PyData) : Prop := (Dp K H x d ∧ d.hasDict = false) ∨ ∃ a, x = .ref a ∧ H a = some (.dK []) ∧ d = .dict []
def rRepr (K : PySem.W.Frag) : List V → Hp → VK → Prop := fun xs H Q => ∃ (x : V) (d : PyData), xs = [x] ∧ Shw K H x d ∧ d.showable = true ∧ d.depth ≤ 60 ∧ d.shown.length ≤ sizeLine ∧ Q (.str d.shown) H
theorem Shw.reads {pins : List (Addr × Obj)} {σ : St} {H : Hp} {s : Shared} {x : V} {u : Value} {d : PyData} (h : Shw X.K H x d) (I : Inv X pins σ H s) (r : RelV x u) : ∃ as, Reads s.heap u d as ∧ (d.hasDict = true → sysModules ∉ as) := by
  rcases h with ⟨h, nd⟩ | ⟨a, rfl, e, rfl⟩
  · obtain ⟨as, q⟩ := Dp.reads I d x u h r
    exact ⟨as, q, PyData.noDict_hsm nd⟩
  · obtain rfl : u = Value.ref a := r
    obtain ⟨_, ns, vs, kv, o, es, ep, h1, h2, h3, h4⟩ := (show ObjOk X.prog X.w H s.heap a (.dK []) from I.hok a _ e)
    cases kv
    have hes : es.toList = [] := by
      obtain ⟨_, h5, _⟩ := h4
      revert h5
      generalize es.toList = l
      intro h5
      cases h5
      rfl
    refine ⟨a :: [] ++ [], .dict h1 h2.1 h3 (by rw [hes]; exact .nil) (by rw [hes]; exact .nil), fun _ hm => ?_⟩
    have hm' : sysModules = a := by simpa using hm
    rw [hm'] at ns
    simp at ns
theorem call_repr (clr : Clr X.A) (hu : X.A.units + 64 < cLine) : CallR X (.builtin "repr") (rRepr X.K) := by
  intro pins s σ H xs us Q I r h
  obtain ⟨x, d, rfl, sh, ok, dep, few, q⟩ := h
  obtain ⟨u, rfl, ru⟩ := vals1 r
  obtain ⟨as, rd, sm⟩ := sh.reads I ru
  have fin : ∀ h' (t : Tok) tk, (∀ b o, s.heap.get? b = some o → h'.get? b = some o) → EP X pins σ Q (.str d.shown t) { s with heap := h', toks := tk } := fun h' t tk kp => ⟨.str d.shown, H, I.kept kp, ⟨t, rfl⟩, q⟩
  cases u with
  | ref a => exact repr_of_reads' rd ok sm clr (by omega) (fun _ _ z => z) fin few
  | none => cases rd; exact PySem.P.repr_of_none (fin _ _ _ fun _ _ z => z)
  | bool b => cases rd; exact PySem.P.repr_of_bool (fin _ _ _ fun _ _ z => z)
  | int i t => cases rd; exact PySem.P.repr_of_int (by simpa [PyData.showable] using ok) (fin _ _ _ fun _ _ z => z)
  | str y t => cases rd; exact PySem.P.repr_of_str (fin _ _ _ fun _ _ z => z) few
  | _ => cases rd
end
end L2


/-! Own: the end of a law's row from a contract FnG (the library's walk_of asks FnOk). -/
namespace L2
open PySem PySem.Spec PyProof.Rows
section
variable {P : Program} {w : World} {K : PySem.W.Frag} {mg mb : Str → Option Value} {k : Nat} {fa a : Addr} {fd : FuncData} {x : Str} {sp : Sp} {s : Shared} {vs : List Value} {ns : List Int}
/-- the abstract heap at the law's entry: the script alone, locked; or nothing, where the script is the module's own -/
abbrev Entry (K : PySem.W.Frag) (a : Addr) (H : Hp) : Prop := (∀ b, H b ≠ none → b = a) ∧ (H a ≠ none → K.lookup a = none)
theorem entry_run (KX : K.In s.heap) (hns : s.heap.Ns mainGlobals mg) (hb : s.heap.Ns builtinsNs mb) (hbb : ∀ y : Str, y ≠ "__name__" → mb y = bootBuiltins y) (lim : s.heap.NoLimit) (gens : s.gens = #[])
    (oa : s.heap.get? a = some { cls := .type "list", data := .seq vs.toArray }) (room : Room k callerA) (F : ∀ base : Heap, K.In base → base.Ns mainGlobals mg → FnG P w K mg base CX0 k fa fd [x] sp)
    (bind : ∀ (s : Shared) (u : Value), BindsTo s fd ⟨[u], []⟩ [(x, u)]) {H : Hp} (only : Only H) (ok : HOk P w H s.heap) (en : Entry K a H) (want : sp [.ref a] H (fun v _ => v = .bl true) fun _ _ _ => False) :
    codeAny (model P w) callerA (.call (.ref fa) ⟨[.ref a], []⟩) (fun r s' => r = .ok (.ret (.bool true)) ∧ OldK s.heap s'.heap ∧ s'.os = s.os ∧ AllBare s'.gens) s := by
  obtain ⟨e1, e2⟩ := en
  have isA : ∀ {b : Addr} {u : HO}, H b = some u → b = a := fun {b u} q => e1 b fun z => by
    rw [z] at q
    cases q
  -- an address at which another object stands is not tracked
  have out : ∀ {b : Addr}, b ≠ a → H b = none := fun {b} ne => by
    cases q : H b with
    | none => rfl
    | some u => exact absurd (isA q) ne
  have dictNe : ∀ {b : Addr} {o : Obj} {es : Array DictEntry} {ep : Nat}, s.heap.get? b = some o → o.data = .dict es ep → b ≠ a := fun {b o es ep} q d z => by
    subst z
    rw [oa] at q
    cases q
    cases (show Data.seq vs.toArray _ = Data.dict es ep from d)
  have seen : ∀ {b : Addr} {o : Obj}, s.heap.get? b = some o → H b = none → (hidT s.heap H).get? b = some o := fun q n => hidT_get q n
  have nsT : ∀ {b : Addr} {m : Str → Option Value}, s.heap.Ns b m → (hidT s.heap H).Ns b m := fun ⟨o, es, ep, q, d, r⟩ => ⟨o, es, ep, seen q (out (dictNe q d)), d, r⟩
  have KT : K.In (hidT s.heap H) := fun b o q => seen (KX b o q) (by
    by_cases z : b = a
    · subst z
      cases r : H b with
      | none => rfl
      | some u =>
        rw [e2 (by rw [r]; exact fun z => nomatch z)] at q
        cases q
    · exact out z)
  have e0 : Env0 P w K mg (hidT s.heap H) callerA [] s H :=
    ⟨rfl, ⟨KT, nsT hns, ⟨mb, nsT hb, hbb⟩, let ⟨m, z1, z2⟩ := lim; ⟨m, nsT z1, z2⟩⟩, fun b o q => of_hidT q, Nat.le_of_eq (hidT_size _ _), trivial, fun b z => absurd (show b ∈ ([] : List Addr) from z) (by simp), ok, .of_eq gens⟩
  refine codeAny_mono ((F _ KT (nsT hns)).run callerA [] s H ⟨[.ref a], []⟩ [.ref a] [.ref a] _ _ rfl room e0 (bind s (.ref a)) (.cons rfl .nil) want) fun r s' z => ?_
  match r, z with
  | .error _, z => exact z.elim
  | .ok .next, z => exact z.elim
  | .ok .brk, z => exact z.elim
  | .ok .cont, z => exact z.elim
  | .ok (.ret u), ⟨v, H', os, bare, un, ok', rv, q⟩ =>
    obtain rfl : v = .bl true := q
    obtain rfl : u = Value.bool true := rv
    refine ⟨rfl, .of_keep fun b o q => ?_, os, bare⟩
    rcases only b with n | ⟨o2, xs, n⟩
    · exact un.keep b o q n (fun z => absurd (show b ∈ ([] : List Addr) from z) (by simp)) (by simp)
    · have q1 := (ok b _ n).1
      rw [q] at q1
      cases q1
      exact (ok' b _ (un.frzs b o _ n)).1
theorem entry_call (KX : K.In s.heap) (hns : s.heap.Ns mainGlobals mg) (hb : s.heap.Ns builtinsNs mb) (hbb : ∀ y : Str, y ≠ "__name__" → mb y = bootBuiltins y) (lim : s.heap.NoLimit) (gens : s.gens = #[])
    (oa : s.heap.get? a = some { cls := .type "list", data := .seq vs.toArray }) (hi : IntsAre vs ns) (few : ns.length ≤ sizeLine) (room : Room k callerA) (F : ∀ base : Heap, K.In base → base.Ns mainGlobals mg → FnG P w K mg base CX0 k fa fd [x] sp)
    (bind : ∀ (s : Shared) (u : Value), BindsTo s fd ⟨[u], []⟩ [(x, u)]) (want : ∀ H : Hp, Only H → SqL K H a (ns.map V.int) → sp [.ref a] H (fun v _ => v = .bl true) fun _ _ _ => False) :
    codeAny (model P w) callerA (.call (.ref fa) ⟨[.ref a], []⟩) (fun r s' => r = .ok (.ret (.bool true)) ∧ OldK s.heap s'.heap ∧ s'.os = s.os ∧ AllBare s'.gens) s := by
  have rv := vals_ints hi
  have len := hi.length
  cases own : K.lookup a with
  | some o =>
    have q := KX a o own
    rw [oa] at q
    cases q
    have no : ∀ b, ¬ ((fun _ => none : Hp) b ≠ none) := fun b z => z rfl
    exact entry_run KX hns hb hbb lim gens oa room F bind (H := fun _ => none) (fun _ => .inl rfl) (fun b u z => nomatch (show (none : Option HO) = some u from z)) ⟨fun b z => (no b z).elim, fun z => (no a z).elim⟩
      (want _ (fun _ => .inl rfl) (.inr ⟨_, vs.toArray, _, own, rfl, rfl, rfl, by rw [List.size_toArray, len]; exact few, by simpa using rv⟩))
  | none =>
    obtain ⟨H, hH⟩ : ∃ H : Hp, H = fun b => if b = a then some (.frz { cls := .type "list", data := .seq vs.toArray } (.lst (ns.map V.int))) else none := ⟨_, rfl⟩
    have at_ : H a = some (.frz { cls := .type "list", data := .seq vs.toArray } (.lst (ns.map V.int))) := by rw [hH]; exact if_pos rfl
    have off : ∀ {b}, b ≠ a → H b = none := fun {b} z => by rw [hH]; exact if_neg z
    have only : Only H := fun b => (Decidable.em (b = a)).elim (fun z => .inr ⟨_, _, z ▸ at_⟩) fun z => .inl (off z)
    refine entry_run KX hns hb hbb lim gens oa room F bind only (fun b u z => ?_) ⟨fun b z => Decidable.byContradiction fun n => z (off n), fun _ => own⟩ (want _ only (.inl (.inr ⟨_, at_⟩)))
    by_cases n : b = a
    · subst n
      rw [at_] at z
      cases z
      exact ⟨oa, by rw [List.length_map]; exact few, vs, _, rv, oa⟩
    · rw [off n] at z
      cases z
end
/-- the goal behind the head, from the law's promise as an FnG -/
theorem walk_ofG {l : PySem.W.OpenLaw} {n k : Nat} {q : Program} {loose : List Str} {XP : (Str → Option Value) → Heap → Prop} {YP : World → Heap → Prop} {d : DefRec} {K : Params → PySem.W.Frag} {sp : World → Sp} {x : Str}
    (most : l.most = some n) (few : n ≤ sizeLine) (nodf : d.params.defaults = []) (room : Room k callerA) (hY : ∀ (w : World) (h : Heap), YP w h → (K w.params).In h)
    (F : ∀ (w : World) (mg : Str → Option Value) (fa : Addr) (h : Heap), (K w.params).In h → h.Ns mainGlobals mg → mg d.name = some (.ref fa) →
      ∃ fd : FuncData, (∀ (s : Shared) (u : Value), BindsTo s fd ⟨[u], []⟩ [(x, u)]) ∧ ∀ base : Heap, (K w.params).In base → base.Ns mainGlobals mg → FnG l.prog w (K w.params) mg base CX0 k fa fd [x] (sp w))
    (want : ∀ (w : World) (H : Hp) (a : Addr) (ns : List Int), ns.length ≤ n → Only H → SqL (K w.params) H a (ns.map V.int) → sp w [.ref a] H (fun v _ => v = .bl true) fun _ _ _ => False) :
    PySem.W.WalkO q loose XP YP l.row.toRowW d [] (fun f vs => PySem.call f vs) :=
  Att.attach_call most nodf fun w _ s mg mb fa _ _ _ _ a vs ns G Y _ _ _ hmg hobj hints hlen hg => by
    have KX := hY w _ Y
    obtain ⟨fd, bind, hF⟩ := F w mg fa _ KX G.T.g hmg
    exact entry_call KX G.T.g G.T.b G.T.builtins G.T.nolimit hg hobj hints (Nat.le_trans hlen few) room hF bind fun H only sq => want w H a ns hlen only sq
end L2


/-! Own: dict comprehensions whose keys are tuples, and those of two clauses. What a turn does behind its tests is a parameter. -/
namespace L2
open PySem PySem.Spec PyProof.Rows
/-! ### what a turn stores -/
abbrev PutT := Addr → V → V → Hp → (Hp → Prop) → Prop
def putKey : PutT := fun D y z H N => ∃ kvs k, y = kV k ∧ H D = some (.dK kvs) ∧ kvs.length < sizeLine ∧ N (upd H D (.dK (putK kvs k z)))
def putTup : PutT := fun D y z H N => ∃ kvs k b, y = .ref b ∧ H b = some (.tup (k.map kV)) ∧ H D = some (.dT kvs) ∧ kvs.length < sizeLine ∧ N (upd H D (.dT (putK kvs k z)))
structure Puts (pt : PutT) (o0 : HO) : Prop where
  new : ∀ {P : Program} {w : World} {H : Hp} (h : Heap), sysModules < h.objs.size → ObjOk P w H (h.push { cls := .type "dict", data := .dict #[] }) h.objs.size o0
  set : ∀ {X : Cx} {pins : List (Addr × Obj)} {σ : St} {H : Hp} {s : Shared} {E : Value → Shared → Prop} {D : Addr} {y z : V} {u r : Value} {N : Hp → Prop} {Q : Unit → Shared → Prop},
    X.A.units + 1 < cLine → Inv X pins σ H s → RelV y u → RelV z r → pt D y z H N → (∀ H' s', N H' → Inv X pins σ H' s' → Q () s') → wpAny (model X.prog X.w) X.A (dictSet D u r) Q E s
theorem putsKey : Puts putKey (.dK []) := by
  refine ⟨fun h b => dk_empty h b, fun hu I ry rz p hQ => ?_⟩
  obtain ⟨kvs, k, ey, hD, l, n⟩ := p
  subst ey
  exact d_dictSet I hD l ry rz fun s' I' => hQ _ _ n I'
theorem putsTup : Puts putTup (.dT []) := by
  refine ⟨fun h b => dt_empty h b, fun hu I ry rz p hQ => ?_⟩
  obtain ⟨kvs, k, b, ey, eb, e, l, n⟩ := p
  subst ey
  cases (show _ = Value.ref b from ry)
  obtain ⟨z0, hd, xs, rel, dd⟩ := dt_of I.hok e
  have hz : xs.length ≤ sizeLine := Paired.length rel ▸ z0
  refine wpAny_dictSet_heap (hsz := hz) (knd := tupleKind _) (Nat.lt_of_succ_lt hu) (key_of I.hok eb) dd fun h' dd' hs => hQ _ _ n ?_
  obtain ⟨q, es, ep, hq, h2, h3, h4, _, h5⟩ := dd'
  refine d_write I (by rw [e]; exact True.intro) hs ⟨q, hq⟩ ⟨Nat.le_trans (length_putK kvs k _) l, hd, _, (rel.put k eb rz).keeps fun c ys ec => ?_, q, es, ep, hq, h2, h3, h4, h5⟩
  rw [upd_ne (ne_of ec e nofun)]
  exact ec
/-! ### the turns at the library's level -/
/-- one turn of the outer loop; Tl: what stands behind its tests -/
def OutTurn (M : Model) (A : Around) (R : Result → Shared → Prop) (t0 : Expr) (ifs0 : List Expr) (it : Value) (env : Env) (Tl : (Shared → Prop) → Shared → Prop) (I : Nat → Shared → Prop) : Prop := ∀ n s, I n s →
  wpAny M A (pyNext it) (fun r s₁ => match r with
    | none => R (.ok .next) s₁
    | some v => wpAny M A (letOwnedTupleGo t0 it v) (fun _ a => wpAny M A (assign t0 env v) (fun _ b =>
        wpAny M A (forIn ifs0 true fun c r => if r = true then do let ok ← isTrue c env (eval c env); pure (ForInStep.yield ok) else pure (ForInStep.yield r))
          (fun ok c => if ok = true then Tl (fun s' => ∃ m, m < n ∧ I m s') c else ∃ m, m < n ∧ I m c) (fun _ _ => False) b) (fun _ _ => False) a) (fun _ _ => False) s₁) (fun _ _ => False) s
abbrev OutRun (M : Model) (A : Around) (C : Expr) (t0 : Expr) (ifs0 : List Expr) (D : Addr) (Tl : Env → (Shared → Prop) → Shared → Prop) : Prop :=
  ∀ (it : Value) (env : Env) (R : Result → Shared → Prop) (I : Nat → Shared → Prop), OutTurn M A R t0 ifs0 it env (Tl env) I → ∀ n s, I n s → codeAny M A (.compLoop C 0 it (.ref D) env) R s
section
variable {prog : Program} {w : World} {A : Around} {R : Result → Shared → Prop} {kx vx t0 i0 t1 i1 : Expr} {ifs0 ifs1 : List Expr} {scope : Scope} {pos : Pos} {D : Addr}
/-- k: v of one turn -/
def TlKv (M : Model) (A : Around) (kx vx : Expr) (D : Addr) (env : Env) (post : Shared → Prop) (s : Shared) : Prop :=
  wpAny M A (eval kx env) (fun kv s₁ => wpAny M A (eval vx env) (fun vv s₂ => wpAny M A (dictSet D kv vv) (fun _ s₃ => post s₃) (fun _ _ => False) s₂) (fun _ _ => False) s₁) (fun _ _ => False) s
theorem outRun1 : OutRun (model prog w) A (.DictComp kx vx [⟨t0, i0, ifs0, 0⟩] scope pos) t0 ifs0 D (TlKv (model prog w) A kx vx D) := by
  intro it env R I turn n s h
  refine compLoop_anyD I (fun n s hI => thnF (turn n s hI) fun r s1 h1 => ?_) n h
  cases r with
  | none => exact h1
  | some v =>
    refine thnF h1 fun _ s2 h2 => thnF h2 fun _ s3 h3 => thnF h3 fun ok s4 h4 => ?_
    cases ok with
    | false => exact h4
    | true => exact thnF (show TlKv _ _ _ _ _ _ _ _ from h4) fun kv s5 h5 => thnF h5 fun vv s6 h6 => thnF h6 fun _ _ z => z
theorem turnOut (acc it : Value) (env : Env) :
    compTurn (.DictComp kx vx [⟨t0, i0, ifs0, 0⟩, ⟨t1, i1, ifs1, 0⟩] scope pos) 0 it acc env = (do
      standAt i0.pos
      match ← pyNext it with
      | none => pure (.done .next)
      | some u =>
        letOwnedTupleGo t0 it u
        assign t0 env u
        let mut go := true
        for c in ifs0 do
          if go then go ← isTrue c env (eval c env)
        if go then
          let y ← eval i1 env
          standAt i1.pos
          let y ← foldedSetIterable i1 env y
          let _ ← runOwn (.compStart (.DictComp kx vx [⟨t0, i0, ifs0, 0⟩, ⟨t1, i1, ifs1, 0⟩] scope pos) 1 (← holding [y] (pyIter y)) acc env) env
        again (.compLoop (.DictComp kx vx [⟨t0, i0, ifs0, 0⟩, ⟨t1, i1, ifs1, 0⟩] scope pos) 0 it acc env)) := by rfl
theorem turnIn (it : Value) (env : Env) :
    compTurn (.DictComp kx vx [⟨t0, i0, ifs0, 0⟩, ⟨t1, i1, ifs1, 0⟩] scope pos) 1 it (.ref D) env = (do
      standAt i1.pos
      match ← pyNext it with
      | none => pure (.done .next)
      | some u =>
        letOwnedTupleGo t1 it u
        assign t1 env u
        let mut go := true
        for c in ifs1 do
          if go then go ← isTrue c env (eval c env)
        if go then
          (do
            let a ← eval kx env
            let b ← holding [a] (eval vx env)
            standAt { kx.pos with endLine := vx.pos.endLine, endCol := vx.pos.endCol }
            holding [a, b] (dictSet D a b))
        again (.compLoop (.DictComp kx vx [⟨t0, i0, ifs0, 0⟩, ⟨t1, i1, ifs1, 0⟩] scope pos) 1 it (.ref D) env)) := by rfl
/-- the second source's loop -/
def TlIn (M : Model) (A : Around) (C i1 : Expr) (D : Addr) (env : Env) (post : Shared → Prop) (s : Shared) : Prop :=
  wpAny M A (eval i1 env) (fun x s₁ => wpAny M A (pyIter x) (fun it s₂ => codeAny M A (.compStart C 1 it (.ref D) env) (fun r s' => match r with
    | .ok _ => post s'
    | .error _ => False) s₂) (fun _ _ => False) s₁) (fun _ _ => False) s
theorem outRun2 (hs : ∀ env x, foldedSetIterable i1 env x = pure x) : OutRun (model prog w) A (.DictComp kx vx [⟨t0, i0, ifs0, 0⟩, ⟨t1, i1, ifs1, 0⟩] scope pos) t0 ifs0 D (TlIn (model prog w) A (.DictComp kx vx [⟨t0, i0, ifs0, 0⟩, ⟨t1, i1, ifs1, 0⟩] scope pos) i1 D) := by
  intro it env R I turn n s h
  refine codeAny_loop rfl I (fun n s hI => ?_) n h
  show wpAny _ A ((compTurn (.DictComp kx vx [⟨t0, i0, ifs0, 0⟩, ⟨t1, i1, ifs1, 0⟩] scope pos) 0 it (.ref D) env).onRaise _) _ _ s
  refine wpAny_noted ?_
  rw [turnOut]
  refine wpAny_bind (wpAny_standAt (wpAny_bind (thnF (turn n s hI) fun r s1 h1 => ?_)))
  cases r with
  | none => exact wpAny_pure h1
  | some v =>
    refine wpAny_bind (thnF h1 fun _ s2 h2 => wpAny_bind (thnF h2 fun _ s3 h3 => wpAny_bind (thnF h3 fun ok s4 h4 => ?_)))
    cases ok with
    | false => exact wpAny_pure ⟨rfl, h4⟩
    | true =>
      have h4 : TlIn (model prog w) A _ i1 D env _ s4 := h4
      refine wpAny_bind (thnF h4 fun x s5 h5 => wpAny_bind (wpAny_standAt (wpAny_bind (wpAny_of_eq (hs env x) (wpAny_bind (wpAny_holding (thnF h5 fun i2 s6 h6 => ?_)))))))
      refine wpAny_bind (wpAny_runOwn ?_)
      rw [Around.mark_none]
      refine codeAny_mono h6 fun r s' hr => ?_
      cases r with
      | error e => exact hr.elim
      | ok f => first | exact wpAny_pure ⟨rfl, hr⟩ | exact wpAny_bind (wpAny_pure (wpAny_pure ⟨rfl, hr⟩))
theorem inRun (it : Value) (env : Env) (R : Result → Shared → Prop) (I : Nat → Shared → Prop) (turn : OutTurn (model prog w) A R t1 ifs1 it env (TlKv (model prog w) A kx vx D env) I) (n : Nat) (s : Shared) (h : I n s) :
    codeAny (model prog w) A (.compLoop (.DictComp kx vx [⟨t0, i0, ifs0, 0⟩, ⟨t1, i1, ifs1, 0⟩] scope pos) 1 it (.ref D) env) R s := by
  refine codeAny_loop rfl I (fun n s hI => ?_) n h
  show wpAny _ A ((compTurn (.DictComp kx vx [⟨t0, i0, ifs0, 0⟩, ⟨t1, i1, ifs1, 0⟩] scope pos) 1 it (.ref D) env).onRaise _) _ _ s
  refine wpAny_noted ?_
  rw [turnIn]
  refine wpAny_bind (wpAny_standAt (wpAny_bind (thnF (turn n s hI) fun r s1 h1 => ?_)))
  cases r with
  | none => exact wpAny_pure h1
  | some v =>
    refine wpAny_bind (thnF h1 fun _ s2 h2 => wpAny_bind (thnF h2 fun _ s3 h3 => wpAny_bind (thnF h3 fun ok s4 h4 => ?_)))
    cases ok with
    | false => exact wpAny_pure ⟨rfl, h4⟩
    | true =>
      have h4 : TlKv (model prog w) A kx vx D env _ s4 := h4
      exact wpAny_bind (wpAny_bind (thnF h4 fun a s5 h5 => wpAny_bind (wpAny_holding (thnF h5 fun b s6 h6 => wpAny_bind (wpAny_standAt (wpAny_holding (thnF h6 fun _ s7 h7 => wpAny_pure ⟨rfl, h7⟩)))))))
/-- the second clause's start -/
theorem inStart {it : Value} {env : Env} {s : Shared} (h0 : codeAny (model prog w) A (.compLoop (.DictComp kx vx [⟨t0, i0, ifs0, 0⟩, ⟨t1, i1, ifs1, 0⟩] scope pos) 1 it (.ref D) env) R s)
    (h : wpAny (model prog w) A (pyIter it) (fun i2 s' => codeAny (model prog w) A (.compLoop (.DictComp kx vx [⟨t0, i0, ifs0, 0⟩, ⟨t1, i1, ifs1, 0⟩] scope pos) 1 i2 (.ref D) env) R s') (notedBy (model prog w) A env fun x s' => R (.error x) s') s) :
    codeAny (model prog w) A (.compStart (.DictComp kx vx [⟨t0, i0, ifs0, 0⟩, ⟨t1, i1, ifs1, 0⟩] scope pos) 1 it (.ref D) env) R s := by
  refine codeAny_of_tree ?_
  show wpAny _ _ ((compStart (.DictComp kx vx [⟨t0, i0, ifs0, 0⟩, ⟨t1, i1, ifs1, 0⟩] scope pos) 1 it (.ref D) env).onRaise _) _ _ s
  refine wpAny_notedAt ?_
  unfold compStart
  show wpAny _ _ (ask >>= _) _ _ s
  refine wpAny_bind (wpAny_askSetting (wpAny_ite ?_))
  split
  · first | exact wpAny_bind (wpAny_pure (wpAny_pure (And.intro rfl h0))) | exact wpAny_pure (And.intro rfl h0)
  · refine wpAny_bind (wpAny_rule ?_)
    first
      | exact wpAny_bind (wpAny_standAt (wpAny_bind (wpAny_mono h (fun i2 s' z => wpAny_pure (And.intro rfl z)) fun _ _ x => x)))
      | (show wpAny _ _ (standAt i1.pos >>= _) _ _ s; exact wpAny_bind (wpAny_standAt (wpAny_bind (wpAny_mono h (fun i2 s' z => wpAny_pure (And.intro rfl z)) fun _ _ x => x))))
end
/-! ### over the layer -/
section
variable {X : Cx}
/-- {.. for target in iter if ..}, D the new dict; tl: what a turn asks behind its tests, Nx what is wanted of it -/
def tDcG (o0 : HO) (wi : TI) (g : TG) (tt : TT) (tl : Addr → St → Hp → (Hp → Prop) → Prop) (vs : List Nat) : TE := fun σ H Q => wi σ H fun J H1 => ∀ D, H1 D = none → ∃ W : Nat → Nat → Hp → Prop, (∃ m, W 0 m (upd H1 D o0)) ∧
  ∀ i m H, W i m H → (J.stop i H ∧ Q (.ref D) H) ∨ (J.go i H ∧ ∃ Nx : Hp → Prop, (∀ H', Nx H' → ∃ m', m' < m ∧ W (i + 1) m' H') ∧ ∀ x H', J.yld i H x H' → g x (wipe σ vs) H' fun σ2 H2 => wipe σ2 vs = wipe σ vs ∧ tt σ2 H2 fun b H3 => if b = true then tl D σ2 H3 Nx else Nx H3)
/-- behind the tests: k: v -/
def tlKv (pt : PutT) (tk tv : TE) : Addr → St → Hp → (Hp → Prop) → Prop := fun D σ H N => tk σ H fun y H1 => tv σ H1 fun z H2 => pt D y z H2 N
/-- behind the tests: a second source -/
def tlIn (pt : PutT) (wi1 : TI) (g1 : TG) (tt1 : TT) (tk tv : TE) (vs1 : List Nat) : Addr → St → Hp → (Hp → Prop) → Prop := fun D σ H N => wi1 σ H fun J1 H4 => ∃ W1 : Nat → Nat → Hp → Prop, (∃ m, W1 0 m H4) ∧
  ∀ j k H, W1 j k H → (J1.stop j H ∧ N H) ∨ (J1.go j H ∧ ∃ Nx1 : Hp → Prop, (∀ H', Nx1 H' → ∃ k', k' < k ∧ W1 (j + 1) k' H') ∧ ∀ x H', J1.yld j H x H' → g1 x (wipe σ vs1) H' fun σ3 H5 => wipe σ3 vs1 = wipe σ vs1 ∧ tt1 σ3 H5 fun b H6 => if b = true then tlKv pt tk tv D σ3 H6 Nx1 else Nx1 H6)
/-- a turn's end, in a block of X -/
def TailOk (X : Cx) (scope : Scope) (own : List (Str × Nat)) (Tl : Addr → Env → (Shared → Prop) → Shared → Prop) (tl : Addr → St → Hp → (Hp → Prop) → Prop) : Prop :=
  ∀ (s0 : Shared) (H0 : Hp) (C : Addr) (cl : List (Str × Addr)) (fp : List Addr) (D : Addr) (pins : List (Addr × Obj)) (s : Shared) (σ : St) (H : Hp) (N : Hp → Prop) (post : Shared → Prop), Inv (X.blk s0 H0 scope (compEnvC scope cl C X.env) fp) pins σ H s → tl D σ H N →
    (∀ (σ' : St) (s' : Shared) (H' : Hp), Inv (X.blk s0 H0 scope (compEnvC scope cl C X.env) fp) pins σ' H' s' → σ'.length = σ.length → (∀ (j : Nat) v, j ∉ own.map (·.2) → σ[j]? = some (some v) → σ'[j]? = some (some v)) → N H' → post s') → Tl D (compEnvC scope cl C X.env) post s
theorem dcG_core {pt : PutT} {o0 : HO} {pins : List (Addr × Obj)} {s : Shared} {σ : St} {H : Hp} {Q : VK} {kx vx tg iter : Expr} {ifs : List Expr} {rest : List Comprehension} {scope : Scope} {own : List (Str × Nat)} {pos pos' : Pos} {wi : TI} {g : TG} {tt : TT}
    {tl : Addr → St → Hp → (Hp → Prop) → Prop} {Tl : Addr → Env → (Shared → Prop) → Shared → Prop} {use : Option (Value → Sem Unit)} {Qf : Value → Shared → Prop} (pu : Puts pt o0) (hc : X.calm = true) (hN : X.N.Nodup) (I : Inv X pins σ H s) (hi : PI X tg iter wi) (ok : BlkOk X.N X.env.scope scope own)
    (hg : ∀ s H C cl fp, PG (X.blk s H scope (compEnvC scope cl C X.env) fp) tg g) (ht : ∀ s H C cl fp, PTs (X.blk s H scope (compEnvC scope cl C X.env) fp) ifs tt) (hs : ∀ x, foldedSetIterable iter X.env x = pure x)
    (hR : ∀ D, OutRun (model X.prog X.w) X.A (.DictComp kx vx (⟨tg, iter, ifs, 0⟩ :: rest) scope pos) tg ifs D (Tl D)) (hT : TailOk X scope own Tl tl) (h : tDcG o0 wi g tt tl (own.map (·.2)) σ H Q)
    (fin : ∀ D C s' m H', Inv X pins σ H' s' → Q (.ref D) H' → s'.heap.Ns C m → FpOk X pins H' C → compPost (model X.prog X.w) X.A X.xe use Qf (.ref D) C (.ok .next) s') :
    wpAny (model X.prog X.w) X.A (comprehension (.DictComp kx vx (⟨tg, iter, ifs, 0⟩ :: rest) scope pos) scope X.env pos' newDict false (eval iter X.env) use) Qf X.xe s := by
  have cells : ∀ y ∈ scope.names, y.2 = .free → ∃ c, X.env.cells.lookup y.1 = some c := fun y hy e => (ok.free y hy e).elim (fun k => I.ok.has _ (.inl k)) fun k => I.ok.has _ (.inr k)
  refine wpAny_comprehension_free (use := use) rfl hs (closure_ok cells) ok.kind (fun y hy e => by rw [ok.uniq y hy, e]) (thn (hi.run pins s σ H _ I h) fun xv s1 hx => thn hx fun itv s2 ⟨it, fp, tn, J, H2, e, I2, T, st2, f2, q⟩ => ?_)
  subst e
  refine wpAny_newObj_type (newEnv_comp ?_)
  generalize hD : s2.heap.objs.size = D
  obtain ⟨W, ⟨m0, w0⟩, turn⟩ := q D (I2.hok.fresh (Nat.le_of_eq hD))
  obtain ⟨s3, e3⟩ : ∃ z : Shared, z = { s2 with heap := s2.heap.push { cls := .type "dict", data := .dict #[] } } := ⟨_, rfl⟩
  have h3 : s3.heap = s2.heap.push { cls := .type "dict", data := .dict #[] } := by rw [e3]
  rw [← e3]
  obtain ⟨H3, eH3⟩ : ∃ z, z = upd H2 D o0 := ⟨_, rfl⟩
  rw [← eH3] at w0
  have I3 : Inv X pins σ H3 s3 := by
    rw [e3, eH3]
    refine I2.laid (t' := s2.toks) (fun b o e => Heap.get?_push_of_some _ e) (Nat.le_of_eq hD) ?_
    rw [← hD]
    exact pu.new s2.heap I2.big
  have f3 : ∀ b ∈ fp, FpOk X pins H3 b ∧ b < s3.heap.objs.size := fun b hb => by
    obtain ⟨o, eo, _⟩ := T.obj _ _ st2 b hb
    have lt := Heap.lt_size eo
    refine ⟨⟨?_, (f2 b hb).2⟩, by rw [h3, Heap.size_push]; exact Nat.lt_succ_of_lt lt⟩
    rw [eH3, upd_ne (by rw [← hD]; exact Nat.ne_of_lt lt)]
    exact (f2 b hb).1
  have st3 : tn 0 s3.heap := T.keep _ _ _ st2 fun b _ o e => by rw [h3]; exact Heap.get?_push_of_some _ e
  have I4 := block_start I3 ok hN f3
  have pg := hg s3 H3 s3.heap.objs.size (cellsFrom (s3.heap.objs.size + 1) scope.names (cloFrom X.env.cells scope.names [])) fp
  have pts := ht s3 H3 s3.heap.objs.size (cellsFrom (s3.heap.objs.size + 1) scope.names (cloFrom X.env.cells scope.names [])) fp
  have ptl := hT s3 H3 s3.heap.objs.size (cellsFrom (s3.heap.objs.size + 1) scope.names (cloFrom X.env.cells scope.names [])) fp D
  show codeAny _ _ (.compStart (.DictComp kx vx (⟨tg, iter, ifs, 0⟩ :: rest) scope pos) 0 (.ref it) (.ref D) (compEnvC scope (cellsFrom (s3.heap.objs.size + 1) scope.names (cloFrom X.env.cells scope.names [])) s3.heap.objs.size X.env)) (compPost (model X.prog X.w) X.A X.xe use Qf (.ref D) s3.heap.objs.size) { s3 with heap := pushCells (s3.heap.push { cls := .type "dict", data := .dict #[] }) scope.names }
  generalize hce : compEnvC scope (cellsFrom (s3.heap.objs.size + 1) scope.names (cloFrom X.env.cells scope.names [])) s3.heap.objs.size X.env = ce at I4 pg pts ptl ⊢
  have cL : ce.locals = s3.heap.objs.size := by rw [← hce] <;> rfl
  generalize hs4 : ({ s3 with heap := pushCells (s3.heap.push { cls := .type "dict", data := .dict #[] }) scope.names } : Shared) = s4 at I4 ⊢
  have st4 : tn 0 s4.heap := T.keep _ _ _ st3 fun b _ o e => by rw [← hs4]; exact pushCells_keeps _ _ _ _ (Heap.get?_push_of_some _ e)
  have off : ∀ {σ' : St} {H' : Hp} {s' : Shared}, Inv (X.blk s3 H3 scope ce fp) [] σ' H' s' → (∀ b ∈ fp, H' b = none) → ∀ b ∈ fp, FpOk (X.blk s3 H3 scope ce fp) [] H' b := fun {σ' H' s'} I' hn b hb =>
    ⟨hn b hb, (I'.ok.exf b hb).1, I'.ok.exfs b hb, .inl hb, fun x c e => (I'.ok.exf b hb).2 x c e, fun p hp => absurd (show p ∈ ([] : List (Addr × Obj)) ++ [] from hp) (by simp)⟩
  have loop : codeAny (model X.prog X.w) X.A (.compLoop (.DictComp kx vx (⟨tg, iter, ifs, 0⟩ :: rest) scope pos) 0 (.ref it) (.ref D) ce) (compPost (model X.prog X.w) X.A X.xe use Qf (.ref D) s3.heap.objs.size) s4 := by
    refine hR D (.ref it) ce _ (fun n s' => ∃ i H', Inv (X.blk s3 H3 scope ce fp) [] (wipe σ (own.map (·.2))) H' s' ∧ tn i s'.heap ∧ (∀ b ∈ fp, H' b = none) ∧ W i n H') ?_ m0 s4 ⟨0, H3, I4, st4, fun b hb => (f3 b hb).1.1, w0⟩
    rintro n s5 ⟨i, H5, I5, st5, n5, w5⟩
    rcases turn i n H5 w5 with ⟨stop, qq⟩ | ⟨go, Nx, hNx, step⟩
    · refine thnF (T.done (X.blk s3 H3 scope ce fp) rfl rfl rfl hc i [] s5 _ H5 (fun _ _ => False) I5 (off I5 n5) st5 stop) fun r s6 ⟨hr, I6⟩ => ?_
      subst hr
      have I7 : Inv X pins σ H5 s6 := I3.call' (ch := fp) I6.os I6.base I6.hok I6.bare fun b hb => ⟨(f3 b hb).1.2.2.2.1, (f3 b hb).1.2.1, (f3 b hb).1.2.2.2.2.1, (f3 b hb).1.2.2.2.2.2⟩
      have nC : H5 s3.heap.objs.size = none := cL ▸ (show H5 ce.locals = none from I6.free)
      obtain ⟨m, hn, _⟩ := I6.loc
      exact fin D s3.heap.objs.size s6 m H5 I7 qq (cL ▸ (show s6.heap.Ns ce.locals m from hn)) (I3.fpOk (Nat.le_refl _) nC)
    · refine thnF (T.item (X.blk s3 H3 scope ce fp) rfl rfl rfl hc i [] s5 _ H5 (fun _ _ => False) I5 (off I5 n5) st5 go) fun r s6 ⟨u, hr, h6⟩ => ?_
      subst hr
      refine thnF h6 fun _ s7 ⟨x, H7, I7, r7, y7, st7, n7⟩ => thnF (pg.run _ s7 _ H7 x u _ (I7.pinned (off I7 n7) (T.obj _ _ st7)) r7 (step x H7 y7)) fun _ s8 ⟨σ8, H8, I8, hw8, q8⟩ => thnF (pts.run _ s8 σ8 H8 _ I8 q8) fun b s9 ⟨H9, I9, q9⟩ => ?_
      -- the next turn, from what a turn's end leaves
      have on : ∀ (σ' : St) (s' : Shared) (H' : Hp), Inv (X.blk s3 H3 scope ce fp) ([] ++ pinsAt fp s7.heap) σ' H' s' → σ'.length = σ8.length → (∀ (j : Nat) v, j ∉ own.map (·.2) → σ8[j]? = some (some v) → σ'[j]? = some (some v)) → Nx H' →
          ∃ m, m < n ∧ ∃ i H', Inv (X.blk s3 H3 scope ce fp) [] (wipe σ (own.map (·.2))) H' s' ∧ tn i s'.heap ∧ (∀ b ∈ fp, H' b = none) ∧ W i m H' := fun σ' s' H' I' hl hk nx => by
        obtain ⟨m', hm, w'⟩ := hNx H' nx
        have pin' : ∀ b ∈ fp, ∀ o, s7.heap.get? b = some o → s'.heap.get? b = some o ∧ H' b = none := fun b hb o e =>
          have z := I'.pin (b, o) (List.mem_append_right _ (List.mem_append_right _ (mem_pinsAt hb e)))
          ⟨z.1, z.2.1⟩
        refine ⟨m', hm, i + 1, H', (I'.unpinned (pins := [])).weak (by rw [← hw8, wipe_length, hl]) (fun j v e => ?_), T.keep _ _ _ st7 fun b hb o e => (pin' b hb o e).1, fun b hb => ?_, w'⟩
        · rw [← hw8] at e
          obtain ⟨e1, e2⟩ := wipe_some e
          exact hk j v e2 e1
        · obtain ⟨o, e, _⟩ := T.obj _ _ st7 b hb
          exact (pin' b hb o e).2
      cases b with
      | false =>
        simp only [Bool.false_eq_true, if_false] at q9 ⊢
        exact on σ8 s9 H9 I9 rfl (fun _ _ _ z => z) q9
      | true =>
        simp only [if_true] at q9 ⊢
        exact ptl _ s9 σ8 H9 Nx _ I9 q9 on
  exact codeAny_compStart_dict loop (T.self X.A 0 _ _ _ st4 loop)
section
variable {pt : PutT} {o0 : HO} {kx vx tg iter tg1 iter1 : Expr} {ifs ifs1 : List Expr} {scope : Scope} {own : List (Str × Nat)} {vs1 : List Nat} {pos : Pos} {wi wi1 : TI} {g g1 : TG} {tt tt1 : TT} {tk tv : TE}
theorem tailKv (pu : Puts pt o0) (hu : X.A.units + 1 < cLine) (hk : ∀ s H C cl fp, PE (X.blk s H scope (compEnvC scope cl C X.env) fp) kx tk) (he : ∀ s H C cl fp, PE (X.blk s H scope (compEnvC scope cl C X.env) fp) vx tv) :
    TailOk X scope own (TlKv (model X.prog X.w) X.A kx vx) (tlKv pt tk tv) := by
  intro s0 H0 C cl fp D pins s σ H N post I h on
  refine thnF ((hk s0 H0 C cl fp).run pins s σ H _ I h) fun a s1 ⟨y, H1, I1, r1, q1⟩ => ?_
  refine thnF ((he s0 H0 C cl fp).run pins s1 σ H1 _ I1 q1) fun b s2 ⟨z, H2, I2, r2, q2⟩ => ?_
  exact pu.set (X := X.blk s0 H0 scope (compEnvC scope cl C X.env) fp) hu I2 r1 r2 q2 fun H' s' n I' => on σ s' H' I' rfl (fun _ _ _ z => z) n
theorem tailIn (pu : Puts pt o0) (hc : X.calm = true) (hu : X.A.units + 1 < cLine) (hv : ∀ i ∈ vs1, i ∈ own.map (·.2)) (hi1 : ∀ s H C cl fp, PI (X.blk s H scope (compEnvC scope cl C X.env) fp) tg1 iter1 wi1) (hg1 : ∀ s H C cl fp, PG (X.blk s H scope (compEnvC scope cl C X.env) fp) tg1 g1)
    (ht1 : ∀ s H C cl fp, PTs (X.blk s H scope (compEnvC scope cl C X.env) fp) ifs1 tt1) (hk : ∀ s H C cl fp, PE (X.blk s H scope (compEnvC scope cl C X.env) fp) kx tk) (he : ∀ s H C cl fp, PE (X.blk s H scope (compEnvC scope cl C X.env) fp) vx tv) :
    TailOk X scope own (TlIn (model X.prog X.w) X.A (.DictComp kx vx [⟨tg, iter, ifs, 0⟩, ⟨tg1, iter1, ifs1, 0⟩] scope pos) iter1) (tlIn pt wi1 g1 tt1 tk tv vs1) := by
  intro s0 H0 C cl fp D pins s σ H N post I h on
  have pi1 := hi1 s0 H0 C cl fp
  have pg1 := hg1 s0 H0 C cl fp
  have pt1 := ht1 s0 H0 C cl fp
  have pk := hk s0 H0 C cl fp
  have pv := he s0 H0 C cl fp
  generalize hce : compEnvC scope cl C X.env = ce at *
  refine thnF (pi1.run pins s σ H _ I h) fun xv s1 hx => thnF hx fun itv s2 ⟨it1, fp1, tn1, J1, H2, e1, I2, T1, st2, f2, W1, ⟨m1, w1⟩, turn1⟩ => ?_
  subst e1
  have off1 : ∀ {H' : Hp}, (∀ b ∈ fp1, H' b = none) → ∀ b ∈ fp1, FpOk (X.blk s0 H0 scope ce fp) pins H' b := fun hn b hb => ⟨hn b hb, (f2 b hb).2⟩
  have loop1 : codeAny (model X.prog X.w) X.A (.compLoop (.DictComp kx vx [⟨tg, iter, ifs, 0⟩, ⟨tg1, iter1, ifs1, 0⟩] scope pos) 1 (.ref it1) (.ref D) ce) (fun r s' => match r with
      | .ok _ => post s'
      | .error _ => False) s2 := by
    refine inRun (.ref it1) ce _ (fun k s' => ∃ j H', Inv (X.blk s0 H0 scope ce fp) pins (wipe σ vs1) H' s' ∧ tn1 j s'.heap ∧ (∀ b ∈ fp1, H' b = none) ∧ W1 j k H') ?_ m1 s2 ⟨0, H2, I2.weak (wipe_length _ _) (fun j v e => (wipe_some e).1), st2, fun b hb => (f2 b hb).1, w1⟩
    rintro k s3 ⟨j, H3, I3, st3, n3, w3⟩
    rcases turn1 j k H3 w3 with ⟨stop, nx⟩ | ⟨go, Nx1, hN1, step1⟩
    · refine thnF (T1.done (X.blk s0 H0 scope ce fp) rfl rfl rfl hc j _ s3 (wipe σ vs1) H3 (fun _ _ => False) I3 (off1 n3) st3 stop) fun r s4 ⟨hr, I4⟩ => ?_
      subst hr
      exact on (wipe σ vs1) s4 H3 I4 (wipe_length _ _) (fun j v nj e => (wipe_out fun z => nj (hv j z)).trans e) nx
    · refine thnF (T1.item (X.blk s0 H0 scope ce fp) rfl rfl rfl hc j _ s3 (wipe σ vs1) H3 (fun _ _ => False) I3 (off1 n3) st3 go) fun r s4 ⟨u1, hr, h4⟩ => ?_
      subst hr
      refine thnF h4 fun _ s5 ⟨x1, H5, I5, r5, y5, st5, n5⟩ => thnF (pg1.run _ s5 (wipe σ vs1) H5 x1 u1 _ (I5.pinned (off1 n5) (T1.obj _ _ st5)) r5 (step1 x1 H5 y5)) fun _ s6 ⟨σ6, H6, I6, hw6, q6⟩ => thnF (pt1.run _ s6 σ6 H6 _ I6 q6) fun b s7 ⟨H7, I7, q7⟩ => ?_
      have on1 : ∀ {s' : Shared} {H' : Hp}, Inv (X.blk s0 H0 scope ce fp) (pins ++ pinsAt fp1 s5.heap) σ6 H' s' → Nx1 H' → ∃ m, m < k ∧ ∃ j H', Inv (X.blk s0 H0 scope ce fp) pins (wipe σ vs1) H' s' ∧ tn1 j s'.heap ∧ (∀ b ∈ fp1, H' b = none) ∧ W1 j m H' := fun {s' H'} I' nx => by
        obtain ⟨m', hm, w'⟩ := hN1 H' nx
        have pin' : ∀ b ∈ fp1, ∀ o, s5.heap.get? b = some o → s'.heap.get? b = some o ∧ H' b = none := fun b hb o e =>
          have z := I'.pin (b, o) (List.mem_append_right _ (List.mem_append_right _ (mem_pinsAt hb e)))
          ⟨z.1, z.2.1⟩
        refine ⟨m', hm, j + 1, H', I'.unpinned.weak (by rw [← hw6, wipe_length]) (fun j v e => (wipe_some (hw6.symm ▸ e)).1), T1.keep _ _ _ st5 fun b hb o e => (pin' b hb o e).1, fun b hb => ?_, w'⟩
        obtain ⟨o, e, _⟩ := T1.obj _ _ st5 b hb
        exact (pin' b hb o e).2
      cases b with
      | false =>
        simp only [Bool.false_eq_true, if_false] at q7 ⊢
        exact on1 I7 q7
      | true =>
        simp only [if_true] at q7 ⊢
        exact thnF (pk.run _ s7 σ6 H7 _ I7 q7) fun a s8 ⟨y, H8, I8, r8, q8⟩ => thnF (pv.run _ s8 σ6 H8 _ I8 q8) fun b s9 ⟨z, H9, I9, r9, q9⟩ => pu.set (X := X.blk s0 H0 scope ce fp) hu I9 r8 r9 q9 fun H' s' n I' => on1 I' n
  exact inStart loop1 (T1.self X.A 0 _ _ _ st2 loop1)
/-- {(..): v for target in iter if ..} -/
theorem pe_dcT (hc : X.calm = true) (hN : X.N.Nodup) (hu : X.A.units + 1 < cLine) (hi : PI X tg iter wi) (ok : BlkOk X.N X.env.scope scope own) (hg : ∀ s H C cl fp, PG (X.blk s H scope (compEnvC scope cl C X.env) fp) tg g) (ht : ∀ s H C cl fp, PTs (X.blk s H scope (compEnvC scope cl C X.env) fp) ifs tt)
    (hk : ∀ s H C cl fp, PE (X.blk s H scope (compEnvC scope cl C X.env) fp) kx tk) (he : ∀ s H C cl fp, PE (X.blk s H scope (compEnvC scope cl C X.env) fp) vx tv) (hs : ∀ x, foldedSetIterable iter X.env x = pure x := by intro _; rfl) :
    PE X (.DictComp kx vx [⟨tg, iter, ifs, 0⟩] scope pos) (tDcG (.dT []) wi g tt (tlKv putTup tk tv) (own.map (·.2))) := by
  refine ⟨fun pins s σ H Q I h => ?_⟩
  rw [arm_eval_DictComp]
  exact dcG_core putsTup hc hN I hi ok hg ht hs (fun D => outRun1) (tailKv putsTup hu hk he) h fun D C s' m H' I' q hn ⟨f0, f1, f2, f3, f4, f5⟩ => ⟨m, hn, fun h2 sb => ⟨.ref D, H', I'.turned (t' := s'.toks) (fun b o hb e => (sb.2 b hb).trans e) f0 f1 f3 f4 f5, rfl, q⟩⟩
/-- {k: v for target in iter if .. for target2 in iter2 if ..} -/
theorem pe_dc2 (hc : X.calm = true) (hN : X.N.Nodup) (hu : X.A.units + 1 < cLine) (hi : PI X tg iter wi) (ok : BlkOk X.N X.env.scope scope own) (hv : ∀ i ∈ vs1, i ∈ own.map (·.2)) (hg : ∀ s H C cl fp, PG (X.blk s H scope (compEnvC scope cl C X.env) fp) tg g) (ht : ∀ s H C cl fp, PTs (X.blk s H scope (compEnvC scope cl C X.env) fp) ifs tt)
    (hi1 : ∀ s H C cl fp, PI (X.blk s H scope (compEnvC scope cl C X.env) fp) tg1 iter1 wi1) (hg1 : ∀ s H C cl fp, PG (X.blk s H scope (compEnvC scope cl C X.env) fp) tg1 g1) (ht1 : ∀ s H C cl fp, PTs (X.blk s H scope (compEnvC scope cl C X.env) fp) ifs1 tt1)
    (hk : ∀ s H C cl fp, PE (X.blk s H scope (compEnvC scope cl C X.env) fp) kx tk) (he : ∀ s H C cl fp, PE (X.blk s H scope (compEnvC scope cl C X.env) fp) vx tv) (hs : ∀ x, foldedSetIterable iter X.env x = pure x := by intro _; rfl) (hs1 : ∀ env x, foldedSetIterable iter1 env x = pure x := by intro _ _; rfl) :
    PE X (.DictComp kx vx [⟨tg, iter, ifs, 0⟩, ⟨tg1, iter1, ifs1, 0⟩] scope pos) (tDcG (.dK []) wi g tt (tlIn putKey wi1 g1 tt1 tk tv vs1) (own.map (·.2))) := by
  refine ⟨fun pins s σ H Q I h => ?_⟩
  rw [arm_eval_DictComp]
  exact dcG_core putsKey hc hN I hi ok hg ht hs (fun D => outRun2 hs1) (tailIn putsKey hc hu hv hi1 hg1 ht1 hk he) h fun D C s' m H' I' q hn ⟨f0, f1, f2, f3, f4, f5⟩ => ⟨m, hn, fun h2 sb => ⟨.ref D, H', I'.turned (t' := s'.toks) (fun b o hb e => (sb.2 b hb).trans e) f0 f1 f3 f4 f5, rfl, q⟩⟩
/-- y = {(..): v for ..}, y a local -/
theorem ps_setDcT {i : Nat} {y : Str} {py spos : Pos} (hc : X.calm = true) (nd : X.N.Nodup) (hu : X.A.units + 1 < cLine) (hy : X.N[i]? = some y) (loc : X.env.scope.names.lookup y = some .local) (sw : swapsWith (.DictComp kx vx [⟨tg, iter, ifs, 0⟩] scope pos) (some (.Name y py)) spos.line X.env = pure true) (hi : PI X tg iter wi) (ok : BlkOk X.N X.env.scope scope own)
    (hg : ∀ s H C cl fp, PG (X.blk s H scope (compEnvC scope cl C X.env) fp) tg g) (ht : ∀ s H C cl fp, PTs (X.blk s H scope (compEnvC scope cl C X.env) fp) ifs tt)
    (hk : ∀ s H C cl fp, PE (X.blk s H scope (compEnvC scope cl C X.env) fp) kx tk) (he : ∀ s H C cl fp, PE (X.blk s H scope (compEnvC scope cl C X.env) fp) vx tv) (hs : ∀ x, foldedSetIterable iter X.env x = pure x := by intro _; rfl) :
    PS X (.Assign [.Name y py] (.DictComp kx vx [⟨tg, iter, ifs, 0⟩] scope pos) spos) (tAsg (tDcG (.dT []) wi g tt (tlKv putTup tk tv) (own.map (·.2))) (gName i)) := by
  constructor
  intro pins s σ H D I h
  have want : tDcG (.dT []) wi g tt (tlKv putTup tk tv) (own.map (·.2)) σ H (fun x H1 => gName i x σ H1 D.nx) := h
  rw [exec_Assign_Name_used _ _ _ _ sw]
  refine wpAny_bind (wpAny_standAt (wpAny_bind ?_))
  show wpAny _ X.A (do let _ ← comprehension (.DictComp kx vx [⟨tg, iter, ifs, 0⟩] scope pos) scope X.env (firstIterPos [⟨tg, iter, ifs, 0⟩] pos) newDict false (eval iter X.env) (some (assign (.Name y py) X.env))) _ _ s
  refine wpAny_bind (thn (dcG_core (Qf := fun _ s' => SP X pins D .next s') putsTup hc nd I hi ok hg ht hs (fun D => outRun1) (tailKv putsTup hu hk he) want fun L C s' m H' J q hn f => ?_) fun _ _ z => wpAny_pure (wpAny_pure z))
  show wpAny _ _ (assign (.Name y py) X.env (.ref L)) _ _ _
  refine wpAny_assign_Name (store_ok2 (v := V.ref L) J nd hy (.inl loc) rfl (fun s2 J2 ⟨a, sb, ha⟩ => ?_) (.inr loc))
  obtain ⟨z0, z1, z2, z3, z4, z5⟩ := f
  have off : C ≠ a := ha.elim (fun e => e ▸ z1) fun e => (z4 y a e).symm
  exact ⟨m, hn.sameBut sb off, fun h3 sb3 => ⟨_, H', J2.turned (t' := s2.toks) (fun b o hb e => (sb3.2 b hb).trans e) z0 z1 z3 z4 z5, q⟩⟩
end
end
end L2


/-! Own: repr of a dict whose values are data without dicts. -/
namespace L2
open PySem PySem.Spec PyProof.Rows
def kD : Key → PyData
  | .inl i => .int i
  | .inr x => .str x
/-- an entry: the key, the value, the value as data -/
abbrev EntD := Key × V × PyData
abbrev dcD (es : List EntD) : PyData := .dict (es.map fun e => (kD e.1, e.2.2))
def rReprD (K : PySem.W.Frag) : List V → Hp → VK → Prop := fun xs H Q => ∃ (a : Addr) (es : List EntD), xs = [.ref a] ∧ H a = some (.dK (es.map fun e => (e.1, e.2.1))) ∧ (∀ e ∈ es, Dp K H e.2.1 e.2.2 ∧ e.2.2.hasDict = false) ∧
  (dcD es).showable = true ∧ (dcD es).depth ≤ 60 ∧ (dcD es).shown.length ≤ sizeLine ∧ Q (.str (dcD es).shown) H
section
variable {X : Cx} {pins : List (Addr × Obj)} {σ : St} {H : Hp} {s : Shared}
theorem ents_reads (I : Inv X pins σ H s) : ∀ {es : List EntD} {ds : List DictEntry} {vs : List (Key × Value)}, Pairs (mixKind X.prog X.w) ds vs → KV (es.map fun e => (e.1, e.2.1)) vs → (∀ e ∈ es, Dp X.K H e.2.1 e.2.2 ∧ e.2.2.hasDict = false) →
    (∃ as, ReadsAll s.heap (ds.map (·.key)) ((es.map fun e => (kD e.1, e.2.2)).map (·.1)) as) ∧ (∃ bs, ReadsAll s.heap (ds.map (·.val)) ((es.map fun e => (kD e.1, e.2.2)).map (·.2)) bs) ∧ PyData.hasDictAll ((es.map fun e => (kD e.1, e.2.2)).map (·.1)) = false ∧ PyData.hasDictAll ((es.map fun e => (kD e.1, e.2.2)).map (·.2)) = false
  | [], ds, vs, p, kv, _ => by
    cases kv
    cases p
    exact ⟨⟨_, .nil⟩, ⟨_, .nil⟩, rfl, rfl⟩
  | e :: es, ds, vs, p, kv, h => by
    cases kv with
    | cons hq kv =>
      cases p with
      | cons pk pv p =>
        obtain ⟨⟨as, r1⟩, ⟨bs, r2⟩, n1, n2⟩ := ents_reads I p kv fun x hx => h x (List.mem_cons_of_mem _ hx)
        obtain ⟨d1, d2⟩ := h e (List.mem_cons_self ..)
        obtain ⟨k, v, d⟩ := e
        obtain ⟨e1, rv⟩ := hq
        have e1 : k = _ := e1
        subst e1
        rw [← pv] at rv
        obtain ⟨cs, r3⟩ := Dp.reads I _ _ _ d1 rv
        have hd : d.hasDict = false := d2
        refine ⟨?_, ⟨_, .cons r3 r2⟩, ?_, ?_⟩
        · rcases keyIs_shape pk with ⟨i, t, ek, ev⟩ | ⟨x, t, ek, ev⟩
          · rw [List.map_cons, ev]
            exact ⟨_, .cons (by show Reads _ _ (kD _) _; rw [ek]; exact .int i t) r1⟩
          · rw [List.map_cons, ev]
            exact ⟨_, .cons (by show Reads _ _ (kD _) _; rw [ek]; exact .str x t) r1⟩
        · show (PyData.hasDict (kD _) || PyData.hasDictAll _) = false
          rw [n1, Bool.or_false]
          rcases keyIs_shape pk with ⟨i, t, ek, _⟩ | ⟨x, t, ek, _⟩ <;> (rw [ek]; rfl)
        · show (PyData.hasDict d || PyData.hasDictAll _) = false
          rw [n2, hd] <;> rfl
theorem call_reprD (clr : Clr X.A) (hu : X.A.units + 64 < cLine) : CallR X (.builtin "repr") (rReprD X.K) := by
  intro pins s σ H xs us Q I r h
  obtain ⟨a, es, rfl, ha, hd, sh, dep, few, q⟩ := h
  obtain ⟨u, rfl, ru⟩ := vals1 r
  obtain rfl : u = Value.ref a := ru
  obtain ⟨_, ns, vs, kv, o, ds, ep, h1, h2, h3, _, h4, _⟩ := (show ObjOk X.prog X.w H s.heap a (.dK (es.map fun e => (e.1, e.2.1))) from I.hok a _ ha)
  obtain ⟨⟨as, r1⟩, ⟨bs, r2⟩, n1, n2⟩ := ents_reads I h4 kv hd
  have few' : (dictText (PyData.shownKv (es.map fun e => (kD e.1, e.2.2)))).length ≤ sizeLine := by simpa only [PyData.shown] using few
  obtain ⟨s1, s2⟩ := PyData.showableKv_split (es.map fun e => (kD e.1, e.2.2)) (by simpa [PyData.showable] using sh)
  obtain ⟨b1, m1, k1⟩ := ReprAllK.of_readsAll (prog := X.prog) (w := X.w) r1 s1 (fun z => by rw [n1] at z; cases z) fun t ht => let ⟨p, hp, hl⟩ := PyData.shownKv_key_le _ t ht; Nat.le_trans hl (Nat.le_trans (dictText_mem_le hp) few')
  obtain ⟨b2, m2, k2⟩ := ReprAllK.of_readsAll (prog := X.prog) (w := X.w) r2 s2 (fun z => by rw [n2] at z; cases z) fun t ht => let ⟨p, hp, hl⟩ := PyData.shownKv_val_le _ t ht; Nat.le_trans hl (Nat.le_trans (dictText_mem_le hp) few')
  have hb : ReadAtMost s.heap (PyData.depthKv (es.map fun e => (kD e.1, e.2.2))) (b1 ++ b2) := (m1.mono (PyData.depthAll_keys_le _)).append (m2.mono (PyData.depthAll_vals_le _))
  have hna : a ∉ b1 ++ b2 := not_mem_of_deeper (.dict h1 h2.1 h3 r1 r2) (by simp only [PyData.depth]; omega) hb
  have dep' : PyData.depthKv (es.map fun e => (kD e.1, e.2.2)) + 1 ≤ 60 := by simpa only [PyData.depth] using dep
  refine call_repr_slot (by omega) ⟨o, h1, h2.1⟩ PySem.F.slot_dict_repr (call_dict_reprK h1 h2.1 h3 ns hna (ReprEntriesK.of_two ds.toList _ _ (k1.more_le (fun b hb => List.mem_append_left _ hb) (PyData.depthAll_keys_le _)) (k2.more_le (fun b hb => List.mem_append_right _ hb) (PyData.depthAll_vals_le _)))
    (g := []) clr (fun b _ => Clear.nil b) (by show X.A.units + 1 + _ < cLine; omega) (fun _ _ z => z) (fun h' t tk kp => ⟨_, _, rfl, ?_⟩) (by rw [← PyData.shownKv_eq]; exact few'))
  refine ⟨.str (dcD es).shown, H, I.kept kp, ?_, q⟩
  exact ⟨t, by rw [show (dcD es).shown = dictText (PyData.shownKv (es.map fun e => (kD e.1, e.2.2))) by simp only [PyData.shown], PyData.shownKv_eq]⟩
end
end L2


/-! Own: xs.remove(t) of a list of texts. -/
namespace L2
open PySem PySem.Spec PyProof.Rows
variable {X : Cx}
theorem erase_strs : ∀ (l : List Str) (j : Nat), (l.map V.str).eraseIdx j = (l.eraseIdx j).map V.str
  | [], j => by simp
  | a :: r, 0 => rfl
  | a :: r, j + 1 => congrArg (List.cons (V.str a)) (erase_strs r j)
def rRemS : V → List V → Hp → VK → Prop := fun x xs H Q => ∃ (l : Addr) (zs : List Str) (k : Str) (j : Nat), x = .ref l ∧ xs = [.str k] ∧ H l = some (.lst (zs.map V.str)) ∧ zs[j]? = some k ∧ (∀ m : Nat, m < j → zs[m]? ≠ some k) ∧ Q .non (upd H l (.lst ((zs.eraseIdx j).map V.str)))
theorem mt_removeS : MtM X "list.remove" rRemS := by
  intro pins s σ H x xs v us Q I rx rxs h
  obtain ⟨l, zs, k, j, ex, exs, hH, hj, hno, q⟩ := h
  subst ex
  subst exs
  cases rx
  obtain ⟨u, eu, ru⟩ := rxs.one
  subst eu
  obtain ⟨t, et⟩ := ru
  subst et
  obtain ⟨z, its, n, r, hl, e⟩ := I.lstM hH
  have hi := strs_of_vals r
  have hjn : j < zs.length := (List.getElem?_eq_some_iff.mp hj).1
  rw [List.length_map] at hl z
  refine call_meets PySem.F.slot_list_remove ⟨_, e, rfl⟩ PySem.F.entry_list_remove (PySem.F.args_list_remove_2 _ _)
    (MeetsSeq.list_remove l its.toArray n (.str k t) (isStrOf k) (fun y hy => eq_isStrOf k t hi y (by simpa using hy)) j (by rw [List.size_toArray]; omega) ?_ ?_ (by rw [List.size_toArray]; omega)) ⟨e, ?_⟩
  · obtain ⟨tj, hjt⟩ := StrsAre.get hi j k hj
    have e1 : its.toArray[j]'(by rw [List.size_toArray]; omega) = .str k tj := by simpa using (List.getElem?_eq_some_iff.mp hjt).2
    rw [e1]
    exact beq_self_eq_true k
  · intro m hm hmj
    have hmn : m < zs.length := by omega
    obtain ⟨tm, hmt⟩ := StrsAre.get hi m _ (List.getElem?_eq_getElem hmn)
    have e1 : its.toArray[m] = .str zs[m] tm := by simpa using (List.getElem?_eq_some_iff.mp hmt).2
    rw [e1]
    exact beq_eq_false_iff_ne.mpr fun e2 => hno m hmj (by rw [List.getElem?_eq_getElem hmn, e2])
  · have rr := r.eraseIdx j
    rw [erase_strs] at rr
    refine ⟨.non, _, I.lset (its' := its.eraseIdx j) (t' := s.toks) hH e ?_ rr ?_, rfl, q⟩
    · show its.toArray.eraseIdxIfInBounds j = (its.eraseIdx j).toArray
      exact List.eraseIdxIfInBounds_toArray ..
    · have := len_erase zs j
      rw [List.length_map]
      omega
end L2


/-! plain: lists of users by place, how a change of sizes moves them, that the way back restores them. No program here. -/
namespace FT
open PySem L2 TL
/-! ### sums -/
theorem sum_map_add {α : Type} (f g : α → Int) : ∀ l : List α, (l.map fun x => f x + g x).sum = (l.map f).sum + (l.map g).sum
  | [] => rfl
  | a :: l => by
    rw [List.map_cons, List.map_cons, List.map_cons, List.sum_cons, List.sum_cons, List.sum_cons, sum_map_add f g l]
    omega
theorem sum_map_sub {α : Type} (f g : α → Int) : ∀ l : List α, (l.map fun x => f x - g x).sum = (l.map f).sum - (l.map g).sum
  | [] => rfl
  | a :: l => by
    rw [List.map_cons, List.map_cons, List.map_cons, List.sum_cons, List.sum_cons, List.sum_cons, sum_map_sub f g l]
    omega
theorem sum_map_mul {α : Type} (f : α → Int) (c : Int) : ∀ l : List α, (l.map fun x => c * f x).sum = c * (l.map f).sum
  | [] => by simp
  | a :: l => by
    rw [List.map_cons, List.map_cons, List.sum_cons, List.sum_cons, sum_map_mul f c l, Int.mul_add]
theorem sum_map_zero {α : Type} {f : α → Int} : ∀ {l : List α}, (∀ x ∈ l, f x = 0) → (l.map f).sum = 0
  | [], _ => rfl
  | a :: l, h => by
    rw [List.map_cons, List.sum_cons, h a (List.mem_cons_self ..), sum_map_zero fun x hx => h x (List.mem_cons_of_mem _ hx)]
    rfl
theorem sum_swap {α β : Type} (f : α → β → Int) (m : List β) : ∀ l : List α, (l.map fun x => (m.map fun y => f x y).sum).sum = (m.map fun y => (l.map fun x => f x y).sum).sum
  | [] => by
    rw [sum_map_zero (l := m) (f := fun y => (([] : List α).map fun x => f x y).sum) fun _ _ => rfl] <;> rfl
  | a :: l => by
    rw [List.map_cons, List.sum_cons, sum_swap f m l, ← sum_map_add] <;> rfl
theorem sum_one {α : Type} [DecidableEq α] {f : α → Int} {a : α} : ∀ {l : List α}, l.Nodup → (l.map fun x => if x = a then f x else 0).sum = if a ∈ l then f a else 0
  | [], _ => rfl
  | b :: l, nd => by
    obtain ⟨n1, n2⟩ := List.nodup_cons.mp nd
    rw [List.map_cons, List.sum_cons, sum_one n2]
    by_cases e : b = a
    · subst e
      rw [if_pos rfl, if_neg n1, if_pos (List.mem_cons_self ..)]
      omega
    · rw [if_neg e, Int.zero_add]
      by_cases m : a ∈ l
      · rw [if_pos m, if_pos (List.mem_cons_of_mem _ m)]
      · rw [if_neg m, if_neg fun z => (List.mem_cons.mp z).elim (fun z => e z.symm) m]
/-! ### places, neighbours -/
def pls (ts : List (Str × Str)) : List Str := "" :: ts.map Prod.fst
theorem pls_nd {ts : List (Str × Str)} (o : TreeOk ts) : (pls ts).Nodup := List.nodup_cons.mpr ⟨o.root, o.nd⟩
theorem mem_pls {ts : List (Str × Str)} {a : Str} : a ∈ pls ts ↔ Pl ts a := List.mem_cons
theorem pls_len (ts : List (Str × Str)) : (pls ts).length = ts.length + 1 := by unfold pls; rw [List.length_cons, List.length_map]
theorem kids_cons (q : Str × Str) (ts : List (Str × Str)) (p : Str) : kids (q :: ts) p = (if q.2 = p then [q.1] else []) ++ kids ts p := by
  unfold kids
  rw [List.filter_cons]
  by_cases e : q.2 = p
  · rw [if_pos e, if_pos (decide_eq_true e)] <;> rfl
  · rw [if_neg e, if_neg (by rw [decide_eq_false e]; decide)] <;> rfl
/-- a sum over the children of places is a sum over the flags -/
theorem kids_sum {F : List Str} (nd : F.Nodup) (f : Str → Str → Int) : ∀ ts : List (Str × Str), (F.map fun p => ((kids ts p).map fun k => f k p).sum).sum = (ts.map fun q => if q.2 ∈ F then f q.1 q.2 else 0).sum
  | [] => sum_map_zero fun _ _ => rfl
  | q :: ts => by
    rw [List.map_cons, List.sum_cons, ← kids_sum nd f ts]
    rw [show (F.map fun p => ((kids (q :: ts) p).map fun k => f k p).sum) = F.map fun p => (if p = q.2 then f q.1 p else 0) + ((kids ts p).map fun k => f k p).sum from List.map_congr_left fun p _ => ?_, sum_map_add, sum_one nd]
    rw [kids_cons, List.map_append, List.sum_append]
    by_cases e : q.2 = p
    · rw [if_pos e, if_pos e.symm]
      show f q.1 p + 0 + _ = _
      omega
    · rw [if_neg e, if_neg fun z => e z.symm] <;> rfl
theorem mem_kids {ts : List (Str × Str)} {k p : Str} : k ∈ kids ts p ↔ (k, p) ∈ ts := by
  unfold kids
  constructor
  · intro h
    obtain ⟨q, hq, e⟩ := List.mem_map.mp h
    obtain ⟨h1, h2⟩ := List.mem_filter.mp hq
    rw [← e, ← of_decide_eq_true h2]
    exact h1
  · exact fun h => List.mem_map.mpr ⟨_, List.mem_filter.mpr ⟨h, decide_eq_true rfl⟩, rfl⟩
theorem kid_par {ts : List (Str × Str)} (o : TreeOk ts) {k p : Str} : k ∈ kids ts p ↔ par ts k = some p := ⟨fun h => par_of o.nd (mem_kids.mp h), fun h => mem_kids.mpr (par_mem h)⟩
theorem kids_nd {ts : List (Str × Str)} (o : TreeOk ts) (p : Str) : (kids ts p).Nodup := o.nd.sublist ((List.filter_sublist (p := fun q : Str × Str => decide (q.2 = p)) (l := ts)).map Prod.fst)
theorem par_flag {ts : List (Str × Str)} {a z : Str} (h : par ts a = some z) : a ∈ ts.map Prod.fst := List.mem_map.mpr ⟨_, par_mem h, rfl⟩
theorem par_pl {ts : List (Str × Str)} (o : TreeOk ts) {a z : Str} (h : par ts a = some z) : Pl ts z := by
  obtain ⟨rk, r⟩ := o.up
  exact (r _ (par_mem h)).2.imp id And.left
theorem par_root {ts : List (Str × Str)} (o : TreeOk ts) : par ts "" = none := par_none o.root
/-- no flag is above its parent -/
theorem par_once {ts : List (Str × Str)} (o : TreeOk ts) {a b : Str} (h : par ts a = some b) (h2 : par ts b = some a) : False := by
  obtain ⟨rk, r⟩ := o.up
  have h3 := (r _ (par_mem h)).2
  have h4 := (r _ (par_mem h2)).2
  rcases h3 with e | ⟨_, h3⟩
  · have e : b = "" := e
    rw [e, par_root o] at h2
    cases h2
  · rcases h4 with e | ⟨_, h4⟩
    · have e : a = "" := e
      rw [e, par_root o] at h
      cases h
    · have h3 : rk b < rk a := h3
      have h4 : rk a < rk b := h4
      omega
/-- the other ends of the edges of a place -/
def adj (ts : List (Str × Str)) (p : Str) : List Str := (if p = "" then [] else [(par ts p).getD ""]) ++ kids ts p
theorem mem_adj {ts : List (Str × Str)} (o : TreeOk ts) {a b : Str} (h : Pl ts b) : a ∈ adj ts b ↔ par ts b = some a ∨ par ts a = some b := by
  unfold adj
  rw [List.mem_append, kid_par o]
  refine or_congr ?_ .rfl
  by_cases e : b = ""
  · subst e
    rw [if_pos rfl, par_root o]
    exact ⟨(fun z => nomatch z), (fun z => nomatch z)⟩
  · rw [if_neg e, List.mem_singleton]
    obtain ⟨z, hz⟩ := par_some o.nd (h.resolve_left e)
    rw [hz]
    exact ⟨fun q => by rw [q] <;> rfl, fun q => (Option.some.inj q).symm⟩
theorem adj_nd {ts : List (Str × Str)} (o : TreeOk ts) {p : Str} (h : Pl ts p) : (adj ts p).Nodup := by
  unfold adj
  by_cases e : p = ""
  · rw [if_pos e]
    exact kids_nd o p
  · rw [if_neg e]
    refine List.nodup_cons.mpr ⟨fun m => ?_, kids_nd o p⟩
    obtain ⟨z, hz⟩ := par_some o.nd (h.resolve_left e)
    rw [hz] at m
    exact par_once o hz ((kid_par o).mp m)
theorem adj_pl {ts : List (Str × Str)} (o : TreeOk ts) {a b : Str} (h : Pl ts b) (m : a ∈ adj ts b) : Pl ts a := by
  rcases (mem_adj o h).mp m with z | z
  · exact par_pl o z
  · exact .inr (par_flag z)
theorem adj_sym {ts : List (Str × Str)} (o : TreeOk ts) {a b : Str} (h : Pl ts b) (m : a ∈ adj ts b) : b ∈ adj ts a := (mem_adj o (adj_pl o h m)).mpr ((mem_adj o h).mp m).symm
/-! ### how many users cross an edge -/
def lv (ts : List (Str × Str)) (c : Str → Int) (p o : Str) : Nat := if par ts o = some p ∧ 0 < c o then (c o).toNat else if par ts p = some o ∧ c p < 0 then (- c p).toNat else 0
theorem lv_neg {ts : List (Str × Str)} (o : TreeOk ts) {c d : Str → Int} (hd : ∀ x, d x = - c x) (a b : Str) : lv ts d a b = lv ts c b a := by
  have da := hd a
  have db := hd b
  unfold lv
  by_cases h1 : par ts b = some a
  · have h2 : ¬ par ts a = some b := fun z => par_once o h1 z
    rw [if_neg (show ¬ (par ts a = some b ∧ d a < 0) from fun z => h2 z.1), if_neg (show ¬ (par ts a = some b ∧ 0 < c a) from fun z => h2 z.1)]
    by_cases n : c b < 0
    · rw [if_pos ⟨h1, by omega⟩, if_pos ⟨h1, n⟩, db]
    · rw [if_neg fun z => n (by have := z.2; omega), if_neg fun z => n z.2]
  · rw [if_neg (show ¬ (par ts b = some a ∧ 0 < d b) from fun z => h1 z.1), if_neg (show ¬ (par ts b = some a ∧ c b < 0) from fun z => h1 z.1)]
    by_cases h2 : par ts a = some b
    · by_cases n : 0 < c a
      · rw [if_pos ⟨h2, by omega⟩, if_pos ⟨h2, n⟩, da]
        congr 1
        omega
      · rw [if_neg fun z => n (by have := z.2; omega), if_neg fun z => n z.2]
    · rw [if_neg fun z => h2 z.1, if_neg fun z => h2 z.1]
theorem lv_adj {ts : List (Str × Str)} (o : TreeOk ts) {c : Str → Int} {a b : Str} (h : 0 < lv ts c a b) : Pl ts a ∧ Pl ts b ∧ a ∈ adj ts b ∧ ((par ts b = some a ∧ 0 < c b) ∨ (par ts a = some b ∧ c a < 0)) := by
  unfold lv at h
  by_cases h1 : par ts b = some a ∧ 0 < c b
  · have hb : Pl ts b := .inr (par_flag h1.1)
    exact ⟨par_pl o h1.1, hb, (mem_adj o hb).mpr (.inl h1.1), .inl h1⟩
  · rw [if_neg h1] at h
    by_cases h2 : par ts a = some b ∧ c a < 0
    · have hb := par_pl o h2.1
      exact ⟨.inr (par_flag h2.1), hb, (mem_adj o hb).mpr (.inr h2.1), .inr h2⟩
    · rw [if_neg h2] at h
      omega
/-- what a place gets less what it gives -/
theorem lv_net {ts : List (Str × Str)} (o : TreeOk ts) (c : Str → Int) {p : Str} (h : Pl ts p) : ((adj ts p).map fun x => (lv ts c x p : Int)).sum - ((adj ts p).map fun x => (lv ts c p x : Int)).sum = (if p = "" then 0 else c p) - ((kids ts p).map c).sum := by
  have kid : ∀ k ∈ kids ts p, (lv ts c k p : Int) - (lv ts c p k : Int) = - c k := fun k hk => by
    have e := (kid_par o).mp hk
    have n : ¬ par ts p = some k := fun z => par_once o e z
    unfold lv
    rw [if_neg fun z => n z.1, if_neg (show ¬ (par ts p = some k ∧ c p < 0) from fun z => n z.1)]
    by_cases h1 : c k < 0
    · rw [if_pos ⟨e, h1⟩, if_neg fun z => by have := z.2; omega]
      omega
    · rw [if_neg fun z => h1 z.2]
      by_cases h2 : 0 < c k
      · rw [if_pos ⟨e, h2⟩]
        omega
      · rw [if_neg fun z => h2 z.2]
        omega
  have ks : ((kids ts p).map fun x => (lv ts c x p : Int)).sum - ((kids ts p).map fun x => (lv ts c p x : Int)).sum = - ((kids ts p).map c).sum := by
    rw [← sum_map_sub, List.map_congr_left kid]
    have := sum_map_mul c (-1) (kids ts p)
    rw [show (fun x => -1 * c x) = fun x => - c x from funext fun x => by omega] at this
    omega
  unfold adj
  rw [List.map_append, List.map_append, List.sum_append, List.sum_append]
  by_cases e : p = ""
  · rw [if_pos e, if_pos e]
    show (0 + _) - (0 + _) = _
    omega
  · rw [if_neg e, if_neg e]
    obtain ⟨z, hz⟩ := par_some o.nd (h.resolve_left e)
    rw [hz]
    have n : ¬ par ts z = some p := fun w => par_once o hz w
    have one : (lv ts c z p : Int) - (lv ts c p z : Int) = c p := by
      unfold lv
      rw [if_neg (show ¬ (par ts z = some p ∧ 0 < c z) from fun w => n w.1), if_neg (show ¬ (par ts z = some p ∧ c z < 0) from fun w => n w.1)]
      by_cases h1 : 0 < c p
      · rw [if_pos ⟨hz, h1⟩, if_neg fun w => by have := w.2; omega]
        omega
      · rw [if_neg fun w => h1 w.2]
        by_cases h2 : c p < 0
        · rw [if_pos ⟨hz, h2⟩]
          omega
        · rw [if_neg fun w => h2 w.2]
          omega
    show ((lv ts c z p : Int) + 0 + _) - ((lv ts c p z : Int) + 0 + _) = _
    omega
/-! ### an order of the places that all moves follow -/
def sg (z : Int) : Int := if 0 < z then 1 else if z < 0 then -1 else 0
def phi (ts : List (Str × Str)) (c : Str → Int) (p : Str) : Int := ((pathOf ts p).map fun x => sg (c x)).sum
theorem sg_sum (c : Str → Int) : ∀ l : List Str, - (l.length : Int) ≤ (l.map fun x => sg (c x)).sum
  | [] => by simp
  | a :: l => by
    have i := sg_sum c l
    rw [List.map_cons, List.sum_cons, List.length_cons]
    have : -1 ≤ sg (c a) := by unfold sg; split <;> (try split) <;> omega
    omega
def lvl (ts : List (Str × Str)) (c : Str → Int) (p : Str) : Nat := (phi ts c p + 12).toNat
theorem lvl_up {ts : List (Str × Str)} (o : TreeOk ts) {c : Str → Int} {a b : Str} (h : 0 < lv ts c a b) : lvl ts c a < lvl ts c b := by
  have low : ∀ p, 0 ≤ phi ts c p + 12 := fun p => by
    have h1 := sg_sum c (pathOf ts p)
    have h2 := path_len ts p
    have h3 := o.few
    unfold phi
    omega
  have key : phi ts c a < phi ts c b := by
    obtain ⟨_, _, _, h1 | h1⟩ := lv_adj o h
    · unfold phi
      rw [path_step o (par_flag h1.1) h1.1, List.map_append, List.sum_append]
      show _ < _ + (sg (c b) + 0)
      have : sg (c b) = 1 := if_pos h1.2
      omega
    · unfold phi
      rw [path_step o (par_flag h1.1) h1.1, List.map_append, List.sum_append]
      show _ + (sg (c a) + 0) < _
      have : sg (c a) = -1 := by
        have h2 := h1.2
        unfold sg
        rw [if_neg (by omega), if_pos h2]
      omega
  have := low a
  unfold lvl
  omega
/-! ### a change moves the lists -/
/-- groups that come to a place, in the order in which they are put behind its list -/
def ins (ts : List (Str × Str)) (G : Str → Str → List Int) (p : Str) : List Int := ((adj ts p).reverse.map fun o => G o p).flatten
/-- groups that leave a place -/
def outs (ts : List (Str × Str)) (G : Str → Str → List Int) (p : Str) : List Int := ((adj ts p).reverse.map fun o => G p o).flatten
def Moved (ts : List (Str × Str)) (c : Str → Int) (L L' : Str → List Int) : Prop := ∃ G : Str → Str → List Int, (∀ p, Pl ts p → ∀ o ∈ adj ts p, (G p o).length = lv ts c p o) ∧ ∀ p, Pl ts p → L p ++ ins ts G p = L' p ++ outs ts G p
theorem moved_back {ts : List (Str × Str)} (o : TreeOk ts) {c : Str → Int} {L L' : Str → List Int} {d : Str → Int} (hd : ∀ x, d x = - c x) (m : Moved ts c L L') : Moved ts d L' L := by
  obtain ⟨G, g1, g2⟩ := m
  refine ⟨fun a b => G b a, fun p hp q hq => ?_, fun p hp => (g2 p hp).symm⟩
  rw [lv_neg o hd]
  exact g1 q (adj_pl o hp hq) p (adj_sym o hp hq)
theorem flat_len {α β : Type} (f : α → List β) : ∀ l : List α, (l.map f).flatten.length = (l.map fun x => (f x).length).sum
  | [] => rfl
  | a :: l => by rw [List.map_cons, List.flatten_cons, List.length_append, flat_len f l] <;> rfl
theorem flat_inj {α β : Type} {f g : α → List β} : ∀ {l : List α}, (∀ x ∈ l, (f x).length = (g x).length) → (l.map f).flatten = (l.map g).flatten → ∀ x ∈ l, f x = g x
  | [], _, _, x, h => nomatch h
  | a :: l, hl, e, x, h => by
    rw [List.map_cons, List.map_cons, List.flatten_cons, List.flatten_cons] at e
    obtain ⟨e1, e2⟩ := List.append_inj e (hl a (List.mem_cons_self ..))
    rcases List.mem_cons.mp h with rfl | h
    · exact e1
    · exact flat_inj (fun y hy => hl y (List.mem_cons_of_mem _ hy)) e2 x h
theorem flat_congr {α β : Type} {f g : α → List β} {l : List α} (h : ∀ x ∈ l, f x = g x) : (l.map f).flatten = (l.map g).flatten := by rw [List.map_congr_left h]
/-- a change leads to one result -/
theorem moved_one {ts : List (Str × Str)} (o : TreeOk ts) {c : Str → Int} {L A B : Str → List Int} (ma : Moved ts c L A) (mb : Moved ts c L B) : ∀ p, Pl ts p → A p = B p := by
  obtain ⟨G, g1, g2⟩ := ma
  obtain ⟨G', g1', g2'⟩ := mb
  have key : ∀ (n : Nat) (p : Str), lvl ts c p < n → Pl ts p → A p = B p ∧ ∀ q ∈ adj ts p, G p q = G' p q := by
    intro n
    induction n with
    | zero => exact fun p h => absurd h (Nat.not_lt_zero _)
    | succ n ih =>
      intro p hn hp
      have ei : ins ts G p = ins ts G' p := flat_congr fun q hq => by
        have hq := List.mem_reverse.mp hq
        have hq2 := adj_pl o hp hq
        have l1 := g1 q hq2 p (adj_sym o hp hq)
        have l2 := g1' q hq2 p (adj_sym o hp hq)
        rcases Nat.eq_zero_or_pos (lv ts c q p) with z | z
        · rw [z] at l1 l2
          rw [List.length_eq_zero_iff.mp l1, List.length_eq_zero_iff.mp l2]
        · have lt := lvl_up o z
          exact (ih q (by omega) hq2).2 p (adj_sym o hp hq)
      have e := (g2 p hp).symm.trans ((congrArg (L p ++ ·) ei).trans (g2' p hp))
      have hl : ∀ q ∈ (adj ts p).reverse, (G p q).length = (G' p q).length := fun q hq => by
        have hq := List.mem_reverse.mp hq
        rw [g1 p hp q hq, g1' p hp q hq]
      have el : (outs ts G p).length = (outs ts G' p).length := by
        unfold outs
        rw [flat_len, flat_len, List.map_congr_left hl]
      obtain ⟨e1, e2⟩ := List.append_inj' e el
      exact ⟨e1, fun q hq => flat_inj hl e2 q (List.mem_reverse.mpr hq)⟩
  exact fun p hp => (key _ p (Nat.lt_succ_self _) hp).1
/-- there and back -/
theorem there_back {ts : List (Str × Str)} (o : TreeOk ts) {c : Str → Int} {L A B : Str → List Int} {d : Str → Int} (hd : ∀ x, d x = - c x) (ma : Moved ts c L A) (mb : Moved ts d A B) : ∀ p, Pl ts p → B p = L p := moved_one o mb (moved_back o hd ma)
theorem int_sum (l : List Nat) : ((l.sum : Nat) : Int) = (l.map fun x : Nat => (x : Int)).sum := by
  induction l with
  | nil => rfl
  | cons a l ih =>
    rw [List.sum_cons, List.map_cons, List.sum_cons, ← ih]
    omega
theorem sum_rev (l : List Int) : l.reverse.sum = l.sum := sum_perm (List.reverse_perm l)
theorem ins_len {ts : List (Str × Str)} (G : Str → Str → List Int) (p : Str) : ((ins ts G p).length : Int) = ((adj ts p).map fun o => ((G o p).length : Int)).sum := by
  unfold ins
  rw [flat_len, int_sum, List.map_map, List.map_reverse, sum_rev] <;> rfl
theorem outs_len {ts : List (Str × Str)} (G : Str → Str → List Int) (p : Str) : ((outs ts G p).length : Int) = ((adj ts p).map fun o => ((G p o).length : Int)).sum := by
  unfold outs
  rw [flat_len, int_sum, List.map_map, List.map_reverse, sum_rev] <;> rfl
/-- the lengths are the residents -/
def Lens (ts : List (Str × Str)) (n : Int) (sz : Str → Int) (L : Str → List Int) : Prop := ∀ p, Pl ts p → ((L p).length : Int) = resid ts n sz p
theorem moved_lens {ts : List (Str × Str)} (o : TreeOk ts) {n : Int} {sz c : Str → Int} {L L' : Str → List Int} (m : Moved ts c L L') (h : Lens ts n sz L) : Lens ts n (fun x => sz x + c x) L' := by
  obtain ⟨G, g1, g2⟩ := m
  intro p hp
  have e := congrArg (fun l : List Int => (l.length : Int)) (g2 p hp)
  have e : ((L p ++ ins ts G p).length : Int) = ((L' p ++ outs ts G p).length : Int) := e
  rw [List.length_append, List.length_append, Int.natCast_add, Int.natCast_add, ins_len, outs_len, h p hp, List.map_congr_left (fun q hq => by rw [g1 q (adj_pl o hp hq) p (adj_sym o hp hq)]),
    List.map_congr_left (l := adj ts p) (f := fun o => ((G p o).length : Int)) (fun q hq => by rw [g1 p hp q hq])] at e
  have net := lv_net o c hp
  show _ = (if p = "" then n else sz p + c p) - ((kids ts p).map fun x => sz x + c x).sum
  unfold resid at e
  rw [sum_map_add]
  by_cases z : p = ""
  · rw [if_pos z] at e net ⊢
    omega
  · rw [if_neg z] at e net ⊢
    omega
end FT


/-! plain: sizes of lists; every user at one place; a user's way through the tree. -/
namespace FT
open PySem L2 TL
/-! ### sizes and lengths -/
def under (ts : List (Str × Str)) (a : Str) : List Str := (ts.map Prod.fst).filter fun b => decide (a ∈ pathOf ts b)
def lsz (ts : List (Str × Str)) (L : Str → List Int) (a : Str) : Int := ((under ts a).map fun b => ((L b).length : Int)).sum
theorem sum_filter {α : Type} (c : α → Bool) (f : α → Int) : ∀ l : List α, ((l.filter c).map f).sum = (l.map fun x => if c x = true then f x else 0).sum
  | [] => rfl
  | a :: l => by
    rw [List.filter_cons, List.map_cons, List.sum_cons, ← sum_filter c f l]
    by_cases e : c a = true
    · rw [if_pos e, if_pos e, List.map_cons, List.sum_cons]
    · rw [if_neg e, if_neg e, Int.zero_add]
/-- the paths' flags rank no higher -/
theorem path_rank {ts : List (Str × Str)} (o : TreeOk ts) {rk : Str → Nat} (r : Rk ts rk) : ∀ (n : Nat) (a : Str), Pl ts a → (a ≠ "" → rk a < n) → ∀ z ∈ pathOf ts a, rk z ≤ rk a := by
  intro n
  induction n with
  | zero =>
    intro a ha h z hz
    by_cases e : a = ""
    · subst e
      rw [path_root] at hz
      cases hz
    · exact absurd (h e) (Nat.not_lt_zero _)
  | succ n ih =>
    intro a ha h z hz
    by_cases e : a = ""
    · subst e
      rw [path_root] at hz
      cases hz
    · obtain ⟨p, ep, hp, _⟩ := o.step r (ha.resolve_left e)
      rw [path_step o (ha.resolve_left e) ep] at hz
      rcases List.mem_append.mp hz with hz | hz
      · have hh := h e
        rcases hp with e0 | ⟨hp, lt⟩
        · subst e0
          rw [path_root] at hz
          cases hz
        · have := ih p (.inr hp) (fun _ => by omega) z hz
          omega
      · rw [List.mem_singleton.mp hz]
        exact Nat.le_refl _
theorem not_above {ts : List (Str × Str)} (o : TreeOk ts) {a p : Str} (h : par ts a = some p) : a ∉ pathOf ts p := fun hm => by
  obtain ⟨rk, r⟩ := o.up
  have lt := (r _ (par_mem h)).2
  rcases lt with e | ⟨hp, lt⟩
  · have e : p = "" := e
    rw [e, path_root] at hm
    cases hm
  · have lt : rk p < rk a := lt
    have := path_rank o r (rk p + 1) p (.inr hp) (fun _ => Nat.lt_succ_self _) a hm
    omega
theorem path_nd {ts : List (Str × Str)} (o : TreeOk ts) {a : Str} (h : Pl ts a) : (pathOf ts a).Nodup := by
  obtain ⟨rk, r⟩ := o.up
  have key : ∀ (n : Nat) (a : Str), Pl ts a → (a ≠ "" → rk a < n) → (pathOf ts a).Nodup := by
    intro n
    induction n with
    | zero =>
      intro a ha h
      by_cases e : a = ""
      · subst e
        rw [path_root]
        exact List.nodup_nil
      · exact absurd (h e) (Nat.not_lt_zero _)
    | succ n ih =>
      intro a ha h
      by_cases e : a = ""
      · subst e
        rw [path_root]
        exact List.nodup_nil
      · obtain ⟨p, ep, hp, _⟩ := o.step r (ha.resolve_left e)
        rw [path_step o (ha.resolve_left e) ep]
        refine List.nodup_append.mpr ⟨ih p (hp.imp id And.left) (fun z => ?_), by simp, fun x hx y hy e => ?_⟩
        · have := (hp.resolve_left z).2
          have := h e
          omega
        · rw [List.mem_singleton.mp hy] at e
          subst e
          exact not_above o ep hx
  exact key (rk a + 1) a h fun _ => Nat.lt_succ_self _
def inP (ts : List (Str × Str)) (a x : Str) : Int := if a ∈ pathOf ts x then 1 else 0
theorem inP_step {ts : List (Str × Str)} (o : TreeOk ts) {x p : Str} (h : par ts x = some p) (a : Str) : inP ts a x = inP ts a p + if a = x then 1 else 0 := by
  unfold inP
  rw [path_step o (par_flag h) h]
  by_cases e : a = x
  · subst e
    rw [if_pos (List.mem_append_right _ (List.mem_singleton.mpr rfl)), if_neg (not_above o h), if_pos rfl] <;> rfl
  · rw [if_neg e]
    by_cases m : a ∈ pathOf ts p
    · rw [if_pos (List.mem_append_left _ m), if_pos m] <;> rfl
    · rw [if_neg (fun z => (List.mem_append.mp z).elim m fun z => e (List.mem_singleton.mp z)), if_neg m] <;> rfl
theorem inP_root (ts : List (Str × Str)) (a : Str) : inP ts a "" = 0 := by
  unfold inP
  rw [path_root]
  exact if_neg (by simp)
theorem lsz_inP (ts : List (Str × Str)) (L : Str → List Int) (a : Str) : lsz ts L a = ((ts.map Prod.fst).map fun b => inP ts a b * ((L b).length : Int)).sum := by
  unfold lsz under
  rw [sum_filter]
  congr 1
  refine List.map_congr_left fun b _ => ?_
  unfold inP
  by_cases m : a ∈ pathOf ts b
  · rw [if_pos (decide_eq_true m), if_pos m, Int.one_mul]
  · rw [if_neg (by rw [decide_eq_false m]; decide), if_neg m, Int.zero_mul]
/-- from lengths to sizes -/
theorem lens_lsz {ts : List (Str × Str)} (o : TreeOk ts) {n : Int} {sz : Str → Int} {L : Str → List Int} (h : Lens ts n sz L) {a : Str} (ha : a ∈ ts.map Prod.fst) : lsz ts L a = sz a := by
  rw [lsz_inP]
  have e1 : ((ts.map Prod.fst).map fun b => inP ts a b * ((L b).length : Int)) = (ts.map Prod.fst).map fun b => inP ts a b * sz b - ((kids ts b).map fun k => inP ts a b * sz k).sum := List.map_congr_left fun b hb => by
    have nb : b ≠ "" := fun z => o.root (by rw [← z]; exact hb)
    rw [h b (.inr hb), sum_map_mul, ← Int.mul_sub]
    unfold resid
    rw [if_neg nb]
  rw [e1, sum_map_sub, kids_sum o.nd (fun k b => inP ts a b * sz k), List.map_map, ← sum_map_sub]
  have e2 : (ts.map fun q => ((fun b => inP ts a b * sz b) ∘ Prod.fst) q - if q.2 ∈ ts.map Prod.fst then inP ts a q.2 * sz q.1 else 0) = ts.map fun q => if q.1 = a then sz q.1 else 0 := List.map_congr_left fun q hq => by
    have hp := par_of o.nd (show (q.1, q.2) ∈ ts from hq)
    show inP ts a q.1 * sz q.1 - _ = _
    have z : (if q.2 ∈ ts.map Prod.fst then inP ts a q.2 * sz q.1 else 0) = inP ts a q.2 * sz q.1 := by
      rcases par_pl o hp with e | m
      · rw [e, inP_root, Int.zero_mul]
        split <;> rfl
      · rw [if_pos m]
    rw [z, inP_step o hp, Int.add_mul]
    by_cases e : q.1 = a
    · rw [if_pos e.symm, if_pos e, Int.one_mul]
      omega
    · rw [if_neg (fun z => e z.symm), if_neg e, Int.zero_mul]
      omega
  rw [e2]
  have e3 := sum_one (f := sz) (a := a) o.nd
  rw [if_pos ha, List.map_map] at e3
  exact e3
/-- from sizes to lengths -/
theorem lsz_lens {ts : List (Str × Str)} (o : TreeOk ts) {n : Int} {L : Str → List Int} (h : ((pls ts).map fun p => ((L p).length : Int)).sum = n) : Lens ts n (lsz ts L) L := by
  intro p hp
  have co : ∀ (m : Nat) (rk : Str → Nat), Rk ts rk → ∀ x, Pl ts x → (x ≠ "" → rk x < m) → (if p = "" then 1 else inP ts p x) - ((kids ts p).map fun k => inP ts k x).sum = if x = p then 1 else 0 := by
    intro m rk r
    induction m with
    | zero =>
      intro x hx hm
      by_cases e : x = ""
      · subst e
        rw [sum_map_zero fun k _ => inP_root ts k, inP_root]
        by_cases z : p = ""
        · rw [if_pos z, if_pos z.symm] <;> rfl
        · rw [if_neg z, if_neg fun w => z w.symm] <;> rfl
      · exact absurd (hm e) (Nat.not_lt_zero _)
    | succ m ih =>
      intro x hx hm
      by_cases e : x = ""
      · subst e
        rw [sum_map_zero fun k _ => inP_root ts k, inP_root]
        by_cases z : p = ""
        · rw [if_pos z, if_pos z.symm] <;> rfl
        · rw [if_neg z, if_neg fun w => z w.symm] <;> rfl
      · obtain ⟨q, eq, hq, _⟩ := o.step r (hx.resolve_left e)
        have hh := hm e
        have i := ih q (hq.imp id And.left) fun z => by
          have := (hq.resolve_left z).2
          omega
        have ks : ((kids ts p).map fun k => inP ts k x).sum = ((kids ts p).map fun k => inP ts k q).sum + if q = p then 1 else 0 := by
          rw [List.map_congr_left (g := fun k => inP ts k q + if k = x then 1 else 0) fun k _ => inP_step o eq k, sum_map_add, sum_one (f := fun _ => 1) (kids_nd o p)]
          congr 1
          by_cases w : q = p
          · rw [if_pos w, if_pos ((kid_par o).mpr (by rw [← w]; exact eq))]
          · rw [if_neg w, if_neg fun z => w (Option.some.inj (eq.symm.trans ((kid_par o).mp z)))]
        rw [ks]
        by_cases z : p = ""
        · rw [if_pos z] at i ⊢
          have nx : ¬ x = p := fun w => e (w.trans z)
          rw [if_neg nx]
          omega
        · rw [if_neg z] at i ⊢
          rw [inP_step o eq p]
          by_cases w : x = p
          · rw [if_pos w, if_pos w.symm]
            omega
          · rw [if_neg w, if_neg fun v => w v.symm]
            omega
  obtain ⟨rk, r⟩ := o.up
  have co' : ∀ x ∈ pls ts, (if p = "" then 1 else inP ts p x) - ((kids ts p).map fun k => inP ts k x).sum = if x = p then 1 else 0 := fun x hx => co (rk x + 1) rk r x (mem_pls.mp hx) fun _ => Nat.lt_succ_self _
  -- sizes as sums over all places
  have sz_pls : ∀ a, lsz ts L a = ((pls ts).map fun x => inP ts a x * ((L x).length : Int)).sum := fun a => by
    rw [lsz_inP]
    unfold pls
    rw [List.map_cons, List.sum_cons, inP_root, Int.zero_mul, Int.zero_add]
  have u : (if p = "" then n else lsz ts L p) = ((pls ts).map fun x => (if p = "" then 1 else inP ts p x) * ((L x).length : Int)).sum := by
    by_cases z : p = ""
    · rw [if_pos z, ← h]
      congr 1
      refine List.map_congr_left fun x _ => ?_
      rw [if_pos z, Int.one_mul]
    · rw [if_neg z, sz_pls]
      congr 1
      refine List.map_congr_left fun x _ => ?_
      rw [if_neg z]
  unfold resid
  rw [u, List.map_congr_left (f := lsz ts L) (fun k _ => sz_pls k), sum_swap, ← sum_map_sub]
  have fin : ((pls ts).map fun x => (if p = "" then 1 else inP ts p x) * ((L x).length : Int) - ((kids ts p).map fun k => inP ts k x * ((L x).length : Int)).sum) = (pls ts).map fun x => if x = p then ((L x).length : Int) else 0 := List.map_congr_left fun x hx => by
    have c := co' x hx
    have mul : ((kids ts p).map fun k => inP ts k x * ((L x).length : Int)).sum = ((L x).length : Int) * ((kids ts p).map fun k => inP ts k x).sum := by
      rw [← sum_map_mul]
      congr 1
      exact List.map_congr_left fun k _ => Int.mul_comm _ _
    rw [mul, Int.mul_comm _ ((L x).length : Int), ← Int.mul_sub, c]
    by_cases w : x = p
    · rw [if_pos w, if_pos w, Int.mul_one]
    · rw [if_neg w, if_neg w, Int.mul_zero]
  rw [fin, sum_one (f := fun x => ((L x).length : Int)) (pls_nd o), if_pos (mem_pls.mpr hp)]
/-! ### every user at one place -/
def usr (n : Nat) : List Int := (List.range n).map fun k : Nat => (k : Int)
theorem usr_nd (n : Nat) : (usr n).Nodup := by
  unfold usr
  refine List.nodup_iff_pairwise_ne.mpr (List.pairwise_map.mpr ((List.nodup_iff_pairwise_ne.mp List.nodup_range).imp fun h e => h ?_))
  omega
theorem mem_usr {n : Nat} {u : Int} : u ∈ usr n ↔ 0 ≤ u ∧ u < n := by
  unfold usr
  rw [List.mem_map]
  constructor
  · rintro ⟨k, hk, rfl⟩
    have := List.mem_range.mp hk
    omega
  · rintro ⟨h1, h2⟩
    exact ⟨u.toNat, List.mem_range.mpr (by omega), by omega⟩
def Val (ts : List (Str × Str)) (n : Nat) (L : Str → List Int) : Prop := ((pls ts).flatMap L).Perm (usr n)
theorem adj_sum {ts : List (Str × Str)} (o : TreeOk ts) (h : Str → Str → Int) : ((pls ts).map fun p => ((adj ts p).map fun x => h x p).sum).sum = (ts.map fun q => h q.2 q.1 + h q.1 q.2).sum := by
  have e : ((pls ts).map fun p => ((adj ts p).map fun x => h x p).sum) = (pls ts).map fun p : Str => (if p = "" then 0 else h ((par ts p).getD "") p) + ((kids ts p).map fun k => h k p).sum := List.map_congr_left fun p _ => by
    unfold adj
    rw [List.map_append, List.sum_append]
    by_cases z : p = ""
    · rw [if_pos z, if_pos z] <;> rfl
    · rw [if_neg z, if_neg z]
      show (h _ p + 0) + _ = _
      omega
  rw [e, sum_map_add, kids_sum (pls_nd o), sum_map_add]
  congr 1
  · unfold pls
    rw [List.map_cons, List.sum_cons, if_pos rfl, Int.zero_add, List.map_map]
    congr 1
    refine List.map_congr_left fun q hq => ?_
    have hp := par_of o.nd (show (q.1, q.2) ∈ ts from hq)
    have nq : q.1 ≠ "" := fun z => o.root (by rw [← z]; exact par_flag hp)
    show (if q.1 = "" then 0 else h ((par ts q.1).getD "") q.1) = _
    rw [if_neg nq, hp] <;> rfl
  · congr 1
    refine List.map_congr_left fun q hq => ?_
    rw [if_pos (mem_pls.mpr (par_pl o (par_of o.nd (show (q.1, q.2) ∈ ts from hq))))]
theorem count_flat (u : Int) (L : Str → List Int) (l : List Str) : ((l.flatMap L).count u : Int) = (l.map fun p => ((L p).count u : Int)).sum := by
  rw [List.count_flatMap, int_sum, List.map_map] <;> rfl
theorem count_flat2 (u : Int) (f : Str → List Int) (l : List Str) : (((l.reverse.map f).flatten).count u : Int) = (l.map fun p => ((f p).count u : Int)).sum := by
  rw [← List.flatMap_def, count_flat, List.map_reverse, sum_rev]
theorem moved_val {ts : List (Str × Str)} (o : TreeOk ts) {c : Str → Int} {n : Nat} {L L' : Str → List Int} (m : Moved ts c L L') (h : Val ts n L) : Val ts n L' := by
  obtain ⟨G, g1, g2⟩ := m
  refine List.Perm.trans (List.perm_iff_count.mpr fun u => ?_) h
  have e : ((pls ts).map fun p => ((L p).count u : Int) + ((ins ts G p).count u : Int)).sum = ((pls ts).map fun p => ((L' p).count u : Int) + ((outs ts G p).count u : Int)).sum := by
    congr 1
    refine List.map_congr_left fun p hp => ?_
    have q := congrArg (fun l : List Int => (l.count u : Int)) (g2 p (mem_pls.mp hp))
    have q : (((L p ++ ins ts G p).count u : Nat) : Int) = (((L' p ++ outs ts G p).count u : Nat) : Int) := q
    rw [List.count_append, List.count_append, Int.natCast_add, Int.natCast_add] at q
    exact q
  rw [sum_map_add, sum_map_add, ← count_flat u L, ← count_flat u L'] at e
  have ei : ((pls ts).map fun p => ((ins ts G p).count u : Int)).sum = (ts.map fun q => ((G q.2 q.1).count u : Int) + ((G q.1 q.2).count u : Int)).sum := by
    rw [← adj_sum o fun a b => ((G a b).count u : Int)]
    congr 1
    exact List.map_congr_left fun p _ => count_flat2 u (fun x => G x p) (adj ts p)
  have eo : ((pls ts).map fun p => ((outs ts G p).count u : Int)).sum = (ts.map fun q => ((G q.1 q.2).count u : Int) + ((G q.2 q.1).count u : Int)).sum := by
    rw [← adj_sum o fun a b => ((G b a).count u : Int)]
    congr 1
    exact List.map_congr_left fun p _ => count_flat2 u (fun x => G p x) (adj ts p)
  rw [ei, eo, List.map_congr_left (g := fun q : Str × Str => ((G q.1 q.2).count u : Int) + ((G q.2 q.1).count u : Int)) fun q _ => Int.add_comm _ _] at e
  omega
theorem val_len {ts : List (Str × Str)} {n : Nat} {L : Str → List Int} (h : Val ts n L) : ((pls ts).map fun p => ((L p).length : Int)).sum = n := by
  have e := h.length_eq
  rw [List.length_flatMap] at e
  unfold usr at e
  rw [List.length_map, List.length_range] at e
  rw [← e, int_sum, List.map_map] <;> rfl
/-- the place of a user -/
def plOf (ts : List (Str × Str)) (L : Str → List Int) (u : Int) : Str := ((pls ts).find? fun p => decide (u ∈ L p)).getD ""
theorem plOf_at {ts : List (Str × Str)} {n : Nat} {L : Str → List Int} (h : Val ts n L) {u : Int} (h0 : 0 ≤ u) (h1 : u < n) : Pl ts (plOf ts L u) ∧ u ∈ L (plOf ts L u) := by
  have m : u ∈ (pls ts).flatMap L := h.mem_iff.mpr (mem_usr.mpr ⟨h0, h1⟩)
  obtain ⟨p, hp, hu⟩ := List.mem_flatMap.mp m
  unfold plOf
  cases e : (pls ts).find? fun p => decide (u ∈ L p) with
  | none => exact absurd (decide_eq_true hu) (List.find?_eq_none.mp e p hp)
  | some q => exact ⟨mem_pls.mp (List.mem_of_find?_eq_some e), of_decide_eq_true (List.find?_some (p := fun p => decide (u ∈ L p)) e)⟩
theorem one_place {ts : List (Str × Str)} {n : Nat} {L : Str → List Int} (h : Val ts n L) {u : Int} {p q : Str} (hp : Pl ts p) (hq : Pl ts q) (up : u ∈ L p) (uq : u ∈ L q) : p = q := by
  have nd : ((pls ts).flatMap L).Nodup := h.nodup_iff.mpr (usr_nd n)
  obtain ⟨_, pw⟩ := List.pairwise_flatMap.mp (List.nodup_iff_pairwise_ne.mp nd)
  obtain ⟨i, hi, ei⟩ := List.mem_iff_getElem.mp (mem_pls.mpr hp)
  obtain ⟨j, hj, ej⟩ := List.mem_iff_getElem.mp (mem_pls.mpr hq)
  have pw := List.pairwise_iff_getElem.mp pw
  rcases Nat.lt_trichotomy i j with lt | e | lt
  · exact absurd rfl (pw i j hi hj lt u (by rw [ei]; exact up) u (by rw [ej]; exact uq))
  · subst e
    exact ei.symm.trans ej
  · exact absurd rfl (pw j i hj hi lt u (by rw [ej]; exact uq) u (by rw [ei]; exact up))
theorem plOf_of {ts : List (Str × Str)} {n : Nat} {L : Str → List Int} (h : Val ts n L) {u : Int} {p : Str} (hp : Pl ts p) (up : u ∈ L p) : plOf ts L u = p := by
  have m : u ∈ (pls ts).flatMap L := List.mem_flatMap.mpr ⟨p, mem_pls.mpr hp, up⟩
  obtain ⟨h0, h1⟩ := mem_usr.mp (h.mem_iff.mp m)
  obtain ⟨a, b⟩ := plOf_at h h0 h1
  exact one_place h a hp b up
/-! ### a user's way -/
inductive Rc (ts : List (Str × Str)) (c : Str → Int) (p : Str) : Str → Prop where
  | refl : Rc ts c p p
  | step {q x : Str} : Rc ts c p q → 0 < lv ts c q x → Rc ts c p x
theorem rc_dir {ts : List (Str × Str)} (o : TreeOk ts) {c : Str → Int} {p x : Str} (h : Rc ts c p x) : ∀ f, (f ∈ pathOf ts p → f ∉ pathOf ts x → c f < 0) ∧ (f ∉ pathOf ts p → f ∈ pathOf ts x → 0 < c f) := by
  induction h with
  | refl => exact fun f => ⟨fun a b => absurd a b, fun a b => absurd b a⟩
  | @step q x _ hl ih =>
    intro f
    obtain ⟨_, _, _, ⟨e, pos⟩ | ⟨e, neg⟩⟩ := lv_adj o hl
    · rw [path_step o (par_flag e) e]
      refine ⟨fun a b => (ih f).1 a fun z => b (List.mem_append_left _ z), fun a b => ?_⟩
      rcases List.mem_append.mp b with b | b
      · exact (ih f).2 a b
      · rw [List.mem_singleton.mp b]
        exact pos
    · have ps := path_step o (par_flag e) e
      refine ⟨fun a b => ?_, fun a b => (ih f).2 a (by rw [ps]; exact List.mem_append_left _ b)⟩
      by_cases z : f ∈ pathOf ts q
      · rw [ps] at z
        rcases List.mem_append.mp z with z | z
        · exact absurd z b
        · rw [List.mem_singleton.mp z]
          exact neg
      · exact (ih f).1 a z
theorem moved_rc {ts : List (Str × Str)} (o : TreeOk ts) {c : Str → Int} {L L' : Str → List Int} (m : Moved ts c L L') {u : Int} {x : Str} (hx : Pl ts x) (hu : u ∈ L' x) : ∃ p, Pl ts p ∧ u ∈ L p ∧ Rc ts c p x := by
  obtain ⟨G, g1, g2⟩ := m
  have key : ∀ (n : Nat) (x : Str), lvl ts c x < n → Pl ts x → u ∈ L x ++ ins ts G x → ∃ p, Pl ts p ∧ u ∈ L p ∧ Rc ts c p x := by
    intro n
    induction n with
    | zero => exact fun x h => absurd h (Nat.not_lt_zero _)
    | succ n ih =>
      intro x hn hx hu
      rcases List.mem_append.mp hu with hu | hu
      · exact ⟨x, hx, hu, .refl⟩
      · obtain ⟨l, hl, hul⟩ := List.mem_flatten.mp hu
        obtain ⟨q, hq, rfl⟩ := List.mem_map.mp hl
        have hq := List.mem_reverse.mp hq
        have hq2 := adj_pl o hx hq
        have len := g1 q hq2 x (adj_sym o hx hq)
        have pos : 0 < lv ts c q x := by
          rw [← len]
          exact List.length_pos_of_mem hul
        have lt := lvl_up o pos
        have mo : u ∈ L q ++ ins ts G q := by
          rw [g2 q hq2]
          refine List.mem_append_right _ (List.mem_flatten.mpr ⟨_, List.mem_map.mpr ⟨x, List.mem_reverse.mpr (adj_sym o hx hq), rfl⟩, hul⟩)
        obtain ⟨p, hp, up, rc⟩ := ih q (by omega) hq2 mo
        exact ⟨p, hp, up, .step rc pos⟩
  exact key _ x (Nat.lt_succ_self _) hx (by rw [g2 x hx]; exact List.mem_append_left _ hu)
end FT


/-! lists of pairs of a text and a value; dict(..) of them. -/
namespace FT
open PySem L2 TL ClX
/-- pairs (a, g a) at the addresses rs -/
def PrG (g : Str → V) (H : Hp) (rs : List Addr) (l : List Str) : Prop := Paired (fun (r : Addr) (a : Str) => H r = some (.tup [.str a, g a])) rs l
theorem PrG.imp {g : Str → V} {H H' : Hp} (m : ∀ r (a : Str), H r = some (.tup [.str a, g a]) → H' r = some (.tup [.str a, g a])) : ∀ {rs : List Addr} {l : List Str}, PrG g H rs l → PrG g H' rs l
  | _, _, .nil => .nil
  | _, _, .cons h t => .cons (m _ _ h) (PrG.imp m t)
theorem PrG.mono {g : Str → V} {H H' : Hp} {rs : List Addr} {l : List Str} (s : Same H H') (p : PrG g H rs l) : PrG g H' rs l := p.imp fun r a e => s _ _ e
theorem PrG.push {g : Str → V} {H : Hp} {rs : List Addr} {l : List Str} {D : Addr} {xs : List V} {o : HO} (e : H D = some (.lst xs)) (p : PrG g H rs l) : PrG g (upd H D o) rs l := p.imp fun r a q => by
  rw [upd_ne (ne_of q e (by intro z; cases z))]
  exact q
theorem PrG.snoc {g : Str → V} {H : Hp} {r : Addr} {a : Str} (h : H r = some (.tup [.str a, g a])) : ∀ {rs : List Addr} {l : List Str}, PrG g H rs l → PrG g H (rs ++ [r]) (l ++ [a])
  | _, _, .nil => .cons h .nil
  | _, _, .cons q t => .cons q (PrG.snoc h t)
theorem PrG.len {g : Str → V} {H : Hp} : ∀ {rs : List Addr} {l : List Str}, PrG g H rs l → rs.length = l.length
  | _, _, .nil => rfl
  | _, _, .cons _ t => congrArg (· + 1) (PrG.len t)
theorem PrG.at_ {g : Str → V} {H : Hp} {rs : List Addr} {l : List Str} (p : PrG g H rs l) {i : Nat} {r : Addr} (h : rs[i]? = some r) : ∃ a, l[i]? = some a ∧ H r = some (.tup [.str a, g a]) := LiI.paired_get p h
/-- as dict(..) asks it -/
theorem PrG.kvs {K : PySem.W.Frag} {g : Str → V} {H : Hp} : ∀ {rs : List Addr} {l : List Str}, PrG g H rs l → Paired (fun (p : Addr) (kv : Key × V) => SqT K H p [kV kv.1, kv.2]) rs (kvT (l.map fun a => (a, g a)))
  | _, _, .nil => .nil
  | _, _, .cons h t => .cons (.inl (.inl h)) (PrG.kvs t)
theorem merge_app : ∀ (more : List (Str × V)) (acc : List (Str × V)), ((acc ++ more).map Prod.fst).Nodup → mergeK (kvT acc) (kvT more) = kvT (acc ++ more)
  | [], acc, _ => by rw [List.append_nil] <;> rfl
  | p :: more, acc, nd => by
    have e : acc ++ p :: more = (acc ++ [p]) ++ more := by rw [List.append_assoc] <;> rfl
    have fresh : p.1 ∉ acc.map Prod.fst := fun h => by
      rw [List.map_append] at nd
      obtain ⟨_, _, d⟩ := List.nodup_append.mp nd
      exact d _ h _ (List.mem_cons_self ..) rfl
    show mergeK (putK (kvT acc) (Sum.inr p.1) p.2) (kvT more) = _
    rw [kvT_put fresh, e]
    rw [e] at nd
    exact merge_app more _ nd
theorem merge_nd {l : List (Str × V)} (nd : (l.map Prod.fst).Nodup) : mergeK [] (kvT l) = kvT l := merge_app l [] nd
theorem map_fst (l : List Str) (g : Str → V) : (l.map fun a => (a, g a)).map Prod.fst = l := by rw [List.map_map]; exact List.map_id _
theorem put_old {t : List (Str × Str)} {f z z' : Str} (n : f ∉ t.map Prod.fst) : putK (prs (t ++ [(f, z)])) (Sum.inr f) (V.str z') = prs (t ++ [(f, z')]) := by
  have key : ∀ t : List (Str × Str), f ∉ t.map Prod.fst → ((t.map fun p => (p.1, V.str p.2)).map fun p => if p.1 = f then (p.1, V.str z') else p) = t.map fun p => (p.1, V.str p.2) := by
    intro t
    induction t with
    | nil => intro _; rfl
    | cons p t ih =>
      intro n
      rw [List.map_cons, List.mem_cons] at n
      rw [List.map_cons, List.map_cons, ih fun h => n (.inr h), if_neg (fun e => n (.inl e.symm))]
  unfold prs
  rw [kvT_putT]
  unfold putT
  rw [prs_fst, if_pos (by rw [List.map_append]; exact List.mem_append_right _ (List.mem_cons_self ..)), List.map_append, List.map_append, List.map_append, key t n]
  congr 2
  show [if f = f then (f, V.str z') else (f, V.str z)] = [(f, V.str z')]
  rw [if_pos rfl]
/-- the place of an item -/
theorem idx_at {l : List Str} {i : Nat} {a : Str} (nd : l.Nodup) (h : l[i]? = some a) : l.idxOf a = i := by
  have m : a ∈ l := List.mem_of_getElem? h
  have lt := List.idxOf_lt_length_of_mem m
  have e : l[l.idxOf a]? = some a := by rw [List.getElem?_eq_getElem lt, List.getElem_idxOf lt]
  exact (List.getElem?_inj lt nd).mp (e.trans h.symm)
/-- a tree from the order of its making -/
theorem tree_of {t : List (Str × Str)} (h1 : 1 ≤ t.length) (h2 : t.length ≤ 12) (nd : (t.map Prod.fst).Nodup) (nm : ∀ z ∈ t.map Prod.fst, NameL z) (up : ∀ (i : Nat) (p : Str × Str), t[i]? = some p → p.2 = "" ∨ p.2 ∈ (t.map Prod.fst).take i) : TreeOk t := by
  refine ⟨h1, h2, nd, nm, fun a => (t.map Prod.fst).idxOf a, fun p hp => ?_⟩
  obtain ⟨i, hi⟩ := List.mem_iff_getElem?.mp hp
  have il := (List.getElem?_eq_some_iff.mp hi).1
  have hk : (t.map Prod.fst)[i]? = some p.1 := by rw [List.getElem?_map, hi] <;> rfl
  refine ⟨by show (t.map Prod.fst).idxOf p.1 < _; rw [idx_at nd hk]; exact il, (up i p hi).imp id fun m => ⟨List.mem_of_mem_take m, ?_⟩⟩
  show (t.map Prod.fst).idxOf p.2 < (t.map Prod.fst).idxOf p.1
  rw [idx_at nd hk]
  obtain ⟨j, hj⟩ := List.mem_iff_getElem?.mp m
  have jl := (List.getElem?_eq_some_iff.mp hj).1
  rw [List.length_take] at jl
  rw [List.getElem?_take, if_pos (by omega)] at hj
  rw [idx_at nd hj]
  omega
end FT


/-! dicts from texts to any values; lists by place in the heap. -/
namespace FT
open PySem L2 TL ClX
def tblV (l : List Str) (g : Str → V) : List (Key × V) := kvT (l.map fun a => (a, g a))
theorem tblV_int (l : List Str) (g : Str → Int) : tblI l g = tblV l fun a => .int (g a) := rfl
theorem tblV_len (l : List Str) (g : Str → V) : (tblV l g).length = l.length := by unfold tblV; rw [kvT_len, List.length_map]
theorem tblV_fst (l : List Str) (g : Str → V) : (l.map fun a => (a, g a)).map Prod.fst = l := by rw [List.map_map]; exact List.map_id _
theorem tblV_keys (l : List Str) (g : Str → V) : (tblV l g).map (·.1) = l.map Sum.inr := by unfold tblV kvT; rw [List.map_map, List.map_map] <;> rfl
theorem tblV_at {l : List Str} {g : Str → V} {i : Nat} {k : Key} {v : V} (h : (tblV l g)[i]? = some (k, v)) : ∃ a, l[i]? = some a ∧ k = Sum.inr a ∧ v = g a := by
  unfold tblV kvT at h
  rw [List.map_map, List.getElem?_map] at h
  obtain ⟨a, ha, e⟩ := Option.map_eq_some_iff.mp h
  cases e
  exact ⟨a, ha, rfl, rfl⟩
theorem tblV_val {l : List Str} {g : Str → V} {a : Str} (h : a ∈ l) : valV (tblV l g) (Sum.inr a) = some (g a) := by
  unfold tblV
  rw [kvT_val]
  induction l with
  | nil => cases h
  | cons b l ih =>
    rw [List.map_cons, look_cons]
    by_cases e : b = a
    · subst e
      exact if_pos rfl
    · rw [if_neg e]
      exact ih ((List.mem_cons.mp h).resolve_left fun z => e z.symm)
theorem tblV_none {l : List Str} {g : Str → V} {a : Str} (h : a ∉ l) : valV (tblV l g) (Sum.inr a) = none := by
  unfold tblV
  rw [kvT_val, look_none (by rw [tblV_fst]; exact h)]
theorem tblV_put {l : List Str} {g : Str → V} {a : Str} {z : V} (h : a ∈ l) : putK (tblV l g) (Sum.inr a) z = tblV l (fun p => if p = a then z else g p) := by
  unfold tblV
  rw [kvT_putT]
  unfold putT
  rw [if_pos (by rw [tblV_fst]; exact h), List.map_map]
  congr 1
  refine List.map_congr_left fun p _ => ?_
  show (if p = a then (p, z) else (p, g p)) = (p, if p = a then z else g p)
  by_cases e : p = a
  · rw [if_pos e, if_pos e]
  · rw [if_neg e, if_neg e]
theorem tblV_snoc {l : List Str} {g : Str → V} {a : Str} {z : V} (h : a ∉ l) (e : z = g a) : putK (tblV l g) (Sum.inr a) z = tblV (l ++ [a]) g := by
  unfold tblV
  rw [kvT_put (by rw [tblV_fst]; exact h), List.map_append, e] <;> rfl
theorem tblV_congr {l : List Str} {g g' : Str → V} (h : ∀ a ∈ l, g a = g' a) : tblV l g = tblV l g' := by
  unfold tblV
  rw [List.map_congr_left fun a ha => by rw [h a ha]]
theorem keys_tblV (l : List Str) (g : Str → V) : ((tblV l g).map fun kv => kV kv.1) = l.map V.str := by
  unfold tblV kvT
  rw [List.map_map, List.map_map] <;> rfl
theorem nat_fresh {l : List Str} {i : Nat} {a : Str} (nd : l.Nodup) (h : l[i]? = some a) : a ∉ l.take i := fun hm => by
  obtain ⟨j, hj⟩ := List.mem_iff_getElem?.mp hm
  have jl := (List.getElem?_eq_some_iff.mp hj).1
  rw [List.length_take] at jl
  rw [List.getElem?_take, if_pos (by omega)] at hj
  have := (List.getElem?_inj (by omega) nd).mp (hj.trans h.symm)
  omega
/-- lists by place: the dict at q, the list of p at r p -/
def LsAt (H : Hp) (q : Addr) (l : List Str) (r : Str → Addr) (L : Str → List Int) : Prop := H q = some (.dK (tblV l fun p => .ref (r p))) ∧ ∀ p ∈ l, H (r p) = some (.lst ((L p).map V.int))
theorem LsAt.mono {H H' : Hp} {q : Addr} {l : List Str} {r : Str → Addr} {L : Str → List Int} (s : Same H H') (h : LsAt H q l r L) : LsAt H' q l r L := ⟨s _ _ h.1, fun p hp => s _ _ (h.2 p hp)⟩
theorem LsAt.congr {H : Hp} {q : Addr} {l : List Str} {r : Str → Addr} {L L' : Str → List Int} (h : LsAt H q l r L) (e : ∀ p ∈ l, L p = L' p) : LsAt H q l r L' := ⟨h.1, fun p hp => by rw [h.2 p hp, e p hp]⟩
theorem LsAt.get {H : Hp} {q : Addr} {l : List Str} {r : Str → Addr} {L : Str → List Int} (h : LsAt H q l r L) {p : Str} (hp : p ∈ l) : DGet H q (.str p) (some (.ref (r p))) := by
  have z := DGet.k (k := Sum.inr p) h.1
  rw [tblV_val hp] at z
  exact z
end FT


/-! path_in, need_place, Forest.under, edges_at -/
namespace FT
open PySem L2 TL ClX
theorem Rd.same {H H' : Hp} {a : Addr} {u : HO} (s : Same H H') (h : Rd H a u) : Rd H' a u := h.imp (fun e => s _ _ e) fun ⟨o, e⟩ => ⟨o, s _ _ e⟩
theorem dget_prs {H : Hp} {q : Addr} {ts : List (Str × Str)} {a p : Str} (h : Rd H q (.dK (prs ts))) (e : par ts a = some p) : DGet H q (.str a) (some (.str p)) := .inl ⟨prs ts, Sum.inr a, h, rfl, by rw [val_prs, e] <;> rfl⟩
def spPathIn : Sp := fun vs H Q _ => ∃ (q : Addr) (ts : List (Str × Str)) (a : Str), vs = [.ref q, .str a] ∧ Rd H q (.dK (prs ts)) ∧ TreeOk ts ∧ Pl ts a ∧ ∀ p H', Same H H' → H p = none → H' p = some (.tup ((pathOf ts a).map V.str)) → Q (.ref p) H'
def spNeedPl (CF : Addr) : Sp := fun vs H Q _ => ∃ (x : Addr) (ts : List (Str × Str)) (a : Str), vs = [.ref x, .str a] ∧ FAt CF H x ts ∧ TreeOk ts ∧ Pl ts a ∧ Q .non H
def spUnder (CF : Addr) : Sp := fun vs H Q _ => ∃ (x : Addr) (ts : List (Str × Str)) (a : Str), vs = [.ref x, .str a] ∧ FAt CF H x ts ∧ TreeOk ts ∧ a ∈ ts.map Prod.fst ∧ ∀ p H', Same H H' → H p = none → H' p = some (.lst ((under ts a).map V.str)) → Q (.ref p) H'
def spEdgesAt (CF : Addr) : Sp := fun vs H Q _ => ∃ (x : Addr) (ts : List (Str × Str)) (a : Str), vs = [.ref x, .str a] ∧ FAt CF H x ts ∧ TreeOk ts ∧ Pl ts a ∧ ∀ p H', Same H H' → H p = none → H' p = some (.lst ((adj ts a).map V.str)) → Q (.ref p) H'
def pathLen (ts : List (Str × Str)) (σ : St) : Nat := match σ[1]? with
  | some (some (V.str a)) => (pathOf ts a).length
  | _ => 0
theorem filter_more {c : Str → Bool} {l : List Str} {i : Nat} {a : Str} (h : l[i]? = some a) : (l.take (i + 1)).filter c = (l.take i).filter c ++ if c a = true then [a] else [] := by
  rw [take_more h, List.filter_append, List.filter_cons, List.filter_nil]
section
variable {P : Program} {w : World} {K : PySem.W.Frag} {mg : Str → Option Value} {base : Heap}
abbrev NPi : List Str := ["above", "place", "path"]
theorem scPi : FnScope NPi ["above", "place"] (defScope s_path_in) := ⟨rfl, rfl, rfl, by decide +kernel, rfl, by decide +kernel, by decide +kernel⟩
theorem ok_pathIn {f : Addr} {fd : FuncData} (F : Fun K "path_in" "path_in" s_path_in f fd) (T : Nm mg) : FnOk P w K mg base CX0 1 f fd ["above", "place"] spPathIn := by
  refine F.ok scPi (fun vs H Q E h => ?_) (fun cdv A outer s H vs Q E hr h => ?_)
  · obtain ⟨q, ts, a, rfl, _⟩ := h
    rfl
  · obtain ⟨q, ts, a0, rfl, hq, o, pl0, k⟩ := h
    have hu := hu_of hr
    have nd := scPi.nd
    have big : 1000 ≤ sizeLine := by decide
    have few := o.few
    refine ⟨_, pss_cons (ps_set (i := 2) nd rfl (.inl rfl) (pe_lst pa_nil))
      (pss_cons (ps_while PassesOwn.never (pt_cmpR op_ne (pv 1) pe_str (nomark _))
        (pss_cons (ps_expr (pe_bm PySem.F.plainAttrs_list PySem.F.slot_list_append PySem.F.type_list_append mt_append (pv 2) (pa_cons (pv 1) pa_nil)))
        (pss_one (ps_set (i := 1) nd rfl (.inl rfl) (pe_dget hu (pv 0) (pv 1) (fun _ _ => rfl))))))
      (pss_one (ps_ret (pe_tupleOf (by rfl) T.tup (pe_revL (pv 2)))))), ?_⟩
    refine ⟨by show 0 ≤ sizeLine; omega, fun l nl => ?_⟩
    refine while_by (fun σ H' => ∃ (a : Str) (ws : List Str), σ = [some (.ref q), some (.str a), some (.ref l)] ∧ H' l = some (.lst (ws.map V.str)) ∧ Same H H' ∧ Pl ts a ∧ pathOf ts a0 = pathOf ts a ++ ws.reverse) (fun σ _ => pathLen ts σ)
      ⟨a0, [], rfl, upd_same, same_new nl, pl0, by rw [List.reverse_nil, List.append_nil]⟩ ?_ ?_
    · rintro σ Hx ⟨a, ws, rfl, hl, sm, pl, ep⟩
      have len := congrArg List.length ep
      have le := path_len ts a0
      rw [List.length_append, List.length_reverse] at len
      refine ⟨_, rfl, rfl, _, rfl, ?_⟩
      by_cases e : a = ""
      · rw [decide_eq_true (show V.str a = V.str "" by rw [e])]
        refine iteF ?_
        rw [e, path_root, List.nil_append] at ep
        refine ⟨_, rfl, l, _, rfl, SqL.of hl, fun p1 n1 => .inl ⟨p1, _, rfl, SqL.of upd_same, fun p2 n2 => ?_⟩⟩
        refine k p2 _ ((sm.trans (same_new n1)).trans (same_new n2)) ((sm.trans (same_new n1)).free n2) ?_
        rw [upd_same, ep, List.map_reverse]
      · rw [decide_eq_false (show ¬ V.str a = V.str "" from fun z => e (V.str.inj z))]
        show if true = true then _ else _
        rw [if_pos rfl]
        have fl := pl.resolve_left e
        obtain ⟨pa, hp⟩ := par_some o.nd fl
        have st := path_step o fl hp
        refine ⟨_, rfl, .inl ⟨rfl, _, SqL.of hl⟩, _, rfl, l, _, _, rfl, rfl, hl, by rw [List.length_map]; omega, ?_⟩
        refine ⟨_, rfl, _, rfl, q, V.str pa, rfl, dget_prs ?_ hp, ?_⟩
        · have ql : q ≠ l := by
            intro z
            rcases hq with hq | ⟨oo, hq⟩ <;> (rw [z, nl] at hq; cases hq)
          have hq' := Rd.same sm hq
          rcases hq' with h | ⟨oo, h⟩
          · exact .inl (by rw [upd_ne ql]; exact h)
          · exact .inr ⟨oo, by rw [upd_ne ql]; exact h⟩
        · refine ⟨⟨pa, ws ++ [a], rfl, by rw [upd_same, List.map_append] <;> rfl, sm.put nl, par_pl o hp, ?_⟩, ?_⟩
          · rw [ep, st, List.reverse_append, List.append_assoc] <;> rfl
          · show (pathOf ts pa).length < (pathOf ts a).length
            rw [st, List.length_append]
            exact Nat.lt_succ_self _
    · exact fun σ H Q Q' hm ⟨v, e, e2, b, eb, z⟩ => ⟨v, e, e2, b, eb, hm _ _ z⟩
abbrev NNp : List Str := ["forest", "place"]
theorem scNp : FnScope NNp ["forest", "place"] (defScope s_need_place) := ⟨rfl, rfl, rfl, by decide +kernel, rfl, by decide +kernel, by decide +kernel⟩
theorem ok_needPl {f CF : Addr} {mc : Value} {fd : FuncData} (F : Fun K "need_place" "need_place" s_need_place f fd) (T : Nm mg) (O : FoC K CF) (Z : Fc K mg CF mc) : FnOk P w K mg base CX0 1 f fd ["forest", "place"] (spNeedPl CF) := by
  obtain ⟨ur, cr⟩ := Z.root
  refine F.ok scNp (fun vs H Q E h => ?_) (fun cdv A outer s H vs Q E hr h => ?_)
  · obtain ⟨x, ts, a, rfl, _⟩ := h
    rfl
  · obtain ⟨x, ts, a, rfl, fa, o, pl, k⟩ := h
    have hu := hu_of hr
    refine ⟨_, pss_one (ps_if (PW.pt (pw_or (pt_not (pt_val (pe_callB call_isi (by rfl) T.isi (by decide +kernel) (pa_cons (pv 1) (pa_cons (pe_bltn (v := .ty "str") (u := .type "str") (by rfl) T.str (by decide +kernel) rfl) pa_nil)))))
          (pw_or1 (PW.pt (pw_and (pt_cmpR op_ne (pv 1) (pe_cval (pe_glob (v := .ref CF) (by rfl) Z.gF rfl)) (nomark _)) (pw_and1 (pt_cmp (pc_dnotin hu (pv 1) (pe_fld (pv 0) rfl))))))))) pss_never pss_nil), ?_⟩
    obtain ⟨dx, dq, hx, hd⟩ := id fa
    refine ⟨_, rfl, .str a, _, _, _, true, rfl, .ty _, .base (.str a), kit_ty (by decide +kernel), true, rfl, ?_⟩
    refine iteF ?_
    refine ⟨_, rfl, CF, mc, _, ur, rfl, Z.rd, cr, rfl, _, rfl, ?_⟩
    by_cases e : a = ""
    · rw [decide_eq_true (show V.str a = V.str "" by rw [e])]
      refine iteF ?_
      exact iteF k
    · rw [decide_eq_false (show ¬ V.str a = V.str "" from fun z => e (V.str.inj z))]
      show if true = true then _ else _
      rw [if_pos rfl]
      obtain ⟨pa, hp⟩ := par_some o.nd (pl.resolve_left e)
      refine ⟨_, rfl, _, rfl, x, CF, dx, _, .ref dq, rfl, hx, O.cl, O.nA, rfl, dq, _, rfl, dget_prs (.inl hd) hp, _, rfl, ?_⟩
      exact iteF k
abbrev NUn : List Str := ["self", "place", "name"]
theorem scUn : FnScope NUn ["self", "place"] (defScope s_Forest_under) := ⟨rfl, rfl, rfl, by decide +kernel, rfl, by decide +kernel, by decide +kernel⟩
theorem ok_under {f fN fP CF : Addr} {mc : Value} {fd fdN fdP : FuncData} (F : Fun K "under" "Forest.under" s_Forest_under f fd) (T : Nm mg) (O : FoC K CF) (Z : Fc K mg CF mc) (DN : Dn P w K mg base CX0 1 "need_place" ["forest", "place"] (spNeedPl CF) fN fdN) (DP : Dn P w K mg base CX0 1 "path_in" ["above", "place"] spPathIn fP fdP) :
    FnOk P w K mg base CX0 2 f fd ["self", "place"] (spUnder CF) := by
  obtain ⟨ur, cr⟩ := Z.root
  refine F.ok scUn (fun vs H Q E h => ?_) (fun cdv A outer s H vs Q E hr h => ?_)
  · obtain ⟨x, ts, a, rfl, _⟩ := h
    rfl
  · obtain ⟨x, ts, a, rfl, fa, o, ma, k⟩ := h
    have hu := hu_of hr
    have nd := scUn.nd
    have big : 1000 ≤ sizeLine := by decide
    have few := o.few
    refine ⟨_, pss_cons (ps_expr (pe_call DN.ok hr rfl DN.mgn DN.kp DN.bn .nil pass0 (pa_cons (pv 0) (pa_cons (pv 1) pa_nil))))
      (pss_cons (ps_if (pt_cmpR op_eq (pv 1) (pe_cval (pe_glob (v := .ref CF) (by rfl) Z.gF rfl)) (nomark _)) pss_never pss_nil)
      (pss_one (ps_ret (pe_lock (pe_lc (own := [("name", 2)]) (g := gName 2) (tt := tTest (tOp (rIn K false) (tVar 1) (tCall spPathIn [] E0 (tCons (tFld K (tVar 0) "above") (tCons (tVar 2) tNil))))) (te := tVar 2) rfl nd (pi_keys (pe_fld (pv 0) rfl))
        (blkOk_by (N := NUn) (sc := defScope s_Forest_under) (by decide +kernel)) (fun _ _ _ _ _ => pg_name (i := 2) nd rfl (Or.inl rfl))
        (fun _ _ _ _ _ => pts_one (pt_cmpR op_in_seq (pv 1) (pe_call DP.ok hr rfl DP.mgn DP.kp DP.bn .nil pass0 (pa_cons (pe_fld (pv 0) rfl) (pa_cons (pv 2) pa_nil))) rfl)) (fun _ _ _ _ _ => pv 2)))))), ?_⟩
    obtain ⟨dx, dq, hx, hd⟩ := id fa
    refine ⟨_, rfl, _, rfl, x, ts, a, rfl, fa, o, .inr ma, ?_⟩
    have na : ¬ V.str a = V.str "" := fun z => o.root (by rw [← V.str.inj z]; exact ma)
    refine ⟨_, rfl, CF, mc, _, ur, rfl, Z.rd, cr, rfl, _, rfl, ?_⟩
    rw [decide_eq_false na]
    refine iteF ?_
    refine ⟨dq, .dK (prs ts), hd, trivial, fun od => ⟨_, rfl, x, CF, dx, _, .ref dq, rfl, by rw [upd_ne (ne_of hx hd (by intro z; cases z))]; exact hx, O.cl, O.nA, rfl, dq, od, rfl, .inl ⟨prs ts, upd_same, fun D nD => ?_⟩⟩⟩
    have hx1 : (upd H dq (.frz od (.dK (prs ts)))) x = some (.ins CF dx [("above", .ref dq)]) := by rw [upd_ne (ne_of hx hd (by intro z; cases z))]; exact hx
    have Dq : D ≠ dq := (ne_of_none upd_same nD).symm
    refine lc_it walk_keys (fun i H' => Same (upd H dq (.frz od (.dK (prs ts)))) H' ∧ H' D = some (.lst ((((ts.map Prod.fst).take i).filter fun b => decide (a ∈ pathOf ts b)).map V.str))) ⟨same_new nD, upd_same⟩ (fun i H' _ z => z.1 _ _ upd_same) ?_ ?_
    · intro i y Ha Hb hi ⟨q1, q2⟩ ⟨eb, kk, vv, hk, ey⟩
      subst eb
      subst ey
      obtain ⟨⟨b, pb⟩, hp, ee⟩ : ∃ z : Str × Str, ts[i]? = some z ∧ (kk, vv) = (Sum.inr z.1, V.str z.2) := by
        unfold prs kvT at hk
        rw [List.map_map, List.getElem?_map] at hk
        obtain ⟨z, hz, e⟩ := Option.map_eq_some_iff.mp hk
        exact ⟨z, hz, e.symm⟩
      cases ee
      rw [show kV (Sum.inr b) = V.str b from rfl]
      have hb : (ts.map Prod.fst)[i]? = some b := by rw [List.getElem?_map, hp] <;> rfl
      have mb := List.mem_of_getElem? hb
      have il := (List.getElem?_eq_some_iff.mp hp).1
      refine ⟨rfl, ?_⟩
      refine ⟨_, rfl, _, rfl, x, CF, dx, _, .ref dq, rfl, q1 _ _ hx1, O.cl, O.nA, rfl, _, rfl, dq, ts, b, rfl, .inr ⟨od, q1 _ _ upd_same⟩, o, .inr mb, fun p H' s' np hp' => ?_⟩
      refine ⟨p, _, rfl, .inr (.inl (.inl hp')), rfl, flat_strs _, _, rfl, ?_⟩
      rw [show (if false = true then !inV (V.str a) ((pathOf ts b).map V.str) else inV (V.str a) ((pathOf ts b).map V.str)) = decide (a ∈ pathOf ts b) from inV_strs a _]
      have more := filter_more (c := fun b => decide (a ∈ pathOf ts b)) hb
      have lf := List.length_filter_le (fun b => decide (a ∈ pathOf ts b)) ((ts.map Prod.fst).take i)
      rw [List.length_take] at lf
      refine ite2 (fun yes => ?_) (fun no => ?_)
      · have yes : decide (a ∈ pathOf ts b) = true := yes
        rw [if_pos yes] at more
        refine ⟨_, rfl, _, s' _ _ q2, by rw [List.length_map]; omega, (q1.trans s').put nD, by rw [upd_same, more, List.map_append] <;> rfl⟩
      · have no : ¬ decide (a ∈ pathOf ts b) = true := no
        rw [if_neg no, List.append_nil] at more
        exact ⟨q1.trans s', by rw [more]; exact s' _ _ q2⟩
    · intro H' ⟨q1, q2⟩
      rw [prs_len, ← List.length_map (f := Prod.fst) (as := ts), List.take_length] at q2
      exact ⟨q1 _ _ upd_same, k D _ (unlock_same hd q1) (by rw [upd_ne Dq] at nD; exact nD) (by rw [upd_ne Dq]; exact q2)⟩
end
end FT


/-! lists of texts as data, for == and !=. -/
namespace FT
open PySem L2 TL
theorem dps_strs {K : PySem.W.Frag} {H : Hp} : ∀ ts : List Str, DpAll K H (ts.map V.str) (ts.map PyData.str)
  | [] => .nil
  | t :: ts => .cons (.str t) (dps_strs ts)
theorem strs_lay : ∀ {ts : List Str}, (∀ t ∈ ts, PyData.strOk t = true) → PyData.canLayAll0 (ts.map PyData.str) = true ∧ PyData.depthAll (ts.map PyData.str) ≤ 0
  | [], _ => ⟨rfl, Nat.le_refl _⟩
  | t :: ts, h => by
    obtain ⟨h1, h2⟩ := strs_lay (ts := ts) fun b hb => h b (List.mem_cons_of_mem _ hb)
    constructor
    · show (PyData.strOk t && PyData.canLayAll0 (ts.map PyData.str)) = true
      rw [h t (List.mem_cons_self ..), h1] <;> rfl
    · show max 0 (PyData.depthAll (ts.map PyData.str)) ≤ 0
      omega
theorem strs_shaped {ts : List Str} (h : ∀ t ∈ ts, PyData.strOk t = true) : SeqAt.shaped (.list (ts.map PyData.str)) = true := by
  obtain ⟨h1, h2⟩ := strs_lay h
  unfold SeqAt.shaped
  have c : (PyData.list (ts.map PyData.str)).canLay0 = true := h1
  rw [c]
  have d : (PyData.list (ts.map PyData.str)).depth ≤ 64 := by
    show PyData.depthAll (ts.map PyData.str) + 1 ≤ 64
    omega
  rw [decide_eq_true d] <;> rfl
end FT


/-! edges_at, edge_order -/
namespace FT
open PySem L2 TL ClX LiI
theorem mem_crs {ts : List (Str × Str)} {c : Str → Int} {e : Str × Str × Int} : e ∈ crs c ts ↔ ∃ q ∈ ts, (0 < c q.1 ∧ e = (q.2, q.1, c q.1)) ∨ (c q.1 < 0 ∧ e = (q.1, q.2, - c q.1)) := by
  unfold crs
  rw [List.mem_flatMap]
  refine exists_congr fun q => and_congr .rfl ?_
  by_cases h1 : 0 < c q.1
  · rw [if_pos h1, List.mem_singleton]
    exact ⟨fun h => .inl ⟨h1, h⟩, fun h => h.elim And.right fun z => by have := z.1; omega⟩
  · rw [if_neg h1]
    by_cases h2 : c q.1 < 0
    · rw [if_pos h2, List.mem_singleton]
      exact ⟨fun h => .inr ⟨h2, h⟩, fun h => h.elim (fun z => absurd z.1 h1) And.right⟩
    · rw [if_neg h2]
      exact ⟨(fun h => by cases h), fun h => h.elim (fun z => absurd z.1 h1) fun z => absurd z.1 h2⟩
theorem crs_lv {ts : List (Str × Str)} (o : TreeOk ts) {c : Str → Int} {s g : Str} {a : Int} (h : (s, g, a) ∈ crs c ts) : a = (lv ts c s g : Int) ∧ 0 < lv ts c s g := by
  obtain ⟨⟨f, p⟩, hq, ⟨pos, e⟩ | ⟨neg, e⟩⟩ := mem_crs.mp h
  · cases e
    have hp := par_of o.nd hq
    have pos : 0 < c f := pos
    have : lv ts c p f = (c f).toNat := by
      unfold lv
      rw [if_pos ⟨hp, pos⟩]
    show c f = (lv ts c p f : Int) ∧ 0 < lv ts c p f
    omega
  · cases e
    have hp := par_of o.nd hq
    have neg : c f < 0 := neg
    have n : ¬ par ts p = some f := fun z => par_once o hp z
    have : lv ts c f p = (- c f).toNat := by
      unfold lv
      rw [if_neg fun z => n z.1, if_pos ⟨hp, neg⟩]
    show - c f = (lv ts c f p : Int) ∧ 0 < lv ts c f p
    omega
theorem lv_crs {ts : List (Str × Str)} (o : TreeOk ts) {c : Str → Int} {s g : Str} (h : 0 < lv ts c s g) : (s, g, (lv ts c s g : Int)) ∈ crs c ts := by
  have m : ∃ a, (s, g, a) ∈ crs c ts := by
    obtain ⟨_, _, _, ⟨e, pos⟩ | ⟨e, neg⟩⟩ := lv_adj o h
    · exact ⟨c g, mem_crs.mpr ⟨_, par_mem e, .inl ⟨pos, rfl⟩⟩⟩
    · exact ⟨- c s, mem_crs.mpr ⟨_, par_mem e, .inr ⟨neg, rfl⟩⟩⟩
  obtain ⟨a, m⟩ := m
  rw [← (crs_lv o m).1]
  exact m
theorem min_mem (f : Str → Nat) : ∀ {l : List Str}, l ≠ [] → ∃ p ∈ l, ∀ q ∈ l, f p ≤ f q
  | [], h => absurd rfl h
  | [a], _ => ⟨a, List.mem_cons_self .., fun q hq => by rw [List.mem_singleton.mp hq]; exact Nat.le_refl _⟩
  | a :: b :: l, _ => by
    obtain ⟨p, hp, h⟩ := min_mem f (l := b :: l) (by simp)
    by_cases e : f a ≤ f p
    · refine ⟨a, List.mem_cons_self .., fun q hq => ?_⟩
      rcases List.mem_cons.mp hq with rfl | hq
      · exact Nat.le_refl _
      · exact Nat.le_trans e (h q hq)
    · refine ⟨p, List.mem_cons_of_mem _ hp, fun q hq => ?_⟩
      rcases List.mem_cons.mp hq with rfl | hq
      · omega
      · exact h q hq
/-- each place behind all from which users move to it -/
def Topo (ts : List (Str × Str)) (c : Str → Int) (ds : List Str) : Prop := ∀ (i : Nat) (p : Str), ds[i]? = some p → ∀ q, 0 < lv ts c q p → q ∈ ds.take i
def spEdgeOrder (CF : Addr) : Sp := fun vs H Q _ => ∃ (x q : Addr) (ts : List (Str × Str)) (c : Str → Int), vs = [.ref x, .ref q] ∧ FAt CF H x ts ∧ TreeOk ts ∧ H q = some (.dK (tblI (ts.map Prod.fst) c)) ∧
  ∀ (p : Addr) (ds : List Str) (H' : Hp), Same H H' → H p = none → ds.Perm (pls ts) → Topo ts c ds → H' p = some (.lst (ds.map V.str)) → Q (.ref p) H'
/-- goals of the edges from places that are left -/
def waitL (es : List (Str × Str × Int)) (rest : List Str) : List Str := (es.filter fun e => decide (e.1 ∈ rest)).map fun e => e.2.1
theorem waitL_more {es : List (Str × Str × Int)} {i : Nat} {e : Str × Str × Int} (rest : List Str) (h : es[i]? = some e) : waitL (es.take (i + 1)) rest = waitL (es.take i) rest ++ if e.1 ∈ rest then [e.2.1] else [] := by
  unfold waitL
  rw [take_more h, List.filter_append, List.map_append, List.filter_cons, List.filter_nil]
  by_cases m : e.1 ∈ rest
  · rw [if_pos m, if_pos (decide_eq_true m)] <;> rfl
  · rw [if_neg m, if_neg (by rw [decide_eq_false m]; decide)] <;> rfl
section
variable {P : Program} {w : World} {K : PySem.W.Frag} {mg : Str → Option Value} {base : Heap}
abbrev NEa : List Str := ["forest", "place", "above", "name"]
theorem scEa : FnScope NEa ["forest", "place"] (defScope s_edges_at) := ⟨rfl, rfl, rfl, by decide +kernel, rfl, by decide +kernel, by decide +kernel⟩
theorem ok_edgesAt {f CF p1 g1 : Addr} {mc : Value} {fd fd1 : FuncData} (F : Fun K "edges_at" "edges_at" s_edges_at f fd) (O : FoC K CF) (Z : Fc K mg CF mc) (L1 : Pr1 P w K mg base CF "flags" (spFFlags CF) p1 g1 fd1) : FnOk P w K mg base CX0 3 f fd ["forest", "place"] (spEdgesAt CF) := by
  obtain ⟨ur, cr⟩ := Z.root
  refine F.ok scEa (fun vs H Q E h => ?_) (fun cdv A outer s H vs Q E hr h => ?_)
  · obtain ⟨x, ts, a, rfl, _⟩ := h
    rfl
  · obtain ⟨x, ts, a, rfl, fa, o, pl, k⟩ := h
    have hu := hu_of hr
    have nd := scEa.nd
    have big : 1000 ≤ sizeLine := by decide
    have few := o.few
    refine ⟨_, pss_cons (ps_set (i := 2) nd rfl (.inl rfl) (pe_ifExp (pt_cmpR op_eq (pv 1) (pe_cval (pe_glob (v := .ref CF) (by rfl) Z.gF rfl)) (nomark _)) (pe_lst pa_nil) (pe_lst (pa_cons (pe_dget hu (pe_fld (pv 0) rfl) (pv 1) (fun _ _ => rfl)) pa_nil))))
      (pss_one (ps_ret (pe_op op_cat (pv 2) (pe_lc (own := [("name", 3)]) (g := gName 3) (tt := tTest (tOp rEq (tDGet (tFld K (tVar 0) "above") (tVar 3)) (tVar 1))) (te := tVar 3) rfl nd (pi_list (pe_prop (pv 0) O.cl L1.pr L1.fn hr L1.bn .nil pass0 (by rfl)))
        (blkOk_by (N := NEa) (sc := defScope s_edges_at) (by decide +kernel)) (fun _ _ _ _ _ => pg_name (i := 3) nd rfl (Or.inl rfl))
        (fun _ _ _ _ _ => pts_one (pt_cmpR op_eq (pe_dget hu (pe_fld (pv 0) rfl) (pv 3) (fun _ _ => rfl)) (pv 1) (nomark _))) (fun _ _ _ _ _ => pv 3))))), ?_⟩
    obtain ⟨dx, dq, hx, hd⟩ := id fa
    -- the rest, from the first list on
    have rest : ∀ (l0 : Addr) (H1 : Hp) (up : List Str), Same H H1 → H1 l0 = some (.lst (up.map V.str)) → up.length ≤ 1 → adj ts a = up ++ kids ts a → H l0 = none →
        (tOp rCat (tVar 2) (tLc (iList K (tProp CF (spFFlags CF) [] E0 (tVar 0))) (gName 3) (tTest (tOp rEq (tDGet (tFld K (tVar 0) "above") (tVar 3)) (tVar 1))) (tVar 3) [3])) [some (.ref x), some (.str a), some (.ref l0), none] H1 fun v H' => Q v H' := by
      intro l0 H1 up s1 a1 lu ea nl0
      refine ⟨_, rfl, _, rfl, x, dx, _, rfl, s1 _ _ hx, x, ts, rfl, fa.mono s1, fun pf nf => ⟨pf, rfl, ⟨_, SqL.of upd_same⟩, fun D nD => ?_⟩⟩
      obtain ⟨H2, e2⟩ : ∃ X, X = upd H1 pf (.lst ((ts.map Prod.fst).map V.str)) := ⟨_, rfl⟩
      have s12 : Same H1 H2 := e2 ▸ same_new nf
      have a2 : H2 pf = some (.lst ((ts.map Prod.fst).map V.str)) := by rw [e2]; exact upd_same
      rw [← e2] at nD ⊢
      have s2 := s1.trans s12
      refine lc_it walk_list (fun i H' => Same H2 H' ∧ H' D = some (.lst ((kids (ts.take i) a).map V.str))) ⟨same_new nD, upd_same⟩ (fun i H' _ z => SqL.of (z.1 _ _ a2)) ?_ ?_
      · intro i y Ha Hb hi ⟨q1, q2⟩ ⟨eb, ex⟩
        subst eb
        obtain ⟨b, hb, rfl⟩ := map_of ex
        obtain ⟨⟨b', pb⟩, hp, rfl⟩ := Option.map_eq_some_iff.mp (show (ts[i]?).map Prod.fst = some b by rw [← List.getElem?_map]; exact hb)
        have ep := par_of o.nd (List.mem_of_getElem? hp)
        have s0 := s2.trans q1
        have more := kids_snoc (ts.take i) (b', pb) a
        rw [← take_more hp] at more
        have kl : (kids (ts.take i) a).length ≤ 12 := by
          unfold kids
          rw [List.length_map]
          have := List.length_filter_le (fun q : Str × Str => decide (q.2 = a)) (ts.take i)
          rw [List.length_take] at this
          omega
        refine ⟨rfl, ?_⟩
        refine ⟨_, rfl, x, CF, dx, _, .ref dq, rfl, s0 _ _ hx, O.cl, O.nA, rfl, _, rfl, dq, .str pb, rfl, dget_prs (.inl (s0 _ _ hd)) ep, _, rfl, rfl, _, rfl, ?_⟩
        by_cases e : pb = a
        · rw [decide_eq_true (show V.str pb = V.str a by rw [e])]
          rw [if_pos e] at more
          show if true = true then _ else _
          rw [if_pos rfl]
          exact ⟨_, rfl, _, q2, by rw [List.length_map]; omega, Same.put q1 nD, by rw [upd_same, more, List.map_append] <;> rfl⟩
        · rw [decide_eq_false (show ¬ V.str pb = V.str a from fun z => e (V.str.inj z))]
          rw [if_neg e, List.append_nil] at more
          exact iteF ⟨q1, by rw [more]; exact q2⟩
      · intro H3 ⟨q1, q2⟩
        rw [List.length_map, List.length_map, List.take_length] at q2
        have kl : (kids ts a).length ≤ 12 := by
          unfold kids
          rw [List.length_map]
          have := List.length_filter_le (fun q : Str × Str => decide (q.2 = a)) ts
          omega
        refine ⟨l0, D, _, _, rfl, rfl, q1 _ _ (s12 _ _ a1), q2, by rw [List.length_map, List.length_map]; omega, fun p np => ?_⟩
        exact k p _ ((s2.trans q1).trans (same_new np)) ((s2.trans q1).free np) (by rw [upd_same, ea, List.map_append])
    refine ⟨_, rfl, CF, mc, _, ur, rfl, Z.rd, cr, rfl, _, rfl, ?_⟩
    by_cases e : a = ""
    · rw [decide_eq_true (show V.str a = V.str "" by rw [e])]
      refine iteT ⟨by show 0 ≤ sizeLine; omega, fun l0 nl => ?_⟩
      exact rest l0 _ [] (same_new nl) upd_same (Nat.zero_le _) (by unfold adj; rw [if_pos e]) nl
    · rw [decide_eq_false (show ¬ V.str a = V.str "" from fun z => e (V.str.inj z))]
      obtain ⟨pa, hp⟩ := par_some o.nd (pl.resolve_left e)
      refine iteF ⟨_, rfl, x, CF, dx, _, .ref dq, rfl, hx, O.cl, O.nA, rfl, _, rfl, dq, .str pa, rfl, dget_prs (.inl hd) hp, by show 1 ≤ sizeLine; omega, fun l0 nl => ?_⟩
      exact rest l0 _ [pa] (same_new nl) upd_same (Nat.le_refl _) (by unfold adj; rw [if_neg e, hp] <;> rfl) nl
abbrev NEo : List Str := ["forest", "changed", "edges", "found", "left", "place", "waiting", "goal", "amount"]
theorem scEo : FnScope NEo ["forest", "changed"] (defScope s_edge_order) := ⟨rfl, rfl, rfl, by decide +kernel, rfl, by decide +kernel, by decide +kernel⟩
theorem ok_edgeOrder {f fC fP CF : Addr} {fd fdC fdP : FuncData} (F : Fun K "edge_order" "edge_order" s_edge_order f fd) (DC : Dn P w K mg base CX0 3 "crossings" ["forest", "changed"] (spCross CF) fC fdC) (DP : Dn P w K mg base CX0 3 "places_of" ["forest"] (spPlacesOf CF) fP fdP) : FnOk P w K mg base CX0 4 f fd ["forest", "changed"] (spEdgeOrder CF) := by
  refine F.ok scEo (fun vs H Q E h => ?_) (fun cdv A outer s H vs Q E hr h => ?_)
  · obtain ⟨x, q, ts, c, rfl, _⟩ := h
    rfl
  · obtain ⟨x, q, ts, c, rfl, fa, o, hq, k⟩ := h
    have nd := scEo.nd
    have big : 1000 ≤ sizeLine := by decide
    have few := o.few
    refine ⟨_, pss_cons (ps_set (i := 2) nd rfl (.inl rfl) (pe_call DC.ok hr rfl DC.mgn DC.kp DC.bn .nil pass0 (pa_cons (pv 0) (pa_cons (pv 1) pa_nil))))
      (pss_cons (ps_asg (pe_tup (pa_cons (pe_lst pa_nil) (pa_cons (pe_call DP.ok hr rfl DP.mgn DP.kp DP.bn .nil pass0 (pa_cons (pv 0) pa_nil)) pa_nil))) (pg_tup rfl (pgs_cons (pg_name (i := 3) nd rfl (.inl rfl)) (pgs_cons (pg_name (i := 4) nd rfl (.inr rfl)) pgs_nil))))
      (pss_cons (ps_while PassesOwn.never (pt_cmpR (op_neD hr.units) (pv 4) (pe_lst pa_nil) (nomark _))
        (pss_cons (ps_set (i := 6) nd rfl (.inr rfl) (pe_lc (own := [("place", 5), ("goal", 7), ("amount", 8)]) (g := gTup K 3 (gCons (gName 5) (gCons (gName 7) (gCons (gName 8) gNil)))) (tt := tTest (tOp (rIn K false) (tVar 5) (tVar 4))) (te := tVar 7) rfl nd (pi_list (pv 2))
          (blkOk_by (N := NEo) (sc := defScope s_edge_order) (by decide +kernel)) (fun _ _ _ _ _ => pg_tup rfl (pgs_cons (pg_name (i := 5) nd rfl (Or.inl rfl)) (pgs_cons (pg_name (i := 7) nd rfl (Or.inl rfl)) (pgs_cons (pg_name (i := 8) nd rfl (Or.inl rfl)) pgs_nil))))
          (fun _ _ _ _ _ => pts_one (pt_cmpR op_in_seq (pv 5) (pv 4) rfl)) (fun _ _ _ _ _ => pv 7)))
        (pss_cons (ps_set (i := 5) nd rfl (.inl rfl) (pe_ix ix_list (pe_lc (own := [("place", 5)]) (g := gName 5) (tt := tTest (tOp (rIn K true) (tVar 5) (tVar 6))) (te := tVar 5) rfl nd (pi_list (pv 4))
          (blkOk_by (N := NEo) (sc := defScope s_edge_order) (by decide +kernel)) (fun _ _ _ _ _ => pg_name (i := 5) nd rfl (Or.inl rfl))
          (fun _ _ _ _ _ => pts_one (pt_cmpR op_notIn_seq (pv 5) (pv 6) rfl)) (fun _ _ _ _ _ => pv 5)) pe_int (fun _ _ => rfl)))
        (pss_cons (ps_expr (pe_bm PySem.F.plainAttrs_list PySem.F.slot_list_append PySem.F.type_list_append mt_append (pv 3) (pa_cons (pv 5) pa_nil)))
        (pss_one (ps_expr (pe_bm PySem.F.plainAttrs_list PySem.F.slot_list_remove PySem.F.type_list_remove mt_removeS (pv 4) (pa_cons (pv 5) pa_nil))))))))
      (pss_one (ps_ret (pv 3))))), ?_⟩
    refine ⟨_, rfl, _, rfl, x, q, ts, c, rfl, fa, o, hq, fun e rs H1 s1 ne he ed => ?_⟩
    refine ⟨by show 0 ≤ sizeLine; omega, fun fl nfl => ?_⟩
    have s2 := same_new (o := .lst []) nfl
    refine ⟨_, rfl, x, ts, rfl, (fa.mono s1).mono s2, few, fun pl H3 s3 npl hpl => ⟨by show 2 ≤ sizeLine; omega, fun tp ntp => ⟨tp, _, rfl, .inl (.inl upd_same), rfl, ?_⟩⟩⟩
    obtain ⟨H4, e4⟩ : ∃ X, X = upd H3 tp (.tup [.ref fl, .ref pl]) := ⟨_, rfl⟩
    have s34 : Same H3 H4 := e4 ▸ same_new ntp
    rw [← e4]
    have s14 : Same H1 H4 := (s2.trans s3).trans s34
    have s04 := s1.trans s14
    have hfl4 : H4 fl = some (.lst []) := s34 _ _ (s3 _ _ upd_same)
    have hpl4 : H4 pl = some (.lst ((pls ts).map V.str)) := s34 _ _ hpl
    have he4 := s14 _ _ he
    have ed4 := EdG.mono s14 ed
    have pn := pls_nd o
    have pln := pls_len ts
    have flpl : pl ≠ fl := (ne_of_none (upd_same (H := H1) (a := fl) (o := .lst [])) npl).symm
    have fl0 : H fl = none := s1.free nfl
    have pl0 : H pl = none := s1.free (s2.free npl)
    have efl : e ≠ fl := ne_of_none he nfl
    have epl : e ≠ pl := ne_of_none (s2 _ _ he) npl
    refine ⟨_, _, rfl, _, _, rfl, rfl, ?_⟩
    refine while_by (fun σ H' => (∃ u5 u6, σ = [some (.ref x), some (.ref q), some (.ref e), some (.ref fl), some (.ref pl), u5, u6, none, none]) ∧ (∀ b u, b ≠ fl → b ≠ pl → H4 b = some u → H' b = some u) ∧
        ∃ ds rest : List Str, H' fl = some (.lst (ds.map V.str)) ∧ H' pl = some (.lst (rest.map V.str)) ∧ (ds ++ rest).Perm (pls ts) ∧ Topo ts c ds) (fun _ H' => many H' pl)
      ⟨⟨none, none, rfl⟩, fun _ _ _ _ z => z, [], pls ts, hfl4, hpl4, .refl _, fun i p h => by simp at h⟩ ?_ ?_
    · rintro σ H5 ⟨⟨u5, u6, rfl⟩, kp, ds, rest, hfl, hpl5, pm, tp⟩
      have lens := pm.length_eq
      rw [List.length_append] at lens
      have ndr : (ds ++ rest).Nodup := pm.nodup_iff.mpr pn
      refine ⟨_, rfl, by show 0 ≤ sizeLine; omega, fun z nz => ⟨_, _, .lst (SqL.of (by rw [upd_ne (ne_of_none hpl5 nz)]; exact hpl5)) (dps_strs rest), .lst (SqL.of upd_same) .nil, strs_shaped (fun t ht => ?_), rfl, ?_⟩⟩
      · rcases mem_pls.mp (pm.mem_iff.mp (List.mem_append_right _ ht)) with e0 | m
        · rw [e0]
          exact strOk_root
        · exact strOk_name (o.nm _ m)
      obtain ⟨H6, e6⟩ : ∃ X, X = upd H5 z (.lst []) := ⟨_, rfl⟩
      have s56 : Same H5 H6 := e6 ▸ same_new nz
      rw [← e6]
      refine ⟨_, rfl, ite2 (fun t => ?_) (fun t => ?_)⟩
      · have rne : rest ≠ [] := fun z => by rw [z] at t; cases t
        have he6 : H6 e = some (.lst (rs.map V.ref)) := s56 _ _ (kp _ _ efl epl he4)
        have ed6 : EdG H6 rs (crs c ts) := by
          have m : ∀ {rs : List Addr} {es : List (Str × Str × Int)}, EdG H4 rs es → EdG H6 rs es := by
            intro rs es ed
            induction ed with
            | nil => exact .nil
            | cons h _ ih => exact .cons (s56 _ _ (kp _ _ (ne_of h hfl4 (by intro z; cases z)) (ne_of h hpl4 (by intro z; cases z)) h)) ih
          exact m ed4
        have hpl6 := s56 _ _ hpl5
        have hfl6 := s56 _ _ hfl
        have cl := crs_len c ts
        have lr := ed6.len
        -- waiting
        refine ⟨_, rfl, e, rfl, ⟨_, SqL.of he6⟩, fun D1 nD1 => ?_⟩
        refine lc_it walk_list (fun i H' => Same H6 H' ∧ H' D1 = some (.lst ((waitL ((crs c ts).take i) rest).map V.str))) ⟨same_new nD1, upd_same⟩ (fun i H' _ z => SqL.of (z.1 _ _ he6)) ?_ ?_
        · intro i y Hc Hd hi ⟨q1, q2⟩ ⟨eb, ey⟩
          subst eb
          obtain ⟨r, hr0, rfl⟩ := map_of ey
          obtain ⟨e1, he1, hrb⟩ := ed6.at_ hr0
          have more := waitL_more rest he1
          have wl : (waitL ((crs c ts).take i) rest).length ≤ 12 := by
            unfold waitL
            rw [List.length_map]
            have := List.length_filter_le (fun e : Str × Str × Int => decide (e.1 ∈ rest)) ((crs c ts).take i)
            rw [List.length_take] at this
            omega
          refine ⟨r, [.str e1.1, .str e1.2.1, .int e1.2.2], rfl, .inl (.inl (q1 _ _ hrb)), rfl, _, _, rfl, _, _, rfl, _, _, rfl, rfl, rfl, ?_⟩
          refine ⟨_, rfl, _, rfl, pl, _, rfl, .inl (SqL.of (q1 _ _ hpl6)), rfl, flat_strs rest, _, rfl, ?_⟩
          rw [show (if false = true then !inV (V.str e1.1) (rest.map V.str) else inV (V.str e1.1) (rest.map V.str)) = decide (e1.1 ∈ rest) from inV_strs e1.1 rest]
          refine ite2 (fun yes => ?_) (fun no => ?_)
          · have yes : e1.1 ∈ rest := of_decide_eq_true yes
            rw [if_pos yes] at more
            exact ⟨_, rfl, _, q2, by rw [List.length_map]; omega, Same.put q1 nD1, by rw [upd_same, more, List.map_append] <;> rfl⟩
          · have no : ¬ e1.1 ∈ rest := fun z => no (decide_eq_true z)
            rw [if_neg no, List.append_nil] at more
            exact ⟨q1, by rw [more]; exact q2⟩
        intro H7 ⟨s67, hD1⟩
        rw [List.length_map, lr, List.take_length] at hD1
        obtain ⟨wt, ewt⟩ : ∃ wt, wt = waitL (crs c ts) rest := ⟨_, rfl⟩
        rw [← ewt] at hD1
        have hpl7 := s67 _ _ hpl6
        -- who waits for none
        refine ⟨_, rfl, pl, rfl, ⟨_, SqL.of hpl7⟩, fun D2 nD2 => ?_⟩
        refine lc_it walk_list (fun i H' => Same H7 H' ∧ H' D2 = some (.lst (((rest.take i).filter fun p => !decide (p ∈ wt)).map V.str))) ⟨same_new nD2, upd_same⟩ (fun i H' _ z => SqL.of (z.1 _ _ hpl7)) ?_ ?_
        · intro i y Hc Hd hi ⟨q1, q2⟩ ⟨eb, ey⟩
          subst eb
          obtain ⟨p, hp, rfl⟩ := map_of ey
          have more := filter_more (c := fun p => !decide (p ∈ wt)) hp
          have fl' := List.length_filter_le (fun p => !decide (p ∈ wt)) (rest.take i)
          rw [List.length_take] at fl'
          refine ⟨rfl, ?_⟩
          refine ⟨_, rfl, _, rfl, D1, _, rfl, .inl (SqL.of (q1 _ _ hD1)), rfl, flat_strs wt, _, rfl, ?_⟩
          rw [show (if true = true then !inV (V.str p) (wt.map V.str) else inV (V.str p) (wt.map V.str)) = !decide (p ∈ wt) from congrArg not (inV_strs p wt)]
          refine ite2 (fun yes => ?_) (fun no => ?_)
          · have yes : (!decide (p ∈ wt)) = true := yes
            rw [if_pos yes] at more
            exact ⟨_, rfl, _, q2, by rw [List.length_map]; omega, Same.put q1 nD2, by rw [upd_same, more, List.map_append] <;> rfl⟩
          · have no : ¬ (!decide (p ∈ wt)) = true := no
            rw [if_neg no, List.append_nil] at more
            exact ⟨q1, by rw [more]; exact q2⟩
        intro H8 ⟨s78, hD2⟩
        rw [List.length_map, List.take_length] at hD2
        -- one is free
        obtain ⟨cand, ec⟩ : ∃ cand, cand = rest.filter fun p => !decide (p ∈ wt) := ⟨_, rfl⟩
        rw [← ec] at hD2
        have free : ∀ p, p ∈ cand ↔ p ∈ rest ∧ p ∉ wt := fun p => by
          rw [ec, List.mem_filter, Bool.not_eq_true', decide_eq_false_iff_not]
        have wtm : ∀ p, p ∈ wt → ∃ s, s ∈ rest ∧ 0 < lv ts c s p := fun p hp => by
          rw [ewt] at hp
          unfold waitL at hp
          obtain ⟨⟨s, g, a⟩, h1, rfl⟩ := List.mem_map.mp hp
          obtain ⟨h2, h3⟩ := List.mem_filter.mp h1
          exact ⟨s, of_decide_eq_true h3, (crs_lv o h2).2⟩
        have ne : cand ≠ [] := by
          obtain ⟨p, hp, mn⟩ := min_mem (lvl ts c) rne
          refine List.ne_nil_of_mem ((free p).mpr ⟨hp, fun hw => ?_⟩)
          obtain ⟨s, hs, pos⟩ := wtm p hw
          have := lvl_up o pos
          have := mn s hs
          omega
        obtain ⟨p, cs, ecs⟩ := List.exists_cons_of_ne_nil ne
        have pc := (free p).mp (by rw [ecs]; exact List.mem_cons_self ..)
        rw [ecs] at hD2
        refine ⟨D2, _, 0, .str p, rfl, rfl, SqL.of hD2, atI_nat (xs := (p :: cs).map V.str) (j := 0) (v := .str p) rfl, ?_⟩
        have s58 : Same H5 H8 := (s56.trans s67).trans s78
        refine ⟨_, rfl, .inl ⟨rfl, _, SqL.of (s58 _ _ hfl)⟩, _, rfl, fl, _, _, rfl, rfl, s58 _ _ hfl, by rw [List.length_map]; omega, ?_⟩
        obtain ⟨j, hj, ej⟩ := List.mem_iff_getElem.mp pc.1
        have ej' : rest[j]? = some p := List.getElem?_eq_some_iff.mpr ⟨hj, ej⟩
        have nrest : rest.Nodup := (List.nodup_append.mp ndr).2.1
        refine ⟨_, rfl, .inl ⟨rfl, _, SqL.of (by rw [upd_ne flpl]; exact s58 _ _ hpl5)⟩, _, rfl, pl, rest, p, j, rfl, rfl, by rw [upd_ne flpl]; exact s58 _ _ hpl5, ej', fun m hm em => ?_, ?_⟩
        · have := (List.getElem?_inj (by omega) nrest).mp (em.trans ej'.symm)
          omega
        have pe : (p :: rest.eraseIdx j).Perm rest := ej ▸ erase_perm rest j hj
        refine ⟨⟨⟨_, _, rfl⟩, fun b u b1 b2 eb => ?_, ds ++ [p], rest.eraseIdx j, ?_, upd_same, ?_, ?_⟩, ?_⟩
        · rw [upd_ne b2, upd_ne b1]
          exact s58 _ _ (kp b u b1 b2 eb)
        · rw [upd_ne flpl.symm, upd_same, List.map_append] <;> rfl
        · rw [List.append_assoc]
          exact ((List.Perm.refl ds).append pe).trans pm
        · intro i p' hp' s pos
          by_cases hi : i < ds.length
          · rw [List.getElem?_append_left hi] at hp'
            rw [List.take_append_of_le_length (Nat.le_of_lt hi)]
            exact tp i p' hp' s pos
          · have hl := (List.getElem?_eq_some_iff.mp hp').1
            rw [List.length_append] at hl
            have one : ([p] : List Str).length = 1 := rfl
            have ei : i = ds.length := by omega
            rw [ei, List.getElem?_append_right (Nat.le_refl _), Nat.sub_self] at hp'
            have ep : p = p' := Option.some.inj hp'
            subst ep
            rw [ei, List.take_left' rfl]
            have hs := pm.mem_iff.mpr (mem_pls.mpr (lv_adj o pos).1)
            rcases List.mem_append.mp hs with h | h
            · exact h
            · refine absurd ?_ pc.2
              rw [ewt]
              unfold waitL
              exact List.mem_map.mpr ⟨_, List.mem_filter.mpr ⟨lv_crs o pos, decide_eq_true h⟩, rfl⟩
        · show many _ pl < many H5 pl
          rw [many_at upd_same, many_at hpl5, List.length_map, List.length_map, List.length_eraseIdx, if_pos hj]
          omega
      · have rnil : rest = [] := by
          cases rest with
          | nil => rfl
          | cons y r => exact absurd rfl t
        subst rnil
        rw [List.append_nil] at pm
        have sf : Same H H6 := fun b u eb => s56 _ _ (kp b u (ne_of_none eb fl0) (ne_of_none eb pl0) (s04 _ _ eb))
        exact ⟨_, rfl, k fl ds H6 sf fl0 pm tp (s56 _ _ hfl)⟩
    · exact fun σ H Q Q' hm ⟨v, e, z, f⟩ => ⟨v, e, z, fun p np => let ⟨d1, d2, a1, a2, a3, a4, b, eb, q⟩ := f p np; ⟨d1, d2, a1, a2, a3, a4, b, eb, hm _ _ q⟩⟩
end
end FT


/-! changed_lists -/
namespace FT
open PySem L2 TL ClX LiI
theorem dcG_it {J : It} {n : Nat} {G : Hp → Prop} {Y : Nat → Hp → V → Hp → Prop} (w : Walk J n G Y) {g : TG} {tt : TT} {tl : Addr → St → Hp → (Hp → Prop) → Prop} {vs : List Nat} {σ : St} {H1 : Hp} {D : Addr} {o0 : HO} {Qd : Hp → Prop} (Pv : Nat → Hp → Prop) (h0 : Pv 0 (upd H1 D o0)) (hG : ∀ i H, i ≤ n → Pv i H → G H)
    (hs : ∀ i x H H', i < n → Pv i H → Y i H x H' → g x (wipe σ vs) H' fun σ2 H2 => wipe σ2 vs = wipe σ vs ∧ tt σ2 H2 fun b H3 => if b = true then tl D σ2 H3 (Pv (i + 1)) else Pv (i + 1) H3) (hd : ∀ H, Pv n H → Qd H) :
    ∃ W : Nat → Nat → Hp → Prop, (∃ m, W 0 m (upd H1 D o0)) ∧ ∀ i m H, W i m H → (J.stop i H ∧ Qd H) ∨ (J.go i H ∧ ∃ Nx : Hp → Prop, (∀ H', Nx H' → ∃ m', m' < m ∧ W (i + 1) m' H') ∧
      ∀ x H', J.yld i H x H' → g x (wipe σ vs) H' fun σ2 H2 => wipe σ2 vs = wipe σ vs ∧ tt σ2 H2 fun b H3 => if b = true then tl D σ2 H3 Nx else Nx H3) := by
  refine ⟨fun i m H => m = n - i ∧ i ≤ n ∧ Pv i H, ⟨n, by simp, Nat.zero_le _, h0⟩, fun i m H ⟨em, hi, p⟩ => ?_⟩
  have gh := hG i H hi p
  rcases Nat.lt_or_ge i n with lt | ge
  · exact .inr ⟨w.goes i H lt gh, Pv (i + 1), fun H' p' => ⟨n - (i + 1), by omega, rfl, lt, p'⟩, fun x H' y => hs i x H H' lt p (w.yields i H x H' lt gh y)⟩
  · have ei : i = n := by omega
    subst ei
    exact .inl ⟨w.stops H gh, hd H p⟩
theorem cut_drop {xs : List V} {j : Nat} (h : j ≤ xs.length) : cutV xs (some (j : Int)) none = xs.drop j := by
  have e : HT.sIx xs.length 0 (some (j : Int)) = min j xs.length := HT.sIx_nat _ _ j
  show (xs.drop (HT.sIx xs.length 0 (some (j : Int)))).take (xs.length - HT.sIx xs.length 0 (some (j : Int))) = xs.drop j
  rw [e, Nat.min_eq_left h, List.take_of_length_le (by rw [List.length_drop]; exact Nat.le_refl _)]
/-- all but a is as it was -/
def Kp (a : Addr) (H H' : Hp) : Prop := ∀ b u, b ≠ a → H b = some u → H' b = some u
theorem Kp.of_same {a : Addr} {H H' : Hp} (s : Same H H') : Kp a H H' := fun b u _ e => s b u e
theorem Kp.trans {a : Addr} {H H1 H2 : Hp} (x : Kp a H H1) (y : Kp a H1 H2) : Kp a H H2 := fun b u n e => y b u n (x b u n e)
theorem Kp.put {a : Addr} {H H' : Hp} {o : HO} (x : Kp a H H') : Kp a H (upd H' a o) := fun b u n e => by rw [upd_ne n]; exact x b u n e
/-- the users that leave, in the dict at d -/
def LvAt (H : Hp) (d : Addr) (ts : List (Str × Str)) (c : Str → Int) : Prop := ∃ kl, H d = some (.dT kl) ∧ ∀ s g, (valV kl [Sum.inr s, Sum.inr g]).getD (.int 0) = .int (lv ts c s g : Int)
/-- the groups, in the dict at gr -/
def GrAt (H : Hp) (gr : Addr) (G : Str → Str → List Int) (m : Nat) : Prop := ∃ kvs, H gr = some (.dT kvs) ∧ kvs.length ≤ m ∧ ∀ a b, (valV kvs [Sum.inr a, Sum.inr b] = none ∧ G a b = []) ∨ ∃ r, valV kvs [Sum.inr a, Sum.inr b] = some (.ref r) ∧ H r = some (.lst ((G a b).map V.int))
theorem GrAt.mono {H H' : Hp} {gr : Addr} {G : Str → Str → List Int} {m : Nat} (s : Same H H') (x : GrAt H gr G m) : GrAt H' gr G m := by
  obtain ⟨kvs, h1, h2, h3⟩ := x
  exact ⟨kvs, s _ _ h1, h2, fun a b => (h3 a b).imp id fun ⟨r, e1, e2⟩ => ⟨r, e1, s _ _ e2⟩⟩
theorem GrAt.off {H : Hp} {gr fd : Addr} {o : HO} {kd : List (Key × V)} {G : Str → Str → List Int} {m : Nat} (e : H fd = some (.dK kd)) (x : GrAt H gr G m) : GrAt (upd H fd o) gr G m := by
  obtain ⟨kvs, h1, h2, h3⟩ := x
  refine ⟨kvs, by rw [upd_ne (ne_of h1 e (by intro z; cases z))]; exact h1, h2, fun a b => (h3 a b).imp id fun ⟨r, e1, e2⟩ => ⟨r, e1, ?_⟩⟩
  rw [upd_ne (ne_of e2 e (by intro z; cases z))]
  exact e2
theorem two_keys {a b a0 b0 : Str} : ([Sum.inr a, Sum.inr b] : List Key) = [Sum.inr a0, Sum.inr b0] ↔ a = a0 ∧ b = b0 := by
  constructor
  · intro h
    injection h with h1 h2
    injection h2 with h2 _
    exact ⟨Sum.inr.inj h1, Sum.inr.inj h2⟩
  · rintro ⟨rfl, rfl⟩
    rfl
def setG (G : Str → Str → List Int) (a0 b0 : Str) (z : List Int) : Str → Str → List Int := fun a b => if a = a0 ∧ b = b0 then z else G a b
theorem GrAt.put {H : Hp} {gr r0 t : Addr} {G : Str → Str → List Int} {m : Nat} {a0 b0 : Str} {z : List Int} (x : GrAt H gr G m) (h0 : H r0 = some (.lst (z.map V.int))) (few : m < sizeLine) (ht : H t = some (.tup [.str a0, .str b0])) : ∃ H4, DPut H gr (.ref t) (.ref r0) H4 ∧ GrAt H4 gr (setG G a0 b0 z) (m + 1) ∧ Kp gr H H4 := by
  obtain ⟨kvs, h1, h2, h3⟩ := x
  refine ⟨upd H gr (.dT (putK kvs [Sum.inr a0, Sum.inr b0] (.ref r0))), DPut.t (k := [Sum.inr a0, Sum.inr b0]) h1 ht (by omega), ⟨_, upd_same, Nat.le_trans (length_putK _ _ _) (by omega), fun a b => ?_⟩, Kp.put (Kp.of_same fun _ _ e => e)⟩
  rw [valV_put]
  by_cases e : a = a0 ∧ b = b0
  · rw [if_pos (two_keys.mpr e)]
    refine .inr ⟨r0, rfl, ?_⟩
    rw [upd_ne (ne_of h0 h1 (by intro z; cases z))]
    unfold setG
    rw [if_pos e]
    exact h0
  · rw [if_neg fun q => e (two_keys.mp q)]
    unfold setG
    rw [if_neg e]
    refine (h3 a b).imp id fun ⟨r, e1, e2⟩ => ⟨r, e1, ?_⟩
    rw [upd_ne (ne_of e2 h1 (by intro z; cases z))]
    exact e2
theorem GrAt.more {H : Hp} {gr : Addr} {G : Str → Str → List Int} {m m' : Nat} (x : GrAt H gr G m) (h : m ≤ m') : GrAt H gr G m' := let ⟨kvs, h1, h2, h3⟩ := x; ⟨kvs, h1, Nat.le_trans h2 h, h3⟩
theorem GrAt.congr {H : Hp} {gr : Addr} {G G' : Str → Str → List Int} {m : Nat} (x : GrAt H gr G m) (e : ∀ a b, G a b = G' a b) : GrAt H gr G' m := by
  have : G = G' := funext fun a => funext fun b => e a b
  rw [← this]
  exact x
def spChanged (CF : Addr) : Sp := fun vs H Q _ => ∃ (x q qc : Addr) (ts : List (Str × Str)) (c : Str → Int) (r : Str → Addr) (L : Str → List Int), vs = [.ref x, .ref q, .ref qc] ∧ FAt CF H x ts ∧ TreeOk ts ∧ LsAt H q (pls ts) r L ∧ H qc = some (.dK (tblI (ts.map Prod.fst) c)) ∧
  (∀ p, Pl ts p → (L p).length ≤ 1000 ∧ ∀ o, lv ts c p o ≤ 1000) ∧ (∀ p, Pl ts p → ((adj ts p).map fun o => (lv ts c p o : Int)).sum ≤ ((L p).length : Int) + ((adj ts p).map fun o => (lv ts c o p : Int)).sum) ∧
  ∀ (p : Addr) (r' : Str → Addr) (L' : Str → List Int) (H' : Hp), Same H H' → H p = none → (∀ a ∈ pls ts, H (r' a) = none) → Moved ts c L L' → LsAt H' p (pls ts) r' L' → Q (.ref p) H'
theorem kids_len (ts : List (Str × Str)) (p : Str) : (kids ts p).length ≤ ts.length := by
  unfold kids
  rw [List.length_map]
  exact List.length_filter_le _ _
theorem adj_len (ts : List (Str × Str)) (p : Str) : (adj ts p).length ≤ ts.length + 1 := by
  unfold adj
  rw [List.length_append]
  have := kids_len ts p
  split <;> simp <;> omega
theorem flat_more {α : Type} (f : α → List Int) {l : List α} {j : Nat} {a : α} (h : l[j]? = some a) : ((l.take (j + 1)).map f).flatten = ((l.take j).map f).flatten ++ f a := by
  rw [take_more h, List.map_append, List.flatten_append]
  show _ ++ (f a ++ []) = _
  rw [List.append_nil]
theorem rev_more {α : Type} (f : α → List Int) {l : List α} {j : Nat} {a : α} (h : l[j]? = some a) : ((l.take (j + 1)).reverse.map f).flatten = f a ++ ((l.take j).reverse.map f).flatten := by
  rw [take_more h, List.reverse_append]
  rfl
theorem sum_take_le {f : Str → Nat} : ∀ {l : List Str} {j : Nat} {a : Str}, l[j]? = some a → ((l.take j).map fun x => (f x : Int)).sum + (f a : Int) ≤ (l.map fun x => (f x : Int)).sum
  | [], j, a, h => by simp at h
  | b :: l, 0, a, h => by
    have e : b = a := Option.some.inj h
    subst e
    have nn : ∀ l : List Str, 0 ≤ (l.map fun x => (f x : Int)).sum := fun l => by
      induction l with
      | nil => exact Int.le_refl _
      | cons c l ih =>
        rw [List.map_cons, List.sum_cons]
        omega
    have := nn l
    rw [List.map_cons, List.sum_cons]
    show 0 + _ ≤ _
    omega
  | b :: l, j + 1, a, h => by
    have := sum_take_le (f := f) (l := l) (j := j) (a := a) h
    rw [List.take_succ_cons, List.map_cons, List.map_cons, List.sum_cons, List.sum_cons]
    omega
theorem flat_le {f : Str → List Int} {b : Nat} : ∀ {l : List Str}, (∀ x ∈ l, (f x).length ≤ b) → ((l.map f).flatten).length ≤ l.length * b
  | [], _ => Nat.zero_le _
  | a :: l, h => by
    have i := flat_le (l := l) fun x hx => h x (List.mem_cons_of_mem _ hx)
    have := h a (List.mem_cons_self ..)
    rw [List.map_cons, List.flatten_cons, List.length_append, List.length_cons, Nat.succ_mul]
    omega
end FT


namespace FT
open PySem L2 TL ClX LiI
theorem adj_irr {ts : List (Str × Str)} (o : TreeOk ts) {p : Str} (h : Pl ts p) : p ∉ adj ts p := fun m => by
  rcases (mem_adj o h).mp m with z | z <;> exact par_once o z z
/-- one more place is done -/
theorem moved_turn {ts : List (Str × Str)} (o : TreeOk ts) {c : Str → Int} {ds : List Str} (pm : ds.Perm (pls ts)) (tp : Topo ts c ds) {j : Nat} {p : Str} (hp : ds[j]? = some p) {L F : Str → List Int} {G G' : Str → Str → List Int} {row : List Int}
    (h1 : ∀ q ∈ ds.take j, (∀ o ∈ adj ts q, (G q o).length = lv ts c q o) ∧ L q ++ ins ts G q = F q ++ outs ts G q) (h2 : ∀ q, q ∉ ds.take j → ∀ b, G q b = [])
    (e : L p ++ ins ts G p = row ++ ((adj ts p).reverse.map (G' p)).flatten) (l : ∀ o ∈ adj ts p, (G' p o).length = lv ts c p o) (s : ∀ a b, a ≠ p → G' a b = G a b) (z : ∀ b, b ∉ adj ts p → G' p b = []) :
    (∀ q ∈ ds.take (j + 1), (∀ o ∈ adj ts q, (G' q o).length = lv ts c q o) ∧ L q ++ ins ts G' q = (if q = p then row else F q) ++ outs ts G' q) ∧ ∀ q, q ∉ ds.take (j + 1) → ∀ b, G' q b = [] := by
  have nd : ds.Nodup := pm.nodup_iff.mpr (pls_nd o)
  have pp : Pl ts p := mem_pls.mp (pm.mem_iff.mp (List.mem_of_getElem? hp))
  have fresh := nat_fresh nd hp
  have insp : ins ts G' p = ins ts G p := flat_congr fun x hx => s x p fun e => adj_irr o pp (by have w := List.mem_reverse.mp hx; rw [e] at w; exact w)
  refine ⟨fun q hq => ?_, fun q hq b => ?_⟩
  · rw [take_more hp] at hq
    by_cases eq : q = p
    · subst eq
      rw [if_pos rfl]
      exact ⟨l, by rw [insp]; exact e⟩
    · rw [if_neg eq]
      have hq2 := (List.mem_append.mp hq).resolve_right fun w => eq (List.mem_singleton.mp w)
      obtain ⟨a1, a2⟩ := h1 q hq2
      have pq : Pl ts q := mem_pls.mp (pm.mem_iff.mp (List.mem_of_mem_take hq2))
      have eo : outs ts G' q = outs ts G q := flat_congr fun x _ => s q x eq
      have ei : ins ts G' q = ins ts G q := flat_congr fun x hx => by
        by_cases ex : x = p
        · subst ex
          have hx := List.mem_reverse.mp hx
          rw [h2 x fresh q]
          have len := l q (adj_sym o pq hx)
          have lz : lv ts c x q = 0 := by
            rcases Nat.eq_zero_or_pos (lv ts c x q) with w | pos
            · exact w
            · obtain ⟨i, hi⟩ := List.mem_iff_getElem?.mp hq2
              have il := (List.getElem?_eq_some_iff.mp hi).1
              rw [List.length_take] at il
              rw [List.getElem?_take, if_pos (by omega)] at hi
              have := tp i q hi x pos
              exact absurd (List.take_subset_take_left ds (by omega : i ≤ j) this) fresh
          rw [lz] at len
          exact List.length_eq_zero_iff.mp len
        · exact s x q ex
      exact ⟨fun x hx => by rw [s q x eq]; exact a1 x hx, by rw [ei, eo]; exact a2⟩
  · rw [take_more hp] at hq
    have n1 : q ∉ ds.take j := fun w => hq (List.mem_append_left _ w)
    have n2 : q ≠ p := fun w => hq (List.mem_append_right _ (List.mem_singleton.mpr w))
    rw [s q b n2]
    exact h2 q n1 b
section
variable {P : Program} {w : World} {K : PySem.W.Frag} {mg : Str → Option Value} {base : Heap}
abbrev NCh : List Str := ["forest", "lists", "changed", "place", "leaving", "groups", "found", "row", "other", "left", "goal", "amount"]
theorem scCh : FnScope NCh ["forest", "lists", "changed"] (defScope s_changed_lists) := ⟨rfl, rfl, rfl, by decide +kernel, rfl, by decide +kernel, by decide +kernel⟩
theorem ok_changed {f fC fE fA fP CF : Addr} {fd fdC fdE fdA fdP : FuncData} (F : Fun K "changed_lists" "changed_lists" s_changed_lists f fd) (T : Nm mg) (DC : Dn P w K mg base CX0 3 "crossings" ["forest", "changed"] (spCross CF) fC fdC) (DE : Dn P w K mg base CX0 4 "edge_order" ["forest", "changed"] (spEdgeOrder CF) fE fdE)
    (DA : Dn P w K mg base CX0 3 "edges_at" ["forest", "place"] (spEdgesAt CF) fA fdA) (DP : Dn P w K mg base CX0 3 "places_of" ["forest"] (spPlacesOf CF) fP fdP) : FnOk P w K mg base CX0 5 f fd ["forest", "lists", "changed"] (spChanged CF) := by
  refine F.ok scCh (fun vs H Q E h => ?_) (fun cdv A outer s H vs Q E hr h => ?_)
  · obtain ⟨x, q, qc, ts, c, r, L, rfl, _⟩ := h
    rfl
  · obtain ⟨x, q, qc, ts, c, r, L, rfl, fa, o, hL, hqc, sm, fe, k⟩ := h
    have hu := hu_of hr
    have nd := scCh.nd
    have hr3 : Room 3 _ := hr.mono (by decide)
    have big : 100000 ≤ sizeLine := by decide
    have few := o.few
    refine ⟨_, pss_cons (ps_setDcT (i := 4) (own := [("place", 3), ("goal", 10), ("amount", 11)]) (g := gTup K 3 (gCons (gName 3) (gCons (gName 10) (gCons (gName 11) gNil)))) (tt := tYes) (tk := tTup (tCons (tVar 3) (tCons (tVar 10) tNil))) (tv := tVar 11) rfl nd hu rfl rfl (swd_true rfl rfl rfl (by decide +kernel))
        (pi_list (pe_call DC.ok hr3 rfl DC.mgn DC.kp DC.bn .nil pass0 (pa_cons (pv 0) (pa_cons (pv 2) pa_nil)))) (blkOk_by (N := NCh) (sc := defScope s_changed_lists) (by decide +kernel))
        (fun _ _ _ _ _ => pg_tup rfl (pgs_cons (pg_name (i := 3) nd rfl (Or.inl rfl)) (pgs_cons (pg_name (i := 10) nd rfl (Or.inl rfl)) (pgs_cons (pg_name (i := 11) nd rfl (Or.inl rfl)) pgs_nil)))) (fun _ _ _ _ _ => pts_nil) (fun _ _ _ _ _ => pe_tup (pa_cons (pv 3) (pa_cons (pv 10) pa_nil))) (fun _ _ _ _ _ => pv 11))
      (pss_cons (ps_asg (pe_tup (pa_cons pe_dnewT (pa_cons pe_dnewK pa_nil))) (pg_tup rfl (pgs_cons (pg_name (i := 5) nd rfl (.inl rfl)) (pgs_cons (pg_name (i := 6) nd rfl (.inr rfl)) pgs_nil))))
      (pss_cons (ps_for PassesOwn.never rfl (pi_list (pe_call DE.ok hr rfl DE.mgn DE.kp DE.bn .nil pass0 (pa_cons (pv 0) (pa_cons (pv 2) pa_nil)))) (pg_name (i := 3) nd rfl (.inl rfl))
        (pss_cons (ps_set (i := 7) nd rfl (.inl rfl) (pe_callTy call_list_of (by rfl) T.lst (by decide +kernel) (pa_cons (pe_dget hu (pv 1) (pv 3) (fun _ _ => rfl)) pa_nil)))
        (pss_cons (ps_for PassesOwn.never rfl (pi_list (pe_revL (pe_call DA.ok hr3 rfl DA.mgn DA.kp DA.bn .nil pass0 (pa_cons (pv 0) (pa_cons (pv 3) pa_nil))))) (pg_name (i := 8) nd rfl (.inl rfl))
          (pss_one (ps_expr (pe_bm PySem.F.plainAttrs_list PySem.F.slot_list_extend PySem.F.type_list_extend mt_extend (pv 7) (pa_cons (pe_dget2 hu (pv 5) (pe_tup (pa_cons (pv 8) (pa_cons (pv 3) pa_nil))) (pe_lst pa_nil) ⟨rfl, rfl, rfl, rfl⟩) pa_nil)))))
        (pss_cons (ps_for PassesOwn.never rfl (pi_list (pe_call DA.ok hr3 rfl DA.mgn DA.kp DA.bn .nil pass0 (pa_cons (pv 0) (pa_cons (pv 3) pa_nil)))) (pg_name (i := 8) nd rfl (.inl rfl))
          (pss_cons (ps_set (i := 9) nd rfl (.inl rfl) (pe_op op_sub (pe_callB call_len_seq (by rfl) T.len PySem.boot_len (pa_cons (pv 7) pa_nil)) (pe_dget2 hu (pv 4) (pe_tup (pa_cons (pv 3) (pa_cons (pv 8) pa_nil))) pe_int ⟨rfl, rfl, rfl, rfl⟩)))
          (pss_cons (ps_dput hu (pv 5) (pe_tup (pa_cons (pv 3) (pa_cons (pv 8) pa_nil))) (pe_slice sl_list (pv 7) (po_some (pv 9)) po_none) rfl)
          (pss_one (ps_set (i := 7) nd rfl (.inl rfl) (pe_slice sl_list (pv 7) po_none (po_some (pv 9))))))))
        (pss_one (ps_dput hu (pv 6) (pv 3) (pv 7) rfl))))))
      (pss_one (ps_ret (pe_dc (own := [("place", 3)]) (g := gName 3) (tt := tYes) rfl nd (pi_list (pe_call DP.ok hr3 rfl DP.mgn DP.kp DP.bn .nil pass0 (pa_cons (pv 0) pa_nil))) (blkOk_by (N := NCh) (sc := defScope s_changed_lists) (by decide +kernel))
        (fun _ _ _ _ _ => pg_name (i := 3) nd rfl (Or.inl rfl)) (fun _ _ _ _ _ => pts_nil) (fun _ _ _ _ _ => pv 3) (fun _ _ _ _ _ => pe_dget hu (pv 6) (pv 3) (fun _ _ => rfl))))))), ?_⟩
    obtain ⟨dx, dq, hx, hd⟩ := id fa
    have pnd := pls_nd o
    have pln := pls_len ts
    have cl := crs_len c ts
    -- who leaves
    refine ⟨_, rfl, _, rfl, x, qc, ts, c, rfl, fa, o, hqc, fun e rs H1 s1 ne he ed => ⟨e, rfl, ⟨_, SqL.of he⟩, fun D nD => ?_⟩⟩
    have lr := ed.len
    refine dcG_it walk_list (fun i H' => Same H1 H' ∧ ∃ kl : List (List Key × V), H' D = some (.dT kl) ∧ kl.length ≤ i ∧ (∀ s g a, (s, g, a) ∈ (crs c ts).take i → valV kl [Sum.inr s, Sum.inr g] = some (.int (lv ts c s g : Int))) ∧ ∀ s g v, valV kl [Sum.inr s, Sum.inr g] = some v → v = .int (lv ts c s g : Int))
      ⟨same_new nD, [], upd_same, Nat.le_refl _, fun s g a h => by simp at h, fun s g v h => by cases h⟩ (fun i H' _ z => SqL.of (z.1 _ _ he)) ?_ ?_
    · intro i y Ha Hb hi ⟨q1, kl, q2, q3, q4, q5⟩ ⟨eb, ey⟩
      subst eb
      rw [List.length_map] at hi
      obtain ⟨r0, hr0, rfl⟩ := map_of ey
      obtain ⟨e1, he1, hrb⟩ := ed.at_ hr0
      have e1lv := crs_lv o (show (e1.1, e1.2.1, e1.2.2) ∈ crs c ts from List.mem_of_getElem? he1)
      refine ⟨r0, [.str e1.1, .str e1.2.1, .int e1.2.2], rfl, .inl (.inl (q1 _ _ hrb)), rfl, _, _, rfl, _, _, rfl, _, _, rfl, rfl, rfl, ?_⟩
      refine ⟨_, rfl, _, rfl, by show 2 ≤ sizeLine; omega, fun t nt => ⟨_, rfl, kl, [Sum.inr e1.1, Sum.inr e1.2.1], t, rfl, upd_same, ?_, by omega, ?_⟩⟩
      · rw [upd_ne (ne_of_none q2 nt)]
        exact q2
      · refine ⟨(q1.trans (same_new nt)).put nD, _, upd_same, Nat.le_trans (length_putK _ _ _) (by omega), fun s g a h => ?_, fun s g v h => ?_⟩
        · rw [valV_put]
          rw [take_more he1] at h
          rcases List.mem_append.mp h with h | h
          · by_cases ek : ([Sum.inr s, Sum.inr g] : List Key) = [Sum.inr e1.1, Sum.inr e1.2.1]
            · obtain ⟨es, eg⟩ := two_keys.mp ek
              rw [if_pos ek, es, eg, e1lv.1]
            · rw [if_neg ek]
              exact q4 s g a h
          · have eh := List.mem_singleton.mp h
            rw [← eh, if_pos rfl]
            rw [← eh] at e1lv
            rw [e1lv.1]
        · rw [valV_put] at h
          by_cases ek : ([Sum.inr s, Sum.inr g] : List Key) = [Sum.inr e1.1, Sum.inr e1.2.1]
          · obtain ⟨es, eg⟩ := two_keys.mp ek
            rw [if_pos ek] at h
            rw [← Option.some.inj h, es, eg, e1lv.1]
          · rw [if_neg ek] at h
            exact q5 s g v h
    intro H2 ⟨s12, kl, hD2, _, kl1, kl2⟩
    rw [List.length_map, lr, List.take_length] at kl1
    have lvA : ∀ s g, (valV kl [Sum.inr s, Sum.inr g]).getD (.int 0) = .int (lv ts c s g : Int) := fun s g => by
      cases ev : valV kl [Sum.inr s, Sum.inr g] with
      | some v => exact kl2 s g v ev
      | none =>
        rcases Nat.eq_zero_or_pos (lv ts c s g) with z | pos
        · rw [z] <;> rfl
        · rw [kl1 s g _ (lv_crs o pos)] at ev
          cases ev
    have s02 : Same H H2 := s1.trans s12
    -- groups, found
    refine fun gr ngr => fun fd nfd => ⟨by show 2 ≤ sizeLine; omega, fun tp ntp => ⟨tp, _, rfl, .inl (.inl upd_same), rfl, ?_⟩⟩
    obtain ⟨H3, e3⟩ : ∃ X, X = upd (upd (upd H2 gr (.dT [])) fd (.dK [])) tp (.tup [.ref gr, .ref fd]) := ⟨_, rfl⟩
    have sfd : Same (upd H2 gr (.dT [])) (upd (upd H2 gr (.dT [])) fd (.dK [])) := same_new nfd
    have stp := same_new (o := .tup [.ref gr, .ref fd]) ntp
    have s23 : Same H2 H3 := e3 ▸ ((same_new ngr).trans sfd).trans stp
    have hgr3 : H3 gr = some (.dT []) := by rw [e3]; exact stp _ _ (sfd _ _ upd_same)
    have hfd3 : H3 fd = some (.dK []) := by rw [e3]; exact stp _ _ upd_same
    rw [← e3]
    have s03 := s02.trans s23
    have gr0 : H gr = none := s02.free ngr
    have fd0 : H fd = none := (s02.trans (same_new ngr)).free nfd
    refine ⟨_, _, rfl, _, _, rfl, rfl, ?_⟩
    refine ⟨_, rfl, _, rfl, x, qc, ts, c, rfl, fa.mono s03, o, s03 _ _ hqc, fun eo ds H4 s34 neo pm tpo heo => ⟨eo, rfl, ⟨_, SqL.of heo⟩, ?_⟩⟩
    have s04 := s03.trans s34
    have hgr4 := s34 _ _ hgr3
    have hfd4 := s34 _ _ hfd3
    have hD4 := s34 _ _ (s23 _ _ hD2)
    have grfd : gr ≠ fd := ne_of hgr4 hfd4 (by intro z; cases z)
    have ldn := pm.length_eq
    have ndd : ds.Nodup := pm.nodup_iff.mpr pnd
    refine for_it walk_list (fun i σ' H' => (∃ u3 u7 u8 u9, σ' = [some (.ref x), some (.ref q), some (.ref qc), u3, some (.ref D), some (.ref gr), some (.ref fd), u7, u8, u9, none, none]) ∧ (∀ b u, b ≠ gr → b ≠ fd → H4 b = some u → H' b = some u) ∧
        ∃ (G : Str → Str → List Int) (F : Str → List Int) (rF : Str → Addr), GrAt H' gr G (13 * i) ∧ H' fd = some (.dK (tblV (ds.take i) fun p => .ref (rF p))) ∧ (∀ p ∈ ds.take i, H' (rF p) = some (.lst ((F p).map V.int)) ∧ H (rF p) = none) ∧
          (∀ p ∈ ds.take i, (∀ o ∈ adj ts p, (G p o).length = lv ts c p o) ∧ L p ++ ins ts G p = F p ++ outs ts G p) ∧ ∀ p, p ∉ ds.take i → ∀ b, G p b = [])
      ⟨⟨_, _, _, _, rfl⟩, fun _ _ _ _ z => z, fun _ _ => [], fun _ => [], fun _ => 0, ⟨[], hgr4, Nat.le_refl _, fun _ _ => .inl ⟨rfl, rfl⟩⟩, hfd4, fun p h => by simp at h, fun p h => by simp at h, fun _ _ _ => rfl⟩
      (fun i σ' H' _ z => SqL.of (z.2.1 _ _ (ne_of heo hgr4 (by intro z; cases z)) (ne_of heo hfd4 (by intro z; cases z)) heo)) ?_ ?_
    · intro j y σ' Hz Ha hj ⟨⟨u3, u7, u8, u9, eσ⟩, kp, G, F0, rF, hG, hfd, hrF, hdone, hrest⟩ ⟨eb, ey⟩
      subst eσ
      subst eb
      obtain ⟨p, hp, rfl⟩ := map_of ey
      have mp := pm.mem_iff.mp (List.mem_of_getElem? hp)
      have pp := mem_pls.mp mp
      have jl := (List.getElem?_eq_some_iff.mp hp).1
      have fresh := nat_fresh ndd hp
      obtain ⟨Lp, lvp⟩ := sm p pp
      have off : ∀ {b u}, H b = some u → Ha b = some u := fun {b u} eb => kp b u (ne_of_none eb gr0) (ne_of_none eb fd0) (s04 _ _ eb)
      have hDa : Ha D = some (.dT kl) := kp D _ (fun z => by rw [z, ngr] at hD2; cases hD2) (ne_of hD4 hfd4 (by intro z; cases z)) hD4
      -- the list of the place
      refine ⟨_, rfl, _, rfl, q, .ref (r p), rfl, LsAt.get (LsAt.mono (fun b u => off) hL) mp, r p, _, rfl, .inl (SqL.of (off (hL.2 p mp))), fun ro nro => ?_⟩
      have sro : Same Ha (upd Ha ro (.lst ((L p).map V.int))) := same_new nro
      have ro0 : H ro = none := by
        cases z : H ro with
        | none => rfl
        | some u => rw [off z] at nro; cases nro
      refine ⟨_, rfl, _, rfl, x, ts, p, rfl, (fa.mono (fun b u => off)).mono sro, o, pp, fun la H6 s6 nla hla => ⟨la, _, rfl, SqL.of hla, fun lb nlb => ⟨lb, rfl, ⟨_, SqL.of upd_same⟩, ?_⟩⟩⟩
      obtain ⟨H7, e7⟩ : ∃ X, X = upd H6 lb (.lst ((adj ts p).map V.str).reverse) := ⟨_, rfl⟩
      have s67 : Same H6 H7 := e7 ▸ same_new nlb
      have hlb : H7 lb = some (.lst ((adj ts p).reverse.map V.str)) := by rw [e7, upd_same, List.map_reverse]
      rw [← e7]
      have sa7 : Same Ha H7 := (sro.trans s6).trans s67
      have hro7 : H7 ro = some (.lst ((L p).map V.int)) := s67 _ _ (s6 _ _ upd_same)
      have lbro : lb ≠ ro := (ne_of_none (s6 _ _ upd_same) nlb).symm
      have al := adj_len ts p
      have gl : ∀ a ∈ adj ts p, (G a p).length ≤ 1000 := fun a ha => by
        by_cases da : a ∈ ds.take j
        · rw [(hdone a da).1 p (adj_sym o pp ha)]
          exact (sm a (adj_pl o pp ha)).2 p
        · rw [hrest a da p]
          exact Nat.zero_le _
      refine for_it walk_list (fun i σ' H' => (∃ u8, σ' = [some (.ref x), some (.ref q), some (.ref qc), some (.str p), some (.ref D), some (.ref gr), some (.ref fd), some (.ref ro), u8, u9, none, none]) ∧ Same Ha H' ∧ H' lb = some (.lst ((adj ts p).reverse.map V.str)) ∧ H' ro = some (.lst ((L p ++ (((adj ts p).reverse.take i).map fun a => G a p).flatten).map V.int)))
        ⟨⟨_, rfl⟩, sa7, hlb, by rw [hro7, List.take_zero, List.map_nil, List.flatten_nil, List.append_nil]⟩ (fun i σ' H' _ z => SqL.of z.2.2.1) ?_ ?_
      · intro i y2 σ2 Hz Hc hi ⟨⟨u8', eσ⟩, sc, hlbc, hroc⟩ ⟨eb2, ey2⟩
        subst eσ
        subst eb2
        obtain ⟨a, ha, rfl⟩ := map_of ey2
        have ma := List.mem_reverse.mp (List.mem_of_getElem? ha)
        have more := flat_more (fun a => G a p) ha
        have lf : ((((adj ts p).reverse.take i).map fun a => G a p).flatten).length ≤ 13 * 1000 := by
          refine Nat.le_trans (flat_le (b := 1000) fun z hz => gl z (List.mem_reverse.mp (List.mem_of_mem_take hz))) (Nat.mul_le_mul_right _ ?_)
          rw [List.length_take, List.length_reverse]
          omega
        have lga := gl a ma
        refine ⟨_, rfl, .inl ⟨rfl, _, SqL.of hroc⟩, _, rfl, gr, rfl, .inr ?_, _, rfl, _, rfl, by show 2 ≤ sizeLine; omega, fun t nt => ⟨by show 0 ≤ sizeLine; omega, fun ex nex => ?_⟩⟩
        · obtain ⟨kvs, h1, _⟩ := hG
          exact ⟨kvs, .inl (sc _ _ h1)⟩
        obtain ⟨He, ee⟩ : ∃ X, X = upd (upd Hc t (.tup [.str a, .str p])) ex (.lst []) := ⟨_, rfl⟩
        have st : Same Hc (upd Hc t (.tup [.str a, .str p])) := same_new nt
        have sce : Same Hc He := ee ▸ st.trans (same_new nex)
        have hte : He t = some (.tup [.str a, .str p]) := by rw [ee]; exact same_new nex _ _ upd_same
        have hex : He ex = some (.lst []) := by rw [ee]; exact upd_same
        rw [← ee]
        obtain ⟨kvs, h1, h2, h3⟩ := GrAt.mono (sc.trans sce) hG
        have hroe := sce _ _ hroc
        have fin : ∀ (b : Addr) (v : Option V), v = valV kvs [Sum.inr a, Sum.inr p] → He b = some (.lst ((G a p).map V.int)) → v.getD (.ref ex) = .ref b →
            ∃ o, DGet He gr (.ref t) o ∧ ∃ l b xs zs, V.ref ro = .ref l ∧ [o.getD (.ref ex)] = [.ref b] ∧ He l = some (.lst xs) ∧ He b = some (.lst zs) ∧ xs.length + zs.length ≤ sizeLine ∧
              ((∃ u8, [some (.ref x), some (.ref q), some (.ref qc), some (.str p), some (.ref D), some (.ref gr), some (.ref fd), some (.ref ro), some (.str a), u9, none, none] = [some (.ref x), some (.ref q), some (.ref qc), some (.str p), some (.ref D), some (.ref gr), some (.ref fd), some (.ref ro), u8, u9, none, none]) ∧ Same Ha (upd He l (.lst (xs ++ zs))) ∧
                (upd He l (.lst (xs ++ zs))) lb = some (.lst ((adj ts p).reverse.map V.str)) ∧ (upd He l (.lst (xs ++ zs))) ro = some (.lst ((L p ++ (((adj ts p).reverse.take (i + 1)).map fun a => G a p).flatten).map V.int))) := fun b v ev hb gv => by
          refine ⟨v, ev ▸ DGet.t (k := [Sum.inr a, Sum.inr p]) h1 hte, ro, b, _, _, rfl, by rw [gv], hroe, hb, ?_, ⟨_, rfl⟩, (sc.trans sce).put nro, by rw [upd_ne lbro]; exact sce _ _ hlbc, ?_⟩
          · rw [List.length_map, List.length_map, List.length_append]
            omega
          · rw [upd_same, more, ← List.map_append, List.append_assoc]
        rcases h3 a p with ⟨n1, n2⟩ | ⟨r1, n1, n2⟩
        · exact fin ex none n1.symm (by rw [n2]; exact hex) rfl
        · exact fin r1 (some (.ref r1)) n1.symm n2 rfl
      intro σ2 H8 ⟨⟨u8', eσ⟩, sa8, hlb8, hro8⟩
      subst eσ
      rw [List.length_map, List.take_length, show L p ++ ((adj ts p).reverse.map fun a => G a p).flatten = L p ++ ins ts G p from rfl] at hro8
      obtain ⟨T0, eT⟩ : ∃ T0, T0 = L p ++ ins ts G p := ⟨_, rfl⟩
      rw [← eT] at hro8
      have Tlen : ((adj ts p).map fun o => (lv ts c p o : Int)).sum ≤ (T0.length : Int) := by
        have e1 := ins_len (ts := ts) G p
        have e2 : ((adj ts p).map fun o => ((G o p).length : Int)) = (adj ts p).map fun o => (lv ts c o p : Int) := List.map_congr_left fun a ha => by
          by_cases da : a ∈ ds.take j
          · rw [(hdone a da).1 p (adj_sym o pp ha)]
          · rw [hrest a da p]
            rcases Nat.eq_zero_or_pos (lv ts c a p) with z | pos
            · rw [z] <;> rfl
            · exact absurd (tpo j p hp a pos) da
        rw [e2] at e1
        have := fe p pp
        rw [eT, List.length_append, Int.natCast_add, e1]
        exact this
      have Tle : T0.length ≤ 20000 := by
        rw [eT, List.length_append]
        have : (ins ts G p).length ≤ 13 * 1000 := by
          refine Nat.le_trans (flat_le (b := 1000) fun z hz => gl z (List.mem_reverse.mp hz)) (Nat.mul_le_mul_right _ ?_)
          rw [List.length_reverse]
          omega
        omega
      -- cut into groups
      refine ⟨_, rfl, _, rfl, x, ts, p, rfl, (fa.mono (fun b u => off)).mono sa8, o, pp, fun lc H9 s9 nlc hlc => ⟨lc, rfl, ⟨_, SqL.of hlc⟩, ?_⟩⟩
      have sa9 := sa8.trans s9
      have hG9 := GrAt.mono sa9 hG
      obtain ⟨kv9, hgr9, _⟩ := id hG9
      have hD9 := sa9 _ _ hDa
      have hfd9 := sa9 _ _ hfd
      have lcgr : lc ≠ gr := ne_of hlc hgr9 (by intro z; cases z)
      have Dgr : D ≠ gr := fun z => by rw [z, ngr] at hD2; cases hD2
      refine for_it walk_list (fun i σ' H' => (∃ u8 u9 rw', σ' = [some (.ref x), some (.ref q), some (.ref qc), some (.str p), some (.ref D), some (.ref gr), some (.ref fd), some (.ref rw'), u8, u9, none, none] ∧ H rw' = none ∧ Kp gr H9 H' ∧
          ∃ (row : List Int) (G' : Str → Str → List Int), H' rw' = some (.lst (row.map V.int)) ∧ GrAt H' gr G' (13 * j + i) ∧ T0 = row ++ (((adj ts p).take i).reverse.map (G' p)).flatten ∧ (∀ o ∈ (adj ts p).take i, (G' p o).length = lv ts c p o) ∧ (∀ a b, a ≠ p → G' a b = G a b) ∧ ∀ b, b ∉ (adj ts p).take i → G' p b = []))
        ⟨_, _, ro, rfl, ro0, Kp.of_same fun _ _ e => e, T0, G, s9 _ _ hro8, hG9, by simp, fun a h => by simp at h, fun _ _ _ => rfl, fun b _ => hrest p fresh b⟩ (fun i σ' H' _ ⟨_, _, _, _, _, z, _⟩ => SqL.of (z _ _ lcgr hlc)) ?_ ?_
      · intro i y2 σ2 Hz Hc hi ⟨u8', u9', rw', eσ, rw0, kc, row, G', hrw, hG', eT', len', oth', nil'⟩ ⟨eb2, ey2⟩
        subst eσ
        subst eb2
        obtain ⟨a, ha, rfl⟩ := map_of ey2
        have ma := List.mem_of_getElem? ha
        have il := (List.getElem?_eq_some_iff.mp ha).1
        have fa' := nat_fresh (adj_nd o pp) ha
        have hDc := kc _ _ Dgr hD9
        -- how many are left
        have rl : T0.length = row.length + ((((adj ts p).take i).reverse.map (G' p)).flatten).length := by rw [← List.length_append, ← eT']
        have gsum : ((((((adj ts p).take i).reverse.map (G' p)).flatten).length : Nat) : Int) = (((adj ts p).take i).map fun o => (lv ts c p o : Int)).sum := by
          rw [flat_len, int_sum, List.map_map, List.map_reverse, sum_rev]
          congr 1
          exact List.map_congr_left fun z hz => by show ((G' p z).length : Int) = _; rw [len' z hz]
        have stl := sum_take_le (f := fun o => lv ts c p o) ha
        have room : lv ts c p a ≤ row.length := by omega
        obtain ⟨lf, elf⟩ : ∃ lf, lf = row.length - lv ts c p a := ⟨_, rfl⟩
        have ilf : (((row.map V.int).length : Nat) : Int) - (lv ts c p a : Int) = (lf : Int) := by
          rw [List.length_map]
          omega
        refine ⟨_, rfl, rw', _, rfl, .inl (SqL.of hrw), _, rfl, D, rfl, .inr ⟨kl, .inl hDc⟩, _, rfl, _, rfl, by show 2 ≤ sizeLine; omega, fun t nt => ⟨_, DGet.t (k := [Sum.inr p, Sum.inr a]) (by rw [upd_ne (ne_of_none hDc nt)]; exact hDc) upd_same, _, _, rfl, lvA p a, ?_⟩⟩
        show gName 9 (V.int ((((row.map V.int).length : Nat) : Int) - (lv ts c p a : Int))) _ _ _
        rw [ilf]
        have st : Same Hc (upd Hc t (.tup [.str p, .str a])) := same_new nt
        obtain ⟨He, ee⟩ : ∃ X, X = upd Hc t (.tup [.str p, .str a]) := ⟨_, rfl⟩
        rw [← ee] at st ⊢
        -- the group
        refine ⟨_, rfl, _, rfl, _, rfl, rw', _, rfl, SqL.of (st _ _ hrw), fun p1 n1 => ⟨_, rfl, _, rfl, _, rfl, by show 2 ≤ sizeLine; omega, fun t2 nt2 => ?_⟩⟩
        rw [cut_drop (by rw [List.length_map]; omega), ← List.map_drop] at nt2 ⊢
        obtain ⟨Hf, ef⟩ : ∃ X, X = upd (upd He p1 (.lst ((row.drop lf).map V.int))) t2 (.tup [.str p, .str a]) := ⟨_, rfl⟩
        have sp1 : Same He (upd He p1 (.lst ((row.drop lf).map V.int))) := same_new n1
        have sef : Same He Hf := ef ▸ sp1.trans (same_new nt2)
        have hp1 : Hf p1 = some (.lst ((row.drop lf).map V.int)) := by rw [ef]; exact same_new nt2 _ _ upd_same
        have ht2 : Hf t2 = some (.tup [.str p, .str a]) := by rw [ef]; exact upd_same
        rw [← ef]
        have scf : Same Hc Hf := st.trans sef
        obtain ⟨Hg, put, hGg, kg⟩ := GrAt.put (z := row.drop lf) (GrAt.mono scf hG') hp1 (by omega) ht2
        refine ⟨gr, Hg, rfl, put, ?_⟩
        have rwgr : rw' ≠ gr := fun z => by
          obtain ⟨kvs, h1, _⟩ := hG'
          rw [z, h1] at hrw
          cases hrw
        have hrwg := kg _ _ rwgr (scf _ _ hrw)
        refine ⟨_, rfl, _, rfl, _, rfl, rw', _, rfl, SqL.of hrwg, fun rw2 nrw2 => ?_⟩
        rw [cut_take (by rw [List.length_map]; omega), ← List.map_take]
        have sw2 : Same Hg (upd Hg rw2 (.lst ((row.take lf).map V.int))) := same_new nrw2
        have rw20 : H rw2 = none := by
          cases z : H rw2 with
          | none => rfl
          | some u =>
            rw [kg _ _ (ne_of_none z gr0) (scf _ _ (kc _ _ (ne_of_none z gr0) (sa9 _ _ (off z))))] at nrw2
            cases nrw2
        refine ⟨_, _, rw2, rfl, rw20, ((kc.trans (Kp.of_same scf)).trans kg).trans (Kp.of_same sw2), row.take lf, setG G' p a (row.drop lf), upd_same, GrAt.mono sw2 hGg, ?_, fun b hb => ?_, fun a' b' na => ?_, fun b hb => ?_⟩
        · rw [rev_more _ ha]
          have e1 : setG G' p a (row.drop lf) p a = row.drop lf := by unfold setG; rw [if_pos ⟨rfl, rfl⟩]
          have e2 : ((((adj ts p).take i).reverse.map (setG G' p a (row.drop lf) p)).flatten) = (((adj ts p).take i).reverse.map (G' p)).flatten := flat_congr fun b hb => by
            unfold setG
            rw [if_neg fun z => fa' (by rw [← z.2]; exact List.mem_reverse.mp hb)]
          rw [e1, e2, ← List.append_assoc, List.take_append_drop]
          exact eT'
        · rw [take_more ha] at hb
          rcases List.mem_append.mp hb with hb | hb
          · unfold setG
            rw [if_neg fun z => fa' (by rw [← z.2]; exact hb)]
            exact len' b hb
          · rw [List.mem_singleton.mp hb]
            unfold setG
            rw [if_pos ⟨rfl, rfl⟩, List.length_drop]
            omega
        · unfold setG
          rw [if_neg fun z => na z.1]
          exact oth' a' b' na
        · rw [take_more ha] at hb
          unfold setG
          rw [if_neg fun z => hb (List.mem_append_right _ (List.mem_singleton.mpr z.2))]
          exact nil' b fun z => hb (List.mem_append_left _ z)
      intro σ2 H10 ⟨u8', u9', rw', eσ, rw0, kc, row, G', hrw, hG', eT', len', oth', nil'⟩
      subst eσ
      rw [List.length_map] at hG'
      rw [List.length_map, List.take_length] at eT' len' nil'
      obtain ⟨kv10, hgr10, _⟩ := id hG'
      have hfd10 := kc _ _ (Ne.symm grfd) hfd9
      -- found
      refine ⟨_, rfl, _, rfl, _, rfl, fd, _, rfl, DPut.k (k := Sum.inr p) hfd10 (by rw [tblV_len, List.length_take]; omega), ?_⟩
      obtain ⟨d1, d2⟩ := moved_turn o pm tpo hp hdone hrest (by rw [← eT]; exact eT') len' oth' nil'
      have rwfd : rw' ≠ fd := ne_of hrw hfd10 (by intro z; cases z)
      refine ⟨⟨_, _, _, _, rfl⟩, fun b u b1 b2 eb => ?_, G', fun a => if a = p then row else F0 a, fun a => if a = p then rw' else rF a, (GrAt.off hfd10 hG').more (by omega), ?_, fun a ha => ?_, d1, d2⟩
      · rw [upd_ne b2]
        exact kc _ _ b1 (sa9 _ _ (kp b u b1 b2 eb))
      · rw [upd_same, tblV_congr (g' := fun a => V.ref (if a = p then rw' else rF a)) fun a ha => by rw [if_neg fun z => fresh (by rw [← z]; exact ha)], tblV_snoc fresh (by rw [if_pos rfl]), take_more hp]
      · rw [take_more hp] at ha
        show (upd H10 fd _) (if a = p then rw' else rF a) = some (.lst ((if a = p then row else F0 a).map V.int)) ∧ H (if a = p then rw' else rF a) = none
        by_cases e : a = p
        · rw [if_pos e, if_pos e]
          exact ⟨by rw [upd_ne rwfd]; exact hrw, rw0⟩
        · rw [if_neg e, if_neg e]
          have ha := (List.mem_append.mp ha).resolve_right fun z => e (List.mem_singleton.mp z)
          obtain ⟨z1, z2⟩ := hrF a ha
          have n1 : rF a ≠ gr := fun z => by
            obtain ⟨kvs, h1, _⟩ := hG
            rw [z, h1] at z1
            cases z1
          have n2 : rF a ≠ fd := ne_of z1 hfd (by intro z; cases z)
          exact ⟨by rw [upd_ne n2]; exact kc _ _ n1 (sa9 _ _ z1), z2⟩
    · intro σ' H11 ⟨⟨u3, u7, u8, u9, eσ⟩, kp, G, F0, rF, hG, hfd, hrF, hdone, hrest⟩
      subst eσ
      rw [List.length_map, List.take_length] at hfd hrF hdone hrest
      have mv : Moved ts c L F0 := ⟨G, fun p hp => (hdone p (pm.mem_iff.mpr (mem_pls.mpr hp))).1, fun p hp => (hdone p (pm.mem_iff.mpr (mem_pls.mpr hp))).2⟩
      have off : Same H H11 := fun b u eb => kp b u (ne_of_none eb gr0) (ne_of_none eb fd0) (s04 _ _ eb)
      refine ⟨_, rfl, x, ts, rfl, fa.mono off, few, fun pl H12 s12' npl hpl => ⟨pl, rfl, ⟨_, SqL.of hpl⟩, fun R nR => ?_⟩⟩
      refine dc_it walk_list (fun i H' => Same H12 H' ∧ H' R = some (.dK (tblV ((pls ts).take i) fun p => .ref (rF p)))) ⟨same_new nR, upd_same⟩ (fun i H' _ z => SqL.of (z.1 _ _ hpl)) ?_ ?_
      · intro i y Hc Hd hi ⟨z1, z2⟩ ⟨eb, ex⟩
        subst eb
        obtain ⟨a, ha, rfl⟩ := map_of (f := V.str) (l := pls ts) ex
        have ma := List.mem_of_getElem? ha
        refine ⟨rfl, ?_⟩
        refine ⟨_, rfl, _, rfl, _, rfl, fd, .ref (rF a), rfl, ?_, _, Sum.inr a, rfl, z2, ?_, Same.put z1 nR, ?_⟩
        · have z := DGet.k (k := Sum.inr a) (z1 _ _ (s12' _ _ hfd))
          rw [tblV_val (pm.mem_iff.mpr ma)] at z
          exact z
        · rw [tblV_len, List.length_take]
          omega
        · rw [upd_same, tblV_snoc (nat_fresh pnd ha) rfl, take_more ha]
      · intro H13 ⟨z1, z2⟩
        have e : (((("" : Str) :: ts.map Prod.fst).map V.str).length) = (pls ts).length := List.length_map _
        rw [e, List.take_length] at z2
        have s := off.trans (s12'.trans z1)
        refine k R rF F0 H13 s ((off.trans s12').free nR) (fun a ha => (hrF a (pm.mem_iff.mpr ha)).2) mv ⟨z2, fun a ha => z1 _ _ (s12' _ _ (hrF a (pm.mem_iff.mpr ha)).1)⟩
end
end FT


/-! Own: C.m(..) where m is a staticmethod of the class. -/
namespace L2
open PySem PySem.Spec PyProof.Rows
/-- C.m is a staticmethod: its record at p, its def at f -/
structure SMet (K : PySem.W.Frag) (C : Addr) (mc : Value) (m : Str) (p f : Addr) : Prop where
  at_ : PySem.W.findCls K (.ref C) mc m = some (.get (.builtin "staticmethod.__get__") (.ref p) .none (.ref C))
  rc : ∃ rest, PySem.W.recIn K p "staticmethod" = some (.ref f :: rest)
def tSMeth (C : Addr) (sp : Sp) (dvs : List V) (E : XK) (ta : TE) (t : TA) : TE := fun σ H Q => ta σ H fun x H1 => x = .ref C ∧ t σ H1 fun vs H2 => sp (vs ++ dvs) H2 Q E
section
variable {X : Cx} {CX : CXT} {k : Nat} {C p f : Addr} {mc : Value} {fd : FuncData} {ps : List Str} {sp : Sp} {dvs : List V} {ds : List Value} {E : XK} {o e : Expr} {es : List Expr} {m : Str} {pos apos : Pos} {ta : TE} {t : TA} {pl : Sem Bool}
theorem pe_smeth (he : PE X o ta) (r : ClX.CRead X.K C mc) (c : SMet X.K C mc m p f) (F : FnOk X.prog X.w X.K X.mg X.base CX k f fd ps sp) (hr : Room k X.A) (hk : PySem.W.keepIn X.K (.ref f) = true) (hb : Binds X.K fd ps ds) (hd : Vals dvs ds) (hx : Passes CX X E) (ha : PA X (e :: es) t)
    (one : starEach (e :: es) X.env = (false, eval e X.env) :: starEach es X.env := by rfl) (plain : (backTo pos (starEach es X.env)).any (·.1) = false := by rfl)
    (ev : eval (.Call (.Attribute o m apos) (e :: es) [] pos) X.env = (do
      let u ← eval o X.env
      standAt apos.atName
      let (g, first) ← holding [u] (getMethod u m pl)
      callWith pos g first (backTo pos (starEach (e :: es) X.env)) (backToKw pos (keywordEach [] X.env))) := by rfl) :
    PE X (.Call (.Attribute o m apos) (e :: es) [] pos) (tSMeth C sp dvs E ta t) := by
  refine ⟨fun pins s σ H Q I h => ?_⟩
  refine PySem.W.methodCall_KW (pl := pl) (thn (he.run pins s σ H _ I h) fun u s1 ⟨x, H1, J, rx, ex, q⟩ => ?_) ev
  subst ex
  obtain rfl : u = Value.ref C := rx
  obtain ⟨rest, hp⟩ := c.rc
  refine PySem.W.method_cls J.kIn r.ga (PySem.W.cls_bind J.kIn r.rd c.at_ (wpAny_call (PySem.W.sm_get (s := { s1 with toks := s1.toks + 1 }) J.kIn hp (PySem.W.handed_on rfl ?_))))
  refine PySem.W.callWith_K (h₀ := X.base) J.ok.mod.kin hk (thn (ha.run pos pins _ σ H1 _ (J.tok _) q) fun us s2 ⟨vs, H2, J2, rel, want⟩ => ⟨J2.kIn, ?_⟩) one plain
  have r2 : Vals (vs ++ dvs) (us ++ ds) := rel.append hd
  have len : (us ++ ds).length = ps.length := r2.length.symm.trans (F.len _ _ _ _ want)
  refine wpAny_call (codeAny_mono (F.run X.A X.stack s2 H2 ⟨us, []⟩ (us ++ ds) (vs ++ dvs) Q E hr J2.env0 (hb s2 us J2.kIn len) r2 want) fun r s' z => ?_)
  match r, z with
  | .error er, z => exact hx pins σ H2 s2 er s' J2 z
  | .ok (.ret u), z => exact J2.after z
  | .ok .next, z => exact z.elim
  | .ok .brk, z => exact z.elim
  | .ok .cont, z => exact z.elim
end
end L2


/-! listed_sizes, listed_places -/
namespace FT
open PySem L2 TL ClX LiI
/-- the scope of the comprehension that a def hands back -/
def retScope (st : Stmt) : Scope := match defBody st with
  | [.Return (some (.DictComp _ _ _ sc _)) _] => sc
  | _ => defScope st
def spLSizes (CF : Addr) : Sp := fun vs H Q _ => ∃ (x q : Addr) (ts : List (Str × Str)) (r : Str → Addr) (L : Str → List Int), vs = [.ref x, .ref q] ∧ FAt CF H x ts ∧ TreeOk ts ∧ LsAt H q (pls ts) r L ∧
  ∀ p H', Same H H' → H p = none → H' p = some (.dK (tblI (ts.map Prod.fst) (lsz ts L))) → Q (.ref p) H'
def spLPlaces : Sp := fun vs H Q _ => ∃ (q : Addr) (ts : List (Str × Str)) (r : Str → Addr) (L : Str → List Int) (n : Nat), vs = [.ref q] ∧ TreeOk ts ∧ LsAt H q (pls ts) r L ∧ Val ts n L ∧ n ≤ 60 ∧
  ∀ p H', Same H H' → H p = none → H' p = some (.lst (((usr n).map (plOf ts L)).map V.str)) → Q (.ref p) H'
def kvU (ts : List (Str × Str)) (L : Str → List Int) (X : List Int) : List (Key × V) := X.map fun u => (Sum.inl u, V.str (plOf ts L u))
theorem kvU_keys (ts : List (Str × Str)) (L : Str → List Int) (X : List Int) : (kvU ts L X).map (·.1) = X.map Sum.inl := by unfold kvU; rw [List.map_map] <;> rfl
theorem kvU_any {ts : List (Str × Str)} {L : Str → List Int} {u : Int} : ∀ {X : List Int}, u ∉ X → ((kvU ts L X).any fun kv => decide (kv.1 = Sum.inl u)) = false
  | [], _ => rfl
  | v :: X, h => by
    show (decide ((Sum.inl v : Key) = Sum.inl u) || (kvU ts L X).any fun kv => decide (kv.1 = Sum.inl u)) = false
    rw [kvU_any fun z => h (List.mem_cons_of_mem _ z), decide_eq_false fun z => h (by rw [← Sum.inl.inj z]; exact List.mem_cons_self ..)] <;> rfl
theorem kvU_put {ts : List (Str × Str)} {L : Str → List Int} {X : List Int} {u : Int} {z : Str} (h : u ∉ X) (e : z = plOf ts L u) : putK (kvU ts L X) (Sum.inl u) (V.str z) = kvU ts L (X ++ [u]) := by
  unfold putK
  rw [kvU_any h, if_neg (by decide)]
  unfold kvU
  rw [List.map_append, e] <;> rfl
theorem kvU_val {ts : List (Str × Str)} {L : Str → List Int} {u : Int} : ∀ {X : List Int}, u ∈ X → valV (kvU ts L X) (Sum.inl u) = some (.str (plOf ts L u))
  | v :: X, h => by
    by_cases e : v = u
    · subst e
      exact valV_pos rfl
    · exact (valV_neg (p := (Sum.inl v, V.str (plOf ts L v))) fun z => e (Sum.inl.inj z)).trans (kvU_val ((List.mem_cons.mp h).resolve_left fun z => e z.symm))
theorem nat_fresh2 {l : List Int} {i : Nat} {a : Int} (nd : l.Nodup) (h : l[i]? = some a) : a ∉ l.take i := fun hm => by
  obtain ⟨j, hj⟩ := List.mem_iff_getElem?.mp hm
  have jl := (List.getElem?_eq_some_iff.mp hj).1
  rw [List.length_take] at jl
  rw [List.getElem?_take, if_pos (by omega)] at hj
  have := (List.getElem?_inj (by omega) nd).mp (hj.trans h.symm)
  omega
/-- a method of a class, as a whole -/
structure Mt (P : Program) (w : World) (K : PySem.W.Frag) (mg : Str → Option Value) (base : Heap) (CX : CXT) (k : Nat) (C : Addr) (m : Str) (ps : List Str) (sp : Sp) (f : Addr) (fd : FuncData) : Prop where
  mt : Meth K C m f
  fn : FnOk P w K mg base CX k f fd ps sp
  bn : Binds K fd ps []
/-- a property, at any level -/
structure PrN (P : Program) (w : World) (K : PySem.W.Frag) (mg : Str → Option Value) (base : Heap) (k : Nat) (C : Addr) (x : Str) (sp : Sp) (p g : Addr) (fd : FuncData) : Prop where
  pr : PropOf K C x p g
  fn : FnOk P w K mg base CX0 k g fd ["self"] sp
  bn : Binds K fd ["self"] []
theorem sorted_usr {n : Nat} {ys : List Int} (p : ys.Perm (usr n)) (s : ys.Pairwise (· ≤ ·)) : ys = usr n := by
  refine List.Perm.eq_of_pairwise (le := (· ≤ ·)) (fun a b _ _ h1 h2 => by omega) s ?_ p
  unfold usr
  refine List.pairwise_map.mpr ((List.pairwise_lt_range (n := n)).imp fun h => ?_)
  omega
section
variable {P : Program} {w : World} {K : PySem.W.Frag} {mg : Str → Option Value} {base : Heap}
abbrev NLz : List Str := ["forest", "lists", "name", "other"]
theorem scLz : FnScope NLz ["forest", "lists"] (defScope s_listed_sizes) := ⟨rfl, rfl, rfl, by decide +kernel, rfl, by decide +kernel, by decide +kernel⟩
/-- len of a list or tuple -/
abbrev rLenS (K : PySem.W.Frag) : List V → Hp → VK → Prop := fun xs H Q => ∃ p ys, xs = [.ref p] ∧ (SqL K H p ys ∨ SqT K H p ys) ∧ Q (.int ys.length) H
theorem ok_listedSizes {f CF p1 g1 fU : Addr} {fd fd1 fdU : FuncData} (F : Fun K "listed_sizes" "listed_sizes" s_listed_sizes f fd) (T : Nm mg) (O : FoC K CF) (L1 : Pr1 P w K mg base CF "flags" (spFFlags CF) p1 g1 fd1) (U : Mt P w K mg base CX0 2 CF "under" ["self", "place"] (spUnder CF) fU fdU) :
    FnOk P w K mg base CX0 3 f fd ["forest", "lists"] (spLSizes CF) := by
  refine F.ok scLz (fun vs H Q E h => ?_) (fun cdv A outer s H vs Q E hr h => ?_)
  · obtain ⟨x, q, ts, r, L, rfl, _⟩ := h
    rfl
  · obtain ⟨x, q, ts, r, L, rfl, fa, o, hL, k⟩ := h
    have hu := hu_of hr
    have nd := scLz.nd
    have big : 1000 ≤ sizeLine := by decide
    have few := o.few
    refine ⟨_, pss_one (ps_ret (pe_dc (own := [("name", 2)]) (g := gName 2) (tt := tYes) (tk := tVar 2) (tv := tCB (rSum K) (tCons (tLc (iList K (tMeth CF "under" (spUnder CF) [] E0 (tVar 0) (tCons (tVar 2) tNil))) (gName 3) tYes (tCB (rLenS K) (tCons (tDGet (tVar 1) (tVar 3)) tNil)) [3]) tNil)) rfl nd (pi_list (pe_prop (pv 0) O.cl L1.pr L1.fn hr L1.bn .nil pass0 (by rfl)))
        (blkOk_by (N := NLz) (sc := defScope s_listed_sizes) (by decide +kernel)) (fun _ _ _ _ _ => pg_name (i := 2) nd rfl (Or.inl rfl)) (fun _ _ _ _ _ => pts_nil) (fun _ _ _ _ _ => pv 2)
        (fun _ _ _ _ _ => pe_callB (cr_sum rfl) (by rfl) T.sum (by decide +kernel) (pa_cons (pe_lc (own := [("other", 3)]) (g := gName 3) (tt := tYes) rfl nd (pi_list (pe_meth (pv 0) O.cl U.mt U.fn hr U.bn .nil pass0 (pa_cons (pv 2) pa_nil)))
          (blkOk_by (N := NLz) (sc := relS (retScope s_listed_sizes) (defScope s_listed_sizes)) (by decide +kernel)) (fun _ _ _ _ _ => pg_name (i := 3) nd rfl (Or.inl rfl)) (fun _ _ _ _ _ => pts_nil)
          (fun _ _ _ _ _ => pe_callB call_len_seq (by rfl) T.len PySem.boot_len (pa_cons (pe_dget hu (pv 1) (pv 3) (fun _ _ => rfl)) pa_nil))) pa_nil)))), ?_⟩
    obtain ⟨dx, dq, hx, hd⟩ := id fa
    refine ⟨_, rfl, x, dx, _, rfl, hx, x, ts, rfl, fa, fun pf nf => ⟨pf, rfl, ⟨_, SqL.of upd_same⟩, fun D nD => ?_⟩⟩
    obtain ⟨H1, e1⟩ : ∃ X, X = upd H pf (.lst ((ts.map Prod.fst).map V.str)) := ⟨_, rfl⟩
    have s1 : Same H H1 := e1 ▸ same_new nf
    have a1 : H1 pf = some (.lst ((ts.map Prod.fst).map V.str)) := by rw [e1]; exact upd_same
    rw [← e1] at nD ⊢
    refine dc_it walk_list (fun i H' => Same H1 H' ∧ H' D = some (.dK (tblI ((ts.map Prod.fst).take i) (lsz ts L)))) ⟨same_new nD, upd_same⟩ (fun i H' _ z => SqL.of (z.1 _ _ a1)) ?_ ?_
    · intro i y Ha Hb hi ⟨q1, q2⟩ ⟨eb, ex⟩
      subst eb
      obtain ⟨a, ha, rfl⟩ := map_of ex
      have ma := List.mem_of_getElem? ha
      have s0 := s1.trans q1
      refine ⟨rfl, ?_⟩
      refine ⟨_, rfl, ?_⟩
      refine ⟨_, rfl, x, dx, _, rfl, s0 _ _ hx, rfl, _, rfl, x, ts, a, rfl, fa.mono s0, o, ma, fun pu Hu su npu hpu => ⟨pu, rfl, ⟨_, SqL.of hpu⟩, fun D2 nD2 => ?_⟩⟩
      refine lc_it walk_list (fun j H' => Same Hu H' ∧ H' D2 = some (.lst ((((under ts a).take j).map fun b => ((L b).length : Int)).map V.int))) ⟨same_new nD2, upd_same⟩ (fun j H' _ z => SqL.of (z.1 _ _ hpu)) ?_ ?_
      · intro j y2 Hc Hd hj ⟨z1, z2⟩ ⟨eb2, ex2⟩
        subst eb2
        obtain ⟨b, hb, rfl⟩ := map_of ex2
        have mb : b ∈ pls ts := List.mem_cons_of_mem _ (List.mem_filter.mp (show b ∈ (ts.map Prod.fst).filter _ from List.mem_of_getElem? hb)).1
        have sL := LsAt.mono ((s0.trans su).trans z1) hL
        have ul := List.length_filter_le (fun b => decide (a ∈ pathOf ts b)) (ts.map Prod.fst)
        rw [List.length_map] at ul
        have ul2 : (under ts a).length ≤ 12 := Nat.le_trans ul few
        refine ⟨rfl, ?_⟩
        refine ⟨_, rfl, _, rfl, q, .ref (r b), rfl, sL.get mb, r b, _, rfl, .inl (SqL.of (sL.2 b mb)), _, z2, ?_, Same.put z1 nD2, ?_⟩
        · rw [List.length_map, List.length_map, List.length_take]
          omega
        · rw [upd_same, take_more hb, List.map_append, List.map_append, List.length_map] <;> rfl
      · intro H3 ⟨z1, z2⟩
        rw [List.length_map, List.take_length] at z2
        refine ⟨D2, _, rfl, SqL.of z2, _, Sum.inr a, rfl, z1 _ _ (su _ _ q2), ?_, ((q1.trans su).trans z1).put nD, ?_⟩
        · rw [tblI_len, List.length_take, List.length_map]
          omega
        · rw [upd_same]
          show some (HO.dK (putK (tblI _ (lsz ts L)) (Sum.inr a) (V.int (lsz ts L a)))) = _
          rw [tblI_snoc (nat_fresh o.nd ha) rfl, take_more ha]
    · intro H3 ⟨z1, z2⟩
      rw [List.length_map, List.take_length] at z2
      exact k D H3 (s1.trans z1) (s1.free nD) z2
abbrev NLp : List Str := ["lists", "places", "place", "user"]
theorem scLp : FnScope NLp ["lists"] (defScope s_listed_places) := ⟨rfl, rfl, rfl, by decide +kernel, rfl, by decide +kernel, by decide +kernel⟩
theorem ok_listedPlaces {f : Addr} {fd : FuncData} (F : Fun K "listed_places" "listed_places" s_listed_places f fd) (T : Nm mg) : FnOk P w K mg base CX0 1 f fd ["lists"] spLPlaces := by
  refine F.ok scLp (fun vs H Q E h => ?_) (fun cdv A outer s H vs Q E hr h => ?_)
  · obtain ⟨q, ts, r, L, n, rfl, _⟩ := h
    rfl
  · obtain ⟨q, ts, r, L, n, rfl, o, hL, hV, n60, k⟩ := h
    have hu := hu_of hr
    have nd := scLp.nd
    have big : 1000 ≤ sizeLine := by decide
    have few := o.few
    refine ⟨_, pss_cons (ps_set (i := 1) nd rfl (.inr rfl) (pe_lock (pe_dc2 (own := [("place", 2), ("user", 3)]) (vs1 := [3]) (g := gName 2) (tt := tYes) (wi1 := iList K (tDGet (tVar 0) (tVar 2))) (g1 := gName 3) (tt1 := tYes) (tk := tVar 3) (tv := tVar 2) rfl nd hu (pi_keys (pv 0)) (blkOk_by (N := NLp) (sc := defScope s_listed_places) (by decide +kernel)) (by decide)
        (fun _ _ _ _ _ => pg_name (i := 2) nd rfl (Or.inl rfl)) (fun _ _ _ _ _ => pts_nil) (fun _ _ _ _ _ => pi_list (pe_dget hu (pv 0) (pv 2) (fun _ _ => rfl))) (fun _ _ _ _ _ => pg_name (i := 3) nd rfl (Or.inl rfl)) (fun _ _ _ _ _ => pts_nil) (fun _ _ _ _ _ => pv 3) (fun _ _ _ _ _ => pv 2))))
      (pss_one (ps_ret (pe_lc (own := [("user", 3)]) (g := gName 3) (tt := tYes) (te := tDGet (tVar 1) (tVar 3)) rfl nd (pi_list (pe_callB (call_sortedDI rfl) (by rfl) T.srt (by decide +kernel) (pa_cons (pv 1) pa_nil)))
        (blkOk_by (N := NLp) (sc := defScope s_listed_places) (by decide +kernel)) (fun _ _ _ _ _ => pg_name (i := 3) nd rfl (Or.inl rfl)) (fun _ _ _ _ _ => pts_nil) (fun _ _ _ _ _ => pe_dget hu (pv 1) (pv 3) (fun _ _ => rfl))))), ?_⟩
    have ndX : ((pls ts).flatMap L).Nodup := hV.nodup_iff.mpr (usr_nd n)
    have lX : ((pls ts).flatMap L).length = n := by
      have e := hV.length_eq
      unfold usr at e
      rw [List.length_map, List.length_range] at e
      exact e
    have pnd := pls_nd o
    refine ⟨q, _, hL.1, trivial, fun od => ⟨_, rfl, q, od, rfl, .inl ⟨_, upd_same, fun D nD => ?_⟩⟩⟩
    have Dq : D ≠ q := (ne_of_none upd_same nD).symm
    obtain ⟨H0, e0⟩ : ∃ X, X = upd H q (.frz od (.dK (tblV (pls ts) fun p => .ref (r p)))) := ⟨_, rfl⟩
    have hq0 : H0 q = some (.frz od (.dK (tblV (pls ts) fun p => .ref (r p)))) := by rw [e0]; exact upd_same
    have hl0 : ∀ p ∈ pls ts, H0 (r p) = some (.lst ((L p).map V.int)) := fun p hp => by
      have z := hL.2 p hp
      rw [e0, upd_ne (ne_of z hL.1 (by intro z; cases z))]
      exact z
    rw [← e0] at nD ⊢
    refine dcG_it walk_keys (fun i H' => Same H0 H' ∧ H' D = some (.dK (kvU ts L (((pls ts).take i).flatMap L)))) ⟨same_new nD, upd_same⟩ (fun i H' _ z => z.1 _ _ hq0) ?_ ?_
    · intro i y Ha Hb hi ⟨q1, q2⟩ ⟨eb, kk, vv, hk, ey⟩
      subst eb
      subst ey
      obtain ⟨p, hp, rfl, rfl⟩ := tblV_at hk
      rw [show kV (Sum.inr p) = V.str p from rfl]
      have mp := List.mem_of_getElem? hp
      have pp := mem_pls.mp mp
      have lp := q1 _ _ (hl0 p mp)
      refine ⟨rfl, ?_⟩
      refine ⟨_, rfl, _, rfl, q, .ref (r p), rfl, .inl ⟨_, Sum.inr p, .inr ⟨od, q1 _ _ hq0⟩, rfl, (tblV_val (g := fun p => V.ref (r p)) mp).symm⟩, r p, rfl, ⟨_, SqL.of lp⟩, ?_⟩
      have more : ((pls ts).take (i + 1)).flatMap L = ((pls ts).take i).flatMap L ++ L p := by
        rw [take_more hp, List.flatMap_append]
        show _ ++ (L p ++ []) = _
        rw [List.append_nil]
      have split : (pls ts).flatMap L = (((pls ts).take i).flatMap L ++ L p) ++ ((pls ts).drop (i + 1)).flatMap L := by
        rw [← more, ← List.flatMap_append, List.take_append_drop]
      -- the inner source
      refine ⟨fun j m H' => m = (L p).length - j ∧ j ≤ (L p).length ∧ Same H0 H' ∧ H' D = some (.dK (kvU ts L (((pls ts).take i).flatMap L ++ (L p).take j))), ⟨(L p).length, by simp, Nat.zero_le _, q1, by rw [List.take_zero, List.append_nil]; exact q2⟩, fun j m H' ⟨em, hj, z1, z2⟩ => ?_⟩
      have lp' := z1 _ _ (hl0 p mp)
      have wl := walk_list (K := K) (a := r p) (xs := (L p).map V.int)
      rcases Nat.lt_or_ge j (L p).length with lt | ge
      · refine .inr ⟨wl.goes j H' (by rw [List.length_map]; exact lt) (SqL.of lp'), fun H' => Same H0 H' ∧ H' D = some (.dK (kvU ts L (((pls ts).take i).flatMap L ++ (L p).take (j + 1)))), fun H' z => ⟨(L p).length - (j + 1), by omega, rfl, lt, z.1, z.2⟩, fun y2 H'' yy => ?_⟩
        obtain ⟨eb2, ex2⟩ := wl.yields j H' y2 H'' (by rw [List.length_map]; exact lt) (SqL.of lp') yy
        subst eb2
        obtain ⟨u, hu', rfl⟩ := map_of ex2
        have mu := List.mem_of_getElem? hu'
        refine ⟨rfl, ?_⟩
        refine ⟨_, rfl, _, rfl, _, Sum.inl u, rfl, z2, ?_, Same.put z1 nD, ?_⟩
        · unfold kvU
          rw [List.length_map]
          have := congrArg List.length split
          rw [lX, List.length_append, List.length_append] at this
          rw [List.length_append, List.length_take]
          omega
        · rw [upd_same, kvU_put ?_ (plOf_of hV pp mu).symm, take_more hu', List.append_assoc]
          intro hm
          have nd2 := ndX
          rw [split] at nd2
          have nd3 := (List.nodup_append.mp nd2).1
          rcases List.mem_append.mp hm with hm | hm
          · exact (List.nodup_append.mp nd3).2.2 u hm u mu rfl
          · exact nat_fresh2 (List.nodup_append.mp nd3).2.1 hu' hm
      · have ej : j = (L p).length := by omega
        subst ej
        rw [List.take_length, ← more] at z2
        refine .inl ⟨?_, z1, z2⟩
        have := wl.stops H' (SqL.of lp')
        rw [List.length_map] at this
        exact this
    intro H1 ⟨s1, hD⟩
    rw [tblV_len, List.take_length] at hD
    refine ⟨s1 _ _ hq0, ?_⟩
    have sH : Same H (upd H1 q (.dK (tblV (pls ts) fun p => .ref (r p)))) := unlock_same hL.1 (by rw [← e0]; exact s1)
    have nD0 : H D = none := by rw [e0, upd_ne Dq] at nD; exact nD
    obtain ⟨H2, e2⟩ : ∃ X, X = upd H1 q (.dK (tblV (pls ts) fun p => .ref (r p))) := ⟨_, rfl⟩
    have hD2 : H2 D = some (.dK (kvU ts L ((pls ts).flatMap L))) := by rw [e2, upd_ne Dq]; exact hD
    rw [← e2] at sH ⊢
    refine ⟨_, rfl, D, _, (pls ts).flatMap L, rfl, .inl hD2, kvU_keys ts L _, by omega, fun ys p pm srt np => ⟨p, rfl, ⟨_, SqL.of upd_same⟩, fun R nR => ?_⟩⟩
    have eys := sorted_usr (pm.trans hV) srt
    subst eys
    obtain ⟨H3, e3⟩ : ∃ X, X = upd H2 p (.lst ((usr n).map V.int)) := ⟨_, rfl⟩
    have s23 : Same H2 H3 := e3 ▸ same_new np
    have hp3 : H3 p = some (.lst ((usr n).map V.int)) := by rw [e3]; exact upd_same
    rw [← e3] at nR ⊢
    have ul : (usr n).length = n := by
      unfold usr
      rw [List.length_map, List.length_range]
    refine lc_it walk_list (fun i H' => Same H3 H' ∧ H' R = some (.lst ((((usr n).take i).map (plOf ts L)).map V.str))) ⟨same_new nR, upd_same⟩ (fun i H' _ z => SqL.of (z.1 _ _ hp3)) ?_ ?_
    · intro i y Ha Hb hi ⟨z1, z2⟩ ⟨eb, ex⟩
      subst eb
      obtain ⟨u, hu', rfl⟩ := map_of ex
      have mu := List.mem_of_getElem? hu'
      refine ⟨rfl, ?_⟩
      refine ⟨_, rfl, _, rfl, D, .str (plOf ts L u), rfl, ?_, _, z2, ?_, Same.put z1 nR, ?_⟩
      · have z := DGet.k (k := Sum.inl u) (z1 _ _ (s23 _ _ hD2))
        rw [kvU_val (hV.mem_iff.mpr mu)] at z
        exact z
      · rw [List.length_map, List.length_map, List.length_take]
        omega
      · rw [upd_same, take_more hu', List.map_append, List.map_append] <;> rfl
    · intro H4 ⟨z1, z2⟩
      rw [List.length_map, List.take_length] at z2
      exact k R H4 ((sH.trans s23).trans z1) ((sH.trans s23).free nR) z2
end
end FT


/-! Assignment: made of valid places; its places -/
namespace FT
open PySem L2 TL ClX
/-- the class Assignment -/
structure Ac (K : PySem.W.Frag) (mg : Str → Option Value) (CA : Addr) (mc : Value) : Prop where
  gA : mg "Assignment" = some (.ref CA)
  rd : CRead K CA mc
  most : ∃ u, CVal K CA mc "MOST" (.int 60) u
  cl : Cls K CA
  nF : NoAttr K CA "own_forest"
  nP : NoAttr K CA "own_places"
/-- an assignment at y: its forest, its places -/
def AAt (CA : Addr) (H : Hp) (y x : Addr) (zs : List Str) : Prop := ∃ dy p, H y = some (.ins CA dy [("own_forest", .ref x), ("own_places", .ref p)]) ∧ H p = some (.lst (zs.map V.str))
theorem AAt.mono {CA y x : Addr} {H H' : Hp} {zs : List Str} (s : Same H H') (h : AAt CA H y x zs) : AAt CA H' y x zs := let ⟨dy, p, e1, e2⟩ := h; ⟨dy, p, s _ _ e1, s _ _ e2⟩
theorem put2a {u v : V} : putF "own_places" v [(("own_forest" : Str), u)] = [(("own_forest" : Str), u), (("own_places" : Str), v)] := by
  unfold putF
  rw [if_neg (by decide +kernel)] <;> rfl
def spAInit (CF CA : Addr) : Sp := fun vs H Q _ => ∃ (y x l dy : Addr) (ts : List (Str × Str)) (zs : List Str), vs = [.ref y, .ref x, .ref l] ∧ H y = some (.ins CA dy []) ∧ FAt CF H x ts ∧ TreeOk ts ∧ H l = some (.lst (zs.map V.str)) ∧ 1 ≤ zs.length ∧ zs.length ≤ 60 ∧ (∀ z ∈ zs, Pl ts z) ∧
  ∀ H', AAt CA H' y x zs → (∀ b o, b ≠ y → H b = some o → H' b = some o) → Q .non H'
def spAPlaces (CA : Addr) : Sp := fun vs H Q _ => ∃ (y x : Addr) (zs : List Str), vs = [.ref y] ∧ AAt CA H y x zs ∧ ∀ p, H p = none → Q (.ref p) (upd H p (.lst (zs.map V.str)))
section
variable {P : Program} {w : World} {K : PySem.W.Frag} {mg : Str → Option Value} {base : Heap}
theorem scAInit : FnScope ["self", "forest", "places", "user", "place"] ["self", "forest", "places"] (defScope s_Assignment___init__) := ⟨rfl, rfl, rfl, by decide +kernel, rfl, by decide +kernel, by decide +kernel⟩
theorem ok_ainit {f CF CA : Addr} {mc mcA : Value} {fd : FuncData} (F : Fun K "__init__" "Assignment.__init__" s_Assignment___init__ f fd) (T : Nm mg) (O : FoC K CF) (Z : Fc K mg CF mc) (B : Ac K mg CA mcA) : FnOk P w K mg base CX0 1 f fd ["self", "forest", "places"] (spAInit CF CA) := by
  obtain ⟨um, cm⟩ := B.most
  obtain ⟨ur, cr⟩ := Z.root
  refine F.ok scAInit (fun vs H Q E h => ?_) (fun cdv A outer s H vs Q E hr h => ?_)
  · obtain ⟨y, x, l, dy, ts, zs, rfl, _⟩ := h
    rfl
  · obtain ⟨y, x, l, dy, ts, zs, rfl, hy, fa, o, hl, one, few, mem, k⟩ := h
    have hu := hu_of hr
    refine ⟨_, pss_cons (ps_if (PW.pt (pw_or (pt_not (pt_val (pe_callB call_isiT (by rfl) T.isi (by decide +kernel) (pa_cons (pv 2) (pa_cons (pe_tup (pa_cons (pe_bltn (v := .ty "list") (u := .type "list") (by rfl) T.lst (by decide +kernel) rfl) (pa_cons (pe_bltn (v := .ty "tuple") (u := .type "tuple") (by rfl) T.tup (by decide +kernel) rfl) pa_nil))) pa_nil)))))
        (pw_or1 (pt_not (pt_chain op_le op_le pe_int (pe_callB call_len_seq (by rfl) T.len PySem.boot_len (pa_cons (pv 2) pa_nil)) (pe_cval (pe_glob (v := .ref CA) (by rfl) B.gA rfl))))))) pss_never pss_nil)
      (pss_cons (ps_for PassesOwn.never rfl (pi_enum rfl T.enu (pa_cons (pv 2) pa_nil)) (pg_tup rfl (pgs_cons (pg_name (i := 3) scAInit.nd rfl (.inl rfl)) (pgs_cons (pg_name (i := 4) scAInit.nd rfl (.inl rfl)) pgs_nil)))
        (pss_one (ps_if (PW.pt (pw_or (pt_not (pt_val (pe_callB call_isi (by rfl) T.isi (by decide +kernel) (pa_cons (pv 4) (pa_cons (pe_bltn (v := .ty "str") (u := .type "str") (by rfl) T.str (by decide +kernel) rfl) pa_nil)))))
          (pw_or1 (PW.pt (pw_and (pt_cmpR op_ne (pv 4) (pe_cval (pe_glob (v := .ref CF) (by rfl) Z.gF rfl)) (nomark _)) (pw_and1 (pt_cmp (pc_dnotin hu (pv 4) (pe_fld (pv 1) rfl))))))))) pss_never pss_nil)))
      (pss_cons (ps_fld (pv 0) (pv 1) rfl)
      (pss_one (ps_fld (pv 0) (pe_callTy call_list_of (by rfl) T.lst (by decide +kernel) (pa_cons (pv 2) pa_nil)) rfl)))), ?_⟩
    have big : 1000 ≤ sizeLine := by decide
    obtain ⟨dx, dq, hx, hd⟩ := fa
    refine ⟨_, rfl, by show 2 ≤ sizeLine; omega, fun tp ntp => ?_⟩
    have s1 := same_new (o := .tup [.ty "list", .ty "tuple"]) ntp
    refine ⟨.ref l, tp, [.ty "list", .ty "tuple"], _, [.type "list", .type "tuple"], true, rfl, upd_same, .cons (.ty _) (.cons (.ty _) .nil), .base (.lst (s1 _ _ hl)), kitAny_cons (b := true) (kit_ty (by decide +kernel)) (fun z => nomatch z) (fun _ => rfl), true, rfl, ?_⟩
    refine iteF ?_
    obtain ⟨H1, e1⟩ : ∃ X, X = upd H tp (.tup [.ty "list", .ty "tuple"]) := ⟨_, rfl⟩
    rw [← e1] at s1 ⊢
    have hl1 := s1 _ _ hl
    refine ⟨_, rfl, l, _, rfl, .inl (SqL.of hl1), _, _, rfl, rfl, _, rfl, ?_⟩
    have ll : (zs.map V.str).length = zs.length := List.length_map ..
    rw [if_pos (decide_eq_true (by omega))]
    refine ⟨CA, mcA, _, um, rfl, B.rd, cm, _, _, rfl, rfl, _, rfl, ?_⟩
    rw [decide_eq_true (show ((zs.map V.str).length : Int) ≤ 60 by omega)]
    refine iteF ?_
    refine ⟨_, rfl, l, _, rfl, SqL.of hl1, ?_⟩
    refine for_it walk_enum (fun j σ' H' => (∃ u3 u4, σ' = [some (.ref y), some (.ref x), some (.ref l), u3, u4]) ∧ Same H1 H') ⟨⟨_, _, rfl⟩, fun _ _ e => e⟩ (fun j σ' H' _ z => SqL.of (z.2 _ _ hl1)) ?_ ?_
    · intro j T' σ' Ha Hb hj ⟨⟨u3, u4, e⟩, sa⟩ ⟨Tp, i, z, eT, nT, eH, ey, ez⟩
      subst e
      subst eT
      subst eH
      cases ey
      obtain ⟨a, ha, rfl⟩ := map_of (show (zs.map V.str)[j]? = some z from ez)
      have ma := mem a (List.mem_of_getElem? ha)
      have sT := same_new (o := .tup [.int (j : Int), .str a]) nT
      have hx2 := sT _ _ (sa _ _ (s1 _ _ hx))
      have hd2 := sT _ _ (sa _ _ (s1 _ _ hd))
      refine ⟨Tp, _, rfl, .inl (.inl upd_same), rfl, ?_⟩
      refine ⟨_, _, rfl, _, _, rfl, rfl, ?_⟩
      refine ⟨_, rfl, .str a, _, _, _, true, rfl, .ty _, .base (.str a), kit_ty (by decide +kernel), true, rfl, ?_⟩
      refine iteF ?_
      refine ⟨_, rfl, CF, mc, _, ur, rfl, Z.rd, cr, rfl, _, rfl, ?_⟩
      by_cases e0 : a = ""
      · rw [decide_eq_true (show V.str a = V.str "" by rw [e0])]
        refine iteF ?_
        exact iteF ⟨⟨_, _, rfl⟩, sa.trans sT⟩
      · rw [decide_eq_false (show ¬ V.str a = V.str "" from fun z => e0 (V.str.inj z))]
        show if true = true then _ else _
        rw [if_pos rfl]
        obtain ⟨pa, hp⟩ := par_some o.nd (ma.resolve_left e0)
        refine ⟨_, rfl, _, rfl, x, CF, dx, _, .ref dq, rfl, hx2, O.cl, O.nA, rfl, dq, _, rfl, dget_prs (.inl hd2) hp, _, rfl, ?_⟩
        exact iteF ⟨⟨_, _, rfl⟩, sa.trans sT⟩
    · intro σ' H2 ⟨⟨u3, u4, e⟩, sa⟩
      subst e
      have s2 : Same H H2 := s1.trans sa
      have hy2 := s2 _ _ hy
      have hl2 := s2 _ _ hl
      have yl : l ≠ y := ne_of hl2 hy2 (by intro z; cases z)
      refine ⟨_, rfl, _, rfl, y, CA, dy, [], rfl, hy2, B.cl, B.nF, by show 0 < 1000; decide, ?_⟩
      refine ⟨_, rfl, l, _, rfl, .inl (SqL.of (by rw [upd_ne yl]; exact hl2)), fun p np => ?_⟩
      have yp : y ≠ p := ne_of_none upd_same np
      refine ⟨_, rfl, y, CA, dy, [("own_forest", .ref x)], rfl, by rw [upd_ne yp, upd_same] <;> rfl, B.cl, B.nP, by show 1 < 1000; decide, ?_⟩
      rw [put2a]
      refine k _ ⟨dy, p, upd_same, by rw [upd_ne yp.symm, upd_same]⟩ fun b o by_ e => ?_
      have np2 : H2 p = none := by
        rw [upd_ne yp.symm] at np
        exact np
      rw [upd_ne by_, upd_ne (ne_of_none (s2 _ _ e) np2), upd_ne by_]
      exact s2 _ _ e
theorem scAPlaces : FnScope ["self"] ["self"] (defScope s_Assignment_places) := ⟨rfl, rfl, rfl, by decide +kernel, rfl, by decide +kernel, by decide +kernel⟩
theorem ok_aplaces {f CA : Addr} {mcA : Value} {fd : FuncData} (F : Fun K "places" "Assignment.places" s_Assignment_places f fd) (T : Nm mg) (B : Ac K mg CA mcA) : FnOk P w K mg base CX0 1 f fd ["self"] (spAPlaces CA) := by
  refine F.ok scAPlaces (fun vs H Q E h => ?_) (fun cdv A outer s H vs Q E hr h => ?_)
  · obtain ⟨y, x, zs, rfl, _⟩ := h
    rfl
  · obtain ⟨y, x, zs, rfl, ⟨dy, p, hy, hp⟩, k⟩ := h
    refine ⟨_, pss_one (ps_ret (pe_callTy call_list_of (by rfl) T.lst (by decide +kernel) (pa_cons (pe_fld (pv 0) rfl) pa_nil))), ?_⟩
    exact ⟨_, rfl, y, CA, dy, _, .ref p, rfl, hy, B.cl, B.nP, rfl, p, _, rfl, .inl (SqL.of hp), fun q nq => k q nq⟩
end
end FT


/-! are_lists of valid lists; Rollout: __init__, load -/
namespace FT
open PySem L2 TL ClX LiI
def tlLst (wi1 : TI) (g1 : TG) (tt1 : TT) (te : TE) (vs1 : List Nat) : Addr → St → Hp → (Hp → Prop) → Prop := fun D σ H N => wi1 σ H fun J1 H4 => ∃ W1 : Nat → Nat → Hp → Prop, (∃ m, W1 0 m H4) ∧ ∀ j k H, W1 j k H →
  (J1.stop j H ∧ N H) ∨ (J1.go j H ∧ ∃ Nx1 : Hp → Prop, (∀ H', Nx1 H' → ∃ k', k' < k ∧ W1 (j + 1) k' H') ∧ ∀ x H', J1.yld j H x H' → g1 x (wipe σ vs1) H' fun σ3 H5 => wipe σ3 vs1 = wipe σ vs1 ∧ tt1 σ3 H5 fun b H6 =>
    if b = true then te σ3 H6 fun y H7 => ∃ acc, H7 D = some (.lst acc) ∧ acc.length < sizeLine ∧ Nx1 (upd H7 D (.lst (acc ++ [y]))) else Nx1 H6)
theorem dp_ints {K : PySem.W.Frag} {H : Hp} : ∀ ns : List Int, DpAll K H (ns.map V.int) (ns.map PyData.int)
  | [] => .nil
  | n :: ns => .cons (.int n) (dp_ints ns)
theorem lay_ints : ∀ ns : List Int, PyData.canLayAll0 (ns.map PyData.int) = true ∧ PyData.depthAll (ns.map PyData.int) ≤ 0
  | [] => ⟨rfl, Nat.le_refl _⟩
  | n :: ns => by
    obtain ⟨h1, h2⟩ := lay_ints ns
    constructor
    · show (true && PyData.canLayAll0 (ns.map PyData.int)) = true
      rw [h1] <;> rfl
    · show max 0 (PyData.depthAll (ns.map PyData.int)) ≤ 0
      omega
theorem ints_shaped (ns : List Int) : (PyData.list (ns.map PyData.int)).canLay0 = true ∧ SeqAt.shaped (.list (ns.map PyData.int)) = true := by
  obtain ⟨h1, h2⟩ := lay_ints ns
  have c : (PyData.list (ns.map PyData.int)).canLay0 = true := h1
  refine ⟨c, ?_⟩
  unfold SeqAt.shaped
  rw [c]
  have d : (PyData.list (ns.map PyData.int)).depth ≤ 64 := by
    show PyData.depthAll (ns.map PyData.int) + 1 ≤ 64
    omega
  rw [decide_eq_true d] <;> rfl
theorem rgV_usr (n : Nat) : rgV 0 (n : Int) = (usr n).map V.int := by
  unfold rgV usr
  rw [List.map_map, show ((n : Int) - 0).toNat = n by omega]
  refine List.map_congr_left fun k _ => ?_
  show V.int (0 + (k : Int)) = V.int (k : Int)
  rw [Int.zero_add]
theorem usr_len (n : Nat) : (usr n).length = n := by
  unfold usr
  rw [List.length_map, List.length_range]
/-- the class Rollout -/
structure RoC (K : PySem.W.Frag) (mg : Str → Option Value) (CR : Addr) (mc : Value) : Prop where
  gR : mg "Rollout" = some (.ref CR)
  rd : CRead K CR mc
  cl : Cls K CR
  nG : NoAttr K CR "grown_from"
  nK : NoAttr K CR "kept_lists"
  nS : NoAttr K CR "past_sizes"
def rFs (x q z : Addr) : List (Str × V) := [("grown_from", .ref x), ("kept_lists", .ref q), ("past_sizes", .ref z)]
def L0 (n : Nat) (p : Str) : List Int := if p = "" then usr n else []
def spAreL (CF : Addr) : Sp := fun vs H Q _ => ∃ (x q : Addr) (ts : List (Str × Str)) (r : Str → Addr) (L : Str → List Int) (n : Nat), vs = [.ref x, .ref q] ∧ FAt CF H x ts ∧ TreeOk ts ∧ LsAt H q (pls ts) r L ∧ Val ts n L ∧ 1 ≤ n ∧ n ≤ 60 ∧ ∀ H', Same H H' → Q (.bl true) H'
def spRInit (CF CR : Addr) : Sp := fun vs H Q _ => ∃ (y x dy : Addr) (n : Nat) (ts : List (Str × Str)), vs = [.ref y, .ref x, .int (n : Int)] ∧ H y = some (.ins CR dy []) ∧ FAt CF H x ts ∧ TreeOk ts ∧ 1 ≤ n ∧ n ≤ 60 ∧
  ∀ (H' : Hp) (q z : Addr) (r : Str → Addr), H q = none → H z = none → (∀ p ∈ pls ts, H (r p) = none) → (∀ b u, b ≠ y → H b = some u → H' b = some u) → H' y = some (.ins CR dy (rFs x q z)) → LsAt H' q (pls ts) r (L0 n) → H' z = some (.lst []) → Q .non H'
section
variable {P : Program} {w : World} {K : PySem.W.Frag} {mg : Str → Option Value} {base : Heap}
abbrev NAl : List Str := ["forest", "lists", "users", "place", "user"]
theorem scAl : FnScope NAl ["forest", "lists"] (defScope s_are_lists) := ⟨rfl, rfl, rfl, by decide +kernel, rfl, by decide +kernel, by decide +kernel⟩
theorem ok_areLists {f fP fI CF CA : Addr} {mcA : Value} {fd fdP fdI : FuncData} (F : Fun K "are_lists" "are_lists" s_are_lists f fd) (T : Nm mg) (B : Ac K mg CA mcA) (DP : Dn P w K mg base CX0 3 "places_of" ["forest"] (spPlacesOf CF) fP fdP) (I : Dn P w K mg base CX0 1 "is_integer" ["value", "least"] (spIsInt K) fI fdI) :
    FnOk P w K mg base CX0 4 f fd ["forest", "lists"] (spAreL CF) := by
  obtain ⟨um, cm⟩ := B.most
  refine F.ok scAl (fun vs H Q E h => ?_) (fun cdv A outer s H vs Q E hr h => ?_)
  · obtain ⟨x, q, ts, r, L, n, rfl, _⟩ := h
    rfl
  · obtain ⟨x, q, ts, r, L, n, rfl, fa, o, hL, hV, n1, n60, k⟩ := h
    have hu := hu_of hr
    have hr1 : Room 1 _ := hr.mono (by decide)
    have nd := scAl.nd
    have big : 1000 ≤ sizeLine := by decide
    have few := o.few
    have pln := pls_len ts
    refine ⟨_, pss_cons (ps_if (PW.pt (pw_or (pt_not (pt_val (pe_callB call_isi (by rfl) T.isi (by decide +kernel) (pa_cons (pv 1) (pa_cons (pe_bltn (v := .ty "dict") (u := .type "dict") (by rfl) T.dct (by decide +kernel) rfl) pa_nil)))))
        (pw_or1 (pt_cmpR op_ne (pe_callB call_lenD (by rfl) T.len PySem.boot_len (pa_cons (pv 1) pa_nil)) (pe_callB call_len_seq (by rfl) T.len PySem.boot_len (pa_cons (pe_call DP.ok hr rfl DP.mgn DP.kp DP.bn .nil pass0 (pa_cons (pv 0) pa_nil)) pa_nil)) (nomark _))))) (pss_one (ps_ret pe_bl)) pss_nil)
      (pss_cons (ps_if (pt_not (pt_val (pe_callB (cr_all rfl) (by rfl) T.all (by decide +kernel) (pa_cons (pe_lc (own := [("place", 3)]) (g := gName 3) (tt := tYes) (te := tAndV (tDIn (tVar 3) (tVar 1)) (tCB (rIsiT K) (tCons (tDGet (tVar 1) (tVar 3)) (tCons (tTup (tCons (tC (.ty "list")) (tCons (tC (.ty "tuple")) tNil))) tNil)))) rfl nd
          (pi_list (pe_call DP.ok hr rfl DP.mgn DP.kp DP.bn .nil pass0 (pa_cons (pv 0) pa_nil))) (blkOk_by (N := NAl) (sc := defScope s_are_lists) (by decide +kernel)) (fun _ _ _ _ _ => pg_name (i := 3) nd rfl (Or.inl rfl)) (fun _ _ _ _ _ => pts_nil)
          (fun _ _ _ _ _ => pe_and (pe_cmp (pc_din hu (pv 3) (pv 1)) rfl) (pe_one (pe_callB call_isiT (by rfl) T.isi (by decide +kernel) (pa_cons (pe_dget hu (pv 1) (pv 3) (fun _ _ => rfl)) (pa_cons (pe_tup (pa_cons (pe_bltn (v := .ty "list") (u := .type "list") (by rfl) T.lst (by decide +kernel) rfl) (pa_cons (pe_bltn (v := .ty "tuple") (u := .type "tuple") (by rfl) T.tup (by decide +kernel) rfl) pa_nil))) pa_nil)))))) pa_nil)))) (pss_one (ps_ret pe_bl)) pss_nil)
      (pss_cons (ps_lock (ps_setLc2 (i := 2) (own := [("place", 3), ("user", 4)]) (vs1 := [4]) (g := gName 3) (tt := tYes) (wi1 := iList K (tDGet (tVar 1) (tVar 3))) (g1 := gName 4) (tt1 := tYes) (te := tVar 4) rfl nd rfl rfl (sw_true rfl rfl rfl (by decide +kernel)) (pi_keys (pv 1)) (blkOk_by (N := NAl) (sc := defScope s_are_lists) (by decide +kernel)) (by decide)
          (fun _ _ _ _ _ => pg_name (i := 3) nd rfl (Or.inl rfl)) (fun _ _ _ _ _ => pts_nil) (fun _ _ _ _ _ => pi_list (pe_dget hu (pv 1) (pv 3) (fun _ _ => rfl))) (fun _ _ _ _ _ => pg_name (i := 4) nd rfl (Or.inl rfl)) (fun _ _ _ _ _ => pts_nil) (fun _ _ _ _ _ => pv 4)))
      (pss_cons (ps_if (PW.pt (pw_or (pt_not (pt_chain op_le op_le pe_int (pe_callB call_len_seq (by rfl) T.len PySem.boot_len (pa_cons (pv 2) pa_nil)) (pe_cval (pe_glob (v := .ref CA) (by rfl) B.gA rfl))))
          (pw_or1 (pt_not (pt_val (pe_callB (cr_all rfl) (by rfl) T.all (by decide +kernel) (pa_cons (pe_lc (own := [("user", 4)]) (g := gName 4) (tt := tYes) (te := tCall (spIsInt K) [] E0 (tCons (tVar 4) (tCons (tC (.int 0)) tNil))) rfl nd (pi_list (pv 2)) (blkOk_by (N := NAl) (sc := defScope s_are_lists) (by decide +kernel))
            (fun _ _ _ _ _ => pg_name (i := 4) nd rfl (Or.inl rfl)) (fun _ _ _ _ _ => pts_nil) (fun _ _ _ _ _ => pe_call I.ok hr1 rfl I.mgn I.kp I.bn .nil pass0 (pa_cons (pv 4) (pa_cons pe_int pa_nil)))) pa_nil))))))) (pss_one (ps_ret pe_bl)) pss_nil)
      (pss_one (ps_ret (pe_cmpR (op_eqD hr.units) (pe_callB cr_sorted (by rfl) T.srt (by decide +kernel) (pa_cons (pv 2) pa_nil)) (pe_listRg rfl (by rfl) T.lst (prg_1 (by rfl) T.rng (pe_callB call_len_seq (by rfl) T.len PySem.boot_len (pa_cons (pv 2) pa_nil)))) (nomark _))))))), ?_⟩
    have mp0 : ∀ {i : Nat} {p : Str}, (pls ts)[i]? = some p → p ∈ pls ts := fun h => List.mem_of_getElem? h
    have lX : ((pls ts).flatMap L).length = n := by
      have e := hV.length_eq
      rw [usr_len] at e
      exact e
    -- a dict of all places
    refine ⟨_, rfl, .ref q, _, _, _, true, rfl, .ty _, .base (.dK hL.1), kit_ty (by decide +kernel), true, rfl, ?_⟩
    refine iteF ?_
    refine ⟨_, rfl, q, _, rfl, hL.1, _, rfl, x, ts, rfl, fa, few, fun pl H1 s1 npl hpl => ⟨pl, _, rfl, .inl (SqL.of hpl), rfl, _, rfl, ?_⟩⟩
    rw [tblV_len, List.length_map, len_int, decide_eq_true (show (pls ts).length = (("" : Str) :: ts.map Prod.fst).length from rfl)]
    refine iteF ?_
    -- lists, all of them
    refine ⟨_, rfl, x, ts, rfl, fa.mono s1, few, fun pl2 H2 s2 npl2 hpl2 => ⟨pl2, rfl, ⟨_, SqL.of hpl2⟩, fun D nD => ?_⟩⟩
    refine lc_it walk_list (fun i H' => Same H2 H' ∧ H' D = some (.lst ((List.replicate i true).map V.bl))) ⟨same_new nD, upd_same⟩ (fun i H' _ z => SqL.of (z.1 _ _ hpl2)) ?_ ?_
    · intro i y Hz Ha hi ⟨q1, q2⟩ ⟨eb, ex⟩
      subst eb
      obtain ⟨p, hp, rfl⟩ := map_of (f := V.str) (l := pls ts) ex
      have mp := mp0 hp
      have il := (List.getElem?_eq_some_iff.mp hp).1
      have hLa := hL.mono ((s1.trans s2).trans q1)
      refine ⟨rfl, ?_⟩
      refine ⟨_, rfl, _, rfl, q, some (.ref (r p)), rfl, hLa.get mp, true, rfl, ?_⟩
      show if true = true then _ else _
      rw [if_pos rfl]
      refine ⟨_, rfl, _, rfl, q, .ref (r p), rfl, hLa.get mp, by show 2 ≤ sizeLine; omega, fun tp ntp => ?_⟩
      have st := same_new (o := .tup [.ty "list", .ty "tuple"]) ntp
      refine ⟨.ref (r p), tp, [.ty "list", .ty "tuple"], _, [.type "list", .type "tuple"], true, rfl, upd_same, .cons (.ty _) (.cons (.ty _) .nil), .base (.lst (st _ _ (hLa.2 p mp))), kitAny_cons (b := true) (kit_ty (by decide +kernel)) (fun z => nomatch z) (fun _ => rfl), ?_⟩
      refine ⟨_, st _ _ q2, by rw [List.length_map, List.length_replicate]; omega, (q1.trans st).put nD, ?_⟩
      rw [upd_same, List.replicate_succ', List.map_append] <;> rfl
    intro H3 ⟨s3, hD⟩
    refine ⟨D, _, rfl, SqL.of hD, true, by rw [show ∀ m, (List.replicate m true).all id = true from fun m => by simp], ?_⟩
    refine iteF ?_
    have s03 := (s1.trans s2).trans s3
    have hL3 := hL.mono s03
    -- all users
    refine ⟨q, _, hL3.1, trivial, fun od => ⟨_, rfl, q, od, rfl, .inl ⟨_, upd_same, fun D2 nD2 => ?_⟩⟩⟩
    have Dq : D2 ≠ q := (ne_of_none upd_same nD2).symm
    obtain ⟨H0, e0⟩ : ∃ X, X = upd H3 q (.frz od (.dK (tblV (pls ts) fun p => .ref (r p)))) := ⟨_, rfl⟩
    have hq0 : H0 q = some (.frz od (.dK (tblV (pls ts) fun p => .ref (r p)))) := by rw [e0]; exact upd_same
    have hl0 : ∀ p ∈ pls ts, H0 (r p) = some (.lst ((L p).map V.int)) := fun p hp => by
      have z := hL3.2 p hp
      rw [e0, upd_ne (ne_of z hL3.1 (by intro z; cases z))]
      exact z
    rw [← e0] at nD2 ⊢
    refine dcG_it (o0 := .lst []) (tl := tlLst (iList K (tDGet (tVar 1) (tVar 3))) (gName 4) tYes (tVar 4) [4]) walk_keys (fun i H' => Same H0 H' ∧ H' D2 = some (.lst ((((pls ts).take i).flatMap L).map V.int))) ⟨same_new nD2, upd_same⟩ (fun i H' _ z => z.1 _ _ hq0) ?_ ?_
    · intro i y Hz Ha hi ⟨q1, q2⟩ ⟨eb, kk, vv, hk, ey⟩
      subst eb
      subst ey
      obtain ⟨p, hp, rfl, rfl⟩ := tblV_at hk
      rw [show kV (Sum.inr p) = V.str p from rfl]
      have mp := mp0 hp
      have lp := q1 _ _ (hl0 p mp)
      refine ⟨rfl, ?_⟩
      refine ⟨_, rfl, _, rfl, q, .ref (r p), rfl, .inl ⟨_, Sum.inr p, .inr ⟨od, q1 _ _ hq0⟩, rfl, (tblV_val (g := fun p => V.ref (r p)) mp).symm⟩, r p, rfl, ⟨_, SqL.of lp⟩, ?_⟩
      have more : ((pls ts).take (i + 1)).flatMap L = ((pls ts).take i).flatMap L ++ L p := by
        rw [take_more hp, List.flatMap_append]
        show _ ++ (L p ++ []) = _
        rw [List.append_nil]
      have split : (pls ts).flatMap L = (((pls ts).take i).flatMap L ++ L p) ++ ((pls ts).drop (i + 1)).flatMap L := by
        rw [← more, ← List.flatMap_append, List.take_append_drop]
      refine ⟨fun j m H' => m = (L p).length - j ∧ j ≤ (L p).length ∧ Same H0 H' ∧ H' D2 = some (.lst ((((pls ts).take i).flatMap L ++ (L p).take j).map V.int)), ⟨(L p).length, by simp, Nat.zero_le _, q1, by rw [List.take_zero, List.append_nil]; exact q2⟩, fun j m H' ⟨em, hj, z1, z2⟩ => ?_⟩
      have lp' := z1 _ _ (hl0 p mp)
      have wl := walk_list (K := K) (a := r p) (xs := (L p).map V.int)
      rcases Nat.lt_or_ge j (L p).length with lt | ge
      · refine .inr ⟨wl.goes j H' (by rw [List.length_map]; exact lt) (SqL.of lp'), fun H' => Same H0 H' ∧ H' D2 = some (.lst ((((pls ts).take i).flatMap L ++ (L p).take (j + 1)).map V.int)), fun H' z => ⟨(L p).length - (j + 1), by omega, rfl, lt, z.1, z.2⟩, fun y2 H'' yy => ?_⟩
        obtain ⟨eb2, ex2⟩ := wl.yields j H' y2 H'' (by rw [List.length_map]; exact lt) (SqL.of lp') yy
        subst eb2
        obtain ⟨u, hu', rfl⟩ := map_of ex2
        refine ⟨rfl, ?_⟩
        refine ⟨_, rfl, _, z2, ?_, Same.put z1 nD2, ?_⟩
        · have := congrArg List.length split
          rw [lX, List.length_append, List.length_append] at this
          rw [List.length_map, List.length_append, List.length_take]
          omega
        · rw [upd_same, take_more hu', ← List.append_assoc, List.map_append (l₂ := [u])] <;> rfl
      · have ej : j = (L p).length := by omega
        subst ej
        rw [List.take_length, ← more] at z2
        refine .inl ⟨?_, z1, z2⟩
        have := wl.stops H' (SqL.of lp')
        rw [List.length_map] at this
        exact this
    intro H4 ⟨s4, hD2⟩
    rw [tblV_len, List.take_length] at hD2
    refine ⟨s4 _ _ hq0, ?_⟩
    have s5 : Same H (upd H4 q (.dK (tblV (pls ts) fun p => .ref (r p)))) := s03.trans (unlock_same hL3.1 (by rw [← e0]; exact s4))
    obtain ⟨H5, e5⟩ : ∃ X, X = upd H4 q (.dK (tblV (pls ts) fun p => .ref (r p))) := ⟨_, rfl⟩
    have hD5 : H5 D2 = some (.lst (((pls ts).flatMap L).map V.int)) := by rw [e5, upd_ne Dq]; exact hD2
    rw [← e5] at s5 ⊢
    have lm : (((pls ts).flatMap L).map V.int).length = n := by rw [List.length_map, lX]
    -- as many as allowed, all of them numbers
    refine ⟨_, rfl, D2, _, rfl, .inl (SqL.of hD5), _, _, rfl, rfl, _, rfl, ?_⟩
    rw [if_pos (decide_eq_true (by rw [lm]; omega))]
    refine ⟨CA, mcA, _, um, rfl, B.rd, cm, _, _, rfl, rfl, _, rfl, ?_⟩
    rw [decide_eq_true (show ((((pls ts).flatMap L).map V.int).length : Int) ≤ 60 by rw [lm]; omega)]
    refine iteF ?_
    refine ⟨_, rfl, D2, rfl, ⟨_, SqL.of hD5⟩, fun D3 nD3 => ?_⟩
    refine lc_it walk_list (fun i H' => Same H5 H' ∧ H' D3 = some (.lst ((List.replicate i true).map V.bl))) ⟨same_new nD3, upd_same⟩ (fun i H' _ z => SqL.of (z.1 _ _ hD5)) ?_ ?_
    · intro i y Hz Ha hi ⟨q1, q2⟩ ⟨eb, ex⟩
      subst eb
      obtain ⟨u, hu', rfl⟩ := map_of ex
      have u0 := (mem_usr.mp (hV.mem_iff.mp (List.mem_of_getElem? hu'))).1
      refine ⟨rfl, ?_⟩
      refine ⟨_, rfl, .int u, 0, rfl, ⟨_, .int u⟩, _, q2, by rw [List.length_map, List.length_replicate]; omega, Same.put q1 nD3, ?_⟩
      rw [upd_same, List.replicate_succ', List.map_append, show isGe (.int u) 0 = true from decide_eq_true u0] <;> rfl
    intro H6 ⟨s6, hD6⟩
    refine ⟨D3, _, rfl, SqL.of hD6, true, by rw [show ∀ m, (List.replicate m true).all id = true from fun m => by simp], ?_⟩
    refine iteF ?_
    -- each once
    have hDs := s6 _ _ hD5
    refine ⟨_, rfl, D2, _, rfl, SqL.of hDs, by omega, fun ns' ps pm srt nps => ⟨_, rfl, D2, _, rfl, .inl (SqL.of (same_new nps _ _ hDs)), _, rfl, RgOk.of_le (by omega) (by omega) (by omega) (by omega), fun pr npr => ?_⟩⟩
    rw [lm, rgV_usr]
    have ens : ns' = usr n := sorted_usr (pm.trans hV) srt
    subst ens
    have hps : (upd (upd H6 ps (.lst ((usr n).map V.int))) pr (.lst ((usr n).map V.int))) ps = some (.lst ((usr n).map V.int)) := by rw [upd_ne (ne_of_none upd_same npr)]; exact upd_same
    refine ⟨_, _, .lst (SqL.of hps) (dp_ints _), .lst (SqL.of upd_same) (dp_ints _), (ints_shaped _).2, (ints_shaped _).2, ?_⟩
    rw [SeqAt.eqv_refl _ (ints_shaped _).1]
    exact k _ (((s5.trans s6).trans (same_new nps)).trans (same_new npr))
end
end FT


/-! Rollout: __init__, load -/
namespace FT
open PySem L2 TL ClX LiI
theorem put_g {CRd : List (Str × V)} {u : V} : putF "grown_from" u [] = [(("grown_from" : Str), u)] := rfl
theorem put_k {u v : V} : putF "kept_lists" v [(("grown_from" : Str), u)] = [(("grown_from" : Str), u), (("kept_lists" : Str), v)] := by
  unfold putF
  rw [if_neg (by decide +kernel)] <;> rfl
theorem put_s {u v w : V} : putF "past_sizes" w [(("grown_from" : Str), u), (("kept_lists" : Str), v)] = [(("grown_from" : Str), u), (("kept_lists" : Str), v), (("past_sizes" : Str), w)] := by
  unfold putF
  rw [if_neg (by decide +kernel)]
  unfold putF
  rw [if_neg (by decide +kernel)] <;> rfl
theorem put_k2 {x q q' z : Addr} : putF "kept_lists" (.ref q') (rFs x q z) = rFs x q' z := by
  unfold rFs putF
  rw [if_neg (by decide +kernel)]
  unfold putF
  rw [if_pos rfl]
def spLoad (CF CR : Addr) : Sp := fun vs H Q _ => ∃ (x q : Addr) (ts : List (Str × Str)) (r : Str → Addr) (L : Str → List Int) (n : Nat), vs = [.ref x, .ref q] ∧ FAt CF H x ts ∧ TreeOk ts ∧ LsAt H q (pls ts) r L ∧ Val ts n L ∧ 1 ≤ n ∧ n ≤ 60 ∧
  ∀ (H' : Hp) (y q' z dy : Addr) (r' : Str → Addr), Same H H' → H y = none → H q' = none → H z = none → (∀ p ∈ pls ts, H (r' p) = none) → H' y = some (.ins CR dy (rFs x q' z)) → LsAt H' q' (pls ts) r' L → H' z = some (.lst []) → Q (.ref y) H'
section
variable {P : Program} {w : World} {K : PySem.W.Frag} {mg : Str → Option Value} {base : Heap}
abbrev NRi : List Str := ["self", "forest", "users", "place"]
theorem scRi : FnScope NRi ["self", "forest", "users"] (defScope s_Rollout___init__) := ⟨rfl, rfl, rfl, by decide +kernel, rfl, by decide +kernel, by decide +kernel⟩
theorem ok_rinit {f fP fU CF CA CR CU : Addr} {mc mcA mcR : Value} {fd fdP fdU : FuncData} (F : Fun K "__init__" "Rollout.__init__" s_Rollout___init__ f fd) (T : Nm mg) (Z : Fc K mg CF mc) (B : Ac K mg CA mcA) (R : RoC K mg CR mcR) (DP : Dn P w K mg base CX0 3 "places_of" ["forest"] (spPlacesOf CF) fP fdP)
    (U : Dn P w K mg base (L2.CX P w) 3 "need_users" ["users", "most"] (spUsers K CU) fU fdU) : FnOk P w K mg base CX0 4 f fd ["self", "forest", "users"] (spRInit CF CR) := by
  obtain ⟨um, cm⟩ := B.most
  obtain ⟨ur, cr⟩ := Z.root
  refine F.ok scRi (fun vs H Q E h => ?_) (fun cdv A outer s H vs Q E hr h => ?_)
  · obtain ⟨y, x, dy, n, ts, rfl, _⟩ := h
    rfl
  · obtain ⟨y, x, dy, n, ts, rfl, hy, fa, o, n1, n60, k⟩ := h
    have hu := hu_of hr
    have nd := scRi.nd
    have big : 1000 ≤ sizeLine := by decide
    have few := o.few
    have pln := pls_len ts
    have pnd := pls_nd o
    refine ⟨_, pss_cons (ps_expr (pe_call (E := E0) U.ok hr rfl U.mgn U.kp U.bn .nil L2.passL (pa_cons (pv 2) (pa_cons (pe_cval (pe_glob (v := .ref CA) (by rfl) B.gA rfl)) pa_nil))))
      (pss_cons (ps_fld (pv 0) (pv 1) rfl)
      (pss_cons (ps_fld (pv 0) (pe_dc (own := [("place", 3)]) (g := gName 3) (tt := tYes) rfl nd (pi_list (pe_call DP.ok hr rfl DP.mgn DP.kp DP.bn .nil pass0 (pa_cons (pv 1) pa_nil))) (blkOk_by (N := NRi) (sc := defScope s_Rollout___init__) (by decide +kernel))
        (fun _ _ _ _ _ => pg_name (i := 3) nd rfl (Or.inl rfl)) (fun _ _ _ _ _ => pts_nil) (fun _ _ _ _ _ => pv 3) (fun _ _ _ _ _ => pe_lst pa_nil)) rfl)
      (pss_cons (ps_dput hu (pe_fld (pv 0) rfl) (pe_cval (pe_glob (v := .ref CF) (by rfl) Z.gF rfl)) (pe_listRg rfl (by rfl) T.lst (prg_1 (by rfl) T.rng (pv 2))) rfl)
      (pss_one (ps_fld (pv 0) (pe_lst pa_nil) rfl))))), ?_⟩
    obtain ⟨dx, dq, hx, hd⟩ := id fa
    have xy : x ≠ y := fun z => by rw [z, hy] at hx; cases hx
    have dqy : dq ≠ y := ne_of hd hy (by intro z; cases z)
    refine ⟨_, rfl, CA, mcA, _, um, rfl, B.rd, cm, .int n, 60, rfl, ⟨_, .int _⟩, ?_⟩
    rw [if_pos (show usersOk (.int (n : Int)) 60 = true by show (decide (1 ≤ (n : Int)) && decide ((n : Int) ≤ 60)) = true; rw [decide_eq_true (by omega), decide_eq_true (by omega)] <;> rfl)]
    intro H1 s1
    refine ⟨_, rfl, _, rfl, y, CR, dy, [], rfl, s1 _ _ hy, R.cl, R.nG, by show 0 < 1000; decide, ?_⟩
    obtain ⟨H2, e2⟩ : ∃ X, X = upd H1 y (.ins CR dy [(("grown_from" : Str), .ref x)]) := ⟨_, rfl⟩
    have k12 : ∀ b u, b ≠ y → H b = some u → H2 b = some u := fun b u n e => by rw [e2, upd_ne n]; exact s1 _ _ e
    have hy2 : H2 y = some (.ins CR dy [(("grown_from" : Str), .ref x)]) := by rw [e2]; exact upd_same
    have hyn : ∀ {H' : Hp} {b : Addr}, Same H2 H' → H' b = none → H b = none := fun {H' b} s z => by
      cases e : H b with
      | none => rfl
      | some u =>
        by_cases by_ : b = y
        · rw [by_, s _ _ hy2] at z
          cases z
        · rw [s _ _ (k12 b u by_ e)] at z
          cases z
    show tSeq _ _ _ _ (upd H1 y (.ins CR dy (putF "grown_from" (.ref x) [])))
    rw [put_g (CRd := []), ← e2]
    refine ⟨_, rfl, x, ts, rfl, ⟨dx, dq, k12 _ _ xy hx, k12 _ _ dqy hd⟩, few, fun pl H3 s3 npl hpl => ⟨pl, rfl, ⟨_, SqL.of hpl⟩, fun D nD => ?_⟩⟩
    refine dc_it walk_list (fun i H' => Same H3 H' ∧ ∃ r : Str → Addr, H' D = some (.dK (tblV ((pls ts).take i) fun p => .ref (r p))) ∧ ∀ p ∈ (pls ts).take i, H' (r p) = some (.lst []) ∧ H (r p) = none) ⟨same_new nD, fun _ => 0, upd_same, fun p h => by simp at h⟩ (fun i H' _ z => SqL.of (z.1 _ _ hpl)) ?_ ?_
    · intro i v Hz Ha hi ⟨q1, r, q2, q3⟩ ⟨eb, ex⟩
      subst eb
      obtain ⟨p, hp, rfl⟩ := map_of (f := V.str) (l := pls ts) ex
      have il := (List.getElem?_eq_some_iff.mp hp).1
      have fr := nat_fresh pnd hp
      refine ⟨rfl, ?_⟩
      refine ⟨_, rfl, by show 0 ≤ sizeLine; omega, fun l nl => ?_⟩
      have sl := same_new (o := .lst []) nl
      have lD : l ≠ D := (ne_of_none q2 nl).symm
      refine ⟨_, Sum.inr p, rfl, sl _ _ q2, by rw [tblV_len, List.length_take]; omega, (q1.trans sl).put nD, fun a => if a = p then l else r a, ?_, fun a ha => ?_⟩
      · rw [upd_same, tblV_congr (g' := fun a => V.ref (if a = p then l else r a)) fun a ha => by rw [if_neg fun z => fr (by rw [← z]; exact ha)], tblV_snoc fr (by rw [if_pos rfl]), take_more hp]
      · rw [take_more hp] at ha
        show (upd (upd Ha l (.lst [])) D _) (if a = p then l else r a) = some (.lst []) ∧ H (if a = p then l else r a) = none
        by_cases e : a = p
        · rw [if_pos e]
          exact ⟨by rw [upd_ne lD]; exact upd_same, hyn ((s3.trans q1)) nl⟩
        · rw [if_neg e]
          obtain ⟨z1, z2⟩ := q3 a ((List.mem_append.mp ha).resolve_right fun z => e (List.mem_singleton.mp z))
          exact ⟨by rw [upd_ne (ne_of (sl _ _ z1) (sl _ _ q2) (by intro z; cases z))]; exact sl _ _ z1, z2⟩
    intro H4 ⟨s34, r, hD, hr0⟩
    have e : ((("" : Str) :: ts.map Prod.fst).map V.str).length = (pls ts).length := List.length_map _
    rw [e, List.take_length] at hD hr0
    have s24 := s3.trans s34
    have hy4 := s24 _ _ hy2
    refine ⟨_, rfl, y, CR, dy, _, rfl, hy4, R.cl, R.nK, by show 1 < 1000; decide, ?_⟩
    rw [put_k]
    obtain ⟨H5, e5⟩ : ∃ X, X = upd H4 y (.ins CR dy [(("grown_from" : Str), .ref x), (("kept_lists" : Str), .ref D)]) := ⟨_, rfl⟩
    have hy5 : H5 y = some (.ins CR dy [(("grown_from" : Str), .ref x), (("kept_lists" : Str), .ref D)]) := by rw [e5]; exact upd_same
    have Dy : D ≠ y := ne_of hD hy4 (by intro z; cases z)
    have hD5 : H5 D = some (.dK (tblV (pls ts) fun p => .ref (r p))) := by rw [e5, upd_ne Dy]; exact hD
    have k5 : ∀ b u, b ≠ y → H4 b = some u → H5 b = some u := fun b u n e => by rw [e5, upd_ne n]; exact e
    rw [← e5]
    refine ⟨_, rfl, _, rfl, RgOk.of_le (by omega) (by omega) (by omega) (by omega), fun pr npr => ?_⟩
    rw [rgV_usr]
    have sp := same_new (o := .lst ((usr n).map V.int)) npr
    have py : pr ≠ y := (ne_of_none hy5 npr).symm
    have pD : pr ≠ D := (ne_of_none hD5 npr).symm
    refine ⟨_, rfl, y, CR, dy, _, .ref D, rfl, sp _ _ hy5, R.cl, R.nK, rfl, CF, mc, _, ur, rfl, Z.rd, cr, D, _, rfl, DPut.k (k := Sum.inr "") (sp _ _ hD5) (by rw [tblV_len]; omega), ?_⟩
    rw [tblV_put (show ("" : Str) ∈ pls ts from List.mem_cons_self ..), tblV_congr (g' := fun p => V.ref (if p = "" then pr else r p)) fun p _ => by show (if p = "" then V.ref pr else V.ref (r p)) = _; split <;> rfl]
    obtain ⟨H6, e6⟩ : ∃ X, X = upd (upd H5 pr (.lst ((usr n).map V.int))) D (.dK (tblV (pls ts) fun p => V.ref (if p = "" then pr else r p))) := ⟨_, rfl⟩
    have hD6 : H6 D = some (.dK (tblV (pls ts) fun p => V.ref (if p = "" then pr else r p))) := by rw [e6]; exact upd_same
    have hp6 : H6 pr = some (.lst ((usr n).map V.int)) := by rw [e6, upd_ne pD]; exact upd_same
    have hy6 : H6 y = some (.ins CR dy [(("grown_from" : Str), .ref x), (("kept_lists" : Str), .ref D)]) := by rw [e6, upd_ne (Ne.symm Dy)]; exact sp _ _ hy5
    have k6 : ∀ b u, b ≠ D → H5 b = some u → H6 b = some u := fun b u n e => by rw [e6, upd_ne n]; exact sp _ _ e
    rw [← e6]
    have nD0 : H D = none := by
      refine hyn (H' := H3) s3 ?_
      exact nD
    have pr0 : H pr = none := by
      cases e : H pr with
      | none => rfl
      | some u =>
        rw [k5 _ _ py (s24 _ _ (k12 _ _ py e))] at npr
        cases npr
    refine ⟨by show 0 ≤ sizeLine; omega, fun z nz => ?_⟩
    have sz := same_new (o := .lst []) nz
    have zy : z ≠ y := (ne_of_none hy6 nz).symm
    have zD : z ≠ D := (ne_of_none hD6 nz).symm
    refine ⟨_, rfl, y, CR, dy, _, rfl, sz _ _ hy6, R.cl, R.nS, by show 2 < 1000; decide, ?_⟩
    rw [put_s]
    have nz0 : H z = none := by
      cases e : H z with
      | none => rfl
      | some u =>
        rw [k6 _ _ (ne_of_none e nD0) (k5 _ _ zy (s24 _ _ (k12 _ _ zy e)))] at nz
        cases nz
    refine k _ D z (fun p => if p = "" then pr else r p) nD0 nz0 (fun p hp => ?_) (fun b u n e => ?_) upd_same ⟨?_, fun p hp => ?_⟩ ?_
    · show H (if p = "" then pr else r p) = none
      split
      · exact pr0
      · exact (hr0 p hp).2
    · rw [upd_ne n]
      exact sz _ _ (k6 _ _ (ne_of_none e nD0) (k5 _ _ n (s24 _ _ (k12 _ _ n e))))
    · rw [upd_ne Dy]
      exact sz _ _ hD6
    · show (upd (upd H6 z (.lst [])) y _) (if p = "" then pr else r p) = some (.lst ((if p = "" then usr n else []).map V.int))
      by_cases e : p = ""
      · rw [if_pos e, if_pos e, upd_ne py]
        exact sz _ _ hp6
      · rw [if_neg e, if_neg e]
        have z1 := (hr0 p hp).1
        have n1 : r p ≠ y := ne_of z1 hy4 (by intro z; cases z)
        have n2 : r p ≠ D := ne_of z1 hD (by intro z; cases z)
        rw [upd_ne n1]
        exact sz _ _ (k6 _ _ n2 (k5 _ _ n1 z1))
    · rw [upd_ne zy]
      exact upd_same
end
end FT


/-! Rollout: load, total, lists, sizes, assignment, depth -/
namespace FT
open PySem L2 TL ClX LiI
def PsAt (H : Hp) (ts : List (Str × Str)) (rs : List Addr) (ps : List (Str → Int)) : Prop := Paired (fun (a : Addr) (s : Str → Int) => H a = some (.dK (tblI (ts.map Prod.fst) s))) rs ps
theorem PsAt.imp {H H' : Hp} {ts : List (Str × Str)} (m : ∀ b kvs, H b = some (.dK kvs) → H' b = some (.dK kvs)) : ∀ {rs : List Addr} {ps : List (Str → Int)}, PsAt H ts rs ps → PsAt H' ts rs ps
  | _, _, .nil => .nil
  | _, _, .cons h t => .cons (m _ _ h) (PsAt.imp m t)
theorem PsAt.snoc {H : Hp} {ts : List (Str × Str)} {b : Addr} {s : Str → Int} (h : H b = some (.dK (tblI (ts.map Prod.fst) s))) : ∀ {rs : List Addr} {ps : List (Str → Int)}, PsAt H ts rs ps → PsAt H ts (rs ++ [b]) (ps ++ [s])
  | _, _, .nil => .cons h .nil
  | _, _, .cons q t => .cons q (PsAt.snoc h t)
theorem PsAt.len {H : Hp} {ts : List (Str × Str)} : ∀ {rs : List Addr} {ps : List (Str → Int)}, PsAt H ts rs ps → rs.length = ps.length
  | _, _, .nil => rfl
  | _, _, .cons _ t => congrArg (· + 1) (PsAt.len t)
/-- a rollout at y, off the addresses Ex: its forest at x, its lists L, the sizes ps before each change (their list at z) -/
def RollAt (CF CR : Addr) (Ex : List Addr) (H : Hp) (y z x : Addr) (ts : List (Str × Str)) (L : Str → List Int) (ps : List (Str → Int)) : Prop :=
  ∃ (dy q dx dq : Addr) (r : Str → Addr) (rs : List Addr), H y = some (.ins CR dy (rFs x q z)) ∧ LsAt H q (pls ts) r L ∧ H z = some (.lst (rs.map V.ref)) ∧ PsAt H ts rs ps ∧ H x = some (.ins CF dx [("above", .ref dq)]) ∧ H dq = some (.dK (prs ts)) ∧
    (∀ b ∈ y :: z :: q :: x :: dq :: rs, b ∉ Ex) ∧ ∀ p ∈ pls ts, r p ∉ Ex
/-- all but Ex is as it was -/
def KeepX (Ex : List Addr) (H H' : Hp) : Prop := ∀ b u, b ∉ Ex → H b = some u → H' b = some u
theorem KeepX.of_same {Ex : List Addr} {H H' : Hp} (s : Same H H') : KeepX Ex H H' := fun b u _ e => s b u e
theorem KeepX.trans {Ex : List Addr} {H H1 H2 : Hp} (a : KeepX Ex H H1) (b : KeepX Ex H1 H2) : KeepX Ex H H2 := fun x u n e => b x u n (a x u n e)
theorem RollAt.keep {CF CR : Addr} {Ex : List Addr} {H H' : Hp} {y z x : Addr} {ts : List (Str × Str)} {L : Str → List Int} {ps : List (Str → Int)} (k : KeepX Ex H H') (h : RollAt CF CR Ex H y z x ts L ps) : RollAt CF CR Ex H' y z x ts L ps := by
  obtain ⟨dy, q, dx, dq, r, rs, h1, h2, h3, h4, h5, h6, h7, h8⟩ := h
  have n := fun b hb => h7 b hb
  refine ⟨dy, q, dx, dq, r, rs, k _ _ (h7 y (by simp)) h1, ⟨k _ _ (h7 q (by simp)) h2.1, fun p hp => k _ _ (h8 p hp) (h2.2 p hp)⟩, k _ _ (h7 z (by simp)) h3, ?_, k _ _ (h7 x (by simp)) h5, k _ _ (h7 dq (by simp)) h6, h7, h8⟩
  have m : ∀ {rs' : List Addr} {ps' : List (Str → Int)}, (∀ b ∈ rs', b ∉ Ex) → PsAt H ts rs' ps' → PsAt H' ts rs' ps' := by
    intro rs' ps' hn hp
    induction hp with
    | nil => exact .nil
    | cons q _ ih => exact .cons (k _ _ (hn _ (List.mem_cons_self ..)) q) (ih fun b hb => hn b (List.mem_cons_of_mem _ hb))
  exact m (fun b hb => h7 b (by simp [hb])) h4
theorem RollAt.mono {CF CR : Addr} {Ex : List Addr} {H H' : Hp} {y z x : Addr} {ts : List (Str × Str)} {L : Str → List Int} {ps : List (Str → Int)} (s : Same H H') (h : RollAt CF CR Ex H y z x ts L ps) : RollAt CF CR Ex H' y z x ts L ps := h.keep (.of_same s)
theorem RollAt.congr {CF CR : Addr} {Ex : List Addr} {H : Hp} {y z x : Addr} {ts : List (Str × Str)} {L L' : Str → List Int} {ps : List (Str → Int)} (e : ∀ p ∈ pls ts, L p = L' p) (h : RollAt CF CR Ex H y z x ts L ps) : RollAt CF CR Ex H y z x ts L' ps := by
  obtain ⟨dy, q, dx, dq, r, rs, h1, h2, h3⟩ := h
  exact ⟨dy, q, dx, dq, r, rs, h1, h2.congr e, h3⟩
theorem RollAt.fa {CF CR : Addr} {Ex : List Addr} {H : Hp} {y z x : Addr} {ts : List (Str × Str)} {L : Str → List Int} {ps : List (Str → Int)} (h : RollAt CF CR Ex H y z x ts L ps) : FAt CF H x ts := by
  obtain ⟨dy, q, dx, dq, r, rs, h1, h2, h3, h4, h5, h6, h7, h8⟩ := h
  exact ⟨dx, dq, h5, h6⟩
def spRTotal (CF CR : Addr) : Sp := fun vs H Q _ => ∃ (y z x : Addr) (Ex : List Addr) (ts : List (Str × Str)) (L : Str → List Int) (ps : List (Str → Int)) (n : Nat), vs = [.ref y] ∧ RollAt CF CR Ex H y z x ts L ps ∧ TreeOk ts ∧ Val ts n L ∧ ∀ H', Same H H' → Q (.int (n : Int)) H'
def spRLists (CF CR : Addr) : Sp := fun vs H Q _ => ∃ (y z x : Addr) (Ex : List Addr) (ts : List (Str × Str)) (L : Str → List Int) (ps : List (Str → Int)), vs = [.ref y] ∧ RollAt CF CR Ex H y z x ts L ps ∧ TreeOk ts ∧
  ∀ (q' : Addr) (r' : Str → Addr) (H' : Hp), Same H H' → H q' = none → (∀ p ∈ pls ts, H (r' p) = none) → LsAt H' q' (pls ts) r' L → Q (.ref q') H'
def spRSizes (CF CR : Addr) : Sp := fun vs H Q _ => ∃ (y z x : Addr) (Ex : List Addr) (ts : List (Str × Str)) (L : Str → List Int) (ps : List (Str → Int)), vs = [.ref y] ∧ RollAt CF CR Ex H y z x ts L ps ∧ TreeOk ts ∧
  ∀ (p : Addr) (H' : Hp), Same H H' → H p = none → H' p = some (.dK (tblI (ts.map Prod.fst) (lsz ts L))) → Q (.ref p) H'
def spRAsg (CF CR CA : Addr) : Sp := fun vs H Q _ => ∃ (y z x : Addr) (Ex : List Addr) (ts : List (Str × Str)) (L : Str → List Int) (ps : List (Str → Int)) (n : Nat), vs = [.ref y] ∧ RollAt CF CR Ex H y z x ts L ps ∧ TreeOk ts ∧ Val ts n L ∧ 1 ≤ n ∧ n ≤ 60 ∧
  ∀ (a : Addr) (H' : Hp), Same H H' → H a = none → AAt CA H' a x ((usr n).map (plOf ts L)) → Q (.ref a) H'
def spRDepth (CF CR : Addr) : Sp := fun vs H Q _ => ∃ (y z x : Addr) (Ex : List Addr) (ts : List (Str × Str)) (L : Str → List Int) (ps : List (Str → Int)), vs = [.ref y] ∧ RollAt CF CR Ex H y z x ts L ps ∧ Q (.int (ps.length : Int)) H
/-- the lists' lengths, one behind the other -/
theorem lens_walk {K : PySem.W.Frag} {od : Obj} {H2 : Hp} {q D : Addr} {l : List Str} {r : Str → Addr} {L : Str → List Int} {i : Nat} {σ : St} {Qd : Hp → Prop} (nd : l.length ≤ 1000) (big : 1000 ≤ sizeLine) (nD : H2 D = none) (hq : H2 q = some (.frz od (.dK (tblV l fun p => .ref (r p))))) (hl : ∀ p ∈ l, H2 (r p) = some (.lst ((L p).map V.int)))
    (σi : i < σ.length) (hd : ∀ H3 : Hp, Same H2 H3 → H3 D = some (.lst ((l.map fun p => ((L p).length : Int)).map V.int)) → Qd H3) :
    ∃ W : Nat → Nat → Hp → Prop, (∃ m, W 0 m (upd H2 D (.lst []))) ∧ ∀ j m H, W j m H → ((Itd q od (tblV l fun p => .ref (r p))).stop j H ∧ Qd H) ∨ ((Itd q od (tblV l fun p => .ref (r p))).go j H ∧ ∃ Nx : Hp → Prop, (∀ H', Nx H' → ∃ m', m' < m ∧ W (j + 1) m' H') ∧
      ∀ x H', (Itd q od (tblV l fun p => .ref (r p))).yld j H x H' → gName i x (wipe σ [i]) H' fun σ2 H2 => wipe σ2 [i] = wipe σ [i] ∧ tYes σ2 H2 fun b H3 =>
        if b = true then (tCB (rLenS K) (tCons (tVar i) tNil)) σ2 H3 fun y H4 => ∃ acc, H4 D = some (.lst acc) ∧ acc.length < sizeLine ∧ Nx (upd H4 D (.lst (acc ++ [y]))) else Nx H3) := by
  refine lc_it walk_values (fun j H' => Same H2 H' ∧ H' D = some (.lst (((l.take j).map fun p => ((L p).length : Int)).map V.int))) ⟨same_new nD, upd_same⟩ (fun j H' _ z => z.1 _ _ hq) ?_ ?_
  · intro j y Hz Ha hj ⟨q1, q2⟩ ⟨eb, kk, hk⟩
    subst eb
    obtain ⟨p, hp, rfl, rfl⟩ := tblV_at hk
    have mp := List.mem_of_getElem? hp
    have jl := (List.getElem?_eq_some_iff.mp hp).1
    have wl : (wipe σ [i]).length = σ.length := wipe_length _ _
    refine ⟨?_, ?_⟩
    · show ((σ.set i none).set i (some (V.ref (r p)))).set i none = σ.set i none
      rw [List.set_set, List.set_set]
    · refine ⟨_, ?_, r p, _, rfl, .inl (SqL.of (q1 _ _ (hl p mp))), _, q2, ?_, Same.put q1 nD, ?_⟩
      · show ((wipe σ [i]).set i (some (V.ref (r p))))[i]? = some (some (V.ref (r p)))
        rw [List.getElem?_set_self (by omega)]
      · rw [List.length_map, List.length_map, List.length_take]
        omega
      · rw [upd_same, take_more hp, List.map_append, List.map_append, List.length_map] <;> rfl
  · intro H3 ⟨z1, z2⟩
    rw [tblV_len, List.take_length] at z2
    exact hd H3 z1 z2
section
variable {P : Program} {w : World} {K : PySem.W.Frag} {mg : Str → Option Value} {base : Heap}
/-- list(..) of a list or tuple -/
abbrev rListOf (K : PySem.W.Frag) : List V → Hp → VK → Prop := fun xs H Q => ∃ p ys, xs = [.ref p] ∧ (SqL K H p ys ∨ SqT K H p ys) ∧ ∀ l, H l = none → Q (.ref l) (upd H l (.lst ys))
abbrev NLo : List Str := ["forest", "lists", "rollout", "row", "place"]
theorem scLo : FnScope NLo ["forest", "lists"] (defScope s_Rollout_load) := ⟨rfl, rfl, rfl, by decide +kernel, rfl, by decide +kernel, by decide +kernel⟩
theorem ok_load {f fP fA fI CF CR : Addr} {mcR : Value} {fd fdP fdA fdI : FuncData} (F : Fun K "load" "Rollout.load" s_Rollout_load f fd) (T : Nm mg) (R : RoC K mg CR mcR) (DP : Dn P w K mg base CX0 3 "places_of" ["forest"] (spPlacesOf CF) fP fdP) (DA : Dn P w K mg base CX0 4 "are_lists" ["forest", "lists"] (spAreL CF) fA fdA)
    (M : Mk K CR fI) (FI : FnOk P w K mg base CX0 4 fI fdI ["self", "forest", "users"] (spRInit CF CR)) (bI : Binds K fdI ["self", "forest", "users"] []) : FnOk P w K mg base CX0 6 f fd ["forest", "lists"] (spLoad CF CR) := by
  refine F.ok scLo (fun vs H Q E h => ?_) (fun cdv A outer s H vs Q E hr h => ?_)
  · obtain ⟨x, q, ts, r, L, n, rfl, _⟩ := h
    rfl
  · obtain ⟨x, q, ts, r, L, n, rfl, fa, o, hL, hV, n1, n60, k⟩ := h
    have hu := hu_of hr
    have nd := scLo.nd
    have hr3 : Room 3 _ := hr.mono (by decide)
    have hr4 : Room 4 _ := hr.mono (by decide)
    have big : 1000 ≤ sizeLine := by decide
    have few := o.few
    have pln := pls_len ts
    have pnd := pls_nd o
    refine ⟨_, pss_cons (ps_if (pt_not (pt_val (pe_call DA.ok hr4 rfl DA.mgn DA.kp DA.bn .nil pass0 (pa_cons (pv 0) (pa_cons (pv 1) pa_nil))))) pss_never pss_nil)
      (pss_cons (ps_set (i := 2) nd rfl (.inl rfl) (pe_make M FI hr (by rfl) R.gR bI .nil pass0 (pa_cons (pv 0) (pa_cons (pe_callB (cr_sum rfl) (by rfl) T.sum (by decide +kernel) (pa_cons (pe_lock (pe_lc (own := [("row", 3)]) (g := gName 3) (tt := tYes) (te := tCB (rLenS K) (tCons (tVar 3) tNil)) rfl nd (pi_values (pv 1))
        (blkOk_by (N := NLo) (sc := defScope s_Rollout_load) (by decide +kernel)) (fun _ _ _ _ _ => pg_name (i := 3) nd rfl (Or.inl rfl)) (fun _ _ _ _ _ => pts_nil) (fun _ _ _ _ _ => pe_callB call_len_seq (by rfl) T.len PySem.boot_len (pa_cons (pv 3) pa_nil)))) pa_nil)) pa_nil))))
      (pss_cons (ps_fld (pv 2) (pe_dc (own := [("place", 4)]) (g := gName 4) (tt := tYes) (tv := tCB (rListOf K) (tCons (tDGet (tVar 1) (tVar 4)) tNil)) rfl nd (pi_list (pe_call DP.ok hr3 rfl DP.mgn DP.kp DP.bn .nil pass0 (pa_cons (pv 0) pa_nil))) (blkOk_by (N := NLo) (sc := defScope s_Rollout_load) (by decide +kernel))
        (fun _ _ _ _ _ => pg_name (i := 4) nd rfl (Or.inl rfl)) (fun _ _ _ _ _ => pts_nil) (fun _ _ _ _ _ => pv 4) (fun _ _ _ _ _ => pe_callTy call_list_of (by rfl) T.lst (by decide +kernel) (pa_cons (pe_dget hu (pv 1) (pv 4) (fun _ _ => rfl)) pa_nil))) rfl)
      (pss_one (ps_ret (pv 2))))), ?_⟩
    refine ⟨_, rfl, _, rfl, x, q, ts, r, L, n, rfl, fa, o, hL, hV, n1, n60, fun H1 s1 => ⟨true, rfl, iteF ?_⟩⟩
    have hL1 := hL.mono s1
    refine ⟨_, rfl, q, _, hL1.1, trivial, fun od => ⟨_, rfl, q, od, _, rfl, upd_same, fun D nD => ?_⟩⟩
    have Dq : D ≠ q := (ne_of_none upd_same nD).symm
    refine lens_walk (by omega) big nD upd_same (fun p hp => by rw [upd_ne (ne_of (hL1.2 p hp) hL1.1 (by intro z; cases z))]; exact hL1.2 p hp) (by show 3 < 5; omega) fun H3 s3 hD => ⟨s3 _ _ upd_same, D, _, rfl, SqL.of (by rw [upd_ne Dq]; exact hD), ?_⟩
    rw [val_len hV]
    have s03 : Same H (upd H3 q (.dK (tblV (pls ts) fun p => .ref (r p)))) := s1.trans (unlock_same hL1.1 s3)
    obtain ⟨H4, e4⟩ : ∃ X, X = upd H3 q (.dK (tblV (pls ts) fun p => .ref (r p))) := ⟨_, rfl⟩
    rw [← e4] at s03 ⊢
    refine fun y dy ny ndy dyy => ?_
    have sN : Same H4 (upd (upd H4 dy (.own y)) y (.ins CR dy [])) := fun b u e => by
      rw [upd_ne (ne_of_none e ny), upd_ne (ne_of_none e ndy)]
      exact e
    refine ⟨y, x, dy, n, ts, rfl, upd_same, (fa.mono s03).mono sN, o, n1, n60, fun H5 q5 z5 r5 nq5 nz5 nr5 oth hy5 hL5 hz5 => ⟨rfl, ?_⟩⟩
    have s45 : Same H4 H5 := fun b u e => oth b u (ne_of_none e ny) (sN _ _ e)
    have s05 := s03.trans s45
    have fr5 : ∀ {b : Addr}, (upd (upd H4 dy (.own y)) y (.ins CR dy [])) b = none → H b = none := fun {b} e => (s03.trans sN).free e
    refine ⟨_, rfl, x, ts, rfl, fa.mono s05, few, fun pl H6 s6 npl hpl => ⟨pl, rfl, ⟨_, SqL.of hpl⟩, fun D2 nD2 => ?_⟩⟩
    refine dc_it walk_list (fun i H' => Same H6 H' ∧ ∃ r' : Str → Addr, H' D2 = some (.dK (tblV ((pls ts).take i) fun p => .ref (r' p))) ∧ ∀ p ∈ (pls ts).take i, H' (r' p) = some (.lst ((L p).map V.int)) ∧ H (r' p) = none) ⟨same_new nD2, fun _ => 0, upd_same, fun p h => by simp at h⟩ (fun i H' _ z => SqL.of (z.1 _ _ hpl)) ?_ ?_
    · intro i v Hz Ha hi ⟨q1, r', q2, q3⟩ ⟨eb, ex⟩
      subst eb
      obtain ⟨p, hp, rfl⟩ := map_of (f := V.str) (l := pls ts) ex
      have mp := List.mem_of_getElem? hp
      have il := (List.getElem?_eq_some_iff.mp hp).1
      have fr := nat_fresh pnd hp
      have hLa := hL.mono ((s05.trans s6).trans q1)
      refine ⟨rfl, ?_⟩
      refine ⟨_, rfl, _, rfl, _, rfl, q, .ref (r p), rfl, hLa.get mp, r p, _, rfl, .inl (SqL.of (hLa.2 p mp)), fun l nl => ?_⟩
      have sl := same_new (o := .lst ((L p).map V.int)) nl
      have lD : l ≠ D2 := (ne_of_none q2 nl).symm
      refine ⟨_, Sum.inr p, rfl, sl _ _ q2, by rw [tblV_len, List.length_take]; omega, (q1.trans sl).put nD2, fun a => if a = p then l else r' a, ?_, fun a ha => ?_⟩
      · rw [upd_same, tblV_congr (g' := fun a => V.ref (if a = p then l else r' a)) fun a ha => by rw [if_neg fun z => fr (by rw [← z]; exact ha)], tblV_snoc fr (by rw [if_pos rfl]), take_more hp]
      · rw [take_more hp] at ha
        show (upd (upd Ha l (.lst ((L p).map V.int))) D2 _) (if a = p then l else r' a) = some (.lst ((L a).map V.int)) ∧ H (if a = p then l else r' a) = none
        by_cases e : a = p
        · rw [if_pos e, e]
          exact ⟨by rw [upd_ne lD]; exact upd_same, ((s05.trans s6).trans q1).free nl⟩
        · rw [if_neg e]
          obtain ⟨z1, z2⟩ := q3 a ((List.mem_append.mp ha).resolve_right fun z => e (List.mem_singleton.mp z))
          exact ⟨by rw [upd_ne (ne_of (sl _ _ z1) (sl _ _ q2) (by intro z; cases z))]; exact sl _ _ z1, z2⟩
    intro H7 ⟨s67, r', hD2, hr'⟩
    have e : ((("" : Str) :: ts.map Prod.fst).map V.str).length = (pls ts).length := List.length_map _
    rw [e, List.take_length] at hD2 hr'
    have s57 := s6.trans s67
    have hy7 := s57 _ _ hy5
    have hz7 := s57 _ _ hz5
    have yD : D2 ≠ y := ne_of hD2 hy7 (by intro z; cases z)
    have zy : z5 ≠ y := ne_of hz7 hy7 (by intro z; cases z)
    refine ⟨_, rfl, y, CR, dy, _, rfl, hy7, R.cl, R.nK, by show 3 < 1000; decide, ?_⟩
    rw [put_k2]
    have ny0 : H y = none := s03.free ny
    refine ⟨_, rfl, k _ y D2 z5 dy r' (fun b u e => ?_) ny0 ((s05.trans s6).free nD2) (fr5 nz5) (fun p hp => (hr' p hp).2) upd_same ⟨by rw [upd_ne yD]; exact hD2, fun p hp => ?_⟩ (by rw [upd_ne zy]; exact hz7)⟩
    · rw [upd_ne (ne_of_none e ny0)]
      exact (s05.trans s57) _ _ e
    · have z1 := (hr' p hp).1
      rw [upd_ne (ne_of z1 hy7 (by intro z; cases z))]
      exact z1
end
end FT


/-! Rollout's properties and change -/
namespace FT
open PySem L2 TL ClX LiI
/-- no size is greater than the number of users -/
theorem sz_le {ts : List (Str × Str)} (o : TreeOk ts) {n : Int} {s : Str → Int} (h0 : ∀ a ∈ ts.map Prod.fst, 0 ≤ s a) (h1 : ∀ p, Pl ts p → 0 ≤ resid ts n s p) {a : Str} (ha : a ∈ ts.map Prod.fst) : s a ≤ n := by
  obtain ⟨rk, r⟩ := o.up
  have mem : ∀ {l : List Str} {x : Str}, (∀ y ∈ l, 0 ≤ s y) → x ∈ l → s x ≤ (l.map s).sum := by
    intro l x
    induction l with
    | nil => intro _ h; cases h
    | cons b l ih =>
      intro nn h
      have nb := nn b (List.mem_cons_self ..)
      have nl : 0 ≤ (l.map s).sum := by
        have : ∀ l : List Str, (∀ y ∈ l, 0 ≤ s y) → 0 ≤ (l.map s).sum := fun l => by
          induction l with
          | nil => intro _; exact Int.le_refl _
          | cons c l ih =>
            intro h
            rw [List.map_cons, List.sum_cons]
            have := h c (List.mem_cons_self ..)
            have := ih fun y hy => h y (List.mem_cons_of_mem _ hy)
            omega
        exact this l fun y hy => nn y (List.mem_cons_of_mem _ hy)
      rw [List.map_cons, List.sum_cons]
      rcases List.mem_cons.mp h with rfl | h
      · omega
      · have := ih (fun y hy => nn y (List.mem_cons_of_mem _ hy)) h
        omega
  have key : ∀ (m : Nat) (a : Str), a ∈ ts.map Prod.fst → rk a < m → s a ≤ n := by
    intro m
    induction m with
    | zero => exact fun a _ h => absurd h (Nat.not_lt_zero _)
    | succ m ih =>
      intro a ha hm
      obtain ⟨p, ep, hp, _⟩ := o.step r ha
      have hk : a ∈ kids ts p := (kid_par o).mpr ep
      have le := mem (l := kids ts p) (fun y hy => h0 y (par_flag ((kid_par o).mp hy))) hk
      have re := h1 p (hp.imp id And.left)
      unfold resid at re
      rcases hp with e | ⟨hp, lt⟩
      · rw [if_pos e] at re
        omega
      · rw [if_neg fun z => o.root (by rw [← z]; exact hp)] at re
        have := ih p hp (by omega)
        omega
  exact key (rk a + 1) a ha (Nat.lt_succ_self _)
theorem szOf_tblI {l : List Str} {g : Str → Int} {a : Str} (h : a ∈ l) : szOf (tblI l g) a = g a := by
  unfold szOf
  rw [tblI_val h]
/-- what a change takes -/
def chg (ts : List (Str × Str)) (L : Str → List Int) (kvs : List (Key × V)) (a : Str) : Int := szOf kvs a - lsz ts L a
def Kp2 (y z : Addr) (H H' : Hp) : Prop := ∀ b u, b ≠ y → b ≠ z → H b = some u → H' b = some u
def spChange (K : PySem.W.Frag) (CF CR CS : Addr) : Sp := fun vs H Q E => ∃ (y z x : Addr) (sv : V) (Ex : List Addr) (ts : List (Str × Str)) (L : Str → List Int) (ps : List (Str → Int)) (n : Nat) (o : Option (List (Key × V))), vs = [.ref y, sv] ∧ RollAt CF CR Ex H y z x ts L ps ∧ TreeOk ts ∧ Val ts n L ∧ 1 ≤ n ∧ n ≤ 60 ∧ ps.length ≤ 1000 ∧
  SzV K H sv o ∧ (∀ b ∈ Ex, ∃ u, H b = some u) ∧ match feE CS ts n o with
  | none => ∀ (H' : Hp) (L' : Str → List Int), Moved ts (chg ts L (kvsOf o)) L L' → Kp2 y z H H' → RollAt CF CR Ex H' y z x ts L' (ps ++ [lsz ts L]) → Q (.int ((ts.map Prod.fst).map fun a => absI (chg ts L (kvsOf o) a)).sum) H'
  | some e => Out H E e
theorem nat_sum {l : List Str} {f : Str → List Int} {b : Str} (h : b ∈ l) : ((f b).length : Int) ≤ (l.map fun p => ((f p).length : Int)).sum := by
  induction l with
  | nil => cases h
  | cons a l ih =>
    have nl : 0 ≤ (l.map fun p => ((f p).length : Int)).sum := by
      have : ∀ l : List Str, 0 ≤ (l.map fun p => ((f p).length : Int)).sum := fun l => by
        induction l with
        | nil => exact Int.le_refl _
        | cons c l ih =>
          rw [List.map_cons, List.sum_cons]
          omega
      exact this l
    rw [List.map_cons, List.sum_cons]
    rcases List.mem_cons.mp h with rfl | h
    · omega
    · have := ih h
      omega
section
variable {P : Program} {w : World} {K : PySem.W.Frag} {mg : Str → Option Value} {base : Heap}
abbrev NTo : List Str := ["self", "row"]
theorem scTo : FnScope NTo ["self"] (defScope s_Rollout_total) := ⟨rfl, rfl, rfl, by decide +kernel, rfl, by decide +kernel, by decide +kernel⟩
theorem ok_rtotal {f CF CR : Addr} {mcR : Value} {fd : FuncData} (F : Fun K "total" "Rollout.total" s_Rollout_total f fd) (T : Nm mg) (R : RoC K mg CR mcR) : FnOk P w K mg base CX0 1 f fd ["self"] (spRTotal CF CR) := by
  refine F.ok scTo (fun vs H Q E h => ?_) (fun cdv A outer s H vs Q E hr h => ?_)
  · obtain ⟨y, z, x, Ex, ts, L, ps, n, rfl, _⟩ := h
    rfl
  · obtain ⟨y, z, x, Ex, ts, L, ps, n, rfl, ra, o, hV, k⟩ := h
    have nd := scTo.nd
    have big : 1000 ≤ sizeLine := by decide
    have few := o.few
    have pln := pls_len ts
    refine ⟨_, pss_one (ps_ret (pe_callB (cr_sum rfl) (by rfl) T.sum (by decide +kernel) (pa_cons (pe_lock (pe_lc (own := [("row", 1)]) (g := gName 1) (tt := tYes) (te := tCB (rLenS K) (tCons (tVar 1) tNil)) rfl nd (pi_values (pe_fld (pv 0) rfl))
        (blkOk_by (N := NTo) (sc := defScope s_Rollout_total) (by decide +kernel)) (fun _ _ _ _ _ => pg_name (i := 1) nd rfl (Or.inl rfl)) (fun _ _ _ _ _ => pts_nil) (fun _ _ _ _ _ => pe_callB call_len_seq (by rfl) T.len PySem.boot_len (pa_cons (pv 1) pa_nil)))) pa_nil))), ?_⟩
    obtain ⟨dy, q, dx, dq, r, rs, hy, hL, hz, hps, hx, hd, off1, off2⟩ := ra
    refine ⟨q, _, hL.1, trivial, fun od => ⟨_, rfl, y, CR, dy, _, .ref q, rfl, by rw [upd_ne (ne_of hy hL.1 (by intro z; cases z))]; exact hy, R.cl, R.nK, rfl, q, od, _, rfl, upd_same, fun D nD => ?_⟩⟩
    have Dq : D ≠ q := (ne_of_none upd_same nD).symm
    refine lens_walk (by omega) big nD upd_same (fun p hp => by rw [upd_ne (ne_of (hL.2 p hp) hL.1 (by intro z; cases z))]; exact hL.2 p hp) (by show 1 < 2; omega) fun H3 s3 hD => ⟨s3 _ _ upd_same, D, _, rfl, SqL.of (by rw [upd_ne Dq]; exact hD), ?_⟩
    rw [val_len hV]
    exact k _ (unlock_same hL.1 s3)
abbrev NRl : List Str := ["self", "place", "row"]
theorem scRl : FnScope NRl ["self"] (defScope s_Rollout_lists) := ⟨rfl, rfl, rfl, by decide +kernel, rfl, by decide +kernel, by decide +kernel⟩
theorem ok_rlists {f CF CR : Addr} {mcR : Value} {fd : FuncData} (F : Fun K "lists" "Rollout.lists" s_Rollout_lists f fd) (T : Nm mg) (R : RoC K mg CR mcR) : FnOk P w K mg base CX0 1 f fd ["self"] (spRLists CF CR) := by
  refine F.ok scRl (fun vs H Q E h => ?_) (fun cdv A outer s H vs Q E hr h => ?_)
  · obtain ⟨y, z, x, Ex, ts, L, ps, rfl, _⟩ := h
    rfl
  · obtain ⟨y, z, x, Ex, ts, L, ps, rfl, ra, o, k⟩ := h
    have nd := scRl.nd
    have big : 1000 ≤ sizeLine := by decide
    have few := o.few
    have pln := pls_len ts
    have pnd := pls_nd o
    refine ⟨_, pss_one (ps_ret (pe_lock (pe_dc (own := [("place", 1), ("row", 2)]) (g := gTup K 2 (gCons (gName 1) (gCons (gName 2) gNil))) (tt := tYes) (tv := tCB (rListOf K) (tCons (tVar 2) tNil)) rfl nd (pi_items (pe_fld (pv 0) rfl))
        (blkOk_by (N := NRl) (sc := defScope s_Rollout_lists) (by decide +kernel)) (fun _ _ _ _ _ => pg_tup rfl (pgs_cons (pg_name (i := 1) nd rfl (Or.inl rfl)) (pgs_cons (pg_name (i := 2) nd rfl (Or.inl rfl)) pgs_nil))) (fun _ _ _ _ _ => pts_nil) (fun _ _ _ _ _ => pv 1)
        (fun _ _ _ _ _ => pe_callTy call_list_of (by rfl) T.lst (by decide +kernel) (pa_cons (pv 2) pa_nil))))), ?_⟩
    obtain ⟨dy, q, dx, dq, r, rs, hy, hL, hz, hps, hx, hd, off1, off2⟩ := ra
    refine ⟨q, _, hL.1, trivial, fun od => ⟨_, rfl, y, CR, dy, _, .ref q, rfl, by rw [upd_ne (ne_of hy hL.1 (by intro z; cases z))]; exact hy, R.cl, R.nK, rfl, q, od, _, rfl, upd_same, fun D nD => ?_⟩⟩
    have Dq : D ≠ q := (ne_of_none upd_same nD).symm
    obtain ⟨H0, e0⟩ : ∃ X, X = upd H q (.frz od (.dK (tblV (pls ts) fun p => .ref (r p)))) := ⟨_, rfl⟩
    have hq0 : H0 q = some (.frz od (.dK (tblV (pls ts) fun p => .ref (r p)))) := by rw [e0]; exact upd_same
    have hl0 : ∀ p ∈ pls ts, H0 (r p) = some (.lst ((L p).map V.int)) := fun p hp => by
      have z := hL.2 p hp
      rw [e0, upd_ne (ne_of z hL.1 (by intro z; cases z))]
      exact z
    have fr0 : ∀ {H' : Hp} {b : Addr}, Same H0 H' → H' b = none → H b = none := fun {H' b} s z => by
      have z0 := s.free z
      cases e : H b with
      | none => rfl
      | some u =>
        by_cases bq : b = q
        · rw [bq, hq0] at z0
          cases z0
        · rw [e0, upd_ne bq, e] at z0
          cases z0
    rw [← e0] at nD ⊢
    refine dc_it walk_items (fun i H' => Same H0 H' ∧ ∃ r' : Str → Addr, H' D = some (.dK (tblV ((pls ts).take i) fun p => .ref (r' p))) ∧ ∀ p ∈ (pls ts).take i, H' (r' p) = some (.lst ((L p).map V.int)) ∧ H (r' p) = none) ⟨same_new nD, fun _ => 0, upd_same, fun p h => by simp at h⟩ (fun i H' _ z => z.1 _ _ hq0) ?_ ?_
    · intro i v Hz Ha hi ⟨q1, r', q2, q3⟩ ⟨T0, x0, y0, ey, nT, eb, ex, ev⟩
      subst ey
      subst eb
      rw [tblV_len] at hi
      obtain ⟨p, hp⟩ : ∃ p, (pls ts)[i]? = some p := ⟨_, List.getElem?_eq_getElem hi⟩
      have hx2 : (tblV (pls ts) fun p => V.ref (r p))[i]? = some (Sum.inr p, V.ref (r p)) := by
        unfold tblV kvT
        rw [List.map_map, List.getElem?_map, hp] <;> rfl
      have ex : Option.map (fun kv => kV kv.1) ((tblV (pls ts) fun p => V.ref (r p))[i]?) = some x0 := ex
      have ev : Option.map Prod.snd ((tblV (pls ts) fun p => V.ref (r p))[i]?) = some y0 := ev
      rw [hx2] at ex ev
      cases ex
      cases ev
      have mp := List.mem_of_getElem? hp
      have fr := nat_fresh pnd hp
      obtain ⟨Hb, eHb⟩ : ∃ X, X = upd Hz T0 (.tup [V.str p, V.ref (r p)]) := ⟨_, rfl⟩
      have sT : Same Hz Hb := eHb ▸ same_new nT
      have hT : Hb T0 = some (.tup [V.str p, V.ref (r p)]) := by rw [eHb]; exact upd_same
      show gTup K 2 _ (.ref T0) _ (upd Hz T0 (.tup [V.str p, V.ref (r p)])) _
      rw [← eHb]
      refine ⟨T0, _, rfl, .inl (.inl hT), rfl, _, _, rfl, _, _, rfl, rfl, rfl, ?_⟩
      have lp := sT _ _ (q1 _ _ (hl0 p mp))
      refine ⟨_, rfl, _, rfl, r p, _, rfl, .inl (SqL.of lp), fun l nl => ?_⟩
      have sl := same_new (o := .lst ((L p).map V.int)) nl
      have q2' := sT _ _ q2
      have lD : l ≠ D := (ne_of_none q2' nl).symm
      refine ⟨_, Sum.inr p, rfl, sl _ _ q2', by rw [tblV_len, List.length_take]; omega, ((q1.trans sT).trans sl).put nD, fun a => if a = p then l else r' a, ?_, fun a ha => ?_⟩
      · rw [upd_same, tblV_congr (g' := fun a => V.ref (if a = p then l else r' a)) fun a ha => by rw [if_neg fun z => fr (by rw [← z]; exact ha)], tblV_snoc fr (by rw [if_pos rfl]), take_more hp]
      · rw [take_more hp] at ha
        show (upd (upd Hb l (.lst ((L p).map V.int))) D _) (if a = p then l else r' a) = some (.lst ((L a).map V.int)) ∧ H (if a = p then l else r' a) = none
        by_cases e : a = p
        · rw [if_pos e, e]
          exact ⟨by rw [upd_ne lD]; exact upd_same, fr0 (q1.trans sT) nl⟩
        · rw [if_neg e]
          obtain ⟨z1, z2⟩ := q3 a ((List.mem_append.mp ha).resolve_right fun z => e (List.mem_singleton.mp z))
          have z1 := sl _ _ (sT _ _ z1)
          exact ⟨by rw [upd_ne (ne_of z1 (sl _ _ q2') (by intro z; cases z))]; exact z1, z2⟩
    intro H7 ⟨s07, r', hD2, hr'⟩
    rw [tblV_len, List.take_length] at hD2 hr'
    refine ⟨s07 _ _ hq0, k D r' _ (unlock_same hL.1 (by rw [← e0]; exact s07)) (by rw [e0, upd_ne Dq] at nD; exact nD) (fun p hp => (hr' p hp).2) ⟨by rw [upd_ne Dq]; exact hD2, fun p hp => ?_⟩⟩
    have z := hr' p hp
    have n : r' p ≠ q := fun e => by rw [e, hL.1] at z; cases z.2
    rw [upd_ne n]
    exact z.1
theorem scRz : FnScope ["self"] ["self"] (defScope s_Rollout_sizes) := ⟨rfl, rfl, rfl, by decide +kernel, rfl, by decide +kernel, by decide +kernel⟩
theorem ok_rsizes {f fS CF CR : Addr} {mcR : Value} {fd fdS : FuncData} (F : Fun K "sizes" "Rollout.sizes" s_Rollout_sizes f fd) (R : RoC K mg CR mcR) (DS : Dn P w K mg base CX0 3 "listed_sizes" ["forest", "lists"] (spLSizes CF) fS fdS) : FnOk P w K mg base CX0 4 f fd ["self"] (spRSizes CF CR) := by
  refine F.ok scRz (fun vs H Q E h => ?_) (fun cdv A outer s H vs Q E hr h => ?_)
  · obtain ⟨y, z, x, Ex, ts, L, ps, rfl, _⟩ := h
    rfl
  · obtain ⟨y, z, x, Ex, ts, L, ps, rfl, ra, o, k⟩ := h
    refine ⟨_, pss_one (ps_ret (pe_call DS.ok hr rfl DS.mgn DS.kp DS.bn .nil pass0 (pa_cons (pe_fld (pv 0) rfl) (pa_cons (pe_fld (pv 0) rfl) pa_nil)))), ?_⟩
    have fa := ra.fa
    obtain ⟨dy, q, dx, dq, r, rs, hy, hL, hz, hps, hx, hd, off1, off2⟩ := ra
    exact ⟨_, rfl, y, CR, dy, _, .ref x, rfl, hy, R.cl, R.nG, rfl, _, rfl, y, CR, dy, _, .ref q, rfl, hy, R.cl, R.nK, rfl, x, q, ts, r, L, rfl, fa, o, hL, k⟩
theorem scRa : FnScope ["self"] ["self"] (defScope s_Rollout_assignment) := ⟨rfl, rfl, rfl, by decide +kernel, rfl, by decide +kernel, by decide +kernel⟩
theorem ok_rasg {f fS fI CF CR CA : Addr} {mcA mcR : Value} {fd fdS fdI : FuncData} (F : Fun K "assignment" "Rollout.assignment" s_Rollout_assignment f fd) (R : RoC K mg CR mcR) (B : Ac K mg CA mcA) (DS : Dn P w K mg base CX0 1 "listed_places" ["lists"] spLPlaces fS fdS)
    (M : Mk K CA fI) (FI : FnOk P w K mg base CX0 1 fI fdI ["self", "forest", "places"] (spAInit CF CA)) (bI : Binds K fdI ["self", "forest", "places"] []) : FnOk P w K mg base CX0 3 f fd ["self"] (spRAsg CF CR CA) := by
  refine F.ok scRa (fun vs H Q E h => ?_) (fun cdv A outer s H vs Q E hr h => ?_)
  · obtain ⟨y, z, x, Ex, ts, L, ps, n, rfl, _⟩ := h
    rfl
  · obtain ⟨y, z, x, Ex, ts, L, ps, n, rfl, ra, o, hV, n1, n60, k⟩ := h
    refine ⟨_, pss_one (ps_ret (pe_make M FI hr (by rfl) B.gA bI .nil pass0 (pa_cons (pe_fld (pv 0) rfl) (pa_cons (pe_call DS.ok (hr.mono (by decide)) rfl DS.mgn DS.kp DS.bn .nil pass0 (pa_cons (pe_fld (pv 0) rfl) pa_nil)) pa_nil)))), ?_⟩
    have fa := ra.fa
    obtain ⟨dy, q, dx, dq, r, rs, hy, hL, hz, hps, hx, hd, off1, off2⟩ := ra
    refine ⟨_, rfl, y, CR, dy, _, .ref x, rfl, hy, R.cl, R.nG, rfl, _, rfl, y, CR, dy, _, .ref q, rfl, hy, R.cl, R.nK, rfl, q, ts, r, L, n, rfl, o, hL, hV, n60, fun p H1 s1 np hp => ?_⟩
    refine fun a da na nda daa => ?_
    have sN : Same H1 (upd (upd H1 da (.own a)) a (.ins CA da [])) := fun b u e => by
      rw [upd_ne (ne_of_none e na), upd_ne (ne_of_none e nda)]
      exact e
    have ll : ((usr n).map (plOf ts L)).length = n := by rw [List.length_map, usr_len]
    refine ⟨a, x, p, da, ts, (usr n).map (plOf ts L), rfl, upd_same, (fa.mono s1).mono sN, o, sN _ _ hp, by omega, by omega, fun z hz => ?_, fun H2 aa oth => ⟨rfl, k a H2 (fun b u e => oth b u (ne_of_none (s1 _ _ e) na) (sN _ _ (s1 _ _ e))) (s1.free na) aa⟩⟩
    obtain ⟨u, hu, rfl⟩ := List.mem_map.mp hz
    obtain ⟨u0, u1⟩ := mem_usr.mp hu
    exact (plOf_at hV u0 u1).1
theorem scRd : FnScope ["self"] ["self"] (defScope s_Rollout_depth) := ⟨rfl, rfl, rfl, by decide +kernel, rfl, by decide +kernel, by decide +kernel⟩
theorem ok_rdepth {f CF CR : Addr} {mcR : Value} {fd : FuncData} (F : Fun K "depth" "Rollout.depth" s_Rollout_depth f fd) (T : Nm mg) (R : RoC K mg CR mcR) : FnOk P w K mg base CX0 1 f fd ["self"] (spRDepth CF CR) := by
  refine F.ok scRd (fun vs H Q E h => ?_) (fun cdv A outer s H vs Q E hr h => ?_)
  · obtain ⟨y, z, x, Ex, ts, L, ps, rfl, _⟩ := h
    rfl
  · obtain ⟨y, z, x, Ex, ts, L, ps, rfl, ra, k⟩ := h
    refine ⟨_, pss_one (ps_ret (pe_callB call_len_seq (by rfl) T.len PySem.boot_len (pa_cons (pe_fld (pv 0) rfl) pa_nil))), ?_⟩
    obtain ⟨dy, q, dx, dq, r, rs, hy, hL, hz, hps, hx, hd, off1, off2⟩ := ra
    refine ⟨_, rfl, y, CR, dy, _, .ref z, rfl, hy, R.cl, R.nS, rfl, z, _, rfl, .inl (SqL.of hz), ?_⟩
    rw [List.length_map, hps.len]
    exact k
end
end FT


/-! Rollout.change -/
namespace FT
open PySem L2 TL ClX LiI
theorem lv_le {ts : List (Str × Str)} {c : Str → Int} {b : Int} (h : ∀ a ∈ ts.map Prod.fst, - b ≤ c a ∧ c a ≤ b) (b0 : 0 ≤ b) (p q : Str) : (lv ts c p q : Int) ≤ b := by
  unfold lv
  by_cases h1 : par ts q = some p ∧ 0 < c q
  · rw [if_pos h1]
    have := h q (par_flag h1.1)
    omega
  · rw [if_neg h1]
    by_cases h2 : par ts p = some q ∧ c p < 0
    · rw [if_pos h2]
      have := h p (par_flag h2.1)
      omega
    · rw [if_neg h2]
      exact b0
theorem lsz_bd {ts : List (Str × Str)} (o : TreeOk ts) {n : Nat} {L : Str → List Int} (hV : Val ts n L) {a : Str} (ha : a ∈ ts.map Prod.fst) : 0 ≤ lsz ts L a ∧ lsz ts L a ≤ n := by
  have nn : ∀ a, 0 ≤ lsz ts L a := fun a => by
    unfold lsz
    generalize under ts a = l
    induction l with
    | nil => exact Int.le_refl _
    | cons b l ih =>
      rw [List.map_cons, List.sum_cons]
      omega
  refine ⟨nn a, sz_le o (fun a _ => nn a) (fun p hp => ?_) ha⟩
  rw [← lsz_lens o (val_len hV) p hp]
  omega
section
variable {P : Program} {w : World} {K : PySem.W.Frag} {mg : Str → Option Value} {base : Heap}
abbrev NCg : List Str := ["self", "new", "before", "changed", "amount"]
theorem scCg : FnScope NCg ["self", "new"] (defScope s_Rollout_change) := ⟨rfl, rfl, rfl, by decide +kernel, rfl, by decide +kernel, by decide +kernel⟩
theorem ok_change {f fF fL fA fC CF CR CS p1 g1 : Addr} {mcR : Value} {fd fdF fdL fdA fdC fd1 : FuncData} (F : Fun K "change" "Rollout.change" s_Rollout_change f fd) (T : Nm mg) (R : RoC K mg CR mcR) (NF : Dn P w K mg base (L2.CX P w) 5 "need_feasible" ["forest", "users", "sizes"] (spFeas K CF CS) fF fdF)
    (DL : Dn P w K mg base CX0 3 "listed_sizes" ["forest", "lists"] (spLSizes CF) fL fdL) (DA : Dn P w K mg base CX0 3 "amounts_of" ["forest", "sizes", "new"] (spAmtOf CF) fA fdA) (DC : Dn P w K mg base CX0 5 "changed_lists" ["forest", "lists", "changed"] (spChanged CF) fC fdC) (PT : PrN P w K mg base 1 CR "total" (spRTotal CF CR) p1 g1 fd1) :
    FnOk P w K mg base (L2.CX P w) 6 f fd ["self", "new"] (spChange K CF CR CS) := by
  refine F.okX scCg (fun vs H Q E h => ?_) (fun cdv A outer s H vs Q E hr h => ?_)
  · obtain ⟨y, z, x, sv, Ex, ts, L, ps, n, so, rfl, _⟩ := h
    rfl
  · obtain ⟨y, z, x, sv, Ex, ts, L, ps, n, so, rfl, ra, o, hV, n1, n60, pl, hz, hEx, k⟩ := h
    have hu := hu_of hr
    have nd := scCg.nd
    have hr2 : Room 2 _ := hr.mono (by decide)
    have hr3 : Room 3 _ := hr.mono (by decide)
    have big : 2000 ≤ sizeLine := by decide
    have few := o.few
    refine ⟨_, pss_cons (ps_expr (pe_call NF.ok hr rfl NF.mgn NF.kp NF.bn .nil (passes_call (takes_of rfl rfl rfl rfl) (fun _ _ _ _ h => h)) (pa_cons (pe_fld (pv 0) rfl) (pa_cons (pe_prop (pv 0) R.cl PT.pr PT.fn hr2 PT.bn .nil pass0 (by rfl)) (pa_cons (pv 1) pa_nil)))))
      (pss_cons (ps_set (i := 2) nd rfl (.inl rfl) (pe_call DL.ok hr3 rfl DL.mgn DL.kp DL.bn .nil pass0 (pa_cons (pe_fld (pv 0) rfl) (pa_cons (pe_fld (pv 0) rfl) pa_nil))))
      (pss_cons (ps_set (i := 3) nd rfl (.inl rfl) (pe_call DA.ok hr3 rfl DA.mgn DA.kp DA.bn .nil pass0 (pa_cons (pe_fld (pv 0) rfl) (pa_cons (pv 2) (pa_cons (pv 1) pa_nil)))))
      (pss_cons (ps_fld (pv 0) (pe_call DC.ok hr rfl DC.mgn DC.kp DC.bn .nil pass0 (pa_cons (pe_fld (pv 0) rfl) (pa_cons (pe_fld (pv 0) rfl) (pa_cons (pv 3) pa_nil)))) rfl)
      (pss_cons (ps_expr (pe_bm PySem.F.plainAttrs_list PySem.F.slot_list_append PySem.F.type_list_append mt_append (pe_fld (pv 0) rfl) (pa_cons (pv 2) pa_nil)))
      (pss_one (ps_ret (pe_callB (cr_sum rfl) (by rfl) T.sum (by decide +kernel) (pa_cons (pe_lock (pe_lc (own := [("amount", 4)]) (g := gName 4) (tt := tYes) rfl nd (pi_values (pv 3)) (blkOk_by (N := NCg) (sc := defScope s_Rollout_change) (by decide +kernel))
        (fun _ _ _ _ _ => pg_name (i := 4) nd rfl (Or.inl rfl)) (fun _ _ _ _ _ => pts_nil) (fun _ _ _ _ _ => pe_callB call_abs (by rfl) T.abs (by decide +kernel) (pa_cons (pv 4) pa_nil)))) pa_nil)))))))), ?_⟩
    have fa := ra.fa
    have ra0 := ra
    obtain ⟨dy, q, dx, dq, r, rs, hy, hL, hz0, hps, hx, hd, off1, off2⟩ := ra
    refine ⟨_, rfl, y, CR, dy, _, .ref x, rfl, hy, R.cl, R.nG, rfl, _, rfl, y, dy, _, rfl, hy, y, z, x, Ex, ts, L, ps, n, rfl, ra0, o, hV, fun H1 s1 => ⟨_, rfl, x, (n : Int), sv, ts, so, rfl, fa.mono s1, o, hz.mono s1, ?_⟩⟩
    cases ef : feE CS ts n so with
    | some e =>
      rw [ef] at k
      exact Out.mono s1 k
    | none =>
      rw [ef] at k
      intro H2 s12
      have s2 := s1.trans s12
      cases so with
      | none => exact absurd ef feE_none
      | some kvs =>
        obtain ⟨qn, rfl, hqn, _⟩ := hz
        obtain ⟨fl, fv, fr⟩ := feE_ok ef
        refine ⟨_, rfl, y, CR, dy, _, .ref x, rfl, s2 _ _ hy, R.cl, R.nG, rfl, _, rfl, y, CR, dy, _, .ref q, rfl, s2 _ _ hy, R.cl, R.nK, rfl, x, q, ts, r, L, rfl, fa.mono s2, o, hL.mono s2, fun b H3 s23 nb hb => ?_⟩
        have s3 := s2.trans s23
        refine ⟨_, rfl, y, CR, dy, _, .ref x, rfl, s3 _ _ hy, R.cl, R.nG, rfl, _, rfl, _, rfl, x, b, qn, ts, _, kvs, rfl, fa.mono s3, o, hb, s3 _ _ hqn, fun a ha => by rw [tblI_val ha, szOf_tblI ha], fun a ha => (fv a ha).1, fun c H4 s34 nc hc => ?_⟩
        have s4 := s3.trans s34
        have hc : H4 c = some (.dK (tblI (ts.map Prod.fst) (chg ts L kvs))) := by
          rw [hc]
          congr 2
          exact tblI_congr fun a ha => by rw [szOf_tblI ha] <;> rfl
        have cb : ∀ a ∈ ts.map Prod.fst, -60 ≤ chg ts L kvs a ∧ chg ts L kvs a ≤ 60 := fun a ha => by
          have h1 := lsz_bd o hV ha
          have h2 := (fv a ha).2
          have h3 := sz_le o (s := szOf kvs) (n := n) (fun a ha => (fv a ha).2) (fun p hp => fr p (mem_pls.mpr hp)) ha
          unfold chg
          omega
        refine ⟨_, rfl, y, CR, dy, _, .ref x, rfl, s4 _ _ hy, R.cl, R.nG, rfl, _, rfl, y, CR, dy, _, .ref q, rfl, s4 _ _ hy, R.cl, R.nK, rfl, _, rfl, x, q, c, ts, chg ts L kvs, r, L, rfl, fa.mono s4, o, hL.mono s4, hc, fun p hp => ⟨?_, fun p' => ?_⟩, fun p hp => ?_, fun q' r' L' H5 s45 nq' nr' mv hL' => ?_⟩
        · have := nat_sum (f := L) (mem_pls.mpr hp)
          rw [val_len hV] at this
          omega
        · have := lv_le (ts := ts) cb (by decide) p p'
          omega
        · have net := lv_net o (chg ts L kvs) hp
          have len := lsz_lens o (val_len hV) p hp
          have re := fr p (mem_pls.mpr hp)
          unfold resid at len re
          have e1 : ((kids ts p).map (chg ts L kvs)).sum = ((kids ts p).map (szOf kvs)).sum - ((kids ts p).map (lsz ts L)).sum := sum_map_sub _ _ _
          have e2 : (if p = "" then 0 else chg ts L kvs p) = (if p = "" then (n : Int) else szOf kvs p) - (if p = "" then (n : Int) else lsz ts L p) := by
            by_cases e : p = ""
            · rw [if_pos e, if_pos e, if_pos e]
              omega
            · rw [if_neg e, if_neg e, if_neg e] <;> rfl
          omega
        have s5 := s4.trans s45
        refine ⟨_, rfl, y, CR, dy, _, rfl, s5 _ _ hy, R.cl, R.nK, by show 3 < 1000; decide, ?_⟩
        rw [put_k2]
        obtain ⟨H6, e6⟩ : ∃ X, X = upd H5 y (.ins CR dy (rFs x q' z)) := ⟨_, rfl⟩
        have hy6 : H6 y = some (.ins CR dy (rFs x q' z)) := by rw [e6]; exact upd_same
        have k6 : ∀ {b u}, b ≠ y → H5 b = some u → H6 b = some u := fun {b u} n e => by rw [e6, upd_ne n]; exact e
        have zy : z ≠ y := ne_of hz0 hy (by intro z; cases z)
        have hz6 := k6 zy (s5 _ _ hz0)
        rw [← e6]
        have lrs := hps.len
        refine ⟨_, rfl, y, CR, dy, _, .ref z, rfl, hy6, R.cl, R.nS, rfl, .inl ⟨rfl, _, SqL.of hz6⟩, _, rfl, z, _, _, rfl, rfl, hz6, by rw [List.length_map]; omega, ?_⟩
        obtain ⟨H7, e7⟩ : ∃ X, X = upd H6 z (.lst (rs.map V.ref ++ [.ref b])) := ⟨_, rfl⟩
        have k7 : ∀ {b u}, b ≠ z → H6 b = some u → H7 b = some u := fun {b u} n e => by rw [e7, upd_ne n]; exact e
        have hz7 : H7 z = some (.lst ((rs ++ [b]).map V.ref)) := by rw [e7, upd_same, List.map_append] <;> rfl
        have hc5 := s45 _ _ hc
        have cy : c ≠ y := ne_of hc5 (s5 _ _ hy) (by intro z; cases z)
        have cz : c ≠ z := ne_of hc5 (s5 _ _ hz0) (by intro z; cases z)
        have hc7 := k7 cz (k6 cy hc5)
        rw [← e7]
        refine ⟨c, _, hc7, trivial, fun od => ⟨_, rfl, c, od, _, rfl, upd_same, fun D nD => ?_⟩⟩
        have Dc : D ≠ c := (ne_of_none upd_same nD).symm
        obtain ⟨H8, e8⟩ : ∃ X, X = upd H7 c (.frz od (.dK (tblI (ts.map Prod.fst) (chg ts L kvs)))) := ⟨_, rfl⟩
        have hc8 : H8 c = some (.frz od (.dK (tblI (ts.map Prod.fst) (chg ts L kvs)))) := by rw [e8]; exact upd_same
        rw [← e8] at nD ⊢
        refine lc_it walk_values (fun i H' => Same H8 H' ∧ H' D = some (.lst ((((ts.map Prod.fst).take i).map fun a => absI (chg ts L kvs a)).map V.int))) ⟨same_new nD, upd_same⟩ (fun i H' _ z => z.1 _ _ hc8) ?_ ?_
        · intro i v Hz Ha hi ⟨q1, q2⟩ ⟨eb, kk, hk⟩
          subst eb
          obtain ⟨a, ha, rfl, rfl⟩ := tblI_at hk
          have il := (List.getElem?_eq_some_iff.mp ha).1
          rw [List.length_map] at il
          refine ⟨rfl, ?_⟩
          refine ⟨_, rfl, _, rfl, _, q2, ?_, Same.put q1 nD, ?_⟩
          · rw [List.length_map, List.length_map, List.length_take, List.length_map]
            omega
          · rw [upd_same, take_more ha, List.map_append, List.map_append] <;> rfl
        · intro H9 ⟨s89, hD⟩
          rw [tblI_len, List.take_length] at hD
          refine ⟨s89 _ _ hc8, D, _, rfl, SqL.of (by rw [upd_ne Dc]; exact hD), ?_⟩
          have s79 : Same H7 (upd H9 c (.dK (tblI (ts.map Prod.fst) (chg ts L kvs)))) := unlock_same hc7 (by rw [← e8]; exact s89)
          obtain ⟨H10, e10⟩ : ∃ X, X = upd H9 c (.dK (tblI (ts.map Prod.fst) (chg ts L kvs))) := ⟨_, rfl⟩
          rw [← e10] at s79 ⊢
          have on : ∀ {b u}, b ≠ y → b ≠ z → H5 b = some u → H10 b = some u := fun {b u} n1 n2 e => s79 _ _ (k7 n2 (k6 n1 e))
          have nEx : ∀ {b}, H b = none → b ∉ Ex := fun {b} e m => by
            obtain ⟨u, hu⟩ := hEx b m
            rw [e] at hu
            cases hu
          have nb0 : H b = none := s2.free nb
          have hb5 := s45 _ _ (s34 _ _ hb)
          have yz7 : y ≠ z := Ne.symm zy
          refine k H10 L' mv (fun b u n1 n2 e => on n1 n2 (s5 _ _ e)) ⟨dy, q', dx, dq, r', rs ++ [b], s79 _ _ (k7 yz7 hy6), ⟨?_, fun p hp => ?_⟩, s79 _ _ hz7, ?_, ?_, ?_, fun b' hb' => ?_, fun p hp => nEx (s4.free (nr' p hp))⟩
          · exact on (ne_of hL'.1 (s5 _ _ hy) (by intro z; cases z)) (ne_of hL'.1 (s5 _ _ hz0) (by intro z; cases z)) hL'.1
          · refine on (ne_of (hL'.2 p hp) (s5 _ _ hy) (by intro z; cases z)) (fun e => ?_) (hL'.2 p hp)
            have w := nr' p hp
            rw [e, s4 _ _ hz0] at w
            cases w
          · refine PsAt.snoc (on (ne_of hb5 (s5 _ _ hy) (by intro z; cases z)) (ne_of hb5 (s5 _ _ hz0) (by intro z; cases z)) hb5) (PsAt.imp (fun b kvs e => ?_) hps)
            have e5 := s5 _ _ e
            exact on (ne_of e5 (s5 _ _ hy) (by intro z; cases z)) (ne_of e5 (s5 _ _ hz0) (by intro z; cases z)) e5
          · have e5 := s5 _ _ hx
            refine on (fun w => ?_) (ne_of e5 (s5 _ _ hz0) (by intro z; cases z)) e5
            rw [w, s5 _ _ hy] at e5
            injection e5 with e5
            injection e5 with _ _ e5
            have := congrArg List.length e5
            cases this
          · have e5 := s5 _ _ hd
            exact on (ne_of e5 (s5 _ _ hy) (by intro z; cases z)) (ne_of e5 (s5 _ _ hz0) (by intro z; cases z)) e5
          · simp only [List.mem_cons, List.mem_append, List.not_mem_nil, or_false] at hb'
            rcases hb' with rfl | rfl | rfl | rfl | rfl | hb' | rfl
            · exact off1 _ (by simp)
            · exact off1 _ (by simp)
            · exact nEx (s4.free nq')
            · exact off1 _ (by simp)
            · exact off1 _ (by simp)
            · exact off1 _ (by simp [hb'])
            · exact nEx nb0
end
end FT


/-! family B: mixed, take, pick -/
namespace FT
open PySem L2 TL ClX LiI
theorem stB_get {H : Hp} {d l i : Addr} {lf tn : Int} (h : H d = some (.dK (stB l i lf tn))) : DGet H d (.str "large") (some (.ref l)) ∧ DGet H d (.str "items") (some (.ref i)) ∧ DGet H d (.str "left") (some (.int lf)) ∧ DGet H d (.str "turn") (some (.int tn)) := by
  refine ⟨?_, ?_, ?_, ?_⟩
  · exact .inl ⟨_, Sum.inr "large", .inl h, rfl, rfl⟩
  · exact .inl ⟨_, Sum.inr "items", .inl h, rfl, rfl⟩
  · exact .inl ⟨_, Sum.inr "left", .inl h, rfl, rfl⟩
  · exact .inl ⟨_, Sum.inr "turn", .inl h, rfl, rfl⟩
theorem stB_left (l i : Addr) (lf tn z : Int) : putK (stB l i lf tn) (Sum.inr "left") (.int z) = stB l i z tn := rfl
theorem stB_turn (l i : Addr) (lf tn z : Int) : putK (stB l i lf tn) (Sum.inr "turn") (.int z) = stB l i lf z := rfl
theorem DrawB.ne {H : Hp} {d l i : Addr} {b : Int} (x : DrawB H d l i b) : l ≠ d ∧ i ≠ d ∧ l ≠ i := by
  obtain ⟨lf, tn, lg, it, a1, a2, a3, a4, _⟩ := x
  exact ⟨ne_of a2 a1 (by intro z; cases z), ne_of a3 a1 (by intro z; cases z), a4⟩
theorem DrawB.ex {H : Hp} {d l i : Addr} {b : Int} (x : DrawB H d l i b) : ∀ y ∈ [d, l], ∃ u, H y = some u := fun y hy => by
  obtain ⟨lf, tn, lg, it, a1, a2, a3, a4, _⟩ := x
  simp only [List.mem_cons, List.not_mem_nil, or_false] at hy
  rcases hy with rfl | rfl
  · exact ⟨_, a1⟩
  · exact ⟨_, a2⟩
/-- a store elsewhere -/
theorem DrawB.off {H : Hp} {d l i p : Addr} {b : Int} {o : HO} (x : DrawB H d l i b) (n1 : p ≠ d) (n2 : p ≠ l) (n3 : p ≠ i) : DrawB (upd H p o) d l i b := by
  obtain ⟨lf, tn, lg, it, a1, a2, a3, r⟩ := x
  exact ⟨lf, tn, lg, it, by rw [upd_ne n1.symm]; exact a1, by rw [upd_ne n2.symm]; exact a2, by rw [upd_ne n3.symm]; exact a3, r⟩
theorem kx_put {d l p : Addr} {H H' : Hp} {o : HO} (k : KeepX [d, l] H H') (n : H p = none) : KeepX [d, l] H (upd H' p o) := fun b u nb e => by
  rw [upd_ne (ne_of_none e n)]
  exact k b u nb e
theorem kx_free {d l p : Addr} {H H' : Hp} (k : KeepX [d, l] H H') (n : H' p = none) (n1 : p ≠ d) (n2 : p ≠ l) : H p = none := by
  cases e : H p with
  | none => rfl
  | some u =>
    rw [k p u (by simp [n1, n2]) e] at n
    cases n
def spMixedB : Sp := fun vs H Q _ => ∃ (d l i : Addr) (b : Int), vs = [.ref d] ∧ DrawB H d l i b ∧ b ≤ 10 ^ 12 ∧ ∀ (n : Int) (H' : Hp), 0 ≤ n → DrawB H' d l i (b + 1) → KeepX [d, l] H H' → Q (.int n) H'
def spTakeB : Sp := fun vs H Q _ => ∃ (d l i : Addr) (b n : Int), vs = [.ref d, .int n] ∧ DrawB H d l i b ∧ b ≤ 10 ^ 12 ∧ 0 < n ∧ n.natAbs < 2 ^ 200 ∧ ∀ (k : Int) (H' : Hp), 0 ≤ k → k < n → DrawB H' d l i (b + 1) → KeepX [d, l] H H' → Q (.int k) H'
def spPickB : Sp := fun vs H Q _ => ∃ (d l i a : Addr) (b : Int) (xs : List V), vs = [.ref d, .ref a] ∧ DrawB H d l i b ∧ b ≤ 10 ^ 12 ∧ H a = some (.lst xs) ∧ a ≠ l ∧ xs ≠ [] ∧ xs.length ≤ 1000 ∧ ∀ (x : V) (H' : Hp), x ∈ xs → DrawB H' d l i (b + 1) → KeepX [d, l] H H' → Q x H'
section
variable {P : Program} {w : World} {K : PySem.W.Frag} {mg : Str → Option Value} {base : Heap}
abbrev NMx : List Str := ["_law_draw", "_law_number", "_law_prime", "_law_part", "_law_item"]
theorem scMx : FnScope NMx ["_law_draw"] (defScope s__law_mixed) := ⟨rfl, rfl, rfl, by decide +kernel, rfl, by decide +kernel, by decide +kernel⟩
theorem ok_mixedB {f : Addr} {fd : FuncData} (F : Fun K "_law_mixed" "_law_mixed" s__law_mixed f fd) : FnOk P w K mg base CX0 1 f fd ["_law_draw"] spMixedB := by
  refine F.ok scMx (fun vs H Q E h => ?_) (fun cdv A outer s H vs Q E hr h => ?_)
  · obtain ⟨d, l, i, b, rfl, _⟩ := h
    rfl
  · obtain ⟨d, l, i, b, rfl, hD, bb, k⟩ := h
    have hu := hu_of hr
    have nd := scMx.nd
    have big : 1000 ≤ sizeLine := by decide
    refine ⟨_, pss_cons (ps_dput hu (pv 0) pe_str (pe_op op_add (pe_dget hu (pv 0) pe_str (fun _ _ => rfl)) pe_int) rfl)
      (pss_cons (ps_set (i := 1) nd rfl (.inl rfl) pe_int)
      (pss_cons (ps_for PassesOwn.never rfl (pi_list (pe_lst (pa_cons pe_int (pa_cons pe_int (pa_cons pe_int (pa_cons pe_int pa_nil)))))) (pg_name (i := 2) nd rfl (.inl rfl))
        (pss_cons (ps_set (i := 3) nd rfl (.inl rfl) (pe_op op_add (pe_op op_mul pe_int (pe_dget hu (pv 0) pe_str (fun _ _ => rfl))) (pe_op op_fdiv (pv 2) pe_int)))
        (pss_cons (ps_for PassesOwn.never rfl (pi_list (pe_dget hu (pv 0) pe_str (fun _ _ => rfl))) (pg_name (i := 4) nd rfl (.inl rfl))
          (pss_one (ps_set (i := 3) nd rfl (.inl rfl) (pe_op op_mod (pe_op op_add (pe_op op_mul (pv 3) pe_int) (pv 4)) (pv 2)))))
        (pss_one (ps_set (i := 1) nd rfl (.inl rfl) (pe_op op_add (pe_op op_mul (pv 1) pe_int) (pe_op op_mod (pe_op op_pow (pv 3) pe_int) (pv 2))))))))
      (pss_one (ps_ret (pv 1))))), ?_⟩
    have hdne := hD.ne
    obtain ⟨lf, tn, lg, it, a1, a2, a3, a4, lg0, it0, lgl, itl, lf0, tn0, tnb⟩ := hD
    obtain ⟨_, _, _, gt⟩ := stB_get a1
    refine ⟨_, rfl, d, _, rfl, gt, _, _, rfl, rfl, _, rfl, d, _, rfl, DPut.k (k := Sum.inr "turn") a1 (by show 4 < sizeLine; omega), ?_⟩
    rw [stB_turn]
    obtain ⟨H1, e1⟩ : ∃ X, X = upd H d (.dK (stB l i lf (tn + 1))) := ⟨_, rfl⟩
    have hd1 : H1 d = some (.dK (stB l i lf (tn + 1))) := by rw [e1]; exact upd_same
    have hl1 : H1 l = some (.lst (lg.map V.int)) := by rw [e1, upd_ne hdne.1]; exact a2
    have hi1 : H1 i = some (.lst (it.map V.int)) := by rw [e1, upd_ne hdne.2.1]; exact a3
    have k1 : KeepX [d, l] H H1 := fun b u nb e => by
      rw [e1, upd_ne fun z => nb (by rw [z]; exact List.mem_cons_self ..)]
      exact e
    obtain ⟨_, gi, _, gt1⟩ := stB_get hd1
    rw [← e1]
    refine ⟨by show 4 ≤ sizeLine; omega, fun pl npl => ⟨pl, rfl, ⟨_, SqL.of upd_same⟩, ?_⟩⟩
    obtain ⟨H2, e2⟩ : ∃ X, X = upd H1 pl (.lst [V.int 2147483629, V.int 2147483587, V.int 2147483579, V.int 2147483563]) := ⟨_, rfl⟩
    have s12 : Same H1 H2 := e2 ▸ same_new npl
    have hpl : H2 pl = some (.lst (([2147483629, 2147483587, 2147483579, 2147483563] : List Int).map V.int)) := by rw [e2]; exact upd_same
    rw [← e2]
    have prb : ∀ p ∈ ([2147483629, 2147483587, 2147483579, 2147483563] : List Int), 2147483563 ≤ p ∧ p ≤ 2147483629 := by decide
    refine for_it walk_list (fun j σ' H' => (∃ (n : Int) (u2 u3 u4 : Option V), σ' = [some (.ref d), some (.int n), u2, u3, u4] ∧ 0 ≤ n) ∧ H' = H2) ⟨⟨0, _, _, _, rfl, Int.le_refl _⟩, rfl⟩ (fun j σ' H' _ z => by rw [z.2]; exact SqL.of hpl) ?_ ?_
    · intro j y σ' Hz Ha hj ⟨⟨n, u2, u3, u4, eσ, n0⟩, eH⟩ ⟨eb, ey⟩
      subst eσ
      subst eb
      obtain ⟨p, hp, rfl⟩ := map_of ey
      obtain ⟨p0, p1⟩ := prb p (List.mem_of_getElem? hp)
      have gt2 : DGet Ha d (.str "turn") (some (.int (tn + 1))) := (stB_get (by rw [eH]; exact s12 _ _ hd1)).2.2.2
      have gi2 : DGet Ha d (.str "items") (some (.ref i)) := (stB_get (by rw [eH]; exact s12 _ _ hd1)).2.1
      have hi2 : Ha i = some (.lst (it.map V.int)) := by rw [eH]; exact s12 _ _ hi1
      have q0 : 0 ≤ p / 13 := Int.ediv_nonneg (by omega) (by decide)
      have q1 : p / 13 ≤ 2147483629 := by omega
      refine ⟨_, rfl, d, _, rfl, gt2, _, _, rfl, rfl, .inl ⟨by decide, by decide⟩, _, rfl, _, _, rfl, rfl, ⟨by decide, by decide⟩, _, _, rfl, rfl, ?_⟩
      obtain ⟨m0, em0⟩ : ∃ m0, m0 = 92821 * (tn + 1) + p / 13 := ⟨_, rfl⟩
      have b0 : 0 ≤ m0 ∧ m0 < 2 ^ 62 := by
        have : (10 : Int) ^ 12 = 1000000000000 := by decide
        have : (2 : Int) ^ 62 = 4611686018427387904 := by decide
        omega
      show gName 3 (V.int (92821 * (tn + 1) + p / 13)) _ _ _
      rw [← em0]
      refine ⟨_, rfl, d, _, rfl, gi2, i, rfl, ⟨_, SqL.of hi2⟩, ?_⟩
      refine for_it walk_list (fun j σ' H' => (∃ (m : Int) (u4 : Option V), σ' = [some (.ref d), some (.int n), some (.int p), some (.int m), u4] ∧ 0 ≤ m ∧ m < 2 ^ 62) ∧ H' = Ha) ⟨⟨m0, _, rfl, b0.1, b0.2⟩, rfl⟩ (fun j σ' H' _ z => by rw [z.2]; exact SqL.of hi2) ?_ ?_
      · intro j2 y2 σ2 Hz Hc hj2 ⟨⟨m, u4', eσ2, ma, mb⟩, eH2⟩ ⟨eb2, ey2⟩
        subst eσ2
        subst eb2
        obtain ⟨c, hc, rfl⟩ := map_of ey2
        refine ⟨_, rfl, _, _, rfl, rfl, .inr ⟨by decide, by decide⟩, _, rfl, _, _, rfl, rfl, _, rfl, _, _, rfl, rfl, (by show (0 : Int) < p; omega), ⟨⟨_, _, rfl, Int.emod_nonneg _ (by omega), ?_⟩, eH2⟩⟩
        have := Int.emod_lt_of_pos (m * 48271 + c) (show 0 < p by omega)
        have e62 : (2 : Int) ^ 62 = 4611686018427387904 := by decide
        omega
      · intro σ2 Hc ⟨⟨m, u4', eσ2, ma, mb⟩, eH2⟩
        subst eσ2
        subst eH2
        refine ⟨_, rfl, _, _, rfl, rfl, .inr ⟨by decide, by decide⟩, _, rfl, _, _, rfl, rfl, ⟨by decide, by decide, ?_⟩, _, rfl, _, _, rfl, rfl, (by show (0 : Int) < p; omega), _, _, rfl, rfl, ⟨⟨_, _, _, _, rfl, ?_⟩, eH⟩⟩
        · have e62 : (2 : Int) ^ 62 = 4611686018427387904 := by decide
          have e64 : (2 : Nat) ^ 64 = 18446744073709551616 := by decide
          omega
        · have := Int.emod_nonneg (m ^ Int.toNat 5) (show p ≠ 0 by omega)
          have : 0 ≤ n * 2147483647 := by omega
          show 0 ≤ n * 2147483647 + m ^ Int.toNat 5 % p
          omega
    · intro σ' H' ⟨⟨n, u2, u3, u4, eσ, n0⟩, eH⟩
      subst eσ
      subst eH
      refine ⟨_, rfl, k n H' n0 ⟨lf, tn + 1, lg, it, s12 _ _ hd1, s12 _ _ hl1, s12 _ _ hi1, a4, lg0, it0, lgl, itl, lf0, by omega, by omega⟩ (k1.trans (.of_same s12))⟩
abbrev NTk : List Str := ["_law_draw", "_law_size", "_law_digit"]
theorem scTk : FnScope NTk ["_law_draw", "_law_size"] (defScope s__law_take) := ⟨rfl, rfl, rfl, by decide +kernel, rfl, by decide +kernel, by decide +kernel⟩
theorem ok_takeB {f fM : Addr} {fd fdM : FuncData} (F : Fun K "_law_take" "_law_take" s__law_take f fd) (DM : Dn P w K mg base CX0 1 "_law_mixed" ["_law_draw"] spMixedB fM fdM) : FnOk P w K mg base CX0 2 f fd ["_law_draw", "_law_size"] spTakeB := by
  refine F.ok scTk (fun vs H Q E h => ?_) (fun cdv A outer s H vs Q E hr h => ?_)
  · obtain ⟨d, l, i, b, n, rfl, _⟩ := h
    rfl
  · obtain ⟨d, l, i, b, n, rfl, hD, bb, n0, n1, k⟩ := h
    have hu := hu_of hr
    have nd := scTk.nd
    have big : 1000 ≤ sizeLine := by decide
    refine ⟨_, pss_cons (ps_if (pt_cmpR op_eq (pe_dget hu (pv 0) pe_str (fun _ _ => rfl)) pe_int (nomark _))
        (pss_one (ps_dput hu (pv 0) pe_str (pe_ifExp (pt_cmpR (op_neD hr.units) (pe_dget hu (pv 0) pe_str (fun _ _ => rfl)) (pe_lst pa_nil) (nomark _)) (pe_bm PySem.F.plainAttrs_list PySem.F.slot_list_pop PySem.F.type_list_pop mt_popAt (pe_dget hu (pv 0) pe_str (fun _ _ => rfl)) (pa_cons pe_int pa_nil)) (pe_call DM.ok hr rfl DM.mgn DM.kp DM.bn .nil pass0 (pa_cons (pv 0) pa_nil))) rfl)) pss_nil)
      (pss_cons (ps_set (i := 2) nd rfl (.inl rfl) (pe_op op_mod (pe_dget hu (pv 0) pe_str (fun _ _ => rfl)) (pv 1)))
      (pss_cons (ps_dput hu (pv 0) pe_str (pe_op op_fdivW (pe_dget hu (pv 0) pe_str (fun _ _ => rfl)) (pv 1)) rfl)
      (pss_one (ps_ret (pv 2))))), ?_⟩
    have hD0 := hD
    have hdne := hD.ne
    obtain ⟨lf, tn, lg, it, a1, a2, a3, a4, lg0, it0, lgl, itl, lf0, tn0, tnb⟩ := hD
    -- from the left part on
    have rest : ∀ (H1 : Hp), DrawB H1 d l i (b + 1) → KeepX [d, l] H H1 → (tSeq (tAsg (tOp (rI (fun _ j => 0 < j) fun i j => .int (i % j)) (tDGet (tVar 0) (tC (.str "left"))) (tVar 1)) (gName 2)) (tSeq (sDPut (tVar 0) (tC (.str "left")) (tOp (rI CDivW fun i j => .int (i / j)) (tDGet (tVar 0) (tC (.str "left"))) (tVar 1))) (tRet (tVar 2)))) { nx := fun _ H' => Q .non H', rt := Q } [some (.ref d), some (.int n), none] H1 := by
      intro H1 hD1 k1
      obtain ⟨lf, tn, lg, it, a1, a2, a3, a4, lg0, it0, lgl, itl, lf0, tn0, tnb⟩ := hD1
      have gl := (stB_get a1).2.2.1
      refine ⟨_, rfl, d, _, rfl, gl, _, rfl, _, _, rfl, rfl, n0, ?_⟩
      refine ⟨_, rfl, d, _, rfl, gl, _, rfl, _, _, rfl, rfl, wide_div n0 n1 (by decide) (by decide), _, rfl, d, _, rfl, DPut.k (k := Sum.inr "left") a1 (by show 4 < sizeLine; omega), ?_⟩
      rw [stB_left]
      refine ⟨_, rfl, k (lf % n) _ (Int.emod_nonneg _ (by omega)) (Int.emod_lt_of_pos _ n0) ⟨lf / n, tn, lg, it, upd_same, by rw [upd_ne hdne.1]; exact a2, by rw [upd_ne hdne.2.1]; exact a3, a4, lg0, it0, lgl, itl, Int.ediv_nonneg lf0 (by omega), tn0, tnb⟩ fun b u nb e => ?_⟩
      rw [upd_ne fun z => nb (by rw [z]; exact List.mem_cons_self ..)]
      exact k1 b u nb e
    have g := stB_get a1
    refine ⟨_, rfl, d, _, rfl, g.2.2.1, rfl, _, rfl, ?_⟩
    refine ite2 (fun _ => ?_) (fun _ => rest H (hD0.more (by omega)) fun _ _ _ e => e)
    refine ⟨_, rfl, d, _, rfl, g.1, by show 0 ≤ sizeLine; omega, fun e ne => ⟨_, _, .lst (SqL.of (by rw [upd_ne (ne_of_none a2 ne)]; exact a2)) (dp_ints lg), .lst (SqL.of upd_same) .nil, (ints_shaped lg).2, rfl, ?_⟩⟩
    obtain ⟨H2, e2⟩ : ∃ X, X = upd H e (.lst []) := ⟨_, rfl⟩
    have s2 : Same H H2 := e2 ▸ same_new ne
    have kx2 : KeepX [d, l] H H2 := .of_same s2
    have g2 := stB_get (s2 _ _ a1)
    rw [← e2]
    refine ⟨_, rfl, ite2 (fun t => ?_) (fun t => ?_)⟩
    · cases lg with
      | nil => cases t
      | cons z lg =>
        obtain ⟨sx, _, _, _⟩ := ixN_seq (ixN_nat (n := ((z :: lg).map V.int).length) (j := 0) (by rw [List.length_map, List.length_cons]; omega))
        refine ⟨_, rfl, d, _, rfl, g2.1, .inl ⟨rfl, _, SqL.of (s2 _ _ a2)⟩, l, _, 0, 0, _, rfl, rfl, s2 _ _ a2, by decide, by decide, sx, rfl, ?_⟩
        have hd3 : (upd H2 l (.lst (((z :: lg).map V.int).eraseIdx 0))) d = some (.dK (stB l i lf tn)) := by rw [upd_ne hdne.1.symm]; exact s2 _ _ a1
        refine ⟨_, rfl, d, _, rfl, DPut.k (k := Sum.inr "left") hd3 (by show 4 < sizeLine; omega), ?_⟩
        rw [stB_left]
        refine rest _ ⟨z, tn, lg, it, upd_same, by rw [upd_ne hdne.1, upd_same] <;> rfl, by rw [upd_ne hdne.2.1, upd_ne a4.symm]; exact s2 _ _ a3, a4, fun y hy => lg0 y (List.mem_cons_of_mem _ hy), it0, by rw [List.length_cons] at lgl; omega, itl, lg0 z (List.mem_cons_self ..), tn0, by omega⟩ fun b u nb e => ?_
        rw [upd_ne fun w => nb (by rw [w]; exact List.mem_cons_self ..), upd_ne fun w => nb (by rw [w]; simp)]
        exact s2 _ _ e
    · refine ⟨_, rfl, d, l, i, b, rfl, hD0.mono s2, bb, fun n' H3 n0' hD3 k3 => ?_⟩
      have hD3' := hD3
      obtain ⟨lf', tn', lg', it', c1, c2, c3, c4, c5, c6, c7, c8, c9, c10, c11⟩ := hD3
      refine ⟨_, rfl, d, _, rfl, DPut.k (k := Sum.inr "left") c1 (by show 4 < sizeLine; omega), ?_⟩
      rw [stB_left]
      refine rest _ ⟨n', tn', lg', it', upd_same, by rw [upd_ne hdne.1]; exact c2, by rw [upd_ne hdne.2.1]; exact c3, c4, c5, c6, c7, c8, n0', c10, c11⟩ fun b u nb e => ?_
      rw [upd_ne fun w => nb (by rw [w]; exact List.mem_cons_self ..)]
      exact k3 b u nb (s2 _ _ e)
abbrev NPk : List Str := ["_law_draw", "_law_some"]
theorem scPk : FnScope NPk ["_law_draw", "_law_some"] (defScope s__law_pick) := ⟨rfl, rfl, rfl, by decide +kernel, rfl, by decide +kernel, by decide +kernel⟩
theorem ok_pickB {f fT : Addr} {fd fdT : FuncData} (F : Fun K "_law_pick" "_law_pick" s__law_pick f fd) (T : Nm mg) (DT : Dn P w K mg base CX0 2 "_law_take" ["_law_draw", "_law_size"] spTakeB fT fdT) : FnOk P w K mg base CX0 3 f fd ["_law_draw", "_law_some"] spPickB := by
  refine F.ok scPk (fun vs H Q E h => ?_) (fun cdv A outer s H vs Q E hr h => ?_)
  · obtain ⟨d, l, i, a, b, xs, rfl, _⟩ := h
    rfl
  · obtain ⟨d, l, i, a, b, xs, rfl, hD, bb, ha, al, ne, few, k⟩ := h
    refine ⟨_, pss_one (ps_ret (pe_ix ix_list (pv 1) (pe_call DT.ok hr rfl DT.mgn DT.kp DT.bn .nil pass0 (pa_cons (pv 0) (pa_cons (pe_callB call_len_seq (by rfl) T.len PySem.boot_len (pa_cons (pv 1) pa_nil)) pa_nil))) (fun _ _ => rfl))), ?_⟩
    have ad : a ≠ d := by
      obtain ⟨lf, tn, lg, it, a1, _⟩ := hD
      exact ne_of ha a1 (by intro z; cases z)
    have l0 := List.length_pos_iff.mpr ne
    refine ⟨_, rfl, _, rfl, _, rfl, a, _, rfl, .inl (SqL.of ha), d, l, i, b, _, rfl, hD, bb, by omega, ?_, fun j H' j0 j1 hD' kx => ?_⟩
    · rw [Int.natAbs_natCast]
      exact Nat.lt_of_le_of_lt few (by decide)
    · have hj : j.toNat < xs.length := by omega
      have e : xs[j.toNat]? = some xs[j.toNat] := List.getElem?_eq_getElem hj
      have e2 := atI_nat e
      rw [show ((j.toNat : Nat) : Int) = j by omega] at e2
      exact ⟨a, xs, j, _, rfl, rfl, SqL.of (kx a _ (by simp [ad, al]) ha), e2, k _ H' (List.getElem_mem hj) hD' kx⟩
end
end FT


/-! family B: the drawn forest -/
namespace FT
open PySem L2 TL ClX LiI
/-- parents stand ahead of their children -/
def Ahead (t : List (Str × Str)) : Prop := ∀ (i : Nat) (p : Str × Str), t[i]? = some p → p.2 = "" ∨ p.2 ∈ (t.map Prod.fst).take i
def poolB : List Str := ["a", "b", "c", "ab", "new", "old", "pay", "root", "none", "x", "zzzzzzzz", "mid", "aa"]
theorem poolB_ok : (∀ z ∈ poolB, NameL z) ∧ poolB.Nodup := by decide +kernel
theorem DrawB.own {H : Hp} {d l i p : Addr} {b : Int} {u : HO} (x : DrawB H d l i b) (n : H p = none) : p ≠ d ∧ p ≠ l ∧ p ≠ i := x.apart n
theorem kx_at {d l p : Addr} {H H' : Hp} {u : HO} (k : KeepX [d, l] H H') (e : H p = some u) (n1 : p ≠ d) (n2 : p ≠ l) : H' p = some u := k p u (by simp [n1, n2]) e
theorem KeepX.trans' {Ex : List Addr} {H H1 H2 : Hp} (a : KeepX Ex H H1) (b : KeepX Ex H1 H2) : KeepX Ex H H2 := fun x u n e => b x u n (a x u n e)
theorem rep_strs (n : Nat) (a : Str) : (List.replicate n [V.str a]).flatten = (List.replicate n a).map V.str := by
  rw [List.map_replicate]
  induction n with
  | zero => rfl
  | succ n ih => rw [List.replicate_succ, List.flatten_cons, ih, List.replicate_succ] <;> rfl
theorem prs_kV (t : List (Str × Str)) : (prs t).map (fun kv => kV kv.1) = (t.map Prod.fst).map V.str := by
  unfold prs kvT
  rw [List.map_map, List.map_map, List.map_map] <;> rfl
def spForB : Sp := fun vs H Q _ => ∃ (d l i : Addr) (b : Int), vs = [.ref d, .int 12] ∧ DrawB H d l i b ∧ b + 100 ≤ 10 ^ 12 ∧
  ∀ (q : Addr) (t : List (Str × Str)) (H' : Hp), TreeOk t → Ahead t → H q = none → H' q = some (.dK (prs t)) → DrawB H' d l i (b + 100) → KeepX [d, l] H H' → Q (.ref q) H'
section
variable {P : Program} {w : World} {K : PySem.W.Frag} {mg : Str → Option Value} {base : Heap}
abbrev NFo : List Str := ["_law_draw", "_law_most", "_law_pool", "_law_parents", "_law_k", "_law_name"]
theorem scFo : FnScope NFo ["_law_draw", "_law_most"] (defScope s__law_forest) := ⟨rfl, rfl, rfl, by decide +kernel, rfl, by decide +kernel, by decide +kernel⟩
theorem ok_forestB {f fT fP : Addr} {fd fdT fdP : FuncData} (F : Fun K "_law_forest" "_law_forest" s__law_forest f fd) (T : Nm mg) (DT : Dn P w K mg base CX0 2 "_law_take" ["_law_draw", "_law_size"] spTakeB fT fdT) (DP : Dn P w K mg base CX0 3 "_law_pick" ["_law_draw", "_law_some"] spPickB fP fdP) : FnOk P w K mg base CX0 4 f fd ["_law_draw", "_law_most"] spForB := by
  refine F.ok scFo (fun vs H Q E h => ?_) (fun cdv A outer s H vs Q E hr h => ?_)
  · obtain ⟨d, l, i, b, rfl, _⟩ := h
    rfl
  · obtain ⟨d, l, i, b, rfl, hD, bb, k⟩ := h
    have hu := hu_of hr
    have hr2 : Room 2 _ := hr.mono (by decide)
    have nd := scFo.nd
    have big : 1000 ≤ sizeLine := by decide
    refine ⟨_, pss_cons (ps_set (i := 2) nd rfl (.inl rfl) (pe_lst (pa_cons pe_str (pa_cons pe_str (pa_cons pe_str (pa_cons pe_str (pa_cons pe_str (pa_cons pe_str (pa_cons pe_str (pa_cons pe_str (pa_cons pe_str (pa_cons pe_str (pa_cons pe_str (pa_cons pe_str (pa_cons pe_str pa_nil)))))))))))))))
      (pss_cons (ps_set (i := 3) nd rfl (.inl rfl) pe_dnewK)
      (pss_cons (ps_for PassesOwn.never rfl (pi_range1 (by rfl) T.rng (pa_cons (pe_op op_add pe_int (pe_call DT.ok hr2 rfl DT.mgn DT.kp DT.bn .nil pass0 (pa_cons (pv 0) (pa_cons (pv 1) pa_nil)))) pa_nil)) (pg_name (i := 4) nd rfl (.inl rfl))
        (pss_cons (ps_set (i := 5) nd rfl (.inl rfl) (pe_bm PySem.F.plainAttrs_list PySem.F.slot_list_pop PySem.F.type_list_pop mt_popAt (pv 2) (pa_cons (pe_call DT.ok hr2 rfl DT.mgn DT.kp DT.bn .nil pass0 (pa_cons (pv 0) (pa_cons (pe_callB call_len_seq (by rfl) T.len PySem.boot_len (pa_cons (pv 2) pa_nil)) pa_nil))) pa_nil)))
        (pss_one (ps_dput hu (pv 3) (pv 5) (pe_call DP.ok hr rfl DP.mgn DP.kp DP.bn .nil pass0 (pa_cons (pv 0) (pa_cons (pe_op op_cat (pe_op op_rep (pe_lst (pa_cons pe_str pa_nil)) (pe_call DP.ok hr rfl DP.mgn DP.kp DP.bn .nil pass0 (pa_cons (pv 0) (pa_cons (pe_lst (pa_cons pe_int (pa_cons pe_int (pa_cons pe_int pa_nil)))) pa_nil))))
            (pe_callTy (call_listD rfl) (by rfl) T.lst (by decide +kernel) (pa_cons (pv 3) pa_nil))) pa_nil))) rfl))))
      (pss_one (ps_ret (pv 3))))), ?_⟩
    refine ⟨by show 13 ≤ sizeLine; omega, fun p np => ?_⟩
    have s1 := same_new (o := .lst (poolB.map V.str)) np
    have pd := hD.apart np
    refine fun q nq => ?_
    show tSeq _ _ _ [some (.ref d), some (.int 12), some (.ref p), some (.ref q), none, none] (upd (upd H p (.lst (poolB.map V.str))) q (.dK []))
    have s2 : Same H (upd (upd H p (.lst (poolB.map V.str))) q (.dK [])) := s1.trans (same_new nq)
    have q0 : H q = none := s1.free nq
    have qd := hD.apart q0
    have qp : p ≠ q := ne_of_none upd_same nq
    obtain ⟨H1, e1⟩ : ∃ X, X = upd (upd H p (.lst (poolB.map V.str))) q (.dK []) := ⟨_, rfl⟩
    have hp1 : H1 p = some (.lst (poolB.map V.str)) := by rw [e1, upd_ne qp, upd_same]
    have hq1 : H1 q = some (.dK []) := by rw [e1, upd_same]
    rw [← e1] at s2 ⊢
    refine ⟨_, rfl, _, rfl, d, l, i, b, 12, rfl, hD.mono s2, by omega, by decide, by decide, fun c H2 c0 c1 hD2 k2 => ?_⟩
    refine ⟨_, _, rfl, rfl, 1 + c, rfl, by omega, by omega, ?_⟩
    have lc : (1 + c).toNat ≤ 12 := by omega
    have lc1 : 1 ≤ (1 + c).toNat := by omega
    refine for_it walk_range (fun j σ' H' => (∃ u4 u5, σ' = [some (.ref d), some (.int 12), some (.ref p), some (.ref q), u4, u5]) ∧ DrawB H' d l i (b + 1 + 3 * (j : Int)) ∧ KeepX [d, l] H H' ∧
      ∃ (pool : List Str) (t : List (Str × Str)), H' p = some (.lst (pool.map V.str)) ∧ pool.length + j = 13 ∧ pool.Nodup ∧ (∀ z ∈ pool, NameL z) ∧ H' q = some (.dK (prs t)) ∧ t.length = j ∧ (t.map Prod.fst).Nodup ∧ (∀ z ∈ t.map Prod.fst, NameL z ∧ z ∉ pool) ∧ Ahead t)
      ⟨⟨_, _, rfl⟩, hD2.more (by omega), (KeepX.of_same s2).trans' k2, poolB, [], kx_at k2 hp1 pd.1 pd.2.1, rfl, poolB_ok.2, poolB_ok.1, kx_at k2 hq1 qd.1 qd.2.1, rfl, List.nodup_nil, fun z h => (by cases h), fun i p h => (by simp at h)⟩ (fun _ _ _ _ _ => trivial) ?_ ?_
    · intro j y σ' Hz Ha hj ⟨⟨u4, u5, eσ⟩, da, ka, pool, t, hp, pl, pnd, pok, hq, tl, tnd, tok, ah⟩ ⟨eb, ey⟩
      subst eσ
      subst eb
      subst ey
      refine ⟨_, rfl, .inl ⟨rfl, _, SqL.of hp⟩, _, rfl, _, rfl, p, _, rfl, .inl (SqL.of hp), d, l, i, _, _, rfl, da, by omega, ?_, ?_, fun z H3 z0 z1 hD3 k3 => ?_⟩
      · rw [List.length_map]
        omega
      · rw [List.length_map, Int.natAbs_natCast]
        exact Nat.lt_of_le_of_lt (show pool.length ≤ 1000 by omega) (by decide)
      · rw [List.length_map] at z1
        have zj : z.toNat < pool.length := by omega
        obtain ⟨sx, _, _, _⟩ := ixN_seq (ixN_nat (n := (pool.map V.str).length) (j := z.toNat) (by rw [List.length_map]; exact zj))
        rw [show ((z.toNat : Nat) : Int) = z by omega] at sx
        have pn := pd
        have hp3 := kx_at k3 hp pd.1 pd.2.1
        have hq3 := kx_at k3 hq qd.1 qd.2.1
        have em : (pool.map V.str)[z.toNat]? = some (V.str pool[z.toNat]) := by rw [List.getElem?_map, List.getElem?_eq_getElem zj] <;> rfl
        obtain ⟨f, ef⟩ : ∃ f, f = pool[z.toNat] := ⟨_, rfl⟩
        rw [← ef] at em
        have pm := erase_perm pool z.toNat zj
        rw [← ef] at pm
        obtain ⟨fn, nd2⟩ := List.nodup_cons.mp (pm.nodup_iff.mpr pnd)
        have fp : f ∈ pool := pm.mem_iff.mp (List.mem_cons_self ..)
        have sub : ∀ z' ∈ pool.eraseIdx z.toNat, z' ∈ pool := fun z' h => pm.mem_iff.mp (List.mem_cons_of_mem _ h)
        have le := pm.length_eq
        rw [List.length_cons] at le
        refine ⟨p, _, z, _, _, rfl, rfl, hp3, by omega, by omega, sx, em, ?_⟩
        rw [map_erase]
        obtain ⟨H4, e4⟩ : ∃ X, X = upd H3 p (.lst ((pool.eraseIdx z.toNat).map V.str)) := ⟨_, rfl⟩
        have np0 : H p = none := np
        have hD4 : DrawB H4 d l i (b + 1 + 3 * (j : Int) + 1) := by rw [e4]; exact hD3.off pd.1 pd.2.1 pd.2.2
        have k4 : KeepX [d, l] H H4 := by rw [e4]; exact kx_put (ka.trans' k3) np0
        have hp4 : H4 p = some (.lst ((pool.eraseIdx z.toNat).map V.str)) := by rw [e4, upd_same]
        have hq4 : H4 q = some (.dK (prs t)) := by rw [e4, upd_ne qp.symm]; exact hq3
        rw [← e4]
        have fresh : f ∉ t.map Prod.fst := fun h => (tok f h).2 fp
        -- the drawn parent
        refine ⟨_, rfl, by show 1 ≤ sizeLine; omega, fun p1 m1 => ?_⟩
        refine ⟨_, rfl, by show 3 ≤ sizeLine; omega, fun p2 m2 => ?_⟩
        obtain ⟨H5, e5⟩ : ∃ X, X = upd (upd H4 p1 (.lst [.str ""])) p2 (.lst (([1, 1, 4] : List Int).map V.int)) := ⟨_, rfl⟩
        have s5 : Same H4 H5 := e5 ▸ (same_new m1).trans (same_new m2)
        have p1d := hD4.apart m1
        have p2d := (hD4.mono (same_new m1)).apart m2
        have hp1 : H5 p1 = some (.lst [.str ""]) := by rw [e5]; exact same_new m2 _ _ upd_same
        have hp2 : H5 p2 = some (.lst (([1, 1, 4] : List Int).map V.int)) := by rw [e5, upd_same]
        subst e5
        refine ⟨d, l, i, p2, _, _, rfl, hD4.mono s5, by omega, hp2, p2d.2.1, (fun z => by cases z), by decide, fun x H6 xm hD6 k6 => ?_⟩
        obtain ⟨c', hc, rfl⟩ := List.mem_map.mp xm
        have cb : 0 ≤ c' ∧ c' ≤ 4 := by
          have : ∀ c' ∈ ([1, 1, 4] : List Int), 0 ≤ c' ∧ c' ≤ 4 := by decide
          exact this c' hc
        refine ⟨p1, c', _, rfl, rfl, kx_at k6 hp1 p1d.1 p1d.2.1, by omega, by omega, ?_, fun p3 m3 => ?_⟩
        · show 1 * c'.toNat ≤ sizeLine
          omega
        rw [rep_strs]
        have hq6 := kx_at k6 (s5 _ _ hq4) qd.1 qd.2.1
        have n3 := same_new (o := .lst ((List.replicate c'.toNat ("" : Str)).map V.str)) m3
        refine ⟨_, rfl, q, prs t, rfl, .inl (n3 _ _ hq6), fun p4 m4 => ?_⟩
        rw [prs_kV]
        have n4 := same_new (o := .lst ((t.map Prod.fst).map V.str)) m4
        refine ⟨p3, p4, _, _, rfl, rfl, n4 _ _ upd_same, upd_same, ?_, fun p5 m5 => ?_⟩
        · rw [List.length_map, List.length_map, List.length_map, List.length_replicate]
          omega
        rw [← List.map_append]
        obtain ⟨ws, ews⟩ : ∃ ws, ws = List.replicate c'.toNat ("" : Str) ++ t.map Prod.fst := ⟨_, rfl⟩
        rw [← ews]
        have n5 := same_new (o := .lst (ws.map V.str)) m5
        obtain ⟨H7, e7⟩ : ∃ X, X = upd (upd (upd H6 p3 (.lst ((List.replicate c'.toNat ("" : Str)).map V.str))) p4 (.lst ((t.map Prod.fst).map V.str))) p5 (.lst (ws.map V.str)) := ⟨_, rfl⟩
        have s7 : Same H6 H7 := e7 ▸ (n3.trans n4).trans n5
        have p5d := ((hD6.mono n3).mono n4).apart m5
        have hp5 : H7 p5 = some (.lst (ws.map V.str)) := by rw [e7, upd_same]
        rw [← e7]
        refine ⟨d, l, i, p5, _, _, rfl, hD6.mono s7, by omega, hp5, p5d.2.1, ?_, ?_, fun x H8 xm hD8 k8 => ?_⟩
        · intro e
          have e := congrArg List.length e
          rw [ews, List.length_map, List.length_append, List.length_replicate] at e
          have c1 : 1 ≤ c' := by
            have : ∀ c' ∈ ([1, 1, 4] : List Int), 1 ≤ c' := by decide
            exact this c' hc
          have e : c'.toNat + (t.map Prod.fst).length = 0 := e
          omega
        · rw [ews, List.length_map, List.length_append, List.length_replicate, List.length_map]
          omega
        obtain ⟨g, hg, rfl⟩ := List.mem_map.mp xm
        have hq8 := kx_at k8 (s7 _ _ hq6) qd.1 qd.2.1
        refine ⟨_, rfl, _, rfl, q, _, rfl, DPut.k (k := Sum.inr f) hq8 (by rw [prs_len]; omega), ?_⟩
        rw [put_new fresh]
        have gg : g = "" ∨ g ∈ t.map Prod.fst := by
          rw [ews] at hg
          rcases List.mem_append.mp hg with h | h
          · exact .inl (List.eq_of_mem_replicate h)
          · exact .inr h
        have k8' : KeepX [d, l] H H8 := ((k4.trans' (.of_same s5)).trans' k6).trans' ((KeepX.of_same s7).trans' k8)
        have hp8 := kx_at k8 (s7 _ _ (kx_at k6 (s5 _ _ hp4) pd.1 pd.2.1)) pd.1 pd.2.1
        refine ⟨⟨_, _, rfl⟩, (hD8.off qd.1 qd.2.1 qd.2.2).more (by omega), kx_put k8' q0, pool.eraseIdx z.toNat, t ++ [(f, g)], by rw [upd_ne qp]; exact hp8, by omega, nd2, fun z' h => pok z' (sub z' h), upd_same, by rw [List.length_append, tl] <;> rfl, ?_, ?_, ?_⟩
        · rw [List.map_append]
          refine List.nodup_append.mpr ⟨tnd, by show [f].Nodup; simp, fun a ha b hb => ?_⟩
          rw [List.mem_singleton.mp (show b ∈ [f] from hb)]
          exact fun e => fresh (e ▸ ha)
        · intro z' h
          rw [List.map_append] at h
          rcases List.mem_append.mp h with h | h
          · exact ⟨(tok z' h).1, fun m => (tok z' h).2 (sub z' m)⟩
          · rw [List.mem_singleton.mp (show z' ∈ [f] from h)]
            exact ⟨pok f fp, fn⟩
        · intro i p h
          rw [List.map_append]
          by_cases hi : i < t.length
          · rw [List.getElem?_append_left hi] at h
            rw [List.take_append_of_le_length (by rw [List.length_map]; omega)]
            exact ah i p h
          · have hl := (List.getElem?_eq_some_iff.mp h).1
            rw [List.length_append] at hl
            have one : ([(f, g)] : List (Str × Str)).length = 1 := rfl
            have ei : i = t.length := by omega
            subst ei
            rw [List.getElem?_append_right (Nat.le_refl _), Nat.sub_self] at h
            have ep : (f, g) = p := Option.some.inj h
            subst ep
            rw [List.take_append_of_le_length (by rw [List.length_map]; omega), List.take_of_length_le (by rw [List.length_map]; omega)]
            exact gg
    · intro σ' H3 ⟨⟨u4, u5, eσ⟩, da, ka, pool, t, hp, pl, pnd, pok, hq, tl, tnd, tok, ah⟩
      subst eσ
      refine ⟨_, rfl, k q t H3 (tree_of (by omega) (by omega) tnd (fun z h => (tok z h).1) ah) ah q0 hq (da.more (by omega)) ka⟩
end
end FT


/-! feasible sizes, dealt out name by name (plain maths) -/
namespace FT
open PySem L2 TL ClX
/-! ### sizes that are drawn -/
theorem szOf_tbl {l : List Str} {sz : Str → Int} {a : Str} (h : a ∈ l) : szOf (tblI l sz) a = sz a := by
  unfold szOf
  rw [tblI_val h]
theorem kids_sub {t : List (Str × Str)} {p a : Str} (h : a ∈ kids t p) : a ∈ t.map Prod.fst := by
  obtain ⟨q, hq, rfl⟩ := List.mem_map.mp h
  exact List.mem_map.mpr ⟨q, (List.mem_filter.mp hq).1, rfl⟩
theorem resid_congr {t : List (Str × Str)} {n : Int} {sz sz' : Str → Int} {p : Str} (h : ∀ a ∈ t.map Prod.fst, sz a = sz' a) (hp : p = "" ∨ sz p = sz' p) : resid t n sz p = resid t n sz' p := by
  unfold resid
  rw [List.map_congr_left fun a ha => h a (kids_sub ha)]
  by_cases e : p = ""
  · rw [if_pos e, if_pos e]
  · rw [if_neg e, if_neg e, hp.resolve_left e]
/-- feasible sizes for n users -/
structure Fea (t : List (Str × Str)) (n : Int) (sz : Str → Int) : Prop where
  nn : ∀ a ∈ t.map Prod.fst, 0 ≤ sz a
  res : ∀ p ∈ (("" : Str) :: t.map Prod.fst), 0 ≤ resid t n sz p
theorem Fea.perm {t u : List (Str × Str)} {n : Int} {sz : Str → Int} (p : t.Perm u) (f : Fea t n sz) : Fea u n sz :=
  ⟨fun a ha => f.nn a ((p.map _).mem_iff.mpr ha), fun q hq => by rw [← resid_perm p]; exact f.res q ((List.mem_cons.mp hq).elim (fun e => e ▸ List.mem_cons_self ..) fun m => List.mem_cons_of_mem _ ((p.map Prod.fst).mem_iff.mpr m))⟩
theorem Fea.ok {CS : Addr} {ts : List (Str × Str)} {n : Int} {sz : Str → Int} {l : List Str} (f : Fea ts n sz) (p : l.Perm (ts.map Prod.fst)) : feE CS ts n (some (tblI l sz)) = none := by
  have e1 : ∀ a ∈ ts.map Prod.fst, valV (tblI l sz) (Sum.inr a) = some (.int (sz a)) := fun a ha => tblI_val (p.mem_iff.mpr ha)
  have ll := p.length_eq
  rw [List.length_map] at ll
  unfold feE
  rw [feas_some, if_neg (by rw [tblI_len]; exact fun z => z ll), if_neg]
  · have e2 : (ts.map Prod.fst).find? (badKey (tblI l sz)) = none := List.find?_eq_none.mpr fun a ha z => by
      unfold badKey at z
      rw [e1 a ha] at z
      have z' : (!decide ((0 : Int) ≤ sz a)) = true := z
      rw [decide_eq_true (f.nn a ha)] at z'
      cases z'
    rw [e2]
    have e3 : ((("" : Str) :: ts.map Prod.fst).find? fun p => decide (resid ts n (szOf (tblI l sz)) p < 0)) = none := List.find?_eq_none.mpr fun q hq z => by
      have z' := of_decide_eq_true z
      rw [resid_congr (sz' := sz) (fun a ha => szOf_tbl (p.mem_iff.mpr ha)) ((List.mem_cons.mp hq).imp id fun h => szOf_tbl (p.mem_iff.mpr h))] at z'
      have := f.res q hq
      omega
    show Option.map _ (Option.map V.str (List.find? _ _)) = none
    rw [e3] <;> rfl
  · intro z
    have : ((ts.map Prod.fst).all fun a => (valV (tblI l sz) (Sum.inr a)).isSome) = true := List.all_eq_true.mpr fun a ha => by rw [e1 a ha] <;> rfl
    rw [this] at z
    cases z
/-- what has been dealt out -/
structure Dealt (t : List (Str × Str)) (n : Int) (l : List Str) (t' : List (Str × Str)) (sz : Str → Int) : Prop where
  keys : t'.map Prod.fst = l
  sub : ∀ p ∈ t', p ∈ t
  par_ : ∀ p ∈ t', p.2 = "" ∨ p.2 ∈ l
  nn : ∀ a ∈ l, 0 ≤ sz a
  res : ∀ p ∈ (("" : Str) :: l), 0 ≤ resid t' n sz p
  top_ : ∀ p ∈ (("" : Str) :: l), resid t' n sz p ≤ n
theorem Dealt.nil {t : List (Str × Str)} {n : Int} {sz : Str → Int} (n0 : 0 ≤ n) : Dealt t n [] [] sz := by
  refine ⟨rfl, fun p h => (by cases h), fun p h => (by cases h), fun a h => (by cases h), fun p h => ?_, fun p h => ?_⟩
  · rw [List.mem_singleton.mp h]
    show 0 ≤ n - 0
    omega
  · rw [List.mem_singleton.mp h]
    show n - 0 ≤ n
    omega
theorem Dealt.step {t t' : List (Str × Str)} {n : Int} {l : List Str} {sz : Str → Int} (d : Dealt t n l t' sz) {a pa : Str} {z : Int} (na : a ∉ l) (ne : a ≠ "") (mt : (a, pa) ∈ t) (mp : pa = "" ∨ pa ∈ l) (z0 : 0 ≤ z) (z1 : z ≤ resid t' n sz pa) :
    Dealt t n (l ++ [a]) (t' ++ [(a, pa)]) (fun x => if x = a then z else sz x) ∧
    (∀ p ∈ (("" : Str) :: (l ++ [a])), resid (t' ++ [(a, pa)]) n (fun x => if x = a then z else sz x) p = if p = pa then resid t' n sz pa - z else if p = a then z else resid t' n sz p) := by
  have kid : kids t' a = [] := by
    unfold kids
    rw [List.filter_eq_nil_iff.mpr fun q hq z => ?_] <;> try rfl
    have e := of_decide_eq_true z
    rcases d.par_ q hq with h | h
    · exact ne (e.symm.trans h)
    · exact na (by rw [← e]; exact h)
  have pne : pa ≠ a := fun e => mp.elim (fun h => ne (e.symm.trans h)) fun h => na (by rw [← e]; exact h)
  have old : ∀ p, p ≠ a → resid t' n (fun x => if x = a then z else sz x) p = resid t' n sz p := fun p hp =>
    resid_congr (fun x hx => if_neg fun e => na (by rw [← e, ← d.keys]; exact hx)) (.inr (if_neg hp))
  have eq : ∀ p ∈ (("" : Str) :: (l ++ [a])), resid (t' ++ [(a, pa)]) n (fun x => if x = a then z else sz x) p = if p = pa then resid t' n sz pa - z else if p = a then z else resid t' n sz p := fun p _ => by
    rw [resid_snoc]
    by_cases h1 : p = pa
    · rw [if_pos h1.symm, if_pos h1, old p (by rw [h1]; exact pne), h1]
      show _ - (if a = a then z else sz a) = _
      rw [if_pos rfl]
    · rw [if_neg (fun e => h1 e.symm), if_neg h1]
      by_cases h2 : p = a
      · rw [if_pos h2, h2]
        unfold resid
        rw [kid, if_neg ne]
        show (if a = a then z else sz a) - 0 = z
        rw [if_pos rfl]
        omega
      · rw [if_neg h2, old p h2]
  refine ⟨⟨by rw [List.map_append, d.keys] <;> rfl, fun p hp => ?_, fun p hp => ?_, fun x hx => ?_, fun p hp => ?_, fun p hp => ?_⟩, eq⟩
  · rcases List.mem_append.mp hp with h | h
    · exact d.sub p h
    · rw [List.mem_singleton.mp h]
      exact mt
  · rcases List.mem_append.mp hp with h | h
    · exact (d.par_ p h).imp id fun m => List.mem_append_left _ m
    · rw [List.mem_singleton.mp h]
      exact mp.imp id fun m => List.mem_append_left _ m
  · show 0 ≤ if x = a then z else sz x
    by_cases e : x = a
    · rw [if_pos e]
      exact z0
    · rw [if_neg e]
      exact d.nn x ((List.mem_append.mp hx).resolve_right fun m => e (List.mem_singleton.mp m))
  · rw [eq p hp]
    by_cases h1 : p = pa
    · rw [if_pos h1]
      omega
    · rw [if_neg h1]
      by_cases h2 : p = a
      · rw [if_pos h2]
        exact z0
      · rw [if_neg h2]
        refine d.res p ((List.mem_cons.mp hp).elim (fun e => e ▸ List.mem_cons_self ..) fun m => List.mem_cons_of_mem _ ?_)
        exact (List.mem_append.mp m).resolve_right fun m => h2 (List.mem_singleton.mp m)
  · rw [eq p hp]
    have tp := d.top_ pa (List.mem_cons.mpr mp)
    by_cases h1 : p = pa
    · rw [if_pos h1]
      omega
    · rw [if_neg h1]
      by_cases h2 : p = a
      · rw [if_pos h2]
        omega
      · rw [if_neg h2]
        refine d.top_ p ((List.mem_cons.mp hp).elim (fun e => e ▸ List.mem_cons_self ..) fun m => List.mem_cons_of_mem _ ?_)
        exact (List.mem_append.mp m).resolve_right fun m => h2 (List.mem_singleton.mp m)
end FT


/-! family B: sizes that are drawn -/
namespace FT
open PySem L2 TL ClX LiI
theorem Fea.nil_congr {t : List (Str × Str)} {n : Int} {sz : Str → Int} (f : Fea t n sz) : ∀ a ∈ t.map Prod.fst, 0 ≤ sz a := f.nn
def spSizesB : Sp := fun vs H Q _ => ∃ (d l i q : Addr) (b n : Int) (t : List (Str × Str)), vs = [.ref d, .ref q, .int n] ∧ DrawB H d l i b ∧ b + 100 ≤ 10 ^ 12 ∧ H q = some (.dK (prs t)) ∧ TreeOk t ∧ Ahead t ∧ 0 ≤ n ∧ n ≤ 60 ∧
  ∀ (p : Addr) (sz : Str → Int) (H' : Hp), Fea t n sz → H p = none → H' p = some (.dK (tblI (t.map Prod.fst) sz)) → DrawB H' d l i (b + 100) → KeepX [d, l] H H' → Q (.ref p) H'
theorem DrawB.off_prs {H : Hp} {d l i q : Addr} {b : Int} {t : List (Str × Str)} (x : DrawB H d l i b) (hq : H q = some (.dK (prs t))) : q ≠ d ∧ q ≠ l ∧ q ≠ i := by
  obtain ⟨lf, tn, lg, it, a1, a2, a3, _⟩ := x
  refine ⟨ne_of hq a1 fun z => ?_, ne_of hq a2 (by intro z; cases z), ne_of hq a3 (by intro z; cases z)⟩
  have z := congrArg List.head? (HO.dK.inj z)
  cases t with
  | nil => cases z
  | cons y t =>
    have z := congrArg Prod.snd (Option.some.inj z)
    cases z
section
variable {P : Program} {w : World} {K : PySem.W.Frag} {mg : Str → Option Value} {base : Heap}
abbrev NSb : List Str := ["_law_draw", "_law_parents", "_law_folk", "_law_wide", "_law_left", "_law_name", "_law_above", "_law_size"]
theorem scSb : FnScope NSb ["_law_draw", "_law_parents", "_law_folk"] (defScope s__law_sizes) := ⟨rfl, rfl, rfl, by decide +kernel, rfl, by decide +kernel, by decide +kernel⟩
theorem ok_sizesB {f fT fP : Addr} {fd fdT fdP : FuncData} (F : Fun K "_law_sizes" "_law_sizes" s__law_sizes f fd) (T : Nm mg) (DT : Dn P w K mg base CX0 2 "_law_take" ["_law_draw", "_law_size"] spTakeB fT fdT) (DP : Dn P w K mg base CX0 3 "_law_pick" ["_law_draw", "_law_some"] spPickB fP fdP) : FnOk P w K mg base CX0 4 f fd ["_law_draw", "_law_parents", "_law_folk"] spSizesB := by
  refine F.ok scSb (fun vs H Q E h => ?_) (fun cdv A outer s H vs Q E hr h => ?_)
  · obtain ⟨d, l, i, q, b, n, t, rfl, _⟩ := h
    rfl
  · obtain ⟨d, l, i, q, b, n, t, rfl, hD, bb, hq, o, ah, n0, n60, k⟩ := h
    have hu := hu_of hr
    have hr2 : Room 2 _ := hr.mono (by decide)
    have nd := scSb.nd
    have big : 1000 ≤ sizeLine := by decide
    have few := o.few
    refine ⟨_, pss_cons (ps_par (i := 3) (j := 4) rfl nd rfl rfl (by decide) rfl rfl (pa_cons pe_dnewK (pa_cons (pe_disp (pps_cons pe_str (pv 2) pps_nil) (by rfl) (by rfl) (fun z => by cases z) (by decide)) pa_nil)) (by rfl))
      (pss_cons (ps_lock (ps_for PassesOwn.never rfl (pi_keys (pv 1)) (pg_name (i := 5) nd rfl (.inl rfl))
        (pss_cons (ps_set (i := 6) nd rfl (.inl rfl) (pe_dget hu (pv 1) (pv 5) (fun _ _ => rfl)))
        (pss_cons (ps_set (i := 7) nd rfl (.inl rfl) (pe_call DP.ok hr rfl DP.mgn DP.kp DP.bn .nil pass0 (pa_cons (pv 0) (pa_cons (pe_lst (pa_cons pe_int (pa_cons (pe_dget hu (pv 4) (pv 6) (fun _ _ => rfl))
          (pa_cons (pe_call DT.ok hr2 rfl DT.mgn DT.kp DT.bn .nil pass0 (pa_cons (pv 0) (pa_cons (pe_op op_add (pe_dget hu (pv 4) (pv 6) (fun _ _ => rfl)) pe_int) pa_nil)))
          (pa_cons (pe_call DT.ok hr2 rfl DT.mgn DT.kp DT.bn .nil pass0 (pa_cons (pv 0) (pa_cons (pe_op op_add (pe_dget hu (pv 4) (pv 6) (fun _ _ => rfl)) pe_int) pa_nil))) pa_nil))))) pa_nil))))
        (pss_cons (ps_dput hu (pv 3) (pv 5) (pv 7) rfl)
        (pss_cons (ps_dput hu (pv 4) (pv 6) (pe_op op_sub (pe_dget hu (pv 4) (pv 6) (fun _ _ => rfl)) (pv 7)) rfl)
        (pss_one (ps_dput hu (pv 4) (pv 5) (pv 7) rfl))))))))
      (pss_one (ps_ret (pv 3)))), ?_⟩
    refine fun qf nqf ql nql => ⟨_, rfl, upd_same, [(Sum.inr "", V.int n)], rfl, by show 1 ≤ 15; omega, _, _, rfl, ?_⟩
    have qfl : qf ≠ ql := ne_of_none upd_same nql
    obtain ⟨H3, e3⟩ : ∃ X, X = upd (upd (upd H qf (.dK [])) ql (.dK [])) ql (.dK (mergeK [] [(Sum.inr "", V.int n)])) := ⟨_, rfl⟩
    have nql0 : H ql = none := by rw [upd_ne qfl.symm] at nql; exact nql
    have s03 : Same H H3 := e3 ▸ ((same_new nqf).put nql0).put nql0
    have hf3 : H3 qf = some (.dK (tblI [] fun _ => 0)) := by
      rw [e3, upd_ne qfl, upd_ne qfl, upd_same] <;> rfl
    have hl3 : H3 ql = some (.dK (tblI [""] (resid [] n fun _ => 0))) := by
      rw [e3, upd_same]
      show some (HO.dK [(Sum.inr "", V.int n)]) = some (HO.dK [(Sum.inr "", V.int (n - 0))])
      rw [Int.sub_zero]
    have dr3 := hD.mono s03
    have qfd := hD.apart nqf
    have qld := hD.apart nql0
    have qqf : q ≠ qf := ne_of_none hq nqf
    have qql : q ≠ ql := ne_of_none hq nql0
    have qd := hD.off_prs hq
    have hq3 := s03 _ _ hq
    rw [← e3]
    refine ⟨q, _, hq3, trivial, fun od => ⟨_, rfl, q, od, rfl, .inl ⟨_, upd_same, ?_⟩⟩⟩
    obtain ⟨H4, e4⟩ : ∃ X, X = upd H3 q (.frz od (.dK (prs t))) := ⟨_, rfl⟩
    have hq4 : H4 q = some (.frz od (.dK (prs t))) := by rw [e4, upd_same]
    have hf4 : H4 qf = some (.dK (tblI [] fun _ => 0)) := by rw [e4, upd_ne qqf.symm]; exact hf3
    have hl4 : H4 ql = some (.dK (tblI [""] (resid [] n fun _ => 0))) := by rw [e4, upd_ne qql.symm]; exact hl3
    have dr4 : DrawB H4 d l i b := by rw [e4]; exact dr3.off qd.1 qd.2.1 qd.2.2
    have k4 : ∀ x u, x ≠ q → x ∉ [d, l] → H x = some u → H4 x = some u := fun x u nq _ e => by rw [e4, upd_ne nq]; exact s03 _ _ e
    rw [← e4]
    refine for_it walk_keys (fun j σ' H' => (∃ u5 u6 u7, σ' = [some (.ref d), some (.ref q), some (.int n), some (.ref qf), some (.ref ql), u5, u6, u7]) ∧ DrawB H' d l i (b + 3 * (j : Int)) ∧ H' q = some (.frz od (.dK (prs t))) ∧ (∀ x u, x ≠ q → x ∉ [d, l] → H x = some u → H' x = some u) ∧
      ∃ sz : Str → Int, Dealt t n ((t.map Prod.fst).take j) (t.take j) sz ∧ H' qf = some (.dK (tblI ((t.map Prod.fst).take j) sz)) ∧ H' ql = some (.dK (tblI ("" :: (t.map Prod.fst).take j) (resid (t.take j) n sz))))
      ⟨⟨_, _, _, rfl⟩, dr4.more (by omega), hq4, k4, (fun _ => 0), Dealt.nil n0, hf4, hl4⟩ (fun j σ' H' _ z => z.2.2.1) ?_ ?_
    · intro j y σ' Hz Hb hj ⟨⟨u5, u6, u7, e⟩, da, aqa, ka, sz, dl, hfa, hla⟩ ⟨eb, kk, vv, hk, ey⟩
      subst e
      subst eb
      subst ey
      obtain ⟨⟨a, pa⟩, hp, ee⟩ : ∃ x : Str × Str, t[j]? = some x ∧ (kk, vv) = (Sum.inr x.1, V.str x.2) := by
        unfold prs kvT at hk
        rw [List.map_map, List.getElem?_map] at hk
        obtain ⟨x, hx, z⟩ := Option.map_eq_some_iff.mp hk
        exact ⟨x, hx, z.symm⟩
      cases ee
      rw [show kV (Sum.inr a) = V.str a from rfl]
      have mp := List.mem_of_getElem? hp
      have ma : a ∈ t.map Prod.fst := List.mem_map.mpr ⟨_, mp, rfl⟩
      have hja : (t.map Prod.fst)[j]? = some a := by rw [List.getElem?_map, hp] <;> rfl
      have hpa := par_of o.nd mp
      have jl := (List.getElem?_eq_some_iff.mp hp).1
      have anr : a ≠ "" := fun z => o.root (by rw [← z]; exact ma)
      have fresh : a ∉ (t.map Prod.fst).take j := nat_fresh o.nd hja
      have mpa : pa = "" ∨ pa ∈ (t.map Prod.fst).take j := ah j _ hp
      have mpl : pa ∈ (("" : Str) :: (t.map Prod.fst).take j) := List.mem_cons.mpr mpa
      obtain ⟨m, em⟩ : ∃ m, m = resid (t.take j) n sz pa := ⟨_, rfl⟩
      have m0 : 0 ≤ m := by rw [em]; exact dl.res pa mpl
      have mn : m ≤ 60 := by
        have := dl.top_ pa mpl
        omega
      have lkeep : ((t.map Prod.fst).take j).length = j := by rw [List.length_take, List.length_map]; omega
      have dgp : DGet Hb q (.str a) (some (.str pa)) := .inl ⟨_, Sum.inr a, .inr ⟨od, aqa⟩, rfl, by rw [val_prs, hpa] <;> rfl⟩
      have gl : ∀ {H'}, H' ql = some (.dK (tblI ("" :: (t.map Prod.fst).take j) (resid (t.take j) n sz))) → DGet H' ql (.str pa) (some (.int m)) := fun {H'} h => by
        have z := DGet.k (k := Sum.inr pa) h
        rw [tblI_val mpl, ← em] at z
        exact z
      have bnd : (m + 1).natAbs < 2 ^ 200 := by omega
      refine ⟨_, rfl, _, rfl, q, .str pa, rfl, dgp, ?_⟩
      refine ⟨_, rfl, _, rfl, _, rfl, ql, _, rfl, gl hla, ?_⟩
      refine ⟨_, rfl, _, rfl, _, rfl, ql, _, rfl, gl hla, _, _, rfl, rfl, d, l, i, _, m + 1, rfl, da, by omega, by omega, bnd, fun k1 H7 k10 k11 d7 kp7 => ?_⟩
      have hf7 := kx_at kp7 hfa qfd.1 qfd.2.1
      have hl7 := kx_at kp7 hla qld.1 qld.2.1
      have hq7 := kx_at kp7 aqa qd.1 qd.2.1
      refine ⟨_, rfl, _, rfl, _, rfl, ql, _, rfl, gl hl7, _, _, rfl, rfl, d, l, i, _, m + 1, rfl, d7, by omega, by omega, bnd, fun k2 H8 k20 k21 d8 kp8 => ?_⟩
      have hf8 := kx_at kp8 hf7 qfd.1 qfd.2.1
      have hl8 := kx_at kp8 hl7 qld.1 qld.2.1
      have hq8 := kx_at kp8 hq7 qd.1 qd.2.1
      refine ⟨by show 4 ≤ sizeLine; omega, fun pl npl => ?_⟩
      have pld := d8.apart npl
      have s8 := same_new (o := .lst (([0, m, k1, k2] : List Int).map V.int)) npl
      refine ⟨d, l, i, pl, _, ([0, m, k1, k2] : List Int).map V.int, rfl, d8.mono s8, by omega, upd_same, pld.2.1, (fun z => by cases z), by show 4 ≤ 1000; decide, fun x H9 xm d9 k9 => ?_⟩
      obtain ⟨z, hz, rfl⟩ := List.mem_map.mp xm
      have zb : 0 ≤ z ∧ z ≤ m := by
        simp only [List.mem_cons, List.not_mem_nil, or_false] at hz
        rcases hz with rfl | rfl | rfl | rfl <;> omega
      obtain ⟨z0, z1⟩ := zb
      have hf9 := kx_at k9 (s8 _ _ hf8) qfd.1 qfd.2.1
      have hl9 := kx_at k9 (s8 _ _ hl8) qld.1 qld.2.1
      have hq9 := kx_at k9 (s8 _ _ hq8) qd.1 qd.2.1
      have ka9 : ∀ x u, x ≠ q → x ∉ [d, l] → H x = some u → H9 x = some u := fun x u nq nx e => k9 _ _ nx (s8 _ _ (kp8 _ _ nx (kp7 _ _ nx (ka x u nq nx e))))
      obtain ⟨dl', req⟩ := dl.step fresh anr mp mpa z0 (by rw [← em]; exact z1)
      refine ⟨_, rfl, _, rfl, _, rfl, qf, _, rfl, DPut.k (k := Sum.inr a) hf9 (by rw [tblI_len, lkeep]; omega), ?_⟩
      rw [tblI_congr (g' := fun x => if x = a then z else sz x) (fun b hb => (if_neg fun e => fresh (by rw [← e]; exact hb)).symm), tblI_snoc (g := fun x => if x = a then z else sz x) fresh (if_pos rfl).symm, ← take_more hja]
      obtain ⟨H10, e10⟩ : ∃ X, X = upd H9 qf (.dK (tblI ((t.map Prod.fst).take (j + 1)) fun x => if x = a then z else sz x)) := ⟨_, rfl⟩
      have hl10 : H10 ql = some (.dK (tblI ("" :: (t.map Prod.fst).take j) (resid (t.take j) n sz))) := by rw [e10, upd_ne qfl.symm]; exact hl9
      rw [← e10]
      refine ⟨_, rfl, _, rfl, ql, _, rfl, gl hl10, _, rfl, _, _, rfl, rfl, _, rfl, _, rfl, ql, _, rfl, DPut.k (k := Sum.inr pa) hl10 (by rw [tblI_len, List.length_cons, lkeep]; omega), ?_⟩
      rw [tblI_put mpl]
      refine ⟨_, rfl, _, rfl, _, rfl, ql, _, rfl, DPut.k (k := Sum.inr a) upd_same (by rw [tblI_len, List.length_cons, lkeep]; omega), ?_⟩
      rw [upd_upd]
      have nin : a ∉ (("" : Str) :: (t.map Prod.fst).take j) := fun h => (List.mem_cons.mp h).elim anr fresh
      obtain ⟨g, eg⟩ : ∃ g : Str → Int, g = fun p => if p = pa then m - z else if p = a then z else resid (t.take j) n sz p := ⟨_, rfl⟩
      have pne : a ≠ pa := fun e => nin (by rw [e]; exact mpl)
      rw [tblI_congr (l := "" :: (t.map Prod.fst).take j) (g' := g) (fun b hb => by
        rw [eg]
        show (if b = pa then _ else _) = if b = pa then _ else if b = a then _ else _
        rw [if_neg (show ¬ b = a from fun e => nin (by rw [← e]; exact hb))]), tblI_snoc (g := g) nin (by rw [eg]; show z = if a = pa then _ else if a = a then z else _; rw [if_neg pne, if_pos rfl]), List.cons_append, ← take_more hja]
      refine ⟨⟨_, _, _, rfl⟩, ?_, ?_, fun x u nq nx e => ?_, (fun x => if x = a then z else sz x), by rw [take_more hja, take_more hp]; exact dl', ?_, ?_⟩
      · rw [e10]
        exact ((d9.off qfd.1 qfd.2.1 qfd.2.2).off qld.1 qld.2.1 qld.2.2).more (by omega)
      · rw [upd_ne qql, e10, upd_ne qqf]
        exact hq9
      · rw [upd_ne (ne_of_none e nql0), e10, upd_ne (ne_of_none e nqf)]
        exact ka9 x u nq nx e
      · rw [upd_ne qfl, e10, upd_same]
      · rw [upd_same]
        congr 2
        refine tblI_congr fun b hb => ?_
        rw [take_more hja] at hb
        rw [take_more hp, req b hb, eg, em]
    · intro σ' H7 ⟨⟨u5, u6, u7, e⟩, da, aqa, ka, sz, dl, hfa, hla⟩
      subst e
      rw [prs_len] at da
      rw [show (prs t).length = (t.map Prod.fst).length by rw [prs_len, List.length_map], List.take_length, List.length_map, List.take_length] at dl
      rw [show (prs t).length = (t.map Prod.fst).length by rw [prs_len, List.length_map], List.take_length] at hfa
      have fe : Fea t n sz := ⟨fun a ha => dl.nn a ha, fun p hp => dl.res p hp⟩
      have nqq : H7 q = some (.frz od (.dK (prs t))) := aqa
      refine ⟨aqa, _, rfl, k qf sz _ fe nqf (by rw [upd_ne qqf.symm]; exact hfa) ((da.off qd.1 qd.2.1 qd.2.2).more (by omega)) fun x u nx e => ?_⟩
      by_cases z : x = q
      · subst z
        rw [hq] at e
        rw [upd_same]
        exact e
      · rw [upd_ne z]
        exact ka x u z nx e
end
end FT


/-! family B: lists that are drawn -/
namespace FT
open PySem L2 TL ClX LiI
theorem PrG.congr {g g' : Str → V} {H : Hp} {rs : List Addr} {l : List Str} (p : PrG g H rs l) (e : ∀ a ∈ l, g a = g' a) : PrG g' H rs l := by
  unfold PrG at p ⊢
  induction p with
  | nil => exact .nil
  | cons h _ ih => exact .cons (by rw [← e _ (List.mem_cons_self ..)]; exact h) (ih fun a ha => e a (List.mem_cons_of_mem _ ha))
theorem flat_same {ws : List Str} {a : Str} {L L' : Str → List Int} (na : a ∉ ws) (h : ∀ p, p ≠ a → L' p = L p) : ws.flatMap L' = ws.flatMap L := by
  induction ws with
  | nil => rfl
  | cons b ws ih =>
    rw [List.flatMap_cons, List.flatMap_cons, h b fun z => na (by rw [z]; exact List.mem_cons_self ..), ih fun m => na (List.mem_cons_of_mem _ m)]
theorem flat_add {ws : List Str} {a : Str} {L L' : Str → List Int} {u : Int} (nd : ws.Nodup) (ma : a ∈ ws) (h : ∀ p, p ≠ a → L' p = L p) (ha : L' a = L a ++ [u]) : (ws.flatMap L').Perm (u :: ws.flatMap L) := by
  induction ws with
  | nil => cases ma
  | cons b ws ih =>
    obtain ⟨nb, nd2⟩ := List.nodup_cons.mp nd
    rw [List.flatMap_cons, List.flatMap_cons]
    by_cases e : b = a
    · subst e
      rw [ha, flat_same nb h, List.append_assoc]
      exact List.perm_middle
    · rw [h b e]
      exact ((List.Perm.refl _).append (ih nd2 ((List.mem_cons.mp ma).resolve_left fun z => e z.symm))).trans List.perm_middle
def spDListsB : Sp := fun vs H Q _ => ∃ (d l i q : Addr) (b : Int) (n : Nat) (t : List (Str × Str)), vs = [.ref d, .ref q, .int (n : Int)] ∧ DrawB H d l i b ∧ b + 200 ≤ 10 ^ 12 ∧ H q = some (.dK (prs t)) ∧ TreeOk t ∧ n ≤ 60 ∧
  ∀ (p : Addr) (ks : List Str) (r : Str → Addr) (L : Str → List Int) (H' : Hp), ks.Perm (t.map Prod.fst) → PyProof.Rows.sortedS ks = true → H p = none → LsAt H' p (("" : Str) :: ks) r L → ((("" : Str) :: ks).flatMap L).Perm (usr n) → DrawB H' d l i (b + 200) → KeepX [d, l] H H' → Q (.ref p) H'
section
variable {P : Program} {w : World} {K : PySem.W.Frag} {mg : Str → Option Value} {base : Heap}
abbrev NDl : List Str := ["_law_draw", "_law_parents", "_law_folk", "_law_shelf", "_law_pool", "_law_places", "_law_place"]
theorem scDl : FnScope NDl ["_law_draw", "_law_parents", "_law_folk"] (defScope s__law_drawn_lists) := ⟨rfl, rfl, rfl, by decide +kernel, rfl, by decide +kernel, by decide +kernel⟩
theorem ok_dlistsB {f fT fP : Addr} {fd fdT fdP : FuncData} (F : Fun K "_law_drawn_lists" "_law_drawn_lists" s__law_drawn_lists f fd) (T : Nm mg) (DT : Dn P w K mg base CX0 2 "_law_take" ["_law_draw", "_law_size"] spTakeB fT fdT) (DP : Dn P w K mg base CX0 3 "_law_pick" ["_law_draw", "_law_some"] spPickB fP fdP) : FnOk P w K mg base CX0 4 f fd ["_law_draw", "_law_parents", "_law_folk"] spDListsB := by
  refine F.ok scDl (fun vs H Q E h => ?_) (fun cdv A outer s H vs Q E hr h => ?_)
  · obtain ⟨d, l, i, q, b, n, t, rfl, _⟩ := h
    rfl
  · obtain ⟨d, l, i, q, b, n, t, rfl, hD, bb, hq, o, n60, k⟩ := h
    have hu := hu_of hr
    have hr2 : Room 2 _ := hr.mono (by decide)
    have nd := scDl.nd
    have big : 1000 ≤ sizeLine := by decide
    have few := o.few
    refine ⟨_, pss_cons (ps_par (i := 3) (j := 4) rfl nd rfl rfl (by decide) rfl rfl (pa_cons (pe_callTy (call_dictP rfl) (by rfl) T.dct (by decide +kernel) (pa_cons (pe_lc (own := [("_law_place", 6)]) (g := gName 6) (tt := tYes) rfl nd (pi_list (pe_op op_cat (pe_lst (pa_cons pe_str pa_nil)) (pe_callB (call_sortedD rfl) (by rfl) T.srt (by decide +kernel) (pa_cons (pv 1) pa_nil))))
          (blkOk_by (N := NDl) (sc := defScope s__law_drawn_lists) (by decide +kernel))
          (fun _ _ _ _ _ => pg_name (i := 6) nd rfl (Or.inl rfl)) (fun _ _ _ _ _ => pts_nil) (fun _ _ _ _ _ => pe_tup (pa_cons (pv 6) (pa_cons (pe_lst pa_nil) pa_nil)))) pa_nil))
        (pa_cons (pe_listRg rfl (by rfl) T.lst (prg_1 (by rfl) T.rng (pv 2))) pa_nil)) (by rfl))
      (pss_cons (ps_set (i := 5) nd rfl (.inl rfl) (pe_callTy (call_listD rfl) (by rfl) T.lst (by decide +kernel) (pa_cons (pv 3) pa_nil)))
      (pss_cons (ps_while PassesOwn.never (pt_cmpR (op_neD hr.units) (pv 4) (pe_lst pa_nil) (nomark _))
        (pss_cons (ps_set (i := 6) nd rfl (.inl rfl) (pe_call DP.ok hr rfl DP.mgn DP.kp DP.bn .nil pass0 (pa_cons (pv 0) (pa_cons (pv 5) pa_nil))))
        (pss_one (ps_expr (pe_bm PySem.F.plainAttrs_list PySem.F.slot_list_append PySem.F.type_list_append mt_append (pe_dget hu (pv 3) (pv 6) (fun _ _ => rfl)) (pa_cons (pe_bm PySem.F.plainAttrs_list PySem.F.slot_list_pop PySem.F.type_list_pop mt_popAt (pv 4) (pa_cons (pe_call DT.ok hr2 rfl DT.mgn DT.kp DT.bn .nil pass0 (pa_cons (pv 0) (pa_cons (pe_callB call_len_seq (by rfl) T.len PySem.boot_len (pa_cons (pv 4) pa_nil)) pa_nil))) pa_nil)) pa_nil))))))
      (pss_one (ps_ret (pv 3))))), ?_⟩
    have qd := hD.off_prs hq
    -- the names
    refine ⟨by show 1 ≤ sizeLine; omega, fun p1 m1 => ?_⟩
    have s1 := same_new (o := .lst [V.str ""]) m1
    refine ⟨_, rfl, q, prs t, t.map Prod.fst, rfl, .inl (s1 _ _ hq), prs_keys t, by rw [List.length_map]; omega, fun ks p2 perm srt m2 => ?_⟩
    have s2 := same_new (o := .lst (ks.map V.str)) m2
    have lk := perm.length_eq
    rw [List.length_map] at lk
    refine ⟨p1, p2, _, _, rfl, rfl, s2 _ _ upd_same, upd_same, by rw [List.length_map]; show 1 + _ ≤ _; omega, fun p3 m3 => ?_⟩
    obtain ⟨ws, ews⟩ : ∃ ws : List Str, ws = ("" : Str) :: ks := ⟨_, rfl⟩
    rw [show [V.str ("" : Str)] ++ ks.map V.str = ws.map V.str by rw [ews] <;> rfl]
    have s3 := same_new (o := .lst (ws.map V.str)) m3
    obtain ⟨H3, e3⟩ : ∃ X, X = upd (upd (upd H p1 (.lst [V.str ""])) p2 (.lst (ks.map V.str))) p3 (.lst (ws.map V.str)) := ⟨_, rfl⟩
    have s03 : Same H H3 := e3 ▸ (s1.trans s2).trans s3
    have a3 : H3 p3 = some (.lst (ws.map V.str)) := by rw [e3]; exact upd_same
    rw [← e3]
    have ndk : ks.Nodup := perm.nodup_iff.mpr o.nd
    have ndw : ws.Nodup := by
      rw [ews]
      exact List.nodup_cons.mpr ⟨fun z => o.root (perm.mem_iff.mp z), ndk⟩
    have lw : ws.length ≤ 13 := by rw [ews, List.length_cons]; omega
    have lw1 : 1 ≤ ws.length := by rw [ews, List.length_cons]; omega
    refine ⟨p3, rfl, ⟨_, SqL.of a3⟩, fun D nD => ?_⟩
    refine lc_it walk_list (fun j H' => Same H3 H' ∧ ∃ (rs : List Addr) (r : Str → Addr), H' D = some (.lst (rs.map V.ref)) ∧ PrG (fun a => .ref (r a)) H' rs (ws.take j) ∧ (∀ a ∈ ws.take j, H' (r a) = some (.lst []) ∧ H (r a) = none ∧ r a ≠ D) ∧ ∀ a ∈ ws.take j, ∀ c ∈ ws.take j, r a = r c → a = c)
      ⟨same_new nD, [], fun _ => 0, upd_same, .nil, fun a h => by simp at h, fun a h => by simp at h⟩ (fun j H' _ z => SqL.of (z.1 _ _ a3)) ?_ ?_
    · intro j y Hz Ha hj ⟨q1, rs, r, hDa, pr, em, inj⟩ ⟨eb, ex⟩
      subst eb
      obtain ⟨a, ha, rfl⟩ := map_of ex
      have fresh := nat_fresh ndw ha
      have lr := pr.len
      rw [List.length_take] at lr
      refine ⟨rfl, ?_⟩
      refine ⟨_, rfl, by show 0 ≤ sizeLine; omega, fun e ne => ⟨by show 2 ≤ sizeLine; omega, fun tq ntq => ?_⟩⟩
      have se := same_new (o := .lst ([] : List V)) ne
      have st := same_new (o := .tup [.str a, .ref e]) ntq
      have hDt := st _ _ (se _ _ hDa)
      have eD : e ≠ D := (ne_of_none hDa ne).symm
      refine ⟨_, hDt, by rw [List.length_map]; omega, ((q1.trans se).trans st).put nD, rs ++ [tq], fun x => if x = a then e else r x, by rw [upd_same, List.map_append] <;> rfl, ?_, ?_, ?_⟩
      · rw [take_more ha]
        refine PrG.push hDt (PrG.snoc (by
          rw [upd_same]
          show _ = some (HO.tup [V.str a, V.ref (if a = a then e else r a)])
          rw [if_pos rfl]) (((pr.mono se).mono st).congr fun x hx => ?_))
        show V.ref (r x) = V.ref (if x = a then e else r x)
        rw [if_neg fun z => fresh (by rw [← z]; exact hx)]
      · intro x hx
        rw [take_more ha] at hx
        show (upd (upd (upd Ha e (.lst [])) tq (.tup [.str a, .ref e])) D _) (if x = a then e else r x) = some (.lst []) ∧ H (if x = a then e else r x) = none ∧ (if x = a then e else r x) ≠ D
        by_cases z : x = a
        · rw [if_pos z, upd_ne eD]
          exact ⟨st _ _ upd_same, (s03.trans q1).free ne, eD⟩
        · rw [if_neg z]
          obtain ⟨z1, z2, z3⟩ := em x ((List.mem_append.mp hx).resolve_right fun m => z (List.mem_singleton.mp m))
          rw [upd_ne z3]
          exact ⟨st _ _ (se _ _ z1), z2, z3⟩
      · intro x hx c hc
        rw [take_more ha] at hx hc
        show (if x = a then e else r x) = (if c = a then e else r c) → x = c
        have old : ∀ {x}, x ∈ ws.take j ++ [a] → ¬ x = a → x ∈ ws.take j := fun hx z => (List.mem_append.mp hx).resolve_right fun m => z (List.mem_singleton.mp m)
        have ner : ∀ {x}, x ∈ ws.take j → r x ≠ e := fun hx => ne_of_none (em _ hx).1 ne
        by_cases z : x = a
        · rw [if_pos z]
          by_cases w : c = a
          · exact fun _ => z.trans w.symm
          · rw [if_neg w]
            exact fun h => absurd h.symm (ner (old hc w))
        · rw [if_neg z]
          by_cases w : c = a
          · rw [if_pos w]
            exact fun h => absurd h (ner (old hx z))
          · rw [if_neg w]
            exact inj x (old hx z) c (old hc w)
    intro H4 ⟨q1, rs, r, hD4, pr, em, inj⟩
    rw [List.length_map, List.take_length] at pr em inj
    refine ⟨D, rs, _, rfl, SqL.of hD4, pr.kvs, fun p np => ?_⟩
    rw [merge_nd (by rw [map_fst]; exact ndw), show kvT (ws.map fun a => (a, V.ref (r a))) = tblV ws fun a => .ref (r a) from rfl]
    have s4 := same_new (o := .dK (tblV ws fun a => .ref (r a))) np
    have np0 : H p = none := (s03.trans q1).free np
    refine ⟨_, rfl, _, rfl, RgOk.of_le (by omega) (by omega) (by omega) (by omega), fun pl npl => ?_⟩
    rw [rgV_usr]
    have s5 := same_new (o := .lst ((usr n).map V.int)) npl
    refine ⟨_, _, rfl, ?_⟩
    refine ⟨_, rfl, p, tblV ws (fun a => .ref (r a)), rfl, .inl (s5 _ _ upd_same), fun pz npz => ?_⟩
    rw [keys_tblV]
    obtain ⟨H6, e6⟩ : ∃ X, X = upd (upd (upd H4 p (.dK (tblV ws fun a => .ref (r a)))) pl (.lst ((usr n).map V.int))) pz (.lst (ws.map V.str)) := ⟨_, rfl⟩
    have s6 := same_new (o := .lst (ws.map V.str)) npz
    have s46 : Same H4 H6 := e6 ▸ (s4.trans s5).trans s6
    have s06 : Same H H6 := (s03.trans q1).trans s46
    have hp6 : H6 p = some (.dK (tblV ws fun a => .ref (r a))) := by rw [e6]; exact s6 _ _ (s5 _ _ upd_same)
    have hpl6 : H6 pl = some (.lst ((usr n).map V.int)) := by rw [e6]; exact s6 _ _ upd_same
    have hpz6 : H6 pz = some (.lst (ws.map V.str)) := by rw [e6]; exact upd_same
    have rpl : ∀ a ∈ ws, r a ≠ pl ∧ r a ≠ pz ∧ r a ≠ p := fun a ha => ⟨ne_of_none (s4 _ _ (em a ha).1) npl, ne_of_none (s5 _ _ (s4 _ _ (em a ha).1)) npz, ne_of_none (em a ha).1 np⟩
    have plz : pl ≠ pz := ne_of_none upd_same npz
    have pl0 : H pl = none := (s03.trans q1).free (s4.free npl)
    have pz0 : H pz = none := (s03.trans q1).free (s4.free (s5.free npz))
    have pd := hD.apart np0
    have pld := hD.apart pl0
    have pzd := hD.apart pz0
    have ppl : p ≠ pl := ne_of_none upd_same npl
    have ppz : p ≠ pz := ne_of_none (s5 _ _ upd_same) npz
    have rd : ∀ a ∈ ws, r a ≠ d ∧ r a ≠ l ∧ r a ≠ i := fun a ha => hD.apart (em a ha).2.1
    rw [← e6]
    have lu : (usr n).length = n := by unfold usr; rw [List.length_map, List.length_range]
    refine while_by (fun σ H' => (∃ u6, σ = [some (.ref d), some (.ref q), some (.int (n : Int)), some (.ref p), some (.ref pl), some (.ref pz), u6]) ∧ KeepX [d, l] H H' ∧ H' pz = some (.lst (ws.map V.str)) ∧ ∃ (rest : List Int) (L : Str → List Int), H' pl = some (.lst (rest.map V.int)) ∧ LsAt H' p ws r L ∧ (ws.flatMap L ++ rest).Perm (usr n) ∧ DrawB H' d l i (b + 2 * ((n : Int) - rest.length))) (fun _ H' => many H' pl)
      ⟨⟨_, rfl⟩, .of_same s06, hpz6, usr n, fun _ => [], hpl6, ⟨hp6, fun a ha => s46 _ _ (em a ha).1⟩, ?_, (hD.mono s06).more (by rw [lu]; omega)⟩ ?_ ?_
    · have e : ws.flatMap (fun _ => ([] : List Int)) = [] := by
        generalize ws = l
        induction l with
        | nil => rfl
        | cons a l ih => rw [List.flatMap_cons, ih] <;> rfl
      rw [e]
      exact .refl _
    · rintro σ H7 ⟨⟨u6, rfl⟩, k7, hpz, rest, L, hpl, hL, pm, d7⟩
      have lens := pm.length_eq
      rw [List.length_append, lu] at lens
      refine ⟨_, rfl, by show 0 ≤ sizeLine; omega, fun e ne => ⟨_, _, .lst (SqL.of (by rw [upd_ne (ne_of_none hpl ne)]; exact hpl)) (dp_ints rest), .lst (SqL.of upd_same) .nil, (ints_shaped rest).2, rfl, ?_⟩⟩
      have se := same_new (o := .lst ([] : List V)) ne
      obtain ⟨H8, e8⟩ : ∃ X, X = upd H7 e (.lst []) := ⟨_, rfl⟩
      rw [← e8] at se ⊢
      have d8 := d7.mono se
      have k8 : KeepX [d, l] H H8 := k7.trans' (.of_same se)
      have hL8 := hL.mono se
      refine ⟨_, rfl, ite2 (fun tt => ?_) (fun tt => ?_)⟩
      · cases rest with
        | nil => cases tt
        | cons y rest =>
          rw [List.length_cons] at lens
          refine ⟨_, rfl, _, rfl, d, l, i, pz, _, ws.map V.str, rfl, d8, by rw [List.length_cons]; omega, se _ _ hpz, pzd.2.1, ?_, by rw [List.length_map]; omega, fun x H9 xm d9 k9 => ?_⟩
          · intro e
            have e := congrArg List.length e
            rw [List.length_map] at e
            have e : ws.length = 0 := e
            omega
          obtain ⟨a, ha, rfl⟩ := List.mem_map.mp xm
          have hL9 : LsAt H9 p ws r L := ⟨kx_at k9 hL8.1 pd.1 pd.2.1, fun c hc => kx_at k9 (hL8.2 c hc) (rd c hc).1 (rd c hc).2.1⟩
          have hpl9 := kx_at k9 (se _ _ hpl) pld.1 pld.2.1
          have hpz9 := kx_at k9 (se _ _ hpz) pzd.1 pzd.2.1
          refine ⟨_, rfl, _, rfl, p, _, rfl, hL9.get ha, .inl ⟨rfl, _, SqL.of (hL9.2 a ha)⟩, _, rfl, .inl ⟨rfl, _, SqL.of hpl9⟩, _, rfl, _, rfl, pl, _, rfl, .inl (SqL.of hpl9), d, l, i, _, _, rfl, d9, by rw [List.length_cons]; omega, ?_, ?_, fun z H10 z0 z1 d10 k10 => ?_⟩
          · rw [List.length_map, List.length_cons]
            omega
          · rw [List.length_map, List.length_cons, Int.natAbs_natCast]
            exact Nat.lt_of_le_of_lt (show rest.length + 1 ≤ 1000 by omega) (by decide)
          · rw [List.length_map] at z1
            have hL10 : LsAt H10 p ws r L := ⟨kx_at k10 hL9.1 pd.1 pd.2.1, fun c hc => kx_at k10 (hL9.2 c hc) (rd c hc).1 (rd c hc).2.1⟩
            have hpl10 := kx_at k10 hpl9 pld.1 pld.2.1
            have hpz10 := kx_at k10 hpz9 pzd.1 pzd.2.1
            have hi : z.toNat < (y :: rest).length := by omega
            have e0 : ((y :: rest).map V.int)[z.toNat]? = some (V.int (y :: rest)[z.toNat]) := by rw [List.getElem?_map, List.getElem?_eq_getElem hi] <;> rfl
            obtain ⟨sx, _, _, _⟩ := ixN_seq (ixN_nat (n := ((y :: rest).map V.int).length) (j := z.toNat) (by rw [List.length_map]; exact hi))
            rw [show ((z.toNat : Nat) : Int) = z by omega] at sx
            obtain ⟨f, ef⟩ : ∃ f, f = (y :: rest)[z.toNat] := ⟨_, rfl⟩
            have pe : ((y :: rest)[z.toNat] :: (y :: rest).eraseIdx z.toNat).Perm (y :: rest) := erase_perm _ _ hi
            rw [← ef] at e0 pe
            rw [List.length_cons] at z1
            have lpe := pe.length_eq
            rw [List.length_cons, List.length_cons] at lpe
            have wL : ((ws.map fun c => (L c).length).sum : Nat) ≤ n := by
              rw [← List.length_flatMap]
              omega
            have la : (L a).length ≤ n := by
              refine Nat.le_trans ?_ wL
              clear wL
              have key : ∀ l : List Str, a ∈ l → (L a).length ≤ (l.map fun c => (L c).length).sum := by
                intro l
                induction l with
                | nil => exact fun h => by cases h
                | cons c l ih =>
                  intro h
                  rw [List.map_cons, List.sum_cons]
                  rcases List.mem_cons.mp h with e | h
                  · rw [e]
                    omega
                  · have := ih h
                    omega
              exact key ws ha
            refine ⟨pl, _, z, z.toNat, _, rfl, rfl, hpl10, by omega, by omega, sx, e0, ?_⟩
            rw [map_erase]
            refine ⟨r a, _, _, rfl, rfl, by rw [upd_ne (rpl a ha).1]; exact hL10.2 a ha, ?_, ?_⟩
            · rw [List.length_map]
              omega
            obtain ⟨H11, e11⟩ : ∃ X, X = upd (upd H10 pl (.lst (((y :: rest).eraseIdx z.toNat).map V.int))) (r a) (.lst ((L a).map V.int ++ [V.int f])) := ⟨_, rfl⟩
            rw [← e11]
            have hpl11 : H11 pl = some (.lst (((y :: rest).eraseIdx z.toNat).map V.int)) := by rw [e11, upd_ne (rpl a ha).1.symm, upd_same]
            refine ⟨⟨⟨_, rfl⟩, ?_, ?_, (y :: rest).eraseIdx z.toNat, fun c => if c = a then L a ++ [f] else L c, hpl11, ⟨?_, fun c hc => ?_⟩, ?_, ?_⟩, ?_⟩
            · rw [e11]
              exact kx_put (kx_put ((k8.trans' k9).trans' k10) pl0) (em a ha).2.1
            · rw [e11, upd_ne (rpl a ha).2.1.symm, upd_ne plz.symm]
              exact hpz10
            · rw [e11, upd_ne (rpl a ha).2.2.symm, upd_ne ppl]
              exact hL10.1
            · show H11 (r c) = some (.lst ((if c = a then L a ++ [f] else L c).map V.int))
              by_cases w : c = a
              · rw [if_pos w, w, e11, upd_same, List.map_append] <;> rfl
              · rw [if_neg w, e11, upd_ne fun v => w (inj c hc a ha v), upd_ne (rpl c hc).1]
                exact hL10.2 c hc
            · have fa := flat_add (L := L) (L' := fun c => if c = a then L a ++ [f] else L c) (u := f) ndw ha (fun c w => if_neg w) (if_pos rfl)
              refine ((fa.append_right _).trans ?_).trans pm
              show ((f :: ws.flatMap L) ++ (y :: rest).eraseIdx z.toNat).Perm _
              exact (List.perm_middle.symm).trans ((List.Perm.refl _).append pe)
            · rw [e11]
              refine ((d10.off pld.1 pld.2.1 pld.2.2).off (rd a ha).1 (rd a ha).2.1 (rd a ha).2.2).more ?_
              rw [List.length_cons]
              omega
            · show many H11 pl < many H7 pl
              rw [many_at hpl11, many_at hpl, List.length_map, List.length_map, List.length_cons]
              omega
      · cases rest with
        | cons y rest => exact absurd rfl tt
        | nil =>
          rw [List.append_nil] at pm
          rw [ews] at hL8 pm
          refine ⟨_, rfl, k p ks r L H8 perm srt np0 hL8 pm (d8.more (by show b + 2 * ((n : Int) - 0) ≤ _; omega)) k8⟩
    · exact fun σ H Q Q' hm ⟨v, e, z, f⟩ => ⟨v, e, z, fun p np => let ⟨d1, d2, a1, a2, a3, a4, b, eb, q⟩ := f p np; ⟨d1, d2, a1, a2, a3, a4, b, eb, hm _ _ q⟩⟩
end
end FT


/-! paths as lists; whether every user goes straight -/
namespace FT
open PySem L2 TL ClX LiI
def rankL (t : List (Str × Str)) (rk : Str → Nat) (σ : St) : Nat := match σ[1]? with
  | some (some (V.str a)) => if a ∈ t.map Prod.fst then rk a + 1 else 0
  | _ => 0
def spPathL : Sp := fun vs H Q _ => ∃ (q : Addr) (a : Str) (t : List (Str × Str)), vs = [.ref q, .str a] ∧ Rd H q (.dK (prs t)) ∧ TreeOk t ∧ Pl t a ∧ ∀ p H', Same H H' → H p = none → H' p = some (.lst ((pathOf t a).reverse.map V.str)) → Q (.ref p) H'
def spDirect : Sp := fun vs H Q _ => ∃ (q b1 b2 so sf : Addr) (t : List (Str × Str)) (l1 l2 : List Str) (s1 s2 : Str → Int) (z1 z2 : List Str), vs = [.ref q, .ref b1, .ref b2, .ref so, .ref sf] ∧ H q = some (.dK (prs t)) ∧ TreeOk t ∧ H b1 = some (.lst (z1.map V.str)) ∧ H b2 = some (.lst (z2.map V.str)) ∧
  H so = some (.dK (tblI l1 s1)) ∧ H sf = some (.dK (tblI l2 s2)) ∧ (∀ a ∈ t.map Prod.fst, a ∈ l1 ∧ a ∈ l2) ∧ z1.length = z2.length ∧ (∀ (j : Nat) (p p' : Str), z1[j]? = some p → z2[j]? = some p' → Pl t p ∧ Pl t p' ∧ ∀ f, (f ∈ pathOf t p → f ∉ pathOf t p' → s2 f < s1 f) ∧ (f ∉ pathOf t p → f ∈ pathOf t p' → s1 f < s2 f)) ∧
  ∀ H', Same H H' → Q (.bl true) H'
section
variable {P : Program} {w : World} {K : PySem.W.Frag} {mg : Str → Option Value} {base : Heap}
abbrev NPl : List Str := ["_law_parents", "_law_place", "_law_found"]
theorem scPl : FnScope NPl ["_law_parents", "_law_place"] (defScope s__law_path) := ⟨rfl, rfl, rfl, by decide +kernel, rfl, by decide +kernel, by decide +kernel⟩
theorem ok_pathL {f : Addr} {fd : FuncData} (F : Fun K "_law_path" "_law_path" s__law_path f fd) : FnOk P w K mg base CX0 1 f fd ["_law_parents", "_law_place"] spPathL := by
  refine F.ok scPl (fun vs H Q E h => ?_) (fun cdv A outer s H vs Q E hr h => ?_)
  · obtain ⟨q, a, t, rfl, _⟩ := h
    rfl
  · obtain ⟨q, a, t, rfl, hq, o, pl, k⟩ := h
    have hu := hu_of hr
    obtain ⟨rk, r⟩ := o.up
    refine ⟨_, pss_cons (ps_set (i := 2) scPl.nd rfl (.inl rfl) (pe_lst pa_nil))
      (pss_cons (ps_while PassesOwn.never (pt_cmpR op_ne (pv 1) pe_str (nomark _))
        (pss_cons (ps_expr (pe_bm PySem.F.plainAttrs_list PySem.F.slot_list_append PySem.F.type_list_append mt_append (pv 2) (pa_cons (pv 1) pa_nil)))
        (pss_one (ps_set (i := 1) scPl.nd rfl (.inl rfl) (pe_dget hu (pv 0) (pv 1) (fun _ _ => rfl))))))
      (pss_one (ps_ret (pv 2)))), ?_⟩
    have big : 1000 ≤ sizeLine := by decide
    have few := o.few
    have rdm : ∀ {H'}, Same H H' → Rd H' q (.dK (prs t)) := fun s => hq.imp (s _ _) fun ⟨ob, e⟩ => ⟨ob, s _ _ e⟩
    refine ⟨by show 0 ≤ sizeLine; omega, fun p0 n0 => ?_⟩
    refine while_by (fun σ H' => ∃ (x : Str) (ws : List Str), σ = [some (.ref q), some (.str x), some (.ref p0)] ∧ Same H H' ∧ H' p0 = some (.lst (ws.map V.str)) ∧ Pl t x ∧ pathOf t a = pathOf t x ++ ws.reverse)
      (fun σ _ => rankL t rk σ) ⟨a, [], rfl, same_new n0, upd_same, pl, by rw [List.reverse_nil, List.append_nil]⟩ ?_ ?_
    · rintro σ H1 ⟨x, ws, rfl, s1, aw, px, epath⟩
      refine ⟨_, rfl, rfl, _, rfl, ?_⟩
      have lws : ws.length ≤ 12 := by
        have z := congrArg List.length epath
        rw [List.length_append, List.length_reverse] at z
        have := path_len t a
        omega
      by_cases e : x = ""
      · rw [decide_eq_true (show V.str x = V.str "" by rw [e])]
        refine iteF ?_
        rw [e, path_root, List.nil_append] at epath
        exact ⟨_, rfl, k p0 H1 s1 n0 (by rw [epath, List.reverse_reverse]; exact aw)⟩
      · rw [decide_eq_false (show ¬ V.str x = V.str "" from fun z => e (V.str.inj z))]
        show if true = true then _ else _
        rw [if_pos rfl]
        have mx := px.resolve_left e
        obtain ⟨pa, ep, hpa, lx⟩ := o.step r mx
        refine ⟨_, rfl, .inl ⟨rfl, _, SqL.of aw⟩, _, rfl, p0, _, _, rfl, rfl, aw, by rw [List.length_map]; omega, ?_⟩
        obtain ⟨H2, e2⟩ : ∃ X, X = upd H1 p0 (.lst (ws.map V.str ++ [V.str x])) := ⟨_, rfl⟩
        have s2 : Same H H2 := e2 ▸ s1.put n0
        rw [← e2]
        have dg : DGet H2 q (.str x) (some (.str pa)) := .inl ⟨_, Sum.inr x, rdm s2, rfl, by rw [val_prs, ep] <;> rfl⟩
        refine ⟨_, rfl, _, rfl, q, .str pa, rfl, dg, ⟨pa, ws ++ [x], rfl, s2, by rw [e2, upd_same, List.map_append] <;> rfl, hpa.imp id And.left, by rw [epath, path_step o mx ep, List.reverse_append, List.append_assoc] <;> rfl⟩, ?_⟩
        show (if pa ∈ t.map Prod.fst then rk pa + 1 else 0) < (if x ∈ t.map Prod.fst then rk x + 1 else 0)
        rw [if_pos mx]
        split
        · rename_i m
          have := (hpa.resolve_left fun z => o.root (by rw [← z]; exact m)).2
          omega
        · omega
    · exact fun σ H Q Q' hm ⟨v, e, z, b, eb, q⟩ => ⟨v, e, z, b, eb, hm _ _ q⟩
abbrev NDi : List Str := ["_law_parents", "_law_before", "_law_after", "_law_old", "_law_fresh", "_law_place", "_law_goal", "_law_one", "_law_other", "_law_name"]
theorem scDi : FnScope NDi ["_law_parents", "_law_before", "_law_after", "_law_old", "_law_fresh"] (defScope s__law_is_direct) := ⟨rfl, rfl, rfl, by decide +kernel, rfl, by decide +kernel, by decide +kernel⟩
theorem ok_direct {f fP : Addr} {fd fdP : FuncData} (F : Fun K "_law_is_direct" "_law_is_direct" s__law_is_direct f fd) (T : Nm mg) (DP : Dn P w K mg base CX0 1 "_law_path" ["_law_parents", "_law_place"] spPathL fP fdP) : FnOk P w K mg base CX0 2 f fd ["_law_parents", "_law_before", "_law_after", "_law_old", "_law_fresh"] spDirect := by
  refine F.ok scDi (fun vs H Q E h => ?_) (fun cdv A outer s H vs Q E hr h => ?_)
  · obtain ⟨q, b1, b2, so, sf, t, l1, l2, s1, s2, z1, z2, rfl, _⟩ := h
    rfl
  · obtain ⟨q, b1, b2, so, sf, t, l1, l2, s1, s2, z1, z2, rfl, hq, o, hb1, hb2, hso, hsf, sub, ll, way, k⟩ := h
    have hu := hu_of hr
    have nd := scDi.nd
    have big : 1000 ≤ sizeLine := by decide
    have few := o.few
    refine ⟨_, pss_cons (ps_for PassesOwn.never rfl (pi_zip (by rfl) T.zip (pa_cons (pv 1) (pa_cons (pv 2) pa_nil))) (pg_tup rfl (pgs_cons (pg_name (i := 5) nd rfl (.inl rfl)) (pgs_cons (pg_name (i := 6) nd rfl (.inl rfl)) pgs_nil)))
        (pss_cons (ps_asg (pe_tup (pa_cons (pe_call DP.ok hr rfl DP.mgn DP.kp DP.bn .nil pass0 (pa_cons (pv 0) (pa_cons (pv 5) pa_nil))) (pa_cons (pe_call DP.ok hr rfl DP.mgn DP.kp DP.bn .nil pass0 (pa_cons (pv 0) (pa_cons (pv 6) pa_nil))) pa_nil)))
          (pg_tup rfl (pgs_cons (pg_name (i := 7) nd rfl (.inr rfl)) (pgs_cons (pg_name (i := 8) nd rfl (.inr rfl)) pgs_nil))))
        (pss_cons (ps_if (pt_cmpR (op_neD hr.units) (pe_lc (own := [("_law_name", 9)]) (g := gName 9) (tt := tAnd (tTest (tOp (rIn K true) (tVar 9) (tVar 8))) (tTest (tOp (rI0 fun i j => .bl (decide (i ≥ j))) (tDGet (tVar 4) (tVar 9)) (tDGet (tVar 3) (tVar 9))))) (te := tVar 9) rfl nd (pi_list (pv 7)) (blkOk_by (N := NDi) (sc := defScope s__law_is_direct) (by decide +kernel))
            (fun _ _ _ _ _ => pg_name (i := 9) nd rfl (Or.inl rfl)) (fun _ _ _ _ _ => pts_one (PW.pt (pw_and (pt_cmpR op_notIn_seq (pv 9) (pv 8) rfl) (pw_and1 (pt_cmpR op_ge (pe_dget hu (pv 4) (pv 9) (fun _ _ => rfl)) (pe_dget hu (pv 3) (pv 9) (fun _ _ => rfl)) (nomark _)))))) (fun _ _ _ _ _ => pv 9)) (pe_lst pa_nil) (nomark _)) (pss_one (ps_ret pe_bl)) pss_nil)
        (pss_one (ps_if (pt_cmpR (op_neD hr.units) (pe_lc (own := [("_law_name", 9)]) (g := gName 9) (tt := tAnd (tTest (tOp (rIn K true) (tVar 9) (tVar 7))) (tTest (tOp (rI0 fun i j => .bl (decide (i ≤ j))) (tDGet (tVar 4) (tVar 9)) (tDGet (tVar 3) (tVar 9))))) (te := tVar 9) rfl nd (pi_list (pv 8)) (blkOk_by (N := NDi) (sc := defScope s__law_is_direct) (by decide +kernel))
            (fun _ _ _ _ _ => pg_name (i := 9) nd rfl (Or.inl rfl)) (fun _ _ _ _ _ => pts_one (PW.pt (pw_and (pt_cmpR op_notIn_seq (pv 9) (pv 7) rfl) (pw_and1 (pt_cmpR op_le (pe_dget hu (pv 4) (pv 9) (fun _ _ => rfl)) (pe_dget hu (pv 3) (pv 9) (fun _ _ => rfl)) (nomark _)))))) (fun _ _ _ _ _ => pv 9)) (pe_lst pa_nil) (nomark _)) (pss_one (ps_ret pe_bl)) pss_nil)))))
      (pss_one (ps_ret pe_bl)), ?_⟩
    refine ⟨_, rfl, _, rfl, b1, b2, z1.map V.str, z2.map V.str, rfl, SqL.of hb1, SqL.of hb2, ?_⟩
    refine for_it (walk_zip rfl) (fun j σ' H' => (∃ u5 u6 u7 u8 u9, σ' = [some (.ref q), some (.ref b1), some (.ref b2), some (.ref so), some (.ref sf), u5, u6, u7, u8, u9]) ∧ Same H H') ⟨⟨_, _, _, _, _, rfl⟩, Same.refl⟩ (fun j σ' H' _ z => ⟨SqL.of (z.2 _ _ hb1), SqL.of (z.2 _ _ hb2)⟩) ?_ ?_
    · intro j TT σ' Ha Hb hj ⟨⟨u5, u6, u7, u8, u9, eσ⟩, sa⟩ ⟨T', x, y, eT, nT, eH, ex, ey⟩
      subst eσ
      subst eT
      subst eH
      obtain ⟨p, hp, rfl⟩ := map_of (f := V.str) (l := z1) ex
      obtain ⟨p', hp', rfl⟩ := map_of (f := V.str) (l := z2) ey
      obtain ⟨pp, pp', wy⟩ := way j p p' hp hp'
      have sT : Same Ha (upd Ha T' (.tup [.str p, .str p'])) := same_new nT
      refine ⟨T', _, rfl, .inl (.inl upd_same), rfl, _, _, rfl, _, _, rfl, rfl, ?_⟩
      have S0 : Same H (upd Ha T' (.tup [.str p, .str p'])) := sa.trans sT
      refine ⟨_, rfl, _, rfl, q, p, t, rfl, .inl (S0 _ _ hq), o, pp, fun p1 H1 s1' n1 h1 => ?_⟩
      refine ⟨_, rfl, _, rfl, q, p', t, rfl, .inl (s1' _ _ (S0 _ _ hq)), o, pp', fun p2 H1b s2' n2 h2 => ?_⟩
      refine ⟨by show 2 ≤ sizeLine; omega, fun tp ntp => ⟨tp, _, rfl, .inl (.inl upd_same), rfl, _, _, rfl, _, _, rfl, rfl, ?_⟩⟩
      obtain ⟨H2, e2⟩ : ∃ X, X = upd H1b tp (.tup [.ref p1, .ref p2]) := ⟨_, rfl⟩
      have st : Same H1b H2 := e2 ▸ same_new ntp
      have S2 : Same H H2 := ((S0.trans s1').trans s2').trans st
      have h1 : H2 p1 = some (.lst ((pathOf t p).reverse.map V.str)) := st _ _ (s2' _ _ h1)
      have h2 : H2 p2 = some (.lst ((pathOf t p').reverse.map V.str)) := st _ _ h2
      rw [← e2]
      refine ⟨_, rfl, p1, rfl, ⟨_, SqL.of h1⟩, fun D3 nD3 => ?_⟩
      refine lc_it walk_list (fun _ H' => Same H2 H' ∧ H' D3 = some (.lst [])) ⟨same_new nD3, upd_same⟩ (fun _ H' _ z => SqL.of (z.1 _ _ h1)) ?_ ?_
      · intro i y Hz Ha hi ⟨q1, q2⟩ ⟨eb, ex⟩
        subst eb
        obtain ⟨f, hf, rfl⟩ := map_of ex
        have mf := List.mem_reverse.mp (List.mem_of_getElem? hf)
        have mt := path_all o pp f mf
        have dg2 : DGet Ha sf (.str f) (some (.int (s2 f))) := by
          have z := DGet.k (k := Sum.inr f) (q1 _ _ (S2 _ _ hsf))
          rw [tblI_val (sub f mt).2] at z
          exact z
        have dg1 : DGet Ha so (.str f) (some (.int (s1 f))) := by
          have z := DGet.k (k := Sum.inr f) (q1 _ _ (S2 _ _ hso))
          rw [tblI_val (sub f mt).1] at z
          exact z
        refine ⟨rfl, ?_⟩
        refine ⟨_, rfl, _, rfl, p2, _, rfl, .inl (SqL.of (q1 _ _ h2)), rfl, flat_strs _, _, rfl, ?_⟩
        rw [show (if true = true then !inV (V.str f) ((pathOf t p').reverse.map V.str) else inV (V.str f) ((pathOf t p').reverse.map V.str)) = !decide (f ∈ (pathOf t p').reverse) from congrArg (!·) (inV_strs f _)]
        refine ite2 (fun yes => ?_) (fun no => iteF ⟨q1, q2⟩)
        have nf : f ∉ pathOf t p' := fun m => by
          rw [decide_eq_true (List.mem_reverse.mpr m)] at yes
          cases yes
        refine ⟨_, rfl, _, rfl, sf, _, rfl, dg2, _, rfl, _, rfl, so, _, rfl, dg1, _, _, rfl, rfl, _, rfl, ?_⟩
        have lt := (wy f).1 mf nf
        rw [decide_eq_false (by omega)]
        exact iteF ⟨q1, q2⟩
      intro H3 ⟨sD3, hD3⟩
      refine ⟨by show 0 ≤ sizeLine; omega, fun e3 ne3 => ⟨_, _, .lst (SqL.of (by rw [upd_ne (ne_of_none hD3 ne3)]; exact hD3)) .nil, .lst (SqL.of upd_same) .nil, rfl, rfl, ?_⟩⟩
      refine ⟨_, rfl, iteF ?_⟩
      have S32 : Same H2 (upd H3 e3 (.lst [])) := sD3.trans (same_new ne3)
      have S3 := S2.trans S32
      refine ⟨_, rfl, p2, rfl, ⟨_, SqL.of (S32 _ _ h2)⟩, fun D4 nD4 => ?_⟩
      refine lc_it walk_list (fun _ H' => Same (upd H3 e3 (.lst [])) H' ∧ H' D4 = some (.lst [])) ⟨same_new nD4, upd_same⟩ (fun _ H' _ z => SqL.of (z.1 _ _ (S32 _ _ h2))) ?_ ?_
      · intro i y Hz Ha hi ⟨q1, q2⟩ ⟨eb, ex⟩
        subst eb
        obtain ⟨f, hf, rfl⟩ := map_of ex
        have mf := List.mem_reverse.mp (List.mem_of_getElem? hf)
        have mt := path_all o pp' f mf
        have dg2 : DGet Ha sf (.str f) (some (.int (s2 f))) := by
          have z := DGet.k (k := Sum.inr f) (q1 _ _ (S3 _ _ hsf))
          rw [tblI_val (sub f mt).2] at z
          exact z
        have dg1 : DGet Ha so (.str f) (some (.int (s1 f))) := by
          have z := DGet.k (k := Sum.inr f) (q1 _ _ (S3 _ _ hso))
          rw [tblI_val (sub f mt).1] at z
          exact z
        refine ⟨rfl, ?_⟩
        refine ⟨_, rfl, _, rfl, p1, _, rfl, .inl (SqL.of (q1 _ _ (S32 _ _ h1))), rfl, flat_strs _, _, rfl, ?_⟩
        rw [show (if true = true then !inV (V.str f) ((pathOf t p).reverse.map V.str) else inV (V.str f) ((pathOf t p).reverse.map V.str)) = !decide (f ∈ (pathOf t p).reverse) from congrArg (!·) (inV_strs f _)]
        refine ite2 (fun yes => ?_) (fun no => iteF ⟨q1, q2⟩)
        have nf : f ∉ pathOf t p := fun m => by
          rw [decide_eq_true (List.mem_reverse.mpr m)] at yes
          cases yes
        refine ⟨_, rfl, _, rfl, sf, _, rfl, dg2, _, rfl, _, rfl, so, _, rfl, dg1, _, _, rfl, rfl, _, rfl, ?_⟩
        have lt := (wy f).2 nf mf
        rw [decide_eq_false (by omega)]
        exact iteF ⟨q1, q2⟩
      intro H4 ⟨sD4, hD4⟩
      refine ⟨by show 0 ≤ sizeLine; omega, fun e4 ne4 => ⟨_, _, .lst (SqL.of (by rw [upd_ne (ne_of_none hD4 ne4)]; exact hD4)) .nil, .lst (SqL.of upd_same) .nil, rfl, rfl, ?_⟩⟩
      refine ⟨_, rfl, iteF ?_⟩
      exact ⟨⟨_, _, _, _, _, rfl⟩, S3.trans (sD4.trans (same_new ne4))⟩
    · intro σ' H5 ⟨⟨u5, u6, u7, u8, u9, eσ⟩, sa⟩
      subst eσ
      exact k H5 sa
end
end FT


/-! a dict turned about -/
namespace FT
open PySem L2 TL ClX LiI
theorem pair_app {α β : Type} {F : α → β → Prop} : ∀ {xs xs' : List α} {ys ys' : List β}, Paired F xs ys → Paired F xs' ys' → Paired F (xs ++ xs') (ys ++ ys')
  | _, _, _, _, .nil, q => q
  | _, _, _, _, .cons h t, q => .cons h (pair_app t q)
theorem pair_rev {α β : Type} {F : α → β → Prop} : ∀ {xs : List α} {ys : List β}, Paired F xs ys → Paired F xs.reverse ys.reverse
  | _, _, .nil => .nil
  | _, _, .cons h t => by
    rw [List.reverse_cons, List.reverse_cons]
    exact pair_app (pair_rev t) (.cons h .nil)
theorem pair_imp {α β : Type} {F G : α → β → Prop} (m : ∀ x y, F x y → G x y) : ∀ {xs : List α} {ys : List β}, Paired F xs ys → Paired G xs ys
  | _, _, .nil => .nil
  | _, _, .cons h t => .cons (m _ _ h) (pair_imp m t)
theorem tblI_rev (l : List Str) (s : Str → Int) : (tblI l s).reverse = tblI l.reverse s := by
  rw [tblV_int, tblV_int]
  unfold tblV kvT
  rw [← List.map_reverse, ← List.map_reverse]
def spFlip : Sp := fun vs H Q _ => ∃ (q : Addr) (l : List Str) (s : Str → Int), vs = [.ref q] ∧ H q = some (.dK (tblI l s)) ∧ l.Nodup ∧ l.length ≤ 64 ∧ ∀ (p : Addr) (H' : Hp), Same H H' → H p = none → H' p = some (.dK (tblI l.reverse s)) → Q (.ref p) H'
section
variable {P : Program} {w : World} {K : PySem.W.Frag} {mg : Str → Option Value} {base : Heap}
theorem scFl : FnScope ["_law_some"] ["_law_some"] (defScope s__law_flipped) := ⟨rfl, rfl, rfl, by decide +kernel, rfl, by decide +kernel, by decide +kernel⟩
theorem ok_flipped {f : Addr} {fd : FuncData} (F : Fun K "_law_flipped" "_law_flipped" s__law_flipped f fd) (T : Nm mg) : FnOk P w K mg base CX0 1 f fd ["_law_some"] spFlip := by
  refine F.ok scFl (fun vs H Q E h => ?_) (fun cdv A outer s H vs Q E hr h => ?_)
  · obtain ⟨q, l, sz, rfl, _⟩ := h
    rfl
  · obtain ⟨q, l, sz, rfl, hq, nd, few, k⟩ := h
    have hu := hu_of hr
    have big : 1000 ≤ sizeLine := by decide
    refine ⟨_, pss_one (ps_ret (pe_callTy (call_dictP rfl) (by rfl) T.dct (by decide +kernel) (pa_cons (pe_revL (pe_listItems rfl (pv 0) (by rfl) T.lst (by decide +kernel))) pa_nil))), ?_⟩
    refine ⟨_, rfl, q, _, rfl, hq, fun H1 p1 ts s1 np1 nts pts hp1 prd => ⟨p1, _, rfl, SqL.of hp1, fun p2 np2 => ?_⟩⟩
    have s2 := same_new (o := .lst (ts.map V.ref).reverse) np2
    have s12 : Same H (upd H1 p2 (.lst (ts.map V.ref).reverse)) := Same.trans (fun b o e => s1 b o e) s2
    refine ⟨p2, ts.reverse, (tblI l sz).reverse, rfl, SqL.of (by rw [upd_same, List.map_reverse]), pair_imp (fun t kv e => .inl (.inl (s2 _ _ e))) (pair_rev prd), fun p3 np3 => ?_⟩
    rw [tblI_rev, tblV_int]
    unfold tblV
    rw [merge_nd (by rw [map_fst]; exact (List.reverse_perm l).nodup_iff.mpr nd)]
    exact k p3 _ (s12.trans (same_new np3)) (s12.free np3) upd_same
end
end FT


/-! there and back (plain maths) -/
namespace FT
open PySem L2 TL ClX LiI
theorem lv_congr {ts : List (Str × Str)} {c c' : Str → Int} (h : ∀ a ∈ ts.map Prod.fst, c a = c' a) (p q : Str) : lv ts c p q = lv ts c' p q := by
  unfold lv
  by_cases h1 : par ts q = some p
  · rw [h q (par_flag h1)]
    by_cases h2 : par ts p = some q
    · rw [h p (par_flag h2)]
    · simp [h2]
  · by_cases h2 : par ts p = some q
    · rw [h p (par_flag h2)]
      simp [h1]
    · simp [h1, h2]
theorem Moved.congr {ts : List (Str × Str)} {c c' : Str → Int} {L L' : Str → List Int} (h : ∀ a ∈ ts.map Prod.fst, c a = c' a) (m : Moved ts c L L') : Moved ts c' L L' := by
  obtain ⟨G, g1, g2⟩ := m
  exact ⟨G, fun p hp o ho => by rw [← lv_congr h]; exact g1 p hp o ho, g2⟩
/-- sizes and lists that fit each other -/
structure Pt (ts : List (Str × Str)) (n : Nat) (s : Str → Int) (L : Str → List Int) : Prop where
  v : Val ts n L
  fe : Fea ts n s
  sz : ∀ a ∈ ts.map Prod.fst, lsz ts L a = s a
def Stp (ts : List (Str × Str)) (s : Str → Int) (L : Str → List Int) (s' : Str → Int) (L' : Str → List Int) : Prop := Moved ts (fun a => s' a - s a) L L'
def tog (ts : List (Str × Str)) (s s' : Str → Int) : Int := ((ts.map Prod.fst).map fun a => absI (s' a - s a)).sum
theorem absI_neg (z : Int) : absI (-z) = absI z := by
  unfold absI
  split <;> split <;> omega
theorem tog_back (ts : List (Str × Str)) (s s' : Str → Int) : tog ts s' s = tog ts s s' := by
  unfold tog
  congr 1
  refine List.map_congr_left fun a _ => ?_
  rw [← absI_neg, show -(s a - s' a) = s' a - s a by omega]
theorem chg_flag {ts : List (Str × Str)} {n : Nat} {s s' : Str → Int} {L : Str → List Int} {lo : List Str} (P : Pt ts n s L) (pl : lo.Perm (ts.map Prod.fst)) : ∀ a ∈ ts.map Prod.fst, chg ts L (tblI lo s') a = s' a - s a := fun a ha => by
  unfold chg
  rw [szOf_tblI (pl.mem_iff.mpr ha), P.sz a ha]
theorem tog_chg {ts : List (Str × Str)} {n : Nat} {s s' : Str → Int} {L : Str → List Int} {lo : List Str} (P : Pt ts n s L) (pl : lo.Perm (ts.map Prod.fst)) : ((ts.map Prod.fst).map fun a => absI (chg ts L (tblI lo s') a)).sum = tog ts s s' := by
  unfold tog
  congr 1
  exact List.map_congr_left fun a ha => by rw [chg_flag P pl a ha]
theorem pt_step {ts : List (Str × Str)} (o : TreeOk ts) {n : Nat} {s s' : Str → Int} {L L' : Str → List Int} {lo : List Str} (P : Pt ts n s L) (f : Fea ts n s') (pl : lo.Perm (ts.map Prod.fst)) (m : Moved ts (chg ts L (tblI lo s')) L L') : Pt ts n s' L' ∧ Stp ts s L s' L' := by
  have m' : Moved ts (fun a => s' a - s a) L L' := m.congr (chg_flag P pl)
  refine ⟨⟨moved_val o m P.v, f, fun a ha => ?_⟩, m'⟩
  have e := lens_lsz o (moved_lens o m' (lsz_lens o (val_len P.v))) ha
  rw [e]
  show lsz ts L a + (s' a - s a) = s' a
  rw [P.sz a ha]
  omega
theorem pt_back {ts : List (Str × Str)} (o : TreeOk ts) {n : Nat} {s s' : Str → Int} {L L' B : Str → List Int} {lo : List Str} (P' : Pt ts n s' L') (st : Stp ts s L s' L') (pl : lo.Perm (ts.map Prod.fst)) (m : Moved ts (chg ts L' (tblI lo s)) L' B) : ∀ p ∈ pls ts, B p = L p := fun p hp => by
  have m' : Moved ts (fun a => s a - s' a) L' B := m.congr (chg_flag P' pl)
  exact there_back o (c := fun a => s' a - s a) (d := fun a => s a - s' a) (fun x => by omega) st m' p (mem_pls.mp hp)
theorem pt_direct {ts t : List (Str × Str)} (o : TreeOk ts) (pt : ts.Perm t) {n : Nat} {s s' : Str → Int} {L L' : Str → List Int} (P : Pt ts n s L) (P' : Pt ts n s' L') (st : Stp ts s L s' L') {j : Nat} {p p' : Str} (hp : ((usr n).map (plOf ts L))[j]? = some p) (hp' : ((usr n).map (plOf ts L'))[j]? = some p') :
    Pl t p ∧ Pl t p' ∧ ∀ f, (f ∈ pathOf t p → f ∉ pathOf t p' → s' f < s f) ∧ (f ∉ pathOf t p → f ∈ pathOf t p' → s f < s' f) := by
  rw [List.getElem?_map] at hp hp'
  obtain ⟨u, hu, rfl⟩ := Option.map_eq_some_iff.mp hp
  rw [hu] at hp'
  have hp' : plOf ts L' u = p' := Option.some.inj hp'
  subst hp'
  obtain ⟨u0, u1⟩ := mem_usr.mp (List.mem_of_getElem? hu)
  obtain ⟨a1, a2⟩ := plOf_at P.v u0 u1
  obtain ⟨b1, b2⟩ := plOf_at P'.v u0 u1
  have pk : ∀ {q}, Pl ts q → Pl t q := fun h => h.imp id fun m => (pt.map Prod.fst).mem_iff.mp m
  obtain ⟨q, hq, uq, rc⟩ := moved_rc o st b1 b2
  have eq : q = plOf ts L u := (plOf_of P.v hq uq).symm
  subst eq
  refine ⟨pk a1, pk b1, fun f => ?_⟩
  rw [← path_perm o.nd pt, ← path_perm o.nd pt]
  obtain ⟨r1, r2⟩ := rc_dir o rc f
  refine ⟨fun x y => ?_, fun x y => ?_⟩
  · have := r1 x y
    omega
  · have := r2 x y
    omega
end FT


/-! the rows that a law keeps of a rollout -/
namespace FT
open PySem L2 TL ClX LiI
theorem KeepX.sub {A B : List Addr} {H H' : Hp} (h : ∀ b ∈ A, b ∈ B) (k : KeepX A H H') : KeepX B H H' := fun b u n e => k b u (fun m => n (h b m)) e
theorem RollAt.more {CF CR : Addr} {Ex : List Addr} {H : Hp} {y z x a : Addr} {ts : List (Str × Str)} {L : Str → List Int} {ps : List (Str → Int)} (n : H a = none) (h : RollAt CF CR Ex H y z x ts L ps) : RollAt CF CR (a :: Ex) H y z x ts L ps := by
  obtain ⟨dy, q, dx, dq, r, rs, h1, h2, h3, h4, h5, h6, h7, h8⟩ := h
  have key : ∀ {b u}, b ∉ Ex → H b = some u → b ∉ a :: Ex := fun {b u} nb e m => (List.mem_cons.mp m).elim (fun z => by rw [z, n] at e; cases e) nb
  have prs' : ∀ {rs' : List Addr} {ps' : List (Str → Int)}, PsAt H ts rs' ps' → ∀ b ∈ rs', ∃ u, H b = some u := by
    intro rs' ps' p
    induction p with
    | nil => exact fun b hb => by cases hb
    | cons e _ ih => exact fun b hb => (List.mem_cons.mp hb).elim (fun z => ⟨_, z ▸ e⟩) fun m => ih b m
  refine ⟨dy, q, dx, dq, r, rs, h1, h2, h3, h4, h5, h6, fun b hb => ?_, fun p hp => key (h8 p hp) (h2.2 p hp)⟩
  have nb := h7 b hb
  simp only [List.mem_cons] at hb
  rcases hb with rfl | rfl | rfl | rfl | rfl | hb
  · exact key nb h1
  · exact key nb h3
  · exact key nb h2.1
  · exact key nb h5
  · exact key nb h6
  · obtain ⟨u, e⟩ := prs' h4 b hb
    exact key nb e
/-- the rows of sizes, of lists, of numbers -/
structure Trk (H : Hp) (Z : List Addr) (ar ap an : Addr) (rsS rsP : List Addr) (ts : List (Str × Str)) (ss : List (Str → Int)) (Ls : List (Str → List Int)) (ns : List Int) : Prop where
  hr : H ar = some (.lst (rsS.map V.ref))
  hp : H ap = some (.lst (rsP.map V.ref))
  hn : H an = some (.lst (ns.map V.int))
  off : ar ∉ Z ∧ ap ∉ Z ∧ an ∉ Z
  ne : ar ≠ ap ∧ ar ≠ an ∧ ap ≠ an
  sz : Paired (fun (a : Addr) (s : Str → Int) => a ∉ ar :: ap :: an :: Z ∧ ∃ lo : List Str, lo.Perm (ts.map Prod.fst) ∧ H a = some (.dK (tblI lo s))) rsS ss
  pt : Paired (fun (a : Addr) (L : Str → List Int) => a ∉ ar :: ap :: an :: Z ∧ ∃ r : Str → Addr, LsAt H a (pls ts) r L ∧ ∀ p ∈ pls ts, r p ∉ ar :: ap :: an :: Z) rsP Ls
section
variable {H H' : Hp} {Z : List Addr} {ar ap an a : Addr} {rsS rsP : List Addr} {ts : List (Str × Str)} {ss : List (Str → Int)} {Ls : List (Str → List Int)} {ns : List Int}
theorem Trk.cells (k : ∀ b u, b ∉ ar :: ap :: an :: Z → H b = some u → H' b = some u) (t : Trk H Z ar ap an rsS rsP ts ss Ls ns) :
    Paired (fun (a : Addr) (s : Str → Int) => a ∉ ar :: ap :: an :: Z ∧ ∃ lo : List Str, lo.Perm (ts.map Prod.fst) ∧ H' a = some (.dK (tblI lo s))) rsS ss ∧
    Paired (fun (a : Addr) (L : Str → List Int) => a ∉ ar :: ap :: an :: Z ∧ ∃ r : Str → Addr, LsAt H' a (pls ts) r L ∧ ∀ p ∈ pls ts, r p ∉ ar :: ap :: an :: Z) rsP Ls :=
  ⟨pair_imp (fun a s ⟨n, lo, p, e⟩ => ⟨n, lo, p, k _ _ n e⟩) t.sz, pair_imp (fun a L ⟨n, r, e, f⟩ => ⟨n, r, ⟨k _ _ n e.1, fun p hp => k _ _ (f p hp) (e.2 p hp)⟩, f⟩) t.pt⟩
theorem Trk.keep (k : KeepX Z H H') (t : Trk H Z ar ap an rsS rsP ts ss Ls ns) : Trk H' Z ar ap an rsS rsP ts ss Ls ns := by
  obtain ⟨c1, c2⟩ := t.cells (H' := H') fun b u n e => k b u (fun m => n (List.mem_cons_of_mem _ (List.mem_cons_of_mem _ (List.mem_cons_of_mem _ m)))) e
  exact ⟨k _ _ t.off.1 t.hr, k _ _ t.off.2.1 t.hp, k _ _ t.off.2.2 t.hn, t.off, t.ne, c1, c2⟩
theorem Trk.addS {s : Str → Int} {lo : List Str} (t : Trk H Z ar ap an rsS rsP ts ss Ls ns) (n : a ∉ ar :: ap :: an :: Z) (p : lo.Perm (ts.map Prod.fst)) (e : H a = some (.dK (tblI lo s))) : Trk (upd H ar (.lst (rsS.map V.ref ++ [V.ref a]))) Z ar ap an (rsS ++ [a]) rsP ts (ss ++ [s]) Ls ns := by
  have k : ∀ b u, b ∉ ar :: ap :: an :: Z → H b = some u → (upd H ar (.lst (rsS.map V.ref ++ [V.ref a]))) b = some u := fun b u n e => by
    rw [upd_ne fun z => n (by rw [z]; exact List.mem_cons_self ..)]
    exact e
  obtain ⟨c1, c2⟩ := t.cells k
  exact ⟨by rw [upd_same, List.map_append] <;> rfl, by rw [upd_ne t.ne.1.symm]; exact t.hp, by rw [upd_ne t.ne.2.1.symm]; exact t.hn, t.off, t.ne, pair_app c1 (.cons ⟨n, lo, p, k _ _ n e⟩ .nil), c2⟩
theorem Trk.addP {L : Str → List Int} {r : Str → Addr} (t : Trk H Z ar ap an rsS rsP ts ss Ls ns) (n : a ∉ ar :: ap :: an :: Z) (nr : ∀ p ∈ pls ts, r p ∉ ar :: ap :: an :: Z) (e : LsAt H a (pls ts) r L) : Trk (upd H ap (.lst (rsP.map V.ref ++ [V.ref a]))) Z ar ap an rsS (rsP ++ [a]) ts ss (Ls ++ [L]) ns := by
  have k : ∀ b u, b ∉ ar :: ap :: an :: Z → H b = some u → (upd H ap (.lst (rsP.map V.ref ++ [V.ref a]))) b = some u := fun b u n e => by
    rw [upd_ne fun z => n (by rw [z]; simp)]
    exact e
  obtain ⟨c1, c2⟩ := t.cells k
  exact ⟨by rw [upd_ne t.ne.1]; exact t.hr, by rw [upd_same, List.map_append] <;> rfl, by rw [upd_ne t.ne.2.2.symm]; exact t.hn, t.off, t.ne, c1, pair_app c2 (.cons ⟨n, r, ⟨k _ _ n e.1, fun p hp => k _ _ (nr p hp) (e.2 p hp)⟩, nr⟩ .nil)⟩
theorem Trk.addN {z : Int} (t : Trk H Z ar ap an rsS rsP ts ss Ls ns) : Trk (upd H an (.lst (ns.map V.int ++ [V.int z]))) Z ar ap an rsS rsP ts ss Ls (ns ++ [z]) := by
  have k : ∀ b u, b ∉ ar :: ap :: an :: Z → H b = some u → (upd H an (.lst (ns.map V.int ++ [V.int z]))) b = some u := fun b u n e => by
    rw [upd_ne fun z => n (by rw [z]; simp)]
    exact e
  obtain ⟨c1, c2⟩ := t.cells k
  exact ⟨by rw [upd_ne t.ne.2.1]; exact t.hr, by rw [upd_ne t.ne.2.2]; exact t.hp, by rw [upd_same, List.map_append] <;> rfl, t.off, t.ne, c1, c2⟩
theorem pair_len {α β : Type} {F : α → β → Prop} : ∀ {xs : List α} {ys : List β}, Paired F xs ys → xs.length = ys.length
  | _, _, .nil => rfl
  | _, _, .cons _ t => congrArg (· + 1) (pair_len t)
theorem pair_at {α β : Type} {F : α → β → Prop} {xs : List α} {ys : List β} (p : Paired F xs ys) : ∀ {i : Nat} {y : β}, ys[i]? = some y → ∃ x, xs[i]? = some x ∧ F x y := by
  induction p with
  | nil => exact fun h => by cases h
  | cons r _ ih =>
    intro i y h
    cases i with
    | zero =>
      cases Option.some.inj h
      exact ⟨_, rfl, r⟩
    | succ i =>
      obtain ⟨x, e, f⟩ := ih (i := i) (y := y) h
      exact ⟨x, e, f⟩
end
/-- the points of a row, one behind the other -/
structure Chn (ts : List (Str × Str)) (n : Nat) (ss : List (Str → Int)) (Ls : List (Str → List Int)) (ns : List Int) : Prop where
  l1 : ss.length = ns.length + 1
  l2 : Ls.length = ns.length + 1
  pt : ∀ (i : Nat) (s : Str → Int) (L : Str → List Int), ss[i]? = some s → Ls[i]? = some L → Pt ts n s L
  st : ∀ (i : Nat) (s : Str → Int) (L : Str → List Int) (s' : Str → Int) (L' : Str → List Int), ss[i]? = some s → Ls[i]? = some L → ss[i + 1]? = some s' → Ls[i + 1]? = some L' → Stp ts s L s' L' ∧ ns[i]? = some (tog ts s s')
theorem Chn.one {ts : List (Str × Str)} {n : Nat} {s : Str → Int} {L : Str → List Int} (p : Pt ts n s L) : Chn ts n [s] [L] [] := by
  refine ⟨rfl, rfl, fun i s' L' h1 h2 => ?_, fun i s1 L1 s' L' _ _ h _ => ?_⟩
  · cases i with
    | zero =>
      cases Option.some.inj h1
      cases Option.some.inj h2
      exact p
    | succ i => cases h1
  · cases h
theorem Chn.more {ts : List (Str × Str)} {n : Nat} {ss : List (Str → Int)} {Ls : List (Str → List Int)} {ns : List Int} {s s' : Str → Int} {L L' : Str → List Int} (c : Chn ts n ss Ls ns) (hs : ss[ns.length]? = some s) (hL : Ls[ns.length]? = some L) (p : Pt ts n s' L') (st : Stp ts s L s' L') :
    Chn ts n (ss ++ [s']) (Ls ++ [L']) (ns ++ [tog ts s s']) := by
  have l1 := c.l1
  have l2 := c.l2
  have at1 : ∀ {α : Type} {l : List α} {a : α} {i : Nat} {b : α}, (l ++ [a])[i]? = some b → (i < l.length ∧ l[i]? = some b) ∨ (i = l.length ∧ a = b) := by
    intro α l a i b h
    by_cases lt : i < l.length
    · rw [List.getElem?_append_left lt] at h
      exact .inl ⟨lt, h⟩
    · have hl := (List.getElem?_eq_some_iff.mp h).1
      rw [List.length_append] at hl
      have one : [a].length = 1 := rfl
      have e : i = l.length := by omega
      subst e
      rw [List.getElem?_append_right (Nat.le_refl _), Nat.sub_self] at h
      exact .inr ⟨rfl, Option.some.inj h⟩
  refine ⟨by rw [List.length_append, List.length_append, l1] <;> rfl, by rw [List.length_append, List.length_append, l2] <;> rfl, fun i a b h1 h2 => ?_, fun i a b a' b' h1 h2 h3 h4 => ?_⟩
  · rcases at1 h1 with ⟨q1, q2⟩ | ⟨q1, q2⟩
    · rcases at1 h2 with ⟨r1, r2⟩ | ⟨r1, r2⟩
      · exact c.pt i a b q2 r2
      · omega
    · rcases at1 h2 with ⟨r1, r2⟩ | ⟨r1, r2⟩
      · omega
      · rw [← q2, ← r2]
        exact p
  · rcases at1 h3 with ⟨q1, q2⟩ | ⟨q1, q2⟩
    · rcases at1 h4 with ⟨r1, r2⟩ | ⟨r1, r2⟩
      · rcases at1 h1 with ⟨u1, u2⟩ | ⟨u1, u2⟩
        · rcases at1 h2 with ⟨v1, v2⟩ | ⟨v1, v2⟩
          · obtain ⟨w1, w2⟩ := c.st i a b a' b' u2 v2 q2 r2
            exact ⟨w1, by rw [List.getElem?_append_left (by omega)]; exact w2⟩
          · omega
        · omega
      · omega
    · rcases at1 h4 with ⟨r1, r2⟩ | ⟨r1, r2⟩
      · omega
      · rcases at1 h1 with ⟨u1, u2⟩ | ⟨u1, u2⟩
        · rcases at1 h2 with ⟨v1, v2⟩ | ⟨v1, v2⟩
          · have ei : i = ns.length := by omega
            subst ei
            cases hs.symm.trans u2
            cases hL.symm.trans v2
            subst q2
            subst r2
            exact ⟨st, by rw [List.getElem?_append_right (Nat.le_refl _), Nat.sub_self] <;> rfl⟩
          · omega
        · omega
end FT


/-! the text of lists by place -/
namespace FT
open PySem L2 TL ClX LiI
def iD (ns : List Int) : PyData := .list (ns.map PyData.int)
def lsE (l : List Str) (r : Str → Addr) (L : Str → List Int) : List EntD := l.map fun p => (Sum.inr p, V.ref (r p), iD (L p))
def lsK (l : List Str) (L : Str → List Int) : List (PyData × PyData) := l.map fun p => (PyData.str p, iD (L p))
theorem lsE_D (l : List Str) (r : Str → Addr) (L : Str → List Int) : dcD (lsE l r L) = .dict (lsK l L) := by
  unfold dcD lsE lsK
  rw [List.map_map] <;> rfl
theorem lsE_kv (l : List Str) (r : Str → Addr) (L : Str → List Int) : ((lsE l r L).map fun e => (e.1, e.2.1)) = tblV l fun p => .ref (r p) := by
  unfold lsE tblV kvT
  rw [List.map_map, List.map_map] <;> rfl
theorem int_short : ∀ k : Fin 60, (PyData.shown (.int ((k.1 : Nat) : Int))).length ≤ 8 := by decide +kernel
theorem int_short' {u : Int} (h0 : 0 ≤ u) (h1 : u < 60) : (PyData.shown (.int u)).length ≤ 8 := by
  have h := int_short ⟨u.toNat, by omega⟩
  rw [show ((u.toNat : Nat) : Int) = u by omega] at h
  exact h
theorem int_showable : ∀ k : Fin 60, PyData.showable (.int ((k.1 : Nat) : Int)) = true := by decide +kernel
theorem int_showable' {u : Int} (h0 : 0 ≤ u) (h1 : u < 60) : PyData.showable (.int u) = true := by
  have h := int_showable ⟨u.toNat, by omega⟩
  rw [show ((u.toNat : Nat) : Int) = u by omega] at h
  exact h
theorem ints_show : ∀ {ns : List Int}, (∀ u ∈ ns, 0 ≤ u ∧ u < 60) → PyData.showableAll (ns.map PyData.int) = true ∧ PyData.leavesShortAll 8 (ns.map PyData.int) = true ∧ PyData.depthAll (ns.map PyData.int) = 0 ∧ PyData.bulkAll (ns.map PyData.int) = ns.length ∧ PyData.hasDictAll (ns.map PyData.int) = false
  | [], _ => ⟨rfl, rfl, rfl, rfl, rfl⟩
  | u :: ns, h => by
    obtain ⟨h1, h2, h3, h4, h5⟩ := ints_show (ns := ns) fun v hv => h v (List.mem_cons_of_mem _ hv)
    obtain ⟨u0, u1⟩ := h u (List.mem_cons_self ..)
    refine ⟨?_, ?_, ?_, ?_, ?_⟩
    · show (PyData.showable (.int u) && PyData.showableAll (ns.map PyData.int)) = true
      rw [int_showable' u0 u1, h1] <;> rfl
    · show (decide ((PyData.shown (.int u)).length ≤ 8) && PyData.leavesShortAll 8 (ns.map PyData.int)) = true
      rw [decide_eq_true (int_short' u0 u1), h2] <;> rfl
    · show max 0 (PyData.depthAll (ns.map PyData.int)) = 0
      rw [h3] <;> rfl
    · show 0 + 1 + PyData.bulkAll (ns.map PyData.int) = (u :: ns).length
      rw [h4, List.length_cons]
      omega
    · show (false || PyData.hasDictAll (ns.map PyData.int)) = false
      rw [h5] <;> rfl
theorem str_leaf {z : Str} (h : PyData.strOk z = true) : PyData.leavesShort 8 (.str z) = true := by
  unfold PyData.leavesShort
  rw [List.all_eq_true]
  unfold PyData.strOk at h
  intro c hc
  have h := Array.all_eq_true_iff_forall_mem.mp h c (Array.mem_toList_iff.mp hc)
  have h := of_decide_eq_true h
  exact decide_eq_true (by omega)
theorem lsK_show : ∀ {l : List Str} {L : Str → List Int}, (∀ p ∈ l, PyData.strOk p = true ∧ p.length ≤ 8 ∧ (L p).length ≤ 60 ∧ ∀ u ∈ L p, 0 ≤ u ∧ u < 60) → PyData.showableKv (lsK l L) = true ∧ PyData.leavesShortKv 8 (lsK l L) = true ∧ PyData.depthKv (lsK l L) ≤ 1 ∧ PyData.bulkKv (lsK l L) ≤ 70 * l.length
  | [], _, _ => ⟨rfl, rfl, Nat.zero_le _, Nat.zero_le _⟩
  | p :: l, L, h => by
    obtain ⟨h1, h2, h3, h4⟩ := lsK_show (l := l) (L := L) fun v hv => h v (List.mem_cons_of_mem _ hv)
    obtain ⟨p1, p2, p3, p4⟩ := h p (List.mem_cons_self ..)
    obtain ⟨q1, q2, q3, q4, _⟩ := ints_show p4
    refine ⟨?_, ?_, ?_, ?_⟩
    · show (true && PyData.showableAll ((L p).map PyData.int) && PyData.showableKv (lsK l L)) = true
      rw [q1, h1] <;> rfl
    · show (PyData.leavesShort 8 (.str p) && PyData.leavesShortAll 8 ((L p).map PyData.int) && PyData.leavesShortKv 8 (lsK l L)) = true
      rw [str_leaf p1, q2, h2] <;> rfl
    · show max (max 0 (PyData.depthAll ((L p).map PyData.int) + 1)) (PyData.depthKv (lsK l L)) ≤ 1
      rw [q3]
      omega
    · show p.cps.size + PyData.bulkAll ((L p).map PyData.int) + 2 + PyData.bulkKv (lsK l L) ≤ 70 * (p :: l).length
      rw [q4, List.length_cons]
      have : p.cps.size = p.length := rfl
      omega
theorem ls_repr {K : PySem.W.Frag} {H : Hp} {q : Addr} {ts : List (Str × Str)} {r : Str → Addr} {L : Str → List Int} {n : Nat} (o : TreeOk ts) (hV : Val ts n L) (n60 : n ≤ 60) (h : LsAt H q (pls ts) r L) :
    H q = some (.dK ((lsE (pls ts) r L).map fun e => (e.1, e.2.1))) ∧ (∀ e ∈ lsE (pls ts) r L, Dp K H e.2.1 e.2.2 ∧ e.2.2.hasDict = false) ∧ (dcD (lsE (pls ts) r L)).showable = true ∧ (dcD (lsE (pls ts) r L)).depth ≤ 60 ∧ (dcD (lsE (pls ts) r L)).shown.length ≤ sizeLine := by
  have few := o.few
  have pln := pls_len ts
  have us : ∀ p ∈ pls ts, (L p).length ≤ 60 ∧ ∀ u ∈ L p, 0 ≤ u ∧ u < 60 := fun p hp => by
    refine ⟨?_, fun u hu => ?_⟩
    · have := nat_sum (f := L) hp
      rw [val_len hV] at this
      omega
    · have := mem_usr.mp (hV.mem_iff.mp (List.mem_flatMap.mpr ⟨p, hp, hu⟩))
      omega
  have nm : ∀ p ∈ pls ts, PyData.strOk p = true ∧ p.length ≤ 8 := fun p hp => by
    rcases mem_pls.mp hp with e | m
    · rw [e]
      exact ⟨by decide +kernel, by decide +kernel⟩
    · exact ⟨strOk_name (o.nm p m), (o.nm p m).len.2⟩
  obtain ⟨z1, z2, z3, z4⟩ := lsK_show (l := pls ts) (L := L) fun p hp => ⟨(nm p hp).1, (nm p hp).2, us p hp⟩
  refine ⟨by rw [lsE_kv]; exact h.1, fun e he => ?_, ?_⟩
  · obtain ⟨p, hp, rfl⟩ := List.mem_map.mp he
    exact ⟨.lst (SqL.of (h.2 p hp)) (dp_ints _), (ints_show (us p hp).2).2.2.2.2⟩
  · rw [lsE_D]
    refine ⟨z1, by show PyData.depthKv (lsK (pls ts) L) + 1 ≤ 60; omega, PyData.shown_fits_bulk (B := 8) (by decide) (by decide) z2 ?_⟩
    show PyData.bulkKv (lsK (pls ts) L) ≤ 2 ^ 20
    omega
end FT


/-! the law of k19 -/
namespace FT
open PySem L2 TL ClX LiI
theorem sz_tblB {K : PySem.W.Frag} {H : Hp} {q : Addr} {l : List Str} {s : Str → Int} (h : H q = some (.dK (tblI l s))) : SzV K H (.ref q) (some (tblI l s)) :=
  ⟨q, rfl, h, fun p hp => by
    obtain ⟨i, hi⟩ := List.mem_iff_getElem?.mp hp
    obtain ⟨k, v⟩ := p
    obtain ⟨a, _, _, rfl⟩ := tblI_at hi
    exact ⟨_, .int _⟩⟩
theorem at_last {α : Type} (l : List α) (x : α) : atI (l ++ [x]) (-1) = some x := by
  unfold atI ixN
  rw [if_neg (by decide), List.length_append, if_pos (by show -((l.length + 1 : Nat) : Int) ≤ -1; omega)]
  show (l ++ [x])[((-1 : Int) + ((l.length + 1 : Nat) : Int)).toNat]? = some x
  rw [show ((-1 : Int) + ((l.length + 1 : Nat) : Int)).toNat = l.length by omega, List.getElem?_append_right (Nat.le_refl _), Nat.sub_self] <;> rfl
theorem at_before {α : Type} {l : List α} {x y : α} (h : l[l.length - 1]? = some y) : atI (l ++ [x]) (-2) = some y := by
  have lt := (List.getElem?_eq_some_iff.mp h).1
  unfold atI ixN
  rw [if_neg (by decide), List.length_append, if_pos (by show -((l.length + 1 : Nat) : Int) ≤ -2; omega)]
  show (l ++ [x])[((-2 : Int) + ((l.length + 1 : Nat) : Int)).toNat]? = some y
  rw [show ((-2 : Int) + ((l.length + 1 : Nat) : Int)).toNat = l.length - 1 by omega, List.getElem?_append_left lt]
  exact h
theorem DrawB.off_ins {H : Hp} {d l i x C dx : Addr} {b : Int} {fs : List (Str × V)} (w : DrawB H d l i b) (hx : H x = some (.ins C dx fs)) : x ≠ d ∧ x ≠ l ∧ x ≠ i := by
  obtain ⟨lf, tn, lg, it, a1, a2, a3, _⟩ := w
  exact ⟨ne_of hx a1 (by intro z; cases z), ne_of hx a2 (by intro z; cases z), ne_of hx a3 (by intro z; cases z)⟩
theorem DrawB.at3 {H : Hp} {d l i : Addr} {b : Int} (x : DrawB H d l i b) : (∃ u, H d = some u) ∧ (∃ u, H l = some u) ∧ ∃ u, H i = some u := by
  obtain ⟨lf, tn, lg, it, a1, a2, a3, _⟩ := x
  exact ⟨⟨_, a1⟩, ⟨_, a2⟩, ⟨_, a3⟩⟩
theorem DrawB.kx {H H' : Hp} {d l i : Addr} {b : Int} {A : List Addr} (k : KeepX A H H') (n : d ∉ A ∧ l ∉ A ∧ i ∉ A) (x : DrawB H d l i b) : DrawB H' d l i b := by
  obtain ⟨lf, tn, lg, it, a1, a2, a3, r⟩ := x
  exact ⟨lf, tn, lg, it, k _ _ n.1 a1, k _ _ n.2.1 a2, k _ _ n.2.2 a3, r⟩
theorem Kp2.kx {y z : Addr} {H H' : Hp} (k : Kp2 y z H H') : KeepX [y, z] H H' := fun b u n e => k b u (fun h => n (by rw [h]; simp)) (fun h => n (by rw [h]; simp)) e
theorem RollAt.ins {CF CR : Addr} {Ex : List Addr} {H : Hp} {y z x : Addr} {ts : List (Str × Str)} {L : Str → List Int} {ps : List (Str → Int)} (h : RollAt CF CR Ex H y z x ts L ps) : ∃ dy q, H y = some (.ins CR dy (rFs x q z)) := by
  obtain ⟨dy, q, dx, dq, r, rs, h1, _⟩ := h
  exact ⟨dy, q, h1⟩
theorem RollAt.yz {CF CR : Addr} {Ex : List Addr} {H : Hp} {y z x : Addr} {ts : List (Str × Str)} {L : Str → List Int} {ps : List (Str → Int)} (h : RollAt CF CR Ex H y z x ts L ps) : (∃ u, H y = some u) ∧ ∃ u, H z = some u := by
  obtain ⟨dy, q, dx, dq, r, rs, h1, h2, h3, _⟩ := h
  exact ⟨⟨_, h1⟩, ⟨_, h3⟩⟩
/-- what the law of k19 leans on -/
structure W19 (P : Program) (w : World) (K : PySem.W.Frag) (mg : Str → Option Value) (base : Heap) (CF CR CA CS : Addr) (mc mcR mcA : Value) (f g : Nat → Addr) (fd : Nat → FuncData) : Prop where
  Z : Fc K mg CF mc
  R : RoC K mg CR mcR
  B : Ac K mg CA mcA
  bg : Dn P w K mg base CX0 1 "_law_begin" ["_law_script"] (spBeginB K) (f 0) (fd 0)
  dt : Dn P w K mg base CX0 2 "_law_take" ["_law_draw", "_law_size"] spTakeB (f 1) (fd 1)
  dp : Dn P w K mg base CX0 3 "_law_pick" ["_law_draw", "_law_some"] spPickB (f 2) (fd 2)
  fo : Dn P w K mg base CX0 4 "_law_forest" ["_law_draw", "_law_most"] spForB (f 3) (fd 3)
  fi : FnOk P w K mg base CX0 3 (f 4) (fd 4) ["self", "parents"] (spFInit CF)
  fim : Mk K CF (f 4)
  fib : Binds K (fd 4) ["self", "parents"] []
  dl : Dn P w K mg base CX0 4 "_law_drawn_lists" ["_law_draw", "_law_parents", "_law_folk"] spDListsB (f 5) (fd 5)
  sz : Dn P w K mg base CX0 4 "_law_sizes" ["_law_draw", "_law_parents", "_law_folk"] spSizesB (f 6) (fd 6)
  dr : Dn P w K mg base CX0 2 "_law_is_direct" ["_law_parents", "_law_before", "_law_after", "_law_old", "_law_fresh"] spDirect (f 7) (fd 7)
  fl : Dn P w K mg base CX0 1 "_law_flipped" ["_law_some"] spFlip (f 8) (fd 8)
  ldm : SMet K CR mcR "load" (g 0) (f 9)
  ld : FnOk P w K mg base CX0 6 (f 9) (fd 9) ["forest", "lists"] (spLoad CF CR)
  ldk : PySem.W.keepIn K (.ref (f 9)) = true
  ldb : Binds K (fd 9) ["forest", "lists"] []
  pS : PrN P w K mg base 4 CR "sizes" (spRSizes CF CR) (g 1) (f 10) (fd 10)
  pL : PrN P w K mg base 1 CR "lists" (spRLists CF CR) (g 2) (f 11) (fd 11)
  pA : PrN P w K mg base 3 CR "assignment" (spRAsg CF CR CA) (g 3) (f 12) (fd 12)
  pP : PrN P w K mg base 1 CA "places" (spAPlaces CA) (g 4) (f 13) (fd 13)
  pD : PrN P w K mg base 1 CR "depth" (spRDepth CF CR) (g 5) (f 14) (fd 14)
  ch : Mt P w K mg base (L2.CX P w) 6 CR "change" ["self", "new"] (spChange K CF CR CS) (f 15) (fd 15)
def spLaw19 (K : PySem.W.Frag) : Sp := fun vs H Q _ => ∃ (a : Addr) (ns : List Int), vs = [.ref a] ∧ SqL K H a (ns.map V.int) ∧ ns.length ≤ 63 ∧ ∀ H', Q (.bl true) H'
abbrev N19 : List Str := ["_law_script", "_law_draw", "_law_turn", "_law_parents", "_law_folk", "_law_rollout", "_law_row", "_law_points", "_law_numbers", "_law_step", "_law_before"]
section
variable {P : Program} {w : World} {K : PySem.W.Frag} {mg : Str → Option Value} {base : Heap}
theorem sc19 : FnScope N19 ["_law_script"] (defScope s_law) := ⟨rfl, rfl, rfl, by decide +kernel, rfl, by decide +kernel, by decide +kernel⟩
theorem ok_law19 {f0 CF CR CA CS : Addr} {mc mcR mcA : Value} {f g : Nat → Addr} {fd : Nat → FuncData} {fd0 : FuncData} (F : Fun K "law" "law" s_law f0 fd0) (N : Nm mg) (L : W19 P w K mg base CF CR CA CS mc mcR mcA f g fd) : FnG P w K mg base CX0 7 f0 fd0 ["_law_script"] (spLaw19 K) := by
  refine F.okG sc19 (fun vs H Q E h => ?_) (fun cdv A outer s H vs Q E clr hr h => ?_)
  · obtain ⟨a, ns, rfl, _⟩ := h
    rfl
  · obtain ⟨a, ns, rfl, hS, hlen, k⟩ := h
    have hu := hu_of hr
    have hr1 : Room 1 _ := hr.mono (by decide)
    have hr2 : Room 2 _ := hr.mono (by decide)
    have hr3 : Room 3 _ := hr.mono (by decide)
    have hr4 : Room 4 _ := hr.mono (by decide)
    have hr5 : Room 5 _ := hr.mono (by decide)
    have nd := sc19.nd
    have big : 1000 ≤ sizeLine := by decide
    refine ⟨_, pss_cons (ps_set (i := 1) nd rfl (.inl rfl) (pe_call L.bg.ok hr1 rfl L.bg.mgn L.bg.kp L.bg.bn .nil pass0 (pa_cons (pv 0) pa_nil)))
      (pss_cons (ps_for PassesOwn.never rfl (pi_range1 rfl N.rng (pa_cons (pe_op op_add pe_int (pe_callB (call_min2 rfl) (by rfl) N.min (by decide +kernel) (pa_cons (pe_callB call_len_seq (by rfl) N.len PySem.boot_len (pa_cons (pv 0) pa_nil)) (pa_cons pe_int pa_nil)))) pa_nil)) (pg_name (i := 2) nd rfl (.inl rfl))
        (pss_cons (ps_par (i := 3) (j := 4) rfl nd rfl rfl (by decide) rfl rfl (pa_cons (pe_call L.fo.ok hr4 rfl L.fo.mgn L.fo.kp L.fo.bn .nil pass0 (pa_cons (pv 1) (pa_cons pe_int pa_nil)))
          (pa_cons (pe_op op_add pe_int (pe_call L.dt.ok hr2 rfl L.dt.mgn L.dt.kp L.dt.bn .nil pass0 (pa_cons (pv 1) (pa_cons (pe_call L.dp.ok hr3 rfl L.dp.mgn L.dp.kp L.dp.bn .nil pass0 (pa_cons (pv 1) (pa_cons (pe_lst (pa_cons pe_int (pa_cons pe_int (pa_cons pe_int pa_nil)))) pa_nil))) pa_nil)))) pa_nil)) (by rfl))
        (pss_cons (ps_set (i := 5) nd rfl (.inl rfl) (pe_smeth (pe_glob (v := .ref CR) (by rfl) L.R.gR rfl) L.R.rd L.ldm L.ld hr L.ldk L.ldb .nil pass0 (pa_cons (pe_make L.fim L.fi hr4 (by rfl) L.Z.gF L.fib .nil pass0 (pa_cons (pv 3) pa_nil)) (pa_cons (pe_call L.dl.ok hr4 rfl L.dl.mgn L.dl.kp L.dl.bn .nil pass0 (pa_cons (pv 1) (pa_cons (pv 3) (pa_cons (pv 4) pa_nil)))) pa_nil))))
        (pss_cons (ps_par3 (i := 6) (j := 7) (l := 8) rfl nd rfl rfl rfl (by decide) (by decide) (by decide) rfl rfl rfl (pa_cons (pe_lst (pa_cons (pe_prop (pv 5) L.R.cl L.pS.pr L.pS.fn hr5 L.pS.bn .nil pass0 (by rfl)) pa_nil)) (pa_cons (pe_lst (pa_cons (pe_prop (pv 5) L.R.cl L.pL.pr L.pL.fn hr2 L.pL.bn .nil pass0 (by rfl)) pa_nil)) (pa_cons (pe_lst pa_nil) pa_nil))) (by rfl))
        (pss_cons (ps_for PassesOwn.never rfl (pi_range1 rfl N.rng (pa_cons (pe_op op_add pe_int (pe_call L.dt.ok hr2 rfl L.dt.mgn L.dt.kp L.dt.bn .nil pass0 (pa_cons (pv 1) (pa_cons pe_int pa_nil)))) pa_nil)) (pg_name (i := 9) nd rfl (.inl rfl))
          (pss_cons (ps_set (i := 10) nd rfl (.inl rfl) (pe_prop (pe_prop (pv 5) L.R.cl L.pA.pr L.pA.fn hr4 L.pA.bn .nil pass0 (by rfl)) L.B.cl L.pP.pr L.pP.fn hr2 L.pP.bn .nil pass0 (by rfl)))
          (pss_cons (ps_expr (pe_bm PySem.F.plainAttrs_list PySem.F.slot_list_append PySem.F.type_list_append mt_append (pv 6) (pa_cons (pe_call L.sz.ok hr4 rfl L.sz.mgn L.sz.kp L.sz.bn .nil pass0 (pa_cons (pv 1) (pa_cons (pv 3) (pa_cons (pv 4) pa_nil)))) pa_nil)))
          (pss_cons (ps_expr (pe_bm PySem.F.plainAttrs_list PySem.F.slot_list_append PySem.F.type_list_append mt_append (pv 8) (pa_cons (pe_meth (E := E0) (pv 5) L.R.cl L.ch.mt L.ch.fn hr L.ch.bn .nil L2.passL (pa_cons (pe_ix ix_list (pv 6) (pe_un un_neg pe_int) (fun _ _ => rfl)) pa_nil)) pa_nil)))
          (pss_cons (ps_expr (pe_bm PySem.F.plainAttrs_list PySem.F.slot_list_append PySem.F.type_list_append mt_append (pv 7) (pa_cons (pe_prop (pv 5) L.R.cl L.pL.pr L.pL.fn hr2 L.pL.bn .nil pass0 (by rfl)) pa_nil)))
          (pss_one (ps_if (pt_not (pt_val (pe_call L.dr.ok hr2 rfl L.dr.mgn L.dr.kp L.dr.bn .nil pass0 (pa_cons (pv 3) (pa_cons (pv 10) (pa_cons (pe_prop (pe_prop (pv 5) L.R.cl L.pA.pr L.pA.fn hr4 L.pA.bn .nil pass0 (by rfl)) L.B.cl L.pP.pr L.pP.fn hr2 L.pP.bn .nil pass0 (by rfl))
            (pa_cons (pe_ix ix_list (pv 6) (pe_un un_neg pe_int) (fun _ _ => rfl)) (pa_cons (pe_ix ix_list (pv 6) (pe_un un_neg pe_int) (fun _ _ => rfl)) pa_nil))))))))
            (pss_one (ps_ret pe_bl)) pss_nil)))))))
        (pss_cons (ps_for PassesOwn.never rfl (pi_range3 rfl N.rng (pa_cons (pe_op op_sub (pe_callB call_len_seq (by rfl) N.len PySem.boot_len (pa_cons (pv 8) pa_nil)) pe_int) (pa_cons (pe_un un_neg pe_int) (pa_cons (pe_un un_neg pe_int) pa_nil)))) (pg_name (i := 9) nd rfl (.inl rfl))
          (pss_cons (ps_if (PW.pt (pw_or (pt_cmpR op_ne (pe_meth (E := E0) (pv 5) L.R.cl L.ch.mt L.ch.fn hr L.ch.bn .nil L2.passL (pa_cons (pe_call L.fl.ok hr1 rfl L.fl.mgn L.fl.kp L.fl.bn .nil pass0 (pa_cons (pe_ix ix_list (pv 6) (pv 9) (fun _ _ => rfl)) pa_nil)) pa_nil)) (pe_ix ix_list (pv 8) (pv 9) (fun _ _ => rfl)) (nomark _))
            (pw_or1 (pt_cmpR op_ne (pe_callB (call_reprD clr.deeper hr.units) (by rfl) N.rep (by decide +kernel) (pa_cons (pe_prop (pv 5) L.R.cl L.pL.pr L.pL.fn hr2 L.pL.bn .nil pass0 (by rfl)) pa_nil)) (pe_callB (call_reprD clr.deeper hr.units) (by rfl) N.rep (by decide +kernel) (pa_cons (pe_ix ix_list (pv 7) (pv 9) (fun _ _ => rfl)) pa_nil)) (nomark _))))) (pss_one (ps_ret pe_bl)) pss_nil)
          (pss_one (ps_if (pt_cmpR (op_ne_dictA (Nat.lt_of_succ_lt hu)) (pe_prop (pv 5) L.R.cl L.pS.pr L.pS.fn hr5 L.pS.bn .nil pass0 (by rfl)) (pe_ix ix_list (pv 6) (pv 9) (fun _ _ => rfl)) (nomark _)) (pss_one (ps_ret pe_bl)) pss_nil))))
        (pss_one (ps_if (pt_cmpR op_ne (pe_prop (pv 5) L.R.cl L.pD.pr L.pD.fn hr2 L.pD.bn .nil pass0 (by rfl)) (pe_op op_mul pe_int (pe_callB call_len_seq (by rfl) N.len PySem.boot_len (pa_cons (pv 8) pa_nil))) (nomark _)) (pss_one (ps_ret pe_bl)) pss_nil))))))))
      (pss_one (ps_ret pe_bl))), ?_⟩
    refine ⟨_, rfl, a, ns, rfl, hS, hlen, fun H0 d l i s0 nd0 nl0 ni0 dr0 => ?_⟩
    refine ⟨_, rfl, a, _, rfl, .inl (Same.sql s0 hS), _, _, rfl, _, _, rfl, rfl, ?_⟩
    obtain ⟨m, em⟩ : ∃ m : Int, m = 1 + (if (4 : Int) < ((ns.map V.int).length : Int) then 4 else ((ns.map V.int).length : Int)) := ⟨_, rfl⟩
    have lm : 0 ≤ m ∧ m ≤ 5 := by
      rw [List.length_map] at em
      subst em
      split <;> constructor <;> omega
    refine ⟨m, by rw [em] <;> rfl, by omega, by omega, ?_⟩
    refine for_it (walk_range (lo := 0) (n := m.toNat)) (fun j σ' H' => (∃ u2 u3 u4 u5 u6 u7 u8 u9 u10, σ' = [some (.ref a), some (.ref d), u2, u3, u4, u5, u6, u7, u8, u9, u10]) ∧ DrawB H' d l i (2000 * (j : Int))) ⟨⟨_, _, _, _, _, _, _, _, _, rfl⟩, dr0.more (by omega)⟩ (fun _ _ _ _ _ => trivial) ?_ (fun σ' H' _ => k H')
    intro jj xj σ' Ha Hb hj ⟨⟨u2, u3, u4, u5, u6, u7, u8, u9, u10, e⟩, dr⟩ ⟨e1, e2⟩
    subst e
    subst e1
    subst e2
    obtain ⟨b0, eb0⟩ : ∃ b0 : Int, b0 = 2000 * (jj : Int) := ⟨_, rfl⟩
    rw [← eb0] at dr
    have bb : b0 + 2000 ≤ 10 ^ 12 - 1000 := by omega
    -- the tree, the users
    refine ⟨_, rfl, d, l, i, _, rfl, dr, by omega, fun q t H1 o ah nq hq dr1 k1 => ?_⟩
    have few := o.few
    refine ⟨_, rfl, _, rfl, by show 3 ≤ sizeLine; omega, fun pl npl => ?_⟩
    have pld := dr1.apart npl
    have sp := same_new (o := .lst [V.int 8, V.int 20, V.int 60]) npl
    refine ⟨d, l, i, pl, _, ([8, 20, 60] : List Int).map V.int, rfl, dr1.mono sp, by omega, upd_same, pld.2.1, (fun z => by cases z), by show 3 ≤ 1000; decide, fun u H2 um dr2 k2 => ?_⟩
    obtain ⟨mx, hmx, rfl⟩ := List.mem_map.mp um
    have mxb : 8 ≤ mx ∧ mx ≤ 60 := by
      have : ∀ c' ∈ ([8, 20, 60] : List Int), 8 ≤ c' ∧ c' ≤ 60 := by decide
      exact this mx hmx
    refine ⟨d, l, i, _, mx, rfl, dr2, by omega, by omega, by omega, fun c H3 c0 c1 dr3 k3 => ?_⟩
    obtain ⟨n, en⟩ : ∃ n : Nat, n = (1 + c).toNat := ⟨_, rfl⟩
    have n1 : 1 ≤ n := by omega
    have n60 : n ≤ 60 := by omega
    refine ⟨_, _, rfl, rfl, .ref q, .int (n : Int), by rw [show (n : Int) = 1 + c by omega] <;> rfl, ?_⟩
    have qd1 := dr1.off_prs hq
    have hq3 : H3 q = some (.dK (prs t)) := kx_at k3 (kx_at k2 (sp _ _ hq) qd1.1 qd1.2.1) qd1.1 qd1.2.1
    -- the forest
    refine ⟨rfl, _, rfl, fun x dx nx ndx nxd => ?_⟩
    have sN : Same H3 (upd (upd H3 dx (.own x)) x (.ins CF dx [])) := fun b u e => by
      rw [upd_ne (ne_of_none e nx), upd_ne (ne_of_none e ndx)]
      exact e
    refine ⟨x, q, dx, t, rfl, upd_same, sN _ _ hq3, o, fun H4 ts pts asc fa4 oth => ⟨rfl, ?_⟩⟩
    have s34 : Same H3 H4 := fun b u e => oth b u (ne_of_none e nx) (sN _ _ e)
    have ot : TreeOk ts := o.perm pts.symm
    have pk : (ts.map Prod.fst).Perm (t.map Prod.fst) := pts.map _
    have hq4 := s34 _ _ hq3
    have dr4 := dr3.mono s34
    -- the lists
    refine ⟨_, rfl, _, rfl, _, rfl, d, l, i, q, _, n, t, rfl, dr4, by omega, hq4, o, n60, fun p ks r L0 H5 pks srt np hL pm dr5 k5 => ?_⟩
    have eks : ks = ts.map Prod.fst := sorted_one (pks.trans pk.symm) srt asc
    subst eks
    have hV : Val ts n L0 := pm
    have fa5 : FAt CF H5 x ts := by
      obtain ⟨dx', dq', e1, e2⟩ := fa4
      have x4 := dr4.off_ins e1
      have q4 := dr4.off_prs e2
      exact ⟨dx', dq', kx_at k5 e1 x4.1 x4.2.1, kx_at k5 e2 q4.1 q4.2.1⟩
    have hq5 := kx_at k5 hq4 (dr4.off_prs hq4).1 (dr4.off_prs hq4).2.1
    refine ⟨x, p, ts, r, L0, n, rfl, fa5, ot, hL, hV, n1, n60, fun H6 y q' z dy r' s6 ny nq' nz nr' hy hL' hz => ?_⟩
    have dr6 := dr5.mono s6
    have fa6 := fa5.mono s6
    have hq6 := s6 _ _ hq5
    have yd := dr5.apart ny
    have zd := dr5.apart nz
    have ra6 : RollAt CF CR [d, l, i] H6 y z x ts L0 [] := by
      obtain ⟨dx', dq', e1, e2⟩ := fa6
      have x6 := dr6.off_ins e1
      have q6 := dr6.off_prs e2
      have qq := dr5.apart nq'
      refine ⟨dy, q', dx', dq', r', [], hy, hL', hz, .nil, e1, e2, fun b hb => ?_, fun p' hp' => ?_⟩
      · simp only [List.mem_cons, List.not_mem_nil, or_false] at hb ⊢
        rcases hb with rfl | rfl | rfl | rfl | rfl
        · exact fun z => z.elim yd.1 fun z => z.elim yd.2.1 yd.2.2
        · exact fun z => z.elim zd.1 fun z => z.elim zd.2.1 zd.2.2
        · exact fun z => z.elim qq.1 fun z => z.elim qq.2.1 qq.2.2
        · exact fun z => z.elim x6.1 fun z => z.elim x6.2.1 x6.2.2
        · exact fun z => z.elim q6.1 fun z => z.elim q6.2.1 q6.2.2
      · have rr := dr5.apart (nr' p' hp')
        simp only [List.mem_cons, List.not_mem_nil, or_false]
        exact fun z => z.elim rr.1 fun z => z.elim rr.2.1 rr.2.2
    -- the first point
    refine ⟨_, rfl, y, dy, _, rfl, hy, y, z, x, [d, l, i], ts, L0, [], rfl, ra6, ot, fun a0 H7 s7 na0 ha0 => ?_⟩
    refine ⟨by show 1 ≤ sizeLine; omega, fun ar nar => ?_⟩
    have sr := same_new (o := .lst [V.ref a0]) nar
    refine ⟨_, rfl, y, dy, _, rfl, sr _ _ (s7 _ _ hy), y, z, x, [d, l, i], ts, L0, [], rfl, (ra6.mono s7).mono sr, ot, fun p0 r0 H9 s9 np0 nr0 hp0 => ?_⟩
    refine ⟨by show 1 ≤ sizeLine; omega, fun ap nap => ?_⟩
    have sp9 := same_new (o := .lst [V.ref p0]) nap
    refine ⟨by show 0 ≤ sizeLine; omega, fun an nan => ?_⟩
    have sn9 := same_new (o := .lst ([] : List V)) nan
    refine ⟨_, _, _, rfl, ?_⟩
    obtain ⟨H11, e11⟩ : ∃ X, X = upd (upd H9 ap (.lst [V.ref p0])) an (.lst ([] : List V)) := ⟨_, rfl⟩
    have s9b : Same H9 H11 := e11 ▸ sp9.trans sn9
    rw [← e11]
    have s8b : Same (upd H7 ar (.lst [V.ref a0])) H11 := s9.trans s9b
    have s7b : Same H7 H11 := sr.trans s8b
    have s6b : Same H6 H11 := s7.trans s7b
    have dr11 := dr6.mono s6b
    have hq11 := s6b _ _ hq6
    have t6 : ∀ b ∈ [y, z, d, l, i], ∃ u, H6 b = some u := fun b hb => by
      obtain ⟨t1, t2, t3⟩ := dr6.at3
      simp only [List.mem_cons, List.not_mem_nil, or_false] at hb
      rcases hb with rfl | rfl | rfl | rfl | rfl
      · exact ⟨_, hy⟩
      · exact ⟨_, hz⟩
      · exact t1
      · exact t2
      · exact t3
    have f6 : ∀ b, H6 b = none → b ∉ [y, z, d, l, i] := fun b hb m => by
      obtain ⟨u, e⟩ := t6 b m
      rw [hb] at e
      cases e
    have ar6 : H6 ar = none := s7.free nar
    have p06 : H6 p0 = none := s7.free (sr.free np0)
    have ap6 : H6 ap = none := s7.free (sr.free (s9.free nap))
    have an6 : H6 an = none := s7.free (sr.free (s9.free (sp9.free nan)))
    have r06 : ∀ p' ∈ pls ts, H6 (r0 p') = none := fun p' hp' => s7.free (sr.free (nr0 p' hp'))
    have a0r : a0 ≠ ar := ne_of_none ha0 nar
    have a0p : a0 ≠ ap := ne_of_none (s9 _ _ (sr _ _ ha0)) nap
    have a0n : a0 ≠ an := ne_of_none (sp9 _ _ (s9 _ _ (sr _ _ ha0))) nan
    have arp : ar ≠ ap := ne_of_none (s9 _ _ (upd_same : upd H7 ar (.lst [V.ref a0]) ar = some (.lst [V.ref a0]))) nap
    have arn : ar ≠ an := ne_of_none (sp9 _ _ (s9 _ _ (upd_same : upd H7 ar (.lst [V.ref a0]) ar = some (.lst [V.ref a0])))) nan
    have apn : ap ≠ an := ne_of_none (upd_same : upd H9 ap (.lst [V.ref p0]) ap = some (.lst [V.ref p0])) nan
    have p0r : p0 ≠ ar := (ne_of_none (upd_same : upd H7 ar (.lst [V.ref a0]) ar = some (.lst [V.ref a0])) np0).symm
    have p0p : p0 ≠ ap := ne_of_none hp0.1 nap
    have p0n : p0 ≠ an := ne_of_none (sp9 _ _ hp0.1) nan
    have trk0 : Trk H11 [y, z, d, l, i] ar ap an [a0] [p0] ts [lsz ts L0] [L0] [] := by
      refine ⟨s8b _ _ upd_same, by rw [e11, upd_ne apn, upd_same] <;> rfl, by rw [e11, upd_same] <;> rfl, ⟨f6 _ ar6, f6 _ ap6, f6 _ an6⟩, ⟨arp, arn, apn⟩, .cons ⟨?_, ts.map Prod.fst, .refl _, s7b _ _ ha0⟩ .nil, .cons ⟨?_, r0, hp0.mono s9b, fun p' hp' => ?_⟩ .nil⟩
      · exact fun m => (List.mem_cons.mp m).elim a0r fun m => (List.mem_cons.mp m).elim a0p fun m => (List.mem_cons.mp m).elim a0n (f6 _ na0)
      · exact fun m => (List.mem_cons.mp m).elim p0r fun m => (List.mem_cons.mp m).elim p0p fun m => (List.mem_cons.mp m).elim p0n (f6 _ p06)
      · have z1 : r0 p' ≠ ar := (ne_of_none (upd_same : upd H7 ar (.lst [V.ref a0]) ar = some (.lst [V.ref a0])) (nr0 p' hp')).symm
        have z2 : r0 p' ≠ ap := ne_of_none (hp0.2 p' hp') nap
        have z3 : r0 p' ≠ an := ne_of_none (sp9 _ _ (hp0.2 p' hp')) nan
        exact fun m => (List.mem_cons.mp m).elim z1 fun m => (List.mem_cons.mp m).elim z2 fun m => (List.mem_cons.mp m).elim z3 (f6 _ (r06 p' hp'))
    have ra0 : RollAt CF CR [an, ap, ar, d, l, i] H11 y z x ts L0 [] := (((ra6.more ar6).more ap6).more an6).mono s6b
    have fe0 : Fea ts n (lsz ts L0) := by
      refine ⟨fun b hb => (lsz_bd ot hV hb).1, fun p' hp' => ?_⟩
      rw [← lsz_lens ot (val_len hV) p' (mem_pls.mp hp')]
      omega
    have chn0 : Chn ts n [lsz ts L0] [L0] [] := Chn.one ⟨hV, fe0, fun _ _ => rfl⟩
    -- forward
    refine ⟨_, rfl, d, l, i, _, 6, rfl, dr11, by omega, by decide, by decide, fun c2 H12 c20 c21 dr12 k12 => ?_⟩
    obtain ⟨m2, em2⟩ : ∃ m2 : Int, m2 = 1 + c2 := ⟨_, rfl⟩
    refine ⟨_, _, rfl, rfl, m2, by rw [em2] <;> rfl, by omega, by omega, ?_⟩
    have ex6 : ∀ b ∈ [d, l], b ∈ [an, ap, ar, d, l, i] := fun b hb => by
      simp only [List.mem_cons, List.not_mem_nil, or_false] at hb ⊢
      rcases hb with rfl | rfl <;> simp
    have exZ : ∀ b ∈ [d, l], b ∈ [y, z, d, l, i] := fun b hb => by
      simp only [List.mem_cons, List.not_mem_nil, or_false] at hb ⊢
      rcases hb with rfl | rfl <;> simp
    have yzZ : ∀ b ∈ [y, z], b ∈ [y, z, d, l, i] := fun b hb => by
      simp only [List.mem_cons, List.not_mem_nil, or_false] at hb ⊢
      rcases hb with rfl | rfl <;> simp
    have dyz : d ∉ [y, z] ∧ l ∉ [y, z] ∧ i ∉ [y, z] := by
      simp only [List.mem_cons, List.not_mem_nil, or_false]
      exact ⟨fun w => w.elim (fun e => yd.1 e.symm) fun e => zd.1 e.symm, fun w => w.elim (fun e => yd.2.1 e.symm) fun e => zd.2.1 e.symm, fun w => w.elim (fun e => yd.2.2 e.symm) fun e => zd.2.2 e.symm⟩
    have qoff : q ∉ [y, z] ∧ q ≠ ar ∧ q ≠ ap ∧ q ≠ an := by
      simp only [List.mem_cons, List.not_mem_nil, or_false]
      refine ⟨fun w => w.elim (ne_of hq6 hy (by intro z; cases z)) (ne_of hq6 hz (by intro z; cases z)), ne_of_none (s7 _ _ hq6) nar, ne_of_none (s9 _ _ (sr _ _ (s7 _ _ hq6))) nap, ne_of_none (sp9 _ _ (s9 _ _ (sr _ _ (s7 _ _ hq6)))) nan⟩
    have ard : ∀ {b}, b ∉ [y, z, d, l, i] → b ≠ d ∧ b ≠ l ∧ b ≠ i := fun {b} h => by
      simp only [List.mem_cons, List.not_mem_nil, or_false] at h
      exact ⟨fun e => h (by simp [e]), fun e => h (by simp [e]), fun e => h (by simp [e])⟩
    refine for_it (walk_range (lo := 0) (n := m2.toNat)) (fun j σ' H' => (∃ u2 u9 u10, σ' = [some (.ref a), some (.ref d), u2, some (.ref q), some (.int (n : Int)), some (.ref y), some (.ref ar), some (.ref ap), some (.ref an), u9, u10]) ∧ DrawB H' d l i (b0 + 500 + 100 * (j : Int)) ∧ H' q = some (.dK (prs t)) ∧
      ∃ (rsS rsP : List Addr) (ss : List (Str → Int)) (Ls : List (Str → List Int)) (ns : List Int) (s : Str → Int) (L' : Str → List Int) (ps : List (Str → Int)), Trk H' [y, z, d, l, i] ar ap an rsS rsP ts ss Ls ns ∧ Chn ts n ss Ls ns ∧ ns.length = j ∧ ps.length = j ∧ ss[j]? = some s ∧ Ls[j]? = some L' ∧ RollAt CF CR [an, ap, ar, d, l, i] H' y z x ts L' ps)
      ⟨⟨_, _, _, rfl⟩, dr12.more (by omega), kx_at k12 hq11 (dr11.off_prs hq11).1 (dr11.off_prs hq11).2.1, _, _, _, _, _, _, _, [], trk0.keep (k12.sub exZ), chn0, rfl, rfl, rfl, rfl, ra0.keep (k12.sub ex6)⟩ (fun _ _ _ _ _ => trivial) ?_ ?_
    · intro j xj2 σ' Hb2 H13 hj2 ⟨⟨u2, u9, u10, eσ⟩, dr13, hq13, rsS, rsP, ss, Ls, ns2, s, L1, ps, trk, chn, ln, lps, hss, hLs, ra⟩ ⟨e1, e2⟩
      subst eσ
      subst e1
      subst e2
      have pt1 := chn.pt j s L1 hss hLs
      have lj : j ≤ 6 := by omega
      have lS := pair_len trk.sz
      have lP := pair_len trk.pt
      have cl1 := chn.l1
      have cl2 := chn.l2
      obtain ⟨dy1, q1, hy1⟩ := ra.ins
      -- before
      refine ⟨_, rfl, y, dy1, _, rfl, hy1, y, z, x, [an, ap, ar, d, l, i], ts, L1, ps, n, rfl, ra, ot, pt1.v, n1, n60, fun aa H14 s14 naa haa => ?_⟩
      obtain ⟨daa, paa, haa1, haa2⟩ := id haa
      refine ⟨aa, daa, _, rfl, haa1, aa, x, (usr n).map (plOf ts L1), rfl, haa, fun pb npb => ?_⟩
      have sb := same_new (o := .lst (((usr n).map (plOf ts L1)).map V.str)) npb
      obtain ⟨H15, e15⟩ : ∃ X, X = upd H14 pb (.lst (((usr n).map (plOf ts L1)).map V.str)) := ⟨_, rfl⟩
      have s15 : Same H13 H15 := e15 ▸ s14.trans sb
      have hpb : H15 pb = some (.lst (((usr n).map (plOf ts L1)).map V.str)) := by rw [e15, upd_same]
      have pbn : ∀ b u, H13 b = some u → pb ≠ b := fun b u e => (ne_of_none (s14 _ _ e) npb).symm
      show tSeq _ _ _ _ (upd H14 pb (.lst (((usr n).map (plOf ts L1)).map V.str)))
      rw [← e15]
      have trk15 := trk.keep (.of_same s15)
      have dr15 := dr13.mono s15
      have hq15 := s15 _ _ hq13
      have ra15 := ra.mono s15
      -- new sizes
      refine ⟨_, rfl, .inl ⟨rfl, _, SqL.of trk15.hr⟩, _, rfl, _, rfl, _, rfl, d, l, i, q, _, (n : Int), t, rfl, dr15, by omega, hq15, o, ah, by omega, by omega, fun a1 s1 H16 fe1 na1 ha1 dr16 k16 => ?_⟩
      have trk16 := trk15.keep (k16.sub exZ)
      have ra16 := ra15.keep (k16.sub ex6)
      have hq16 := kx_at k16 hq15 (dr15.off_prs hq15).1 (dr15.off_prs hq15).2.1
      have pbZ : pb ∉ [d, l] := fun m => by
        obtain ⟨t1, t2, t3⟩ := dr13.at3
        simp only [List.mem_cons, List.not_mem_nil, or_false] at m
        rcases m with rfl | rfl
        · obtain ⟨u, e⟩ := t1
          exact pbn _ _ e rfl
        · obtain ⟨u, e⟩ := t2
          exact pbn _ _ e rfl
      have hpb16 := k16 _ _ pbZ hpb
      refine ⟨ar, _, _, rfl, rfl, trk16.hr, by rw [List.length_map]; omega, ?_⟩
      have tracked : ∀ b ∈ ar :: ap :: an :: [y, z, d, l, i], ∃ u, H15 b = some u := fun b hb => by
        obtain ⟨t1, t2, t3⟩ := dr15.at3
        obtain ⟨yy, zz⟩ := ra15.yz
        simp only [List.mem_cons, List.not_mem_nil, or_false] at hb
        rcases hb with rfl | rfl | rfl | rfl | rfl | rfl | rfl | rfl
        · exact ⟨_, trk15.hr⟩
        · exact ⟨_, trk15.hp⟩
        · exact ⟨_, trk15.hn⟩
        · exact yy
        · exact zz
        · exact t1
        · exact t2
        · exact t3
      have nZ : ∀ b, H15 b = none → b ∉ ar :: ap :: an :: [y, z, d, l, i] := fun b hb m => by
        obtain ⟨u, e⟩ := tracked b m
        rw [hb] at e
        cases e
      obtain ⟨H17, e17⟩ : ∃ X, X = upd H16 ar (.lst (rsS.map V.ref ++ [V.ref a1])) := ⟨_, rfl⟩
      have trk17 : Trk H17 [y, z, d, l, i] ar ap an (rsS ++ [a1]) rsP ts (ss ++ [s1]) Ls ns2 := e17 ▸ trk16.addS (nZ _ na1) pk.symm ha1
      have kAr : KeepX [an, ap, ar, d, l, i] H16 H17 := fun b u nb e => by
        rw [e17, upd_ne fun z => nb (by rw [z]; simp)]
        exact e
      have ra17 := ra16.keep kAr
      have ardr := ard trk16.off.1
      have dr17 : DrawB H17 d l i (b0 + 500 + 100 * (j : Int) + 100) := by rw [e17]; exact dr16.off ardr.1 ardr.2.1 ardr.2.2
      have hq17 : H17 q = some (.dK (prs t)) := by rw [e17, upd_ne qoff.2.1]; exact hq16
      have arT : ∀ b, b ∈ ar :: ap :: an :: [y, z, d, l, i] → pb ≠ b := fun b hb e => by
        subst e
        have z : H13 pb = none := s14.free npb
        obtain ⟨t1, t2, t3⟩ := dr13.at3
        obtain ⟨yy, zz⟩ := ra.yz
        have no : ∀ u, H13 pb ≠ some u := fun u w => by rw [z] at w; cases w
        simp only [List.mem_cons, List.not_mem_nil, or_false] at hb
        rcases hb with rfl | rfl | rfl | rfl | rfl | rfl | rfl | rfl
        · exact no _ trk.hr
        · exact no _ trk.hp
        · exact no _ trk.hn
        · exact let ⟨u, e⟩ := yy; no u e
        · exact let ⟨u, e⟩ := zz; no u e
        · exact let ⟨u, e⟩ := t1; no u e
        · exact let ⟨u, e⟩ := t2; no u e
        · exact let ⟨u, e⟩ := t3; no u e
      have hpb17 : H17 pb = some (.lst (((usr n).map (plOf ts L1)).map V.str)) := by rw [e17, upd_ne (arT ar (by simp))]; exact hpb16
      have h17a : H17 a1 = some (.dK (tblI (t.map Prod.fst) s1)) := by rw [e17, upd_ne fun z => nZ _ na1 (by rw [z]; simp)]; exact ha1
      rw [← e17]
      obtain ⟨dy2, q2, hy17⟩ := ra17.ins
      have fe1' : Fea ts n s1 := Fea.perm pts.symm fe1
      have row1 : atI ((rsS ++ [a1]).map V.ref) (-1) = some (V.ref a1) := by rw [List.map_append]; exact at_last _ _
      have exT : ∀ b ∈ [an, ap, ar, d, l, i], ∃ u, H17 b = some u := fun b hb => by
        obtain ⟨t1, t2, t3⟩ := dr17.at3
        simp only [List.mem_cons, List.not_mem_nil, or_false] at hb
        rcases hb with rfl | rfl | rfl | rfl | rfl | rfl
        · exact ⟨_, trk17.hn⟩
        · exact ⟨_, trk17.hp⟩
        · exact ⟨_, trk17.hr⟩
        · exact t1
        · exact t2
        · exact t3
      -- the change
      refine ⟨_, rfl, .inl ⟨rfl, _, SqL.of trk17.hn⟩, _, rfl, y, dy2, _, rfl, hy17, rfl, _, rfl, _, rfl, ar, _, _, _, rfl, rfl, SqL.of trk17.hr, row1, ?_⟩
      refine ⟨y, z, x, .ref a1, [an, ap, ar, d, l, i], ts, L1, ps, n, some (tblI (t.map Prod.fst) s1), rfl, ra17, ot, pt1.v, n1, n60, by omega, sz_tblB h17a, exT, ?_⟩
      rw [fe1'.ok pk.symm]
      intro H18 L2 mv kp2 ra18
      have kz := kp2.kx
      obtain ⟨pt2, st2⟩ := pt_step ot pt1 fe1' pk.symm mv
      have etog : ((ts.map Prod.fst).map fun a => absI (chg ts L1 (kvsOf (some (tblI (t.map Prod.fst) s1))) a)).sum = tog ts s s1 := tog_chg pt1 pk.symm
      rw [etog]
      have trk18 := trk17.keep (kz.sub yzZ)
      have dr18 := dr17.kx kz dyz
      have hq18 := kz _ _ qoff.1 hq17
      have hpb18 := kz _ _ (fun m => arT pb (by
        simp only [List.mem_cons, List.not_mem_nil, or_false] at m ⊢
        rcases m with e | e <;> simp [← e]) rfl) hpb17
      refine ⟨an, _, _, rfl, rfl, trk18.hn, by rw [List.length_map]; omega, ?_⟩
      obtain ⟨H19, e19⟩ : ∃ X, X = upd H18 an (.lst (ns2.map V.int ++ [V.int (tog ts s s1)])) := ⟨_, rfl⟩
      have trk19 : Trk H19 [y, z, d, l, i] ar ap an (rsS ++ [a1]) rsP ts (ss ++ [s1]) Ls (ns2 ++ [tog ts s s1]) := e19 ▸ trk18.addN
      have ra19 : RollAt CF CR [an, ap, ar, d, l, i] H19 y z x ts L2 (ps ++ [lsz ts L1]) := ra18.keep fun b u nb e => by
        rw [e19, upd_ne fun z => nb (by rw [z]; simp)]
        exact e
      have andr := ard trk18.off.2.2
      have dr19 : DrawB H19 d l i (b0 + 500 + 100 * (j : Int) + 100) := by rw [e19]; exact dr18.off andr.1 andr.2.1 andr.2.2
      have hq19 : H19 q = some (.dK (prs t)) := by rw [e19, upd_ne qoff.2.2.2]; exact hq18
      have hpb19 : H19 pb = some (.lst (((usr n).map (plOf ts L1)).map V.str)) := by rw [e19, upd_ne (arT an (by simp))]; exact hpb18
      rw [← e19]
      obtain ⟨dy3, q3, hy19⟩ := ra19.ins
      -- the point
      refine ⟨_, rfl, .inl ⟨rfl, _, SqL.of trk19.hp⟩, _, rfl, y, dy3, _, rfl, hy19, y, z, x, [an, ap, ar, d, l, i], ts, L2, ps ++ [lsz ts L1], rfl, ra19, ot, fun p1 r1 H20 s20 np1 nr1 hp1 => ?_⟩
      have trk20 := trk19.keep (.of_same s20)
      have n19 : ∀ b, H19 b = none → b ∉ ar :: ap :: an :: [y, z, d, l, i] := fun b hb m => by
        have no : ∀ u, H19 b ≠ some u := fun u w => by rw [hb] at w; cases w
        obtain ⟨t1, t2, t3⟩ := dr19.at3
        obtain ⟨yy, zz⟩ := ra19.yz
        simp only [List.mem_cons, List.not_mem_nil, or_false] at m
        rcases m with rfl | rfl | rfl | rfl | rfl | rfl | rfl | rfl
        · exact no _ trk19.hr
        · exact no _ trk19.hp
        · exact no _ trk19.hn
        · exact let ⟨u, e⟩ := yy; no u e
        · exact let ⟨u, e⟩ := zz; no u e
        · exact let ⟨u, e⟩ := t1; no u e
        · exact let ⟨u, e⟩ := t2; no u e
        · exact let ⟨u, e⟩ := t3; no u e
      refine ⟨ap, _, _, rfl, rfl, trk20.hp, by rw [List.length_map]; omega, ?_⟩
      obtain ⟨H21, e21⟩ : ∃ X, X = upd H20 ap (.lst (rsP.map V.ref ++ [V.ref p1])) := ⟨_, rfl⟩
      have trk21 : Trk H21 [y, z, d, l, i] ar ap an (rsS ++ [a1]) (rsP ++ [p1]) ts (ss ++ [s1]) (Ls ++ [L2]) (ns2 ++ [tog ts s s1]) := e21 ▸ trk20.addP (n19 _ np1) (fun p' hp' => n19 _ (nr1 p' hp')) hp1
      have ra21 : RollAt CF CR [an, ap, ar, d, l, i] H21 y z x ts L2 (ps ++ [lsz ts L1]) := (ra19.mono s20).keep fun b u nb e => by
        rw [e21, upd_ne fun z => nb (by rw [z]; simp)]
        exact e
      have apdr := ard trk20.off.2.1
      have dr21 : DrawB H21 d l i (b0 + 500 + 100 * (j : Int) + 100) := by rw [e21]; exact (dr19.mono s20).off apdr.1 apdr.2.1 apdr.2.2
      have hq21 : H21 q = some (.dK (prs t)) := by rw [e21, upd_ne qoff.2.2.1]; exact s20 _ _ hq19
      have hpb21 : H21 pb = some (.lst (((usr n).map (plOf ts L1)).map V.str)) := by rw [e21, upd_ne (arT ap (by simp))]; exact s20 _ _ hpb19
      rw [← e21]
      obtain ⟨dy4, q4, hy21⟩ := ra21.ins
      -- straight
      refine ⟨_, rfl, _, rfl, _, rfl, y, dy4, _, rfl, hy21, y, z, x, [an, ap, ar, d, l, i], ts, L2, ps ++ [lsz ts L1], n, rfl, ra21, ot, pt2.v, n1, n60, fun aa2 H22 s22 naa2 haa2 => ?_⟩
      obtain ⟨daa2, paa2, haa21, haa22⟩ := id haa2
      refine ⟨aa2, daa2, _, rfl, haa21, aa2, x, (usr n).map (plOf ts L2), rfl, haa2, fun pb2 npb2 => ?_⟩
      have sb2 := same_new (o := .lst (((usr n).map (plOf ts L2)).map V.str)) npb2
      have s23 : Same H21 (upd H22 pb2 (.lst (((usr n).map (plOf ts L2)).map V.str))) := s22.trans sb2
      have trk23 := trk21.keep (.of_same s23)
      obtain ⟨ao, hao, _, loo, ploo, haoH⟩ := pair_at (i := j) (y := s) trk23.sz (by rw [List.getElem?_append_left (by omega)]; exact hss)
      have hao' : rsS[j]? = some ao := by
        rw [List.getElem?_append_left (by omega)] at hao
        exact hao
      obtain ⟨ax, hax, nax, lox, plox, haxH⟩ := pair_at (i := j + 1) (y := s1) trk23.sz (by rw [List.getElem?_append_right (by omega), show j + 1 - ss.length = 0 by omega] <;> rfl)
      have eax : ax = a1 := by
        rw [List.getElem?_append_right (by omega), show j + 1 - rsS.length = 0 by omega] at hax
        exact (Option.some.inj hax).symm
      subst eax
      have row2 : atI ((rsS ++ [ax]).map V.ref) (-2) = some (V.ref ao) := by
        rw [List.map_append]
        exact at_before (by rw [List.length_map, show rsS.length - 1 = j by omega, List.getElem?_map, hao'] <;> rfl)
      refine ⟨_, rfl, _, rfl, ar, _, _, _, rfl, rfl, SqL.of trk23.hr, row2, _, rfl, _, rfl, ar, _, _, _, rfl, rfl, SqL.of trk23.hr, row1, ?_⟩
      refine ⟨q, pb, pb2, ao, ax, t, loo, lox, s, s1, (usr n).map (plOf ts L1), (usr n).map (plOf ts L2), rfl, s23 _ _ hq21, o, s23 _ _ hpb21, upd_same, haoH, haxH, fun b hb => ⟨ploo.mem_iff.mpr (pk.mem_iff.mpr hb), plox.mem_iff.mpr (pk.mem_iff.mpr hb)⟩, by rw [List.length_map, List.length_map], fun j' p' p'' h1 h2 => pt_direct ot pts pt1 pt2 st2 h1 h2, fun H24 s24 => ⟨true, rfl, iteF ?_⟩⟩
      have s2324 := s23.trans s24
      refine ⟨⟨_, _, _, rfl⟩, (dr21.mono s2324).more (by omega), s2324 _ _ hq21, rsS ++ [ax], rsP ++ [p1], ss ++ [s1], Ls ++ [L2], ns2 ++ [tog ts s s1], s1, L2, ps ++ [lsz ts L1], trk21.keep (.of_same s2324), chn.more (by rw [ln]; exact hss) (by rw [ln]; exact hLs) pt2 st2, by rw [List.length_append, ln] <;> rfl, by rw [List.length_append, lps] <;> rfl, ?_, ?_, ra21.mono s2324⟩
      · rw [List.getElem?_append_right (by omega), show j + 1 - ss.length = 0 by omega] <;> rfl
      · rw [List.getElem?_append_right (by omega), show j + 1 - Ls.length = 0 by omega] <;> rfl
    · intro σ' H13 ⟨⟨u2, u9, u10, eσ⟩, dr13, hq13, rsS, rsP, ss, Ls, ns2, s, L1, ps, trk, chn, ln, lps, hss, hLs, ra⟩
      subst eσ
      obtain ⟨M, eM⟩ : ∃ M : Nat, M = m2.toNat := ⟨_, rfl⟩
      rw [← eM] at ln lps hss hLs
      have M1 : 1 ≤ M := by omega
      have M6 : M ≤ 6 := by omega
      have cl1 := chn.l1
      have cl2 := chn.l2
      have lS := pair_len trk.sz
      have lP := pair_len trk.pt
      refine ⟨_, rfl, an, _, rfl, .inl (SqL.of trk.hn), _, _, rfl, rfl, _, rfl, _, rfl, (M : Int) - 1, -1, -1, M, by rw [List.length_map, ln] <;> rfl, ?_, ?_⟩
      · have z := RgC.neg (i := (M : Int) - 1) (j := -1) (by omega) (by omega) (by omega) (by omega)
        rw [show ((M : Int) - 1 - -1).toNat = M by omega] at z
        exact z
      refine for_it (walk_rangeC (lo := (M : Int) - 1) (c := -1) (n := M)) (fun kk σ' H' => (∃ u2 u9 u10, σ' = [some (.ref a), some (.ref d), u2, some (.ref q), some (.int (n : Int)), some (.ref y), some (.ref ar), some (.ref ap), some (.ref an), u9, u10]) ∧ DrawB H' d l i (b0 + 500 + 100 * (M : Int)) ∧ Trk H' [y, z, d, l, i] ar ap an rsS rsP ts ss Ls ns2 ∧
        ∃ (s' : Str → Int) (Lc : Str → List Int) (ps' : List (Str → Int)), ss[M - kk]? = some s' ∧ Ls[M - kk]? = some Lc ∧ ps'.length = M + kk ∧ RollAt CF CR [an, ap, ar, d, l, i] H' y z x ts Lc ps') ⟨⟨_, _, _, rfl⟩, by rw [eM]; exact dr13, trk, s, L1, ps, hss, hLs, lps, ra⟩ (fun _ _ _ _ _ => trivial) ?_ ?_
      · intro kk xk σ' Hb3 H14 hk ⟨⟨u2, u9, u10, eσ⟩, dr14, trk14, s', Lc, ps', hs', hLc, lps', ra14⟩ ⟨e1, e2⟩
        subst eσ
        subst e1
        subst e2
        obtain ⟨ix, eix⟩ : ∃ ix : Nat, ix + 1 = M - kk := ⟨M - kk - 1, by omega⟩
        rw [← eix] at hs' hLc
        have ixv : ((M : Int) - 1 + ((kk : Nat) : Int) * -1) = (ix : Int) := by omega
        have ixl : ix < ss.length := by omega
        have ixl2 : ix < Ls.length := by omega
        have hs := List.getElem?_eq_getElem ixl
        have hL := List.getElem?_eq_getElem ixl2
        obtain ⟨sx, esx⟩ : ∃ sx, sx = ss[ix] := ⟨_, rfl⟩
        obtain ⟨Lx, eLx⟩ : ∃ Lx, Lx = Ls[ix] := ⟨_, rfl⟩
        rw [← esx] at hs
        rw [← eLx] at hL
        have pt0 := chn.pt ix sx Lx hs hL
        have pt1 := chn.pt (ix + 1) s' Lc hs' hLc
        obtain ⟨st, hnx⟩ := chn.st ix sx Lx s' Lc hs hL hs' hLc
        obtain ⟨dy1, q1, hy1⟩ := ra14.ins
        obtain ⟨ao, hao, nao, lo, plo, haoH⟩ := pair_at trk14.sz hs
        have rowx : atI (rsS.map V.ref) (ix : Int) = some (V.ref ao) := atI_nat (by rw [List.getElem?_map, hao] <;> rfl)
        have ndl : lo.Nodup := plo.nodup_iff.mpr ot.nd
        have lol : lo.length ≤ 64 := by
          have := plo.length_eq
          have := ot.few
          rw [List.length_map] at *
          omega
        have plr : lo.reverse.Perm (ts.map Prod.fst) := (List.reverse_perm lo).trans plo
        show tSeq _ _ _ [some (.ref a), some (.ref d), u2, some (.ref q), some (.int (n : Int)), some (.ref y), some (.ref ar), some (.ref ap), some (.ref an), some (.int ((M : Int) - 1 + ((kk : Nat) : Int) * -1)), u10] H14
        rw [ixv]
        refine ⟨_, rfl, y, dy1, _, rfl, hy1, rfl, _, rfl, _, rfl, ar, _, _, _, rfl, rfl, SqL.of trk14.hr, rowx, ao, lo, sx, rfl, haoH, ndl, lol, fun pf H15 s15 npf hpf => ?_⟩
        have exT : ∀ b ∈ [an, ap, ar, d, l, i], ∃ u, H15 b = some u := fun b hb => by
          obtain ⟨⟨u1, t1⟩, ⟨u2, t2⟩, ⟨u3, t3⟩⟩ := dr14.at3
          simp only [List.mem_cons, List.not_mem_nil, or_false] at hb
          rcases hb with rfl | rfl | rfl | rfl | rfl | rfl
          · exact ⟨_, s15 _ _ trk14.hn⟩
          · exact ⟨_, s15 _ _ trk14.hp⟩
          · exact ⟨_, s15 _ _ trk14.hr⟩
          · exact ⟨_, s15 _ _ t1⟩
          · exact ⟨_, s15 _ _ t2⟩
          · exact ⟨_, s15 _ _ t3⟩
        refine ⟨y, z, x, .ref pf, [an, ap, ar, d, l, i], ts, Lc, ps', n, some (tblI lo.reverse sx), rfl, ra14.mono s15, ot, pt1.v, n1, n60, by omega, sz_tblB hpf, exT, ?_⟩
        rw [pt0.fe.ok plr]
        intro H16 Lb mv kp2 ra16
        have kz := kp2.kx
        have back := pt_back ot pt1 st plr mv
        have ra16 := ra16.congr back
        have etog : ((ts.map Prod.fst).map fun a => absI (chg ts Lc (kvsOf (some (tblI lo.reverse sx))) a)).sum = tog ts sx s' := (tog_chg pt1 plr).trans (tog_back ts sx s')
        have trk16 := (trk14.keep (.of_same s15)).keep (kz.sub yzZ)
        have dr16 := (dr14.mono s15).kx kz dyz
        have num : atI (ns2.map V.int) (ix : Int) = some (V.int (tog ts sx s')) := atI_nat (by rw [List.getElem?_map, hnx] <;> rfl)
        rw [etog]
        refine ⟨_, rfl, _, rfl, an, _, _, _, rfl, rfl, SqL.of trk16.hn, num, rfl, _, rfl, ?_⟩
        rw [decide_eq_true rfl]
        refine iteF ?_
        -- the texts
        obtain ⟨dy2, q2, hy2⟩ := ra16.ins
        refine ⟨_, rfl, y, dy2, _, rfl, hy2, y, z, x, [an, ap, ar, d, l, i], ts, Lx, _, rfl, ra16, ot, fun q' r' H17 s17 nq' nr' hL' => ?_⟩
        obtain ⟨v1, v2, v3, v4, v5⟩ := ls_repr (K := K) ot pt0.v n60 hL'
        refine ⟨q', lsE (pls ts) r' Lx, rfl, v1, v2, v3, v4, v5, ?_⟩
        have trk17 := trk16.keep (.of_same s17)
        obtain ⟨pp, hpp, npp, rp, hLp, nrp⟩ := pair_at trk17.pt hL
        have rowp : atI (rsP.map V.ref) (ix : Int) = some (V.ref pp) := atI_nat (by rw [List.getElem?_map, hpp] <;> rfl)
        obtain ⟨w1, w2, w3, w4, w5⟩ := ls_repr (K := K) ot pt0.v n60 hLp
        refine ⟨_, rfl, _, rfl, ap, _, _, _, rfl, rfl, SqL.of trk17.hp, rowp, pp, lsE (pls ts) rp Lx, rfl, w1, w2, w3, w4, w5, rfl, _, rfl, ?_⟩
        rw [lsE_D, lsE_D, decide_eq_true rfl]
        refine iteF ?_
        -- the sizes
        have ra17 := ra16.mono s17
        refine ⟨_, rfl, y, dy2, _, rfl, s17 _ _ hy2, y, z, x, [an, ap, ar, d, l, i], ts, Lx, _, rfl, ra17, ot, fun a2 H18 s18 na2 ha2 => ?_⟩
        have trk18 := trk17.keep (.of_same s18)
        refine ⟨_, rfl, _, rfl, ar, _, _, _, rfl, rfl, SqL.of trk18.hr, rowx, ?_⟩
        obtain ⟨ao2, hao2, nao2, lo2, plo2, haoH2⟩ := pair_at trk18.sz hs
        have eao : ao2 = ao := Option.some.inj (hao2.symm.trans hao)
        subst eao
        refine ⟨a2, ao2, _, _, rfl, rfl, ha2, haoH2, by rw [tblI_len, tblI_len, plo2.length_eq], fun pp hp => ?_, _, rfl, iteF ?_⟩
        · obtain ⟨j, hj⟩ := List.mem_iff_getElem?.mp hp
          obtain ⟨kk', vv⟩ := pp
          obtain ⟨b, hb, rfl, rfl⟩ := tblI_at hj
          have mb := List.mem_of_getElem? hb
          refine ⟨?_, rfl⟩
          rw [tblI_val (plo2.mem_iff.mpr mb), pt0.sz b mb]
        · refine ⟨⟨_, _, _, rfl⟩, (dr16.mono s17).mono s18, trk18, sx, Lx, ps' ++ [lsz ts Lc], ?_, ?_, by rw [List.length_append, lps'] <;> rfl, ra17.mono s18⟩
          · rw [show M - (kk + 1) = ix by omega]
            exact hs
          · rw [show M - (kk + 1) = ix by omega]
            exact hL
      · intro σ' H14 ⟨⟨u2, u9, u10, eσ⟩, dr14, trk14, s', Lc, ps', hs', hLc, lps', ra14⟩
        subst eσ
        obtain ⟨dy1, q1, hy1⟩ := ra14.ins
        refine ⟨_, rfl, y, dy1, _, rfl, hy1, y, z, x, [an, ap, ar, d, l, i], ts, Lc, ps', rfl, ra14, ?_⟩
        refine ⟨_, rfl, an, _, rfl, .inl (SqL.of trk14.hn), _, _, rfl, rfl, ?_, rfl, _, rfl, ?_⟩
        · exact .inl ⟨by decide, by decide⟩
        · rw [decide_eq_true (show V.int ((ps'.length : Nat) : Int) = V.int (2 * (((ns2.map V.int).length : Nat) : Int)) by rw [List.length_map, ln, lps']; congr 1; omega)]
          exact iteF ⟨⟨_, _, _, _, _, _, _, _, _, rfl⟩, dr14.more (by omega)⟩
end
end FT


/-! Own: defs that make lambdas (their code object known), and the end of a law's row from a contract FnG with tables of code objects. -/
namespace L2
open PySem PySem.Spec PyProof.Rows LamX
/-- as Fun, the code object's place told -/
structure FunC (K : PySem.W.Frag) (x qual : Str) (st : Stmt) (f : Addr) (fd : FuncData) (c : Addr) : Prop where
  ex : ∃ (oc : Value) (od : Option Addr) (kV doc pm : Value) (an : Option Addr) (ct : Value) (osl : Array (Option Value)),
    fd = PySem.W.fnOf x qual (defArgs st) (defBody st) (defScope st) .none kV doc pm an (.ref c) ct ∧ K.lookup f = some ⟨oc, od, .func fd, osl⟩ ∧ PySem.W.codeIn K (.ref c) qual = true
  kp : PySem.W.keepIn K (.ref f) = true
theorem FunC.fun {K : PySem.W.Frag} {x qual : Str} {st : Stmt} {f c : Addr} {fd : FuncData} (F : FunC K x qual st f fd c) : Fun K x qual st f fd :=
  let ⟨oc, od, kV, doc, pm, an, ct, osl, e1, e2, e3⟩ := F.ex
  ⟨⟨oc, od, kV, doc, pm, an, .ref c, ct, osl, e1, e2, e3⟩, F.kp⟩
theorem funC_mk {K : PySem.W.Frag} {x qual : Str} {st : Stmt} {f c : Addr} {oc : Value} {od an : Option Addr} {osl : Array (Option Value)} {kV doc pm ct : Value} (l : K.lookup f = some ⟨oc, od, .func (PySem.W.fnOf x qual (defArgs st) (defBody st) (defScope st) .none kV doc pm an (.ref c) ct), osl⟩)
    (e : PySem.W.codeIn K (.ref c) qual = true) (k : PySem.W.keepIn K (.ref f) = true) : FunC K x qual st f (PySem.W.fnOf x qual (defArgs st) (defBody st) (defScope st) .none kV doc pm an (.ref c) ct) c := ⟨⟨oc, od, kV, doc, pm, an, ct, osl, rfl, l, e⟩, k⟩
section
variable {P : Program} {w : World} {K : PySem.W.Frag} {mg : Str → Option Value} {base : Heap}
theorem FunC.ok {x qual : Str} {st : Stmt} {f c : Addr} {fd : FuncData} {N ps : List Str} {k : Nat} {sp : Sp} (F : FunC K x qual st f fd c) (S : FnScope N ps (defScope st)) (len : ∀ vs H Q E, sp vs H Q E → vs.length = ps.length)
    (body : ∀ (A : Around) (outer : List Env) (s : Shared) (H : Hp) (vs : List V) (Q : VK) (E : XK), Room k (A.deeper (envOfC qual (defScope st) s.heap.objs.size f (.ref c))) → sp vs H Q E →
      ∃ t, PSs (cxOf CX0 P w K mg base N qual (defScope st) f (.ref c) A outer s H E).nox (defBody st) t ∧ t { nx := fun _ H' => Q .non H', rt := Q } (start N vs) H) : FnOk P w K mg base CX0 (k + 1) f fd ps sp := by
  obtain ⟨oc, od, kV, doc, pm, an, ct, osl, rfl, lk, code⟩ := F.ex
  refine fn_of lk code S len fun A outer s H vs Q E room want => ?_
  obtain ⟨t, h, q⟩ := body A outer s H vs Q E room want
  exact ⟨t, h.nox, q⟩
theorem FunC.okG {x qual : Str} {st : Stmt} {f c : Addr} {fd : FuncData} {N ps : List Str} {k : Nat} {sp : Sp} (F : FunC K x qual st f fd c) (S : FnScope N ps (defScope st)) (len : ∀ vs H Q E, sp vs H Q E → vs.length = ps.length)
    (body : ∀ (A : Around) (outer : List Env) (s : Shared) (H : Hp) (vs : List V) (Q : VK) (E : XK), Clr A → Room k (A.deeper (envOfC qual (defScope st) s.heap.objs.size f (.ref c))) → sp vs H Q E →
      ∃ t, PSs (cxOf CX0 P w K mg base N qual (defScope st) f (.ref c) A outer s H E).nox (defBody st) t ∧ t { nx := fun _ H' => Q .non H', rt := Q } (start N vs) H) : FnG P w K mg base CX0 (k + 1) f fd ps sp := by
  obtain ⟨oc, od, kV, doc, pm, an, ct, osl, rfl, lk, code⟩ := F.ex
  refine ⟨len, fun A outer s H args us vs Q E clr room e0 binds rel want => ?_⟩
  have nps := len _ _ _ _ want
  have KX : K.In s.heap := e0.mod.kin.keeps fun b o e => (e0.bs b o e).1
  have lim : s.heap.NoLimit := e0.mod.nolimit.keeps fun b o e => (e0.bs b o e).1
  refine codeAny_call_function room.depth (KX _ _ lk) rfl S.co S.gen rfl (PySem.W.codeRec_of KX code) (binds _ _ _ _ (wpAny_newFunctionEnv_cells S.kind (fun y hy => ?_) fun env he s1 x => ?_))
  · obtain ⟨n, v⟩ := y
    exact (S.par n (List.of_mem_zip hy).1).elim .inl fun q => .inr ⟨q, PySem.W.cellsFrom_some _ _ _ (.inl q)⟩
  · subst he
    obtain ⟨t, term, q⟩ := body A outer s H vs Q E clr (room.deeper _) want
    have I : Inv (cxOf CX0 P w K mg base N qual (defScope st) f (.ref c) A outer s H E) [] (start N vs) H s1 := inv_start S room.hd e0 nps rel x
    refine ⟨lim.keeps x.toInCall.keep, codeAny_func (wpAny_mono (term.nox.run [] s1 (start N vs) H _ I q) (fun fl s' z => ?_) fun _ _ z => z)⟩
    match fl, z with
    | .ret u, ⟨v, _, H', J, rv, q⟩ => exact ⟨v, H', J.os, J.bare, J.base, J.hok, rv, q⟩
    | .next, ⟨_, H', J, q⟩ => exact ⟨.non, H', J.os, J.bare, J.base, J.hok, rfl, q⟩
    | .brk, ⟨_, _, _, q⟩ => exact q.elim
    | .cont, ⟨_, _, _, q⟩ => exact q.elim
end
section
variable {P : Program} {w : World} {K : PySem.W.Frag} {mg mb : Str → Option Value} {k : Nat} {fa a : Addr} {fd : FuncData} {x : Str} {sp : Sp} {s : Shared} {vs : List Value} {ns : List Int} {cs : List (Addr × Addr)}
/-- the code objects and their tables: empty, not of the written part -/
abbrev TabsIn (K : PySem.W.Frag) (h : Heap) (cs : List (Addr × Addr)) : Prop := ∀ p ∈ cs, PySem.W.CodeHd h p.1 p.2 ∧ h.get? p.2 = some (PySem.W.tabObj #[]) ∧ K.lookup p.2 = none
/-- the abstract heap at the law's entry: the tables, and the script, locked, or where it is the module's own the tables alone -/
structure EntT (K : PySem.W.Frag) (cs : List (Addr × Addr)) (a : Addr) (vs : List Value) (ns : List Int) (H : Hp) : Prop where
  tab : ∀ p ∈ cs, H p.2 = some (.tbl #[])
  dom : ∀ b u, H b = some u → (b = a ∧ u = .frz { cls := .type "list", data := .seq vs.toArray } (.lst (ns.map V.int))) ∨ ∃ p ∈ cs, b = p.2
  own : H a ≠ none → K.lookup a = none
theorem entT_run (KX : K.In s.heap) (hns : s.heap.Ns mainGlobals mg) (hb : s.heap.Ns builtinsNs mb) (hbb : ∀ y : Str, y ≠ "__name__" → mb y = bootBuiltins y) (lim : s.heap.NoLimit) (gens : s.gens = #[]) (ti : TabsIn K s.heap cs)
    (bmain : ∃ (bm : Addr) (ob : Obj), mg "__builtins__" = some (.ref bm) ∧ bm ≠ builtinsNs ∧ s.heap.get? bm = some ob ∧ ob.cls = .type "module" ∧ ob.dict = some builtinsNs ∧ ob.data = .plain)
    (oa : s.heap.get? a = some { cls := .type "list", data := .seq vs.toArray }) (rv : Vals (ns.map V.int) vs) (few : ns.length ≤ sizeLine) (room : Room k callerA)
    (F : ∀ base : Heap, K.In base → base.Ns mainGlobals mg → (∀ p ∈ cs, TabB base mg p.1 p.2) → FnG P w K mg base CX0 k fa fd [x] sp)
    (bind : ∀ (s : Shared) (u : Value), BindsTo s fd ⟨[u], []⟩ [(x, u)]) {H : Hp} (en : EntT K cs a vs ns H) (want : sp [.ref a] H (fun v _ => v = .bl true) fun _ _ _ => False) :
    codeAny (model P w) callerA (.call (.ref fa) ⟨[.ref a], []⟩) (fun r s' => r = .ok (.ret (.bool true)) ∧ OldK s.heap s'.heap ∧ s'.os = s.os ∧ AllBare s'.gens) s := by
  -- what is tracked: a list or a table
  have kinds : ∀ {b : Addr} {o : Obj}, s.heap.get? b = some o → H b ≠ none → o = { cls := .type "list", data := .seq vs.toArray } ∨ o = PySem.W.tabObj #[] := fun {b o} q n => by
    cases r : H b with
    | none => exact absurd r n
    | some u =>
      rcases en.dom b u r with ⟨rfl, _⟩ | ⟨p, hp, rfl⟩
      · rw [oa] at q
        exact .inl (Option.some.inj q).symm
      · rw [(ti p hp).2.1] at q
        exact .inr (Option.some.inj q).symm
  have loose : ∀ {b : Addr} {o : Obj}, s.heap.get? b = some o → (∀ vs n, o.data ≠ .seq vs n) → (o.data = .fields #[] → False) → H b = none := fun {b o} q h1 h2 => by
    refine Decidable.byContradiction fun n => ?_
    rcases kinds q n with e | e
    · exact h1 _ _ (by rw [e])
    · exact h2 (by rw [e])
  have seen : ∀ {b : Addr} {o : Obj}, s.heap.get? b = some o → H b = none → (hidT s.heap H).get? b = some o := fun q n => hidT_get q n
  have dict : ∀ {b : Addr} {o : Obj} {es : Array DictEntry} {ep : Nat}, s.heap.get? b = some o → o.data = .dict es ep → (hidT s.heap H).get? b = some o := fun q d => seen q (loose q (fun vs n z => nomatch d.symm.trans z) fun z => nomatch d.symm.trans z)
  have nsT : ∀ {b : Addr} {m : Str → Option Value}, s.heap.Ns b m → (hidT s.heap H).Ns b m := fun ⟨o, es, ep, q, d, r⟩ => ⟨o, es, ep, dict q d, d, r⟩
  have KT : K.In (hidT s.heap H) := fun b o q => seen (KX b o q) (Decidable.byContradiction fun n => by
    cases r : H b with
    | none => exact n r
    | some u =>
      rcases en.dom b u r with ⟨rfl, _⟩ | ⟨p, hp, rfl⟩
      · rw [en.own n] at q
        cases q
      · rw [(ti p hp).2.2] at q
        cases q)
  have isTab : ∀ b u, H b = some u → ∀ q, u = .tbl q → s.heap.get? b = some (PySem.W.tabObj #[]) ∧ q = #[] := fun b u r q e => by
    rcases en.dom b u r with ⟨_, z⟩ | ⟨p, hp, rfl⟩
    · rw [e] at z
      cases z
    · refine ⟨(ti p hp).2.1, ?_⟩
      have z := en.tab p hp
      rw [r, e] at z
      cases z
      rfl
  have ok : HOk P w H s.heap := fun b u r => by
    rcases en.dom b u r with ⟨rfl, rfl⟩ | ⟨p, hp, rfl⟩
    · exact ⟨oa, by rw [List.length_map]; exact few, vs, _, rv, oa⟩
    · rw [en.tab p hp] at r
      cases r
      exact (ti p hp).2.1
  have TB : ∀ p ∈ cs, TabB (hidT s.heap H) mg p.1 p.2 := fun p hp => by
    obtain ⟨C, tp, _⟩ := ti p hp
    refine ⟨?_, ?_, fun z => ?_⟩
    · obtain ⟨o, us, file, tf, flags, tg, inF, text, tt, e1, r1, r2, r3, r⟩ := C
      refine ⟨o, us, file, tf, flags, tg, inF, text, tt, seen e1 (loose e1 (fun vs n z => nomatch r2.symm.trans z) fun z => ?_), r1, r2, r3, r⟩
      have e := r2.symm.trans z
      cases e
      simp at r3
    · obtain ⟨bm, ob, b1, b2, b3, b4, b5, b6⟩ := bmain
      refine ⟨bm, ob, b1, b2, fun q => ?_, fun q => ?_, seen b3 (loose b3 (fun vs n z => nomatch b6.symm.trans z) fun z => nomatch b6.symm.trans z), b4, b5, b6⟩
      · obtain ⟨o, es, ep, e, hd, _⟩ := hns
        rw [q, e] at b3
        cases b3
        cases hd.symm.trans b6
      · rw [q, tp] at b3
        cases b3
        cases b6
    · obtain ⟨o, es, ep, e, hd, _⟩ := hns
      rw [z, tp] at e
      cases e
      cases hd
  have e0 : Env0 P w K mg (hidT s.heap H) callerA [] s H :=
    ⟨rfl, ⟨KT, nsT hns, ⟨mb, nsT hb, hbb⟩, let ⟨m, z1, z2⟩ := lim; ⟨m, nsT z1, z2⟩⟩, fun b o q => of_hidT q, Nat.le_of_eq (hidT_size _ _), trivial, fun b z => absurd (show b ∈ ([] : List Addr) from z) (by simp), ok, .of_eq gens⟩
  refine codeAny_mono ((F _ KT (nsT hns) TB).run callerA [] s H ⟨[.ref a], []⟩ [.ref a] [.ref a] _ _ rfl room e0 (bind s (.ref a)) (.cons rfl .nil) want) fun r s' z => ?_
  match r, z with
  | .error _, z => exact z.elim
  | .ok .next, z => exact z.elim
  | .ok .brk, z => exact z.elim
  | .ok .cont, z => exact z.elim
  | .ok (.ret u), ⟨v, H', os, bare, un, ok', rv', q⟩ =>
    obtain rfl : v = .bl true := q
    obtain rfl : u = Value.bool true := rv'
    -- an object stays, or is a table that has grown
    have way : ∀ b o, s.heap.get? b = some o → s'.heap.get? b = some o ∨ ∃ p ∈ cs, b = p.2 ∧ ∃ more : Array Value, s'.heap.get? b = some (PySem.W.tabObj more) := fun b o q => by
      cases r : H b with
      | none => exact .inl (un.keep b o q r (fun z => absurd (show b ∈ ([] : List Addr) from z) (by simp)) (by simp))
      | some u =>
        rcases en.dom b u r with ⟨rfl, rfl⟩ | ⟨p, hp, rfl⟩
        · have q1 := (ok b _ r).1
          rw [q] at q1
          cases q1
          exact .inl (ok' b _ (un.frzs b _ _ r)).1
        · obtain ⟨more, z⟩ := un.tbls p.2 #[] (en.tab p hp)
          exact .inr ⟨p, hp, rfl, _, ok' p.2 _ z⟩
    refine ⟨rfl, ⟨fun b o q => ?_, fun b o q => ?_⟩, os, bare⟩
    · rcases way b o q with z | ⟨p, hp, rfl, more, z⟩
      · exact .inl z
      · obtain ⟨C, tp, _⟩ := ti p hp
        rw [tp] at q
        cases q
        exact .inr (.inl ⟨(C.tab tp).isCodeTable, rfl, #[], more, rfl, by rw [Array.empty_append]; exact z⟩)
    · rcases way b o q with z | ⟨_, _, _, more, z⟩
      · exact ⟨o, z⟩
      · exact ⟨_, z⟩
end
/-- the law's promise with its tables -/
def LawTG (l : PySem.W.OpenLaw) (w : World) (K : PySem.W.Frag) (k n : Nat) (x : Str) (mg : Str → Option Value) (fa : Addr) (h : Heap) : Prop :=
  ∃ (fd : FuncData) (cs : List (Addr × Addr)) (sp : Sp), TabsIn K h cs ∧ (∀ (s : Shared) (u : Value), BindsTo s fd ⟨[u], []⟩ [(x, u)]) ∧
    (∀ (H : Hp) (a : Addr) (ns : List Int), ns.length ≤ n → (∀ p ∈ cs, H p.2 = some (.tbl #[])) → SqL K H a (ns.map V.int) → sp [.ref a] H (fun v _ => v = .bl true) fun _ _ _ => False) ∧
    ∀ base : Heap, K.In base → base.Ns mainGlobals mg → (∀ p ∈ cs, TabB base mg p.1 p.2) → FnG l.prog w K mg base CX0 k fa fd [x] sp
/-- what the head tells of a def's table -/
abbrev TabsOf (q : Program) (K : PySem.W.Frag) (h : Heap) : Prop := ∀ (y : Str) (c P : Addr), ((recsOf q).find? (fun e => e.name == y)).isSome = true → PySem.W.tabIn K y = some (c, P) → PySem.W.CodeHd h c P ∧ h.get? P = some (PySem.W.tabObj #[])
/-- the goal behind the head, from such a promise -/
theorem walk_tabG {l : PySem.W.OpenLaw} {n k : Nat} {q : Program} {loose : List Str} {XP : (Str → Option Value) → Heap → Prop} {YP : World → Heap → Prop} {d : DefRec} {K : Params → PySem.W.Frag} {x : Str}
    (most : l.most = some n) (few : n ≤ sizeLine) (nodf : d.params.defaults = []) (room : Room k callerA) (hY : ∀ (w : World) (h : Heap), YP w h → (K w.params).In h)
    (F : ∀ (w : World) (mg : Str → Option Value) (fa : Addr) (h : Heap), (K w.params).In h → h.Ns mainGlobals mg → mg d.name = some (.ref fa) → TabsOf q (K w.params) h → XP mg h → LawTG l w (K w.params) k n x mg fa h) :
    PySem.W.WalkO q loose XP YP l.row.toRowW d [] (fun f vs => PySem.call f vs) :=
  Att.attach_call most nodf fun w _ s mg mb fa _ _ _ _ a vs ns G Y _ _ _ hmg hobj hints hlen hg => by
    have KX := hY w _ Y
    obtain ⟨fd, cs, sp, ti, bind, hsp, hF⟩ := F w mg fa _ KX G.T.g hmg (fun y c P hr ht => let ⟨d', hd⟩ := Option.isSome_iff_exists.mp hr; PySem.W.tab_of G.T KX hd ht) G.X
    have rv := vals_ints hints
    have len := hints.length
    have tne : ∀ p ∈ cs, p.2 ≠ a := fun p hp z => by
      have e := (ti p hp).2.1
      rw [z, hobj] at e
      cases e
    cases own : (K w.params).lookup a with
    | some o =>
      have e := KX a o own
      rw [hobj] at e
      cases e
      obtain ⟨H, eH⟩ : ∃ H : Hp, H = fun b => if b ∈ cs.map (·.2) then some (.tbl #[]) else none := ⟨_, rfl⟩
      have inT : ∀ p ∈ cs, H p.2 = some (.tbl #[]) := fun p hp => by
        rw [eH]
        exact if_pos (List.mem_map.mpr ⟨p, hp, rfl⟩)
      have outT : ∀ b, b ∉ cs.map (·.2) → H b = none := fun b n => by
        rw [eH]
        exact if_neg n
      have na : a ∉ cs.map (·.2) := fun m => by
        obtain ⟨p, hp, e⟩ := List.mem_map.mp m
        exact tne p hp e
      refine entT_run KX G.T.g G.T.b G.T.builtins G.T.nolimit hg ti G.T.bmain hobj rv (Nat.le_trans hlen few) room hF bind (H := H) ⟨inT, fun b u r => .inr ?_, fun z => absurd (outT a na) z⟩
        (hsp H a ns hlen inT (.inr ⟨_, vs.toArray, _, own, rfl, rfl, rfl, by rw [List.size_toArray, len]; exact Nat.le_trans hlen few, by simpa using rv⟩))
      refine Decidable.byContradiction fun n => ?_
      rw [outT b fun m => n (let ⟨p, hp, e⟩ := List.mem_map.mp m; ⟨p, hp, e.symm⟩)] at r
      cases r
    | none =>
      obtain ⟨H, eH⟩ : ∃ H : Hp, H = fun b => if b = a then some (.frz { cls := .type "list", data := .seq vs.toArray } (.lst (ns.map V.int))) else if b ∈ cs.map (·.2) then some (.tbl #[]) else none := ⟨_, rfl⟩
      have atA : H a = some (.frz { cls := .type "list", data := .seq vs.toArray } (.lst (ns.map V.int))) := by rw [eH]; exact if_pos rfl
      have inT : ∀ p ∈ cs, H p.2 = some (.tbl #[]) := fun p hp => by
        rw [eH]
        exact (if_neg (tne p hp)).trans (if_pos (List.mem_map.mpr ⟨p, hp, rfl⟩))
      refine entT_run KX G.T.g G.T.b G.T.builtins G.T.nolimit hg ti G.T.bmain hobj rv (Nat.le_trans hlen few) room hF bind (H := H) ⟨inT, fun b u r => ?_, fun _ => own⟩ (hsp H a ns hlen inT (.inl (.inr ⟨_, atA⟩)))
      by_cases n : b = a
      · subst n
        rw [atA] at r
        exact .inl ⟨rfl, (Option.some.inj r).symm⟩
      · refine .inr (Decidable.byContradiction fun m => ?_)
        rw [eH] at r
        have r' := (if_neg n).symm.trans r
        rw [if_neg fun z => m (let ⟨p, hp, e⟩ := List.mem_map.mp z; ⟨p, hp, e.symm⟩)] at r'
        cases r'
end L2


/-! what the module's top says of classes, of defs: the form that the row's end asks for. -/
namespace FT
open PySem L2 TL ClX
abbrev exTail : List Value := [.type "ValueError", .type "Exception", .type "BaseException", .type "object"]
/-- an own class at C, its chain behind it -/
def ClsAt (K : PySem.W.Frag) (C : Addr) (bm : List Value) : Prop := ∃ nm q N bs sn sub ab col dd k0 k1 k2 k3 k5, K.lookup C = some (excClassObj nm q C N bs bm true sn sub ab col dd k0 k1 k2 k3 k5 "ValueError.__new__")
section
variable {K : PySem.W.Frag} {C : Addr} {bm : List Value}
theorem ClsAt.cls (h : ClsAt K C bm) : ∃ cd : ClassData, PySem.W.clsIn K C = some cd ∧ cd.mro = .ref C :: bm ∧ cd.hasDict = true := by
  obtain ⟨nm, q, N, bs, sn, sub, ab, col, dd, k0, k1, k2, k3, k5, e⟩ := h
  refine ⟨{ name := nm, bases := bs, mro := .ref C :: bm, ns := N, qualname := q, hasDict := true, slotNames := sn, subclasses := sub, abstract := ab, collection := col }, ?_, rfl, rfl⟩
  unfold PySem.W.clsIn
  rw [e]
theorem ClsAt.ty (h : ClsAt K C bm) : PySem.W.typeIn K (.ref C) = some (.type "type") := by
  obtain ⟨nm, q, N, bs, sn, sub, ab, col, dd, k0, k1, k2, k3, k5, e⟩ := h
  show (K.lookup C).map (·.cls) = _
  rw [e] <;> rfl
theorem ClsAt.mroIs (h : ClsAt K C bm) (b : Value) : PySem.W.mroIn K C b = some ((Value.ref C :: bm).contains b) := by
  obtain ⟨cd, e1, e2, _⟩ := h.cls
  unfold PySem.W.mroIn
  rw [e1]
  show (if cd.mro.isEmpty then none else some (cd.mro.contains b)) = _
  rw [e2] <;> rfl
theorem ClsAt.sub (h : ClsAt K C bm) (b : Value) : PySem.W.subIn K (.ref C) b = some ((Value.ref C :: bm).contains b) := h.mroIs b
theorem ClsAt.hd (h : ClsAt K C bm) : PySem.W.hasDictIn K C = true := by
  obtain ⟨cd, e1, _, e3⟩ := h.cls
  show (PySem.W.clsIn K C).any (·.hasDict) = true
  rw [e1]
  exact e3
theorem ClsAt.isC (h : ClsAt K C bm) : (PySem.W.clsIn K C).isSome = true := by
  obtain ⟨cd, e1, _⟩ := h.cls
  rw [e1] <;> rfl
/-- isinstance of the class at C against the class at D -/
theorem ClsAt.kit {D : Addr} {bn : List Value} (h : ClsAt K C bm) (g : ClsAt K D bn) : PySem.W.kitOne K (.ref C) (.ref D) = some ((Value.ref C :: bm).contains (.ref D)) := by
  unfold PySem.W.kitOne
  by_cases e : (Value.ref C == Value.ref D) = true
  · rw [if_pos e, beq_iff_eq.mp e, List.contains_cons, beq_self_eq_true] <;> rfl
  · rw [if_neg e]
    have e2 : ((PySem.W.clsIn K D).isSome && PySem.W.typeIn K (.ref D) == some (.type "type")) = true := by rw [g.isC, g.ty] <;> rfl
    show (if _ then PySem.W.subIn K (.ref C) (.ref D) else none) = _
    rw [if_pos e2, h.sub]
theorem ClsAt.exm {D : Addr} {bn : List Value} (h : ClsAt K C bm) (g : ClsAt K D bn) (eD : (Value.ref D :: bn).contains (.type "BaseException") = true) : PySem.W.exmOne K (.ref C) (.ref D) = some ((Value.ref C :: bm).contains (.ref D)) :=
  PySem.W.exm_ref (by rw [g.sub, eD]) g.hd g.ty (h.sub _)
end
/-- what the top says of one error class -/
structure ClsF (K : PySem.W.Frag) (nm f : Str) (C I R : Addr) : Prop where
  nsn : PySem.W.nsIn K mainGlobals nm = some (some (.ref C))
  at_ : ClsAt K C (.ref R :: exTail)
  sa : PySem.W.findIn K (.ref C) "__setattr__" = some (some (.builtin "object.__setattr__"))
  ga : PySem.W.findIn K (.ref C) "__getattribute__" = some (some (.builtin "BaseException.__getattribute__"))
  gg : PySem.W.findIn K (.ref C) "__getattr__" = some none
  ha : PySem.W.findIn K (.ref C) "__class__" = some (some (.builtin "object.__class__"))
  kC : PySem.W.keepIn K (.ref C) = true
  no : PySem.W.findIn K (.ref C) f = some none
  ini : PySem.W.findIn K (.ref C) "__init__" = some (some (.ref I))
  ity : PySem.W.typeIn K (.ref I) = some (.type "function")
/-- and of what they share -/
structure RootF (K : PySem.W.Frag) (R : Addr) : Prop where
  nsn : PySem.W.nsIn K mainGlobals "RolloutError" = some (some (.ref R))
  at_ : ClsAt K R exTail
  rd : PySem.W.readsIn K R (.type "type") = true
  ga : PySem.W.specialIn K (.ref R) "__getattribute__" = some (some (.builtin "type.__getattribute__"))
  ini : PySem.W.findCls K (.ref R) (.type "type") "__init__" = some (.val (.builtin "ValueError.__init__"))
  hn : PySem.W.specialIn K (.builtin "object.__class__") "__get__" = some (some (.builtin "getset_descriptor.__get__"))
  ht : PySem.W.takesIn K (.builtin "object.__class__") = some true
theorem ClsF.x {K : PySem.W.Frag} {nm f : Str} {C I R : Addr} (c : ClsF K nm f C I R) (r : RootF K R) : XCls K C where
  cls := by
    obtain ⟨nm, q, N, bs, sn, sub, ab, col, dd, k0, k1, k2, k3, k5, e⟩ := c.at_
    exact ⟨nm, q, N, bs, _, sn, sub, ab, col, dd, k0, k1, k2, k3, k5, e, rfl⟩
  sa := c.sa
  exC := by rw [c.at_.sub] <;> rfl
  tyC := c.at_.ty
  kC := c.kC
  ga := c.ga
  gg := c.gg
  hdC := c.at_.hd
  ha := c.ha
  hn := r.hn
  ht := r.ht
  hm := by rw [c.at_.mroIs] <;> rfl
theorem has_cls {C R D : Addr} {b : Bool} (h : decide (C = D) = b) (n : R ≠ D) : (Value.ref C :: Value.ref R :: exTail).contains (.ref D) = b := by
  subst h
  by_cases e : C = D
  · subst e
    rw [List.contains_cons, beq_self_eq_true, decide_eq_true rfl] <;> rfl
  · have e1 : (Value.ref D == Value.ref C) = false := beq_eq_false_iff_ne.mpr fun z => e (Value.ref.inj z).symm
    have e2 : (Value.ref D == Value.ref R) = false := beq_eq_false_iff_ne.mpr fun z => n (Value.ref.inj z).symm
    rw [decide_eq_false e, List.contains_cons, e1, List.contains_cons, e2] <;> rfl
theorem has_root {C R : Addr} : (Value.ref C :: Value.ref R :: exTail).contains (.ref R) = true := by
  rw [List.contains_cons, List.contains_cons, beq_self_eq_true, Bool.true_or, Bool.or_true]
theorem kit_bt {K : PySem.W.Frag} {C R : Addr} (c : ClsAt K C (.ref R :: exTail)) : PySem.W.kitOne K (.ref C) (.type "ValueError") = some true := by
  unfold PySem.W.kitOne
  rw [if_neg (show ¬ (Value.ref C == Value.type "ValueError") = true from fun z => nomatch (show false = true from z))]
  have e2 : PySem.W.kitMeta "ValueError" = true := by decide +kernel
  show (if PySem.W.kitMeta "ValueError" = true then PySem.W.subIn K (.ref C) (.type "ValueError") else none) = _
  rw [if_pos e2, c.sub] <;> rfl
/-- what the top says of a class with a constant MOST -/
structure ClsK (K : PySem.W.Frag) (nm : Str) (C : Addr) (n : Int) (t : Nat) : Prop where
  nsn : PySem.W.nsIn K mainGlobals nm = some (some (.ref C))
  rd : PySem.W.readsIn K C (.type "type") = true
  ga : PySem.W.specialIn K (.ref C) "__getattribute__" = some (some (.builtin "type.__getattribute__"))
  most : PySem.W.findCls K (.ref C) (.type "type") "MOST" = some (.val (.int n t))
  pg : PySem.W.plainGet K C Str.empty = true
  hd : PySem.W.hasDictIn K C = true
  po : PySem.W.plainOver K C = true
  sa : PySem.W.findIn K (.ref C) "__setattr__" = some (some (.builtin "object.__setattr__"))
  mks : PySem.W.makesIn K C = true
  kp : PySem.W.keepIn K (.ref C) = true
  ha : PySem.W.findIn K (.ref C) "__class__" = some (some (.builtin "object.__class__"))
  hn : PySem.W.specialIn K (.builtin "object.__class__") "__get__" = some (some (.builtin "getset_descriptor.__get__"))
  ht : PySem.W.takesIn K (.builtin "object.__class__") = some true
  hm : PySem.W.mroIn K C (.type "object") = some true
/-- a method -/
structure MetK (K : PySem.W.Frag) (C : Addr) (m : Str) (f : Addr) : Prop where
  at_ : PySem.W.findIn K (.ref C) m = some (some (.ref f))
  fn : PySem.W.isFn K (.ref f) = true
/-- a property -/
structure PrK (K : PySem.W.Frag) (C : Addr) (m : Str) (p g : Addr) (rest : List Value) : Prop where
  at_ : PySem.W.findIn K (.ref C) m = some (some (.ref p))
  get : PySem.W.specialIn K (.ref p) "__get__" = some (some (.builtin "property.__get__"))
  tak : PySem.W.takesIn K (.ref p) = some true
  rec_ : PySem.W.recIn K p "property" = some (.ref g :: rest)
theorem ClsF.er {K : PySem.W.Frag} {h : Heap} {mg : Str → Option Value} {nm f : Str} {C I R : Addr} (X : K.In h) (G : h.Ns mainGlobals mg) (c : ClsF K nm f C I R) (r : RootF K R) : Er K mg nm f C I :=
  ⟨PySem.W.mg_of X G c.nsn, c.x r, c.ini, c.ity, c.no⟩
theorem RootF.rt {K : PySem.W.Frag} {h : Heap} {mg : Str → Option Value} {R : Addr} (X : K.In h) (G : h.Ns mainGlobals mg) (r : RootF K R) : Rt K mg R := ⟨PySem.W.mg_of X G r.nsn, ⟨r.rd, r.ga, r.ini⟩⟩
theorem ClsK.fc {K : PySem.W.Frag} {h : Heap} {mg : Str → Option Value} {CF : Addr} {t t2 : Nat} (X : K.In h) (G : h.Ns mainGlobals mg) (k : ClsK K "Forest" CF 12 t) (root : PySem.W.findCls K (.ref CF) (.type "type") "ROOT" = some (.val (.str "" t2))) : Fc K mg CF (.type "type") :=
  ⟨PySem.W.mg_of X G k.nsn, ⟨k.rd, k.ga⟩, ⟨_, k.most, ⟨_, rfl⟩⟩, ⟨_, root, ⟨_, rfl⟩⟩⟩
theorem ClsK.cls {K : PySem.W.Frag} {nm : Str} {C : Addr} {n : Int} {t : Nat} (k : ClsK K nm C n t) : Cls K C := ⟨k.pg, k.hd, k.po, k.sa⟩
/-- an int that the top computes -/
theorem loose_int {p : Program} {lv : List (Str × PySem.W.WData)} {mg : Str → Option Value} {h : Heap} {nm : Str} {n : Int} (x : PySem.W.XL p lv mg h) (m : (nm, PySem.W.WData.int n) ∈ lv) : ∃ t, mg nm = some (.int n t) := by
  obtain ⟨v, e, r⟩ := x.2.val _ m
  cases r with
  | int i t => exact ⟨t, e⟩
/-- a def with its code object and the table of that -/
structure TabK (K : PySem.W.Frag) (x : Str) (c P : Addr) : Prop where
  at_ : PySem.W.tabIn K x = some (c, P)
  no : K.lookup P = none
end FT


/-! what the top says of a class without a constant, of a static method -/
namespace FT
open PySem L2 TL ClX
structure ClsN (K : PySem.W.Frag) (nm : Str) (C : Addr) : Prop where
  nsn : PySem.W.nsIn K mainGlobals nm = some (some (.ref C))
  rd : PySem.W.readsIn K C (.type "type") = true
  ga : PySem.W.specialIn K (.ref C) "__getattribute__" = some (some (.builtin "type.__getattribute__"))
  pg : PySem.W.plainGet K C Str.empty = true
  hd : PySem.W.hasDictIn K C = true
  po : PySem.W.plainOver K C = true
  sa : PySem.W.findIn K (.ref C) "__setattr__" = some (some (.builtin "object.__setattr__"))
  mks : PySem.W.makesIn K C = true
  kp : PySem.W.keepIn K (.ref C) = true
theorem ClsN.cls {K : PySem.W.Frag} {nm : Str} {C : Addr} (k : ClsN K nm C) : Cls K C := ⟨k.pg, k.hd, k.po, k.sa⟩
/-- a static method -/
structure StK (K : PySem.W.Frag) (C : Addr) (m : Str) (p f : Addr) (rest : List Value) : Prop where
  at_ : PySem.W.findCls K (.ref C) (.type "type") m = some (.get (.builtin "staticmethod.__get__") (.ref p) .none (.ref C))
  rec_ : PySem.W.recIn K p "staticmethod" = some (.ref f :: rest)
theorem StK.sm {K : PySem.W.Frag} {C p f : Addr} {m : Str} {rest : List Value} (s : StK K C m p f rest) : SMet K C (.type "type") m p f := ⟨s.at_, _, s.rec_⟩
end FT


namespace FT
open PySem PySem.Spec PyProof.Rows L2 TL ClX LamX NdefX
section
variable {q : Program} {l : PySem.W.OpenLaw} {w : World} {K : PySem.W.Frag} {h : Heap} {mg : Str → Option Value} {fa : Addr}
theorem all_mk {f_bg f_mx f_dt f_dp f_fo f_dl f_sz f_ph f_dr f_fd f_isn f_isa f_nd f_fi f_fl f_po f_ii f_al f_nu f_ri f_ld f_np f_pi f_un f_lz f_rz f_rl f_lp f_ai f_ra f_ap f_rd f_fp f_rs f_nf f_ao f_cr f_eo f_ea f_cl f_rt f_ch f_law p_fl p_rz p_rl p_ra p_ap p_rd p_fp p_rt p_ld C_InvalidUsers C_InvalidSizes I_InvalidUsers I_InvalidSizes R CF CA CR : Addr} {d_bg d_mx d_dt d_dp d_fo d_dl d_sz d_ph d_dr d_fd d_isn d_isa d_nd d_fi d_fl d_po d_ii d_al d_nu d_ri d_ld d_np d_pi d_un d_lz d_rz d_rl d_lp d_ai d_ra d_ap d_rd d_fp d_rs d_nf d_ao d_cr d_eo d_ea d_cl d_rt d_ch d_law D_InvalidUsers D_InvalidSizes : FuncData} {tL tT tR tCF tCA : Nat} {r_fl r_rz r_rl r_ra r_ap r_rd r_fp r_rt r_ld : List Value} (X : K.In h) (G : h.Ns mainGlobals mg) (hfa : mg "law" = some (.ref fa)) (TO : TabsOf q K h)
    (kCF : ClsK K "Forest" CF 12 tCF)
    (noCF_above : PySem.W.findIn K (.ref CF) "above" = some none)
    (kCA : ClsK K "Assignment" CA 60 tCA)
    (noCA_own_forest : PySem.W.findIn K (.ref CA) "own_forest" = some none)
    (noCA_own_places : PySem.W.findIn K (.ref CA) "own_places" = some none)
    (kCR : ClsN K "Rollout" CR)
    (noCR_grown_from : PySem.W.findIn K (.ref CR) "grown_from" = some none)
    (noCR_kept_lists : PySem.W.findIn K (.ref CR) "kept_lists" = some none)
    (noCR_past_sizes : PySem.W.findIn K (.ref CR) "past_sizes" = some none)
    (root : PySem.W.findCls K (.ref CF) (.type "type") "ROOT" = some (.val (.str "" tR)))
    (cL : PySem.W.nsIn K mainGlobals "LONGEST" = some (some (.int 8 tL)))
    (cT : PySem.W.nsIn K mainGlobals "LETTERS" = some (some (.str letters tT)))
    (n_bg : PySem.W.nsIn K mainGlobals "_law_begin" = some (some (.ref f_bg)))
    (u_bg : L2.Fun K "_law_begin" "_law_begin" s__law_begin f_bg d_bg)
    (n_mx : PySem.W.nsIn K mainGlobals "_law_mixed" = some (some (.ref f_mx)))
    (u_mx : L2.Fun K "_law_mixed" "_law_mixed" s__law_mixed f_mx d_mx)
    (n_dt : PySem.W.nsIn K mainGlobals "_law_take" = some (some (.ref f_dt)))
    (u_dt : L2.Fun K "_law_take" "_law_take" s__law_take f_dt d_dt)
    (n_dp : PySem.W.nsIn K mainGlobals "_law_pick" = some (some (.ref f_dp)))
    (u_dp : L2.Fun K "_law_pick" "_law_pick" s__law_pick f_dp d_dp)
    (n_fo : PySem.W.nsIn K mainGlobals "_law_forest" = some (some (.ref f_fo)))
    (u_fo : L2.Fun K "_law_forest" "_law_forest" s__law_forest f_fo d_fo)
    (n_dl : PySem.W.nsIn K mainGlobals "_law_drawn_lists" = some (some (.ref f_dl)))
    (u_dl : L2.Fun K "_law_drawn_lists" "_law_drawn_lists" s__law_drawn_lists f_dl d_dl)
    (n_sz : PySem.W.nsIn K mainGlobals "_law_sizes" = some (some (.ref f_sz)))
    (u_sz : L2.Fun K "_law_sizes" "_law_sizes" s__law_sizes f_sz d_sz)
    (n_ph : PySem.W.nsIn K mainGlobals "_law_path" = some (some (.ref f_ph)))
    (u_ph : L2.Fun K "_law_path" "_law_path" s__law_path f_ph d_ph)
    (n_dr : PySem.W.nsIn K mainGlobals "_law_is_direct" = some (some (.ref f_dr)))
    (u_dr : L2.Fun K "_law_is_direct" "_law_is_direct" s__law_is_direct f_dr d_dr)
    (n_fd : PySem.W.nsIn K mainGlobals "_law_flipped" = some (some (.ref f_fd)))
    (u_fd : L2.Fun K "_law_flipped" "_law_flipped" s__law_flipped f_fd d_fd)
    (n_isn : PySem.W.nsIn K mainGlobals "is_name" = some (some (.ref f_isn)))
    (u_isn : L2.Fun K "is_name" "is_name" s_is_name f_isn d_isn)
    (n_isa : PySem.W.nsIn K mainGlobals "is_ancestor" = some (some (.ref f_isa)))
    (u_isa : L2.Fun K "is_ancestor" "is_ancestor" s_is_ancestor f_isa d_isa)
    (n_nd : PySem.W.nsIn K mainGlobals "need_parents" = some (some (.ref f_nd)))
    (u_nd : L2.Fun K "need_parents" "need_parents" s_need_parents f_nd d_nd)
    (n_po : PySem.W.nsIn K mainGlobals "places_of" = some (some (.ref f_po)))
    (u_po : L2.Fun K "places_of" "places_of" s_places_of f_po d_po)
    (n_ii : PySem.W.nsIn K mainGlobals "is_integer" = some (some (.ref f_ii)))
    (u_ii : L2.Fun K "is_integer" "is_integer" s_is_integer f_ii d_ii)
    (n_al : PySem.W.nsIn K mainGlobals "are_lists" = some (some (.ref f_al)))
    (u_al : L2.Fun K "are_lists" "are_lists" s_are_lists f_al d_al)
    (n_nu : PySem.W.nsIn K mainGlobals "need_users" = some (some (.ref f_nu)))
    (u_nu : L2.Fun K "need_users" "need_users" s_need_users f_nu d_nu)
    (n_np : PySem.W.nsIn K mainGlobals "need_place" = some (some (.ref f_np)))
    (u_np : L2.Fun K "need_place" "need_place" s_need_place f_np d_np)
    (n_pi : PySem.W.nsIn K mainGlobals "path_in" = some (some (.ref f_pi)))
    (u_pi : L2.Fun K "path_in" "path_in" s_path_in f_pi d_pi)
    (n_lz : PySem.W.nsIn K mainGlobals "listed_sizes" = some (some (.ref f_lz)))
    (u_lz : L2.Fun K "listed_sizes" "listed_sizes" s_listed_sizes f_lz d_lz)
    (n_lp : PySem.W.nsIn K mainGlobals "listed_places" = some (some (.ref f_lp)))
    (u_lp : L2.Fun K "listed_places" "listed_places" s_listed_places f_lp d_lp)
    (n_rs : PySem.W.nsIn K mainGlobals "residents_of" = some (some (.ref f_rs)))
    (u_rs : L2.Fun K "residents_of" "residents_of" s_residents_of f_rs d_rs)
    (n_nf : PySem.W.nsIn K mainGlobals "need_feasible" = some (some (.ref f_nf)))
    (u_nf : L2.Fun K "need_feasible" "need_feasible" s_need_feasible f_nf d_nf)
    (n_ao : PySem.W.nsIn K mainGlobals "amounts_of" = some (some (.ref f_ao)))
    (u_ao : L2.Fun K "amounts_of" "amounts_of" s_amounts_of f_ao d_ao)
    (n_cr : PySem.W.nsIn K mainGlobals "crossings" = some (some (.ref f_cr)))
    (u_cr : L2.Fun K "crossings" "crossings" s_crossings f_cr d_cr)
    (n_eo : PySem.W.nsIn K mainGlobals "edge_order" = some (some (.ref f_eo)))
    (u_eo : L2.Fun K "edge_order" "edge_order" s_edge_order f_eo d_eo)
    (n_ea : PySem.W.nsIn K mainGlobals "edges_at" = some (some (.ref f_ea)))
    (u_ea : L2.Fun K "edges_at" "edges_at" s_edges_at f_ea d_ea)
    (n_cl : PySem.W.nsIn K mainGlobals "changed_lists" = some (some (.ref f_cl)))
    (u_cl : L2.Fun K "changed_lists" "changed_lists" s_changed_lists f_cl d_cl)
    (n_law : PySem.W.nsIn K mainGlobals "law" = some (some (.ref f_law)))
    (u_law : L2.Fun K "law" "law" s_law f_law d_law)
    (m_fi : MetK K CF "__init__" f_fi)
    (m_ri : MetK K CR "__init__" f_ri)
    (m_un : MetK K CF "under" f_un)
    (m_ai : MetK K CA "__init__" f_ai)
    (m_ch : MetK K CR "change" f_ch)
    (m_fl : PrK K CF "flags" p_fl f_fl r_fl)
    (m_rz : PrK K CR "sizes" p_rz f_rz r_rz)
    (m_rl : PrK K CR "lists" p_rl f_rl r_rl)
    (m_ra : PrK K CR "assignment" p_ra f_ra r_ra)
    (m_ap : PrK K CA "places" p_ap f_ap r_ap)
    (m_rd : PrK K CR "depth" p_rd f_rd r_rd)
    (m_fp : PrK K CF "parents" p_fp f_fp r_fp)
    (m_rt : PrK K CR "total" p_rt f_rt r_rt)
    (m_ld : StK K CR "load" p_ld f_ld r_ld)
    (u_fi : L2.Fun K "__init__" "Forest.__init__" s_Forest___init__ f_fi d_fi)
    (u_ri : L2.Fun K "__init__" "Rollout.__init__" s_Rollout___init__ f_ri d_ri)
    (u_un : L2.Fun K "under" "Forest.under" s_Forest_under f_un d_un)
    (u_ai : L2.Fun K "__init__" "Assignment.__init__" s_Assignment___init__ f_ai d_ai)
    (u_ch : L2.Fun K "change" "Rollout.change" s_Rollout_change f_ch d_ch)
    (u_fl : L2.Fun K "flags" "Forest.flags" s_Forest_flags f_fl d_fl)
    (u_rz : L2.Fun K "sizes" "Rollout.sizes" s_Rollout_sizes f_rz d_rz)
    (u_rl : L2.Fun K "lists" "Rollout.lists" s_Rollout_lists f_rl d_rl)
    (u_ra : L2.Fun K "assignment" "Rollout.assignment" s_Rollout_assignment f_ra d_ra)
    (u_ap : L2.Fun K "places" "Assignment.places" s_Assignment_places f_ap d_ap)
    (u_rd : L2.Fun K "depth" "Rollout.depth" s_Rollout_depth f_rd d_rd)
    (u_fp : L2.Fun K "parents" "Forest.parents" s_Forest_parents f_fp d_fp)
    (u_rt : L2.Fun K "total" "Rollout.total" s_Rollout_total f_rt d_rt)
    (u_ld : L2.Fun K "load" "Rollout.load" s_Rollout_load f_ld d_ld)
    (rt0 : RootF K R)
    (e_InvalidUsers : ClsF K "InvalidUsers" "" C_InvalidUsers I_InvalidUsers R)
    (i_InvalidUsers : L2.Fun K "__init__" "InvalidUsers.__init__" s_InvalidUsers___init__ I_InvalidUsers D_InvalidUsers)
    (e_InvalidSizes : ClsF K "InvalidSizes" "place" C_InvalidSizes I_InvalidSizes R)
    (i_InvalidSizes : L2.Fun K "__init__" "InvalidSizes.__init__" s_InvalidSizes___init__ I_InvalidSizes D_InvalidSizes)
    (z_abs : PySem.W.nsIn K mainGlobals "abs" = some none)
    (z_len : PySem.W.nsIn K mainGlobals "len" = some none)
    (z_rng : PySem.W.nsIn K mainGlobals "range" = some none)
    (z_enu : PySem.W.nsIn K mainGlobals "enumerate" = some none)
    (z_zip : PySem.W.nsIn K mainGlobals "zip" = some none)
    (z_isi : PySem.W.nsIn K mainGlobals "isinstance" = some none)
    (z_all : PySem.W.nsIn K mainGlobals "all" = some none)
    (z_srt : PySem.W.nsIn K mainGlobals "sorted" = some none)
    (z_lst : PySem.W.nsIn K mainGlobals "list" = some none)
    (z_dct : PySem.W.nsIn K mainGlobals "dict" = some none)
    (z_str : PySem.W.nsIn K mainGlobals "str" = some none)
    (z_int : PySem.W.nsIn K mainGlobals "int" = some none)
    (z_tup : PySem.W.nsIn K mainGlobals "tuple" = some none)
    (z_sum : PySem.W.nsIn K mainGlobals "sum" = some none)
    (z_min : PySem.W.nsIn K mainGlobals "min" = some none)
    (z_max : PySem.W.nsIn K mainGlobals "max" = some none)
    (z_rep : PySem.W.nsIn K mainGlobals "repr" = some none)
    (z_bool : PySem.W.nsIn K mainGlobals "bool" = some none)
    (z_any : PySem.W.nsIn K mainGlobals "any" = some none)
    (z_vE : PySem.W.nsIn K mainGlobals "ValueError" = some none)
    : LawTG l w K 7 63 "_law_script" mg fa h := by
  cases hfa.symm.trans (PySem.W.mg_of X G n_law)
  have N : Nm mg := ⟨PySem.W.mg_none_of X G z_abs, PySem.W.mg_none_of X G z_len, PySem.W.mg_none_of X G z_rng, PySem.W.mg_none_of X G z_enu, PySem.W.mg_none_of X G z_zip, PySem.W.mg_none_of X G z_isi, PySem.W.mg_none_of X G z_all, PySem.W.mg_none_of X G z_srt, PySem.W.mg_none_of X G z_lst, PySem.W.mg_none_of X G z_dct, PySem.W.mg_none_of X G z_str, PySem.W.mg_none_of X G z_int, PySem.W.mg_none_of X G z_tup, PySem.W.mg_none_of X G z_sum, PySem.W.mg_none_of X G z_min, PySem.W.mg_none_of X G z_max, PySem.W.mg_none_of X G z_rep, PySem.W.mg_none_of X G z_bool, PySem.W.mg_none_of X G z_any, PySem.W.mg_none_of X G z_vE⟩
  have Cs_ : Cs mg := ⟨⟨_, PySem.W.mg_of X G cL⟩, ⟨_, PySem.W.mg_of X G cT⟩⟩
  have O : FoC K CF := ⟨kCF.cls, noCF_above⟩
  have Z : Fc K mg CF (.type "type") := kCF.fc X G root
  have B : Ac K mg CA (.type "type") := ⟨PySem.W.mg_of X G kCA.nsn, ⟨kCA.rd, kCA.ga⟩, ⟨_, kCA.most, ⟨_, rfl⟩⟩, kCA.cls, noCA_own_forest, noCA_own_places⟩
  have R_ : RoC K mg CR (.type "type") := ⟨PySem.W.mg_of X G kCR.nsn, ⟨kCR.rd, kCR.ga⟩, kCR.cls, noCR_grown_from, noCR_kept_lists, noCR_past_sizes⟩
  have b_bg := u_bg.binds (ps := ["_law_script"]) fun _ _ _ _ _ _ us hl => match us, hl with | [_], _ => rfl
  have b_mx := u_mx.binds (ps := ["_law_draw"]) fun _ _ _ _ _ _ us hl => match us, hl with | [_], _ => rfl
  have b_dt := u_dt.binds (ps := ["_law_draw", "_law_size"]) fun _ _ _ _ _ _ us hl => match us, hl with | [_, _], _ => rfl
  have b_dp := u_dp.binds (ps := ["_law_draw", "_law_some"]) fun _ _ _ _ _ _ us hl => match us, hl with | [_, _], _ => rfl
  have b_fo := u_fo.binds (ps := ["_law_draw", "_law_most"]) fun _ _ _ _ _ _ us hl => match us, hl with | [_, _], _ => rfl
  have b_dl := u_dl.binds (ps := ["_law_draw", "_law_parents", "_law_folk"]) fun _ _ _ _ _ _ us hl => match us, hl with | [_, _, _], _ => rfl
  have b_sz := u_sz.binds (ps := ["_law_draw", "_law_parents", "_law_folk"]) fun _ _ _ _ _ _ us hl => match us, hl with | [_, _, _], _ => rfl
  have b_ph := u_ph.binds (ps := ["_law_parents", "_law_place"]) fun _ _ _ _ _ _ us hl => match us, hl with | [_, _], _ => rfl
  have b_dr := u_dr.binds (ps := ["_law_parents", "_law_before", "_law_after", "_law_old", "_law_fresh"]) fun _ _ _ _ _ _ us hl => match us, hl with | [_, _, _, _, _], _ => rfl
  have b_fd := u_fd.binds (ps := ["_law_some"]) fun _ _ _ _ _ _ us hl => match us, hl with | [_], _ => rfl
  have b_isn := u_isn.binds (ps := ["value"]) fun _ _ _ _ _ _ us hl => match us, hl with | [_], _ => rfl
  have b_isa := u_isa.binds (ps := ["parents", "name"]) fun _ _ _ _ _ _ us hl => match us, hl with | [_, _], _ => rfl
  have b_nd := u_nd.binds (ps := ["parents"]) fun _ _ _ _ _ _ us hl => match us, hl with | [_], _ => rfl
  have b_fi := u_fi.binds (ps := ["self", "parents"]) fun _ _ _ _ _ _ us hl => match us, hl with | [_, _], _ => rfl
  have b_fl := u_fl.binds (ps := ["self"]) fun _ _ _ _ _ _ us hl => match us, hl with | [_], _ => rfl
  have b_po := u_po.binds (ps := ["forest"]) fun _ _ _ _ _ _ us hl => match us, hl with | [_], _ => rfl
  have b_ii := u_ii.binds (ps := ["value", "least"]) fun _ _ _ _ _ _ us hl => match us, hl with | [_, _], _ => rfl
  have b_al := u_al.binds (ps := ["forest", "lists"]) fun _ _ _ _ _ _ us hl => match us, hl with | [_, _], _ => rfl
  have b_nu := u_nu.binds (ps := ["users", "most"]) fun _ _ _ _ _ _ us hl => match us, hl with | [_, _], _ => rfl
  have b_ri := u_ri.binds (ps := ["self", "forest", "users"]) fun _ _ _ _ _ _ us hl => match us, hl with | [_, _, _], _ => rfl
  have b_ld := u_ld.binds (ps := ["forest", "lists"]) fun _ _ _ _ _ _ us hl => match us, hl with | [_, _], _ => rfl
  have b_np := u_np.binds (ps := ["forest", "place"]) fun _ _ _ _ _ _ us hl => match us, hl with | [_, _], _ => rfl
  have b_pi := u_pi.binds (ps := ["above", "place"]) fun _ _ _ _ _ _ us hl => match us, hl with | [_, _], _ => rfl
  have b_un := u_un.binds (ps := ["self", "place"]) fun _ _ _ _ _ _ us hl => match us, hl with | [_, _], _ => rfl
  have b_lz := u_lz.binds (ps := ["forest", "lists"]) fun _ _ _ _ _ _ us hl => match us, hl with | [_, _], _ => rfl
  have b_rz := u_rz.binds (ps := ["self"]) fun _ _ _ _ _ _ us hl => match us, hl with | [_], _ => rfl
  have b_rl := u_rl.binds (ps := ["self"]) fun _ _ _ _ _ _ us hl => match us, hl with | [_], _ => rfl
  have b_lp := u_lp.binds (ps := ["lists"]) fun _ _ _ _ _ _ us hl => match us, hl with | [_], _ => rfl
  have b_ai := u_ai.binds (ps := ["self", "forest", "places"]) fun _ _ _ _ _ _ us hl => match us, hl with | [_, _, _], _ => rfl
  have b_ra := u_ra.binds (ps := ["self"]) fun _ _ _ _ _ _ us hl => match us, hl with | [_], _ => rfl
  have b_ap := u_ap.binds (ps := ["self"]) fun _ _ _ _ _ _ us hl => match us, hl with | [_], _ => rfl
  have b_rd := u_rd.binds (ps := ["self"]) fun _ _ _ _ _ _ us hl => match us, hl with | [_], _ => rfl
  have b_fp := u_fp.binds (ps := ["self"]) fun _ _ _ _ _ _ us hl => match us, hl with | [_], _ => rfl
  have b_rs := u_rs.binds (ps := ["forest", "users", "sizes"]) fun _ _ _ _ _ _ us hl => match us, hl with | [_, _, _], _ => rfl
  have b_nf := u_nf.binds (ps := ["forest", "users", "sizes"]) fun _ _ _ _ _ _ us hl => match us, hl with | [_, _, _], _ => rfl
  have b_ao := u_ao.binds (ps := ["forest", "sizes", "new"]) fun _ _ _ _ _ _ us hl => match us, hl with | [_, _, _], _ => rfl
  have b_cr := u_cr.binds (ps := ["forest", "changed"]) fun _ _ _ _ _ _ us hl => match us, hl with | [_, _], _ => rfl
  have b_eo := u_eo.binds (ps := ["forest", "changed"]) fun _ _ _ _ _ _ us hl => match us, hl with | [_, _], _ => rfl
  have b_ea := u_ea.binds (ps := ["forest", "place"]) fun _ _ _ _ _ _ us hl => match us, hl with | [_, _], _ => rfl
  have b_cl := u_cl.binds (ps := ["forest", "lists", "changed"]) fun _ _ _ _ _ _ us hl => match us, hl with | [_, _, _], _ => rfl
  have b_rt := u_rt.binds (ps := ["self"]) fun _ _ _ _ _ _ us hl => match us, hl with | [_], _ => rfl
  have b_ch := u_ch.binds (ps := ["self", "new"]) fun _ _ _ _ _ _ us hl => match us, hl with | [_, _], _ => rfl
  have g_bg := PySem.W.mg_of X G n_bg
  have g_mx := PySem.W.mg_of X G n_mx
  have g_dt := PySem.W.mg_of X G n_dt
  have g_dp := PySem.W.mg_of X G n_dp
  have g_fo := PySem.W.mg_of X G n_fo
  have g_dl := PySem.W.mg_of X G n_dl
  have g_sz := PySem.W.mg_of X G n_sz
  have g_ph := PySem.W.mg_of X G n_ph
  have g_dr := PySem.W.mg_of X G n_dr
  have g_fd := PySem.W.mg_of X G n_fd
  have g_isn := PySem.W.mg_of X G n_isn
  have g_isa := PySem.W.mg_of X G n_isa
  have g_nd := PySem.W.mg_of X G n_nd
  have g_po := PySem.W.mg_of X G n_po
  have g_ii := PySem.W.mg_of X G n_ii
  have g_al := PySem.W.mg_of X G n_al
  have g_nu := PySem.W.mg_of X G n_nu
  have g_np := PySem.W.mg_of X G n_np
  have g_pi := PySem.W.mg_of X G n_pi
  have g_lz := PySem.W.mg_of X G n_lz
  have g_lp := PySem.W.mg_of X G n_lp
  have g_rs := PySem.W.mg_of X G n_rs
  have g_nf := PySem.W.mg_of X G n_nf
  have g_ao := PySem.W.mg_of X G n_ao
  have g_cr := PySem.W.mg_of X G n_cr
  have g_eo := PySem.W.mg_of X G n_eo
  have g_ea := PySem.W.mg_of X G n_ea
  have g_cl := PySem.W.mg_of X G n_cl
  have rt := rt0.rt X G
  obtain ⟨T, eT⟩ : ∃ T : List (Addr × Str), T = [] := ⟨_, rfl⟩
  refine ⟨d_law, ([] : List (Addr × Addr)), spLaw19 K, fun p hp => ?_, fun s u => ?_, fun H a ns hl hts hS => ?_, fun base KB GB TBs => ?_⟩
  · cases hp
  · obtain ⟨oc, od, kV, doc, pm, an, cdv, ct, osl, rfl, lk, hcd⟩ := u_law.ex
    exact .of_eq rfl
  · refine ⟨a, ns, rfl, hS, hl, fun _ => rfl⟩
  have E_InvalidUsers : Er0 l.prog w K mg base "InvalidUsers" C_InvalidUsers I_InvalidUsers D_InvalidUsers := ⟨e_InvalidUsers.er X G rt0, ok_InvalidUsers i_InvalidUsers rt (e_InvalidUsers.er X G rt0), i_InvalidUsers.binds (ps := ["self"]) fun _ _ _ _ _ _ us hl => match us, hl with | [_], _ => rfl⟩
  have E_InvalidSizes : Er1 l.prog w K mg base "InvalidSizes" "place" C_InvalidSizes I_InvalidSizes D_InvalidSizes := ⟨e_InvalidSizes.er X G rt0, ok_InvalidSizes i_InvalidSizes rt (e_InvalidSizes.er X G rt0), i_InvalidSizes.binds (ps := ["self", "place"]) fun _ _ _ _ _ _ us hl => match us, hl with | [_, _], _ => rfl⟩
  have D_bg : Dn l.prog w K mg base CX0 1 "_law_begin" ["_law_script"] (spBeginB K) f_bg d_bg := ⟨ok_beginB u_bg N, u_bg.kp, b_bg, g_bg⟩
  have D_mx : Dn l.prog w K mg base CX0 1 "_law_mixed" ["_law_draw"] (spMixedB) f_mx d_mx := ⟨ok_mixedB u_mx, u_mx.kp, b_mx, g_mx⟩
  have D_dt : Dn l.prog w K mg base CX0 2 "_law_take" ["_law_draw", "_law_size"] (spTakeB) f_dt d_dt := ⟨ok_takeB u_dt D_mx, u_dt.kp, b_dt, g_dt⟩
  have D_dp : Dn l.prog w K mg base CX0 3 "_law_pick" ["_law_draw", "_law_some"] (spPickB) f_dp d_dp := ⟨ok_pickB u_dp N D_dt, u_dp.kp, b_dp, g_dp⟩
  have D_fo : Dn l.prog w K mg base CX0 4 "_law_forest" ["_law_draw", "_law_most"] (spForB) f_fo d_fo := ⟨ok_forestB u_fo N D_dt D_dp, u_fo.kp, b_fo, g_fo⟩
  have D_dl : Dn l.prog w K mg base CX0 4 "_law_drawn_lists" ["_law_draw", "_law_parents", "_law_folk"] (spDListsB) f_dl d_dl := ⟨ok_dlistsB u_dl N D_dt D_dp, u_dl.kp, b_dl, g_dl⟩
  have D_sz : Dn l.prog w K mg base CX0 4 "_law_sizes" ["_law_draw", "_law_parents", "_law_folk"] (spSizesB) f_sz d_sz := ⟨ok_sizesB u_sz N D_dt D_dp, u_sz.kp, b_sz, g_sz⟩
  have D_ph : Dn l.prog w K mg base CX0 1 "_law_path" ["_law_parents", "_law_place"] (spPathL) f_ph d_ph := ⟨ok_pathL u_ph, u_ph.kp, b_ph, g_ph⟩
  have D_dr : Dn l.prog w K mg base CX0 2 "_law_is_direct" ["_law_parents", "_law_before", "_law_after", "_law_old", "_law_fresh"] (spDirect) f_dr d_dr := ⟨ok_direct u_dr N D_ph, u_dr.kp, b_dr, g_dr⟩
  have D_fd : Dn l.prog w K mg base CX0 1 "_law_flipped" ["_law_some"] (spFlip) f_fd d_fd := ⟨ok_flipped u_fd N, u_fd.kp, b_fd, g_fd⟩
  have D_isn : Dn l.prog w K mg base CX0 1 "is_name" ["value"] (spIsName) f_isn d_isn := ⟨ok_isName u_isn N Cs_, u_isn.kp, b_isn, g_isn⟩
  have D_isa : Dn l.prog w K mg base CX0 1 "is_ancestor" ["parents", "name"] (spIsAnc) f_isa d_isa := ⟨ok_isAnc u_isa, u_isa.kp, b_isa, g_isa⟩
  have D_nd : Dn l.prog w K mg base CX0 2 "need_parents" ["parents"] (spNeed) f_nd d_nd := ⟨ok_need u_nd N Cs_ Z D_isn D_isa, u_nd.kp, b_nd, g_nd⟩
  have F_fi : FnOk l.prog w K mg base CX0 3 f_fi d_fi ["self", "parents"] (spFInit CF) := ok_finit u_fi N O D_nd
  have MK_fi : Mk K CF f_fi := ⟨kCF.mks, m_fi.at_, m_fi.fn, kCF.kp⟩
  have P_fl : Pr1 l.prog w K mg base CF "flags" (spFFlags CF) p_fl f_fl d_fl := ⟨⟨m_fl.at_, m_fl.get, m_fl.tak, ⟨_, m_fl.rec_⟩⟩, ok_fflags u_fl N O, b_fl⟩
  have D_po : Dn l.prog w K mg base CX0 3 "places_of" ["forest"] (spPlacesOf CF) f_po d_po := ⟨ok_placesOf u_po N O Z P_fl, u_po.kp, b_po, g_po⟩
  have D_ii : Dn l.prog w K mg base CX0 1 "is_integer" ["value", "least"] (spIsInt K) f_ii d_ii := ⟨ok_isInt u_ii N, u_ii.kp, b_ii, g_ii⟩
  have D_al : Dn l.prog w K mg base CX0 4 "are_lists" ["forest", "lists"] (spAreL CF) f_al d_al := ⟨ok_areLists u_al N B D_po D_ii, u_al.kp, b_al, g_al⟩
  have D_nu : Dn l.prog w K mg base (L2.CX l.prog w) 3 "need_users" ["users", "most"] (spUsers K C_InvalidUsers) f_nu d_nu := ⟨ok_users u_nu N D_ii E_InvalidUsers, u_nu.kp, b_nu, g_nu⟩
  have F_ri : FnOk l.prog w K mg base CX0 4 f_ri d_ri ["self", "forest", "users"] (spRInit CF CR) := ok_rinit u_ri N Z B R_ D_po D_nu
  have MK_ri : Mk K CR f_ri := ⟨kCR.mks, m_ri.at_, m_ri.fn, kCR.kp⟩
  have F_ld : FnOk l.prog w K mg base CX0 6 f_ld d_ld ["forest", "lists"] (spLoad CF CR) := ok_load u_ld N R_ D_po D_al MK_ri F_ri b_ri
  have D_np : Dn l.prog w K mg base CX0 1 "need_place" ["forest", "place"] (spNeedPl CF) f_np d_np := ⟨ok_needPl u_np N O Z, u_np.kp, b_np, g_np⟩
  have D_pi : Dn l.prog w K mg base CX0 1 "path_in" ["above", "place"] (spPathIn) f_pi d_pi := ⟨ok_pathIn u_pi N, u_pi.kp, b_pi, g_pi⟩
  have F_un : FnOk l.prog w K mg base CX0 2 f_un d_un ["self", "place"] (spUnder CF) := ok_under u_un N O Z D_np D_pi
  have M_un : Mt l.prog w K mg base CX0 2 CF "under" ["self", "place"] (spUnder CF) f_un d_un := ⟨⟨m_un.at_, m_un.fn, u_un.kp⟩, F_un, b_un⟩
  have D_lz : Dn l.prog w K mg base CX0 3 "listed_sizes" ["forest", "lists"] (spLSizes CF) f_lz d_lz := ⟨ok_listedSizes u_lz N O P_fl M_un, u_lz.kp, b_lz, g_lz⟩
  have P_rz : PrN l.prog w K mg base 4 CR "sizes" (spRSizes CF CR) p_rz f_rz d_rz := ⟨⟨m_rz.at_, m_rz.get, m_rz.tak, ⟨_, m_rz.rec_⟩⟩, ok_rsizes u_rz R_ D_lz, b_rz⟩
  have P_rl : PrN l.prog w K mg base 1 CR "lists" (spRLists CF CR) p_rl f_rl d_rl := ⟨⟨m_rl.at_, m_rl.get, m_rl.tak, ⟨_, m_rl.rec_⟩⟩, ok_rlists u_rl N R_, b_rl⟩
  have D_lp : Dn l.prog w K mg base CX0 1 "listed_places" ["lists"] (spLPlaces) f_lp d_lp := ⟨ok_listedPlaces u_lp N, u_lp.kp, b_lp, g_lp⟩
  have F_ai : FnOk l.prog w K mg base CX0 1 f_ai d_ai ["self", "forest", "places"] (spAInit CF CA) := ok_ainit u_ai N O Z B
  have MK_ai : Mk K CA f_ai := ⟨kCA.mks, m_ai.at_, m_ai.fn, kCA.kp⟩
  have P_ra : PrN l.prog w K mg base 3 CR "assignment" (spRAsg CF CR CA) p_ra f_ra d_ra := ⟨⟨m_ra.at_, m_ra.get, m_ra.tak, ⟨_, m_ra.rec_⟩⟩, ok_rasg u_ra R_ B D_lp MK_ai F_ai b_ai, b_ra⟩
  have P_ap : PrN l.prog w K mg base 1 CA "places" (spAPlaces CA) p_ap f_ap d_ap := ⟨⟨m_ap.at_, m_ap.get, m_ap.tak, ⟨_, m_ap.rec_⟩⟩, ok_aplaces u_ap N B, b_ap⟩
  have P_rd : PrN l.prog w K mg base 1 CR "depth" (spRDepth CF CR) p_rd f_rd d_rd := ⟨⟨m_rd.at_, m_rd.get, m_rd.tak, ⟨_, m_rd.rec_⟩⟩, ok_rdepth u_rd N R_, b_rd⟩
  have P_fp : Pr1 l.prog w K mg base CF "parents" (spFParents CF) p_fp f_fp d_fp := ⟨⟨m_fp.at_, m_fp.get, m_fp.tak, ⟨_, m_fp.rec_⟩⟩, ok_fparents u_fp N O, b_fp⟩
  have D_rs : Dn l.prog w K mg base CX0 4 "residents_of" ["forest", "users", "sizes"] (spResid CF) f_rs d_rs := ⟨ok_resid u_rs N O Z D_po P_fl P_fp, u_rs.kp, b_rs, g_rs⟩
  have D_nf : Dn l.prog w K mg base (L2.CX l.prog w) 5 "need_feasible" ["forest", "users", "sizes"] (spFeas K CF C_InvalidSizes) f_nf d_nf := ⟨ok_feas u_nf N O E_InvalidSizes D_rs D_ii P_fl, u_nf.kp, b_nf, g_nf⟩
  have D_ao : Dn l.prog w K mg base CX0 3 "amounts_of" ["forest", "sizes", "new"] (spAmtOf CF) f_ao d_ao := ⟨ok_amtOf u_ao O P_fl, u_ao.kp, b_ao, g_ao⟩
  have D_cr : Dn l.prog w K mg base CX0 3 "crossings" ["forest", "changed"] (spCross CF) f_cr d_cr := ⟨ok_cross u_cr O P_fl, u_cr.kp, b_cr, g_cr⟩
  have D_eo : Dn l.prog w K mg base CX0 4 "edge_order" ["forest", "changed"] (spEdgeOrder CF) f_eo d_eo := ⟨ok_edgeOrder u_eo D_cr D_po, u_eo.kp, b_eo, g_eo⟩
  have D_ea : Dn l.prog w K mg base CX0 3 "edges_at" ["forest", "place"] (spEdgesAt CF) f_ea d_ea := ⟨ok_edgesAt u_ea O Z P_fl, u_ea.kp, b_ea, g_ea⟩
  have D_cl : Dn l.prog w K mg base CX0 5 "changed_lists" ["forest", "lists", "changed"] (spChanged CF) f_cl d_cl := ⟨ok_changed u_cl N D_cr D_eo D_ea D_po, u_cl.kp, b_cl, g_cl⟩
  have P_rt : PrN l.prog w K mg base 1 CR "total" (spRTotal CF CR) p_rt f_rt d_rt := ⟨⟨m_rt.at_, m_rt.get, m_rt.tak, ⟨_, m_rt.rec_⟩⟩, ok_rtotal u_rt N R_, b_rt⟩
  have F_ch : FnOk l.prog w K mg base (L2.CX l.prog w) 6 f_ch d_ch ["self", "new"] (spChange K CF CR C_InvalidSizes) := ok_change u_ch N R_ D_nf D_lz D_ao D_cl P_rt
  have M_ch : Mt l.prog w K mg base (L2.CX l.prog w) 6 CR "change" ["self", "new"] (spChange K CF CR C_InvalidSizes) f_ch d_ch := ⟨⟨m_ch.at_, m_ch.fn, u_ch.kp⟩, F_ch, b_ch⟩
  have W : W19 l.prog w K mg base CF CR CA C_InvalidSizes (.type "type") (.type "type") (.type "type") (fun i => ([f_bg, f_dt, f_dp, f_fo, f_fi, f_dl, f_sz, f_dr, f_fd, f_ld, f_rz, f_rl, f_ra, f_ap, f_rd, f_ch] : List Nat).getD i 0) (fun i => ([p_ld, p_rz, p_rl, p_ra, p_ap, p_rd] : List Nat).getD i 0) (fun i => ([d_bg, d_dt, d_dp, d_fo, d_fi, d_dl, d_sz, d_dr, d_fd, d_ld, d_rz, d_rl, d_ra, d_ap, d_rd, d_ch] : List FuncData).getD i d_dt) := { Z := Z, R := R_, B := B, bg := D_bg, dt := D_dt, dp := D_dp, fo := D_fo, fi := F_fi, fim := MK_fi, fib := b_fi, dl := D_dl, sz := D_sz, dr := D_dr, fl := D_fd, ldm := m_ld.sm, ld := F_ld, ldk := u_ld.kp, ldb := b_ld, pS := P_rz, pL := P_rl, pA := P_ra, pP := P_ap, pD := P_rd, ch := M_ch }
  exact ok_law19 u_law N W
end
theorem walk {l : PySem.W.OpenLaw} {q : Program} {loose : List Str} {XP : (Str → Option Value) → Heap → Prop} {YP : World → Heap → Prop} {d : DefRec} {K : Params → PySem.W.Frag} (hn : l.most = some 63) (hdf : d.params.defaults = [])
    (hY : ∀ (w : World) (h : Heap), YP w h → (K w.params).In h)
    (F : ∀ (w : World) (mg : Str → Option Value) (fa : Addr) (h : Heap), (K w.params).In h → h.Ns mainGlobals mg → mg d.name = some (.ref fa) → TabsOf q (K w.params) h → XP mg h → LawTG l w (K w.params) 7 63 "_law_script" mg fa h) :
    PySem.W.WalkO q loose XP YP l.row.toRowW d [] (fun f vs => PySem.call f vs) :=
  walk_tabG (n := 63) (k := 7) (x := "_law_script") hn (by decide) hdf ⟨rfl, by decide, by decide⟩ hY F
end FT


open PySem PySem.W PyProof.Rows
set_option maxRecDepth 100000 in
set_option maxHeartbeats 0 in
theorem PySem.Challenge.cw_flagtrees_k19_whole_there_and_back_holds : PySem.Challenge.rw_flagtrees_k19_whole_there_and_back.Holds := by
  w_on; o_law; k_head; (case hw => w_witness2)
  k_fill
  refine FT.walk (l := PySem.Challenge.rw_flagtrees_k19_whole_there_and_back) rfl rfl (fun w h Y => PySem.W.kIn_of Y) ?F
  case F =>
    intro w mg fa h KX G hm TO XX
    have hmg : mg "law" = some (.ref fa) := hm
    clear hm
    refine' FT.all_mk KX G hmg TO ?kCF ?noCF_above ?kCA ?noCA_own_forest ?noCA_own_places ?kCR ?noCR_grown_from ?noCR_kept_lists ?noCR_past_sizes ?root ?cL ?cT ?n_bg ?u_bg ?n_mx ?u_mx ?n_dt ?u_dt ?n_dp ?u_dp ?n_fo ?u_fo ?n_dl ?u_dl ?n_sz ?u_sz ?n_ph ?u_ph ?n_dr ?u_dr ?n_fd ?u_fd ?n_isn ?u_isn ?n_isa ?u_isa ?n_nd ?u_nd ?n_po ?u_po ?n_ii ?u_ii ?n_al ?u_al ?n_nu ?u_nu ?n_np ?u_np ?n_pi ?u_pi ?n_lz ?u_lz ?n_lp ?u_lp ?n_rs ?u_rs ?n_nf ?u_nf ?n_ao ?u_ao ?n_cr ?u_cr ?n_eo ?u_eo ?n_ea ?u_ea ?n_cl ?u_cl ?n_law ?u_law ?m_fi ?m_ri ?m_un ?m_ai ?m_ch ?m_fl ?m_rz ?m_rl ?m_ra ?m_ap ?m_rd ?m_fp ?m_rt ?m_ld ?u_fi ?u_ri ?u_un ?u_ai ?u_ch ?u_fl ?u_rz ?u_rl ?u_ra ?u_ap ?u_rd ?u_fp ?u_rt ?u_ld ?rt0 ?e_InvalidUsers ?i_InvalidUsers ?e_InvalidSizes ?i_InvalidSizes ?z_abs ?z_len ?z_rng ?z_enu ?z_zip ?z_isi ?z_all ?z_srt ?z_lst ?z_dct ?z_str ?z_int ?z_tup ?z_sum ?z_min ?z_max ?z_rep ?z_bool ?z_any ?z_vE
    (case kCF => (refine' ⟨?nsn, ?rd, ?ga, ?most, ?pg, ?hd, ?po, ?sa, ?mks, ?kp, ?ha, ?hn, ?ht, ?hm⟩; (case nsn => k_is); (case rd => k_is); (case ga => k_is); (case most => k_is); (case pg => k_is); (case hd => k_is); (case po => k_is); (case sa => k_is); (case mks => k_is); (case kp => k_is); (case ha => k_is); (case hn => k_is); (case ht => k_is); (case hm => k_is)))
    (case noCF_above => k_is)
    (case kCA => (refine' ⟨?nsn, ?rd, ?ga, ?most, ?pg, ?hd, ?po, ?sa, ?mks, ?kp, ?ha, ?hn, ?ht, ?hm⟩; (case nsn => k_is); (case rd => k_is); (case ga => k_is); (case most => k_is); (case pg => k_is); (case hd => k_is); (case po => k_is); (case sa => k_is); (case mks => k_is); (case kp => k_is); (case ha => k_is); (case hn => k_is); (case ht => k_is); (case hm => k_is)))
    (case noCA_own_forest => k_is)
    (case noCA_own_places => k_is)
    (case kCR => (refine' ⟨?nsn, ?rd, ?ga, ?pg, ?hd, ?po, ?sa, ?mks, ?kp⟩; (case nsn => k_is); (case rd => k_is); (case ga => k_is); (case pg => k_is); (case hd => k_is); (case po => k_is); (case sa => k_is); (case mks => k_is); (case kp => k_is)))
    (case noCR_grown_from => k_is)
    (case noCR_kept_lists => k_is)
    (case noCR_past_sizes => k_is)
    (case root => k_is)
    (case cL => k_is)
    (case cT => k_is)
    (case n_bg => k_is)
    (case u_bg => (refine' L2.fun_mk ?l ?c ?k; (case l => k_is); (case c => k_is); (case k => k_is)))
    (case n_mx => k_is)
    (case u_mx => (refine' L2.fun_mk ?l ?c ?k; (case l => k_is); (case c => k_is); (case k => k_is)))
    (case n_dt => k_is)
    (case u_dt => (refine' L2.fun_mk ?l ?c ?k; (case l => k_is); (case c => k_is); (case k => k_is)))
    (case n_dp => k_is)
    (case u_dp => (refine' L2.fun_mk ?l ?c ?k; (case l => k_is); (case c => k_is); (case k => k_is)))
    (case n_fo => k_is)
    (case u_fo => (refine' L2.fun_mk ?l ?c ?k; (case l => k_is); (case c => k_is); (case k => k_is)))
    (case n_dl => k_is)
    (case u_dl => (refine' L2.fun_mk ?l ?c ?k; (case l => k_is); (case c => k_is); (case k => k_is)))
    (case n_sz => k_is)
    (case u_sz => (refine' L2.fun_mk ?l ?c ?k; (case l => k_is); (case c => k_is); (case k => k_is)))
    (case n_ph => k_is)
    (case u_ph => (refine' L2.fun_mk ?l ?c ?k; (case l => k_is); (case c => k_is); (case k => k_is)))
    (case n_dr => k_is)
    (case u_dr => (refine' L2.fun_mk ?l ?c ?k; (case l => k_is); (case c => k_is); (case k => k_is)))
    (case n_fd => k_is)
    (case u_fd => (refine' L2.fun_mk ?l ?c ?k; (case l => k_is); (case c => k_is); (case k => k_is)))
    (case n_isn => k_is)
    (case u_isn => (refine' L2.fun_mk ?l ?c ?k; (case l => k_is); (case c => k_is); (case k => k_is)))
    (case n_isa => k_is)
    (case u_isa => (refine' L2.fun_mk ?l ?c ?k; (case l => k_is); (case c => k_is); (case k => k_is)))
    (case n_nd => k_is)
    (case u_nd => (refine' L2.fun_mk ?l ?c ?k; (case l => k_is); (case c => k_is); (case k => k_is)))
    (case n_po => k_is)
    (case u_po => (refine' L2.fun_mk ?l ?c ?k; (case l => k_is); (case c => k_is); (case k => k_is)))
    (case n_ii => k_is)
    (case u_ii => (refine' L2.fun_mk ?l ?c ?k; (case l => k_is); (case c => k_is); (case k => k_is)))
    (case n_al => k_is)
    (case u_al => (refine' L2.fun_mk ?l ?c ?k; (case l => k_is); (case c => k_is); (case k => k_is)))
    (case n_nu => k_is)
    (case u_nu => (refine' L2.fun_mk ?l ?c ?k; (case l => k_is); (case c => k_is); (case k => k_is)))
    (case n_np => k_is)
    (case u_np => (refine' L2.fun_mk ?l ?c ?k; (case l => k_is); (case c => k_is); (case k => k_is)))
    (case n_pi => k_is)
    (case u_pi => (refine' L2.fun_mk ?l ?c ?k; (case l => k_is); (case c => k_is); (case k => k_is)))
    (case n_lz => k_is)
    (case u_lz => (refine' L2.fun_mk ?l ?c ?k; (case l => k_is); (case c => k_is); (case k => k_is)))
    (case n_lp => k_is)
    (case u_lp => (refine' L2.fun_mk ?l ?c ?k; (case l => k_is); (case c => k_is); (case k => k_is)))
    (case n_rs => k_is)
    (case u_rs => (refine' L2.fun_mk ?l ?c ?k; (case l => k_is); (case c => k_is); (case k => k_is)))
    (case n_nf => k_is)
    (case u_nf => (refine' L2.fun_mk ?l ?c ?k; (case l => k_is); (case c => k_is); (case k => k_is)))
    (case n_ao => k_is)
    (case u_ao => (refine' L2.fun_mk ?l ?c ?k; (case l => k_is); (case c => k_is); (case k => k_is)))
    (case n_cr => k_is)
    (case u_cr => (refine' L2.fun_mk ?l ?c ?k; (case l => k_is); (case c => k_is); (case k => k_is)))
    (case n_eo => k_is)
    (case u_eo => (refine' L2.fun_mk ?l ?c ?k; (case l => k_is); (case c => k_is); (case k => k_is)))
    (case n_ea => k_is)
    (case u_ea => (refine' L2.fun_mk ?l ?c ?k; (case l => k_is); (case c => k_is); (case k => k_is)))
    (case n_cl => k_is)
    (case u_cl => (refine' L2.fun_mk ?l ?c ?k; (case l => k_is); (case c => k_is); (case k => k_is)))
    (case n_law => k_is)
    (case u_law => (refine' L2.fun_mk ?l ?c ?k; (case l => k_is); (case c => k_is); (case k => k_is)))
    (case m_fi => (refine' ⟨?at_, ?fn⟩; (case at_ => k_is); (case fn => k_is)))
    (case m_ri => (refine' ⟨?at_, ?fn⟩; (case at_ => k_is); (case fn => k_is)))
    (case m_un => (refine' ⟨?at_, ?fn⟩; (case at_ => k_is); (case fn => k_is)))
    (case m_ai => (refine' ⟨?at_, ?fn⟩; (case at_ => k_is); (case fn => k_is)))
    (case m_ch => (refine' ⟨?at_, ?fn⟩; (case at_ => k_is); (case fn => k_is)))
    (case m_fl => (refine' ⟨?at_, ?get, ?tak, ?rec_⟩; (case at_ => k_is); (case get => k_is); (case tak => k_is); (case rec_ => k_is)))
    (case m_rz => (refine' ⟨?at_, ?get, ?tak, ?rec_⟩; (case at_ => k_is); (case get => k_is); (case tak => k_is); (case rec_ => k_is)))
    (case m_rl => (refine' ⟨?at_, ?get, ?tak, ?rec_⟩; (case at_ => k_is); (case get => k_is); (case tak => k_is); (case rec_ => k_is)))
    (case m_ra => (refine' ⟨?at_, ?get, ?tak, ?rec_⟩; (case at_ => k_is); (case get => k_is); (case tak => k_is); (case rec_ => k_is)))
    (case m_ap => (refine' ⟨?at_, ?get, ?tak, ?rec_⟩; (case at_ => k_is); (case get => k_is); (case tak => k_is); (case rec_ => k_is)))
    (case m_rd => (refine' ⟨?at_, ?get, ?tak, ?rec_⟩; (case at_ => k_is); (case get => k_is); (case tak => k_is); (case rec_ => k_is)))
    (case m_fp => (refine' ⟨?at_, ?get, ?tak, ?rec_⟩; (case at_ => k_is); (case get => k_is); (case tak => k_is); (case rec_ => k_is)))
    (case m_rt => (refine' ⟨?at_, ?get, ?tak, ?rec_⟩; (case at_ => k_is); (case get => k_is); (case tak => k_is); (case rec_ => k_is)))
    (case m_ld => (refine' ⟨?at_, ?rec_⟩; (case at_ => k_is); (case rec_ => k_is)))
    (case u_fi => (refine' L2.fun_mk ?l ?c ?k; (case l => k_is); (case c => k_is); (case k => k_is)))
    (case u_ri => (refine' L2.fun_mk ?l ?c ?k; (case l => k_is); (case c => k_is); (case k => k_is)))
    (case u_un => (refine' L2.fun_mk ?l ?c ?k; (case l => k_is); (case c => k_is); (case k => k_is)))
    (case u_ai => (refine' L2.fun_mk ?l ?c ?k; (case l => k_is); (case c => k_is); (case k => k_is)))
    (case u_ch => (refine' L2.fun_mk ?l ?c ?k; (case l => k_is); (case c => k_is); (case k => k_is)))
    (case u_fl => (refine' L2.fun_mk ?l ?c ?k; (case l => k_is); (case c => k_is); (case k => k_is)))
    (case u_rz => (refine' L2.fun_mk ?l ?c ?k; (case l => k_is); (case c => k_is); (case k => k_is)))
    (case u_rl => (refine' L2.fun_mk ?l ?c ?k; (case l => k_is); (case c => k_is); (case k => k_is)))
    (case u_ra => (refine' L2.fun_mk ?l ?c ?k; (case l => k_is); (case c => k_is); (case k => k_is)))
    (case u_ap => (refine' L2.fun_mk ?l ?c ?k; (case l => k_is); (case c => k_is); (case k => k_is)))
    (case u_rd => (refine' L2.fun_mk ?l ?c ?k; (case l => k_is); (case c => k_is); (case k => k_is)))
    (case u_fp => (refine' L2.fun_mk ?l ?c ?k; (case l => k_is); (case c => k_is); (case k => k_is)))
    (case u_rt => (refine' L2.fun_mk ?l ?c ?k; (case l => k_is); (case c => k_is); (case k => k_is)))
    (case u_ld => (refine' L2.fun_mk ?l ?c ?k; (case l => k_is); (case c => k_is); (case k => k_is)))
    (case rt0 => (refine' ⟨?nsn, ?at_, ?rd, ?ga, ?ini, ?hn, ?ht⟩; (case nsn => k_is); (case at_ => (refine' ⟨_, _, _, _, _, _, _, _, _, _, _, _, _, _, ?xl⟩; (case xl => rfl))); (case rd => k_is); (case ga => k_is); (case ini => k_is); (case hn => k_is); (case ht => k_is)))
    (case e_InvalidUsers => (refine' ⟨?nsn, ?at_, ?sa, ?ga, ?gg, ?ha, ?kC, ?no, ?ini, ?ity⟩; (case nsn => k_is); (case at_ => (refine' ⟨_, _, _, _, _, _, _, _, _, _, _, _, _, _, ?xl⟩; (case xl => rfl))); (case sa => k_is); (case ga => k_is); (case gg => k_is); (case ha => k_is); (case kC => k_is); (case no => k_is); (case ini => k_is); (case ity => k_is)))
    (case i_InvalidUsers => (refine' L2.fun_mk ?l ?c ?k; (case l => k_is); (case c => k_is); (case k => k_is)))
    (case e_InvalidSizes => (refine' ⟨?nsn, ?at_, ?sa, ?ga, ?gg, ?ha, ?kC, ?no, ?ini, ?ity⟩; (case nsn => k_is); (case at_ => (refine' ⟨_, _, _, _, _, _, _, _, _, _, _, _, _, _, ?xl⟩; (case xl => rfl))); (case sa => k_is); (case ga => k_is); (case gg => k_is); (case ha => k_is); (case kC => k_is); (case no => k_is); (case ini => k_is); (case ity => k_is)))
    (case i_InvalidSizes => (refine' L2.fun_mk ?l ?c ?k; (case l => k_is); (case c => k_is); (case k => k_is)))
    (case z_abs => k_is)
    (case z_len => k_is)
    (case z_rng => k_is)
    (case z_enu => k_is)
    (case z_zip => k_is)
    (case z_isi => k_is)
    (case z_all => k_is)
    (case z_srt => k_is)
    (case z_lst => k_is)
    (case z_dct => k_is)
    (case z_str => k_is)
    (case z_int => k_is)
    (case z_tup => k_is)
    (case z_sum => k_is)
    (case z_min => k_is)
    (case z_max => k_is)
    (case z_rep => k_is)
    (case z_bool => k_is)
    (case z_any => k_is)
    (case z_vE => k_is)
