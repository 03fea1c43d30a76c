import PyProof.Rows.All
import Wide.All
import OpenK.AllK
import Wide.FinOn
import PyProof.EqAt
import PyProof.EqKinds
import PyProof.TupleCall
import KE.KFromBytes
import KE.KExcIs
import HandS.ForMost
import HandS.Exc
import HandS.TryOnly
import HandS.ExcInit
import HandS.ExcIs
import HandS.ExcField
import HandS.IsInst
import HandS.ClsMeth
import HandS.Defaults
import HandS.SortKw
import HandS.More
import HandS.Nested
import PyProof.Rows.StrRules
import PyProof.Rows.SortKeyStr
import HandS.DictComp
import KE.KUnpackStar
import HandS.Flow
import HandS.Walk
import HandS.Wide
import HandS.Text
import HandS.Style
import HandS.Property
import HandS.WordsDict
import HandS.ListItems
import HandS.Finally
import HandS.WordsExc
import HandS.Lambda
import HandS.EndBits
import KE.KNest
import HandS.Small
import HandS.SetFor
import PyProof.Rows.StrInSeq3
import KE.KDictZip
import KE.KTurns
import HandS.Conv
import HandS.OwnEq
import PyProof.InstNe
import KE.KDictSum
import HandS.ExcOwn
import HandS.List
import HandS.Deep
import PyProof.ReprBulk
import KE.RegKIsAll
import Wide.Loose
import PySem.Challenge.RW_flagtrees_k08_recognized
set_option Elab.async false
set_option linter.all false
set_option maxRecDepth 100000
set_option maxHeartbeats 8000000

/-! Own: an exception class over ValueError called with one keyword, `C(name=value)`. The library's lemmas (HandSPX.call_own) say it for calls without keywords; these say it for one keyword. -/
namespace FX
open PySem PySem.W PySem.Calls PyProof.Rows PySem.HandSPX
section
variable {Mo : Model} {Ar : Around} {Er : Value → Shared → Prop} {he : Heap} {ge : Array GenState} {dr : Drawn} {tk : Nat} {os : OsState}
variable {nm qn : Str} {C N : Addr} {bs bm bmB : List Value} {hdct : Bool} {sn : List Str} {sub : List Value} {ab : Bool} {col : Option Bool} {dd : Option Addr} {k0 k1 k2 k3 k5 : Option Value} {B idN idI : String}
variable {kn : Str} {kv : Value} {more : List Value}
/-- the class object of an exception class, short -/
abbrev XO (nm qn : Str) (C N : Addr) (bs bm : List Value) (hdct : Bool) (sn : List Str) (sub : List Value) (ab : Bool) (col : Option Bool) (dd : Option Addr) (k0 k1 k2 k3 k5 : Option Value) (idN : String) : Obj :=
  excClassObj nm qn C N bs bm hdct sn sub ab col dd k0 k1 k2 k3 k5 idN
abbrev SameTy (bm bmB : List Value) : Prop := ∀ T : String, bm.contains (.type T) = bmB.contains (.type T)
theorem hasT {T : String} {b : Bool} (st : SameTy bm bmB) (e : bmB.contains (.type T) = b) : (Value.ref C :: bm).contains (.type T) = b := by
  rw [List.contains_cons, st, e] <;> rfl
theorem chk_kw (F : ExcBaseFacts B idN idI bmB) (st : SameTy bm bmB) {P : Unit → Shared → Prop} (oC : he.get? C = some (XO nm qn C N bs bm hdct sn sub ab col dd k0 k1 k2 k3 k5 idN)) (fin : P () ⟨he, ge, dr, tk, os⟩) :
    wpAny Mo Ar (checkBuiltinCall idN ⟨.ref C :: more, [(kn, kv)]⟩) P Er ⟨he, ge, dr, tk, os⟩ := by
  have yes := hasT (C := C) st F.hasB
  have ns := F.noStar
  simp only [checkBuiltinCall, F.newKind, F.newSplit, F.newRow]
  repeat (first
    | refine wpAny_loadPart_at oC ?_
    | (refine wpAny_isSubtype_exc oC ?_; rw [yes])
    | refine wpAny_staticBase_exc oC ?_
    | refine wpAny_madeBy_exc oC ?_
    | simp only [bne_self_eq_false, Bool.false_eq_true, if_false]
    | wp_step)
  exact fin
end
section
variable {pg : Program} {w : World} {Ar : Around} {Er : Value → Shared → Prop} {Rs : Result → Shared → Prop} {he : Heap} {ge : Array GenState} {dr : Drawn} {tk : Nat} {os : OsState}
variable {nm qn : Str} {C N fI : Addr} {bs bm bmB : List Value} {hdct : Bool} {sn : List Str} {sub : List Value} {ab : Bool} {col : Option Bool} {dd : Option Addr} {k0 k1 k2 k3 k5 : Option Value} {B idN idI : String}
variable {kn : Str} {kv : Value} {more : List Value}
/-- the heap with the new exception -/
abbrev withX (he : Heap) (C : Addr) (more : List Value) : Heap := (he.push (W.kdv_tup more)).push (excO C he.objs.size)
theorem new_kw (F : ExcBaseFacts B idN idI bmB) (st : SameTy bm bmB) (oC : he.get? C = some (XO nm qn C N bs bm hdct sn sub ab col dd k0 k1 k2 k3 k5 idN)) (sz : more.length ≤ sizeLine)
    (fin : Rs (.ok (.ret (.ref (he.objs.size + 1)))) ⟨withX he C more, ge, dr, tk, os⟩) : codeAny (model pg w) Ar (.builtin idN ⟨.ref C :: more, [(kn, kv)]⟩) Rs ⟨he, ge, dr, tk, os⟩ := by
  have ends := F.ends
  have yes := hasT (C := C) st F.hasB
  have noA := hasT (C := C) st F.noAttr
  have noN := hasT (C := C) st F.noName
  refine codeAny_builtinAt F.entry ?_
  unfold Builtin.«BaseException.__new__»
  refine PySem.wpAt_bind ?_
  show PySem.wpAt _ _ _ (stack >>= _) _ _ _
  refine PySem.wpAt_bind (PySem.wpAt_stack fun _ _ => PySem.wpAt_of_wpAny ?_)
  wp_walk
  refine PySem.wpAt_of_wpAny ?_
  rw [F.owner]
  repeat (first
    | with_reducible refine wpAny_madeHere_exc F.canon oC ?_
    | with_reducible refine wpAny_loadPart_at oC ?_
    | (with_reducible refine wpAny_isSubtype_exc oC ?_; first | rw [yes] | rw [noA] | rw [noN])
    | wp_step)
  show Rs _ _
  rw [Heap.size_push]
  exact fin
theorem tcall_kw (F : ExcBaseFacts B idN idI bmB) (st : SameTy bm bmB) {P : Fin → Shared → Prop} (oC : he.get? C = some (XO nm qn C N bs bm hdct sn sub ab col dd k0 k1 k2 k3 k5 idN)) (sz : more.length ≤ sizeLine)
    (li : W.Looks (model pg w) he (typeLookup (.ref C) "__init__") (some (.ref fI))) (lb : ∀ me, W.Looks (model pg w) he (bindSpecial (.ref fI) me) (.ref fI, [me]))
    (fin : codeAny (model pg w) Ar (.call (.ref fI) ⟨.ref (he.objs.size + 1) :: more, [(kn, kv)]⟩) (fun r z => match r with | .ok (.ret v) => v = .none ∧ P (.done (.ret (.ref (he.objs.size + 1)))) z | .ok _ => False | .error e => Er e z)
      ⟨withX he C more, ge, dr, tk, os⟩) : wpAny (model pg w) Ar (Builtin.«type.__call__» ⟨.ref C :: more, [(kn, kv)]⟩) P Er ⟨he, ge, dr, tk, os⟩ := by
  repeat (first
    | with_reducible refine wpAny_loadPart_at oC ?_
    | with_reducible refine wpAny_madeBy_exc oC ?_
    | wp_step)
  refine codeAny_call_builtin_code (Code.quiet_builtin _ F.quiet) (chk_kw F st oC (new_kw F st oC sz ?_))
  show wpAny _ _ _ _ _ _
  have kept : ∀ b o, he.get? b = some o → (withX he C more).get? b = some o := fun _ _ q => Heap.get?_push_of_some _ (Heap.get?_push_of_some _ q)
  have oC2 := kept _ _ oC
  have oX : (withX he C more).get? (he.objs.size + 1) = some (excO C he.objs.size) := by heap_get
  have self : (Value.ref C :: bm).contains (.ref C) = true := by simp
  have li2 := li.keeps kept
  have lb2 := (lb (.ref (he.objs.size + 1))).keeps kept
  unfold isInstance
  repeat (first
    | with_reducible refine wpAny_loadPart_at oX ?_
    | (with_reducible refine wpAny_isSubtype_exc oC2 ?_; rw [self])
    | wp_step)
  show wpAny _ _ (typeLookup (.ref C) _) _ _ _
  refine li2.at (wpAny_holding (wpAny_bind (lb2.at ?_)))
  refine wpAny_bind (wpAny_call (codeAny_mono fin fun r z q => ?_))
  rcases r with _ | (_ | _ | _ | _) <;> first | exact q | exact q.elim | skip
  obtain ⟨rfl, q⟩ := q
  first
    | exact wpAny_pure (wpAny_pure q)
    | (wp_walk; exact q)
theorem call_kw (F : ExcBaseFacts B idN idI bmB) (st : SameTy bm bmB) (oC : he.get? C = some (XO nm qn C N bs bm hdct sn sub ab col dd k0 k1 k2 k3 k5 idN)) (sz : more.length ≤ sizeLine)
    (li : W.Looks (model pg w) he (typeLookup (.ref C) "__init__") (some (.ref fI))) (lb : ∀ me, W.Looks (model pg w) he (bindSpecial (.ref fI) me) (.ref fI, [me]))
    (fin : codeAny (model pg w) (Ar.under (.builtin "type.__call__" ⟨.ref C :: more, [(kn, kv)]⟩)) (.call (.ref fI) ⟨.ref (he.objs.size + 1) :: more, [(kn, kv)]⟩) (W.InitBack (he.objs.size + 1) Rs) ⟨withX he C more, ge, dr, tk, os⟩) :
    codeAny (model pg w) Ar (.call (.ref C) ⟨more, [(kn, kv)]⟩) Rs ⟨he, ge, dr, tk, os⟩ := by
  have l1 := tc_lookup
  have l2 := tc_bind (.ref C)
  have ty : (⟨he, ge, dr, tk, os⟩ : Shared).TypeIs (.ref C) "type" := ⟨_, oC, rfl⟩
  refine codeAny_of_tree (show wpAny _ _ (callAny (.ref C) _) _ _ _ from ?_)
  repeat (any_goals (first
    | assumption
    | with_reducible refine wpAny_loadPart_at oC ?_
    | wp_step))
  refine ⟨rfl, codeAny_call_builtin_at (Code.quiet_builtin _ (by decide +kernel)) entry_typeCall (wpAny_check_type_call_sub oC (tcall_kw F st oC sz li lb (codeAny_mono fin fun r z q => ?_)))⟩
  rcases r with _ | (_ | _ | _ | _) <;> exact q
end
end FX


namespace L2
open PySem PySem.Spec PyProof.Rows
/-- what the written part says of an own exception class over ValueError -/
structure XCls (K : PySem.W.Frag) (C : Addr) : Prop where
  cls : ∃ nm q N bs bm sn sub ab col dd k0 k1 k2 k3 k5, K.lookup C = some (excClassObj nm q C N bs bm true sn sub ab col dd k0 k1 k2 k3 k5 "ValueError.__new__") ∧ PySem.HandSPX.refsVE bm = true
  sa : PySem.W.findIn K (.ref C) "__setattr__" = some (some (.builtin "object.__setattr__"))
  exC : PySem.W.subIn K (.ref C) (.type "BaseException") = some true
  tyC : PySem.W.typeIn K (.ref C) = some (.type "type")
  kC : PySem.W.keepIn K (.ref C) = true
  ga : PySem.W.findIn K (.ref C) "__getattribute__" = some (some (.builtin "BaseException.__getattribute__"))
  gg : PySem.W.findIn K (.ref C) "__getattr__" = some none
  hdC : PySem.W.hasDictIn K C = true
  ha : PySem.W.findIn K (.ref C) "__class__" = some (some (.builtin "object.__class__"))
  hn : PySem.W.specialIn K (.builtin "object.__class__") "__get__" = some (some (.builtin "getset_descriptor.__get__"))
  ht : PySem.W.takesIn K (.builtin "object.__class__") = some true
  hm : PySem.W.mroIn K C (.type "object") = some true
theorem XCls.oex {K : PySem.W.Frag} {C : Addr} (c : XCls K C) : OexC K C := ⟨c.cls, c.sa, c.exC, c.tyC, c.kC⟩
/-- an exception object at a, by class and dict, its fields not told -/
def exg (a C : Addr) (d : Option Addr) : HO := .ext fun h => ∃ vs sl, h.get? a = some ({ cls := .ref C, dict := d, data := .fields vs, slots := sl } : Obj)
theorem exg_ok {P : Program} {w : World} {H : Hp} {h : Heap} {e C : Addr} {d : Option Addr} {vs : Array Value} {sl : Array (Option Value)} (he : h.get? e = some ({ cls := .ref C, dict := d, data := .fields vs, slots := sl } : Obj)) : ObjOk P w H h e (exg e C d) :=
  ⟨⟨vs, sl, he⟩, ⟨_, he⟩, fun h1 h2 z k => by
    obtain ⟨vs, sl, q⟩ := z
    exact ⟨vs, sl, k _ q⟩⟩
def XAt (H : Hp) (a C : Addr) (d : Option Addr) : Prop := H a = some (exo a C d) ∨ H a = some (exg a C d)
theorem XAt.obj {P : Program} {w : World} {H : Hp} {h : Heap} {a C : Addr} {d : Option Addr} (x : XAt H a C d) (hok : HOk P w H h) : ∃ ox vs, h.get? a = some ox ∧ ox.cls = .ref C ∧ ox.dict = d ∧ ox.data = .fields vs := by
  rcases x with e | e
  · obtain ⟨t1, q⟩ := exo_at hok e
    exact ⟨_, _, q, rfl, rfl, rfl⟩
  · have z : ObjOk P w H h a (.ext fun h => ∃ vs sl, h.get? a = some ({ cls := .ref C, dict := d, data := .fields vs, slots := sl } : Obj)) := hok a _ e
    obtain ⟨⟨vs, sl, q⟩, _⟩ := z
    exact ⟨_, vs, q, rfl, rfl, rfl⟩
def XD (H : Hp) (dx : Addr) (fs : List (Str × V)) : Prop := H dx = some (exd dx fs) ∨ H dx = some (.xd fs)
theorem XD.at {P : Program} {w : World} {H : Hp} {h : Heap} {dx : Addr} {fs : List (Str × V)} (x : XD H dx fs) (hok : HOk P w H h) : ∃ mA, h.Ns1 dx mA ∧ ∀ f, RelO (fs.lookup f) (mA f) := by
  rcases x with e | e
  · exact exd_at hok e
  · have z : ObjOk P w H h dx (.xd fs) := hok dx _ e
    exact z
/-- an exception of the class at C stands at a; its attributes are fs -/
def XV (H : Hp) (a C : Addr) (fs : List (Str × V)) : Prop := (XAt H a C none ∧ fs = []) ∨ ∃ dx, XAt H a C (some dx) ∧ XD H dx fs
theorem XV.inst {P : Program} {w : World} {H : Hp} {h : Heap} {a C : Addr} {fs : List (Str × V)} (x : XV H a C fs) (hok : HOk P w H h) : ∃ ox od, PySem.W.InstAt h a ox C od := by
  rcases x with ⟨x, _⟩ | ⟨dx, x, y⟩
  · obtain ⟨ox, vs, e1, e2, e3, e4⟩ := x.obj hok
    exact ⟨ox, none, e1, e2, by unfold PySem.W.notCls; rw [e4] <;> rfl, by rw [e3]; trivial⟩
  · obtain ⟨ox, vs, e1, e2, e3, e4⟩ := x.obj hok
    obtain ⟨mA, hn, hr⟩ := y.at hok
    obtain ⟨od, ho, hl⟩ := lookIn_ns hn
    exact ⟨ox, some od, e1, e2, by unfold PySem.W.notCls; rw [e4] <;> rfl, by rw [e3]; exact ho⟩
theorem XV.look {P : Program} {w : World} {H : Hp} {h : Heap} {a C : Addr} {fs : List (Str × V)} {f : Str} {v : V} (x : XV H a C fs) (hok : HOk P w H h) (hl : fs.lookup f = some v) :
    ∃ ox od u, PySem.W.InstAt h a ox C (some od) ∧ PySem.W.lookIn f od = some (some u) ∧ RelV v u := by
  rcases x with ⟨_, e⟩ | ⟨dx, x, y⟩
  · rw [e] at hl
    cases hl
  · obtain ⟨ox, vs, e1, e2, e3, e4⟩ := x.obj hok
    obtain ⟨mA, hn, hr⟩ := y.at hok
    obtain ⟨od, ho, hk⟩ := lookIn_ns hn
    obtain ⟨u, hu, ru⟩ := RelO.some_of (v := v) (o := mA f) (by rw [← hl]; exact hr f)
    exact ⟨ox, od, u, ⟨e1, e2, by unfold PySem.W.notCls; rw [e4] <;> rfl, by rw [e3]; exact ho⟩, by rw [hk, hu], ru⟩

section
variable {X : Cx}
/-- isinstance(e, c), e an exception of an own class -/
def rIsX (K : PySem.W.Frag) : List V → Hp → VK → Prop := fun xs H Q => ∃ (a C : Addr) (fs : List (Str × V)) (c : V) (u : Value) (b : Bool), xs = [.ref a, c] ∧ ClsV c u ∧ XCls K C ∧ XV H a C fs ∧ PySem.W.kitOne K (.ref C) u = some b ∧ Q (.bl b) H
theorem call_isX : CallR X (.builtin "isinstance") (rIsX X.K) := by
  intro pins s σ H xs us Q I r h
  obtain ⟨a, C, fs, c, u, b, rfl, k, T, xv, e, q⟩ := h
  obtain ⟨u1, u2, rfl, r1, r2⟩ := vals2 r
  have e2 := k.eq r2
  subst e2
  obtain rfl : u1 = Value.ref a := r1
  obtain ⟨ox, od, J⟩ := xv.inst I.hok
  have hcl : (PySem.W.clsIn X.K C).isSome = true := by
    obtain ⟨cd, hc, _⟩ := PySem.W.any_some T.hdC
    rw [hc] <;> rfl
  exact PySem.W.kia_one (PySem.W.kitx_exc hcl T.ga T.gg T.exC T.ha T.hn T.ht T.hm) I.kIn J e (fun z => nomatch z) fun tk => ⟨.bl b, H, I.tok tk, rfl, q⟩
/-- e.f -/
def tXFld (K : PySem.W.Frag) (te : TE) (f : Str) : TE := fun σ H Q => te σ H fun x H1 => ∃ (a C : Addr) (fs : List (Str × V)) (v : V), x = .ref a ∧ XV H1 a C fs ∧ XCls K C ∧ PySem.W.findIn K (.ref C) f = some none ∧ fs.lookup f = some v ∧ Q v H1
theorem pe_xfld {e : Expr} {te : TE} {pos : Pos} {n : Str} (he : PE X e te) (hb : attributeBase e n X.env (eval e X.env) = eval e X.env := by rfl) : PE X (.Attribute e n pos) (tXFld X.K te n) := by
  refine ⟨fun pins s σ H Q I h => ?_⟩
  refine attr_of hb (thn (he.run pins s σ H _ I h) fun u s1 hh => ?_)
  obtain ⟨x, H1, I1, rx, a, C, fs, v, ex, xv, T, hno, hl, q⟩ := hh
  subst ex
  obtain rfl : u = Value.ref a := rx
  obtain ⟨ox, od, u, J, hk, ru⟩ := xv.look I1.hok hl
  exact HandSPX.exc_get I1.kIn J T.ga T.gg T.exC (PySem.W.findObj_own T.hdC hno rfl hk) (handed_of ru) ⟨v, H1, I1.tok _, ru, q⟩
/-- R.__init__(self, ..), R an own class whose __init__ is ValueError's -/
structure XIni (K : PySem.W.Frag) (R : Addr) : Prop where
  rd : PySem.W.readsIn K R (.type "type") = true
  ga : PySem.W.specialIn K (.ref R) "__getattribute__" = some (some (.builtin "type.__getattribute__"))
  at_ : PySem.W.findCls K (.ref R) (.type "type") "__init__" = some (.val (.builtin "ValueError.__init__"))
theorem pe_clsinit {R : Addr} {rn : Str} {e : Expr} {es : List Expr} {ta : TA} {p1 p2 pos : Pos} {pl : Sem Bool} (T0 : XIni X.K R) (hg : Gl X rn) (hm : X.mg rn = some (.ref R)) (ha : PA X (e :: es) ta)
    (hdb : (rn == ("__debug__" : Str)) = false := by decide)
    (hc : eval (.Call (.Attribute (.Name rn p1) "__init__" p2) (e :: es) [] pos) X.env = (do
      let ov ← eval (.Name rn p1) X.env
      standAt p2.atName
      let (f, first) ← holding [ov] (getMethod ov "__init__" pl)
      callWith pos f first (backTo pos (starEach (e :: es) X.env)) (backToKw pos (keywordEach [] X.env))) := by rfl)
    (he : starEach (e :: es) X.env = (false, eval e X.env) :: starEach es X.env := by rfl) (hpl : (backTo pos (starEach es X.env)).any (·.1) = false := by rfl) :
    PE X (.Call (.Attribute (.Name rn p1) "__init__" p2) (e :: es) [] pos) (tVeI X.K ta) := by
  refine ⟨fun pins s σ H Q I h => ?_⟩
  refine PySem.W.methodCall_KW (ld_glob I hg hm ?_ hdb) hc
  refine PySem.W.method_cls I.kIn T0.ga (PySem.W.cls_value I.kIn T0.rd T0.at_ rfl ?_)
  show wpAny _ _ (callWith pos (Value.builtin "ValueError.__init__") [] (backTo pos (starEach (e :: es) X.env)) []) _ _ _
  refine PyProof.Rows.callWith_method1 (thn (ha.run pos pins _ σ H _ (I.tok _) h) fun us s1 ⟨vs, H1, I1, r1, a, C, ws, ev, hl, T, ea, q⟩ => ?_) he hpl
  subst ev
  cases r1 with
  | @cons _ u0 _ ur ra rw' =>
    obtain rfl : u0 = Value.ref a := ra
    have hlen : ur.length ≤ sizeLine := by
      rw [← Paired.length rw', sizeLine_eq]
      omega
    exact oinit_ok T I1 ea hlen fun s' J => ⟨.non, H1, J, rfl, q⟩

/-! ### C(..) as a value -/
variable {CX : CXT} {C fI : Addr} {k : Nat} {fd : FuncData} {ps : List Str} {sp : Sp} {ds : List Value} {dvs : List V} {E : XK}
/-- the state with a new exception of C laid, its arguments at the heap's end -/
theorem Inv.xnew {pins : List (Addr × Obj)} {σ : St} {H : Hp} {hp : Heap} {gn : Array GenState} {dr : Drawn} {tk : Nat} {os : OsState} (C : Addr) (us : List Value) (I : Inv X pins σ H ⟨hp, gn, dr, tk, os⟩) :
    H (hp.objs.size + 1) = none ∧ Inv X pins σ (upd H (hp.objs.size + 1) (exo (hp.objs.size + 1) C none)) ⟨FX.withX hp C us, gn, dr, tk, os⟩ := by
  have le : hp.objs.size ≤ hp.objs.size + 1 := Nat.le_succ _
  have at_ : (FX.withX hp C us).get? (hp.objs.size + 1) = some (PySem.HandSPX.excO C hp.objs.size) := by heap_get
  exact ⟨I.hok.fresh le, I.laid (t' := tk) (h' := FX.withX hp C us) (fun _ _ z => Heap.get?_push_of_some _ (Heap.get?_push_of_some _ z)) le (exo_ok at_)⟩
/-- behind __init__: its answer is None, the call's answer the new object -/
theorem xback {pins : List (Addr × Obj)} {σ : St} {H : Hp} {s s' : Shared} {a : Addr} {Q : VK} {r : Result} (hx : Passes CX X E) (I : Inv X pins σ H s)
    (z : CR CX X.stack X.prog X.w H s (fun v H2 => v = .non ∧ Q (.ref a) H2) E r s') : PySem.W.InitBack a (fun r s' => match r with | .ok (.ret u) => EP X pins σ Q u s' | .ok _ => False | .error e => X.xe e s') r s' := by
  match r, z with
  | .error er, z => exact hx pins σ H s er s' I z
  | .ok (.ret u), z =>
    obtain ⟨v, H2, J, rv, ev, q⟩ := I.after z
    subst ev
    exact ⟨rv, .ref a, H2, J, rfl, q⟩
  | .ok .next, z => exact z.elim
  | .ok .brk, z => exact z.elim
  | .ok .cont, z => exact z.elim
theorem run_mkx {pins : List (Addr × Obj)} {σ : St} {H1 : Hp} {s : Shared} {Q : VK} {us : List Value} {vs : List V} (T : OexC X.K C) (iC : PySem.W.findIn X.K (.ref C) "__init__" = some (some (.ref fI))) (tI : PySem.W.typeIn X.K (.ref fI) = some (.type "function"))
    (F1 : FnOk X.prog X.w X.K X.mg X.base CX k fI fd ps sp) (hr : Room (k + 1) X.A) (hb : Binds X.K fd ps ds) (hd : Vals dvs ds) (hx : Passes CX X E) (I1 : Inv X pins σ H1 s) (r1 : Vals vs us) (hz : vs.length ≤ 1000)
    (q1 : ∀ a, H1 a = none → sp (.ref a :: (vs ++ dvs)) (upd H1 a (exo a C none)) (fun v H2 => v = .non ∧ Q (.ref a) H2) E) :
    wpAny (model X.prog X.w) X.A (call (.ref C) us) (EP X pins σ Q) X.xe s := by
  obtain ⟨_, _, _, _, bm, _, _, _, _, _, _, _, _, _, _, oC, tail⟩ := T.cls
  obtain ⟨hp, gn, dr, tk, os⟩ := s
  obtain ⟨new, J⟩ := Inv.xnew C us I1
  have want := q1 _ new
  have rel : Vals (V.ref (hp.objs.size + 1) :: (vs ++ dvs)) (Value.ref (hp.objs.size + 1) :: (us ++ ds)) := .cons rfl (r1.append hd)
  have len : (Value.ref (hp.objs.size + 1) :: us ++ ds).length = ps.length := rel.length.symm.trans (F1.len _ _ _ _ want)
  have few : us.length ≤ sizeLine := by
    have := r1.length
    rw [sizeLine_eq]; omega
  have go := F1.run _ X.stack _ _ ⟨Value.ref (hp.objs.size + 1) :: us, []⟩ (Value.ref (hp.objs.size + 1) :: (us ++ ds)) _ _ E (hr.make C us []) (J.env0.make C us []) (hb _ (Value.ref (hp.objs.size + 1) :: us) J.kIn len) rel want
  exact wpAny_call (PySem.HandSPX.call_own F.excBase_ValueError (fun Y => PySem.HandSPX.refsVE_contains Y bm tail) (I1.kIn _ _ oC) (PySem.W.looks_findIn I1.kIn iC) (fun me => PySem.W.bind_fn I1.kIn me tI) few (codeAny_mono go fun r z q => xback hx J q))
theorem run_mkxK {pins : List (Addr × Obj)} {σ : St} {H1 : Hp} {s : Shared} {Q : VK} {u : Value} {v : V} {kn : Str} {g : List Value → List Value → List Value} {gV : List V → List V → List V} (T : OexC X.K C) (iC : PySem.W.findIn X.K (.ref C) "__init__" = some (some (.ref fI))) (tI : PySem.W.typeIn X.K (.ref fI) = some (.type "function"))
    (F1 : FnOk X.prog X.w X.K X.mg X.base CX k fI fd ps sp) (hr : Room (k + 1) X.A) (hb : KBn X.K fd ps 1 [kn] g gV) (hx : Passes CX X E) (I1 : Inv X pins σ H1 s) (r1 : RelV v u)
    (q1 : ∀ a, H1 a = none → sp (gV [.ref a] [v]) (upd H1 a (exo a C none)) (fun v H2 => v = .non ∧ Q (.ref a) H2) E) :
    wpAny (model X.prog X.w) X.A (call (.ref C) [] [(kn, u)]) (EP X pins σ Q) X.xe s := by
  obtain ⟨_, _, _, _, bm, _, _, _, _, _, _, _, _, _, _, oC, tail⟩ := T.cls
  obtain ⟨hp, gn, dr, tk, os⟩ := s
  obtain ⟨new, J⟩ := Inv.xnew C [] I1
  have rel : Vals (gV [V.ref (hp.objs.size + 1)] [v]) (g [Value.ref (hp.objs.size + 1)] [u]) := hb.rel (.cons rfl .nil) (.cons r1 .nil)
  have go := F1.run _ X.stack _ _ ⟨[Value.ref (hp.objs.size + 1)], [(kn, u)]⟩ (g [Value.ref (hp.objs.size + 1)] [u]) _ _ E (hr.make C [] [(kn, u)]) (J.env0.make C [] [(kn, u)]) (hb.to _ [Value.ref (hp.objs.size + 1)] [u] J.kIn rfl rfl) rel (q1 _ new)
  exact wpAny_call (FX.call_kw F.excBase_ValueError (fun Y => PySem.HandSPX.refsVE_contains Y bm tail) (I1.kIn _ _ oC) (Nat.zero_le _) (PySem.W.looks_findIn I1.kIn iC) (fun me => PySem.W.bind_fn I1.kIn me tI) (codeAny_mono go fun r z q => xback hx J q))
/-- C(e, ..) as a value; C's own __init__ keeps sp -/
def tMkX (C : Addr) (sp : Sp) (dvs : List V) (E : XK) (ta : TA) : TE := fun σ H Q => ta σ H fun vs H1 => vs.length ≤ 1000 ∧ ∀ a, H1 a = none → sp (.ref a :: (vs ++ dvs)) (upd H1 a (exo a C none)) (fun v H2 => v = .non ∧ Q (.ref a) H2) E
def tMkXK (C : Addr) (sp : Sp) (gV : List V → List V → List V) (E : XK) (te : TE) : TE := fun σ H Q => te σ H fun v H1 => ∀ a, H1 a = none → sp (gV [.ref a] [v]) (upd H1 a (exo a C none)) (fun v H2 => v = .non ∧ Q (.ref a) H2) E
variable {x : Str} {e : Expr} {es : List Expr} {ta : TA} {te : TE} {p pos kpos : Pos}
theorem pe_mkx (T : XCls X.K C) (iC : PySem.W.findIn X.K (.ref C) "__init__" = some (some (.ref fI))) (tI : PySem.W.typeIn X.K (.ref fI) = some (.type "function"))
    (F1 : FnOk X.prog X.w X.K X.mg X.base CX k fI fd ps sp) (hr : Room (k + 1) X.A) (hg : Gl X x) (hm : X.mg x = some (.ref C)) (hb : Binds X.K fd ps ds) (hd : Vals dvs ds) (hx : Passes CX X E) (ha : PA X (e :: es) ta)
    (hdb : (x == ("__debug__" : Str)) = false := by decide) (he : starEach (e :: es) X.env = (false, eval e X.env) :: starEach es X.env := by rfl) (hpl : (backTo pos (starEach es X.env)).any (·.1) = false := by rfl) :
    PE X (.Call (.Name x p) (e :: es) [] pos) (tMkX C sp dvs E ta) := by
  refine ⟨fun pins s σ H Q I h => ?_⟩
  refine wpAny_Call_Name_kw (ld_glob I hg hm ?_ hdb)
  refine PySem.W.callWith_K (h₀ := X.base) I.ok.mod.kin T.kC (thn (ha.run pos pins s σ H _ I h) fun us s1 ⟨vs, H1, I1, r, hz, q⟩ => ⟨I1.kIn, ?_⟩) he hpl
  exact run_mkx T.oex iC tI F1 hr hb hd hx I1 r hz q
theorem pe_mkx0 (T : XCls X.K C) (iC : PySem.W.findIn X.K (.ref C) "__init__" = some (some (.ref fI))) (tI : PySem.W.typeIn X.K (.ref fI) = some (.type "function"))
    (F1 : FnOk X.prog X.w X.K X.mg X.base CX k fI fd ps sp) (hr : Room (k + 1) X.A) (hg : Gl X x) (hm : X.mg x = some (.ref C)) (hb : Binds X.K fd ps ds) (hd : Vals dvs ds) (hx : Passes CX X E)
    (hdb : (x == ("__debug__" : Str)) = false := by decide) : PE X (.Call (.Name x p) [] [] pos) (tMkX C sp dvs E tNil) := by
  refine ⟨fun pins s σ H Q I h => ?_⟩
  refine wpAny_Call_Name_kw (ld_glob I hg hm ?_ hdb)
  exact PySem.W.callWith_K0 I.kIn T.kC (run_mkx (us := []) T.oex iC tI F1 hr hb hd hx I .nil h.1 h.2)
theorem pe_mkxK {kn : Str} {g : List Value → List Value → List Value} {gV : List V → List V → List V} (T : XCls X.K C) (iC : PySem.W.findIn X.K (.ref C) "__init__" = some (some (.ref fI))) (tI : PySem.W.typeIn X.K (.ref fI) = some (.type "function"))
    (F1 : FnOk X.prog X.w X.K X.mg X.base CX k fI fd ps sp) (hr : Room (k + 1) X.A) (hg : Gl X x) (hm : X.mg x = some (.ref C)) (hb : KBn X.K fd ps 1 [kn] g gV) (hx : Passes CX X E) (he : PE X e te)
    (hall : (backToKw pos (keywordEach [⟨some kn, e, kpos⟩] X.env)).all (·.1.isSome) = true := by rfl) (hks : (backToKw pos (keywordEach [⟨some kn, e, kpos⟩] X.env)).filterMap (·.1) = [kn] := by rfl) (hdb : (x == ("__debug__" : Str)) = false := by decide)
    (hpl : ((backTo pos (starEach [] X.env)).any (·.1) || (backToKw pos (keywordEach [⟨some kn, e, kpos⟩] X.env)).any (·.1.isNone)) = false := by rfl) :
    PE X (.Call (.Name x p) [] [⟨some kn, e, kpos⟩] pos) (tMkXK C sp gV E te) := by
  refine ⟨fun pins s σ H Q I h => ?_⟩
  refine wpAny_Call_Name_kw (ld_glob I hg hm ?_ hdb)
  refine PySem.W.callWith_KW0 (h₀ := X.base) I.ok.mod.kin T.kC hall ?_ hpl
  refine wpAny_evalAll_cons (wpAny_bind (thn (he.run pins s σ H _ I h) fun u s1 ⟨v, H1, I1, r1, q1⟩ => wpAny_bind (wpAny_standAt (wpAny_pure (wpAny_evalAll_nil ⟨I1.kIn, ?_⟩)))))
  rw [hks]
  exact run_mkxK T.oex iC tI F1 hr hb hx I1 r1 q1
end
end L2


/-! try: .. except C as n: .., the caught exception known behind the try -/
namespace L2
open PySem PySem.Spec PyProof.Rows
section
variable {X : Cx} {pins : List (Addr × Obj)} {σ : St} {H : Hp} {s : Shared}
/-- an object that stands there is known from now on; the entry had none at its place -/
theorem Inv.known {a : Addr} {o : HO} (I : Inv X pins σ H s) (hn : H a = none) (h0 : X.s_0.heap.get? a = none) (hL : a ≠ X.env.locals) (h2 : ∀ x c, X.env.cells.lookup x = some c → c ≠ a) (h3 : ∀ p ∈ X.pn ++ pins, p.1 ≠ a)
    (new : ObjOk X.prog X.w (upd H a o) s.heap a o) : Inv X pins σ (upd H a o) s := by
  have nit : ∀ b u, H b = some u → b ≠ a := fun b u e z => by rw [z, hn] at e; cases e
  refine ⟨I.ok, I.os, I.bare, ⟨I.base.keep, I.base.slot, fun b o e n hx => ?_, I.base.there, fun b xs e => ?_, fun b o xs e => ?_, fun b ps e => ?_⟩, I.loc, I.cell, ?_, fun x c e => ?_, fun p hp => ?_, fun b u e => ?_, I.len⟩
  · rw [upd_ne (fun z => by rw [z, h0] at e; cases e)]
    exact I.base.free b o e n hx
  · have q := I.base.tups b xs e
    rw [upd_ne (nit b _ q)]
    exact q
  · have q := I.base.frzs b o xs e
    rw [upd_ne (nit b _ q)]
    exact q
  · obtain ⟨m, q⟩ := I.base.tbls b ps e
    exact ⟨m, by rw [upd_ne (nit b _ q)]; exact q⟩
  · rw [upd_ne (Ne.symm hL)]
    exact I.free
  · rw [upd_ne (h2 x c e)]
    exact I.freeC x c e
  · obtain ⟨e, n, r⟩ := I.pin p hp
    exact ⟨e, by rw [upd_ne (h3 p hp)]; exact n, r⟩
  · by_cases hb : b = a
    · subst hb
      rw [upd_same] at e
      cases e
      exact new
    · rw [upd_ne hb] at e
      exact (I.hok b u e).stay (fun c v hc q => q) (fun c q => by rw [upd_ne (nit c _ q)]; exact q) fun c _ q => by rw [upd_ne (nit c _ q)]; exact q
end
/-- what a landed exception is: its object, where it does not lie -/
structure Landed (X : Cx) (pins : List (Addr × Obj)) (σ : St) (H : Hp) (a C : Addr) (d : Option Addr) (h : Heap) (s : Shared) : Prop where
  inv : Inv X pins σ H { s with heap := h }
  obj : ∃ vs sl, h.get? a = some ({ cls := .ref C, dict := d, data := .fields vs, slots := sl } : Obj)
  free : H a = none
  entry : X.s_0.heap.get? a = none
  loc : a ≠ X.env.locals
  fs : a ∉ X.fs
  pin : ∀ p ∈ X.pn ++ pins, p.1 ≠ a
theorem Landed.of {X : Cx} {pins : List (Addr × Obj)} {σ : St} {H : Hp} {a C : Addr} {d : Option Addr} {h B : Heap} {s sI : Shared} (hs : X.stack = X.env :: X.outer) (hf : X.env.frame = some X.env.locals) (hex : X.ex = []) (J : Inv X pins σ H sI) (na : H a = none)
    (nb : ∀ b o, sI.heap.get? b = some o → b ∉ frs X.stack → B.get? b = some o) (hB : B.get? a = none) (ff : h.FunFrames B (X.env :: X.outer)) (there : ∃ oe vs, h.get? a = some oe ∧ Zc (.ref C) d oe ∧ oe.data = .fields vs) (K : Inv X pins σ H { s with heap := h }) : Landed X pins σ H a C d h s := by
  obtain ⟨⟨oc, od, odt, osl⟩, ws, at_, ⟨z1, z2⟩, z3⟩ := there
  have off : a ∉ frs (X.env :: X.outer) := fun hm => by
    obtain ⟨_, u, hu, plain⟩ := ff.mem hm
    rw [at_] at hu
    exact plain ws (by rw [← Option.some.inj hu]; exact z3)
  have out : sI.heap.get? a = none := by
    cases q : sI.heap.get? a with
    | none => rfl
    | some o => exact absurd (nb a o q (by rw [hs]; exact off)) (by rw [hB]; simp)
  refine ⟨K, ⟨ws, osl, ?_⟩, na, ?_, fun z => off (List.mem_filterMap.mpr ⟨X.env, .head _, by rw [hf, z]⟩), fun hm => ?_, fun p hp z => ?_⟩
  · dsimp only at z1 z2 z3
    rw [at_, z1, z2, z3]
  · cases q : X.s_0.heap.get? a with
    | none => rfl
    | some o =>
      obtain ⟨_, q2⟩ := J.base.there a o q (by rw [hex]; simp)
      rw [out] at q2
      cases q2
  · obtain ⟨e, m, q⟩ := List.mem_filterMap.mp hm
    exact off (List.mem_filterMap.mpr ⟨e, .tail _ m, q⟩)
  · have q := (J.pin p hp).1
    rw [z, out] at q
    cases q
/-- what is wanted of an exception in the try: as wAs, but behind the suite the exception is known -/
def wAsK (K : PySem.W.Frag) (c : Value) (i : Nat) (ts : Addr → Value → Option Addr → TS) (Wout : WX) (D : Ends) : WX := fun cls d σ H => ∃ b C, cls = Value.ref C ∧ PySem.W.exmOne K cls c = some b ∧
  (b = true → ∀ a, H a = none → ts a cls d ⟨fun σ' H' => D.nx (σ'.set i none) (upd H' a (exg a C d)), D.rt, fun σ' H' => D.bk (σ'.set i none) H', fun σ' H' => D.ct (σ'.set i none) H'⟩ (σ.set i (some (.ref a))) H) ∧ (b = false → Wout cls d σ H)
section
variable {X : Cx} {x n : Str} {c : Value} {i : Nat} {body suite : List Stmt} {st : Stmt} {np pos hpos : Pos} {tb : WX → TS} {ts : Addr → Value → Option Addr → TS} {Wout : WX}
/-- the end of such a suite -/
theorem keep_end {pins : List (Addr × Obj)} {σ σ6 : St} {H H6 : Hp} {a C : Addr} {d : Option Addr} {h : Heap} {s s6 : Shared} {oe : Obj} {Q : Shared → Prop} (L : Landed X pins σ H a C d h s) (eo : h.get? a = some oe) (hN : X.N.Nodup) (hi : X.N[i]? = some n) (hln : X.env.kindOf n = some .local)
    (S : Inv (X.suite a ((a, oe) :: (X.pn ++ pins))) [] σ6 H6 s6) (q : ∀ s7, Inv X pins (σ6.set i none) (upd H6 a (exg a C d)) s7 → Q s7) : wpAny (model X.prog X.w) X.A (do bindName X.env n .none; unbindBehindTheSuite X.env n hpos) (fun _ s7 => Q s7) X.xe s6 := by
  obtain ⟨p1, p2, _⟩ := S.pin (a, oe) (List.mem_append_left _ (.head _))
  obtain ⟨ws, sl, e0⟩ := L.obj
  rw [eo] at e0
  have p3 : s6.heap.get? a = some oe := p1
  rw [Option.some.inj e0] at p3
  have U := S.unsuite L.inv.ok
  refine gone_ok (U.known (o := exg a C d) p2 L.entry L.loc (fun y k e z => ?_) L.pin (exg_ok p3)) hN hi hln q
  obtain ⟨_, _, w1, w2⟩ := U.cell y k e
  rw [z, p3] at w1
  rw [← Option.some.inj w1] at w2
  cases w2
/-- try: body / except x as n: suite -/
theorem ps_try_keep (hs : X.stack = X.env :: X.outer) (hf : X.env.frame = some X.env.locals) (hex : X.ex = []) (hN : X.N.Nodup) (hi : X.N[i]? = some n) (hln : X.env.kindOf n = some .local) (hc : Names X x c) (tk : Takes X Wout)
    (hb : ∀ (W : WX) (pn : List (Addr × Obj)) (xe : Value → Shared → Prop), Takes (X.tr pn xe) W → PassesOwn (model X.prog X.w) X.A X.env xe → PSs (X.tr pn xe) body (tb W))
    (hsu : ∀ (a : Addr) (oe : Obj) (cls : Value) (d : Option Addr) (pn : List (Addr × Obj)), Zc cls d oe → (∃ vs, oe.data = .fields vs) → PSs (X.suite a ((a, oe) :: pn)) (st :: suite) (ts a cls d)) :
    PS X (.Try body [.ExceptHandler (some (.Name x np)) (some n) (st :: suite) hpos] [] [] pos) (fun D σ H => tb (wAsK X.K c i ts Wout D) D σ H) := by
  constructor
  intro pins s σ H D I h
  refine wpAny_Try_except (wpAny_mono ((hb (wAsK X.K c i ts Wout D) (X.pn ++ pins) (fun e t1 => wpAny (model X.prog X.w) X.A (noteFrame e X.env) (fun _ t2 => wpAny (model X.prog X.w) X.A (setFlight e none) (fun _ t3 =>
    wpAny (model X.prog X.w) X.A (handleBy e X.env [.ExceptHandler (some (.Name x np)) (some n) (st :: suite) hpos]) (SP X pins D) X.xe t3) X.xe t2) X.xe t1) (fun u s' air => ?_) PassesOwn.looking).run [] s σ H D (I.toTry _) h) (fun f t1 ok => ?_) fun _ _ z => z)
  case refine_2 =>
    cases f with
    | next => exact let ⟨σ1, H1, K, q⟩ := ok; wpAny_execs_nil ⟨σ1, H1, K.ofTry I.ok, q⟩
    | brk => exact let ⟨σ1, H1, K, q⟩ := ok; ⟨σ1, H1, K.ofTry I.ok, q⟩
    | cont => exact let ⟨σ1, H1, K, q⟩ := ok; ⟨σ1, H1, K.ofTry I.ok, q⟩
    | ret u => exact let ⟨v, σ1, H1, K, rv, q⟩ := ok; ⟨v, σ1, H1, K.ofTry I.ok, rv, q⟩
  case refine_1 =>
    obtain ⟨a, B, sI, pins', σ', H', cls, d, rfl, J', nb, up, sky, na, os, ag, b, C, rfl, mb, yes, no⟩ := air
    have J := J'.ofTry I.ok
    rw [hs] at sky
    have hfr : X.A.frames = some (X.env :: X.outer) := I.ok.frames.trans (congrArg some hs)
    show wpAny (model X.prog X.w) X.A (noteFrame (.ref a) X.env) _ _ _
    refine Sky.land Zc.steady hfr hf sky fun hA flA upA => ?_
    have KA : Inv X pins σ' H' { s' with heap := hA } := J.landed nb flA.1 (up.trans upA) os ag
    obtain ⟨oA, wA, atA, zA, dA⟩ := flA.there
    have LA := Landed.of (s := s') hs hf hex J na nb flA.2.1 flA.2.2.1 ⟨oA, wA, atA, zA, dA⟩ KA
    have SA := KA.suite atA dA na LA.loc LA.fs
    refine wpAny_handleBy_cons (codeAny_handlers_test ?_) fun z => by cases z
    have ty : PySem.W.Looks (model X.prog X.w) hA (typeOf (.ref a)) (.ref C) := fun _ _ _ _ kk q => wpAny_typeOf_ref (kk _ _ atA) (by rw [zA.1]; exact q)
    have mk := PySem.W.exm_one (M := model X.prog X.w) KA.kIn ty mb
    have named : ∀ {Q E : Value → Shared → Prop}, Q c { s' with heap := hA } → wpAny (model X.prog X.w) (X.A.mark (some (.ref a))) (eval (.Name x np) X.env) Q E { s' with heap := hA } := fun q => by
      obtain ⟨g, gd, e | ⟨e, bt, nn⟩⟩ := hc
      · exact ld_glob SA g e q gd
      · exact ld_blt SA g e bt q nn gd
    refine named (mk.here ?_)
    match b, yes, no with
    | true, yes, _ =>
      refine codeAny_handlers_suite_as (HandSPX.lands_againZ flA fun hC flC upC => ?_)
      have KC : Inv X pins σ' H' { s' with heap := hC } := J.landed nb flC.1 ((up.trans upA).trans upC) os ag
      obtain ⟨oC, wC, atC, zC, dC⟩ := flC.there
      have LC := Landed.of (s := s') hs hf hex J na nb flC.2.1 flC.2.2.1 ⟨oC, wC, atC, zC, dC⟩ KC
      refine store_ok (X := X.suite a ((a, oC) :: (X.pn ++ pins))) (v := .ref a) (KC.suite atC dC na LC.loc LC.fs) hN hi (.inl hln) rfl (fun t5 S5 => ?_) (.inr hln)
      refine wpAny_mono ((hsu a oC _ d (X.pn ++ pins) zC ⟨_, dC⟩).run [] t5 _ H' _ S5 (yes rfl a na)) (fun f t6 e6 => ?_) fun _ _ z => z.elim
      have plain : ∀ {σ6 : St} {H6 : Hp} {Q : Shared → Prop}, Inv (X.suite a ((a, oC) :: (X.pn ++ pins))) [] σ6 H6 t6 → (∀ t7, Inv X pins (σ6.set i none) H6 t7 → Q t7) → wpAny (model X.prog X.w) X.A (do bindName X.env n .none; unbindBehindTheSuite X.env n hpos) (fun _ t7 => Q t7) X.xe t6 :=
        fun S q => gone_ok (S.unsuite I.ok) hN hi hln q
      cases f with
      | next => exact let ⟨σ6, H6, S6, q6⟩ := e6; keep_end LC atC hN hi hln S6 fun t7 K7 => ⟨_, _, K7, q6⟩
      | brk => exact let ⟨σ6, H6, S6, q6⟩ := e6; plain S6 fun t7 K7 => ⟨_, _, K7, q6⟩
      | cont => exact let ⟨σ6, H6, S6, q6⟩ := e6; plain S6 fun t7 K7 => ⟨_, _, K7, q6⟩
      | ret u => exact let ⟨v6, σ6, H6, S6, r6, q6⟩ := e6; plain S6 fun t7 K7 => ⟨_, _, _, K7, r6, q6⟩
    | false, _, no =>
      show wpAny _ X.A (handleBy (.ref a) X.env []) _ _ _
      refine wpAny_handleBy_nil ?_
      obtain ⟨oe, vs, tb1, _, _, e1, _, e2, e3, _⟩ := flA.2.2.2
      unfold PySem.passOn
      refine wpAny_bind (wpAny_field e1 e2 e3 ?_)
      rw [if_neg (by simp)]
      have fly : wpAny (model X.prog X.w) X.A (setFlight (.ref a) X.env.frame) (fun _ t4 => wpAny (model X.prog X.w) X.A (throw (.ref a) : Sem Flow) (SP X pins D) X.xe t4) X.xe { s' with heap := hA } := by
        rw [hf]
        exact HandSPX.setFlight_upZ flA fun hD held upD => wpAny_throw (tk _ _ ⟨a, B, sI, pins, σ', H', .ref C, d, rfl, J, nb, (up.trans upA).trans upD, .inr (.inr (by rw [hs]; exact held)), na, os, ag, no rfl⟩)
      first | exact wpAny_bind (wpAny_pure (wpAny_bind fly)) | exact wpAny_bind fly
end
end L2


/-! raise C(..) where C's own __init__ writes no attribute -/
namespace L2
open PySem PySem.Spec PyProof.Rows
section
variable {X : Cx} {o e : Expr} {es : List Expr} {to te : TE} {ta : TA} {f : Str} {p p' p1 p2 pos : Pos}
/-- C(e, ..), C's own __init__ keeping sp; no attribute is written -/
def tMkO0 (C : Addr) (sp : Sp) (dvs : List V) (ta : TA) : St → Hp → XK → Prop := fun σ H Q => ta σ H fun vs H1 => vs.length ≤ 1000 ∧ ∀ a, H1 a = none → sp (.ref a :: (vs ++ dvs)) (upd H1 a (exo a C none))
  (fun v H2 => v = .non ∧ H2 a = some (exo a C none) ∧ Q (.ref C) none (del H2 a)) (fun _ _ _ => False)
/-- the new exception is let go -/
theorem mk_gone {pins : List (Addr × Obj)} {σ : St} {H1 H2 : Hp} {hp hp2 h2 : Heap} {g1 g2 : Array GenState} {d1 d2 : Drawn} {t1 t2 : Nat} {os1 os2 : OsState} {a C : Addr} (I1 : Inv X pins σ H1 ⟨hp, g1, d1, t1, os1⟩) (young : hp.objs.size ≤ a)
    (k : ∀ b o, hp.get? b = some o → hp2.get? b = some o) (un : Un (frs X.stack) [] (upd H1 a (exo a C none)) H2 hp2 h2) (hok : HOk X.prog X.w H2 h2) (ho : os2 = os1) (hb : AllBare g2) (ea : H2 a = some (exo a C none)) :
    ∃ (t0 : Addr) (G : Heap), Inv X pins σ (del H2 a) ⟨G, g2, d2, t2, os2⟩ ∧ (∀ b o, G.get? b = some o → h2.get? b = some o) ∧ G.get? a = none ∧ h2.get? a = some ({ cls := .ref C, dict := none, data := .fields #[.ref t0, .none, .none, .none, .bool false, .none] } : Obj) ∧ del H2 a a = none := by
  obtain ⟨t0, at2⟩ := exo_at hok ea
  have n1 : H1 a = none := I1.hok.fresh young
  obtain ⟨G, in_, out⟩ := restrict h2 fun b => decide (b ≠ a)
  have other : ∀ b, b ≠ a → G.get? b = h2.get? b := fun b nb => in_ b (decide_eq_true nb)
  have gone : G.get? a = none := out a (by simp)
  have old : ∀ {b : Addr} {o : Obj}, hp.get? b = some o → b ≠ a := fun z => Nat.ne_of_lt (Nat.lt_of_lt_of_le (Heap.lt_size z) young)
  have low : ∀ {b : Addr}, b ≠ a → H1 b = none → upd H1 a (exo a C none) b = none := fun nb n => (upd_ne nb).trans n
  have high : ∀ {b : Addr} {u : HO}, H1 b = some u → upd H1 a (exo a C none) b = some u ∧ b ≠ a := fun z => ⟨(upd_ne (ne_of_none z n1)).trans z, ne_of_none z n1⟩
  have U : Un (frs X.stack) [] H1 (del H2 a) hp G := by
    refine ⟨fun b o z n hf hx => (other b (old z)).trans (un.keep b o (k b o z) (low (old z) n) hf hx), fun b o z n hf hx => ?_, fun b o z n hx => (del_ne (old z)).trans (un.free b o (k b o z) (low (old z) n) hx), fun b o z hx => ?_, fun b xs z => (del_ne (high z).2).trans (un.tups b xs (high z).1),
      fun b o v z => (del_ne (high z).2).trans (un.frzs b o v (high z).1), fun b ps z => ?_⟩
    · obtain ⟨sl, q⟩ := un.slot b o (k b o z) (low (old z) n) hf hx
      exact ⟨sl, (other b (old z)).trans q⟩
    · obtain ⟨o', q⟩ := un.there b o (k b o z) hx
      exact ⟨o', (other b (old z)).trans q⟩
    · obtain ⟨m, q⟩ := un.tbls b ps (high z).1
      exact ⟨m, (del_ne (high z).2).trans q⟩
  have held : HOk X.prog X.w (del H2 a) G := fun b o z => by
    have nb : b ≠ a := fun e => by
      rw [e, del_same] at z
      cases z
    rw [del_ne nb] at z
    refine (hok b o z).stay (fun c v hc y => ?_) (fun c hc => (del_ne (at_ne ea hc exo_own)).trans hc) fun c xs hc => (del_ne (at_ne ea hc exo_tup)).trans hc
    refine (other c ?_).trans y
    rcases hc with rfl | hc
    · exact nb
    · exact at_ne ea hc exo_own
  refine ⟨t0, G, I1.call' (ch := []) ho U held hb (fun b z => absurd z (by simp)), fun b o z => ?_, gone, at2, del_same⟩
  by_cases nb : b = a
  · rw [nb, gone] at z
    cases z
  · exact (other b nb).symm.trans z
variable {CX : CXT} {x : Str} {C fI : Addr} {k : Nat} {fd : FuncData} {ps : List Str} {sp : Sp} {ds : List Value} {dvs : List V}
theorem run_mk0 {pins : List (Addr × Obj)} {σ : St} {H1 : Hp} {s : Shared} {Q : XK} {us : List Value} {vs : List V} (T : OexC X.K C) (iC : PySem.W.findIn X.K (.ref C) "__init__" = some (some (.ref fI))) (tI : PySem.W.typeIn X.K (.ref fI) = some (.type "function"))
    (F1 : FnOk X.prog X.w X.K X.mg X.base CX k fI fd ps sp) (hr : Room (k + 1) X.A) (hb : Binds X.K fd ps ds) (hd : Vals dvs ds) (hx : Passes CX X (fun _ _ _ => False)) (I1 : Inv X pins σ H1 s) (r1 : Vals vs us) (hz : vs.length ≤ 1000)
    (q1 : ∀ a, H1 a = none → sp (.ref a :: (vs ++ dvs)) (upd H1 a (exo a C none)) (fun v H2 => v = .non ∧ H2 a = some (exo a C none) ∧ Q (.ref C) none (del H2 a)) (fun _ _ _ => False)) :
    wpAny (model X.prog X.w) X.A (call (.ref C) us) (MkP X pins σ Q) X.xe s := by
  obtain ⟨_, _, _, _, bm, _, _, _, _, _, _, _, _, _, _, oC, tail⟩ := T.cls
  obtain ⟨hp, gn, dr, tk, os⟩ := s
  obtain ⟨new, J⟩ := Inv.xnew C us I1
  have want := q1 _ new
  have rel : Vals (V.ref (hp.objs.size + 1) :: (vs ++ dvs)) (Value.ref (hp.objs.size + 1) :: (us ++ ds)) := .cons rfl (r1.append hd)
  have len : (Value.ref (hp.objs.size + 1) :: us ++ ds).length = ps.length := rel.length.symm.trans (F1.len _ _ _ _ want)
  have few : us.length ≤ sizeLine := by
    have := r1.length
    rw [sizeLine_eq]; omega
  have go := F1.run _ X.stack _ _ ⟨Value.ref (hp.objs.size + 1) :: us, []⟩ (Value.ref (hp.objs.size + 1) :: (us ++ ds)) _ _ (fun _ _ _ => False) (hr.make C us []) (J.env0.make C us []) (hb _ (Value.ref (hp.objs.size + 1) :: us) J.kIn len) rel want
  refine wpAny_call (PySem.HandSPX.call_own F.excBase_ValueError (fun Y => PySem.HandSPX.refsVE_contains Y bm tail) (I1.kIn _ _ oC) (PySem.W.looks_findIn I1.kIn iC) (fun me => PySem.W.bind_fn I1.kIn me tI) few (codeAny_mono go fun r z q => ?_))
  match r, q with
  | .error er, q => exact hx pins σ _ _ er z J q
  | .ok (.ret u), q =>
    obtain ⟨v, H2, os2, bare2, un2, hok2, rv, ev, ea, q2⟩ := q
    subst ev
    obtain ⟨h2, g2, d2, t2, os'⟩ := z
    have up : ∀ b o, hp.get? b = some o → (FX.withX hp C us).get? b = some o := fun b o e => Heap.get?_push_of_some _ (Heap.get?_push_of_some _ e)
    obtain ⟨t0, G, JG, kG, gG, oG, nG⟩ := mk_gone (d2 := d2) (t2 := t2) I1 (Nat.le_succ _) up un2 hok2 os2 bare2 ea
    exact ⟨rv, _, _, _, ⟨G, g2, d2, t2, os'⟩, _, .ref C, none, rfl, JG, kG, gG, oG, ⟨rfl, rfl⟩, rfl, rfl, nG, rfl, bare2, raises_own T.exC T.tyC, q2⟩
  | .ok .next, q => exact q.elim
  | .ok .brk, q => exact q.elim
  | .ok .cont, q => exact q.elim
/-- C() -/
theorem pmk_none (T : OexC X.K C) (iC : PySem.W.findIn X.K (.ref C) "__init__" = some (some (.ref fI))) (tI : PySem.W.typeIn X.K (.ref fI) = some (.type "function"))
    (F1 : FnOk X.prog X.w X.K X.mg X.base CX k fI fd ps sp) (hr : Room (k + 1) X.A) (hb : Binds X.K fd ps ds) (hd : Vals dvs ds) (hx : Passes CX X (fun _ _ _ => False)) (hg : Gl X x) (hm : X.mg x = some (.ref C)) (hdb : (x == ("__debug__" : Str)) = false := by decide) :
    PMk X (.Call (.Name x p) [] [] pos) (tMkO0 C sp dvs tNil) := by
  intro pins s σ H Q I h
  refine wpAny_Call_Name_kw (ld_glob I hg hm ?_ hdb)
  exact PySem.W.callWith_K0 I.kIn T.kC (run_mk0 (us := []) T iC tI F1 hr hb hd hx I .nil h.1 h.2)
end
end L2


/-! sorted(a dict of texts, key=a lambda of one parameter that gives (int, text)) -/
namespace SrtKy
open PySem PyProof.Rows Srt SrtO
/-- a tuple of a number and a text -/
def IsIS (h : Heap) (v : Value) (x : Int) (z : Str) : Prop := ∃ a o t u n, v = .ref a ∧ h.get? a = some o ∧ o.cls = .type "tuple" ∧ o.data = .seq #[.int x t, .str z u] n
theorem IsIS.keeps {h h' : Heap} {v : Value} {x : Int} {z : Str} (p : IsIS h v x z) (k : ∀ b o, h.get? b = some o → o.cls = .type "tuple" → h'.get? b = some o) : IsIS h' v x z := by
  obtain ⟨a, o, t, u, n, e, ho, hc, hd⟩ := p
  exact ⟨a, o, t, u, n, e, k _ _ ho hc, hc, hd⟩
def isLt (p q : Int × Str) : Bool := if p.1 = q.1 then decide (p.2.cps.toList < q.2.cps.toList) else decide (p.1 < q.1)
theorem isLt_iff {p q : Int × Str} : isLt p q = true ↔ p.1 < q.1 ∨ (p.1 = q.1 ∧ p.2.cps.toList < q.2.cps.toList) := by
  unfold isLt
  by_cases e : p.1 = q.1
  · rw [if_pos e, decide_eq_true_eq]
    constructor
    · exact fun h => .inr ⟨e, h⟩
    · rintro (h | h)
      · omega
      · exact h.2
  · rw [if_neg e, decide_eq_true_eq]
    constructor
    · exact .inl
    · rintro (h | h)
      · exact h
      · exact absurd h.1 e
theorem isLt_no {p q : Int × Str} : isLt p q = false ↔ q.1 < p.1 ∨ (p.1 = q.1 ∧ q.2.cps.toList ≤ p.2.cps.toList) := by
  unfold isLt
  by_cases e : p.1 = q.1
  · rw [if_pos e, decide_eq_false_iff_not, List.not_lt]
    constructor
    · exact fun h => .inr ⟨e, h⟩
    · rintro (h | h)
      · omega
      · exact h.2
  · rw [if_neg e, decide_eq_false_iff_not]
    constructor
    · exact fun h => .inl (by omega)
    · rintro (h | h)
      · omega
      · exact absurd h.1 e
theorem swo_is {α : Type} (k : α → Int × Str) : Swo fun v u => isLt (k v) (k u) := by
  refine ⟨fun x y h => ?_, fun x y z h1 h2 => ?_⟩
  · refine isLt_no.mpr ?_
    rcases isLt_iff.mp h with h | ⟨e, h⟩
    · exact .inl h
    · exact .inr ⟨e.symm, List.le_of_lt h⟩
  · refine isLt_no.mpr ?_
    rcases isLt_no.mp h1 with a | ⟨a, a'⟩ <;> rcases isLt_no.mp h2 with b | ⟨b, b'⟩
    · exact .inl (by omega)
    · exact .inl (by omega)
    · exact .inl (by omega)
    · exact .inr ⟨by omega, List.le_trans a' b'⟩
section
variable {prog : Program} {w : World} {s : Shared} {A : Around} {E : Value → Shared → Prop}
/-- two such tuples compare as isLt says -/
theorem is_lt {a1 a2 : Addr} {o1 o2 : Obj} {x1 x2 : Int} {z1 z2 : Str} {t1 t2 u1 u2 : Tok} {n1 n2 : Nat} (g1 : s.heap.get? a1 = some o1) (d1 : o1.data = .seq #[.int x1 t1, .str z1 u1] n1) (g2 : s.heap.get? a2 = some o2) (d2 : o2.data = .seq #[.int x2 t2, .str z2 u2] n2) :
    wpAny (model prog w) A (keyLt' (tuples' true) (.ref a1) (.ref a2)) (fun r s' => s' = s ∧ r = isLt (x1, z1) (x2, z2)) (fun _ _ => False) s := by
  refine PySem.W.kat_lt g1 d1 g2 d2 ?_
  show PySem.W.KatLex prog w A true (decide (2 < 2)) _ [(.int x1 t1, .int x2 t2), (.str z1 u1, .str z2 u2)] 0 s
  refine PySem.W.kat_cons (SeqAt.EqAt.int_int x1 t1 x2 t2 prog w _ _ (PySem.W.kat_go (fun y1 => ?_) fun y1 => ?_))
  · have e1 : x1 = x2 := of_decide_eq_true (by simpa using y1)
    refine PySem.W.kat_yes (PySem.W.kat_cons (SeqAt.EqAt.str_str z1 u1 z2 u2 prog w _ _ (PySem.W.kat_go (fun y2 => ?_) fun y2 => ?_)))
    · have e2 : z1 = z2 := of_decide_eq_true (by simpa using y2)
      subst e1 e2
      exact PySem.W.kat_yes (PySem.W.kat_nil ⟨rfl, ((swo_is id).refl (x1, z1)).symm⟩)
    · exact PySem.W.kat_no (PySem.W.kat_one _ _ (PyProof.Rows.lt_str ⟨rfl, (if_pos (c := (x1, z1).1 = (x2, z2).1) e1).symm⟩))
  · have e1 : ¬ x1 = x2 := fun e => by
      subst e
      simp at y1
    exact PySem.W.kat_no (oneLt_int ⟨rfl, (if_neg (c := (x1, z1).1 = (x2, z2).1) e1).symm⟩)
theorem is_cmp {keys : List Value} {k : Value → Int × Str} (hp : ∀ v ∈ keys, IsIS s.heap v (k v).1 (k v).2) : Cmp prog w A s (tuples' true) (fun p => p.1 ∈ keys) (fun p q => isLt (k p.1) (k q.1)) := by
  rintro ⟨v1, w1⟩ ⟨v2, w2⟩ m1 m2
  obtain ⟨a1, o1, t1, u1, n1, e1, g1, _, d1⟩ := hp v1 m1
  obtain ⟨a2, o2, t2, u2, n2, e2, g2, _, d2⟩ := hp v2 m2
  have q := is_lt (prog := prog) (w := w) (A := A) (s := s) g1 d1 g2 d2
  rw [← e1, ← e2] at q
  exact q
theorem is_firsts {h : Heap} (keys : List Value) (hp : ∀ v ∈ keys, ∃ x z, IsIS h v x z) : ∃ fs : List Value, PySem.W.KatTups h keys fs ∧ fs.length = keys.length ∧ ∀ f ∈ fs, ∃ x t, f = Value.int x t := by
  induction keys with
  | nil => exact ⟨[], .nil, rfl, fun _ m => nomatch m⟩
  | cons v keys ih =>
    obtain ⟨fs, i1, i2, i3⟩ := ih fun u m => hp u (.tail _ m)
    obtain ⟨x, z, a, o, t, u, n, rfl, g, c, d⟩ := hp v (.head _)
    exact ⟨.int x t :: fs, .cons g c d rfl i1, congrArg Nat.succ i2, fun f m => (List.mem_cons.mp m).elim (fun e => ⟨x, t, e⟩) (i3 f)⟩
theorem is_kind {keys : List Value} {k : Value → Int × Str} {Q : SortKind → Shared → Prop} (some_ : 0 < keys.length) (hp : ∀ v ∈ keys, IsIS s.heap v (k v).1 (k v).2) (q : Q (tuples' true) s) : wpAny (model prog w) A (keyKind' keys.toArray) Q E s := by
  obtain ⟨fs, i1, i2, i3⟩ := is_firsts keys fun v m => ⟨_, _, hp v m⟩
  have differ : (Value.type "int" != Value.type "tuple") = true := by decide +kernel
  refine PySem.W.kat_kind (T := .type "int") i1 (by omega) (fun f m => ?_) rfl (by rw [differ]; exact q)
  obtain ⟨x, t, rfl⟩ := i3 f m
  exact PySem.W.Looks.now
/-- the sort itself: the keys stand in the store at kS, the list at a is empty -/
theorem key_end {a kS : Addr} {keys vs : List Value} {e e1 : Nat} {k : Value → Int × Str} {P : PySem.Fin → Shared → Prop} (hk : s.heap.get? kS = some (seqObj "list" keys.toArray e)) (ha : s.heap.get? a = some (seqObj "list" #[] e1)) (ne : kS ≠ a)
    (hl : keys.length = vs.length) (hz : vs.length ≤ sizeLine) (hp : ∀ v ∈ keys, IsIS s.heap v (k v).1 (k v).2)
    (h : ∀ (h' : Heap) (out : List (Value × Value)) (c : Nat), out.Perm (keys.zip vs) → out.Pairwise (fun p q => isLt (k q.1) (k p.1) = false) → (∀ b o, b ≠ kS → b ≠ a → s.heap.get? b = some o → h'.get? b = some o) →
      h'.get? a = some (seqObj "list" (out.map (·.2)).toArray c) → (∃ c', h'.get? kS = some (seqObj "list" #[] c')) → P (.done (.ret .none)) { s with heap := h' }) :
    wpAny (model prog w) A (ksk_end a false vs.toArray e1 (.ref kS) keys.toArray) P E s := by
  have ezip : (keys.toArray.zip vs.toArray).toList = keys.zip vs := by
    rw [ksk_zip, List.toList_toArray]
  have lz : (keys.zip vs).length = vs.length := by rw [List.length_zip, hl, Nat.min_self]
  have tail : ∀ st : SortSt, Srtd (fun p q : Keyed => isLt (k p.1) (k q.1)) (arrOf st).toList → Stb (fun p q : Keyed => isLt (k p.1) (k q.1)) (arrOf st).toList (keys.zip vs) → failedOf st = none →
      wpAny (model prog w) A (ksk_tail a false e1 (.ref kS) st) P E s := by
    intro st hs hb hf
    have hpm : (arrOf st).toList.Perm (keys.zip vs) := hb.perm
    have ls : ((arrOf st).map (·.2)).size = vs.length := by
      rw [Array.size_map, ← Array.length_toList, hpm.length_eq, lz]
    unfold ksk_tail
    try dsimp only
    refine wpAny_bind (listUpdate_at hk rfl ?_ (by rw [List.size_toArray, hl]; exact hz) (Nat.zero_le _))
    refine wpAny_bind (wpAny_letGo ?_)
    have ha1 : (s.heap.update kS (Obj.mapSeq fun _ => (#[] : Array Value))).get? a = some (seqObj "list" #[] e1) := ((Heap.SameBut.update s.heap kS _).2 a ne.symm).trans ha
    obtain ⟨c1, hk1⟩ : ∃ c1, (s.heap.update kS (Obj.mapSeq fun _ => (#[] : Array Value))).get? kS = some (seqObj "list" #[] c1) := ⟨_, get?_update_seq hk fun _ => #[]⟩
    refine wpAny_bind (seqEpoch_at ha1 rfl ?_)
    refine wpAny_bind (listUpdate_at ha1 rfl ?_ (Nat.zero_le _) (by show ((arrOf st).map (·.2)).size ≤ _; omega))
    rw [hf]
    simp only [bne_self_eq_false, Bool.false_eq_true, if_false]
    have s2 := Heap.SameBut.update (s.heap.update kS (Obj.mapSeq fun _ => (#[] : Array Value))) a (Obj.mapSeq fun _ => (arrOf st).map (·.2))
    obtain ⟨c2, hc2⟩ : ∃ c2, ((s.heap.update kS (Obj.mapSeq fun _ => (#[] : Array Value))).update a (Obj.mapSeq fun _ => (arrOf st).map (·.2))).get? a = some (seqObj "list" ((arrOf st).map (·.2)) c2) := ⟨_, get?_update_seq ha1 fun _ => (arrOf st).map (·.2)⟩
    have eo : (((arrOf st).toList.map (·.2)).toArray : Array Value) = (arrOf st).map (·.2) := by
      apply Array.ext'
      rw [List.toList_toArray, Array.toList_map]
    refine wpAny_pure (h _ (arrOf st).toList c2 hpm hs (fun b o n1 n2 q => (s2.2 b n2).trans (((Heap.SameBut.update s.heap kS _).2 b n1).trans q)) (by rw [eo]; exact hc2) ⟨c1, (s2.2 kS ne).trans hk1⟩)
  unfold ksk_end
  try dsimp only
  simp only [Bool.false_eq_true, if_false]
  by_cases h2 : vs.toArray.size < 2
  · rw [if_pos h2, if_pos h2]
    refine wpAny_bind (wpAny_pure ?_)
    rw [StateT.run_pure]
    refine wpAny_bind (wpAny_pure ?_)
    try dsimp only
    refine tail (SortSt.mk' general' (keys.toArray.zip vs.toArray) #[] 7 none) ?_ ?_ rfl
    · show Srtd _ (keys.toArray.zip vs.toArray).toList
      rw [ezip]
      rw [List.size_toArray] at h2
      match hh : keys.zip vs with
      | [] => exact List.Pairwise.nil
      | [v] => exact List.pairwise_singleton _ _
      | _ :: _ :: l =>
        rw [hh] at lz
        rw [List.length_cons, List.length_cons] at lz
        omega
    · show Stb _ (keys.toArray.zip vs.toArray).toList _
      rw [ezip]
      exact Stb.refl _
  · rw [if_neg h2, if_neg h2]
    rw [List.size_toArray] at h2
    refine wpAny_bind (is_kind (k := k) (by omega) hp ?_)
    have hall : AllL (fun p : Keyed => p.1 ∈ keys) (keys.toArray.zip vs.toArray).toList := fun p hm => by
      rw [ezip] at hm
      exact (List.of_mem_zip hm).1
    refine wpAny_bind (wpAny_mono (wpS_sortO (st0 := SortSt.mk' (tuples' true) (keys.toArray.zip vs.toArray) #[] 7 none)
      (Q := fun _ st' => Srtd (fun p q : Keyed => isLt (k p.1) (k q.1)) (arrOf st').toList ∧ Stb (fun p q : Keyed => isLt (k p.1) (k q.1)) (arrOf st').toList (keys.toArray.zip vs.toArray).toList ∧ failedOf st' = none)
      (swo_is fun p : Keyed => k p.1) (is_cmp hp) rfl hall rfl rfl fun st' a1 a2 a3 => ⟨a1, a2, a3⟩) ?_ fun _ _ e => e)
    rintro ⟨⟨⟩, st'⟩ s' ⟨rfl, hp1, hp2, hf⟩
    try dsimp only
    rw [ezip] at hp2
    exact tail st' hp1 hp2 hf
end
end SrtKy


namespace L2
open PySem PySem.Spec PyProof.Rows
section
variable {X : Cx} {pins : List (Addr × Obj)} {σ : St} {H : Hp} {s : Shared} {h' : Heap}
/-- an object that was not told is known from now on (it is younger than the entry, no frame, no cell, no pin) -/
theorem Inv.adopt {a : Addr} {o : HO} {t' : Nat} (I : Inv X pins σ H s) (k : ∀ b u, b ≠ a → s.heap.get? b = some u → h'.get? b = some u) (hn : H a = none) (hL : a ≠ X.env.locals) (h1 : a ∈ X.ex ∨ X.s_0.heap.objs.size ≤ a)
    (h2 : ∀ x c, X.env.cells.lookup x = some c → c ≠ a) (h3 : ∀ p ∈ X.pn ++ pins, p.1 ≠ a) (new : ObjOk X.prog X.w (upd H a o) h' a o) : Inv X pins σ (upd H a o) { s with heap := h', toks := t' } := by
  have nit : ∀ b u, H b = some u → b ≠ a := fun b u e z => by rw [z, hn] at e; cases e
  refine I.step (g' := s.gens) (d' := s.drawn) (ch := [a]) (fun b hb => ?_) (fun b o _ _ hc e _ => k b o (fun z => hc (by simp [z])) e) (fun b o _ _ hc e _ => ⟨o.slots, k b o (fun z => hc (by simp [z])) e⟩) (fun b _ hc _ n => by rw [upd_ne (fun z => hc (by simp [z]))]; exact n)
    (fun b o hc e => ⟨o, k b o (fun z => hc (by simp [z])) e⟩) (fun b _ e => by rw [upd_ne (nit b _ e)]; exact e) (fun b _ _ e => by rw [upd_ne (nit b _ e)]; exact e) (fun b ps e => ⟨#[], by rw [upd_ne (nit b _ e), e]; simp⟩) (fun m hm => ?_) (fun b u e => ?_) I.bare
  · have e : b = a := by simpa using hb
    subst e
    exact ⟨h1, hL, h2, h3⟩
  · obtain ⟨o, es, ep, ho, r⟩ := hm
    exact ⟨o, es, ep, k _ o (Ne.symm hL) ho, r⟩
  · by_cases hb : b = a
    · subst hb
      rw [upd_same] at e
      cases e
      exact new
    · rw [upd_ne hb] at e
      refine (I.hok b u e).stay (fun c v hc q => k c v ?_ q) (fun c q => by rw [upd_ne (nit c _ q)]; exact q) fun c _ q => by rw [upd_ne (nit c _ q)]; exact q
      rcases hc with z | z
      · rw [z]; exact hb
      · exact nit c _ z
/-- the same, a second object of ours having changed too -/
theorem Inv.adopt2 {a a2 : Addr} {o : HO} {t' : Nat} (I : Inv X pins σ H s) (k : ∀ b u, b ≠ a → b ≠ a2 → s.heap.get? b = some u → h'.get? b = some u) (hn : H a = none) (hn2 : H a2 = none)
    (hL : ∀ b, b = a ∨ b = a2 → ((b ∈ X.ex ∨ X.s_0.heap.objs.size ≤ b) ∧ b ≠ X.env.locals ∧ (∀ x c, X.env.cells.lookup x = some c → c ≠ b) ∧ ∀ p ∈ X.pn ++ pins, p.1 ≠ b)) (new : ObjOk X.prog X.w (upd H a o) h' a o) :
    Inv X pins σ (upd H a o) { s with heap := h', toks := t' } := by
  have nit : ∀ b u, H b = some u → b ≠ a := fun b u e z => by rw [z, hn] at e; cases e
  have nit2 : ∀ b u, H b = some u → b ≠ a2 := fun b u e z => by rw [z, hn2] at e; cases e
  refine I.step (g' := s.gens) (d' := s.drawn) (ch := [a, a2]) (fun b hb => hL b (by simpa using hb)) (fun b o _ _ hc e _ => k b o (fun z => hc (by simp [z])) (fun z => hc (by simp [z])) e)
    (fun b o _ _ hc e _ => ⟨o.slots, k b o (fun z => hc (by simp [z])) (fun z => hc (by simp [z])) e⟩) (fun b _ hc _ n => by rw [upd_ne (fun z => hc (by simp [z]))]; exact n)
    (fun b o hc e => ⟨o, k b o (fun z => hc (by simp [z])) (fun z => hc (by simp [z])) e⟩) (fun b _ e => by rw [upd_ne (nit b _ e)]; exact e) (fun b _ _ e => by rw [upd_ne (nit b _ e)]; exact e) (fun b ps e => ⟨#[], by rw [upd_ne (nit b _ e), e]; simp⟩) (fun m hm => ?_) (fun b u e => ?_) I.bare
  · obtain ⟨o, es, ep, ho, r⟩ := hm
    exact ⟨o, es, ep, k _ o (Ne.symm (hL a (.inl rfl)).2.1) (Ne.symm (hL a2 (.inr rfl)).2.1) ho, r⟩
  · by_cases hb : b = a
    · subst hb
      rw [upd_same] at e
      cases e
      exact new
    · rw [upd_ne hb] at e
      have hb2 := nit2 b _ e
      refine (I.hok b u e).stay (fun c v hc q => k c v ?_ ?_ q) (fun c q => by rw [upd_ne (nit c _ q)]; exact q) fun c _ q => by rw [upd_ne (nit c _ q)]; exact q
      · rcases hc with z | z
        · rw [z]; exact hb
        · exact nit c _ z
      · rcases hc with z | z
        · rw [z]; exact hb2
        · exact nit2 c _ z
/-- no cell of ours is a list -/
theorem Inv.nocell {a : Addr} {u : Obj} (I : Inv X pins σ H s) (h : s.heap.get? a = some u) (d : ∀ v, u.data ≠ .cell v) : ∀ x c, X.env.cells.lookup x = some c → c ≠ a := fun x c e z => by
  obtain ⟨v, o, ho, hd⟩ := I.cell x c e
  rw [z, h] at ho
  cases ho
  exact d _ hd
end
/-- what the keys of the first items are -/
def KysAt (H : Hp) (key : V → Int × Str) (xs : List V) (kA : List Value) : Prop := ∀ (j : Nat) (kv : Value), kA[j]? = some kv → ∃ (t : Addr) (x : V), kv = Value.ref t ∧ xs[j]? = some x ∧ H t = some (.tup [.int (key x).1, .str (key x).2])
theorem KysAt.up {H H' : Hp} {key : V → Int × Str} {xs : List V} {kA : List Value} (h : KysAt H key xs kA) (t : ∀ b ys, H b = some (.tup ys) → H' b = some (.tup ys)) : KysAt H' key xs kA := fun j kv e => by
  obtain ⟨a, x, e1, e2, e3⟩ := h j kv e
  exact ⟨a, x, e1, e2, t _ _ e3⟩
theorem KysAt.snoc {H : Hp} {key : V → Int × Str} {xs : List V} {kA : List Value} {t : Addr} {x : V} (h : KysAt H key xs kA) (hx : xs[kA.length]? = some x) (ht : H t = some (.tup [.int (key x).1, .str (key x).2])) : KysAt H key xs (kA ++ [.ref t]) := fun j kv e => by
  by_cases hj : j < kA.length
  · rw [List.getElem?_append_left hj] at e
    exact h j kv e
  · rw [List.getElem?_append_right (by omega)] at e
    have h0 : j - kA.length = 0 := by
      have := (List.getElem?_eq_some_iff.mp e).1
      rw [List.length_singleton] at this
      omega
    rw [h0] at e
    have e' : Value.ref t = kv := Option.some.inj e
    have : j = kA.length := by omega
    subst this
    exact ⟨t, x, e'.symm, hx, ht⟩
/-- the key that stands at an address -/
def keyOfL (H : Hp) : Value → Int × Str
  | .ref t => match H t with
    | some (.tup [.int n, .str z]) => (n, z)
    | _ => (0, "")
  | _ => (0, "")
theorem keyOfL_at {H : Hp} {t : Addr} {n : Int} {z : Str} (h : H t = some (.tup [.int n, .str z])) : keyOfL H (.ref t) = (n, z) := by
  show (match H t with
    | some (.tup [.int n, .str z]) => (n, z)
    | _ => ((0 : Int), ("" : Str))) = (n, z)
  rw [h]
theorem KysAt.is {X : Cx} {pins : List (Addr × Obj)} {σ : St} {H : Hp} {s : Shared} {key : V → Int × Str} {xs : List V} {kA : List Value} (I : Inv X pins σ H s) (h : KysAt H key xs kA) : ∀ v ∈ kA, SrtKy.IsIS s.heap v (keyOfL H v).1 (keyOfL H v).2 := fun v hv => by
  obtain ⟨j, hj⟩ := List.mem_iff_getElem?.mp hv
  obtain ⟨t, x, rfl, _, e⟩ := h j v hj
  rw [keyOfL_at e]
  obtain ⟨_, its, r, o, ho, hc, n, hd⟩ := I.hok _ _ e
  obtain ⟨u1, u2, rfl, ri, rj⟩ := vals2 r
  obtain ⟨t1, rfl⟩ := ri
  obtain ⟨t2, rfl⟩ := rj
  exact ⟨t, o, t1, t2, n, rfl, ho, hc, hd⟩
/-- a list whose picture is a permutation of a picture -/
theorem perm_lift {α β : Type} (f : α → β) {l m' : List β} (p : l.Perm m') : ∀ m : List α, m' = m.map f → ∃ l' : List α, l'.Perm m ∧ l'.map f = l := by
  induction p with
  | nil =>
    intro m e
    have : m = [] := List.map_eq_nil_iff.mp e.symm
    subst this
    exact ⟨[], .refl _, rfl⟩
  | cons x p ih =>
    intro m e
    cases m with
    | nil => cases e
    | cons y m =>
      rw [List.map_cons] at e
      injection e with e1 e2
      obtain ⟨l', h1, h2⟩ := ih m e2
      exact ⟨y :: l', h1.cons y, by rw [List.map_cons, h2, e1]⟩
  | swap x y l =>
    intro m e
    match m with
    | [] => cases e
    | [_] => simp at e
    | a :: b :: m =>
      rw [List.map_cons, List.map_cons] at e
      injection e with e1 e2
      injection e2 with e2 e3
      exact ⟨b :: a :: m, .swap a b m, by rw [List.map_cons, List.map_cons, e1, e2, e3]⟩
  | trans _ _ ih1 ih2 =>
    intro m e
    obtain ⟨l2, h1, h2⟩ := ih2 m e
    obtain ⟨l3, h3, h4⟩ := ih1 l2 h2.symm
    exact ⟨l3, h3.trans h1, h4⟩
theorem vals_map {α : Type} {f : α → V} {g : α → Value} : ∀ l : List α, (∀ p ∈ l, RelV (f p) (g p)) → Vals (l.map f) (l.map g)
  | [], _ => .nil
  | p :: l, h => .cons (h p (List.mem_cons_self ..)) (vals_map l fun q hq => h q (List.mem_cons_of_mem _ hq))
section
variable {X : Cx} {pins : List (Addr × Obj)} {σ : St} {H : Hp} {s : Shared}
theorem key_sort {A' : Around} {a f : Addr} {n : Nat} {xs : List V} {vs : List Value} {key : V → Int × Str} {J : Hp → Prop} {R : PySem.Fin → Shared → Prop} {E : Value → Shared → Prop}
    (I : Inv X pins σ H s) (hJ : J H) (r : Vals xs vs) (ha : s.heap.get? a = some (seqObj "list" vs.toArray n)) (hn : H a = none) (ho : X.s_0.heap.objs.size ≤ a) (hL : a ≠ X.env.locals) (hF : a ∉ X.fs) (hP : ∀ p ∈ X.pn ++ pins, p.1 ≠ a) (hz : vs.length ≤ sizeLine)
    (call_ : ∀ (x : V) (u : Value) (s' : Shared) (H' : Hp) (pins' : List (Addr × Obj)), x ∈ xs → RelV x u → Inv X (pins' ++ pins) σ H' s' → J H' → wpAny (model X.prog X.w) A' (call (.ref f) [u])
      (EP X (pins' ++ pins) σ fun v H2 => J H2 ∧ (∀ b ys, H' b = some (.tup ys) → H2 b = some (.tup ys)) ∧ ∃ t, v = .ref t ∧ H2 t = some (.tup [.int (key x).1, .str (key x).2])) (fun _ _ => False) s')
    (h : ∀ (ys : List V) (H1 : Hp) (s1 : Shared), ys.Perm xs → ys.Pairwise (fun x y => SrtKy.isLt (key y) (key x) = false) → J H1 → H1 a = none → Inv X pins σ (upd H1 a (.lst ys)) s1 → R (.done (.ret .none)) s1) :
    wpAny (model X.prog X.w) A' (ksk_tree a (.ref f) false) R E s := by
  have hlen : xs.length = vs.length := r.length
  obtain ⟨e1, ho1⟩ : ∃ e1, (s.heap.update a (Obj.mapSeq fun _ => (#[] : Array Value))).get? a = some (seqObj "list" #[] e1) := ⟨_, get?_update_seq ha fun _ => #[]⟩
  have emptied := Heap.SameBut.update s.heap a (Obj.mapSeq fun _ => (#[] : Array Value))
  unfold ksk_tree
  refine wpAny_bind (listItems_at ha rfl ?_)
  refine wpAny_bind (listUpdate_at ha rfl ?_ (by rw [List.size_toArray]; exact hz) (Nat.zero_le _))
  refine wpAny_bind (seqEpoch_at ho1 rfl ?_)
  refine wpAny_bind (wpAny_newTuple ?_ (by show vs.length ≤ _; exact hz))
  refine wpAny_bind (wpAny_newList ?_ (Nat.zero_le _))
  refine wpAny_holding ?_
  have next_ : ((s.heap.update a (Obj.mapSeq fun _ => (#[] : Array Value))).push (seqObj "tuple" vs.toArray 0)).objs.size = s.heap.objs.size + 1 := by rw [size_push', Heap.size_update]
  show wpAny _ _ (ksk_rest a (.ref f) false vs.toArray e1 (.ref ((s.heap.update a (Obj.mapSeq fun _ => (#[] : Array Value))).push (seqObj "tuple" vs.toArray 0)).objs.size)) _ _ { s with heap := ((s.heap.update a (Obj.mapSeq fun _ => (#[] : Array Value))).push (seqObj "tuple" vs.toArray 0)).push (seqObj "list" #[] 0) }
  have hk0 : (((s.heap.update a (Obj.mapSeq fun _ => (#[] : Array Value))).push (seqObj "tuple" vs.toArray 0)).push (seqObj "list" #[] 0)).get? ((s.heap.update a (Obj.mapSeq fun _ => (#[] : Array Value))).push (seqObj "tuple" vs.toArray 0)).objs.size = some (seqObj "list" #[] 0) := Heap.get?_push_size _ rfl
  have ha0 : (((s.heap.update a (Obj.mapSeq fun _ => (#[] : Array Value))).push (seqObj "tuple" vs.toArray 0)).push (seqObj "list" #[] 0)).get? a = some (seqObj "list" #[] e1) := Heap.get?_push_of_some _ (Heap.get?_push_of_some _ ho1)
  have hcell : ∀ x c, X.env.cells.lookup x = some c → c ≠ a := I.nocell ha (fun v z => nomatch z)
  have I1 : Inv X pins σ H { s with heap := ((s.heap.update a (Obj.mapSeq fun _ => (#[] : Array Value))).push (seqObj "tuple" vs.toArray 0)).push (seqObj "list" #[] 0) } :=
    I.turned (t' := s.toks) (it := a) (fun b o hb e => Heap.get?_push_of_some _ (Heap.get?_push_of_some _ ((emptied.2 b hb).trans e))) hn hL (.inr ho) hcell hP
  have hkn : s.heap.objs.size ≤ ((s.heap.update a (Obj.mapSeq fun _ => (#[] : Array Value))).push (seqObj "tuple" vs.toArray 0)).objs.size := by omega
  have hka : ((s.heap.update a (Obj.mapSeq fun _ => (#[] : Array Value))).push (seqObj "tuple" vs.toArray 0)).objs.size ≠ a := Nat.ne_of_gt (by rw [next_]; exact Nat.lt_succ_of_lt (Heap.lt_size ha))
  generalize ((s.heap.update a (Obj.mapSeq fun _ => (#[] : Array Value))).push (seqObj "tuple" vs.toArray 0)).objs.size = kS at hkn hka hk0 ⊢
  generalize ((s.heap.update a (Obj.mapSeq fun _ => (#[] : Array Value))).push (seqObj "tuple" vs.toArray 0)).push (seqObj "list" #[] 0) = h3 at I1 hk0 ha0 ⊢
  have kL : kS ≠ X.env.locals := Nat.ne_of_gt (Nat.lt_of_lt_of_le I.lt hkn)
  have kF : kS ∉ X.fs := I.nofs hkn
  have kP : ∀ p ∈ X.pn ++ pins, p.1 ≠ kS := fun p hp => Nat.ne_of_lt (Nat.lt_of_lt_of_le (Heap.lt_size (I.pin p hp).1) hkn)
  have kO : X.s_0.heap.objs.size ≤ kS := Nat.le_trans I.sz hkn
  have I2 : Inv X ([(kS, seqObj "list" ([] : List Value).toArray 0), (a, seqObj "list" #[] e1)] ++ pins) σ H { s with heap := h3 } := I1.pins_of fun p hp => by
    rcases List.mem_append.mp hp with hp | hp
    · rcases List.mem_cons.mp hp with rfl | hp
      · exact ⟨hk0, I.hok.fresh hkn, kL, kF, fun v z => nomatch z⟩
      · rw [List.mem_singleton.mp hp]
        exact ⟨ha0, hn, hL, hF, fun v z => nomatch z⟩
    · exact I1.pin p (List.mem_append_right _ hp)
  unfold ksk_rest
  refine wpAny_bind (wpAny_rule ?_)
  first
    | rw [List.forIn_toArray]
    | (rw [← Array.forIn_toList]; simp only [List.toList_toArray])
    | rw [← Array.forIn_toList]
  refine wpAny_bind (ksk_fold (fun i s' => ∃ (H' : Hp) (kA : List Value) (e : Nat), Inv X ([(kS, seqObj "list" kA.toArray e), (a, seqObj "list" #[] e1)] ++ pins) σ H' s' ∧ J H' ∧ kA.length = i ∧ KysAt H' key xs kA) vs 0 { s with heap := h3 }
    ⟨H, [], 0, I2, hJ, rfl, fun j kv e => by simp at e⟩ ?step ?done)
  case step =>
    rintro j u s' hu ⟨H', kA, e, I', hJ', hkl, hK⟩
    rw [Nat.zero_add] at hkl
    have hj : j < vs.length := (List.getElem?_eq_some_iff.mp hu).1
    obtain ⟨x, hx⟩ : ∃ x, xs[j]? = some x := ⟨_, List.getElem?_eq_getElem (by omega)⟩
    obtain ⟨u', hu', rx⟩ := r.get hx
    have eu : u' = u := by
      rw [hu] at hu'
      exact (Option.some.inj hu').symm
    subst eu
    refine wpAny_bind (wpAny_attempt (wpAny_mono (call_ x u' s' H' _ (List.mem_of_getElem? hx) rx I' hJ') (fun v s'' he => ?_) fun _ _ hF => hF.elim))
    obtain ⟨v', H2, J2, rv, hJ2, ht, t, ev, htt⟩ := he
    subst ev
    obtain rfl : v = Value.ref t := rv
    try dsimp only
    obtain ⟨nk, nkn, _, _, _⟩ := J2.pin (kS, seqObj "list" kA.toArray e) (List.mem_append_right _ (List.mem_append_left _ (.head _)))
    obtain ⟨na, nan, _, _, _⟩ := J2.pin (a, seqObj "list" #[] e1) (List.mem_append_right _ (List.mem_append_left _ (.tail _ (.head _))))
    obtain ⟨g, gg, gd, gt, gos⟩ := s''
    have hx1 := Heap.SameBut.update g kS (Obj.mapSeq (·.push (.ref t)))
    obtain ⟨c2, hc2⟩ : ∃ c2, (g.update kS (Obj.mapSeq (·.push (.ref t)))).get? kS = some (seqObj "list" (kA.toArray.push (.ref t)) c2) := ⟨_, get?_update_seq nk (·.push (.ref t))⟩
    refine wpAny_bind (listUpdate_at nk rfl ?_ (by rw [List.size_toArray]; omega) (by rw [Array.size_push, List.size_toArray]; omega))
    have J3 : Inv X pins σ H2 ⟨g, gg, gd, gt, gos⟩ := J2.pins_of fun p hp => J2.pin p (List.mem_append_right _ (List.mem_append_right _ hp))
    have J4 : Inv X pins σ H2 { (⟨g, gg, gd, gt, gos⟩ : Shared) with heap := g.update kS (Obj.mapSeq (·.push (.ref t))) } :=
      J3.turned (t' := gt) (it := kS) (fun b o hb q => (hx1.2 b hb).trans q) nkn kL (.inr kO) (J3.nocell nk (fun v z => nomatch z)) kP
    have eA : (kA ++ [Value.ref t]).toArray = kA.toArray.push (.ref t) := by simp
    refine wpAny_pure ⟨rfl, H2, kA ++ [.ref t], c2, J4.pins_of fun p hp => ?_, hJ2, by rw [List.length_append, List.length_singleton]; omega, (hK.up ht).snoc (by rw [hkl]; exact hx) htt⟩
    rcases List.mem_append.mp hp with hp | hp
    · rcases List.mem_cons.mp hp with rfl | hp
      · exact ⟨by rw [eA]; exact hc2, nkn, kL, kF, fun v z => nomatch z⟩
      · rw [List.mem_singleton.mp hp]
        exact ⟨(hx1.2 a hka.symm).trans na, nan, hL, hF, fun v z => nomatch z⟩
    · exact J4.pin p (List.mem_append_right _ hp)
  case done =>
    rintro s' ⟨H', kA, e, I', hJ', hkl, hK⟩
    rw [Nat.zero_add] at hkl
    obtain ⟨nk, nkn, _, _, _⟩ := I'.pin (kS, seqObj "list" kA.toArray e) (List.mem_append_right _ (List.mem_append_left _ (.head _)))
    obtain ⟨na, nan, _, _, _⟩ := I'.pin (a, seqObj "list" #[] e1) (List.mem_append_right _ (List.mem_append_left _ (.tail _ (.head _))))
    try dsimp only
    refine wpAny_bind (listItems_at nk rfl ?_)
    refine SrtKy.key_end (k := keyOfL H') nk na hka hkl hz (hK.is I') fun h' out c hp hs kp hA _ => ?_
    have J3 : Inv X pins σ H' s' := I'.pins_of fun p hp => I'.pin p (List.mem_append_right _ (List.mem_append_right _ hp))
    have lz : (kA.zip vs).length = xs.length := by rw [List.length_zip, hkl, Nat.min_self, hlen]
    obtain ⟨l', p1, p2⟩ := perm_lift Prod.fst hp ((kA.zip vs).zip xs) (by rw [List.map_fst_zip (by omega)])
    have every : ∀ p ∈ l', keyOfL H' p.1.1 = key p.2 ∧ RelV p.2 p.1.2 := fun p hm => by
      obtain ⟨j, hj⟩ := List.mem_iff_getElem?.mp (p1.mem_iff.mp hm)
      obtain ⟨⟨q1, q2⟩, q3⟩ := p
      rw [List.getElem?_zip_eq_some] at hj
      obtain ⟨hj1, hj2⟩ := hj
      rw [List.getElem?_zip_eq_some] at hj1
      obtain ⟨k1, k2⟩ := hj1
      obtain ⟨t, x, e3, e4, e5⟩ := hK j q1 k1
      obtain ⟨u, hu, ru⟩ := r.get hj2
      rw [k2] at hu
      cases hu
      rw [hj2] at e4
      cases e4
      subst e3
      exact ⟨keyOfL_at e5, ru⟩
    have py : (l'.map Prod.snd).Perm xs := by
      have q := p1.map Prod.snd
      rw [List.map_snd_zip (by omega)] at q
      exact q
    have pw : (l'.map Prod.snd).Pairwise (fun x y => SrtKy.isLt (key y) (key x) = false) := by
      rw [← p2, List.pairwise_map] at hs
      rw [List.pairwise_map]
      refine hs.imp_of_mem fun {p q} hm hm' hpq => ?_
      rw [← (every p hm).1, ← (every q hm').1]
      exact hpq
    have ev : Vals (l'.map Prod.snd) (out.map (·.2)) := by
      rw [← p2, List.map_map]
      exact vals_map l' fun p hm => (every p hm).2
    have hzy : (l'.map Prod.snd).length ≤ sizeLine := by rw [py.length_eq, hlen]; exact hz
    refine h _ H' _ py pw hJ' nan (J3.adopt2 (t' := s'.toks) (a := a) (a2 := kS) (o := .lst (l'.map Prod.snd)) (fun b u h1 h2 q => kp b u h2 h1 q) nan nkn (fun b hb => ?_) ⟨hzy, out.map (·.2), c, ev, hA⟩)
    rcases hb with rfl | rfl
    · exact ⟨.inr ho, hL, J3.nocell na (fun v z => nomatch z), hP⟩
    · exact ⟨.inr kO, kL, J3.nocell nk (fun v z => nomatch z), kP⟩
end
end L2


namespace L2
open PySem PySem.Spec PyProof.Rows LamX NdefX
/-- all that was told stays -/
def HKeep (H H' : Hp) : Prop := ∀ b o, H b = some o → H' b = some o
/-- the lambda as a function of the layer (its body is an expression: none of the statements' field is read) -/
def lamF (X : Cx) (params : Arguments) (scope : Scope) (c' : Addr) : NF := ⟨"<lambda>", X.env.qual ++ "<lambda>", params, [], scope, cloFrom X.env.cells scope.names [], c'⟩
/-- sorted(e, key=lambda ..): js: where the captured names stand among ours -/
def tSortLam (T : List (Addr × Str)) (q : Str) (N : List Str) (js : List Nat) (ta : TA) (tb : TE) : TE := fun σ H Q => ta σ H fun vs H1 => ∃ x : V, vs = [x] ∧ Tabs T H1 ∧ ∀ (c' : Addr) (H2 : Hp), ExtN H1 H2 → Tabs T H2 → H2 c' = some (CodeO c' q) →
  ∃ (a : Addr) (kvs : List (Key × V)) (ks : List Str) (key : Str → Int × Str), x = .ref a ∧ Rd H2 a (.dK kvs) ∧ kvs.map (·.1) = ks.map Sum.inr ∧ ks.length ≤ sizeLine ∧
    (∀ k ∈ ks, ∀ H, HKeep H2 H → tb (startF N [.str k] (js.map (NdefX.slotAt σ))) H fun v H3 => HKeep H H3 ∧ ∃ t, v = .ref t ∧ H3 t = some (.tup [.int (key k).1, .str (key k).2])) ∧
    ∀ (ys : List Str) (H3 : Hp) (p : Addr), ys.Perm ks → ys.Pairwise (fun x y => SrtKy.isLt (key y) (key x) = false) → HKeep H2 H3 → H3 p = none → Q (.ref p) (upd H3 p (.lst (ys.map V.str)))
section
variable {X : Cx}
theorem lam_call {pins : List (Addr × Obj)} {σ : St} {H : Hp} {s : Shared} {A' : Around} {f c' : Addr} {pm ctv : Value} {params : Arguments} {body : Expr} {scope : Scope} {N ps fr : List Str} {js : List Nat} {k : Nat} {us : List Value} {vs : List V} {tb : TE} {Q : VK}
    (I : Inv X pins σ H s) (hf : s.heap.get? f = some (PySem.W.kla_obj "<lambda>" (X.env.qual ++ "<lambda>") params body scope (cloFrom X.env.cells scope.names []) pm c' ctv)) (hc : H c' = some (CodeO c' (X.env.qual ++ "<lambda>")))
    (hb : bindArgs (PySem.W.kla_fn "<lambda>" (X.env.qual ++ "<lambda>") params body scope (cloFrom X.env.cells scope.names []) pm (.ref c') ctv) ⟨us, []⟩ = pure (ps.zip us)) (S : NScope N ps fr scope) (cp : Caps X (cloFrom X.env.cells scope.names []) fr js)
    (hr : Room (k + 1) A') (e0 : Env0 X.prog X.w X.K X.mg X.base A' X.stack s H) (hl : vs.length = ps.length) (r : Vals vs us)
    (hbody : ∀ (A : Around) (outer : List Env) (s : Shared) (H : Hp), Room k (A.deeper (envF (lamF X params scope c') f s.heap.objs.size)) → PE (ncx C8.CX0 X.prog X.w X.K X.mg X.base N (lamF X params scope c') f A outer s H C8.E0) body tb)
    (q : tb (startF N vs (js.map (NdefX.slotAt σ))) H Q) : wpAny (model X.prog X.w) A' (call (.ref f) us) (EP X pins σ fun v H2 => Q v H2 ∧ ∀ b ys, H b = some (.tup ys) → H2 b = some (.tup ys)) (fun _ _ => False) s := by
  obtain ⟨⟨oc, vs', t, hoc, hdc, hvc⟩, _, _⟩ := I.hok c' _ hc
  have rc : codeAny (model X.prog X.w) A' (.call (.ref f) ⟨us, []⟩) (CR C8.CX0 X.stack X.prog X.w H s (fun v H2 => Q v H2 ∧ ∀ b ys, H b = some (.tup ys) → H2 b = some (.tup ys)) C8.E0) s := by
    refine PySem.W.kla_callFunE hr.depth hf rfl S.co S.gen rfl ⟨c', oc, vs', t, rfl, hoc, hdc, hvc⟩ ?_
    rw [hb]
    refine wpAny_pure (wpAny_newFunctionEnv S.nocell (fun ⟨par, _⟩ mem => S.par par (List.of_mem_zip mem).1) (fun h₁ hns hsb => ⟨(e0.mod.nolimit.keeps fun b o e => (e0.bs b o e).1).fresh _ hsb, ?_⟩) S.kind)
    show codeAny _ _ (.expr body (envF (lamF X params scope c') f s.heap.objs.size)) _ _
    have stays : ∀ b o, s.heap.get? b = some o → h₁.get? b = some o := fun b o e => hsb.extBut b o (Nat.ne_of_lt (Heap.lt_size e)) (Heap.get?_push_of_some _ e)
    have J : Inv (ncx C8.CX0 X.prog X.w X.K X.mg X.base N (lamF X params scope c') f A' X.stack s H C8.E0) [] (startF N vs (js.map (NdefX.slotAt σ))) H { s with heap := h₁, toks := s.toks + (ps.zip us).length } :=
      inv_startN (F := lamF X params scope c') S hr.hd e0 hl r (cells_of I cp) hns stays
    refine PySem.W.kla_codeExpr (wpAny_mono ((hbody A' X.stack s H (hr.deeper _)).run [] _ _ H Q J q) (fun v s' hq => ?_) fun e s' hq => hq)
    obtain ⟨w', H', J', rv, hq'⟩ := hq
    exact ⟨w', H', J'.os, J'.bare, J'.base, J'.hok, rv, hq', J'.base.tups⟩
  refine wpAny_call (codeAny_mono rc fun r s' hq => ?_)
  cases r with
  | error e => exact (show False from hq).elim
  | ok fl =>
    cases fl with
    | ret u => exact I.after hq
    | next => exact False.elim hq
    | brk => exact False.elim hq
    | cont => exact False.elim hq
/-- THE RULE: sorted(e, key=lambda each: ..), e a dict of texts -/
theorem pe_sortedLam {T : List (Addr × Str)} {c P : Addr} {k : Nat} {params : Arguments} {body : Expr} {scope : Scope} {N fr : List Str} {js : List Nat} {each : Str} {e : Expr} {ta : TA} {tb : TE} {p pos kpos lpos : Pos} (hg : Gl X "sorted") (hm : X.mg "sorted" = none) (hcalm : X.calm = true) (ha : PA X [e] ta)
    (TB : TabB X.base X.mg c P) (hcode : X.env.code = .ref c) (hmT : (P, X.env.qual ++ "<lambda>") ∈ T) (hu : ∀ p ∈ T, p.1 = P → p.2 = X.env.qual ++ "<lambda>") (hdef : defaultsOf params X.env = ([], []))
    (hfree : ∀ y ∈ scope.names, y.2 = .free → X.env.scope.names.lookup y.1 = some .cell ∨ X.env.scope.names.lookup y.1 = some .free) (hfr : ∀ y ∈ fr, (y, NameKind.free) ∈ scope.names) (hjs : js.map (fun j => X.N[j]?) = fr.map some) (S : NScope N [each] fr scope)
    (hb : ∀ (q : Str) (cl : List (Str × Addr)) (pm cv ctv : Value) (u : Value), bindArgs (PySem.W.kla_fn "<lambda>" q params body scope cl pm cv ctv) ⟨[u], []⟩ = pure [(each, u)]) (hr : Room (k + 3) X.A)
    (hbody : ∀ (A : Around) (outer : List Env) (s : Shared) (H : Hp) (f c' : Addr), Room k (A.deeper (envF (lamF X params scope c') f s.heap.objs.size)) → PE (ncx C8.CX0 X.prog X.w X.K X.mg X.base N (lamF X params scope c') f A outer s H C8.E0) body tb)
    (hse : backTo pos (starEach [e] X.env) = (false, eval e X.env) :: backTo pos (starEach [] X.env) := by rfl) (hpl : (backTo pos (starEach [e] X.env)).any (·.1) = false := by rfl)
    (hall : (backToKw pos (keywordEach [⟨some "key", .Lambda params body scope lpos, kpos⟩] X.env)).all (·.1.isSome) = true := by rfl) (hnone : (backToKw pos (keywordEach [⟨some "key", .Lambda params body scope lpos, kpos⟩] X.env)).any (·.1.isNone) = false := by rfl)
    (hks : (backToKw pos (keywordEach [⟨some "key", .Lambda params body scope lpos, kpos⟩] X.env)).filterMap (·.1) = [Str.ofString "key"] := by rfl) :
    PE X (.Call (.Name "sorted" p) [e] [⟨some "key", .Lambda params body scope lpos, kpos⟩] pos) (tSortLam T (X.env.qual ++ "<lambda>") N js ta tb) := by
  refine ⟨fun pins s σ H Q I h => ?_⟩
  refine wpAny_Call_Name_kw (ld_blt I hg hm PyProof.Rows.Boot.«sorted» ?_ (by decide) (by decide))
  have hfr2 : ∀ y ∈ scope.names, y.2 = .free → ∃ c, X.env.cells.lookup y.1 = some c := fun y hy e => (hfree y hy e).elim (fun z => I.ok.has _ (.inl z)) fun z => I.ok.has _ (.inr z)
  refine PyProof.Rows.callWith_kw (thn (ha.run pos pins s σ H _ I h) fun us s1 hh => ?_) hse hpl hall hnone
  obtain ⟨vs, H1, I1, r1, x, ev, hT, hx⟩ := hh
  subst ev
  obtain ⟨ux, rfl, rx⟩ := vals1 r1
  rw [hks]
  show wpAny _ _ (evalAll ((do let v ← eval (.Lambda params body scope lpos) X.env; standAt pos; pure v) :: (backToKw pos (keywordEach [] X.env)).map (·.2))) _ _ s1
  refine wpAny_evalAll_cons (wpAny_bind (lam_make2 I1 TB hcode hmT hu hT hdef hfr2 fun f c' pm ctv H2 s2 I2 eN hT2 of f0 fF hc => ?_))
  refine wpAny_bind (wpAny_standAt (wpAny_pure (wpAny_evalAll_nil ?_)))
  obtain ⟨a, kvs, ks, key, rfl, hd, hkeys0, hz, hbs, hk⟩ := hx c' H2 eN hT2 hc
  cases rx
  show wpAny _ _ (call (.builtin "sorted") [.ref a] [(Str.ofString "key", .ref f)]) _ _ s2
  obtain ⟨z, lo, vs, rel, dd⟩ := dk_rd I2.hok hd
  obtain ⟨ep, hat⟩ := dd.dictAt
  have hkeys : vs.map (·.1) = ks.map Sum.inr := rel.keys.symm.trans hkeys0
  have hl : vs.length = ks.length := by
    have e := congrArg List.length hkeys
    rw [List.length_map, List.length_map] at e
    exact e
  have h16 : vs.length ≤ sizeLine := by rw [hl]; exact hz
  refine PyProof.Rows.call_function_entry_kw PyProof.Rows.kind_sorted PyProof.Rows.plain_sorted PyProof.Rows.entry_sorted (ksk_s1 _ _) ?_
  unfold Builtin.«sorted»
  refine wpAny_bind (m := checkCount "sorted" 1 1 _) (wpAny_pure ?_)
  refine wpAny_bind (PySem.W.kdu_collect (A := X.A.in1) (PySem.W.kdl_dict (knd := mixKind X.prog X.w) (kvs := vs) (ep := ep) lo) (I2.ok.hd hcalm) hat h16 fun h' tk acc hk2 hacc => ?_)
  have many : acc.toList.length = ks.length := by rw [Array.length_toList, hacc.1, hl]
  have hS : Vals (ks.map V.str) acc.toList := by
    have rows : Vals (vs.map fun p => kV p.1) acc.toList := keys_at (by rw [Array.length_toList]; exact hacc.1) fun j v e => hacc.2 j v (by rw [← Array.getElem?_toList]; exact e)
    have ek : (vs.map fun p => kV p.1) = ks.map V.str := by
      have e := congrArg (List.map kV) hkeys
      rw [List.map_map, List.map_map] at e
      exact e
    rw [ek] at rows
    exact rows
  have I3 : Inv X pins σ H2 { s2 with heap := h', toks := tk } := I2.kept hk2
  refine wpAny_bind (wpAny_newList ?_ (by rw [many]; exact hz))
  have laid_ : (h'.push (seqObj "list" acc.toList.toArray 0)).get? h'.objs.size = some (seqObj "list" acc.toList.toArray 0) := Heap.get?_push_size _ rfl
  show wpAny _ _ _ _ _ { s2 with heap := h'.push (seqObj "list" acc.toList.toArray 0), toks := tk }
  obtain ⟨fo, efo⟩ : ∃ fo, fo = PySem.W.kla_obj "<lambda>" (X.env.qual ++ "<lambda>") params body scope (cloFrom X.env.cells scope.names []) pm c' ctv := ⟨_, rfl⟩
  rw [← efo] at of
  have of3 : h'.get? f = some fo := hk2 _ _ of
  have fL : f ≠ X.env.locals := fun e => by
    obtain ⟨m, ⟨o, es, ep2, ho, hd2, _⟩, _⟩ := I2.loc
    rw [← e, of] at ho
    have ho' := Option.some.inj ho
    rw [← ho', efo] at hd2
    cases hd2
  have fFs : f ∉ X.fs := fun hm => fF (I2.ok.stk.elim (fun e => by rw [e]; exact hm) fun e => by rw [e.1]; exact (List.mem_filterMap.mpr (by
    obtain ⟨x, hx, q⟩ := List.mem_filterMap.mp hm
    exact ⟨x, List.mem_cons_of_mem _ hx, q⟩)))
  have I4 : Inv X ((f, fo) :: pins) σ H2 { s2 with heap := h'.push (seqObj "list" acc.toList.toArray 0), toks := tk } := (I3.kept (t' := tk) fun b u e => Heap.get?_push_of_some _ e).pins_of fun p hp => by
    rcases List.mem_cons.mp hp with rfl | hp
    · exact ⟨Heap.get?_push_of_some _ of3, f0, fL, fFs, fun v z => by
        rw [efo] at z
        cases z⟩
    · exact ⟨Heap.get?_push_of_some _ (I3.pin p (List.mem_append_right _ hp)).1, (I3.pin p (List.mem_append_right _ hp)).2⟩
  refine wpAny_bind (wpAny_holding (wpAny_call_entry_kw PyProof.Rows.slot_list_sort ⟨_, laid_, rfl⟩ PyProof.Rows.entry_list_sort ?_ (ksk_l1 _ _)))
  rw [ksk_t1]
  have hlt : ∀ p ∈ X.pn ++ ((f, fo) :: pins), p.1 ≠ h'.objs.size := fun p hp => by
    have lt : p.1 < h'.objs.size := by
      rcases List.mem_append.mp hp with hp | hp
      · exact Heap.lt_size (I3.pin p (List.mem_append_left _ hp)).1
      · rcases List.mem_cons.mp hp with rfl | hp
        · exact Heap.lt_size of3
        · exact Heap.lt_size (I3.pin p (List.mem_append_right _ hp)).1
    exact Nat.ne_of_lt lt
  refine key_sort (A' := X.A.in1.in1) (a := h'.objs.size) (xs := ks.map V.str) (key := fun v => match v with | .str y => key y | _ => (0, "")) (J := HKeep H2) I4 (fun _ _ e => e) hS laid_ (I3.hok.fresh (Nat.le_refl _)) I3.sz (Nat.ne_of_gt I3.lt) (I3.nofs (Nat.le_refl _)) hlt (by rw [many]; exact hz) (fun x u s' H' pins' hxm rx I' hJ => ?_) (fun ys H3 s3 py pw hJ hn J3 => ?_)
  · obtain ⟨y, hy, rfl⟩ := List.mem_map.mp hxm
    obtain ⟨of5, _, _, _, _⟩ := I'.pin (f, fo) (List.mem_append_right _ (List.mem_append_right _ (.head _)))
    rw [efo] at of5
    refine wpAny_mono (lam_call (vs := [V.str y]) (ps := [each]) (Q := fun v H3 => HKeep H' H3 ∧ ∃ t, v = .ref t ∧ H3 t = some (.tup [.int (key y).1, .str (key y).2])) I' of5 (hJ _ _ hc) (hb _ _ _ _ _ _) S (Caps.made I'.ok hfree hfr hjs) (hr.in1.in1) I'.env0.in1.in1 rfl (.cons rx .nil)
      (fun A outer s H hr2 => hbody A outer s H f c' hr2) (hbs y hy H' hJ)) (fun v s' hq => ?_) fun _ _ z => z
    obtain ⟨w, H4, I5, rv, ⟨q1, q2⟩, q3⟩ := hq
    exact ⟨w, H4, I5, rv, fun b o e => q1 b o (hJ b o e), q3, q2⟩
  · obtain ⟨zs, pz, ez⟩ := perm_lift V.str py ks rfl
    refine ⟨_, rfl, wpAny_pure ⟨_, rfl, .ref h'.objs.size, upd H3 h'.objs.size (.lst (zs.map V.str)), ?_, rfl, hk zs H3 _ pz ?_ hJ hn⟩⟩
    · rw [ez]
      exact J3.pins_of fun p hp => J3.pin p (List.mem_append_right _ (List.mem_cons_of_mem _ hp))
    · rw [← ez, List.pairwise_map] at pw
      exact pw
end
end L2


/-! y = {k: v for ..}, y a local; an expression whose answer is locked -/
namespace L2
open PySem PySem.Spec PyProof.Rows
section
variable {X : Cx} {i : Nat} {y : Str} {py : Pos} {kx vx tg iter : Expr} {ifs : List Expr} {scope : Scope} {own : List (Str × Nat)} {pos spos : Pos} {wi : TI} {g : TG} {tt : TT} {tk tv : TE}
theorem swd_true {gs : List Comprehension} {l : Nat} {env : Env} (kind : env.scope.kind = .function) (loc : env.scope.names.lookup y = some .local) (line : (py.line == pos.line) = true) (ap : (scope.names.any fun (n, k) => n == y && (k == .local || k == .cell)) = false) :
    swapsWith (.DictComp kx vx gs scope pos) (some (.Name y py)) l env = pure true := by
  have h1 : env.kindOf y = some .local := loc
  have h2 : env.blockKind = .function := by unfold Env.blockKind; rw [kind] <;> rfl
  unfold swapsWith
  simp only [h2, h1, ap, Expr.pos, line]
  rfl
theorem ps_setDc (hc : X.calm = true) (nd : X.N.Nodup) (hy : X.N[i]? = some y) (loc : X.env.scope.names.lookup y = some .local) (sw : swapsWith (.DictComp kx vx [⟨tg, iter, ifs, 0⟩] scope pos) (some (.Name y py)) spos.line X.env = pure true) (hi : PI X tg iter wi) (ok : BlkOk X.N X.env.scope scope own)
    (hg : ∀ (s : Shared) (H : Hp) (C : Addr) (cl : List (Str × Addr)) (fp : List Addr), PG (X.blk s H scope (compEnvC scope cl C X.env) fp) tg g) (ht : ∀ (s : Shared) (H : Hp) (C : Addr) (cl : List (Str × Addr)) (fp : List Addr), PTs (X.blk s H scope (compEnvC scope cl C X.env) fp) ifs tt)
    (hk : ∀ (s : Shared) (H : Hp) (C : Addr) (cl : List (Str × Addr)) (fp : List Addr), PE (X.blk s H scope (compEnvC scope cl C X.env) fp) kx tk)
    (hv : ∀ (s : Shared) (H : Hp) (C : Addr) (cl : List (Str × Addr)) (fp : List Addr), PE (X.blk s H scope (compEnvC scope cl C X.env) fp) vx tv) (hs : ∀ x, foldedSetIterable iter X.env x = pure x := by intro _; rfl) :
    PS X (.Assign [.Name y py] (.DictComp kx vx [⟨tg, iter, ifs, 0⟩] scope pos) spos) (tAsg (tDc wi g tt tk tv (own.map (·.2))) (gName i)) := by
  constructor
  intro pins s σ H D I h
  have want : tDc wi g tt tk tv (own.map (·.2)) σ H (fun x H1 => gName i x σ H1 D.nx) := h
  rw [exec_Assign_Name_used _ _ _ _ sw]
  refine wpAny_bind (wpAny_standAt (wpAny_bind ?_))
  show wpAny _ X.A (do let _ ← comprehension (.DictComp kx vx [⟨tg, iter, ifs, 0⟩] scope pos) scope X.env (firstIterPos [⟨tg, iter, ifs, 0⟩] pos) newDict false (eval iter X.env) (some (assign (.Name y py) X.env))) _ _ s
  refine wpAny_bind (thn (dc_core (Qf := fun _ s' => SP X pins D .next s') hc nd I hi ok hg ht hk hv hs want fun L C s' m H' J q hn f => ?_) fun _ _ z => wpAny_pure (wpAny_pure z))
  show wpAny _ _ (assign (.Name y py) X.env (.ref L)) _ _ _
  refine wpAny_assign_Name (store_ok2 (v := V.ref L) J nd hy (.inl loc) rfl (fun s2 J2 ⟨a, sb, ha⟩ => ?_) (.inr loc))
  obtain ⟨z0, z1, z2, z3, z4, z5⟩ := f
  have off : C ≠ a := ha.elim (fun e => e ▸ z1) fun e => (z4 y a e).symm
  exact ⟨m, hn.sameBut sb off, fun h3 sb3 => ⟨_, H', J2.turned (t' := s2.toks) (fun b o hb e => (sb3.2 b hb).trans e) z0 z1 z3 z4 z5, q⟩⟩
/-- e, its answer locked from then on -/
def tLk (te : TE) : TE := fun σ H Q => te σ H fun x H1 => ∃ d u, x = .ref d ∧ H1 d = some u ∧ Mut (some u) ∧ ∀ od, Q (.ref d) (upd H1 d (.frz od u))
theorem pe_lk {e : Expr} {te : TE} (he : PE X e te) : PE X e (tLk te) := by
  constructor
  intro pins s σ H Q I h
  refine thn (he.run pins s σ H _ I h) fun v s1 ⟨x, H1, J, r, d, u, ex, hd, mu, q⟩ => ?_
  subst ex
  obtain ⟨od, J1⟩ := J.lock hd mu
  exact ⟨.ref d, _, J1, r, q od⟩
end
end L2


namespace FT
open PySem L2
/-- the i-th statement of the row's text -/
def top (i : Nat) : Stmt := PySem.Challenge.pw_flagtrees_k08_recognized.main.body.getD i (.Pass ⟨0, 0, 0, 0⟩)
abbrev s__wall : Stmt := top 0
abbrev s_InvalidForest___init__ : Stmt := inClass (top 3) 0
abbrev s_UnknownName___init__ : Stmt := inClass (top 4) 0
abbrev s_InvalidUsers___init__ : Stmt := inClass (top 5) 0
abbrev s_InvalidSizes___init__ : Stmt := inClass (top 6) 0
abbrev s_InvalidPlace___init__ : Stmt := inClass (top 7) 0
abbrev s_UnknownUser___init__ : Stmt := inClass (top 8) 0
abbrev s_Mismatch___init__ : Stmt := inClass (top 9) 0
abbrev s_InvalidNumber___init__ : Stmt := inClass (top 10) 0
abbrev s_NotBest___init__ : Stmt := inClass (top 11) 0
abbrev s_is_name : Stmt := top 15
abbrev s_is_ancestor : Stmt := top 16
abbrev s_need_parents : Stmt := top 17
abbrev s_Forest___init__ : Stmt := inClass (top 18) 2
abbrev s_Forest___eq__ : Stmt := inClass (top 18) 3
abbrev s_Forest_flags : Stmt := inClass (top 18) 4
abbrev s_Forest_parents : Stmt := inClass (top 18) 5
abbrev s_Forest_text : Stmt := inClass (top 18) 6
abbrev s_Forest_children : Stmt := inClass (top 18) 7
abbrev s_Forest_path : Stmt := inClass (top 18) 8
abbrev s_Forest_under : Stmt := inClass (top 18) 9
abbrev s_Forest_distance : Stmt := inClass (top 18) 10
abbrev s_Forest_walk : Stmt := inClass (top 18) 11
abbrev s_Forest_parse : Stmt := inClass (top 18) 12
abbrev s_path_in : Stmt := top 19
abbrev s_places_of : Stmt := top 20
abbrev s_need_place : Stmt := top 21
abbrev s_need_flag : Stmt := top 22
abbrev s_is_integer : Stmt := top 24
abbrev s_need_feasible : Stmt := top 25
abbrev s_residents_of : Stmt := top 26
abbrev s_sizes_of : Stmt := top 28
abbrev s_Assignment___init__ : Stmt := inClass (top 29) 1
abbrev s_Assignment___eq__ : Stmt := inClass (top 29) 2
abbrev s_Assignment_forest : Stmt := inClass (top 29) 3
abbrev s_Assignment_places : Stmt := inClass (top 29) 4
abbrev s_Assignment_total : Stmt := inClass (top 29) 5
abbrev s_Assignment_sizes : Stmt := inClass (top 29) 6
abbrev s_Assignment_flags_of : Stmt := inClass (top 29) 7
abbrev s_Assignment_has : Stmt := inClass (top 29) 8
abbrev s_Assignment_users_of : Stmt := inClass (top 29) 9
abbrev s_Assignment_at : Stmt := inClass (top 29) 10
abbrev s_Assignment_moved : Stmt := inClass (top 29) 11
abbrev s_Assignment_empty : Stmt := inClass (top 29) 12
abbrev s_need_user : Stmt := top 30
abbrev s_need_match : Stmt := top 31
abbrev s_amounts_of : Stmt := top 33
abbrev s_crossings : Stmt := top 34
abbrev s_edge_order : Stmt := top 35
abbrev s_best : Stmt := top 36
abbrev s_traffic : Stmt := top 37
abbrev s_is_best : Stmt := top 38
abbrev s__law_begin : Stmt := top 40
abbrev s__law_take : Stmt := top 41
abbrev s__law_pick : Stmt := top 42
abbrev s__law_order : Stmt := top 43
abbrev s__law_names : Stmt := top 44
abbrev s__law_parents : Stmt := top 45
abbrev s__law_path : Stmt := top 46
abbrev s__law_sizes : Stmt := top 47
abbrev s__law_far : Stmt := top 48
abbrev s__law_every : Stmt := top 49
abbrev s__law_error : Stmt := top 50
abbrev s__law_traffic : Stmt := top 51
abbrev s__law_is_fewest : Stmt := top 52
abbrev s__law_drawn : Stmt := top 53
abbrev s__law_other_parents : Stmt := top 54
abbrev s_law : Stmt := top 55
end FT


/-! heaps, lists, texts: what all the laws' proofs share. -/
namespace FT
open PySem L2 TL
abbrev Same (H H' : Hp) : Prop := ∀ b o, H b = some o → H' b = some o
theorem Same.refl {H : Hp} : Same H H := fun _ _ e => e
theorem Same.trans {H H1 H2 : Hp} (a : Same H H1) (b : Same H1 H2) : Same H H2 := fun x o e => b x o (a x o e)
theorem Same.free {H H' : Hp} {p : Addr} (s : Same H H') (n : H' p = none) : H p = none := by
  cases e : H p with
  | none => rfl
  | some o =>
    rw [s p o e] at n
    cases n
theorem Same.sql {K : PySem.W.Frag} {H H' : Hp} {a : Addr} {xs : List V} (e : Same H H') (h : SqL K H a xs) : SqL K H' a xs := by
  rcases h with (h | ⟨o, h⟩) | h
  · exact .inl (.inl (e _ _ h))
  · exact .inl (.inr ⟨o, e _ _ h⟩)
  · exact .inr h
theorem Same.sqt {K : PySem.W.Frag} {H H' : Hp} {a : Addr} {xs : List V} (e : Same H H') (h : SqT K H a xs) : SqT K H' a xs := by
  rcases h with (h | ⟨o, h⟩) | h
  · exact .inl (.inl (e _ _ h))
  · exact .inl (.inr ⟨o, e _ _ h⟩)
  · exact .inr h
theorem same_new {H : Hp} {p : Addr} {o : HO} (n : H p = none) : Same H (upd H p o) := fun b u e => by
  rw [upd_ne (ne_of_none e n)]
  exact e
theorem Same.put {H H' : Hp} {p : Addr} {o : HO} (s : Same H H') (n : H p = none) : Same H (upd H' p o) := fun b u e => by
  rw [upd_ne (ne_of_none e n)]
  exact s b u e
/-- what the text finds among the module's names -/
structure Nm (mg : Str → Option Value) : Prop where
  abs : mg "abs" = none
  len : mg "len" = none
  rng : mg "range" = none
  enu : mg "enumerate" = none
  zip : mg "zip" = none
  isi : mg "isinstance" = none
  all : mg "all" = none
  srt : mg "sorted" = none
  lst : mg "list" = none
  dct : mg "dict" = none
  str : mg "str" = none
  int : mg "int" = none
  tup : mg "tuple" = none
  sum : mg "sum" = none
  min : mg "min" = none
  max : mg "max" = none
  rep : mg "repr" = none
  bool : mg "bool" = none
  any : mg "any" = none
  vE : mg "ValueError" = none
theorem take_more {α : Type} {l : List α} {i : Nat} {x : α} (h : l[i]? = some x) : l.take (i + 1) = l.take i ++ [x] := by
  rw [List.take_succ, h] <;> rfl
theorem cut_ints (ns : List Int) (lo hi : Option Int) : ∃ ms : List Int, cutV (ns.map V.int) lo hi = ms.map V.int ∧ ms.length ≤ ns.length := by
  unfold cutV
  generalize HT.sIx (ns.map V.int).length 0 lo = i
  generalize HT.sIx (ns.map V.int).length (ns.map V.int).length hi = j
  refine ⟨(ns.drop i).take (j - i), by rw [List.map_take, List.map_drop], ?_⟩
  rw [List.length_take, List.length_drop]
  omega
theorem cut_take {xs : List V} {j : Nat} (h : j ≤ xs.length) : cutV xs none (some (j : Int)) = xs.take j := by
  have e : HT.sIx xs.length xs.length (some (j : Int)) = min j xs.length := HT.sIx_nat _ _ j
  show (xs.drop 0).take (HT.sIx xs.length xs.length (some (j : Int)) - 0) = xs.take j
  rw [e, List.drop_zero, Nat.sub_zero, Nat.min_eq_left h]
theorem map_at {α : Type} {f : α → V} {cells : List α} {j : Nat} {z : α} (h : cells[j]? = some z) : (cells.map f)[j]? = some (f z) := by
  rw [List.getElem?_map, h] <;> rfl
theorem map_of {α : Type} {f : α → V} {l : List α} {j : Nat} {x : V} (h : (l.map f)[j]? = some x) : ∃ z, l[j]? = some z ∧ x = f z := by
  rw [List.getElem?_map] at h
  obtain ⟨z, hz, rfl⟩ := Option.map_eq_some_iff.mp h
  exact ⟨z, hz, rfl⟩
theorem ixN_nat {n j : Nat} (h : j < n) : ixN n (j : Int) = some j := by
  unfold ixN
  rw [if_pos (by omega), if_pos (by omega)]
  simp
theorem map_erase {α β : Type} (f : α → β) : ∀ (l : List α) (i : Nat), (l.map f).eraseIdx i = (l.eraseIdx i).map f
  | [], _ => rfl
  | _ :: _, 0 => rfl
  | a :: l, i + 1 => congrArg (List.cons (f a)) (map_erase f l i)
theorem erase_perm {α : Type} : ∀ (l : List α) (i : Nat) (h : i < l.length), (l[i] :: l.eraseIdx i).Perm l
  | [], _, h => absurd h (Nat.not_lt_zero _)
  | _ :: _, 0, _ => .refl _
  | a :: l, i + 1, h => (List.Perm.swap a _ _).trans ((erase_perm l i (Nat.lt_of_succ_lt_succ h)).cons a)
/-- how many items stand there -/
def many (H : Hp) (a : Addr) : Nat := match H a with
  | some (.lst xs) => xs.length
  | _ => 0
theorem many_at {H : Hp} {a : Addr} {xs : List V} (h : H a = some (.lst xs)) : many H a = xs.length := by
  unfold many
  rw [h]
theorem items_strs {Pz : Str → Prop} {ws : List Str} (h : ∀ z ∈ ws, Pz z) : ∀ (i : Nat) (x : V), (ws.map V.str)[i]? = some x → ∃ z, x = .str z ∧ Pz z := fun i x e => by
  obtain ⟨z, hz, rfl⟩ := map_of e
  exact ⟨z, rfl, h z (List.mem_of_getElem? hz)⟩
theorem items_ints {Pz : Int → Prop} {ws : List Int} (h : ∀ z ∈ ws, Pz z) : ∀ (i : Nat) (x : V), (ws.map V.int)[i]? = some x → ∃ z, x = .int z ∧ Pz z := fun i x e => by
  obtain ⟨z, hz, rfl⟩ := map_of e
  exact ⟨z, rfl, h z (List.mem_of_getElem? hz)⟩
theorem inV_strs (x : Str) : ∀ fs : List Str, inV (.str x) (fs.map V.str) = decide (x ∈ fs)
  | [] => rfl
  | y :: fs => by
    show (eqV (.str y) (.str x) || inV (.str x) (fs.map V.str)) = _
    rw [inV_strs x fs]
    have e : eqV (.str y) (.str x) = decide (x = y) := by
      show (y == x) = decide (x = y)
      rw [Bool.eq_iff_iff, beq_iff_eq, decide_eq_true_eq]
      exact eq_comm
    rw [e, Bool.eq_iff_iff]
    simp only [Bool.or_eq_true, decide_eq_true_eq, List.mem_cons]
theorem flat_strs : ∀ fs : List Str, (fs.map V.str).all flatV = true
  | [] => rfl
  | _ :: fs => flat_strs fs
/-! ### texts -/
/-- a name: letters, one to eight, not self -/
def NameL (z : Str) : Prop := (∀ c ∈ tl z, 97 ≤ c ∧ c ≤ 122) ∧ 1 ≤ (tl z).length ∧ (tl z).length ≤ 8 ∧ z ≠ "self"
instance (z : Str) : Decidable (NameL z) := by unfold NameL; infer_instance
theorem NameL.len {z : Str} (h : NameL z) : 1 ≤ z.length ∧ z.length ≤ 8 := by
  rw [len_tl]
  exact ⟨h.2.1, h.2.2.1⟩
theorem NameL.self {z : Str} (h : NameL z) : z ≠ "self" := h.2.2.2
theorem NameL.ne {z : Str} (h : NameL z) : z ≠ "" := fun e => by
  subst e
  have := h.2.1
  revert this
  decide +kernel
theorem strOk_name {z : Str} (h : NameL z) : PyData.strOk z = true := by
  unfold PyData.strOk
  simp only [Bool.and_eq_true, decide_eq_true_eq, Array.all_eq_true_iff_forall_mem]
  intro c hc
  have := h.1 c (Array.mem_toList_iff.mpr hc)
  omega
theorem strOk_root : PyData.strOk "" = true := by decide +kernel
/-! ### order -/
theorem rising_all : ∀ (l : List Str) (p : Str), PyProof.Rows.risingS p l = true → (∀ y ∈ l, tl p ≤ tl y) ∧ l.Pairwise (fun a b => tl a ≤ tl b)
  | [], p, _ => ⟨fun y h => (by cases h), List.Pairwise.nil⟩
  | x :: r, p, h => by
    have h' : (!PySem.Spec.ltCps x.cps.toList p.cps.toList && PyProof.Rows.risingS x r) = true := h
    rw [Bool.and_eq_true, PyProof.Rows.ltCps_eq] at h'
    obtain ⟨h1, h2⟩ := h'
    have px : tl p ≤ tl x := by
      show ¬ (tl x < tl p)
      intro z
      rw [decide_eq_true z] at h1
      cases h1
    obtain ⟨i1, i2⟩ := rising_all r x h2
    refine ⟨fun y hy => ?_, List.pairwise_cons.mpr ⟨i1, i2⟩⟩
    rcases List.mem_cons.mp hy with rfl | hy
    · exact px
    · exact List.le_trans px (i1 y hy)
theorem sorted_pw {l : List Str} (h : PyProof.Rows.sortedS l = true) : l.Pairwise (fun a b => tl a ≤ tl b) := by
  cases l with
  | nil => exact .nil
  | cons x r =>
    obtain ⟨i1, i2⟩ := rising_all r x h
    exact List.pairwise_cons.mpr ⟨i1, i2⟩
/-- one order of the same texts -/
theorem sorted_one {l m : List Str} (p : l.Perm m) (hl : PyProof.Rows.sortedS l = true) (hm : PyProof.Rows.sortedS m = true) : l = m :=
  List.Perm.eq_of_pairwise (le := fun a b => tl a ≤ tl b) (fun a b _ _ h1 h2 => ext_tl (List.le_antisymm h1 h2)) (sorted_pw hl) (sorted_pw hm) p
/-! ### comprehensions of dicts, locks -/
/-- a dict comprehension over a walk: Pv by the turn and the heap (the new dict at D within) -/
theorem dc_it {J : It} {n : Nat} {G : Hp → Prop} {Y : Nat → Hp → V → Hp → Prop} (w : Walk J n G Y) {g : TG} {tt : TT} {tk tv : TE} {vs : List Nat} {σ : St} {H1 : Hp} {D : Addr} {Qd : Hp → Prop} (Pv : Nat → Hp → Prop) (h0 : Pv 0 (upd H1 D (.dK []))) (hG : ∀ i H, i ≤ n → Pv i H → G H)
    (hs : ∀ i x H H', i < n → Pv i H → Y i H x H' → g x (wipe σ vs) H' fun σ2 H2 => wipe σ2 vs = wipe σ vs ∧ tt σ2 H2 fun b H3 =>
      if b = true then tk σ2 H3 fun y H4 => tv σ2 H4 fun z H5 => ∃ kvs k, y = kV k ∧ H5 D = some (.dK kvs) ∧ kvs.length < sizeLine ∧ Pv (i + 1) (upd H5 D (.dK (putK kvs k z))) else Pv (i + 1) H3) (hd : ∀ H, Pv n H → Qd H) :
    ∃ W : Nat → Nat → Hp → Prop, (∃ m, W 0 m (upd H1 D (.dK []))) ∧ ∀ i m H, W i m H →
      (J.stop i H ∧ Qd H) ∨ (J.go i H ∧ ∃ Nx : Hp → Prop, (∀ H', Nx H' → ∃ m', m' < m ∧ W (i + 1) m' H') ∧ ∀ x H', J.yld i H x H' → g x (wipe σ vs) H' fun σ2 H2 => wipe σ2 vs = wipe σ vs ∧ tt σ2 H2 fun b H3 =>
        if b = true then tk σ2 H3 fun y H4 => tv σ2 H4 fun z H5 => ∃ kvs k, y = kV k ∧ H5 D = some (.dK kvs) ∧ kvs.length < sizeLine ∧ Nx (upd H5 D (.dK (putK kvs k z))) else Nx H3) := by
  refine ⟨fun i m H => m = n - i ∧ i ≤ n ∧ Pv i H, ⟨n, by simp, Nat.zero_le _, h0⟩, fun i m H ⟨em, hi, p⟩ => ?_⟩
  have gh := hG i H hi p
  rcases Nat.lt_or_ge i n with lt | ge
  · exact .inr ⟨w.goes i H lt gh, Pv (i + 1), fun H' p' => ⟨n - (i + 1), by omega, rfl, lt, p'⟩, fun x H' y => hs i x H H' lt p (w.yields i H x H' lt gh y)⟩
  · have ei : i = n := by omega
    subst ei
    exact .inl ⟨w.stops H gh, hd H p⟩
theorem unlock_same {H H' : Hp} {q : Addr} {u : HO} {o : Obj} (e : H q = some u) (s : Same (upd H q (.frz o u)) H') : Same H (upd H' q u) := fun b x h => by
  by_cases z : b = q
  · subst z
    rw [upd_same]
    exact e.symm.trans h |>.symm ▸ rfl
  · rw [upd_ne z]
    exact s b x (by rw [upd_ne z]; exact h)
/-! ### dicts with text keys, by any values -/
/-- a dict of values by texts -/
def kvT (t : List (Str × V)) : List (Key × V) := t.map fun p => (Sum.inr p.1, p.2)
theorem kvT_len (t : List (Str × V)) : (kvT t).length = t.length := by unfold kvT; rw [List.length_map]
theorem kvT_app (t : List (Str × V)) (f : Str) (z : V) : kvT t ++ [(Sum.inr f, z)] = kvT (t ++ [(f, z)]) := by
  unfold kvT
  rw [List.map_append] <;> rfl
theorem kvT_any (t : List (Str × V)) (f : Str) : ((kvT t).any fun kv => decide (kv.1 = Sum.inr f)) = decide (f ∈ t.map Prod.fst) := by
  induction t with
  | nil => rfl
  | cons p t ih =>
    show (decide ((Sum.inr p.1 : Key) = Sum.inr f) || ((kvT t).any fun kv => decide (kv.1 = Sum.inr f))) = _
    rw [ih, Bool.eq_iff_iff]
    simp only [Bool.or_eq_true, decide_eq_true_eq, List.map_cons, List.mem_cons]
    constructor
    · rintro (h | h)
      · exact .inl (Sum.inr.inj h).symm
      · exact .inr h
    · rintro (h | h)
      · exact .inl (by rw [h])
      · exact .inr h
theorem kvT_put {t : List (Str × V)} {f : Str} {z : V} (n : f ∉ t.map Prod.fst) : putK (kvT t) (Sum.inr f) z = kvT (t ++ [(f, z)]) := by
  unfold putK
  rw [kvT_any, decide_eq_false n, if_neg (by decide), kvT_app]
/-- the value of a key -/
def look (t : List (Str × V)) (f : Str) : Option V := (t.find? fun p => decide (p.1 = f)).map Prod.snd
theorem look_cons (p : Str × V) (t : List (Str × V)) (f : Str) : look (p :: t) f = if p.1 = f then some p.2 else look t f := by
  unfold look
  rw [List.find?_cons]
  by_cases e : p.1 = f
  · rw [if_pos e, decide_eq_true e] <;> rfl
  · rw [if_neg e, decide_eq_false e]
theorem kvT_val : ∀ (t : List (Str × V)) (f : Str), valV (kvT t) (Sum.inr f) = look t f
  | [], f => rfl
  | p :: t, f => by
    rw [look_cons]
    by_cases e : p.1 = f
    · rw [if_pos e]
      exact valV_pos (by show (Sum.inr p.1 : Key) = Sum.inr f; rw [e])
    · rw [if_neg e]
      exact (valV_neg (p := (Sum.inr p.1, p.2)) (fun z => e (Sum.inr.inj z))).trans (kvT_val t f)
theorem look_none {t : List (Str × V)} {f : Str} (n : f ∉ t.map Prod.fst) : look t f = none := by
  induction t with
  | nil => rfl
  | cons p t ih =>
    rw [List.map_cons, List.mem_cons] at n
    rw [look_cons, if_neg (fun e => n (.inl e.symm))]
    exact ih fun m => n (.inr m)
theorem look_some {t : List (Str × V)} {f : Str} (h : f ∈ t.map Prod.fst) : ∃ v, look t f = some v := by
  induction t with
  | nil => cases h
  | cons p t ih =>
    rw [look_cons]
    by_cases e : p.1 = f
    · exact ⟨_, if_pos e⟩
    · rw [if_neg e]
      exact ih ((List.mem_cons.mp h).resolve_left fun z => e z.symm)
theorem look_has {t : List (Str × V)} {f : Str} : (look t f).isSome = decide (f ∈ t.map Prod.fst) := by
  by_cases h : f ∈ t.map Prod.fst
  · obtain ⟨v, e⟩ := look_some h
    rw [e, decide_eq_true h] <;> rfl
  · rw [look_none h, decide_eq_false h] <;> rfl
theorem look_mem {t : List (Str × V)} {f : Str} {v : V} (h : look t f = some v) : (f, v) ∈ t := by
  induction t with
  | nil => cases h
  | cons p t ih =>
    rw [look_cons] at h
    by_cases e : p.1 = f
    · rw [if_pos e] at h
      cases h
      exact List.mem_cons.mpr (.inl (by rw [← e]))
    · rw [if_neg e] at h
      exact List.mem_cons_of_mem _ (ih h)
theorem look_of {t : List (Str × V)} {f : Str} {v : V} (nd : (t.map Prod.fst).Nodup) (h : (f, v) ∈ t) : look t f = some v := by
  induction t with
  | nil => cases h
  | cons p t ih =>
    obtain ⟨n1, n2⟩ := List.nodup_cons.mp nd
    rw [look_cons]
    rcases List.mem_cons.mp h with e | h
    · subst e
      exact if_pos rfl
    · rw [if_neg fun e => n1 (by rw [e]; exact List.mem_map.mpr ⟨_, h, rfl⟩)]
      exact ih n2 h
theorem look_app {t u : List (Str × V)} {f : Str} : look (t ++ u) f = (look t f).or (look u f) := by
  induction t with
  | nil => rfl
  | cons p t ih =>
    rw [List.cons_append, look_cons, look_cons, ih]
    by_cases e : p.1 = f
    · rw [if_pos e, if_pos e] <;> rfl
    · rw [if_neg e, if_neg e]
theorem look_perm {t u : List (Str × V)} (nd : (t.map Prod.fst).Nodup) (p : t.Perm u) (f : Str) : look t f = look u f := by
  cases e : look t f with
  | some v => exact (look_of ((p.map _).nodup_iff.mp nd) (p.mem_iff.mp (look_mem e))).symm
  | none =>
    cases e2 : look u f with
    | none => rfl
    | some v =>
      have := look_of nd (p.mem_iff.mpr (look_mem e2))
      rw [e] at this
      cases this
/-- a key's value, written anew -/
def putT (t : List (Str × V)) (f : Str) (z : V) : List (Str × V) := if f ∈ t.map Prod.fst then t.map fun p => if p.1 = f then (p.1, z) else p else t ++ [(f, z)]
theorem kvT_putT (t : List (Str × V)) (f : Str) (z : V) : putK (kvT t) (Sum.inr f) z = kvT (putT t f z) := by
  by_cases h : f ∈ t.map Prod.fst
  · unfold putK putT
    rw [kvT_any, decide_eq_true h, if_pos rfl, if_pos h]
    unfold kvT
    rw [List.map_map, List.map_map]
    refine List.map_congr_left fun p _ => ?_
    show (if (Sum.inr p.1 : Key) = Sum.inr f then ((Sum.inr p.1 : Key), z) else (Sum.inr p.1, p.2)) = (Sum.inr (if p.1 = f then (p.1, z) else p).1, (if p.1 = f then (p.1, z) else p).2)
    by_cases e : p.1 = f
    · rw [if_pos e, if_pos (by rw [e])]
    · rw [if_neg e, if_neg fun q => e (Sum.inr.inj q)]
  · rw [kvT_put h]
    unfold putT
    rw [if_neg h]
theorem putT_keys {t : List (Str × V)} {f : Str} {z : V} (h : f ∈ t.map Prod.fst) : (putT t f z).map Prod.fst = t.map Prod.fst := by
  unfold putT
  rw [if_pos h, List.map_map]
  refine List.map_congr_left fun p _ => ?_
  show (if p.1 = f then (p.1, z) else p).1 = p.1
  by_cases e : p.1 = f
  · rw [if_pos e]
  · rw [if_neg e]
theorem look_put (t : List (Str × V)) (f g : Str) (z : V) : look (putT t f z) g = if g = f then some z else look t g := by
  by_cases h : f ∈ t.map Prod.fst
  · unfold putT
    rw [if_pos h]
    have key : ∀ t : List (Str × V), look (t.map fun p => if p.1 = f then (p.1, z) else p) g = if g = f then (if f ∈ t.map Prod.fst then some z else none) else look t g := by
      intro t
      induction t with
      | nil =>
        show (none : Option V) = _
        by_cases e : g = f
        · rw [if_pos e]
          simp
        · rw [if_neg e] <;> rfl
      | cons p t ih =>
        rw [List.map_cons, look_cons, ih, look_cons]
        have e1 : (if p.1 = f then (p.1, z) else p).1 = p.1 := by
          by_cases e : p.1 = f
          · rw [if_pos e]
          · rw [if_neg e]
        rw [e1]
        by_cases e : g = f
        · subst e
          rw [if_pos rfl, if_pos rfl]
          by_cases q : p.1 = g
          · rw [if_pos q, if_pos q, if_pos (by rw [List.map_cons, ← q]; exact List.mem_cons_self ..)]
          · rw [if_neg q]
            by_cases m : g ∈ t.map Prod.fst
            · rw [if_pos m, if_pos (by rw [List.map_cons]; exact List.mem_cons_of_mem _ m)]
            · rw [if_neg m, if_neg (by rw [List.map_cons, List.mem_cons]; rintro (z | z); exact q z.symm; exact m z)]
        · rw [if_neg e, if_neg e]
          by_cases q : p.1 = g
          · rw [if_pos q, if_pos q, if_neg (by rw [q]; exact e)]
          · rw [if_neg q, if_neg q]
    rw [key]
    by_cases e : g = f
    · rw [if_pos e, if_pos e, if_pos h]
    · rw [if_neg e, if_neg e]
  · unfold putT
    rw [if_neg h, look_app]
    by_cases e : g = f
    · subst e
      rw [if_pos rfl, look_none h, look_cons, if_pos rfl] <;> rfl
    · rw [if_neg e, look_cons, if_neg (fun q => e q.symm)]
      cases look t g <;> rfl
end FT


/-! forests as pairs of a flag and its parent, in any order. -/
namespace FT
open PySem L2 TL
/-- a dict of texts by texts -/
def prs (t : List (Str × Str)) : List (Key × V) := kvT (t.map fun p => (p.1, V.str p.2))
theorem prs_len (t : List (Str × Str)) : (prs t).length = t.length := by unfold prs; rw [kvT_len, List.length_map]
theorem prs_fst (t : List (Str × Str)) : (t.map fun p => (p.1, V.str p.2)).map Prod.fst = t.map Prod.fst := by rw [List.map_map] <;> rfl
theorem prs_keys (t : List (Str × Str)) : (prs t).map (·.1) = (t.map Prod.fst).map Sum.inr := by unfold prs kvT; rw [List.map_map, List.map_map, List.map_map] <;> rfl
theorem keys_prs (t : List (Str × Str)) : ((prs t).map fun kv => kV kv.1) = (t.map Prod.fst).map V.str := by
  unfold prs kvT
  rw [List.map_map, List.map_map, List.map_map] <;> rfl
theorem put_new {t : List (Str × Str)} {f z : Str} (n : f ∉ t.map Prod.fst) : putK (prs t) (Sum.inr f) (V.str z) = prs (t ++ [(f, z)]) := by
  unfold prs
  rw [kvT_put (by rw [prs_fst]; exact n), List.map_append] <;> rfl
/-- the parent of a flag -/
def par (t : List (Str × Str)) (a : Str) : Option Str := (t.find? fun p => decide (p.1 = a)).map Prod.snd
theorem par_cons (p : Str × Str) (t : List (Str × Str)) (a : Str) : par (p :: t) a = if p.1 = a then some p.2 else par t a := by
  unfold par
  rw [List.find?_cons]
  by_cases e : p.1 = a
  · rw [if_pos e, decide_eq_true e] <;> rfl
  · rw [if_neg e, decide_eq_false e]
theorem val_prs (a : Str) : ∀ t : List (Str × Str), valV (prs t) (Sum.inr a) = (par t a).map V.str
  | [] => rfl
  | p :: t => by
    have ih := val_prs a t
    unfold prs at ih ⊢
    rw [List.map_cons, kvT_val, look_cons, par_cons]
    rw [kvT_val] at ih
    by_cases e : p.1 = a
    · rw [if_pos e, if_pos e] <;> rfl
    · rw [if_neg e, if_neg e, ih]
theorem par_mem {t : List (Str × Str)} {a z : Str} (h : par t a = some z) : (a, z) ∈ t := by
  induction t with
  | nil => cases h
  | cons p t ih =>
    rw [par_cons] at h
    by_cases e : p.1 = a
    · rw [if_pos e] at h
      cases h
      exact List.mem_cons.mpr (.inl (by rw [← e]))
    · rw [if_neg e] at h
      exact List.mem_cons_of_mem _ (ih h)
theorem par_of {t : List (Str × Str)} {a z : Str} (nd : (t.map Prod.fst).Nodup) (h : (a, z) ∈ t) : par t a = some z := by
  induction t with
  | nil => cases h
  | cons p t ih =>
    obtain ⟨n1, n2⟩ := List.nodup_cons.mp nd
    rw [par_cons]
    rcases List.mem_cons.mp h with e | h
    · subst e
      exact if_pos rfl
    · rw [if_neg fun e => n1 (by rw [e]; exact List.mem_map.mpr ⟨_, h, rfl⟩)]
      exact ih n2 h
theorem par_none {t : List (Str × Str)} {a : Str} (n : a ∉ t.map Prod.fst) : par t a = none := by
  cases e : par t a with
  | none => rfl
  | some z => exact absurd (List.mem_map.mpr ⟨_, par_mem e, rfl⟩) n
theorem par_some {t : List (Str × Str)} {a : Str} (nd : (t.map Prod.fst).Nodup) (h : a ∈ t.map Prod.fst) : ∃ z, par t a = some z := by
  obtain ⟨p, hp, rfl⟩ := List.mem_map.mp h
  exact ⟨p.2, par_of nd hp⟩
theorem par_perm {t u : List (Str × Str)} (nd : (t.map Prod.fst).Nodup) (p : t.Perm u) (a : Str) : par t a = par u a := by
  cases e : par t a with
  | some v => exact (par_of ((p.map _).nodup_iff.mp nd) (p.mem_iff.mp (par_mem e))).symm
  | none =>
    cases e2 : par u a with
    | none => rfl
    | some v =>
      have := par_of nd (p.mem_iff.mpr (par_mem e2))
      rw [e] at this
      cases this
/-- each parent has a lower rank -/
def Rk (t : List (Str × Str)) (rk : Str → Nat) : Prop := ∀ p ∈ t, rk p.1 < t.length ∧ (p.2 = "" ∨ (p.2 ∈ t.map Prod.fst ∧ rk p.2 < rk p.1))
/-- a forest of one to twelve flags -/
structure TreeOk (t : List (Str × Str)) : Prop where
  one : 1 ≤ t.length
  few : t.length ≤ 12
  nd : (t.map Prod.fst).Nodup
  nm : ∀ z ∈ t.map Prod.fst, NameL z
  up : ∃ rk : Str → Nat, Rk t rk
theorem TreeOk.perm {t u : List (Str × Str)} (p : t.Perm u) (o : TreeOk t) : TreeOk u := by
  obtain ⟨rk, hr⟩ := o.up
  have l := p.length_eq
  refine ⟨by have := o.one; omega, by have := o.few; omega, (p.map _).nodup_iff.mp o.nd, fun z h => o.nm z ((p.map _).mem_iff.mpr h), rk, fun q hq => ?_⟩
  obtain ⟨h1, h2⟩ := hr q (p.mem_iff.mpr hq)
  exact ⟨by omega, h2.imp id fun h => ⟨(p.map _).mem_iff.mp h.1, h.2⟩⟩
theorem TreeOk.root {t : List (Str × Str)} (o : TreeOk t) : ("" : Str) ∉ t.map Prod.fst := fun h => (o.nm _ h).ne rfl
/-- the step up -/
theorem TreeOk.step {t : List (Str × Str)} (o : TreeOk t) {rk : Str → Nat} (r : Rk t rk) {a : Str} (h : a ∈ t.map Prod.fst) : ∃ p : Str, par t a = some p ∧ (p = "" ∨ (p ∈ t.map Prod.fst ∧ rk p < rk a)) ∧ rk a < t.length := by
  obtain ⟨z, hz⟩ := par_some o.nd h
  obtain ⟨h1, h2⟩ := r _ (par_mem hz)
  exact ⟨z, hz, h2, h1⟩
/-! ### paths -/
/-- the flags from the top down to a place; n bounds the steps -/
def upN (t : List (Str × Str)) : Nat → Str → List Str
  | 0, _ => []
  | n + 1, a => if a = "" then [] else upN t n ((par t a).getD "") ++ [a]
def pathOf (t : List (Str × Str)) (a : Str) : List Str := upN t t.length a
/-- a place: the root or a flag -/
def Pl (t : List (Str × Str)) (a : Str) : Prop := a = "" ∨ a ∈ t.map Prod.fst
theorem upN_root (t : List (Str × Str)) (n : Nat) : upN t n "" = [] := by
  cases n with
  | zero => rfl
  | succ n => exact if_pos rfl
theorem upN_eq {t : List (Str × Str)} (o : TreeOk t) {rk : Str → Nat} (r : Rk t rk) : ∀ (n m : Nat) (a : Str), Pl t a → (a ≠ "" → rk a < n) → (a ≠ "" → rk a < m) → upN t n a = upN t m a := by
  intro n
  induction n with
  | zero =>
    intro m a hp h1 h2
    by_cases e : a = ""
    · subst e
      rw [upN_root, upN_root]
    · exact absurd (h1 e) (Nat.not_lt_zero _)
  | succ n ih =>
    intro m a hp h1 h2
    by_cases e : a = ""
    · subst e
      rw [upN_root, upN_root]
    · cases m with
      | zero => exact absurd (h2 e) (Nat.not_lt_zero _)
      | succ m =>
        obtain ⟨p, ep, hp2, _⟩ := o.step r (hp.resolve_left e)
        have q1 := h1 e
        have q2 := h2 e
        show (if a = "" then [] else upN t n ((par t a).getD "") ++ [a]) = if a = "" then [] else upN t m ((par t a).getD "") ++ [a]
        rw [if_neg e, if_neg e, ep]
        show upN t n p ++ [a] = upN t m p ++ [a]
        rw [ih m p (hp2.imp id And.left) (fun z => by have := (hp2.resolve_left z).2; omega) (fun z => by have := (hp2.resolve_left z).2; omega)]
theorem path_root (t : List (Str × Str)) : pathOf t "" = [] := upN_root _ _
theorem path_step {t : List (Str × Str)} (o : TreeOk t) {a p : Str} (h : a ∈ t.map Prod.fst) (e : par t a = some p) : pathOf t a = pathOf t p ++ [a] := by
  obtain ⟨rk, r⟩ := o.up
  have ne : a ≠ "" := fun z => o.root (by rw [← z]; exact h)
  obtain ⟨p', e', hp, la⟩ := o.step r h
  cases e.symm.trans e'
  have lt := o.one
  obtain ⟨n, hn⟩ : ∃ n, t.length = n + 1 := ⟨t.length - 1, by omega⟩
  unfold pathOf
  rw [hn]
  show (if a = "" then [] else upN t n ((par t a).getD "") ++ [a]) = _
  rw [if_neg ne, e]
  show upN t n p ++ [a] = _
  rw [upN_eq o r n (n + 1) p (hp.imp id And.left) (fun z => by have := (hp.resolve_left z).2; omega) (fun z => by have := (hp.resolve_left z).2; omega)]
theorem path_perm {t u : List (Str × Str)} (nd : (t.map Prod.fst).Nodup) (p : t.Perm u) (a : Str) : pathOf t a = pathOf u a := by
  unfold pathOf
  rw [p.length_eq]
  generalize u.length = n
  induction n generalizing a with
  | zero => rfl
  | succ n ih =>
    show (if a = "" then [] else upN t n ((par t a).getD "") ++ [a]) = if a = "" then [] else upN u n ((par u a).getD "") ++ [a]
    rw [ih, par_perm nd p]
theorem upN_len (t : List (Str × Str)) : ∀ (n : Nat) (a : Str), (upN t n a).length ≤ n
  | 0, _ => Nat.le_refl _
  | n + 1, a => by
    show (if a = "" then [] else upN t n ((par t a).getD "") ++ [a]).length ≤ n + 1
    by_cases e : a = ""
    · rw [if_pos e]
      exact Nat.zero_le _
    · rw [if_neg e, List.length_append]
      have := upN_len t n ((par t a).getD "")
      show _ + 1 ≤ n + 1
      omega
theorem path_len (t : List (Str × Str)) (a : Str) : (pathOf t a).length ≤ t.length := upN_len _ _ _
theorem upN_all {t : List (Str × Str)} (o : TreeOk t) : ∀ (n : Nat) (a : Str), Pl t a → ∀ z ∈ upN t n a, z ∈ t.map Prod.fst
  | 0, _, _, z, h => by cases h
  | n + 1, a, hp, z, h => by
    have h' : z ∈ (if a = "" then [] else upN t n ((par t a).getD "") ++ [a]) := h
    by_cases e : a = ""
    · rw [if_pos e] at h'
      cases h'
    · rw [if_neg e] at h'
      have ha := hp.resolve_left e
      obtain ⟨rk, r⟩ := o.up
      obtain ⟨p, ep, hp2, _⟩ := o.step r ha
      rw [ep] at h'
      rcases List.mem_append.mp h' with h' | h'
      · exact upN_all o n p (hp2.imp id And.left) z h'
      · rw [List.mem_singleton.mp h']
        exact ha
theorem path_all {t : List (Str × Str)} (o : TreeOk t) {a : Str} (h : Pl t a) : ∀ z ∈ pathOf t a, z ∈ t.map Prod.fst := upN_all o _ _ h
/-! ### sums over children -/
/-- the sum of sizes of the children of a place -/
def kids (t : List (Str × Str)) (p : Str) : List Str := (t.filter fun q => decide (q.2 = p)).map Prod.fst
def resid (t : List (Str × Str)) (n : Int) (sz : Str → Int) (p : Str) : Int := (if p = "" then n else sz p) - ((kids t p).map sz).sum
theorem kids_snoc (t : List (Str × Str)) (q : Str × Str) (p : Str) : kids (t ++ [q]) p = kids t p ++ (if q.2 = p then [q.1] else []) := by
  unfold kids
  rw [List.filter_append, List.map_append]
  by_cases e : q.2 = p
  · rw [if_pos e, List.filter_cons, decide_eq_true e, List.filter_nil] <;> rfl
  · rw [if_neg e, List.filter_cons, decide_eq_false e, List.filter_nil] <;> rfl
theorem kids_perm {t u : List (Str × Str)} (h : t.Perm u) (p : Str) : (kids t p).Perm (kids u p) := (h.filter _).map _
theorem sum_perm {l m : List Int} (h : l.Perm m) : l.sum = m.sum := by
  induction h with
  | nil => rfl
  | cons x _ ih => rw [List.sum_cons, List.sum_cons, ih]
  | swap x y l => rw [List.sum_cons, List.sum_cons, List.sum_cons, List.sum_cons]; omega
  | trans _ _ a b => rw [a, b]
theorem resid_perm {t u : List (Str × Str)} (h : t.Perm u) (n : Int) (sz : Str → Int) (p : Str) : resid t n sz p = resid u n sz p := by
  unfold resid
  rw [sum_perm ((kids_perm h p).map sz)]
theorem resid_snoc (t : List (Str × Str)) (q : Str × Str) (n : Int) (sz : Str → Int) (p : Str) : resid (t ++ [q]) n sz p = if q.2 = p then resid t n sz p - sz q.1 else resid t n sz p := by
  unfold resid
  rw [kids_snoc]
  by_cases e : q.2 = p
  · rw [if_pos e, if_pos e, List.map_append, List.sum_append]
    show _ - (_ + (sz q.1 + 0)) = _
    omega
  · rw [if_neg e, if_neg e, List.append_nil]
end FT


namespace FT
open PySem L2 TL ClX
def letters : Str := "abcdefghijklmnopqrstuvwxyz"
theorem in_letters {c : Nat} (h0 : 97 ≤ c) (h1 : c ≤ 122) : c ∈ letters.cps.toList := by
  have all : ∀ i : Fin 26, (97 + i.1) ∈ letters.cps.toList := by decide +kernel
  have q := all ⟨c - 97, by omega⟩
  rw [show 97 + (⟨c - 97, by omega⟩ : Fin 26).1 = c by show 97 + (c - 97) = c; omega] at q
  exact q
/-- the module's own constants -/
structure Cs (mg : Str → Option Value) : Prop where
  long : ∃ t, mg "LONGEST" = some (.int 8 t)
  lett : ∃ t, mg "LETTERS" = some (.str letters t)
/-- the class Forest: its two constants -/
structure Fc (K : PySem.W.Frag) (mg : Str → Option Value) (CF : Addr) (mc : Value) : Prop where
  gF : mg "Forest" = some (.ref CF)
  rd : CRead K CF mc
  most : ∃ u, CVal K CF mc "MOST" (.int 12) u
  root : ∃ u, CVal K CF mc "ROOT" (.str "") u
/-- one of the text's defs, called by place -/
structure Dn (P : Program) (w : World) (K : PySem.W.Frag) (mg : Str → Option Value) (base : Heap) (CX : CXT) (k : Nat) (x : Str) (ps : List Str) (sp : Sp) (f : Addr) (fd : FuncData) : Prop where
  ok : FnOk P w K mg base CX k f fd ps sp
  kp : PySem.W.keepIn K (.ref f) = true
  bn : Binds K fd ps []
  mgn : mg x = some (.ref f)
def spIsName : Sp := fun vs H Q _ => ∃ z : Str, vs = [.str z] ∧ NameL z ∧ ∀ H', Same H H' → Q (.bl true) H'
def spIsAnc : Sp := fun vs H Q _ => ∃ (q : Addr) (f : Str) (t : List (Str × Str)), vs = [.ref q, .str f] ∧ H q = some (.dK (prs t)) ∧ TreeOk t ∧ f ∈ t.map Prod.fst ∧ ∀ H', Same H H' → Q (.bl false) H'
def spNeed : Sp := fun vs H Q _ => ∃ (q : Addr) (t : List (Str × Str)), vs = [.ref q] ∧ H q = some (.dK (prs t)) ∧ TreeOk t ∧ ∀ H', Same H H' → Q .non H'
section
variable {P : Program} {w : World} {K : PySem.W.Frag} {mg : Str → Option Value} {base : Heap}
theorem scIsName : FnScope ["value", "letter"] ["value"] (defScope s_is_name) := ⟨rfl, rfl, rfl, by decide +kernel, rfl, by decide +kernel, by decide +kernel⟩
theorem ok_isName {f : Addr} {fd : FuncData} (F : Fun K "is_name" "is_name" s_is_name f fd) (T : Nm mg) (C : Cs mg) : FnOk P w K mg base CX0 1 f fd ["value"] spIsName := by
  obtain ⟨t1, g1⟩ := C.long
  obtain ⟨t2, g2⟩ := C.lett
  refine F.ok scIsName (fun vs H Q E h => ?_) (fun cdv A outer s H vs Q E hr h => ?_)
  · obtain ⟨z, rfl, _⟩ := h
    rfl
  · obtain ⟨z, rfl, nm, k⟩ := h
    refine ⟨_, pss_cons (ps_if (PW.pt (pw_or (pt_not (pt_val (pe_callB call_isi (by rfl) T.isi (by decide +kernel) (pa_cons (pv 0) (pa_cons (pe_bltn (v := .ty "str") (u := .type "str") (by rfl) T.str (by decide +kernel) rfl) pa_nil)))))
        (pw_or (pt_not (pt_chain op_le op_le pe_int (pe_callB call_len_str (by rfl) T.len PySem.boot_len (pa_cons (pv 0) pa_nil)) (pe_glob (v := .int 8) (by rfl) g1 ⟨_, rfl⟩))) (pw_or1 (pt_cmpR op_eq (pv 0) pe_str (nomark _))))))
        (pss_one (ps_ret pe_bl)) pss_nil)
      (pss_one (ps_ret (pe_callB (cr_all rfl) (by rfl) T.all (by decide +kernel) (pa_cons (pe_lc (own := [("letter", 1)]) (g := gName 1) (tt := tYes) (te := tOp (fun x y H Q => ∃ (c : Nat) (z : Str), x = .str ⟨#[c]⟩ ∧ y = .str z ∧ Q (.bl (decide (c ∈ z.cps.toList))) H) (tVar 1) (tC (.str letters))) rfl scIsName.nd (pi_str (pv 0))
        (blkOk_by (N := ["value", "letter"]) (sc := defScope s_is_name) (by decide +kernel))
        (fun _ _ _ _ _ => pg_name (i := 1) scIsName.nd rfl (Or.inl rfl)) (fun _ _ _ _ _ => pts_nil) (fun _ _ _ _ _ => pe_cmpR op_in_sign (pv 1) (pe_glob (v := .str letters) (by rfl) g2 ⟨_, rfl⟩) rfl)) pa_nil)))), ?_⟩
    have l := nm.len
    have big : 1000 ≤ sizeLine := by decide
    refine ⟨_, rfl, .str z, _, _, _, true, rfl, .ty _, .base (.str z), kit_ty (by decide +kernel), true, rfl, ?_⟩
    refine iteF ?_
    refine ⟨_, rfl, z, rfl, by omega, _, _, rfl, rfl, _, rfl, ?_⟩
    rw [if_pos (decide_eq_true (by omega))]
    refine ⟨_, _, rfl, rfl, _, rfl, ?_⟩
    rw [decide_eq_true (show (z.length : Int) ≤ 8 by omega)]
    refine iteF ?_
    refine ⟨_, rfl, rfl, _, rfl, ?_⟩
    rw [decide_eq_false (show ¬ V.str z = V.str "self" from fun e => nm.self (V.str.inj e))]
    refine iteF ?_
    refine ⟨_, rfl, z, rfl, fun D nD => lc_it walk_str (fun i H' => Same H H' ∧ H' D = some (.lst ((List.replicate i true).map V.bl))) ⟨same_new nD, upd_same⟩ (fun _ _ _ _ => trivial) ?_ ?_⟩
    · intro i x Ha Hb hi ⟨q1, q2⟩ ⟨e, ch, hc, ex⟩
      subst e
      subst ex
      have hm : ch ∈ letters.cps.toList := by
        have hz : ch ∈ tl z := by
          rw [← Array.getElem?_toList] at hc
          exact List.mem_of_getElem? hc
        exact in_letters (nm.1 ch hz).1 (nm.1 ch hz).2
      refine ⟨rfl, ?_⟩
      refine ⟨_, rfl, ch, letters, rfl, rfl, _, q2, ?_, ?_, ?_⟩
      · rw [List.length_map, List.length_replicate]
        have : z.cps.size = z.length := rfl
        omega
      · exact Same.put q1 nD
      · rw [upd_same, decide_eq_true hm, List.replicate_succ', List.map_append] <;> rfl
    · intro H' ⟨q1, q2⟩
      refine ⟨D, _, rfl, SqL.of q2, ?_⟩
      have e : (List.replicate z.cps.size true).all id = true := by simp
      rw [e]
      exact k H' q1
def rankS (t : List (Str × Str)) (rk : Str → Nat) (σ : St) : Nat := match σ[3]? with
  | some (some (V.str a)) => if a ∈ t.map Prod.fst then rk a + 1 else 0
  | _ => 0
theorem scIsAnc : FnScope ["parents", "name", "seen", "above"] ["parents", "name"] (defScope s_is_ancestor) := ⟨rfl, rfl, rfl, by decide +kernel, rfl, by decide +kernel, by decide +kernel⟩
theorem ok_isAnc {f : Addr} {fd : FuncData} (F : Fun K "is_ancestor" "is_ancestor" s_is_ancestor f fd) : FnOk P w K mg base CX0 1 f fd ["parents", "name"] spIsAnc := by
  refine F.ok scIsAnc (fun vs H Q E h => ?_) (fun cdv A outer s H vs Q E hr h => ?_)
  · obtain ⟨q, g, t, rfl, _⟩ := h
    rfl
  · obtain ⟨q, g, t, rfl, hq, o, hg, k⟩ := h
    have hu := hu_of hr
    obtain ⟨rk, r⟩ := o.up
    refine ⟨_, pss_cons (ps_set (i := 2) scIsAnc.nd rfl (.inl rfl) (pe_lst pa_nil))
      (pss_cons (ps_set (i := 3) scIsAnc.nd rfl (.inl rfl) (pe_dget hu (pv 0) (pv 1) (fun _ _ => rfl)))
      (pss_cons (ps_while PassesOwn.never (PW.pt (pw_and (pt_cmp (pc_din hu (pv 3) (pv 0))) (pw_and1 (pt_cmpR op_notIn_seq (pv 3) (pv 2) rfl))))
        (pss_cons (ps_if (pt_cmpR op_eq (pv 3) (pv 1) (nomark _)) (pss_one (ps_ret pe_bl)) pss_nil)
        (pss_cons (ps_expr (pe_bm PySem.F.plainAttrs_list PySem.F.slot_list_append PySem.F.type_list_append mt_append (pv 2) (pa_cons (pv 3) pa_nil)))
        (pss_one (ps_set (i := 3) scIsAnc.nd rfl (.inl rfl) (pe_dget hu (pv 0) (pv 3) (fun _ _ => rfl)))))))
      (pss_one (ps_ret pe_bl)))), ?_⟩
    obtain ⟨p0, v0, w0, i0⟩ := o.step r hg
    have few := o.few
    have big : 1000 ≤ sizeLine := by decide
    refine ⟨by show 0 ≤ sizeLine; omega, fun l nl => ?_⟩
    have hq1 : (upd H l (.lst [])) q = some (.dK (prs t)) := by rw [upd_ne (ne_of_none hq nl)]; exact hq
    have ql : q ≠ l := ne_of_none hq nl
    refine ⟨_, rfl, _, rfl, q, V.str p0, rfl, by have z := DGet.k (k := Sum.inr g) hq1; rw [val_prs, v0] at z; exact z, ?_⟩
    refine while_by (fun σ H' => ∃ (a : Str) (ws : List Str), σ = [some (.ref q), some (.str g), some (.ref l), some (.str a)] ∧ H' l = some (.lst (ws.map V.str)) ∧ (∀ b u, H b = some u → H' b = some u) ∧ (a = "" ∨ (a ∈ t.map Prod.fst ∧ rk a < rk g ∧ ws.length + rk a < t.length)))
      (fun σ _ => rankS t rk σ) ⟨p0, [], rfl, upd_same, same_new nl, w0.imp id fun z => ⟨z.1, z.2, by simp only [List.length_nil]; omega⟩⟩ ?_ ?_
    · rintro σ Hx ⟨a, ws, rfl, hl, sm, ha⟩
      have hqx := sm _ _ hq
      have dg := DGet.k (k := Sum.inr a) hqx
      rw [val_prs] at dg
      refine ⟨_, rfl, _, rfl, q, _, rfl, dg, _, rfl, ?_⟩
      rcases ha with rfl | ⟨ha, ia, la⟩
      · rw [par_none o.root]
        refine iteF ?_
        exact iteF (k Hx sm)
      · obtain ⟨p, hv, hp, il⟩ := o.step r ha
        rw [hv]
        show if true = true then _ else _
        rw [if_pos rfl]
        refine ⟨_, rfl, _, rfl, l, _, rfl, .inl (SqL.of hl), rfl, flat_strs ws, _, rfl, ?_⟩
        rw [inV_strs]
        by_cases hw : a ∈ ws
        · rw [decide_eq_true hw]
          exact iteF (k Hx sm)
        · rw [decide_eq_false hw]
          show if true = true then _ else _
          rw [if_pos rfl]
          refine ⟨_, rfl, _, rfl, rfl, _, rfl, ?_⟩
          rw [decide_eq_false (show ¬ V.str a = V.str g from fun e => by
            have := V.str.inj e
            subst this
            omega)]
          refine iteF ?_
          refine ⟨_, rfl, .inl ⟨rfl, _, SqL.of hl⟩, _, rfl, l, _, _, rfl, rfl, hl, by rw [List.length_map]; omega, ?_⟩
          have hq2 : (upd Hx l (.lst (ws.map V.str ++ [.str a]))) q = some (.dK (prs t)) := by rw [upd_ne ql]; exact hqx
          refine ⟨_, rfl, _, rfl, q, V.str p, rfl, by have z := DGet.k (k := Sum.inr a) hq2; rw [val_prs, hv] at z; exact z, ?_⟩
          refine ⟨⟨p, ws ++ [a], rfl, by rw [upd_same, List.map_append] <;> rfl, fun b u e => ?_, ?_⟩, ?_⟩
          · rw [upd_ne (ne_of_none e nl)]
            exact sm b u e
          · rcases hp with rfl | ⟨hp, ip⟩
            · exact .inl rfl
            · refine .inr ⟨hp, by omega, ?_⟩
              rw [List.length_append]
              show ws.length + 1 + rk p < t.length
              omega
          · show rankS t rk [some (.ref q), some (.str g), some (.ref l), some (.str p)] < rankS t rk [some (.ref q), some (.str g), some (.ref l), some (.str a)]
            have e1 : rankS t rk [some (.ref q), some (.str g), some (.ref l), some (.str a)] = rk a + 1 := if_pos ha
            rw [e1]
            rcases hp with rfl | ⟨hp, ip⟩
            · have e2 : rankS t rk [some (.ref q), some (.str g), some (.ref l), some (.str "")] = 0 := if_neg o.root
              rw [e2]
              omega
            · have e2 : rankS t rk [some (.ref q), some (.str g), some (.ref l), some (.str p)] = rk p + 1 := if_pos hp
              rw [e2]
              omega
    · intro σ Hx Qa Qb h
      rintro ⟨v, e1, w, e2, a, r, e3, g, d, e4, z⟩
      refine ⟨v, e1, w, e2, a, r, e3, g, d, e4, ?_⟩
      cases d with
      | false =>
        rw [if_neg (by decide)] at z ⊢
        exact h _ _ z
      | true =>
        rw [if_pos rfl] at z ⊢
        obtain ⟨v, e1, w, e2, p, xs, e3, e4, e5, e6, b, e7, z⟩ := z
        exact ⟨v, e1, w, e2, p, xs, e3, e4, e5, e6, b, e7, h _ _ z⟩
theorem scNeed : FnScope ["parents", "name", "above", "other"] ["parents"] (defScope s_need_parents) := ⟨rfl, rfl, rfl, by decide +kernel, rfl, by decide +kernel, by decide +kernel⟩
theorem ok_need {f fI fA CF : Addr} {mc : Value} {fd fdI fdA : FuncData} (F : Fun K "need_parents" "need_parents" s_need_parents f fd) (T : Nm mg) (C : Cs mg) (Z : Fc K mg CF mc)
    (FI : Dn P w K mg base CX0 1 "is_name" ["value"] spIsName fI fdI) (FA : Dn P w K mg base CX0 1 "is_ancestor" ["parents", "name"] spIsAnc fA fdA) : FnOk P w K mg base CX0 2 f fd ["parents"] spNeed := by
  obtain ⟨um, cm⟩ := Z.most
  obtain ⟨ur, cr⟩ := Z.root
  refine F.ok scNeed (fun vs H Q E h => ?_) (fun cdv A outer s H vs Q E hr h => ?_)
  · obtain ⟨q, t, rfl, _⟩ := h
    rfl
  · obtain ⟨q, t, rfl, hq, o, k⟩ := h
    have hu := hu_of hr
    obtain ⟨rk, r⟩ := o.up
    refine ⟨_, pss_cons (ps_if (PW.pt (pw_or (pt_not (pt_val (pe_callB call_isi (by rfl) T.isi (by decide +kernel) (pa_cons (pv 0) (pa_cons (pe_bltn (v := .ty "dict") (u := .type "dict") (by rfl) T.dct (by decide +kernel) rfl) pa_nil)))))
        (pw_or1 (pt_not (pt_chain op_le op_le pe_int (pe_callB call_lenD (by rfl) T.len PySem.boot_len (pa_cons (pv 0) pa_nil)) (pe_cval (pe_glob (v := .ref CF) (by rfl) Z.gF rfl))))))) pss_never pss_nil)
      (pss_cons (ps_if (pt_not (pt_val (pe_callB (cr_all rfl) (by rfl) T.all (by decide +kernel) (pa_cons (pe_lock (pe_lc (own := [("name", 1)]) (g := gName 1) (tt := tYes) rfl scNeed.nd (pi_keys (pv 0))
        (blkOk_by (N := ["parents", "name", "above", "other"]) (sc := defScope s_need_parents) (by decide +kernel))
        (fun _ _ _ _ _ => pg_name (i := 1) scNeed.nd rfl (Or.inl rfl)) (fun _ _ _ _ _ => pts_nil) (fun _ _ _ _ _ => pe_call FI.ok hr rfl FI.mgn FI.kp FI.bn .nil pass0 (pa_cons (pv 1) pa_nil)))) pa_nil)))) pss_never pss_nil)
      (pss_one (ps_for PassesOwn.never rfl (pi_list (pe_callB (call_sortedD rfl) (by rfl) T.srt (by decide +kernel) (pa_cons (pv 0) pa_nil))) (pg_name (i := 1) scNeed.nd rfl (.inl rfl))
        (pss_cons (ps_set (i := 2) scNeed.nd rfl (.inl rfl) (pe_dget hu (pv 0) (pv 1) (fun _ _ => rfl)))
        (pss_cons (ps_if (PW.pt (pw_or (pt_not (pt_val (pe_callB call_isi (by rfl) T.isi (by decide +kernel) (pa_cons (pv 2) (pa_cons (pe_bltn (v := .ty "str") (u := .type "str") (by rfl) T.str (by decide +kernel) rfl) pa_nil)))))
          (pw_or1 (PW.pt (pw_and (pt_cmpR op_ne (pv 2) (pe_cval (pe_glob (v := .ref CF) (by rfl) Z.gF rfl)) (nomark _)) (pw_and1 (pt_cmp (pc_dnotin hu (pv 2) (pv 0))))))))) pss_never pss_nil)
        (pss_one (ps_if (pt_val (pe_call FA.ok hr rfl FA.mgn FA.kp FA.bn .nil pass0 (pa_cons (pe_lock (pe_dc (own := [("other", 3)]) (g := gName 3) (tt := tB (tCB (rIsi K) (tCons (tDGet (tVar 0) (tVar 3)) (tCons (tC (.ty "str")) tNil)))) rfl scNeed.nd (pi_keys (pv 0))
          (blkOk_by (N := ["parents", "name", "above", "other"]) (sc := defScope s_need_parents) (by decide +kernel))
          (fun _ _ _ _ _ => pg_name (i := 3) scNeed.nd rfl (Or.inl rfl)) (fun _ _ _ _ _ => pts_one (pt_val (pe_callB call_isi (by rfl) T.isi (by decide +kernel) (pa_cons (pe_dget hu (pv 0) (pv 3) (fun _ _ => rfl)) (pa_cons (pe_bltn (v := .ty "str") (u := .type "str") (by rfl) T.str (by decide +kernel) rfl) pa_nil)))))
          (fun _ _ _ _ _ => pv 3) (fun _ _ _ _ _ => pe_dget hu (pv 0) (pv 3) (fun _ _ => rfl)))) (pa_cons (pv 1) pa_nil)))) pss_never pss_nil))))))), ?_⟩
    have few := o.few
    have one := o.one
    have big : 1000 ≤ sizeLine := by decide
    have lp := prs_len t
    -- a dict, of one to twelve
    refine ⟨_, rfl, .ref q, _, _, _, true, rfl, .ty _, .base (.dK hq), kit_ty (by decide +kernel), true, rfl, ?_⟩
    refine iteF ?_
    refine ⟨_, rfl, q, _, rfl, hq, _, _, rfl, rfl, _, rfl, ?_⟩
    rw [if_pos (decide_eq_true (by omega))]
    refine ⟨CF, mc, _, um, rfl, Z.rd, cm, _, _, rfl, rfl, _, rfl, ?_⟩
    rw [decide_eq_true (show ((prs t).length : Int) ≤ 12 by omega)]
    refine iteF ?_
    -- all are names
    refine ⟨q, .dK (prs t), hq, trivial, fun od => ⟨_, rfl, q, od, rfl, .inl ⟨prs t, upd_same, fun D nD => ?_⟩⟩⟩
    have Dq : D ≠ q := (ne_of_none upd_same nD).symm
    have key : ∀ {i : Nat} {k : Key} {v : V}, (prs t)[i]? = some (k, v) → ∃ a p : Str, k = Sum.inr a ∧ v = .str p ∧ t[i]? = some (a, p) := fun {i k v} h => by
      unfold prs kvT at h
      rw [List.map_map, List.getElem?_map] at h
      obtain ⟨⟨a, p⟩, hp, e⟩ := Option.map_eq_some_iff.mp h
      cases e
      exact ⟨a, p, rfl, rfl, hp⟩
    refine lc_it walk_keys (fun i H' => Same (upd H q (.frz od (.dK (prs t)))) H' ∧ H' D = some (.lst ((List.replicate i true).map V.bl))) ⟨same_new nD, upd_same⟩ (fun i H' _ z => z.1 q _ upd_same) ?_ ?_
    · intro i x Ha Hb hi ⟨q1, q2⟩ ⟨e, k', v, hk, ex⟩
      subst e
      subst ex
      obtain ⟨a, p, rfl, rfl, hp⟩ := key hk
      refine ⟨rfl, ?_⟩
      refine ⟨_, rfl, a, rfl, o.nm a (List.mem_map.mpr ⟨(a, p), List.mem_of_getElem? hp, rfl⟩), fun H' s' => ⟨_, s' D _ q2, ?_, ?_, ?_⟩⟩
      · rw [List.length_map, List.length_replicate]
        omega
      · intro b u e
        rw [upd_ne (ne_of_none e nD)]
        exact s' _ _ (q1 b u e)
      · rw [upd_same, List.replicate_succ', List.map_append] <;> rfl
    intro H1 ⟨q1, q2⟩
    refine ⟨q1 q _ upd_same, D, _, rfl, SqL.of (by rw [upd_ne Dq]; exact q2), true, by rw [show (List.replicate (prs t).length true).all id = true by simp], ?_⟩
    refine iteF ?_
    have s1 : Same H (upd H1 q (.dK (prs t))) := unlock_same hq q1
    -- one by one, in their order
    refine ⟨_, rfl, q, prs t, t.map Prod.fst, rfl, .inl upd_same, prs_keys t, by rw [List.length_map]; omega, fun ys p perm srt np => ⟨p, rfl, ⟨_, SqL.of upd_same⟩, ?_⟩⟩
    obtain ⟨H2, e2⟩ : ∃ X, X = upd (upd H1 q (.dK (prs t))) p (.lst (ys.map V.str)) := ⟨_, rfl⟩
    have s2 : Same H H2 := s1.trans (e2 ▸ same_new np)
    have at2 : H2 p = some (.lst (ys.map V.str)) := by rw [e2]; exact upd_same
    rw [← e2]
    refine for_it walk_list (fun j σ' H' => (∃ u1 u2 u3, σ' = [some (.ref q), u1, u2, u3]) ∧ Same H2 H') ⟨⟨_, _, _, rfl⟩, fun _ _ e => e⟩ (fun j σ' H' _ z => SqL.of (z.2 _ _ at2)) ?_ ?_
    · intro j x σ' Ha Hb hj ⟨⟨u1, u2, u3, e⟩, sa⟩ ⟨eb, ex⟩
      subst e
      subst eb
      rw [List.getElem?_map] at ex
      obtain ⟨a, ha, rfl⟩ := Option.map_eq_some_iff.mp ex
      have ma : a ∈ t.map Prod.fst := perm.mem_iff.mp (List.mem_of_getElem? ha)
      obtain ⟨pa, hv, hpa, ia⟩ := o.step r ma
      have s0a : Same H Hb := s2.trans sa
      have hqa := s0a _ _ hq
      refine ⟨_, rfl, _, rfl, q, V.str pa, rfl, by have z := DGet.k (k := Sum.inr a) hqa; rw [val_prs, hv] at z; exact z, ?_⟩
      refine ⟨_, rfl, .str pa, _, _, _, true, rfl, .ty _, .base (.str pa), kit_ty (by decide +kernel), true, rfl, ?_⟩
      refine iteF ?_
      have anc : tIfS (tB (tCall spIsAnc [] E0 (tCons (tLockE (tDc (iKeys (tVar 0)) (gName 3) (tB (tCB (rIsi K) (tCons (tDGet (tVar 0) (tVar 3)) (tCons (tC (.ty "str")) tNil)))) (tVar 3) (tDGet (tVar 0) (tVar 3)) [3])) (tCons (tVar 1) tNil)))) tNever tNext
          ⟨fun σ' H' => (∃ u1 u2 u3, σ' = [some (.ref q), u1, u2, u3]) ∧ Same H2 H', fun v H' => Q v H', fun σ' H' => Q .non H', fun σ' H' => (∃ u1 u2 u3, σ' = [some (.ref q), u1, u2, u3]) ∧ Same H2 H'⟩ [some (.ref q), some (.str a), some (.str pa), u3] Hb := by
        refine ⟨q, .dK (prs t), hqa, trivial, fun od => ⟨_, rfl, q, od, rfl, .inl ⟨prs t, upd_same, fun D nD => ?_⟩⟩⟩
        have Dq : D ≠ q := (ne_of_none upd_same nD).symm
        refine dc_it walk_keys (fun i H' => Same (upd Hb q (.frz od (.dK (prs t)))) H' ∧ H' D = some (.dK (prs (t.take i)))) ⟨same_new nD, upd_same⟩ (fun i H' _ z => z.1 q _ upd_same) ?_ ?_
        · intro i x Hc Hd hi ⟨q1, q2⟩ ⟨e, k', v, hk, ex⟩
          subst e
          subst ex
          obtain ⟨b, r', rfl, rfl, hp⟩ := key hk
          have fz := q1 q _ upd_same
          have dg : DGet Hd q (.str b) (some (.str r')) := .inl ⟨prs t, Sum.inr b, .inr ⟨od, fz⟩, rfl, by rw [val_prs, par_of o.nd (List.mem_of_getElem? hp)] <;> rfl⟩
          have nb : b ∉ (t.take i).map Prod.fst := fun hm => by
            rw [List.map_take] at hm
            obtain ⟨j, hj⟩ := List.mem_iff_getElem?.mp hm
            have jl := (List.getElem?_eq_some_iff.mp hj).1
            rw [List.length_take] at jl
            rw [List.getElem?_take, if_pos (by omega)] at hj
            have e0 : (t.map Prod.fst)[i]? = some b := by rw [List.getElem?_map, hp] <;> rfl
            have := (List.getElem?_inj (by omega) o.nd).mp (hj.trans e0.symm)
            omega
          refine ⟨rfl, ?_⟩
          refine ⟨_, rfl, _, rfl, q, _, rfl, dg, .str r', _, _, _, true, rfl, .ty _, .base (.str r'), kit_ty (by decide +kernel), true, rfl, ?_⟩
          show if true = true then _ else _
          rw [if_pos rfl]
          refine ⟨_, rfl, _, rfl, _, rfl, q, _, rfl, dg, prs (t.take i), Sum.inr b, rfl, q2, ?_, ?_, ?_⟩
          · rw [prs_len, List.length_take]
            omega
          · intro c u e
            rw [upd_ne (ne_of_none e nD)]
            exact q1 c u e
          · rw [upd_same, put_new nb, take_more hp]
        · intro Hc ⟨q1, q2⟩
          rw [lp, List.take_length] at q2
          refine ⟨q1 q _ upd_same, _, rfl, D, a, t, rfl, by rw [upd_ne Dq]; exact q2, o, ma, fun H' s' => ⟨false, rfl, iteF ⟨⟨_, _, _, rfl⟩, (sa.trans (unlock_same hqa q1)).trans s'⟩⟩⟩
      rcases hpa with rfl | ⟨hp, _⟩
      · refine ⟨_, rfl, CF, mc, _, ur, rfl, Z.rd, cr, rfl, _, rfl, ?_⟩
        rw [decide_eq_true rfl]
        refine iteF ?_
        exact iteF anc
      · obtain ⟨pp, hv2, _⟩ := o.step r hp
        refine ⟨_, rfl, CF, mc, _, ur, rfl, Z.rd, cr, rfl, _, rfl, ?_⟩
        have ne : ¬ V.str pa = V.str "" := fun e => o.root (by rw [← V.str.inj e]; exact hp)
        rw [decide_eq_false ne]
        show if true = true then _ else _
        rw [if_pos rfl]
        refine ⟨_, rfl, _, rfl, q, V.str pp, rfl, by have z := DGet.k (k := Sum.inr pa) hqa; rw [val_prs, hv2] at z; exact z, _, rfl, ?_⟩
        exact iteF anc
    · intro σ' H' ⟨_, sa⟩
      exact k H' (s2.trans sa)
/-! ### Forest -/
/-- a forest at x, its pairs ts -/
def FAt (CF : Addr) (H : Hp) (x : Addr) (ts : List (Str × Str)) : Prop := ∃ dx dq, H x = some (.ins CF dx [("above", .ref dq)]) ∧ H dq = some (.dK (prs ts))
theorem FAt.mono {CF x : Addr} {H H' : Hp} {ts : List (Str × Str)} (s : Same H H') (h : FAt CF H x ts) : FAt CF H' x ts := let ⟨dx, dq, e1, e2⟩ := h; ⟨dx, dq, s _ _ e1, s _ _ e2⟩
/-- in ascending order -/
def Asc (ts : List (Str × Str)) : Prop := PyProof.Rows.sortedS (ts.map Prod.fst) = true
/-- facts of a class of the text -/
structure FoC (K : PySem.W.Frag) (CF : Addr) : Prop where
  cl : Cls K CF
  nA : NoAttr K CF "above"
def spFInit (CF : Addr) : Sp := fun vs H Q _ => ∃ (x q dx : Addr) (t : List (Str × Str)), vs = [.ref x, .ref q] ∧ H x = some (.ins CF dx []) ∧ H q = some (.dK (prs t)) ∧ TreeOk t ∧
  ∀ (H' : Hp) (ts : List (Str × Str)), ts.Perm t → Asc ts → FAt CF H' x ts → (∀ b o, b ≠ x → H b = some o → H' b = some o) → Q .non H'
def spFFlags (CF : Addr) : Sp := fun vs H Q _ => ∃ (x : Addr) (ts : List (Str × Str)), vs = [.ref x] ∧ FAt CF H x ts ∧ ∀ p, H p = none → Q (.ref p) (upd H p (.lst ((ts.map Prod.fst).map V.str)))
def spFParents (CF : Addr) : Sp := fun vs H Q _ => ∃ (x : Addr) (ts : List (Str × Str)), vs = [.ref x] ∧ FAt CF H x ts ∧ ∀ p, H p = none → Q (.ref p) (upd H p (.dK (prs ts)))
theorem scFInit : FnScope ["self", "parents", "name"] ["self", "parents"] (defScope s_Forest___init__) := ⟨rfl, rfl, rfl, by decide +kernel, rfl, by decide +kernel, by decide +kernel⟩
theorem perm_pairs : ∀ {ts t : List (Str × Str)}, (t.map Prod.fst).Nodup → (ts.map Prod.fst).Perm (t.map Prod.fst) → (∀ p ∈ ts, p ∈ t) → ts.Perm t
  | [], t, _, pf, _ => by
    have := pf.length_eq
    rw [List.length_map, List.length_map] at this
    rw [List.length_eq_zero_iff.mp (this.symm : t.length = 0)]
  | p :: ts, t, nd, pf, h => by
    have mp := h p (List.mem_cons_self ..)
    have pe := List.perm_cons_erase mp
    have pk : (ts.map Prod.fst).Perm ((t.erase p).map Prod.fst) := (pf.trans (pe.map Prod.fst)).cons_inv
    have nk := (pe.map Prod.fst).nodup_iff.mp nd
    obtain ⟨n1, n2⟩ := List.nodup_cons.mp (show (p.1 :: (t.erase p).map Prod.fst).Nodup from nk)
    refine ((perm_pairs n2 pk fun q hq => ?_).cons p).trans pe.symm
    rcases List.mem_cons.mp (pe.mem_iff.mp (h q (List.mem_cons_of_mem _ hq))) with e | m
    · exfalso
      refine n1 (pk.mem_iff.mp (List.mem_map.mpr ⟨q, hq, ?_⟩))
      rw [e]
    · exact m
theorem ok_finit {f fN CF : Addr} {fd fdN : FuncData} (F : Fun K "__init__" "Forest.__init__" s_Forest___init__ f fd) (T : Nm mg) (O : FoC K CF) (GN : Dn P w K mg base CX0 2 "need_parents" ["parents"] spNeed fN fdN) :
    FnOk P w K mg base CX0 3 f fd ["self", "parents"] (spFInit CF) := by
  refine F.ok scFInit (fun vs H Q E h => ?_) (fun cdv A outer s H vs Q E hr h => ?_)
  · obtain ⟨x, q, dx, t, rfl, _⟩ := h
    rfl
  · obtain ⟨x, q, dx, t, rfl, hx, hq, o, k⟩ := h
    have hu := hu_of hr
    refine ⟨_, pss_cons (ps_expr (pe_call GN.ok hr rfl GN.mgn GN.kp GN.bn .nil pass0 (pa_cons (pv 1) pa_nil)))
      (pss_one (ps_fld (pv 0) (pe_dc (own := [("name", 2)]) (g := gName 2) (tt := tYes) rfl scFInit.nd (pi_list (pe_callB (call_sortedD rfl) (by rfl) T.srt (by decide +kernel) (pa_cons (pv 1) pa_nil)))
        (blkOk_by (N := ["self", "parents", "name"]) (sc := defScope s_Forest___init__) (by decide +kernel))
        (fun _ _ _ _ _ => pg_name (i := 2) scFInit.nd rfl (Or.inl rfl)) (fun _ _ _ _ _ => pts_nil) (fun _ _ _ _ _ => pv 2) (fun _ _ _ _ _ => pe_dget hu (pv 1) (pv 2) (fun _ _ => rfl))) rfl)), ?_⟩
    have few := o.few
    have big : 1000 ≤ sizeLine := by decide
    refine ⟨_, rfl, q, t, rfl, hq, o, fun H1 s1 => ?_⟩
    have hq1 := s1 _ _ hq
    refine ⟨_, rfl, q, prs t, t.map Prod.fst, rfl, .inl hq1, prs_keys t, by rw [List.length_map]; omega, fun ys p perm srt np => ⟨p, rfl, ⟨_, SqL.of upd_same⟩, fun D nD => ?_⟩⟩
    obtain ⟨H2, e2⟩ : ∃ X, X = upd H1 p (.lst (ys.map V.str)) := ⟨_, rfl⟩
    have s2 : Same H H2 := s1.trans (e2 ▸ same_new np)
    have at2 : H2 p = some (.lst (ys.map V.str)) := by rw [e2]; exact upd_same
    rw [← e2] at nD ⊢
    have ndy : ys.Nodup := perm.nodup_iff.mpr o.nd
    have ly := perm.length_eq
    rw [List.length_map] at ly
    refine dc_it walk_list (fun i H' => Same H2 H' ∧ ∃ ts : List (Str × Str), H' D = some (.dK (prs ts)) ∧ ts.map Prod.fst = ys.take i ∧ ∀ p ∈ ts, p ∈ t) ⟨same_new nD, [], upd_same, by rw [List.take_zero] <;> rfl, fun p h => by cases h⟩ (fun i H' _ z => SqL.of (z.1 _ _ at2)) ?_ ?_
    · intro i y Ha Hb hi ⟨q1, ts, hD, ets, hts⟩ ⟨eb, ex⟩
      subst eb
      rw [List.getElem?_map] at ex
      obtain ⟨a, ha, rfl⟩ := Option.map_eq_some_iff.mp ex
      have ma : a ∈ t.map Prod.fst := perm.mem_iff.mp (List.mem_of_getElem? ha)
      obtain ⟨pa, hv⟩ := par_some o.nd ma
      have hqa := q1 _ _ (s2 _ _ hq)
      have fresh : a ∉ ts.map Prod.fst := by
        rw [ets]
        intro hm
        obtain ⟨j, hj⟩ := List.mem_iff_getElem?.mp hm
        have jl := (List.getElem?_eq_some_iff.mp hj).1
        have il := (List.getElem?_eq_some_iff.mp ha).1
        rw [List.length_take] at jl
        rw [List.getElem?_take, if_pos (by omega)] at hj
        have := (List.getElem?_inj (by omega) ndy).mp (hj.trans ha.symm)
        omega
      have lt := congrArg List.length ets
      rw [List.length_map, List.length_take] at lt
      refine ⟨rfl, ?_⟩
      refine ⟨_, rfl, _, rfl, _, rfl, q, V.str pa, rfl, by have z := DGet.k (k := Sum.inr a) hqa; rw [val_prs, hv] at z; exact z, prs ts, Sum.inr a, rfl, hD, by rw [prs_len]; omega, ?_, ts ++ [(a, pa)], ?_, ?_, fun z hz => ?_⟩
      · intro b u e
        rw [upd_ne (ne_of_none e nD)]
        exact q1 b u e
      · rw [upd_same, put_new fresh]
      · rw [List.map_append, ets, take_more ha] <;> rfl
      · rcases List.mem_append.mp hz with h | h
        · exact hts z h
        · rw [List.mem_singleton.mp h]
          exact par_mem hv
    · intro H3 ⟨q1, ts, hD, ets, hts⟩
      rw [List.length_map, List.take_length] at ets
      have s3 : Same H H3 := s2.trans q1
      refine ⟨_, rfl, x, CF, dx, [], rfl, s3 _ _ hx, O.cl, O.nA, by show 0 < 1000; decide, ?_⟩
      have xD : D ≠ x := (ne_of_none (s2 _ _ hx) nD).symm
      refine k _ ts (perm_pairs o.nd (by rw [ets]; exact perm) hts) (by unfold Asc; rw [ets]; exact srt) ⟨dx, D, upd_same, by rw [upd_ne xD]; exact hD⟩ fun b u bx e => ?_
      rw [upd_ne bx]
      exact s3 b u e
theorem scFFlags : FnScope ["self"] ["self"] (defScope s_Forest_flags) := ⟨rfl, rfl, rfl, by decide +kernel, rfl, by decide +kernel, by decide +kernel⟩
theorem ok_fflags {f CF : Addr} {fd : FuncData} (F : Fun K "flags" "Forest.flags" s_Forest_flags f fd) (T : Nm mg) (O : FoC K CF) : FnOk P w K mg base CX0 1 f fd ["self"] (spFFlags CF) := by
  refine F.ok scFFlags (fun vs H Q E h => ?_) (fun cdv A outer s H vs Q E hr h => ?_)
  · obtain ⟨x, ts, rfl, _⟩ := h
    rfl
  · obtain ⟨x, ts, rfl, ⟨dx, dq, hx, hd⟩, k⟩ := h
    refine ⟨_, pss_one (ps_ret (pe_callTy (call_listD rfl) (by rfl) T.lst (by decide +kernel) (pa_cons (pe_fld (pv 0) rfl) pa_nil))), ?_⟩
    refine ⟨_, rfl, x, CF, dx, _, .ref dq, rfl, hx, O.cl, O.nA, rfl, dq, prs ts, rfl, .inl hd, fun p np => ?_⟩
    rw [keys_prs]
    exact k p np
theorem scFParents : FnScope ["self"] ["self"] (defScope s_Forest_parents) := ⟨rfl, rfl, rfl, by decide +kernel, rfl, by decide +kernel, by decide +kernel⟩
theorem ok_fparents {f CF : Addr} {fd : FuncData} (F : Fun K "parents" "Forest.parents" s_Forest_parents f fd) (T : Nm mg) (O : FoC K CF) : FnOk P w K mg base CX0 1 f fd ["self"] (spFParents CF) := by
  refine F.ok scFParents (fun vs H Q E h => ?_) (fun cdv A outer s H vs Q E hr h => ?_)
  · obtain ⟨x, ts, rfl, _⟩ := h
    rfl
  · obtain ⟨x, ts, rfl, ⟨dx, dq, hx, hd⟩, k⟩ := h
    refine ⟨_, pss_one (ps_ret (pe_callTy call_dictD (by rfl) T.dct (by decide +kernel) (pa_cons (pe_fld (pv 0) rfl) pa_nil))), ?_⟩
    exact ⟨_, rfl, x, CF, dx, _, .ref dq, rfl, hx, O.cl, O.nA, rfl, dq, prs ts, rfl, .inl hd, fun p np => k p np⟩
/-- a property of a class -/
structure Pr1 (P : Program) (w : World) (K : PySem.W.Frag) (mg : Str → Option Value) (base : Heap) (CF : Addr) (x : Str) (sp : Sp) (p g : Addr) (fd : FuncData) : Prop where
  pr : PropOf K CF x p g
  fn : FnOk P w K mg base CX0 1 g fd ["self"] sp
  bn : Binds K fd ["self"] []
def spPlacesOf (CF : Addr) : Sp := fun vs H Q _ => ∃ (x : Addr) (ts : List (Str × Str)), vs = [.ref x] ∧ FAt CF H x ts ∧ ts.length ≤ 12 ∧ ∀ p H', Same H H' → H p = none → H' p = some (.lst ((("" : Str) :: ts.map Prod.fst).map V.str)) → Q (.ref p) H'
theorem scPlacesOf : FnScope ["forest"] ["forest"] (defScope s_places_of) := ⟨rfl, rfl, rfl, by decide +kernel, rfl, by decide +kernel, by decide +kernel⟩
theorem ok_placesOf {f CF p1 g1 : Addr} {mc : Value} {fd fd1 : FuncData} (F : Fun K "places_of" "places_of" s_places_of f fd) (T : Nm mg) (O : FoC K CF) (Z : Fc K mg CF mc) (L : Pr1 P w K mg base CF "flags" (spFFlags CF) p1 g1 fd1) :
    FnOk P w K mg base CX0 3 f fd ["forest"] (spPlacesOf CF) := by
  obtain ⟨ur, cr⟩ := Z.root
  refine F.ok scPlacesOf (fun vs H Q E h => ?_) (fun cdv A outer s H vs Q E hr h => ?_)
  · obtain ⟨x, ts, rfl, _⟩ := h
    rfl
  · obtain ⟨x, ts, rfl, fa, few, k⟩ := h
    obtain ⟨dx, dq, hx, hd⟩ := id fa
    have big : 1000 ≤ sizeLine := by decide
    refine ⟨_, pss_one (ps_ret (pe_op op_cat (pe_lst (pa_cons (pe_cval (pe_glob (v := .ref CF) (by rfl) Z.gF rfl)) pa_nil)) (pe_prop (pv 0) O.cl L.pr L.fn hr L.bn .nil pass0 (by rfl)))), ?_⟩
    refine ⟨CF, mc, _, ur, rfl, Z.rd, cr, by show 1 ≤ sizeLine; omega, fun p1 n1 => ?_⟩
    have s1 : Same H (upd H p1 (.lst [.str ""])) := same_new n1
    refine ⟨_, rfl, x, dx, _, rfl, s1 _ _ hx, x, ts, rfl, fa.mono s1, fun p2 n2 => ⟨p1, p2, [.str ""], (ts.map Prod.fst).map V.str, rfl, rfl, by rw [upd_ne (ne_of_none upd_same n2), upd_same], upd_same, ?_, fun p3 n3 => ?_⟩⟩
    · rw [List.length_map, List.length_map]
      show 1 + _ ≤ sizeLine
      omega
    · have s3 : Same H (upd (upd (upd H p1 (.lst [.str ""])) p2 (.lst ((ts.map Prod.fst).map V.str))) p3 (.lst ([.str ""] ++ (ts.map Prod.fst).map V.str))) := (s1.trans (same_new n2)).trans (same_new n3)
      exact k p3 _ s3 (Same.free (s1.trans (same_new n2)) n3) upd_same
end
end FT


/-! the package's errors: their __init__, how they are raised. -/
namespace FT
open PySem L2 TL ClX
/-- what the top has written of an error class at C, its __init__ at I; f its attribute, or the empty text -/
structure Er (K : PySem.W.Frag) (mg : Str → Option Value) (nm f : Str) (C I : Addr) : Prop where
  g : mg nm = some (.ref C)
  x : XCls K C
  ini : PySem.W.findIn K (.ref C) "__init__" = some (some (.ref I))
  ity : PySem.W.typeIn K (.ref I) = some (.type "function")
  no : PySem.W.findIn K (.ref C) f = some none
theorem Er.xf {K : PySem.W.Frag} {mg : Str → Option Value} {nm f : Str} {C I : Addr} (e : Er K mg nm f C I) : XfC K C := ⟨e.x.ga, e.x.gg, e.x.exC, e.x.hdC⟩
/-- the base class -/
structure Rt (K : PySem.W.Frag) (mg : Str → Option Value) (R : Addr) : Prop where
  g : mg "RolloutError" = some (.ref R)
  ini : XIni K R
def spInit1 (C : Addr) (f : Str) : Sp := fun vs H Q _ => ∃ (a : Addr) (v : V), vs = [.ref a, v] ∧ H a = some (exo a C none) ∧ ∀ d, H d = none → d ≠ a → Q .non (upd (upd H d (exd d [(f, v)])) a (exo a C (some d)))
def spInit0 (C : Addr) : Sp := fun vs H Q _ => ∃ (a : Addr), vs = [.ref a] ∧ H a = some (exo a C none) ∧ Q .non H
/-- C(v): what is asked -/
theorem raise1 {C : Addr} {f : Str} {H1 : Hp} {Q : XK} {v : V} (k : ∀ d, H1 d = none → Q (.ref C) (some d) (upd H1 d (.xd [(f, v)]))) :
    [v].length ≤ 1000 ∧ ∀ a, H1 a = none → spInit1 C f (.ref a :: ([v] ++ [])) (upd H1 a (exo a C none))
      (fun w H2 => w = .non ∧ ∃ (d : Addr) (fs : List (Str × V)), H2 a = some (exo a C (some d)) ∧ H2 d = some (exd d fs) ∧ H1 d = none ∧ Q (.ref C) (some d) (upd (del H2 a) d (.xd fs))) (fun _ _ _ => False) := by
  refine ⟨by show 1 ≤ 1000; omega, fun a na => ⟨a, v, rfl, upd_same, fun d nd nda => ⟨rfl, d, [(f, v)], upd_same, by rw [upd_ne nda, upd_same], ?_, ?_⟩⟩⟩
  · rw [upd_ne nda] at nd
    exact nd
  · rw [upd_ne nda] at nd
    have e : upd (del (upd (upd (upd H1 a (exo a C none)) d (exd d [(f, v)])) a (exo a C (some d))) a) d (.xd [(f, v)]) = upd H1 d (.xd [(f, v)]) := by
      funext b
      by_cases h1 : b = d
      · subst h1
        rw [upd_same, upd_same]
      · rw [upd_ne h1, upd_ne h1]
        by_cases h2 : b = a
        · subst h2
          rw [del_same, na]
        · rw [del_ne h2, upd_ne h2, upd_ne h1, upd_ne h2]
    rw [e]
    exact k d nd
/-- C(): what is asked -/
theorem raise0 {C : Addr} {H1 : Hp} {Q : XK} (k : Q (.ref C) none H1) :
    ([] : List V).length ≤ 1000 ∧ ∀ a, H1 a = none → spInit0 C (.ref a :: ([] ++ [])) (upd H1 a (exo a C none)) (fun v H2 => v = .non ∧ H2 a = some (exo a C none) ∧ Q (.ref C) none (del H2 a)) (fun _ _ _ => False) := by
  refine ⟨Nat.zero_le _, fun a na => ⟨a, rfl, upd_same, rfl, upd_same, ?_⟩⟩
  have e : del (upd H1 a (exo a C none)) a = H1 := by
    funext b
    by_cases h : b = a
    · subst h
      rw [del_same, na]
    · rw [del_ne h, upd_ne h]
  rw [e]
  exact k
/-- an error class with its __init__, as a whole: with one value -/
structure Er1 (P : Program) (w : World) (K : PySem.W.Frag) (mg : Str → Option Value) (base : Heap) (nm f : Str) (C I : Addr) (fd : FuncData) : Prop where
  e : Er K mg nm f C I
  fn : FnOk P w K mg base CX0 1 I fd ["self", f] (spInit1 C f)
  bn : Binds K fd ["self", f] []
structure Er0 (P : Program) (w : World) (K : PySem.W.Frag) (mg : Str → Option Value) (base : Heap) (nm : Str) (C I : Addr) (fd : FuncData) : Prop where
  e : Er K mg nm "" C I
  fn : FnOk P w K mg base CX0 1 I fd ["self"] (spInit0 C)
  bn : Binds K fd ["self"] []
section
variable {X : Cx} {W : WX} {nm f : Str} {C I : Addr} {fd : FuncData} {ex : Expr} {te : TE} {p pos pos2 : Pos}
/-- raise C(e) -/
theorem ps_err1 (L : Er1 X.prog X.w X.K X.mg X.base nm f C I fd) (hc : X.calm = true) (tk : Takes X W) (hr : Room 2 X.A) (hg : Gl X nm) (he : PE X ex te) (hdb : (nm == ("__debug__" : Str)) = false := by decide)
    (hse : starEach (ex :: []) X.env = (false, eval ex X.env) :: starEach [] X.env := by rfl) (hpl : (backTo pos (starEach [] X.env)).any (·.1) = false := by rfl) :
    PS X (.Raise (some (.Call (.Name nm p) [ex] [] pos)) none pos2) (fun _ σ H => tMkO C (spInit1 C f) [] (tCons te tNil) σ H fun cls d H' => W cls d σ H') :=
  ps_raise hc tk (pmk_oex L.e.x.oex L.e.ini L.e.ity L.fn hr L.bn .nil (fun _ _ _ _ _ _ _ h => h.elim) hg L.e.g (pa_cons (hs := hse) he pa_nil) hdb hse hpl)
/-- raise C() -/
theorem ps_err0 (L : Er0 X.prog X.w X.K X.mg X.base nm C I fd) (hc : X.calm = true) (tk : Takes X W) (hr : Room 2 X.A) (hg : Gl X nm) (hdb : (nm == ("__debug__" : Str)) = false := by decide) :
    PS X (.Raise (some (.Call (.Name nm p) [] [] pos)) none pos2) (fun _ σ H => tMkO0 C (spInit0 C) [] tNil σ H fun cls d H' => W cls d σ H') :=
  ps_raise hc tk (pmk_none L.e.x.oex L.e.ini L.e.ity L.fn hr L.bn .nil (fun _ _ _ _ _ _ _ h => h.elim) hg L.e.g hdb)
end
end FT


namespace FT
open PySem L2 TL ClX
section
variable {P : Program} {w : World} {K : PySem.W.Frag} {mg : Str → Option Value} {base : Heap}
theorem sc_InvalidForest : FnScope ["self", "name"] ["self", "name"] (defScope s_InvalidForest___init__) := ⟨rfl, rfl, rfl, by decide +kernel, rfl, by decide +kernel, by decide +kernel⟩
theorem ok_InvalidForest {f R C I : Addr} {fd : FuncData} (F : Fun K "__init__" "InvalidForest.__init__" s_InvalidForest___init__ f fd) (T : Rt K mg R) (L : Er K mg "InvalidForest" "name" C I) : FnOk P w K mg base CX0 1 f fd ["self", "name"] (spInit1 C "name") := by
  refine F.ok sc_InvalidForest (fun vs H Q E h => ?_) (fun cdv A outer s H vs Q E hr h => ?_)
  · obtain ⟨a, v, rfl, _⟩ := h
    rfl
  · obtain ⟨a, v, rfl, ha, k⟩ := h
    refine ⟨_, pss_cons (ps_expr (pe_clsinit T.ini rfl T.g (pa_cons (pv 0) (pa_cons pe_str pa_nil)))) (pss_one (ps_ost (pv 0) (pv 1))), ?_⟩
    refine ⟨_, rfl, a, C, _, rfl, by show 1 ≤ 1000; omega, L.x.oex, ha, ?_⟩
    exact ⟨_, rfl, _, rfl, a, C, rfl, L.x.oex, L.no, .inl ⟨ha, fun d nd nda => k d nd nda⟩⟩
theorem sc_UnknownName : FnScope ["self", "name"] ["self", "name"] (defScope s_UnknownName___init__) := ⟨rfl, rfl, rfl, by decide +kernel, rfl, by decide +kernel, by decide +kernel⟩
theorem ok_UnknownName {f R C I : Addr} {fd : FuncData} (F : Fun K "__init__" "UnknownName.__init__" s_UnknownName___init__ f fd) (T : Rt K mg R) (L : Er K mg "UnknownName" "name" C I) : FnOk P w K mg base CX0 1 f fd ["self", "name"] (spInit1 C "name") := by
  refine F.ok sc_UnknownName (fun vs H Q E h => ?_) (fun cdv A outer s H vs Q E hr h => ?_)
  · obtain ⟨a, v, rfl, _⟩ := h
    rfl
  · obtain ⟨a, v, rfl, ha, k⟩ := h
    refine ⟨_, pss_cons (ps_expr (pe_clsinit T.ini rfl T.g (pa_cons (pv 0) (pa_cons pe_str pa_nil)))) (pss_one (ps_ost (pv 0) (pv 1))), ?_⟩
    refine ⟨_, rfl, a, C, _, rfl, by show 1 ≤ 1000; omega, L.x.oex, ha, ?_⟩
    exact ⟨_, rfl, _, rfl, a, C, rfl, L.x.oex, L.no, .inl ⟨ha, fun d nd nda => k d nd nda⟩⟩
theorem sc_InvalidUsers : FnScope ["self"] ["self"] (defScope s_InvalidUsers___init__) := ⟨rfl, rfl, rfl, by decide +kernel, rfl, by decide +kernel, by decide +kernel⟩
theorem ok_InvalidUsers {f R C I : Addr} {fd : FuncData} (F : Fun K "__init__" "InvalidUsers.__init__" s_InvalidUsers___init__ f fd) (T : Rt K mg R) (L : Er K mg "InvalidUsers" "" C I) : FnOk P w K mg base CX0 1 f fd ["self"] (spInit0 C) := by
  refine F.ok sc_InvalidUsers (fun vs H Q E h => ?_) (fun cdv A outer s H vs Q E hr h => ?_)
  · obtain ⟨a, rfl, _⟩ := h
    rfl
  · obtain ⟨a, rfl, ha, k⟩ := h
    refine ⟨_, pss_one (ps_expr (pe_clsinit T.ini rfl T.g (pa_cons (pv 0) (pa_cons pe_str pa_nil)))), ?_⟩
    exact ⟨_, rfl, a, C, _, rfl, by show 1 ≤ 1000; omega, L.x.oex, ha, k⟩
theorem sc_InvalidSizes : FnScope ["self", "place"] ["self", "place"] (defScope s_InvalidSizes___init__) := ⟨rfl, rfl, rfl, by decide +kernel, rfl, by decide +kernel, by decide +kernel⟩
theorem ok_InvalidSizes {f R C I : Addr} {fd : FuncData} (F : Fun K "__init__" "InvalidSizes.__init__" s_InvalidSizes___init__ f fd) (T : Rt K mg R) (L : Er K mg "InvalidSizes" "place" C I) : FnOk P w K mg base CX0 1 f fd ["self", "place"] (spInit1 C "place") := by
  refine F.ok sc_InvalidSizes (fun vs H Q E h => ?_) (fun cdv A outer s H vs Q E hr h => ?_)
  · obtain ⟨a, v, rfl, _⟩ := h
    rfl
  · obtain ⟨a, v, rfl, ha, k⟩ := h
    refine ⟨_, pss_cons (ps_expr (pe_clsinit T.ini rfl T.g (pa_cons (pv 0) (pa_cons pe_str pa_nil)))) (pss_one (ps_ost (pv 0) (pv 1))), ?_⟩
    refine ⟨_, rfl, a, C, _, rfl, by show 1 ≤ 1000; omega, L.x.oex, ha, ?_⟩
    exact ⟨_, rfl, _, rfl, a, C, rfl, L.x.oex, L.no, .inl ⟨ha, fun d nd nda => k d nd nda⟩⟩
theorem sc_InvalidPlace : FnScope ["self", "user"] ["self", "user"] (defScope s_InvalidPlace___init__) := ⟨rfl, rfl, rfl, by decide +kernel, rfl, by decide +kernel, by decide +kernel⟩
theorem ok_InvalidPlace {f R C I : Addr} {fd : FuncData} (F : Fun K "__init__" "InvalidPlace.__init__" s_InvalidPlace___init__ f fd) (T : Rt K mg R) (L : Er K mg "InvalidPlace" "user" C I) : FnOk P w K mg base CX0 1 f fd ["self", "user"] (spInit1 C "user") := by
  refine F.ok sc_InvalidPlace (fun vs H Q E h => ?_) (fun cdv A outer s H vs Q E hr h => ?_)
  · obtain ⟨a, v, rfl, _⟩ := h
    rfl
  · obtain ⟨a, v, rfl, ha, k⟩ := h
    refine ⟨_, pss_cons (ps_expr (pe_clsinit T.ini rfl T.g (pa_cons (pv 0) (pa_cons pe_str pa_nil)))) (pss_one (ps_ost (pv 0) (pv 1))), ?_⟩
    refine ⟨_, rfl, a, C, _, rfl, by show 1 ≤ 1000; omega, L.x.oex, ha, ?_⟩
    exact ⟨_, rfl, _, rfl, a, C, rfl, L.x.oex, L.no, .inl ⟨ha, fun d nd nda => k d nd nda⟩⟩
theorem sc_UnknownUser : FnScope ["self", "user"] ["self", "user"] (defScope s_UnknownUser___init__) := ⟨rfl, rfl, rfl, by decide +kernel, rfl, by decide +kernel, by decide +kernel⟩
theorem ok_UnknownUser {f R C I : Addr} {fd : FuncData} (F : Fun K "__init__" "UnknownUser.__init__" s_UnknownUser___init__ f fd) (T : Rt K mg R) (L : Er K mg "UnknownUser" "user" C I) : FnOk P w K mg base CX0 1 f fd ["self", "user"] (spInit1 C "user") := by
  refine F.ok sc_UnknownUser (fun vs H Q E h => ?_) (fun cdv A outer s H vs Q E hr h => ?_)
  · obtain ⟨a, v, rfl, _⟩ := h
    rfl
  · obtain ⟨a, v, rfl, ha, k⟩ := h
    refine ⟨_, pss_cons (ps_expr (pe_clsinit T.ini rfl T.g (pa_cons (pv 0) (pa_cons pe_str pa_nil)))) (pss_one (ps_ost (pv 0) (pv 1))), ?_⟩
    refine ⟨_, rfl, a, C, _, rfl, by show 1 ≤ 1000; omega, L.x.oex, ha, ?_⟩
    exact ⟨_, rfl, _, rfl, a, C, rfl, L.x.oex, L.no, .inl ⟨ha, fun d nd nda => k d nd nda⟩⟩
theorem sc_Mismatch : FnScope ["self"] ["self"] (defScope s_Mismatch___init__) := ⟨rfl, rfl, rfl, by decide +kernel, rfl, by decide +kernel, by decide +kernel⟩
theorem ok_Mismatch {f R C I : Addr} {fd : FuncData} (F : Fun K "__init__" "Mismatch.__init__" s_Mismatch___init__ f fd) (T : Rt K mg R) (L : Er K mg "Mismatch" "" C I) : FnOk P w K mg base CX0 1 f fd ["self"] (spInit0 C) := by
  refine F.ok sc_Mismatch (fun vs H Q E h => ?_) (fun cdv A outer s H vs Q E hr h => ?_)
  · obtain ⟨a, rfl, _⟩ := h
    rfl
  · obtain ⟨a, rfl, ha, k⟩ := h
    refine ⟨_, pss_one (ps_expr (pe_clsinit T.ini rfl T.g (pa_cons (pv 0) (pa_cons pe_str pa_nil)))), ?_⟩
    exact ⟨_, rfl, a, C, _, rfl, by show 1 ≤ 1000; omega, L.x.oex, ha, k⟩
theorem sc_InvalidNumber : FnScope ["self"] ["self"] (defScope s_InvalidNumber___init__) := ⟨rfl, rfl, rfl, by decide +kernel, rfl, by decide +kernel, by decide +kernel⟩
theorem ok_InvalidNumber {f R C I : Addr} {fd : FuncData} (F : Fun K "__init__" "InvalidNumber.__init__" s_InvalidNumber___init__ f fd) (T : Rt K mg R) (L : Er K mg "InvalidNumber" "" C I) : FnOk P w K mg base CX0 1 f fd ["self"] (spInit0 C) := by
  refine F.ok sc_InvalidNumber (fun vs H Q E h => ?_) (fun cdv A outer s H vs Q E hr h => ?_)
  · obtain ⟨a, rfl, _⟩ := h
    rfl
  · obtain ⟨a, rfl, ha, k⟩ := h
    refine ⟨_, pss_one (ps_expr (pe_clsinit T.ini rfl T.g (pa_cons (pv 0) (pa_cons pe_str pa_nil)))), ?_⟩
    exact ⟨_, rfl, a, C, _, rfl, by show 1 ≤ 1000; omega, L.x.oex, ha, k⟩
theorem sc_NotBest : FnScope ["self"] ["self"] (defScope s_NotBest___init__) := ⟨rfl, rfl, rfl, by decide +kernel, rfl, by decide +kernel, by decide +kernel⟩
theorem ok_NotBest {f R C I : Addr} {fd : FuncData} (F : Fun K "__init__" "NotBest.__init__" s_NotBest___init__ f fd) (T : Rt K mg R) (L : Er K mg "NotBest" "" C I) : FnOk P w K mg base CX0 1 f fd ["self"] (spInit0 C) := by
  refine F.ok sc_NotBest (fun vs H Q E h => ?_) (fun cdv A outer s H vs Q E hr h => ?_)
  · obtain ⟨a, rfl, _⟩ := h
    rfl
  · obtain ⟨a, rfl, ha, k⟩ := h
    refine ⟨_, pss_one (ps_expr (pe_clsinit T.ini rfl T.g (pa_cons (pv 0) (pa_cons pe_str pa_nil)))), ?_⟩
    exact ⟨_, rfl, a, C, _, rfl, by show 1 ≤ 1000; omega, L.x.oex, ha, k⟩
end
end FT


namespace FT
open PySem L2 TL ClX
/-! ### data of any kind -/
inductive Dat (K : PySem.W.Frag) (H : Hp) : V → String → Prop where
  | non : Dat K H .non "NoneType"
  | bl (b : Bool) : Dat K H (.bl b) "bool"
  | int (i : Int) : Dat K H (.int i) "int"
  | str (z : Str) : Dat K H (.str z) "str"
  | lst {a : Addr} {xs : List V} (h : H a = some (.lst xs)) : Dat K H (.ref a) "list"
  | tup {a : Addr} {xs : List V} (h : H a = some (.tup xs)) : Dat K H (.ref a) "tuple"
  | dct {a : Addr} {kvs : List (Key × V)} (h : H a = some (.dK kvs)) : Dat K H (.ref a) "dict"
theorem Dat.ty {K : PySem.W.Frag} {H : Hp} {v : V} {T : String} (d : Dat K H v T) : TyX K H v (.type T) := by
  cases d with
  | non => exact .base .non
  | bl b => exact .base (.bl b)
  | int i => exact .base (.int i)
  | str z => exact .base (.str z)
  | lst h => exact .base (.lst h)
  | tup h => exact .base (.tup h)
  | dct h => exact .base (.dK h)
theorem Dat.mono {K : PySem.W.Frag} {H H' : Hp} {v : V} {T : String} (s : Same H H') (d : Dat K H v T) : Dat K H' v T := by
  cases d with
  | non => exact .non
  | bl b => exact .bl b
  | int i => exact .int i
  | str z => exact .str z
  | lst h => exact .lst (s _ _ h)
  | tup h => exact .tup (s _ _ h)
  | dct h => exact .dct (s _ _ h)
def IsDat (K : PySem.W.Frag) (H : Hp) (v : V) : Prop := ∃ T, Dat K H v T
theorem IsDat.mono {K : PySem.W.Frag} {H H' : Hp} {v : V} (s : Same H H') (d : IsDat K H v) : IsDat K H' v := let ⟨T, d⟩ := d; ⟨T, d.mono s⟩
/-- isinstance(v, int) -/
def isIntV : V → Bool
  | .int _ => true
  | .bl _ => true
  | _ => false
def isBlV : V → Bool
  | .bl _ => true
  | _ => false
def isDictV (H : Hp) (v : V) : Bool := match v with
  | .ref a => match H a with
    | some (.dK _) => true
    | _ => false
  | _ => false
theorem Dat.int_ {K : PySem.W.Frag} {H : Hp} {v : V} {T : String} (d : Dat K H v T) : PySem.W.kitOne K (.type T) (.type "int") = some (isIntV v) := by
  cases d with
  | non => exact kit_ty (r := false) (by decide +kernel)
  | bl b => exact kit_ty (r := true) (by decide +kernel)
  | int i => exact kit_ty (r := true) (by decide +kernel)
  | str z => exact kit_ty (r := false) (by decide +kernel)
  | lst h => exact kit_ty (r := false) (by decide +kernel)
  | tup h => exact kit_ty (r := false) (by decide +kernel)
  | dct h => exact kit_ty (r := false) (by decide +kernel)
theorem Dat.bool_ {K : PySem.W.Frag} {H : Hp} {v : V} {T : String} (d : Dat K H v T) : PySem.W.kitOne K (.type T) (.type "bool") = some (isBlV v) := by
  cases d with
  | non => exact kit_ty (r := false) (by decide +kernel)
  | bl b => exact kit_ty (r := true) (by decide +kernel)
  | int i => exact kit_ty (r := false) (by decide +kernel)
  | str z => exact kit_ty (r := false) (by decide +kernel)
  | lst h => exact kit_ty (r := false) (by decide +kernel)
  | tup h => exact kit_ty (r := false) (by decide +kernel)
  | dct h => exact kit_ty (r := false) (by decide +kernel)
theorem Dat.dict_ {K : PySem.W.Frag} {H : Hp} {v : V} {T : String} (d : Dat K H v T) : PySem.W.kitOne K (.type T) (.type "dict") = some (decide (T = "dict")) := by
  cases d with
  | non => exact kit_ty (r := false) (by decide +kernel)
  | bl b => exact kit_ty (r := false) (by decide +kernel)
  | int i => exact kit_ty (r := false) (by decide +kernel)
  | str z => exact kit_ty (r := false) (by decide +kernel)
  | lst h => exact kit_ty (r := false) (by decide +kernel)
  | tup h => exact kit_ty (r := false) (by decide +kernel)
  | dct h => exact kit_ty (r := true) (by decide +kernel)
theorem Dat.str_ {K : PySem.W.Frag} {H : Hp} {v : V} {T : String} (d : Dat K H v T) : PySem.W.kitOne K (.type T) (.type "str") = some (decide (T = "str")) := by
  cases d with
  | non => exact kit_ty (r := false) (by decide +kernel)
  | bl b => exact kit_ty (r := false) (by decide +kernel)
  | int i => exact kit_ty (r := false) (by decide +kernel)
  | str z => exact kit_ty (r := true) (by decide +kernel)
  | lst h => exact kit_ty (r := false) (by decide +kernel)
  | tup h => exact kit_ty (r := false) (by decide +kernel)
  | dct h => exact kit_ty (r := false) (by decide +kernel)
/-- an integer, no bool, of at least l -/
def isGe (v : V) (l : Int) : Bool := match v with
  | .int i => decide (l ≤ i)
  | _ => false
/-! ### what is raised -/
inductive Err where
  | e0 (C : Addr)
  | e1 (C : Addr) (f : Str) (v : V)
/-- the way out of such an error, from the heap H -/
def Out (H : Hp) (E : XK) : Err → Prop
  | .e0 C => ∀ H', Same H H' → E (.ref C) none H'
  | .e1 C f v => ∀ d H', Same H H' → H d = none → H' d = some (.xd [(f, v)]) → E (.ref C) (some d) H'
theorem Out.mono {H H1 : Hp} {E : XK} {e : Err} (s : Same H H1) (o : Out H E e) : Out H1 E e := by
  cases e with
  | e0 C => exact fun H' s' => o H' (s.trans s')
  | e1 C f v => exact fun d H' s' n => o d H' (s.trans s') (s.free n)
/-- raise C(v) in a def that lets it out -/
theorem out1 {C : Addr} {f : Str} {v : V} {H H1 : Hp} {E : XK} (o : Out H E (.e1 C f v)) (s : Same H H1) :
    [v].length ≤ 1000 ∧ ∀ a, H1 a = none → spInit1 C f (.ref a :: ([v] ++ [])) (upd H1 a (exo a C none))
      (fun w H2 => w = .non ∧ ∃ (d : Addr) (fs : List (Str × V)), H2 a = some (exo a C (some d)) ∧ H2 d = some (exd d fs) ∧ H1 d = none ∧ E (.ref C) (some d) (upd (del H2 a) d (.xd fs))) (fun _ _ _ => False) :=
  raise1 (Q := fun cls d H' => E cls d H') fun d nd => o d _ (s.trans (same_new nd)) (s.free nd) upd_same
theorem out0 {C : Addr} {H H1 : Hp} {E : XK} (o : Out H E (.e0 C)) (s : Same H H1) :
    ([] : List V).length ≤ 1000 ∧ ∀ a, H1 a = none → spInit0 C (.ref a :: ([] ++ [])) (upd H1 a (exo a C none)) (fun v H2 => v = .non ∧ H2 a = some (exo a C none) ∧ E (.ref C) none (del H2 a)) (fun _ _ _ => False) :=
  raise0 (Q := fun cls d H' => E cls d H') (o _ s)
/-- a call of a def that may raise, in a def that lets it out -/
theorem passX {P : Program} {w : World} {X : Cx} {E : XK} (tk : Takes X (fun cls d _ H => E cls d H)) : Passes (L2.CX X.prog X.w) X E := passes_call tk (fun _ _ _ _ h => h)
/-! ### numbers by places -/
def tblI (l : List Str) (g : Str → Int) : List (Key × V) := kvT (l.map fun a => (a, V.int (g a)))
theorem tblI_len (l : List Str) (g : Str → Int) : (tblI l g).length = l.length := by unfold tblI; rw [kvT_len, List.length_map]
theorem tblI_fst (l : List Str) (g : Str → Int) : (l.map fun a => (a, V.int (g a))).map Prod.fst = l := by rw [List.map_map]; exact List.map_id _
theorem tblI_keys (l : List Str) (g : Str → Int) : (tblI l g).map (·.1) = l.map Sum.inr := by unfold tblI kvT; rw [List.map_map, List.map_map] <;> rfl
theorem tblI_at {l : List Str} {g : Str → Int} {i : Nat} {k : Key} {v : V} (h : (tblI l g)[i]? = some (k, v)) : ∃ a, l[i]? = some a ∧ k = Sum.inr a ∧ v = .int (g a) := by
  unfold tblI kvT at h
  rw [List.map_map, List.getElem?_map] at h
  obtain ⟨a, ha, e⟩ := Option.map_eq_some_iff.mp h
  cases e
  exact ⟨a, ha, rfl, rfl⟩
theorem tblI_val {l : List Str} {g : Str → Int} {a : Str} (h : a ∈ l) : valV (tblI l g) (Sum.inr a) = some (.int (g a)) := by
  unfold tblI
  rw [kvT_val]
  induction l with
  | nil => cases h
  | cons b l ih =>
    rw [List.map_cons, look_cons]
    by_cases e : b = a
    · subst e
      exact if_pos rfl
    · rw [if_neg e]
      exact ih ((List.mem_cons.mp h).resolve_left fun z => e z.symm)
theorem tblI_none {l : List Str} {g : Str → Int} {a : Str} (h : a ∉ l) : valV (tblI l g) (Sum.inr a) = none := by
  unfold tblI
  rw [kvT_val, look_none (by rw [tblI_fst]; exact h)]
theorem tblI_put {l : List Str} {g : Str → Int} {a : Str} {z : Int} (h : a ∈ l) : putK (tblI l g) (Sum.inr a) (.int z) = tblI l (fun p => if p = a then z else g p) := by
  unfold tblI
  rw [kvT_putT]
  unfold putT
  rw [if_pos (by rw [tblI_fst]; exact h), List.map_map]
  congr 1
  refine List.map_congr_left fun p _ => ?_
  show (if p = a then (p, V.int z) else (p, V.int (g p))) = (p, V.int (if p = a then z else g p))
  by_cases e : p = a
  · rw [if_pos e, if_pos e]
  · rw [if_neg e, if_neg e]
theorem tblI_snoc {l : List Str} {g : Str → Int} {a : Str} {z : Int} (h : a ∉ l) (e : z = g a) : putK (tblI l g) (Sum.inr a) (.int z) = tblI (l ++ [a]) g := by
  unfold tblI
  rw [kvT_put (by rw [tblI_fst]; exact h), List.map_append, e] <;> rfl
theorem tblI_congr {l : List Str} {g g' : Str → Int} (h : ∀ a ∈ l, g a = g' a) : tblI l g = tblI l g' := by
  unfold tblI
  rw [List.map_congr_left fun a ha => by rw [h a ha]]
/-! ### feasible sizes -/
/-- sizes: a dict, its pairs told, or another value -/
def SzV (K : PySem.W.Frag) (H : Hp) (sv : V) : Option (List (Key × V)) → Prop
  | some kvs => ∃ q, sv = .ref q ∧ H q = some (.dK kvs) ∧ ∀ p ∈ kvs, IsDat K H p.2
  | none => ∃ T, Dat K H sv T ∧ T ≠ "dict"
theorem SzV.mono {K : PySem.W.Frag} {H H' : Hp} {sv : V} {o : Option (List (Key × V))} (s : Same H H') (h : SzV K H sv o) : SzV K H' sv o := by
  cases o with
  | none => exact let ⟨T, d, n⟩ := h; ⟨T, d.mono s, n⟩
  | some kvs => exact let ⟨q, e, h, a⟩ := h; ⟨q, e, s _ _ h, fun p hp => (a p hp).mono s⟩
def szOf (kvs : List (Key × V)) (a : Str) : Int := match valV kvs (Sum.inr a) with
  | some (.int i) => i
  | _ => 0
def badKey (kvs : List (Key × V)) (a : Str) : Bool := !isGe ((valV kvs (Sum.inr a)).getD .non) 0
/-- the place of the first fault, as the error tells it -/
def feas (ts : List (Str × Str)) (n : Int) : Option (List (Key × V)) → Option V
  | none => some .non
  | some kvs => if kvs.length ≠ ts.length then some .non else if (ts.map Prod.fst).all (fun a => (valV kvs (Sum.inr a)).isSome) = false then some .non else
    match (ts.map Prod.fst).find? (badKey kvs) with
    | some a => some (.str a)
    | none => ((("" : Str) :: ts.map Prod.fst).find? fun p => decide (resid ts n (szOf kvs) p < 0)).map V.str
def usersOk (v : V) (m : Int) : Bool := match v with
  | .int i => decide (1 ≤ i) && decide (i ≤ m)
  | _ => false
def feE (CS : Addr) (ts : List (Str × Str)) (n : Int) (o : Option (List (Key × V))) : Option Err := (feas ts n o).map fun v => .e1 CS "place" v
def szE (CU CS : Addr) (ts : List (Str × Str)) (uv : V) (o : Option (List (Key × V))) : Option Err := if usersOk uv (10 ^ 30) = true then feE CS ts (match uv with | .int n => n | _ => 0) o else some (.e0 CU)
/-- a def that hands back None, or raises -/
def Res (H : Hp) (Q : VK) (E : XK) : Option Err → Prop
  | none => ∀ H', Same H H' → Q .non H'
  | some e => Out H E e
theorem Res.mono {H H1 : Hp} {Q : VK} {E : XK} {o : Option Err} (s : Same H H1) (r : Res H Q E o) : Res H1 Q E o := by
  cases o with
  | none => exact fun H' s' => r H' (s.trans s')
  | some e => exact Out.mono s r
def spIsInt (K : PySem.W.Frag) : Sp := fun vs H Q _ => ∃ (v : V) (l : Int), vs = [v, .int l] ∧ IsDat K H v ∧ Q (.bl (isGe v l)) H
def spUsers (K : PySem.W.Frag) (CU : Addr) : Sp := fun vs H Q E => ∃ (v : V) (m : Int), vs = [v, .int m] ∧ IsDat K H v ∧ Res H Q E (if usersOk v m = true then none else some (.e0 CU))
def spResid (CF : Addr) : Sp := fun vs H Q _ => ∃ (x q : Addr) (n : Int) (ts : List (Str × Str)) (kvs : List (Key × V)), vs = [.ref x, .int n, .ref q] ∧ FAt CF H x ts ∧ TreeOk ts ∧ H q = some (.dK kvs) ∧ (∀ a ∈ ts.map Prod.fst, valV kvs (Sum.inr a) = some (.int (szOf kvs a))) ∧
  ∀ p H', Same H H' → H p = none → H' p = some (.dK (tblI ("" :: ts.map Prod.fst) (resid ts n (szOf kvs)))) → Q (.ref p) H'
def spFeas (K : PySem.W.Frag) (CF CS : Addr) : Sp := fun vs H Q E => ∃ (x : Addr) (n : Int) (sv : V) (ts : List (Str × Str)) (o : Option (List (Key × V))), vs = [.ref x, .int n, sv] ∧ FAt CF H x ts ∧ TreeOk ts ∧ SzV K H sv o ∧ Res H Q E (feE CS ts n o)
def spNSizes (K : PySem.W.Frag) (CF CU CS : Addr) : Sp := fun vs H Q E => ∃ (x : Addr) (uv sv : V) (ts : List (Str × Str)) (o : Option (List (Key × V))), vs = [.ref x, uv, sv] ∧ FAt CF H x ts ∧ TreeOk ts ∧ IsDat K H uv ∧ SzV K H sv o ∧ Res H Q E (szE CU CS ts uv o)
section
variable {P : Program} {w : World} {K : PySem.W.Frag} {mg : Str → Option Value} {base : Heap}
theorem scIsInt : FnScope ["value", "least"] ["value", "least"] (defScope s_is_integer) := ⟨rfl, rfl, rfl, by decide +kernel, rfl, by decide +kernel, by decide +kernel⟩
theorem ok_isInt {f : Addr} {fd : FuncData} (F : Fun K "is_integer" "is_integer" s_is_integer f fd) (T : Nm mg) : FnOk P w K mg base CX0 1 f fd ["value", "least"] (spIsInt K) := by
  refine F.ok scIsInt (fun vs H Q E h => ?_) (fun cdv A outer s H vs Q E hr h => ?_)
  · obtain ⟨v, l, rfl, _⟩ := h
    rfl
  · obtain ⟨v, l, rfl, ⟨t, d⟩, k⟩ := h
    refine ⟨_, pss_one (ps_ret (pe_and (pe_callB call_isi (by rfl) T.isi (by decide +kernel) (pa_cons (pv 0) (pa_cons (pe_bltn (v := .ty "int") (u := .type "int") (by rfl) T.int (by decide +kernel) rfl) pa_nil)))
      (pe_and (pe_not (pe_callB call_isi (by rfl) T.isi (by decide +kernel) (pa_cons (pv 0) (pa_cons (pe_bltn (v := .ty "bool") (u := .type "bool") (by rfl) T.bool (by decide +kernel) rfl) pa_nil)))) (pe_one (pe_cmpR op_ge (pv 0) (pv 1) (nomark _)))))), ?_⟩
    refine ⟨_, rfl, v, _, _, _, _, rfl, .ty _, d.ty, d.int_, _, rfl, ?_⟩
    refine ite2 (fun yes => ⟨_, rfl, v, _, _, _, _, rfl, .ty _, d.ty, d.bool_, _, rfl, _, rfl, ?_⟩) (fun no => ?_)
    · refine ite2 (fun yes2 => ?_) (fun no2 => ?_)
      · cases v with
        | int i => exact ⟨_, rfl, _, rfl, i, l, rfl, rfl, k⟩
        | bl b => cases yes2
        | _ => cases yes
      · cases v with
        | int i => exact absurd rfl no2
        | bl b => exact k
        | _ => cases yes
    · cases v with
      | int i => exact absurd rfl no
      | bl b => exact absurd rfl no
      | _ => exact k
end
end FT


namespace FT
open PySem L2 TL ClX
section
variable {P : Program} {w : World} {K : PySem.W.Frag} {mg : Str → Option Value} {base : Heap}
abbrev NRes : List Str := ["forest", "users", "sizes", "found", "parents", "name", "place"]
theorem scRes : FnScope NRes ["forest", "users", "sizes"] (defScope s_residents_of) := ⟨rfl, rfl, rfl, by decide +kernel, rfl, by decide +kernel, by decide +kernel⟩
theorem ok_resid {f fP CF p1 g1 p2 g2 : Addr} {mc : Value} {fd fdP fd1 fd2 : FuncData} (F : Fun K "residents_of" "residents_of" s_residents_of f fd) (T : Nm mg) (O : FoC K CF) (Z : Fc K mg CF mc)
    (G : Dn P w K mg base CX0 3 "places_of" ["forest"] (spPlacesOf CF) fP fdP) (L1 : Pr1 P w K mg base CF "flags" (spFFlags CF) p1 g1 fd1) (L2 : Pr1 P w K mg base CF "parents" (spFParents CF) p2 g2 fd2) :
    FnOk P w K mg base CX0 4 f fd ["forest", "users", "sizes"] (spResid CF) := by
  obtain ⟨ur, cr⟩ := Z.root
  refine F.ok scRes (fun vs H Q E h => ?_) (fun cdv A outer s H vs Q E hr h => ?_)
  · obtain ⟨x, q, n, ts, kvs, rfl, _⟩ := h
    rfl
  · obtain ⟨x, q, n, ts, kvs, rfl, fa, o, hq, hv, k⟩ := h
    have hu := hu_of hr
    have hr2 : Room 2 _ := hr.mono (by decide)
    have big : 1000 ≤ sizeLine := by decide
    have few := o.few
    refine ⟨_, pss_cons (ps_setDc (i := 3) (own := [("place", 6)]) (g := gName 6) (tt := tYes) (tv := tIf (tTest (tOp rEq (tVar 6) (tCVal K (tC (.ref CF)) "ROOT"))) (tVar 1) (tDGet (tVar 2) (tVar 6))) rfl scRes.nd rfl rfl (swd_true rfl rfl rfl (by decide +kernel)) (pi_list (pe_call G.ok (hr.mono (by decide)) rfl G.mgn G.kp G.bn .nil pass0 (pa_cons (pv 0) pa_nil)))
        (blkOk_by (N := NRes) (sc := defScope s_residents_of) (by decide +kernel))
        (fun _ _ _ _ _ => pg_name (i := 6) scRes.nd rfl (Or.inl rfl)) (fun _ _ _ _ _ => pts_nil) (fun _ _ _ _ _ => pv 6)
        (fun _ _ _ _ _ => pe_ifExp (pt_cmpR op_eq (pv 6) (pe_cval (pe_glob (v := .ref CF) (by rfl) Z.gF rfl)) (nomark _)) (pv 1) (pe_dget hu (pv 2) (pv 6) (fun _ _ => rfl))))
      (pss_cons (ps_set (i := 4) scRes.nd rfl (.inl rfl) (pe_prop (pv 0) O.cl L2.pr L2.fn hr2 L2.bn .nil pass0 (by rfl)))
      (pss_cons (ps_for PassesOwn.never rfl (pi_list (pe_prop (pv 0) O.cl L1.pr L1.fn hr2 L1.bn .nil pass0 (by rfl))) (pg_name (i := 5) scRes.nd rfl (.inl rfl))
        (pss_one (ps_dput hu (pv 3) (pe_dget hu (pv 4) (pv 5) (fun _ _ => rfl)) (pe_op op_sub (pe_dget hu (pv 3) (pe_dget hu (pv 4) (pv 5) (fun _ _ => rfl)) (fun _ _ => rfl)) (pe_dget hu (pv 2) (pv 5) (fun _ _ => rfl))) rfl)))
      (pss_one (ps_ret (pv 3))))), ?_⟩
    obtain ⟨pls, epl⟩ : ∃ l, l = (("" : Str) :: ts.map Prod.fst) := ⟨_, rfl⟩
    have ndp : pls.Nodup := by rw [epl]; exact List.nodup_cons.mpr ⟨o.root, o.nd⟩
    have lpl : pls.length = ts.length + 1 := by rw [epl, List.length_cons, List.length_map]
    rw [← epl] at k
    refine ⟨_, rfl, x, ts, rfl, fa, few, fun p0 H0 s0 n0 a0 => ⟨p0, rfl, ⟨_, SqL.of a0⟩, fun D nD => ?_⟩⟩
    rw [← epl] at a0
    refine dc_it walk_list (fun i H' => Same H0 H' ∧ H' D = some (.dK (tblI (pls.take i) (resid [] n (szOf kvs))))) ⟨same_new nD, upd_same⟩ (fun i H' _ z => SqL.of (z.1 _ _ a0)) ?_ ?_
    · intro i y Ha Hb hi ⟨q1, q2⟩ ⟨eb, ex⟩
      subst eb
      obtain ⟨a, ha, rfl⟩ := map_of ex
      have ma : a ∈ pls := List.mem_of_getElem? ha
      have fresh : a ∉ pls.take i := fun hm => by
        obtain ⟨j, hj⟩ := List.mem_iff_getElem?.mp hm
        have jl := (List.getElem?_eq_some_iff.mp hj).1
        rw [List.length_take] at jl
        rw [List.getElem?_take, if_pos (by omega)] at hj
        have := (List.getElem?_inj (by omega) ndp).mp (hj.trans ha.symm)
        omega
      have fin : ∀ z, z = resid [] n (szOf kvs) a → ∃ kvs1 k1, V.str a = kV k1 ∧ Hb D = some (.dK kvs1) ∧ kvs1.length < sizeLine ∧ (Same H0 (upd Hb D (.dK (putK kvs1 k1 (.int z)))) ∧ (upd Hb D (.dK (putK kvs1 k1 (.int z)))) D = some (.dK (tblI (pls.take (i + 1)) (resid [] n (szOf kvs))))) := fun z ez =>
        ⟨_, Sum.inr a, rfl, q2, by rw [tblI_len, List.length_take]; omega, Same.put q1 nD, by rw [upd_same, tblI_snoc fresh ez, take_more ha]⟩
      refine ⟨rfl, ?_⟩
      refine ⟨_, rfl, ?_⟩
      refine ⟨_, rfl, CF, mc, _, ur, rfl, Z.rd, cr, rfl, _, rfl, ?_⟩
      by_cases e : a = ""
      · rw [decide_eq_true (show V.str a = V.str "" by rw [e])]
        refine iteT ⟨_, rfl, fin n ?_⟩
        rw [e]
        show n = n - 0
        omega
      · rw [decide_eq_false (show ¬ V.str a = V.str "" from fun z => e (V.str.inj z))]
        have mk : a ∈ ts.map Prod.fst := by
          rw [epl] at ma
          exact (List.mem_cons.mp ma).resolve_left e
        refine iteF ⟨_, rfl, _, rfl, q, .int (szOf kvs a), rfl, ?_, fin _ ?_⟩
        · have z := DGet.k (k := Sum.inr a) (q1 _ _ (s0 _ _ hq))
          rw [hv a mk] at z
          exact z
        · show szOf kvs a = (if a = "" then n else szOf kvs a) - 0
          rw [if_neg e]
          omega
    · intro H1 ⟨q1, q2⟩
      have lp2 : (pls.map V.str).length = pls.length := List.length_map _
      rw [lp2, List.take_length] at q2
      have s1 : Same H H1 := s0.trans q1
      have nD0 : H D = none := s0.free nD
      obtain ⟨dx, dq, hx, hd⟩ := id fa
      refine ⟨_, rfl, x, dx, _, rfl, s1 _ _ hx, x, ts, rfl, fa.mono s1, fun pp npp => ?_⟩
      have pD : D ≠ pp := ne_of_none q2 npp
      obtain ⟨H2, e2⟩ : ∃ X, X = upd H1 pp (.dK (prs ts)) := ⟨_, rfl⟩
      have s12 : Same H1 H2 := e2 ▸ same_new npp
      have a2 : H2 pp = some (.dK (prs ts)) := by rw [e2]; exact upd_same
      rw [← e2]
      have s2 := s1.trans s12
      refine ⟨_, rfl, x, dx, _, rfl, s2 _ _ hx, x, ts, rfl, fa.mono s2, fun pf npf => ⟨pf, rfl, ⟨_, SqL.of upd_same⟩, ?_⟩⟩
      obtain ⟨H3, e3⟩ : ∃ X, X = upd H2 pf (.lst ((ts.map Prod.fst).map V.str)) := ⟨_, rfl⟩
      have s23 : Same H2 H3 := e3 ▸ same_new npf
      have a3 : H3 pf = some (.lst ((ts.map Prod.fst).map V.str)) := by rw [e3]; exact upd_same
      rw [← e3]
      have s3 := s2.trans s23
      have pfD : pf ≠ D := fun z => by rw [z, s23 _ _ (s12 _ _ q2)] at a3; cases a3
      refine for_it walk_list (fun j σ' H' => (∃ u5, σ' = [some (.ref x), some (.int n), some (.ref q), some (.ref D), some (.ref pp), u5, none]) ∧ Same H H' ∧ H' pp = some (.dK (prs ts)) ∧ H' pf = some (.lst ((ts.map Prod.fst).map V.str)) ∧ H' D = some (.dK (tblI pls (resid (ts.take j) n (szOf kvs)))))
        ⟨⟨none, rfl⟩, s3, s23 _ _ a2, a3, s23 _ _ (s12 _ _ q2)⟩ (fun j σ' H' _ z => SqL.of z.2.2.2.1) ?_ ?_
      · intro j y σ' Ha Hb hj ⟨⟨u5, e⟩, sa, app, apf, aD⟩ ⟨eb, ex⟩
        subst e
        subst eb
        obtain ⟨a, ha, rfl⟩ := map_of ex
        obtain ⟨⟨a', pa⟩, hp, rfl⟩ := Option.map_eq_some_iff.mp (show (ts[j]?).map Prod.fst = some a by rw [← List.getElem?_map]; exact ha)
        have mp := List.mem_of_getElem? hp
        have mk : a' ∈ ts.map Prod.fst := List.mem_map.mpr ⟨_, mp, rfl⟩
        have ep := par_of o.nd mp
        obtain ⟨rk, r⟩ := o.up
        have mpa : pa ∈ pls := by
          rw [epl]
          exact List.mem_cons.mpr ((r _ mp).2.imp id And.left)
        have dg : DGet Hb pp (.str a') (some (.str pa)) := by
          have z := DGet.k (k := Sum.inr a') app
          rw [val_prs, ep] at z
          exact z
        refine ⟨_, rfl, _, rfl, _, rfl, pp, _, rfl, dg, D, .int (resid (ts.take j) n (szOf kvs) pa), rfl, ?_, ?_⟩
        · have z := DGet.k (k := Sum.inr pa) aD
          rw [tblI_val mpa] at z
          exact z
        · refine ⟨_, rfl, _, rfl, q, .int (szOf kvs a'), rfl, ?_, _, _, rfl, rfl, ?_⟩
          · have z := DGet.k (k := Sum.inr a') (sa _ _ hq)
            rw [hv a' mk] at z
            exact z
          · refine ⟨_, rfl, _, rfl, _, rfl, pp, _, rfl, dg, D, _, rfl, DPut.k (k := Sum.inr pa) aD (by rw [tblI_len]; omega), ?_⟩
            refine ⟨⟨_, rfl⟩, fun b u e => ?_, ?_, ?_, ?_⟩
            · rw [upd_ne (ne_of_none e nD0)]
              exact sa b u e
            · rw [upd_ne pD.symm]
              exact app
            · rw [upd_ne pfD]
              exact apf
            · rw [upd_same, tblI_put mpa]
              congr 2
              refine tblI_congr fun b _ => ?_
              rw [take_more hp, resid_snoc]
              by_cases e : b = pa
              · rw [if_pos e, if_pos e.symm, e]
              · rw [if_neg e, if_neg fun z => e z.symm]
      · intro σ' H4 ⟨⟨u5, e⟩, sa, app, apf, aD⟩
        subst e
        rw [List.length_map, List.length_map, List.take_length] at aD
        exact ⟨_, rfl, k D H4 sa nD0 aD⟩
end
end FT


namespace FT
open PySem L2 TL ClX
theorem valV_mem {kvs : List (Key × V)} {k : Key} {v : V} (h : valV kvs k = some v) : (k, v) ∈ kvs := by
  unfold valV at h
  obtain ⟨p, hp, e⟩ := Option.map_eq_some_iff.mp h
  have m := List.mem_of_find?_eq_some hp
  have q : p.1 = k := of_decide_eq_true (List.find?_some (p := fun kv : Key × V => decide (kv.1 = k)) hp)
  obtain ⟨k', v'⟩ := p
  cases e
  cases (show k' = k from q)
  exact m
theorem feas_some (ts : List (Str × Str)) (n : Int) (kvs : List (Key × V)) : feas ts n (some kvs) = if kvs.length ≠ ts.length then some .non else if (ts.map Prod.fst).all (fun a => (valV kvs (Sum.inr a)).isSome) = false then some .non else
    match (ts.map Prod.fst).find? (badKey kvs) with
    | some a => some (.str a)
    | none => ((("" : Str) :: ts.map Prod.fst).find? fun p => decide (resid ts n (szOf kvs) p < 0)).map V.str := rfl
theorem find_at {α : Type} {p : α → Bool} : ∀ {l : List α} {j : Nat} {a : α}, l[j]? = some a → (l.take j).find? p = none → p a = true → l.find? p = some a
  | [], j, a, h, _, _ => by simp at h
  | x :: l, 0, a, h, _, hp => by
    have e : x = a := Option.some.inj h
    subst e
    rw [List.find?_cons, hp]
  | x :: l, j + 1, a, h, hn, hp => by
    have hn' : (x :: l.take j).find? p = none := hn
    rw [List.find?_cons] at hn' ⊢
    cases e : p x with
    | true =>
      rw [e] at hn'
      cases hn'
    | false =>
      rw [e] at hn'
      exact find_at h hn' hp
theorem find_more {α : Type} {p : α → Bool} {l : List α} {j : Nat} {a : α} (h : l[j]? = some a) (hn : (l.take j).find? p = none) (hp : p a = false) : (l.take (j + 1)).find? p = none := by
  rw [take_more h, List.find?_append, hn]
  show [a].find? p = none
  rw [List.find?_cons, hp] <;> rfl
theorem len_int {a b : Nat} : decide (V.int (a : Int) = V.int (b : Int)) = decide (a = b) := by
  rw [Bool.eq_iff_iff, decide_eq_true_eq, decide_eq_true_eq]
  constructor
  · intro h
    have := V.int.inj h
    omega
  · intro h
    rw [h]
section
variable {P : Program} {w : World} {K : PySem.W.Frag} {mg : Str → Option Value} {base : Heap}
abbrev NFe : List Str := ["forest", "users", "sizes", "name", "left", "place"]
theorem scFe : FnScope NFe ["forest", "users", "sizes"] (defScope s_need_feasible) := ⟨rfl, rfl, rfl, by decide +kernel, rfl, by decide +kernel, by decide +kernel⟩
theorem ok_feas {f fR fI CF CS IS p1 g1 : Addr} {fd fdR fdI dS fd1 : FuncData} (F : Fun K "need_feasible" "need_feasible" s_need_feasible f fd) (T : Nm mg) (O : FoC K CF) (S : Er1 P w K mg base "InvalidSizes" "place" CS IS dS)
    (R : Dn P w K mg base CX0 4 "residents_of" ["forest", "users", "sizes"] (spResid CF) fR fdR) (I : Dn P w K mg base CX0 1 "is_integer" ["value", "least"] (spIsInt K) fI fdI) (L1 : Pr1 P w K mg base CF "flags" (spFFlags CF) p1 g1 fd1) :
    FnOk P w K mg base (L2.CX P w) 5 f fd ["forest", "users", "sizes"] (spFeas K CF CS) := by
  refine F.okX scFe (fun vs H Q E h => ?_) (fun cdv A outer s H vs Q E hr h => ?_)
  · obtain ⟨x, n, sv, ts, o, rfl, _⟩ := h
    rfl
  · obtain ⟨x, n, sv, ts, so, rfl, fa, o, hz, k⟩ := h
    have hu := hu_of hr
    have hr2 : Room 2 _ := hr.mono (by decide)
    have big : 1000 ≤ sizeLine := by decide
    have few := o.few
    have flags : PE (cxOf (L2.CX P w) P w K mg base NFe "need_feasible" (defScope s_need_feasible) f cdv A outer s H E) (.Name "forest" ⟨0, 0, 0, 0⟩) (tVar 0) := pv 0
    refine ⟨_, pss_cons (ps_if (PW.pt (pw_or (pt_not (pt_val (pe_callB call_isi (by rfl) T.isi (by decide +kernel) (pa_cons (pv 2) (pa_cons (pe_bltn (v := .ty "dict") (u := .type "dict") (by rfl) T.dct (by decide +kernel) rfl) pa_nil)))))
        (pw_or1 (pt_cmpR op_ne (pe_callB call_lenD (by rfl) T.len PySem.boot_len (pa_cons (pv 2) pa_nil)) (pe_callB call_len_seq (by rfl) T.len PySem.boot_len (pa_cons (pe_prop (pv 0) O.cl L1.pr L1.fn hr2 L1.bn .nil pass0 (by rfl)) pa_nil)) (nomark _)))))
        (pss_one (ps_err1 S rfl (takes_of rfl rfl rfl rfl) hr2 rfl pe_non)) pss_nil)
      (pss_cons (ps_if (pt_not (pt_val (pe_callB (cr_all rfl) (by rfl) T.all (by decide +kernel) (pa_cons (pe_lc (own := [("name", 3)]) (g := gName 3) (tt := tYes) rfl scFe.nd (pi_list (pe_prop (pv 0) O.cl L1.pr L1.fn hr2 L1.bn .nil pass0 (by rfl)))
          (blkOk_by (N := NFe) (sc := defScope s_need_feasible) (by decide +kernel))
          (fun _ _ _ _ _ => pg_name (i := 3) scFe.nd rfl (Or.inl rfl)) (fun _ _ _ _ _ => pts_nil) (fun _ _ _ _ _ => pe_cmp (pc_din hu (pv 3) (pv 2)) rfl)) pa_nil))))
        (pss_one (ps_err1 S rfl (takes_of rfl rfl rfl rfl) hr2 rfl pe_non)) pss_nil)
      (pss_cons (ps_for (passes_of rfl) rfl (pi_list (pe_prop (pv 0) O.cl L1.pr L1.fn hr2 L1.bn .nil pass0 (by rfl))) (pg_name (i := 3) scFe.nd rfl (.inl rfl))
        (pss_one (ps_if (pt_not (pt_val (pe_call I.ok (hr.mono (by decide)) rfl I.mgn I.kp I.bn .nil pass0 (pa_cons (pe_dget hu (pv 2) (pv 3) (fun _ _ => rfl)) (pa_cons pe_int pa_nil))))) (pss_one (ps_err1 S rfl (takes_of rfl rfl rfl rfl) hr2 rfl (pv 3))) pss_nil)))
      (pss_cons (ps_set (i := 4) scFe.nd rfl (.inl rfl) (pe_call R.ok hr rfl R.mgn R.kp R.bn .nil pass0 (pa_cons (pv 0) (pa_cons (pv 1) (pa_cons (pv 2) pa_nil)))))
      (pss_one (ps_lock (ps_for (passes_of rfl) rfl (pi_keys (pv 4)) (pg_name (i := 5) scFe.nd rfl (.inl rfl))
        (pss_one (ps_if (pt_cmpR op_lt (pe_dget hu (pv 4) (pv 5) (fun _ _ => rfl)) pe_int (nomark _)) (pss_one (ps_err1 S rfl (takes_of rfl rfl rfl rfl) hr2 rfl (pv 5))) pss_nil)))))))), ?_⟩
    obtain ⟨dx, dq, hx, hd⟩ := id fa
    cases so with
    | none =>
      obtain ⟨t, d, nd⟩ := hz
      refine ⟨_, rfl, sv, _, _, _, _, rfl, .ty _, d.ty, d.dict_, _, rfl, ?_⟩
      rw [decide_eq_false nd]
      show if true = true then _ else _
      rw [if_pos rfl]
      exact iteT (out1 k Same.refl)
    | some kvs =>
      obtain ⟨q, rfl, hq, dat⟩ := hz
      refine ⟨_, rfl, .ref q, _, _, _, _, rfl, .ty _, (Dat.dct (K := K) hq).ty, (Dat.dct (K := K) hq).dict_, _, rfl, ?_⟩
      rw [decide_eq_true rfl]
      refine iteF ?_
      refine ⟨_, rfl, q, kvs, rfl, hq, ?_⟩
      refine ⟨_, rfl, x, dx, _, rfl, hx, x, ts, rfl, fa, fun pf nf => ⟨pf, _, rfl, .inl (SqL.of upd_same), rfl, _, rfl, ?_⟩⟩
      rw [List.length_map, List.length_map, len_int]
      have s1 := same_new (o := .lst ((ts.map Prod.fst).map V.str)) nf
      obtain ⟨H1, e1⟩ : ∃ X, X = upd H pf (.lst ((ts.map Prod.fst).map V.str)) := ⟨_, rfl⟩
      rw [← e1] at s1 ⊢
      by_cases el : kvs.length = ts.length
      · rw [decide_eq_true el]
        refine iteF ?_
        -- all there?
        refine ⟨_, rfl, x, dx, _, rfl, s1 _ _ hx, x, ts, rfl, fa.mono s1, fun pg ng => ⟨pg, rfl, ⟨_, SqL.of upd_same⟩, fun D nD => ?_⟩⟩
        obtain ⟨H2, e2⟩ : ∃ X, X = upd H1 pg (.lst ((ts.map Prod.fst).map V.str)) := ⟨_, rfl⟩
        have s12 : Same H1 H2 := e2 ▸ same_new ng
        have a2 : H2 pg = some (.lst ((ts.map Prod.fst).map V.str)) := by rw [e2]; exact upd_same
        have s2 := s1.trans s12
        rw [← e2] at nD ⊢
        refine lc_it walk_list (fun i H' => Same H2 H' ∧ H' D = some (.lst ((((ts.map Prod.fst).take i).map fun a => (valV kvs (Sum.inr a)).isSome).map V.bl))) ⟨same_new nD, upd_same⟩ (fun i H' _ z => SqL.of (z.1 _ _ a2)) ?_ ?_
        · intro i y Ha Hb hi ⟨q1, q2⟩ ⟨eb, ex⟩
          subst eb
          obtain ⟨a, ha, rfl⟩ := map_of ex
          refine ⟨rfl, ?_⟩
          refine ⟨_, rfl, _, rfl, q, _, rfl, DGet.k (k := Sum.inr a) (q1 _ _ (s2 _ _ hq)), _, q2, ?_, Same.put q1 nD, ?_⟩
          · rw [List.length_map, List.length_map, List.length_take, List.length_map]
            omega
          · rw [upd_same, take_more ha, List.map_append, List.map_append] <;> rfl
        · intro H3 ⟨q1, q2⟩
          have s3 := s2.trans q1
          rw [List.length_map, List.take_length] at q2
          refine ⟨D, _, rfl, SqL.of q2, _, rfl, ?_⟩
          have eall : (((ts.map Prod.fst).map fun a => (valV kvs (Sum.inr a)).isSome)).all id = (ts.map Prod.fst).all fun a => (valV kvs (Sum.inr a)).isSome := by rw [List.all_map] <;> rfl
          rw [eall]
          cases ea : (ts.map Prod.fst).all fun a => (valV kvs (Sum.inr a)).isSome with
          | false =>
            refine iteT (out1 (H := H) ?_ s3)
            have e : feE CS ts n (some kvs) = some (.e1 CS "place" .non) := by
              unfold feE
              rw [feas_some, if_neg (fun z => z el), if_pos ea] <;> rfl
            rw [e] at k
            exact k
          | true =>
            refine iteF ?_
            have there : ∀ a ∈ ts.map Prod.fst, ∃ v, valV kvs (Sum.inr a) = some v := fun a ha => Option.isSome_iff_exists.mp (List.all_eq_true.mp ea a ha)
            -- one by one
            refine ⟨_, rfl, x, dx, _, rfl, s3 _ _ hx, x, ts, rfl, fa.mono s3, fun ph nh => ⟨ph, rfl, ⟨_, SqL.of upd_same⟩, ?_⟩⟩
            obtain ⟨H4, e4⟩ : ∃ X, X = upd H3 ph (.lst ((ts.map Prod.fst).map V.str)) := ⟨_, rfl⟩
            have s4 : Same H H4 := s3.trans (e4 ▸ same_new nh)
            have a4 : H4 ph = some (.lst ((ts.map Prod.fst).map V.str)) := by rw [e4]; exact upd_same
            rw [← e4]
            refine for_it walk_list (fun j σ' H' => (∃ u3, σ' = [some (.ref x), some (.int n), some (.ref q), u3, none, none]) ∧ Same H4 H' ∧ ((ts.map Prod.fst).take j).find? (badKey kvs) = none)
              ⟨⟨none, rfl⟩, Same.refl, rfl⟩ (fun j σ' H' _ z => SqL.of (z.2.1 _ _ a4)) ?_ ?_
            · intro j y σ' Ha Hb hj ⟨⟨u3, e⟩, sa, good⟩ ⟨eb, ex⟩
              subst e
              subst eb
              obtain ⟨a, ha, rfl⟩ := map_of ex
              obtain ⟨v, hv⟩ := there a (List.mem_of_getElem? ha)
              have s0 := s4.trans sa
              refine ⟨_, rfl, _, rfl, q, v, rfl, by have z := DGet.k (k := Sum.inr a) (s0 _ _ hq); rw [hv] at z; exact z, v, 0, rfl, (dat _ (valV_mem hv)).mono s0, _, rfl, ?_⟩
              cases eg : isGe v 0 with
              | true => exact iteF ⟨⟨_, rfl⟩, sa, find_more ha good (by unfold badKey; rw [hv]; show (!isGe v 0) = false; rw [eg] <;> rfl)⟩
              | false =>
                refine iteT ⟨_, rfl, out1 (H := H) ?_ s0⟩
                have e : feE CS ts n (some kvs) = some (.e1 CS "place" (.str a)) := by
                  unfold feE
                  rw [feas_some, if_neg (fun z => z el), if_neg (by rw [ea]; decide), find_at ha good (by unfold badKey; rw [hv]; show (!isGe v 0) = true; rw [eg] <;> rfl)] <;> rfl
                rw [e] at k
                exact k
            · intro σ' H5 ⟨⟨u3, e⟩, sa, good⟩
              subst e
              rw [List.length_map, List.take_length] at good
              have s5 := s4.trans sa
              have nums : ∀ a ∈ ts.map Prod.fst, valV kvs (Sum.inr a) = some (.int (szOf kvs a)) := fun a ha => by
                obtain ⟨v, hv⟩ := there a ha
                have g := List.find?_eq_none.mp good a ha
                unfold badKey at g
                rw [hv] at g
                unfold szOf
                rw [hv]
                cases v with
                | int i => rfl
                | _ => exact absurd rfl g
              refine ⟨_, rfl, _, rfl, _, rfl, x, q, n, ts, kvs, rfl, fa.mono s5, o, s5 _ _ hq, nums, fun F H6 s56 nF aF => ?_⟩
              have s6 := s5.trans s56
              have nF0 := s5.free nF
              refine ⟨F, _, aF, trivial, fun od => ⟨_, rfl, F, od, rfl, .inl ⟨_, upd_same, ?_⟩⟩⟩
              obtain ⟨pls, epl⟩ : ∃ l, l = (("" : Str) :: ts.map Prod.fst) := ⟨_, rfl⟩
              rw [← epl] at aF ⊢
              have ek : feE CS ts n (some kvs) = ((pls.find? fun p => decide (resid ts n (szOf kvs) p < 0)).map V.str).map fun v => .e1 CS "place" v := by
                unfold feE
                rw [feas_some, if_neg (fun z => z el), if_neg (by rw [ea]; decide), good, epl]
              rw [ek] at k
              refine for_it walk_keys (fun j σ' H' => (∃ u5, σ' = [some (.ref x), some (.int n), some (.ref q), u3, some (.ref F), u5]) ∧ Same H H' ∧ H' F = some (.frz od (.dK (tblI pls (resid ts n (szOf kvs))))) ∧ (pls.take j).find? (fun p => decide (resid ts n (szOf kvs) p < 0)) = none)
                ⟨⟨none, rfl⟩, Same.put s6 nF0, upd_same, rfl⟩ (fun j σ' H' _ z => z.2.2.1) ?_ ?_
              · intro j y σ' Ha Hb hj ⟨⟨u5, e⟩, sa, aF', good'⟩ ⟨eb, kk, vv, hk, ey⟩
                subst e
                subst eb
                subst ey
                obtain ⟨a, ha, rfl, rfl⟩ := tblI_at hk
                refine ⟨_, rfl, _, rfl, F, .int (resid ts n (szOf kvs) a), rfl, .inl ⟨_, Sum.inr a, .inr ⟨od, aF'⟩, rfl, (tblI_val (List.mem_of_getElem? ha)).symm⟩, _, _, rfl, rfl, _, rfl, ?_⟩
                by_cases neg : resid ts n (szOf kvs) a < 0
                · rw [decide_eq_true neg]
                  refine iteT ⟨_, rfl, out1 (H := H) ?_ sa⟩
                  rw [find_at ha good' (decide_eq_true neg)] at k
                  exact k
                · rw [decide_eq_false neg]
                  exact iteF ⟨⟨_, rfl⟩, sa, aF', find_more ha good' (decide_eq_false neg)⟩
              · intro σ' H7 ⟨⟨u5, e⟩, sa, aF', good'⟩
                rw [tblI_len, List.take_length] at good'
                rw [good'] at k
                exact ⟨aF', k _ (Same.put sa nF0)⟩
      · rw [decide_eq_false el]
        show if true = true then _ else _
        rw [if_pos rfl]
        refine out1 (H := H) ?_ s1
        have e : feE CS ts n (some kvs) = some (.e1 CS "place" .non) := by
          unfold feE
          rw [feas_some, if_pos el] <;> rfl
        rw [e] at k
        exact k
end
end FT


namespace FT
open PySem L2 TL ClX
theorem feE_none {CS : Addr} {ts : List (Str × Str)} {n : Int} : feE CS ts n none ≠ none := fun h => nomatch h
theorem feE_ok {CS : Addr} {ts : List (Str × Str)} {n : Int} {kvs : List (Key × V)} (h : feE CS ts n (some kvs) = none) : kvs.length = ts.length ∧ (∀ a ∈ ts.map Prod.fst, valV kvs (Sum.inr a) = some (.int (szOf kvs a)) ∧ 0 ≤ szOf kvs a) ∧ ∀ p ∈ (("" : Str) :: ts.map Prod.fst), 0 ≤ resid ts n (szOf kvs) p := by
  unfold feE at h
  rw [feas_some] at h
  by_cases el : kvs.length = ts.length
  · rw [if_neg (fun z => z el)] at h
    cases ea : (ts.map Prod.fst).all fun a => (valV kvs (Sum.inr a)).isSome with
    | false =>
      rw [if_pos ea] at h
      cases h
    | true =>
      rw [if_neg (by rw [ea]; decide)] at h
      cases eb : (ts.map Prod.fst).find? (badKey kvs) with
      | some a =>
        rw [eb] at h
        cases h
      | none =>
        rw [eb] at h
        refine ⟨el, fun a ha => ?_, fun p hp => ?_⟩
        · obtain ⟨v, hv⟩ := Option.isSome_iff_exists.mp (List.all_eq_true.mp ea a ha)
          have g := List.find?_eq_none.mp eb a ha
          unfold badKey at g
          rw [hv] at g
          unfold szOf
          rw [hv]
          cases v with
          | int i =>
            refine ⟨rfl, ?_⟩
            show 0 ≤ i
            have g' : ¬ (!decide ((0 : Int) ≤ i)) = true := g
            by_cases z : (0 : Int) ≤ i
            · exact z
            · rw [decide_eq_false z] at g'
              exact absurd rfl g'
          | _ => exact absurd rfl g
        · cases ef : ((("" : Str) :: ts.map Prod.fst).find? fun p => decide (resid ts n (szOf kvs) p < 0)) with
          | some p =>
            rw [ef] at h
            cases h
          | none =>
            have z := List.find?_eq_none.mp ef p hp
            have z' : ¬ resid ts n (szOf kvs) p < 0 := fun q => z (decide_eq_true q)
            omega
  · rw [if_pos el] at h
    cases h
def kvsOf (o : Option (List (Key × V))) : List (Key × V) := o.getD []
def numV (v : V) : Int := match v with
  | .int n => n
  | _ => 0
/-- what amounts raises -/
def amE (CU CS : Addr) (ts : List (Str × Str)) (uv : V) (o1 o2 : Option (List (Key × V))) : Option Err := (szE CU CS ts uv o1).or (feE CS ts (numV uv) o2)
def amt (o1 o2 : Option (List (Key × V))) (a : Str) : Int := szOf (kvsOf o2) a - szOf (kvsOf o1) a
theorem szE_feE {CU CS : Addr} {ts : List (Str × Str)} {uv : V} {o : Option (List (Key × V))} (h : szE CU CS ts uv o = none) : ∃ n, uv = .int n ∧ 1 ≤ n ∧ n ≤ 10 ^ 30 ∧ feE CS ts n o = none := by
  unfold szE at h
  by_cases u : usersOk uv (10 ^ 30) = true
  · rw [if_pos u] at h
    cases uv with
    | int n =>
      have u' : (decide (1 ≤ n) && decide (n ≤ 10 ^ 30)) = true := u
      rw [Bool.and_eq_true, decide_eq_true_eq, decide_eq_true_eq] at u'
      exact ⟨n, rfl, u'.1, u'.2, h⟩
    | _ => cases u
  · rw [if_neg u] at h
    cases h
def absI (z : Int) : Int := if z < 0 then -z else z
def spAmtOf (CF : Addr) : Sp := fun vs H Q _ => ∃ (x q1 q2 : Addr) (ts : List (Str × Str)) (k1 k2 : List (Key × V)), vs = [.ref x, .ref q1, .ref q2] ∧ FAt CF H x ts ∧ TreeOk ts ∧ H q1 = some (.dK k1) ∧ H q2 = some (.dK k2) ∧
  (∀ a ∈ ts.map Prod.fst, valV k1 (Sum.inr a) = some (.int (szOf k1 a))) ∧ (∀ a ∈ ts.map Prod.fst, valV k2 (Sum.inr a) = some (.int (szOf k2 a))) ∧
  ∀ p H', Same H H' → H p = none → H' p = some (.dK (tblI (ts.map Prod.fst) fun a => szOf k2 a - szOf k1 a)) → Q (.ref p) H'
def spAmounts (K : PySem.W.Frag) (CF CU CS : Addr) : Sp := fun vs H Q E => ∃ (x : Addr) (uv sv nv : V) (ts : List (Str × Str)) (o1 o2 : Option (List (Key × V))), vs = [.ref x, uv, sv, nv] ∧ FAt CF H x ts ∧ TreeOk ts ∧ IsDat K H uv ∧ SzV K H sv o1 ∧ SzV K H nv o2 ∧
  match amE CU CS ts uv o1 o2 with
  | none => ∀ p H', Same H H' → H p = none → H' p = some (.dK (tblI (ts.map Prod.fst) (amt o1 o2))) → Q (.ref p) H'
  | some e => Out H E e
def spLeast (K : PySem.W.Frag) (CF CU CS : Addr) : Sp := fun vs H Q E => ∃ (x : Addr) (uv sv nv : V) (ts : List (Str × Str)) (o1 o2 : Option (List (Key × V))), vs = [.ref x, uv, sv, nv] ∧ FAt CF H x ts ∧ TreeOk ts ∧ IsDat K H uv ∧ SzV K H sv o1 ∧ SzV K H nv o2 ∧
  match amE CU CS ts uv o1 o2 with
  | none => ∀ H', Same H H' → Q (.int ((ts.map Prod.fst).map fun a => absI (amt o1 o2 a)).sum) H'
  | some e => Out H E e
section
variable {P : Program} {w : World} {K : PySem.W.Frag} {mg : Str → Option Value} {base : Heap}
theorem scAmtOf : FnScope ["forest", "sizes", "new", "name"] ["forest", "sizes", "new"] (defScope s_amounts_of) := ⟨rfl, rfl, rfl, by decide +kernel, rfl, by decide +kernel, by decide +kernel⟩
theorem ok_amtOf {f CF p1 g1 : Addr} {fd fd1 : FuncData} (F : Fun K "amounts_of" "amounts_of" s_amounts_of f fd) (O : FoC K CF) (L1 : Pr1 P w K mg base CF "flags" (spFFlags CF) p1 g1 fd1) :
    FnOk P w K mg base CX0 3 f fd ["forest", "sizes", "new"] (spAmtOf CF) := by
  refine F.ok scAmtOf (fun vs H Q E h => ?_) (fun cdv A outer s H vs Q E hr h => ?_)
  · obtain ⟨x, q1, q2, ts, k1, k2, rfl, _⟩ := h
    rfl
  · obtain ⟨x, q1, q2, ts, k1, k2, rfl, fa, o, h1, h2, n1, n2, k⟩ := h
    have hu := hu_of hr
    have big : 1000 ≤ sizeLine := by decide
    have few := o.few
    refine ⟨_, pss_one (ps_ret (pe_dc (own := [("name", 3)]) (g := gName 3) (tt := tYes) rfl scAmtOf.nd (pi_list (pe_prop (pv 0) O.cl L1.pr L1.fn hr L1.bn .nil pass0 (by rfl)))
        (blkOk_by (N := ["forest", "sizes", "new", "name"]) (sc := defScope s_amounts_of) (by decide +kernel))
        (fun _ _ _ _ _ => pg_name (i := 3) scAmtOf.nd rfl (Or.inl rfl)) (fun _ _ _ _ _ => pts_nil) (fun _ _ _ _ _ => pv 3)
        (fun _ _ _ _ _ => pe_op op_sub (pe_dget hu (pv 2) (pv 3) (fun _ _ => rfl)) (pe_dget hu (pv 1) (pv 3) (fun _ _ => rfl))))), ?_⟩
    obtain ⟨dx, dq, hx, hd⟩ := id fa
    refine ⟨_, rfl, x, dx, _, rfl, hx, x, ts, rfl, fa, fun pf nf => ⟨pf, rfl, ⟨_, SqL.of upd_same⟩, fun D nD => ?_⟩⟩
    obtain ⟨H1, e1⟩ : ∃ X, X = upd H pf (.lst ((ts.map Prod.fst).map V.str)) := ⟨_, rfl⟩
    have s1 : Same H H1 := e1 ▸ same_new nf
    have a1 : H1 pf = some (.lst ((ts.map Prod.fst).map V.str)) := by rw [e1]; exact upd_same
    rw [← e1] at nD ⊢
    refine dc_it walk_list (fun i H' => Same H1 H' ∧ H' D = some (.dK (tblI ((ts.map Prod.fst).take i) fun a => szOf k2 a - szOf k1 a))) ⟨same_new nD, upd_same⟩ (fun i H' _ z => SqL.of (z.1 _ _ a1)) ?_ ?_
    · intro i y Ha Hb hi ⟨z1, z2⟩ ⟨eb, ex⟩
      subst eb
      obtain ⟨a, ha, rfl⟩ := map_of ex
      have ma := List.mem_of_getElem? ha
      have fresh : a ∉ (ts.map Prod.fst).take i := fun hm => by
        obtain ⟨j, hj⟩ := List.mem_iff_getElem?.mp hm
        have jl := (List.getElem?_eq_some_iff.mp hj).1
        rw [List.length_take] at jl
        rw [List.getElem?_take, if_pos (by omega)] at hj
        have := (List.getElem?_inj (by omega) o.nd).mp (hj.trans ha.symm)
        omega
      refine ⟨rfl, ?_⟩
      refine ⟨_, rfl, _, rfl, _, rfl, q2, .int (szOf k2 a), rfl, ?_, _, rfl, _, rfl, q1, .int (szOf k1 a), rfl, ?_, _, _, rfl, rfl, _, Sum.inr a, rfl, z2, ?_, Same.put z1 nD, ?_⟩
      · have z := DGet.k (k := Sum.inr a) (z1 _ _ (s1 _ _ h2))
        rw [n2 a ma] at z
        exact z
      · have z := DGet.k (k := Sum.inr a) (z1 _ _ (s1 _ _ h1))
        rw [n1 a ma] at z
        exact z
      · rw [tblI_len, List.length_take, List.length_map]
        omega
      · rw [upd_same, tblI_snoc fresh rfl, take_more ha]
    · intro H3 ⟨z1, z2⟩
      rw [List.length_map, List.take_length] at z2
      exact k D H3 (s1.trans z1) (s1.free nD) z2
end
end FT


namespace FT
open PySem L2 TL ClX LiI
/-! ### crossings -/
def crs (g : Str → Int) (ts : List (Str × Str)) : List (Str × Str × Int) := ts.flatMap fun p => if 0 < g p.1 then [(p.2, p.1, g p.1)] else if g p.1 < 0 then [(p.1, p.2, - g p.1)] else []
def EdG (H : Hp) (rs : List Addr) (es : List (Str × Str × Int)) : Prop := Paired (fun (r : Addr) (e : Str × Str × Int) => H r = some (.tup [.str e.1, .str e.2.1, .int e.2.2])) rs es
theorem EdG.mono {H H' : Hp} (s : Same H H') : ∀ {rs : List Addr} {es : List (Str × Str × Int)}, EdG H rs es → EdG H' rs es
  | _, _, .nil => .nil
  | _, _, .cons h t => .cons (s _ _ h) (EdG.mono s t)
theorem EdG.push {H : Hp} {D : Addr} {xs : List V} {o : HO} (e : H D = some (.lst xs)) : ∀ {rs : List Addr} {es : List (Str × Str × Int)}, EdG H rs es → EdG (upd H D o) rs es
  | _, _, .nil => .nil
  | _, _, .cons h t => .cons (by rw [upd_ne (ne_of h e (by intro z; cases z))]; exact h) (EdG.push e t)
theorem EdG.snoc {H : Hp} {r : Addr} {e : Str × Str × Int} (h : H r = some (.tup [.str e.1, .str e.2.1, .int e.2.2])) : ∀ {rs : List Addr} {es : List (Str × Str × Int)}, EdG H rs es → EdG H (rs ++ [r]) (es ++ [e])
  | _, _, .nil => .cons h .nil
  | _, _, .cons q t => .cons q (EdG.snoc h t)
theorem EdG.len {H : Hp} : ∀ {rs : List Addr} {es : List (Str × Str × Int)}, EdG H rs es → rs.length = es.length
  | _, _, .nil => rfl
  | _, _, .cons _ t => congrArg (· + 1) (EdG.len t)
theorem EdG.at_ {H : Hp} {rs : List Addr} {es : List (Str × Str × Int)} (p : EdG H rs es) {i : Nat} {r : Addr} (h : rs[i]? = some r) : ∃ e, es[i]? = some e ∧ H r = some (.tup [.str e.1, .str e.2.1, .int e.2.2]) := LiI.paired_get p h
theorem crs_snoc (g : Str → Int) (ts : List (Str × Str)) (p : Str × Str) : crs g (ts ++ [p]) = crs g ts ++ (if 0 < g p.1 then [(p.2, p.1, g p.1)] else if g p.1 < 0 then [(p.1, p.2, - g p.1)] else []) := by
  unfold crs
  rw [List.flatMap_append, List.flatMap_cons, List.flatMap_nil, List.append_nil]
theorem crs_len (g : Str → Int) : ∀ ts : List (Str × Str), (crs g ts).length ≤ ts.length
  | [] => Nat.le_refl _
  | p :: ts => by
    unfold crs
    rw [List.flatMap_cons, List.length_append, List.length_cons]
    have i := crs_len g ts
    unfold crs at i
    have : (if 0 < g p.1 then [(p.2, p.1, g p.1)] else if g p.1 < 0 then [(p.1, p.2, - g p.1)] else []).length ≤ 1 := by
      split
      · exact Nat.le_refl _
      · split
        · exact Nat.le_refl _
        · exact Nat.zero_le _
    omega
def spCross (CF : Addr) : Sp := fun vs H Q _ => ∃ (x q : Addr) (ts : List (Str × Str)) (g : Str → Int), vs = [.ref x, .ref q] ∧ FAt CF H x ts ∧ TreeOk ts ∧ H q = some (.dK (tblI (ts.map Prod.fst) g)) ∧
  ∀ p rs H', Same H H' → H p = none → H' p = some (.lst (rs.map V.ref)) → EdG H' rs (crs g ts) → Q (.ref p) H'
section
variable {P : Program} {w : World} {K : PySem.W.Frag} {mg : Str → Option Value} {base : Heap}
abbrev NCr : List Str := ["forest", "changed", "found", "name", "above"]
theorem scCr : FnScope NCr ["forest", "changed"] (defScope s_crossings) := ⟨rfl, rfl, rfl, by decide +kernel, rfl, by decide +kernel, by decide +kernel⟩
theorem ok_cross {f CF p1 g1 : Addr} {fd fd1 : FuncData} (F : Fun K "crossings" "crossings" s_crossings f fd) (O : FoC K CF) (L1 : Pr1 P w K mg base CF "flags" (spFFlags CF) p1 g1 fd1) : FnOk P w K mg base CX0 3 f fd ["forest", "changed"] (spCross CF) := by
  refine F.ok scCr (fun vs H Q E h => ?_) (fun cdv A outer s H vs Q E hr h => ?_)
  · obtain ⟨x, q, ts, g, rfl, _⟩ := h
    rfl
  · obtain ⟨x, q, ts, g, rfl, fa, o, hq, k⟩ := h
    have hu := hu_of hr
    have nd := scCr.nd
    have big : 1000 ≤ sizeLine := by decide
    have few := o.few
    refine ⟨_, pss_cons (ps_set (i := 2) nd rfl (.inl rfl) (pe_lst pa_nil))
      (pss_cons (ps_for PassesOwn.never rfl (pi_list (pe_prop (pv 0) O.cl L1.pr L1.fn hr L1.bn .nil pass0 (by rfl))) (pg_name (i := 3) nd rfl (.inl rfl))
        (pss_cons (ps_set (i := 4) nd rfl (.inl rfl) (pe_dget hu (pe_fld (pv 0) rfl) (pv 3) (fun _ _ => rfl)))
        (pss_cons (ps_if (pt_cmpR op_gt (pe_dget hu (pv 1) (pv 3) (fun _ _ => rfl)) pe_int (nomark _)) (pss_one (ps_expr (pe_bm PySem.F.plainAttrs_list PySem.F.slot_list_append PySem.F.type_list_append mt_append (pv 2) (pa_cons (pe_tup (pa_cons (pv 4) (pa_cons (pv 3) (pa_cons (pe_dget hu (pv 1) (pv 3) (fun _ _ => rfl)) pa_nil)))) pa_nil)))) pss_nil)
        (pss_one (ps_if (pt_cmpR op_lt (pe_dget hu (pv 1) (pv 3) (fun _ _ => rfl)) pe_int (nomark _)) (pss_one (ps_expr (pe_bm PySem.F.plainAttrs_list PySem.F.slot_list_append PySem.F.type_list_append mt_append (pv 2) (pa_cons (pe_tup (pa_cons (pv 3) (pa_cons (pv 4) (pa_cons (pe_un un_neg (pe_dget hu (pv 1) (pv 3) (fun _ _ => rfl))) pa_nil)))) pa_nil)))) pss_nil)))))
      (pss_one (ps_ret (pv 2)))), ?_⟩
    obtain ⟨dx, dq, hx, hd⟩ := id fa
    refine ⟨by show 0 ≤ sizeLine; omega, fun D nD => ?_⟩
    obtain ⟨H1, e1⟩ : ∃ X, X = upd H D (.lst []) := ⟨_, rfl⟩
    have s1 : Same H H1 := e1 ▸ same_new nD
    have a1 : H1 D = some (.lst []) := by rw [e1]; exact upd_same
    rw [← e1]
    refine ⟨_, rfl, x, dx, _, rfl, s1 _ _ hx, x, ts, rfl, fa.mono s1, fun pf npf => ⟨pf, rfl, ⟨_, SqL.of upd_same⟩, ?_⟩⟩
    obtain ⟨H2, e2⟩ : ∃ X, X = upd H1 pf (.lst ((ts.map Prod.fst).map V.str)) := ⟨_, rfl⟩
    have s12 : Same H1 H2 := e2 ▸ same_new npf
    have a2 : H2 pf = some (.lst ((ts.map Prod.fst).map V.str)) := by rw [e2]; exact upd_same
    have pfD : pf ≠ D := (ne_of_none a1 npf).symm
    rw [← e2]
    refine for_it walk_list (fun j σ' H' => (∃ u3 u4, σ' = [some (.ref x), some (.ref q), some (.ref D), u3, u4]) ∧ Same H H' ∧ H' pf = some (.lst ((ts.map Prod.fst).map V.str)) ∧ ∃ rs : List Addr, H' D = some (.lst (rs.map V.ref)) ∧ EdG H' rs (crs g (ts.take j)))
      ⟨⟨none, none, rfl⟩, s1.trans s12, a2, [], s12 _ _ a1, .nil⟩ (fun j σ' H' _ z => SqL.of z.2.2.1) ?_ ?_
    · intro j y σ' Ha Hb hj ⟨⟨u3, u4, e⟩, sa, apf, rs, hD, ed⟩ ⟨eb, ex⟩
      subst e
      subst eb
      obtain ⟨a, ha, rfl⟩ := map_of ex
      obtain ⟨⟨a', pa⟩, hp, rfl⟩ := Option.map_eq_some_iff.mp (show (ts[j]?).map Prod.fst = some a by rw [← List.getElem?_map]; exact ha)
      have mp := List.mem_of_getElem? hp
      have mk : a' ∈ ts.map Prod.fst := List.mem_map.mpr ⟨_, mp, rfl⟩
      have ep := par_of o.nd mp
      have dg : ∀ {H'}, Same H H' → DGet H' q (.str a') (some (.int (g a'))) := fun s => by
        have z := DGet.k (k := Sum.inr a') (s _ _ hq)
        rw [tblI_val mk] at z
        exact z
      have dp : DGet Hb dq (.str a') (some (.str pa)) := by
        have z := DGet.k (k := Sum.inr a') (sa _ _ hd)
        rw [val_prs, ep] at z
        exact z
      have lrs := ed.len
      have lc := crs_len g (ts.take j)
      rw [List.length_take] at lc
      have more := take_more hp
      have put : ∀ (e3 : Str × Str × Int) (tq : Addr), Hb tq = none → crs g (ts.take (j + 1)) = crs g (ts.take j) ++ [e3] → ∃ (l : Addr) (xs : List V) (y : V), V.ref D = .ref l ∧ [V.ref tq] = [y] ∧ (upd Hb tq (.tup [.str e3.1, .str e3.2.1, .int e3.2.2])) l = some (.lst xs) ∧ xs.length < sizeLine ∧
          (Same H (upd (upd Hb tq (.tup [.str e3.1, .str e3.2.1, .int e3.2.2])) l (.lst (xs ++ [y]))) ∧ (upd (upd Hb tq (.tup [.str e3.1, .str e3.2.1, .int e3.2.2])) l (.lst (xs ++ [y]))) pf = some (.lst ((ts.map Prod.fst).map V.str)) ∧
            ∃ rs : List Addr, (upd (upd Hb tq (.tup [.str e3.1, .str e3.2.1, .int e3.2.2])) l (.lst (xs ++ [y]))) D = some (.lst (rs.map V.ref)) ∧ EdG (upd (upd Hb tq (.tup [.str e3.1, .str e3.2.1, .int e3.2.2])) l (.lst (xs ++ [y]))) rs (crs g (ts.take (j + 1)))) := fun e3 tq nt ec => by
        have st : Same Hb (upd Hb tq (.tup [.str e3.1, .str e3.2.1, .int e3.2.2])) := same_new nt
        refine ⟨D, _, _, rfl, rfl, st _ _ hD, by rw [List.length_map]; omega, (sa.trans st).put nD, by rw [upd_ne pfD]; exact st _ _ apf, rs ++ [tq], by rw [upd_same, List.map_append] <;> rfl, ?_⟩
        rw [ec]
        exact EdG.push (st _ _ hD) (EdG.snoc upd_same (ed.mono st))
      refine ⟨_, rfl, x, CF, dx, _, .ref dq, rfl, sa _ _ hx, O.cl, O.nA, rfl, _, rfl, dq, .str pa, rfl, dp, ?_⟩
      refine ⟨_, rfl, _, rfl, q, .int (g a'), rfl, dg sa, _, _, rfl, rfl, _, rfl, ?_⟩
      have ecs := crs_snoc g (ts.take j) (a', pa)
      rw [← more] at ecs
      by_cases pos : 0 < g a'
      · rw [decide_eq_true pos]
        rw [if_pos pos] at ecs
        refine iteT ⟨_, rfl, .inl ⟨rfl, _, SqL.of hD⟩, _, rfl, _, rfl, _, rfl, _, rfl, q, .int (g a'), rfl, dg sa, by show 3 ≤ sizeLine; omega, fun tq nt => ?_⟩
        obtain ⟨l, xs, y, z1, z2, z3, z4, z5, z6, z7⟩ := put (pa, a', g a') tq nt ecs
        refine ⟨l, xs, y, z1, z2, z3, z4, ?_⟩
        refine ⟨_, rfl, _, rfl, q, .int (g a'), rfl, dg z5, _, _, rfl, rfl, _, rfl, ?_⟩
        rw [decide_eq_false (show ¬ g a' < 0 by omega)]
        exact iteF ⟨⟨_, _, rfl⟩, z5, z6, z7⟩
      · rw [decide_eq_false pos]
        rw [if_neg pos] at ecs
        refine iteF ⟨_, rfl, _, rfl, q, .int (g a'), rfl, dg sa, _, _, rfl, rfl, _, rfl, ?_⟩
        by_cases neg : g a' < 0
        · rw [decide_eq_true neg]
          rw [if_pos neg] at ecs
          refine iteT ⟨_, rfl, .inl ⟨rfl, _, SqL.of hD⟩, _, rfl, _, rfl, _, rfl, _, rfl, q, .int (g a'), rfl, dg sa, _, rfl, by show 3 ≤ sizeLine; omega, fun tq nt => ?_⟩
          obtain ⟨l, xs, y, z1, z2, z3, z4, z5, z6, z7⟩ := put (a', pa, - g a') tq nt ecs
          exact ⟨l, xs, y, z1, z2, z3, z4, ⟨_, _, rfl⟩, z5, z6, z7⟩
        · rw [decide_eq_false neg]
          rw [if_neg neg, List.append_nil] at ecs
          exact iteF ⟨⟨_, _, rfl⟩, sa, apf, rs, hD, by rw [ecs]; exact ed⟩
    · intro σ' H3 ⟨⟨u3, u4, e⟩, sa, apf, rs, hD, ed⟩
      subst e
      rw [List.length_map, List.length_map, List.take_length] at ed
      exact ⟨_, rfl, k D rs H3 sa nD hD ed⟩
end
end FT


/-! lists of pairs of a text and a value; dict(..) of them. -/
namespace FT
open PySem L2 TL ClX
/-- pairs (a, g a) at the addresses rs -/
def PrG (g : Str → V) (H : Hp) (rs : List Addr) (l : List Str) : Prop := Paired (fun (r : Addr) (a : Str) => H r = some (.tup [.str a, g a])) rs l
theorem PrG.imp {g : Str → V} {H H' : Hp} (m : ∀ r (a : Str), H r = some (.tup [.str a, g a]) → H' r = some (.tup [.str a, g a])) : ∀ {rs : List Addr} {l : List Str}, PrG g H rs l → PrG g H' rs l
  | _, _, .nil => .nil
  | _, _, .cons h t => .cons (m _ _ h) (PrG.imp m t)
theorem PrG.mono {g : Str → V} {H H' : Hp} {rs : List Addr} {l : List Str} (s : Same H H') (p : PrG g H rs l) : PrG g H' rs l := p.imp fun r a e => s _ _ e
theorem PrG.push {g : Str → V} {H : Hp} {rs : List Addr} {l : List Str} {D : Addr} {xs : List V} {o : HO} (e : H D = some (.lst xs)) (p : PrG g H rs l) : PrG g (upd H D o) rs l := p.imp fun r a q => by
  rw [upd_ne (ne_of q e (by intro z; cases z))]
  exact q
theorem PrG.snoc {g : Str → V} {H : Hp} {r : Addr} {a : Str} (h : H r = some (.tup [.str a, g a])) : ∀ {rs : List Addr} {l : List Str}, PrG g H rs l → PrG g H (rs ++ [r]) (l ++ [a])
  | _, _, .nil => .cons h .nil
  | _, _, .cons q t => .cons q (PrG.snoc h t)
theorem PrG.len {g : Str → V} {H : Hp} : ∀ {rs : List Addr} {l : List Str}, PrG g H rs l → rs.length = l.length
  | _, _, .nil => rfl
  | _, _, .cons _ t => congrArg (· + 1) (PrG.len t)
theorem PrG.at_ {g : Str → V} {H : Hp} {rs : List Addr} {l : List Str} (p : PrG g H rs l) {i : Nat} {r : Addr} (h : rs[i]? = some r) : ∃ a, l[i]? = some a ∧ H r = some (.tup [.str a, g a]) := LiI.paired_get p h
/-- as dict(..) asks it -/
theorem PrG.kvs {K : PySem.W.Frag} {g : Str → V} {H : Hp} : ∀ {rs : List Addr} {l : List Str}, PrG g H rs l → Paired (fun (p : Addr) (kv : Key × V) => SqT K H p [kV kv.1, kv.2]) rs (kvT (l.map fun a => (a, g a)))
  | _, _, .nil => .nil
  | _, _, .cons h t => .cons (.inl (.inl h)) (PrG.kvs t)
theorem merge_app : ∀ (more : List (Str × V)) (acc : List (Str × V)), ((acc ++ more).map Prod.fst).Nodup → mergeK (kvT acc) (kvT more) = kvT (acc ++ more)
  | [], acc, _ => by rw [List.append_nil] <;> rfl
  | p :: more, acc, nd => by
    have e : acc ++ p :: more = (acc ++ [p]) ++ more := by rw [List.append_assoc] <;> rfl
    have fresh : p.1 ∉ acc.map Prod.fst := fun h => by
      rw [List.map_append] at nd
      obtain ⟨_, _, d⟩ := List.nodup_append.mp nd
      exact d _ h _ (List.mem_cons_self ..) rfl
    show mergeK (putK (kvT acc) (Sum.inr p.1) p.2) (kvT more) = _
    rw [kvT_put fresh, e]
    rw [e] at nd
    exact merge_app more _ nd
theorem merge_nd {l : List (Str × V)} (nd : (l.map Prod.fst).Nodup) : mergeK [] (kvT l) = kvT l := merge_app l [] nd
theorem map_fst (l : List Str) (g : Str → V) : (l.map fun a => (a, g a)).map Prod.fst = l := by rw [List.map_map]; exact List.map_id _
theorem put_old {t : List (Str × Str)} {f z z' : Str} (n : f ∉ t.map Prod.fst) : putK (prs (t ++ [(f, z)])) (Sum.inr f) (V.str z') = prs (t ++ [(f, z')]) := by
  have key : ∀ t : List (Str × Str), f ∉ t.map Prod.fst → ((t.map fun p => (p.1, V.str p.2)).map fun p => if p.1 = f then (p.1, V.str z') else p) = t.map fun p => (p.1, V.str p.2) := by
    intro t
    induction t with
    | nil => intro _; rfl
    | cons p t ih =>
      intro n
      rw [List.map_cons, List.mem_cons] at n
      rw [List.map_cons, List.map_cons, ih fun h => n (.inr h), if_neg (fun e => n (.inl e.symm))]
  unfold prs
  rw [kvT_putT]
  unfold putT
  rw [prs_fst, if_pos (by rw [List.map_append]; exact List.mem_append_right _ (List.mem_cons_self ..)), List.map_append, List.map_append, List.map_append, key t n]
  congr 2
  show [if f = f then (f, V.str z') else (f, V.str z)] = [(f, V.str z')]
  rw [if_pos rfl]
/-- the place of an item -/
theorem idx_at {l : List Str} {i : Nat} {a : Str} (nd : l.Nodup) (h : l[i]? = some a) : l.idxOf a = i := by
  have m : a ∈ l := List.mem_of_getElem? h
  have lt := List.idxOf_lt_length_of_mem m
  have e : l[l.idxOf a]? = some a := by rw [List.getElem?_eq_getElem lt, List.getElem_idxOf lt]
  exact (List.getElem?_inj lt nd).mp (e.trans h.symm)
/-- a tree from the order of its making -/
theorem tree_of {t : List (Str × Str)} (h1 : 1 ≤ t.length) (h2 : t.length ≤ 12) (nd : (t.map Prod.fst).Nodup) (nm : ∀ z ∈ t.map Prod.fst, NameL z) (up : ∀ (i : Nat) (p : Str × Str), t[i]? = some p → p.2 = "" ∨ p.2 ∈ (t.map Prod.fst).take i) : TreeOk t := by
  refine ⟨h1, h2, nd, nm, fun a => (t.map Prod.fst).idxOf a, fun p hp => ?_⟩
  obtain ⟨i, hi⟩ := List.mem_iff_getElem?.mp hp
  have il := (List.getElem?_eq_some_iff.mp hi).1
  have hk : (t.map Prod.fst)[i]? = some p.1 := by rw [List.getElem?_map, hi] <;> rfl
  refine ⟨by show (t.map Prod.fst).idxOf p.1 < _; rw [idx_at nd hk]; exact il, (up i p hi).imp id fun m => ⟨List.mem_of_mem_take m, ?_⟩⟩
  show (t.map Prod.fst).idxOf p.2 < (t.map Prod.fst).idxOf p.1
  rw [idx_at nd hk]
  obtain ⟨j, hj⟩ := List.mem_iff_getElem?.mp m
  have jl := (List.getElem?_eq_some_iff.mp hj).1
  rw [List.length_take] at jl
  rw [List.getElem?_take, if_pos (by omega)] at hj
  rw [idx_at nd hj]
  omega
end FT


/-! lists of texts as data, for == and !=. -/
namespace FT
open PySem L2 TL
theorem dps_strs {K : PySem.W.Frag} {H : Hp} : ∀ ts : List Str, DpAll K H (ts.map V.str) (ts.map PyData.str)
  | [] => .nil
  | t :: ts => .cons (.str t) (dps_strs ts)
theorem strs_lay : ∀ {ts : List Str}, (∀ t ∈ ts, PyData.strOk t = true) → PyData.canLayAll0 (ts.map PyData.str) = true ∧ PyData.depthAll (ts.map PyData.str) ≤ 0
  | [], _ => ⟨rfl, Nat.le_refl _⟩
  | t :: ts, h => by
    obtain ⟨h1, h2⟩ := strs_lay (ts := ts) fun b hb => h b (List.mem_cons_of_mem _ hb)
    constructor
    · show (PyData.strOk t && PyData.canLayAll0 (ts.map PyData.str)) = true
      rw [h t (List.mem_cons_self ..), h1] <;> rfl
    · show max 0 (PyData.depthAll (ts.map PyData.str)) ≤ 0
      omega
theorem strs_shaped {ts : List Str} (h : ∀ t ∈ ts, PyData.strOk t = true) : SeqAt.shaped (.list (ts.map PyData.str)) = true := by
  obtain ⟨h1, h2⟩ := strs_lay h
  unfold SeqAt.shaped
  have c : (PyData.list (ts.map PyData.str)).canLay0 = true := h1
  rw [c]
  have d : (PyData.list (ts.map PyData.str)).depth ≤ 64 := by
    show PyData.depthAll (ts.map PyData.str) + 1 ≤ 64
    omega
  rw [decide_eq_true d] <;> rfl
end FT


/-! the drawing state of four items; take, pick, order, names. -/
namespace FT
open PySem L2 TL ClX
/-- the drawing state: at d the list [cells, next, mixed, number], the cells at c -/
def DrawAt (H : Hp) (d c : Addr) : Prop := ∃ (nx mx ct : Int) (cells : List Int), H d = some (.lst [.ref c, .int nx, .int mx, .int ct]) ∧ H c = some (.lst (cells.map V.int)) ∧ cells ≠ [] ∧ cells.length ≤ 63 ∧ (∀ z ∈ cells, 0 ≤ z) ∧ 0 ≤ nx ∧ 0 ≤ mx ∧ mx < 2147483647 ∧ 0 ≤ ct
/-- all that was tracked, but d and c, is as it was -/
def Keep (d c : Addr) (H H' : Hp) : Prop := ∀ b o, b ≠ d → b ≠ c → H b = some o → H' b = some o
theorem Keep.refl {d c : Addr} {H : Hp} : Keep d c H H := fun _ _ _ _ e => e
theorem Keep.trans {d c : Addr} {H H1 H2 : Hp} (a : Keep d c H H1) (b : Keep d c H1 H2) : Keep d c H H2 := fun x o h h' e => b x o h h' (a x o h h' e)
theorem Keep.of_same {d c : Addr} {H H' : Hp} (s : Same H H') : Keep d c H H' := fun b o _ _ e => s b o e
theorem DrawAt.mono {H H' : Hp} {d c : Addr} (s : Same H H') (x : DrawAt H d c) : DrawAt H' d c := by
  obtain ⟨nx, mx, ct, cells, h1, h2, r⟩ := x
  exact ⟨nx, mx, ct, cells, s _ _ h1, s _ _ h2, r⟩
theorem DrawAt.apart {H : Hp} {d c p : Addr} (x : DrawAt H d c) (n : H p = none) : p ≠ d ∧ p ≠ c := by
  obtain ⟨nx, mx, ct, cells, h1, h2, r⟩ := x
  exact ⟨(ne_of_none h1 n).symm, (ne_of_none h2 n).symm⟩
theorem ints_ne {ns : List Int} {c : Addr} {r : List V} : ns.map V.int ≠ V.ref c :: r := by
  cases ns with
  | nil => intro h; cases h
  | cons a t => intro h; cases h
theorem DrawAt.ne {H : Hp} {d c : Addr} (x : DrawAt H d c) : c ≠ d := by
  obtain ⟨_, _, _, _, h1, h2, _⟩ := x
  exact ne_of h2 h1 fun z => ints_ne (HO.lst.inj z)
def spBegin (K : PySem.W.Frag) : Sp := fun vs H Q _ => ∃ (a : Addr) (ns : List Int), vs = [.ref a] ∧ SqL K H a (ns.map V.int) ∧ ns.length ≤ 63 ∧
  ∀ (H' : Hp) (d c : Addr), Same H H' → H d = none → H c = none → DrawAt H' d c → Q (.ref d) H'
def spDraw : Sp := fun vs H Q _ => ∃ (d c : Addr) (n : Int), vs = [.ref d, .int n] ∧ DrawAt H d c ∧ 0 < n ∧ n.natAbs < 2 ^ 200 ∧
  ∀ (k : Int) (H' : Hp), 0 ≤ k → k < n → DrawAt H' d c → Keep d c H H' → Q (.int k) H'
/-- an item of a list, a sign of a text -/
def Items (K : PySem.W.Frag) (H : Hp) (d c : Addr) (v : V) (n : Nat) (P : Nat → V → Prop) : Prop :=
  (∃ (l : Addr) (xs : List V), v = .ref l ∧ l ≠ d ∧ l ≠ c ∧ H l = some (.lst xs) ∧ xs.length = n ∧ ∀ i x, xs[i]? = some x → P i x) ∨
  (∃ z : Str, v = .str z ∧ z.length = n ∧ ∀ i s, z.cps.toList[i]? = some s → P i (.str ⟨#[s]⟩))
def spPick (K : PySem.W.Frag) : Sp := fun vs H Q _ => ∃ (d c : Addr) (v : V) (n : Nat) (P : Nat → V → Prop), vs = [.ref d, v] ∧ DrawAt H d c ∧ Items K H d c v n P ∧ 0 < n ∧ n < 1000 ∧
  ∀ (i : Nat) (x : V) (H' : Hp), P i x → DrawAt H' d c → Keep d c H H' → Q x H'
/-- the list of the magnitudes -/
def mags (ms : List Int) : List Int := ms.map fun i => if i < 0 then -i else i
theorem mags_nn (ms : List Int) : ∀ z ∈ mags ms, 0 ≤ z := fun z h => by
  obtain ⟨i, _, rfl⟩ := List.mem_map.mp h
  split <;> omega
theorem at_mod {cells : List Int} {nx : Int} (ne : cells ≠ []) : ∃ (j : Nat) (z : Int), nx % ((cells.map V.int).length : Int) = (j : Int) ∧ j < cells.length ∧ cells[j]? = some z ∧ z ∈ cells := by
  have l0 : 0 < cells.length := List.length_pos_iff.mpr ne
  rw [List.length_map]
  have h1 : 0 ≤ nx % (cells.length : Int) := Int.emod_nonneg _ (by omega)
  have h2 : nx % (cells.length : Int) < (cells.length : Int) := Int.emod_lt_of_pos _ (by omega)
  refine ⟨(nx % (cells.length : Int)).toNat, cells[(nx % (cells.length : Int)).toNat]'(by omega), by omega, by omega, by simp, List.getElem_mem _⟩
section
variable {P : Program} {w : World} {K : PySem.W.Frag} {mg : Str → Option Value} {base : Heap}
theorem scBegin : FnScope ["_law_script", "_law_cell"] ["_law_script"] (defScope s__law_begin) := ⟨rfl, rfl, rfl, by decide +kernel, rfl, by decide +kernel, by decide +kernel⟩
theorem ok_begin {f : Addr} {fd : FuncData} (F : Fun K "_law_begin" "_law_begin" s__law_begin f fd) (T : Nm mg) : FnOk P w K mg base CX0 1 f fd ["_law_script"] (spBegin K) := by
  refine F.ok scBegin (fun vs H Q E h => ?_) (fun cdv A outer s H vs Q E hr h => ?_)
  · obtain ⟨a, ns, rfl, _⟩ := h
    rfl
  · obtain ⟨a, ns, rfl, hS, hlen, k⟩ := h
    refine ⟨_, pss_one (ps_ret (pe_lst (pa_cons (pe_orT (pe_lc (own := [("_law_cell", 1)]) (g := gName 1) (tt := tYes) rfl scBegin.nd (pi_list (pe_slice sl_list (pv 0) po_none (po_some pe_int))) (blkOk_by (N := ["_law_script", "_law_cell"]) (sc := defScope s__law_begin) (by decide +kernel))
      (fun _ _ _ _ _ => pg_name (i := 1) scBegin.nd rfl (Or.inl rfl)) (fun _ _ _ _ _ => pts_nil) (fun _ _ _ _ _ => pe_callB call_abs (by rfl) T.abs (by decide +kernel) (pa_cons (pv 1) pa_nil))) (pe_one (pe_lst (pa_cons pe_int pa_nil))))
      (pa_cons pe_int (pa_cons pe_int (pa_cons pe_int pa_nil)))))), ?_⟩
    obtain ⟨ms, em, lm⟩ := cut_ints ns none (some 63)
    refine ⟨_, rfl, _, rfl, a, _, rfl, hS, fun p np => ?_⟩
    rw [em]
    have s1 : Same H (upd H p (.lst (ms.map V.int))) := same_new np
    refine ⟨p, rfl, ⟨_, SqL.of upd_same⟩, fun D nD => lc_list (xs := ms.map V.int) (fun i H' => Same (upd H p (.lst (ms.map V.int))) H' ∧ H' D = some (.lst ((mags (ms.take i)).map V.int))) ?_ ?_ ?_ ?_⟩
    · exact ⟨same_new nD, by rw [upd_same, List.take_zero] <;> rfl⟩
    · exact fun i H' _ q => Same.sql q.1 (SqL.of upd_same)
    · intro i x H' hx ⟨q1, q2⟩
      obtain ⟨z, hz, rfl⟩ : ∃ z, ms[i]? = some z ∧ x = V.int z := by
        rw [List.getElem?_map] at hx
        obtain ⟨z, hz, rfl⟩ := Option.map_eq_some_iff.mp hx
        exact ⟨z, hz, rfl⟩
      refine ⟨rfl, ?_⟩
      refine ⟨_, rfl, z, rfl, _, q2, ?_, ?_⟩
      · rw [List.length_map]
        unfold mags
        rw [List.length_map, List.length_take]
        exact Nat.lt_of_le_of_lt (Nat.min_le_right _ _) (Nat.lt_of_le_of_lt (Nat.le_trans lm hlen) (by decide))
      · refine ⟨fun b o e => ?_, ?_⟩
        · rw [upd_ne (ne_of_none e nD)]
          exact q1 b o e
        · rw [upd_same, take_more hz]
          unfold mags
          rw [List.map_append, List.map_append] <;> rfl
    · intro H' ⟨q1, q2⟩
      rw [List.length_map, List.take_length] at q2
      have sH : Same H H' := Same.trans s1 q1
      refine ⟨_, .inl ⟨_, SqL.of q2, rfl⟩, ?_⟩
      have hD : H D = none := Same.free s1 nD
      refine ite2 (fun nz => ?_) (fun nz => ?_)
      · refine ⟨by show 4 ≤ sizeLine; decide, fun d nd => ?_⟩
        have ncd : D ≠ d := ne_of_none q2 nd
        refine k _ d D (Same.trans sH (same_new nd)) (Same.free sH nd) hD ⟨0, 1, 0, mags ms, upd_same, by rw [upd_ne ncd]; exact q2, fun z => ?_, ?_, mags_nn ms, by omega, by omega, by omega, by omega⟩
        · rw [z] at nz
          cases nz
        · unfold mags
          rw [List.length_map]
          exact Nat.le_trans lm hlen
      · refine ⟨by show 1 ≤ sizeLine; decide, fun c nc => ?_⟩
        refine ⟨by show 4 ≤ sizeLine; decide, fun d nd => ?_⟩
        have ncd : c ≠ d := ne_of_none upd_same nd
        have nd' : H' d = none := by
          rw [upd_ne (Ne.symm ncd)] at nd
          exact nd
        exact k _ d c (Same.trans sH (Same.trans (same_new nc) (same_new nd))) (Same.free sH nd') (Same.free sH nc) ⟨0, 1, 0, [7], upd_same, by rw [upd_ne ncd, upd_same] <;> rfl, by simp, by decide, by simp, by omega, by omega, by omega, by omega⟩
theorem scDraw : FnScope ["_law_draw", "_law_size", "_law_cells", "_law_at", "_law_cell"] ["_law_draw", "_law_size"] (defScope s__law_take) := ⟨rfl, rfl, rfl, by decide +kernel, rfl, by decide +kernel, by decide +kernel⟩
theorem ok_draw {f : Addr} {fd : FuncData} (F : Fun K "_law_take" "_law_take" s__law_take f fd) (T : Nm mg) : FnOk P w K mg base CX0 1 f fd ["_law_draw", "_law_size"] spDraw := by
  refine F.ok scDraw (fun vs H Q E h => ?_) (fun cdv A outer s H vs Q E hr h => ?_)
  · obtain ⟨d, c, n, rfl, _⟩ := h
    rfl
  · obtain ⟨d, c, n, rfl, hD, n0, n1, k⟩ := h
    have ncd := hD.ne
    obtain ⟨nx, mx, ct, cells, hd, hc, ne, len, nn, a0, m0, m1, c0⟩ := hD
    refine ⟨_, pss_cons (ps_set (i := 2) scDraw.nd rfl (.inl rfl) (pe_ix ix_list (pv 0) pe_int (fun _ _ => rfl)))
      (pss_cons (ps_set (i := 3) scDraw.nd rfl (.inl rfl) (pe_op op_mod (pe_ix ix_list (pv 0) pe_int (fun _ _ => rfl)) (pe_callB call_len_seq (by rfl) T.len PySem.boot_len (pa_cons (pv 2) pa_nil))))
      (pss_cons (ps_set (i := 4) scDraw.nd rfl (.inl rfl) (pe_ix ix_list (pv 2) (pv 3) (fun _ _ => rfl)))
      (pss_cons (ps_if (pt_cmpR op_ge (pv 4) (pe_op op_pow pe_int pe_int) (nomark _))
        (pss_cons (ps_asg (pe_op op_fdivW (pv 4) (pv 1)) (pg_sub (pv 2) (pv 3) set_list)) (pss_one (ps_ret (pe_op op_mod (pv 4) (pv 1))))) pss_nil)
      (pss_cons (ps_asg (pe_op op_add (pe_ix ix_list (pv 0) pe_int (fun _ _ => rfl)) pe_int) (pg_sub (pv 0) pe_int set_list))
      (pss_cons (ps_asg (pe_op op_add (pe_ix ix_list (pv 0) pe_int (fun _ _ => rfl)) pe_int) (pg_sub (pv 0) pe_int set_list))
      (pss_cons (ps_asg (pe_op op_mod (pe_op op_add (pe_op op_add (pe_op op_add (pe_op op_mul (pe_ix ix_list (pv 0) pe_int (fun _ _ => rfl)) pe_int) (pv 4)) (pe_op op_mul pe_int (pe_ix ix_list (pv 0) pe_int (fun _ _ => rfl)))) pe_int) pe_int) (pg_sub (pv 0) pe_int set_list))
      (pss_one (ps_ret (pe_op op_mod (pe_op op_fdiv (pe_op op_mod (pe_op op_mul (pe_ix ix_list (pv 0) pe_int (fun _ _ => rfl)) (pe_ix ix_list (pv 0) pe_int (fun _ _ => rfl))) pe_int) pe_int) (pv 1)))))))))), ?_⟩
    obtain ⟨j, z, ej, jl, hz, zm⟩ := at_mod (nx := nx) ne
    have z0 := nn z zm
    have l0 : (0 : Int) < ((cells.map V.int).length : Int) := by
      have := List.length_pos_iff.mpr ne
      rw [List.length_map]
      omega
    refine ⟨_, rfl, d, _, 0, .ref c, rfl, rfl, SqL.of hd, rfl, ?_⟩
    refine ⟨_, rfl, d, _, 1, .int nx, rfl, rfl, SqL.of hd, rfl, _, rfl, c, _, rfl, .inl (SqL.of hc), _, _, rfl, rfl, l0, ?_⟩
    refine ⟨_, rfl, _, rfl, c, _, _, .int z, rfl, rfl, SqL.of hc, by rw [ej]; exact atI_nat (map_at hz), ?_⟩
    refine ⟨_, rfl, 10, 18, rfl, rfl, ⟨by decide, by decide, by decide⟩, _, _, rfl, rfl, _, rfl, ?_⟩
    refine ite2 (fun _ => ?_) (fun _ => ?_)
    · refine ⟨_, rfl, _, rfl, _, _, rfl, rfl, wide_div n0 n1 (by decide) (by decide), _, rfl, _, rfl, c, _, _, j, rfl, rfl, hc, by rw [ej]; exact ixN_nat (by rw [List.length_map]; exact jl), ?_⟩
      rw [show (cells.map V.int).set j (.int (z / n)) = (cells.set j (z / n)).map V.int by rw [List.map_set]]
      refine ⟨_, rfl, _, rfl, _, _, rfl, rfl, n0, ?_⟩
      refine k _ _ (Int.emod_nonneg _ (by omega)) (Int.emod_lt_of_pos _ n0) ⟨nx, mx, ct, _, by rw [upd_ne ncd.symm]; exact hd, upd_same, ?_, by rw [List.length_set]; exact len, ?_, a0, m0, m1, c0⟩ (fun b o _ h2 e => by rw [upd_ne h2]; exact e)
      · intro e
        have := congrArg List.length e
        rw [List.length_set] at this
        exact ne (List.length_eq_zero_iff.mp this)
      · intro y hy
        rcases List.mem_or_eq_of_mem_set hy with h | h
        · exact nn y h
        · rw [h]
          exact Int.ediv_nonneg z0 (by omega)
    · refine ⟨_, rfl, d, _, 1, .int nx, rfl, rfl, SqL.of hd, rfl, _, _, rfl, rfl, _, rfl, d, _, 1, 1, rfl, rfl, hd, rfl, ?_⟩
      refine ⟨_, rfl, d, _, 3, .int ct, rfl, rfl, SqL.of upd_same, rfl, _, _, rfl, rfl, _, rfl, d, _, 3, 3, rfl, rfl, upd_same, rfl, ?_⟩
      rw [upd_upd]
      refine ⟨_, rfl, d, _, 2, .int mx, rfl, rfl, SqL.of upd_same, rfl, _, _, rfl, rfl, .inl ⟨by omega, by omega⟩, _, rfl, _, _, rfl, rfl, _, rfl, d, _, 3, .int (ct + 1), rfl, rfl, SqL.of upd_same, rfl, _, _, rfl, rfl, .inl ⟨by decide, by decide⟩,
        _, _, rfl, rfl, _, _, rfl, rfl, _, _, rfl, rfl, (by show (0 : Int) < 2147483647; decide), _, rfl, d, _, 2, 2, rfl, rfl, upd_same, rfl, ?_⟩
      rw [upd_upd]
      obtain ⟨m, em⟩ : ∃ m, m = (mx * 48271 + z + 7919 * (ct + 1) + 12345) % 2147483647 := ⟨_, rfl⟩
      have h0 : 0 ≤ m := by rw [em]; exact Int.emod_nonneg _ (by decide)
      have h1 : m < 2147483647 := by rw [em]; exact Int.emod_lt_of_pos _ (by decide)
      refine ⟨_, rfl, d, _, 2, .int m, rfl, rfl, SqL.of upd_same, by rw [em] <;> rfl, _, rfl, d, _, 2, .int m, rfl, rfl, SqL.of upd_same, by rw [em] <;> rfl, _, _, rfl, rfl, .inl ⟨by omega, by omega⟩, _, _, rfl, rfl, (by show (0 : Int) < 2147483629; decide), _, _, rfl, rfl, ⟨by decide, by decide⟩,
        _, rfl, _, _, rfl, rfl, n0, ?_⟩
      exact k _ _ (Int.emod_nonneg _ (by omega)) (Int.emod_lt_of_pos _ n0) ⟨nx + 1, m, ct + 1, cells, by rw [upd_same, em] <;> rfl, by rw [upd_ne ncd]; exact hc, ne, len, nn, by omega, h0, h1, by omega⟩ (fun b o h2 _ e => by rw [upd_ne h2]; exact e)
theorem scPick : FnScope ["_law_draw", "_law_some"] ["_law_draw", "_law_some"] (defScope s__law_pick) := ⟨rfl, rfl, rfl, by decide +kernel, rfl, by decide +kernel, by decide +kernel⟩
theorem ok_pick {f fT : Addr} {fd fdT : FuncData} (F : Fun K "_law_pick" "_law_pick" s__law_pick f fd) (T : Nm mg) (FT : Fun K "_law_take" "_law_take" s__law_take fT fdT) (bT : Binds K fdT ["_law_draw", "_law_size"] []) (gT : mg "_law_take" = some (.ref fT)) :
    FnOk P w K mg base CX0 2 f fd ["_law_draw", "_law_some"] (spPick K) := by
  have GT : FnOk P w K mg base CX0 1 fT fdT ["_law_draw", "_law_size"] spDraw := ok_draw FT T
  refine F.ok scPick (fun vs H Q E h => ?_) (fun cdv A outer s H vs Q E hr h => ?_)
  · obtain ⟨d, c, v, n, P, rfl, _⟩ := h
    rfl
  · obtain ⟨d, c, v, n, Pr, rfl, hD, it, x0, x1, k⟩ := h
    have hr1 : Room 1 _ := hr.mono (by decide)
    refine ⟨_, pss_one (ps_ret (pe_ix ix_seq (pv 1) (pe_call GT hr1 rfl gT FT.kp bT .nil pass0 (pa_cons (pv 0) (pa_cons (pe_callB call_len (by rfl) T.len PySem.boot_len (pa_cons (pv 1) pa_nil)) pa_nil))) (fun _ _ => rfl))), ?_⟩
    have small : ∀ n : Nat, n < 1000 → ((n : Int)).natAbs < 2 ^ 200 := fun n hn => by
      rw [Int.natAbs_natCast]
      exact Nat.lt_trans hn (by decide)
    rcases it with ⟨l, xs, rfl, nd, nc, hl, en, hp⟩ | ⟨z, rfl, en, hp⟩
    · refine ⟨_, rfl, _, rfl, _, rfl, _, xs.length, rfl, .inl ⟨xs, SqL.of hl, rfl⟩, d, c, _, rfl, hD, by omega, small _ (by omega), fun i H' i0 i1 hD' off => ?_⟩
      have hi : i.toNat < xs.length := by omega
      have e : xs[i.toNat]? = some xs[i.toNat] := List.getElem?_eq_getElem hi
      have e2 := atI_nat e
      rw [show ((i.toNat : Nat) : Int) = i by omega] at e2
      exact .inl ⟨l, xs, i, xs[i.toNat], rfl, rfl, SqL.of (off l _ nd nc hl), e2, k i.toNat _ H' (hp _ _ e) hD' off⟩
    · have zl : z.length ≤ sizeLine := Nat.le_trans (by omega : z.length ≤ 1000) (by decide)
      refine ⟨_, rfl, _, rfl, _, rfl, _, z.length, rfl, ⟨zl, rfl⟩, d, c, _, rfl, hD, by omega, small _ (by omega), fun i H' i0 i1 hD' off => ?_⟩
      have hi : i.toNat < z.cps.toList.length := by
        have : z.length = z.cps.toList.length := by simp [Str.length]
        omega
      have e : z.cps.toList[i.toNat]? = some z.cps.toList[i.toNat] := List.getElem?_eq_getElem hi
      have e2 := atI_nat e
      rw [show ((i.toNat : Nat) : Int) = i by omega] at e2
      exact .inr (.inr ⟨z, i, _, rfl, rfl, zl, e2, k i.toNat _ H' (hp _ _ e) hD' off⟩)
end

/-- list(x): x a list of texts, or a dict of texts -/
def Texts (K : PySem.W.Frag) (H : Hp) (a : Addr) (ts : List Str) : Prop := SqL K H a (ts.map V.str) ∨ ∃ kvs, Rd H a (.dK kvs) ∧ kvs.map (·.1) = ts.map Sum.inr
theorem call_texts {X : Cx} (hcalm : X.calm = true) : CallR X (.type "list") (fun xs H Q => ∃ (a : Addr) (ts : List Str), xs = [.ref a] ∧ Texts X.K H a ts ∧ ∀ p, H p = none → Q (.ref p) (upd H p (.lst (ts.map V.str)))) := by
  intro pins s σ H xs us Q I r h
  obtain ⟨a, ts, rfl, t, q⟩ := h
  rcases t with t | ⟨kvs, t, e⟩
  · exact call_list_of pins s σ H _ us Q I r ⟨a, _, rfl, .inl t, q⟩
  · refine call_listD hcalm pins s σ H _ us Q I r ⟨a, kvs, rfl, t, fun p np => ?_⟩
    have ek : (kvs.map fun kv => kV kv.1) = ts.map V.str := by
      have z := congrArg (List.map kV) e
      rw [List.map_map, List.map_map] at z
      exact z
    rw [ek]
    exact q p np
theorem DrawAt.off {H : Hp} {d c p : Addr} {o : HO} (x : DrawAt H d c) (n1 : p ≠ d) (n2 : p ≠ c) : DrawAt (upd H p o) d c := by
  obtain ⟨nx, mx, ct, cells, h1, h2, r⟩ := x
  exact ⟨nx, mx, ct, cells, by rw [upd_ne n1.symm]; exact h1, by rw [upd_ne n2.symm]; exact h2, r⟩
def spOrder (K : PySem.W.Frag) : Sp := fun vs H Q _ => ∃ (d c a : Addr) (ts : List Str), vs = [.ref d, .ref a] ∧ DrawAt H d c ∧ Texts K H a ts ∧ ts.length < 900 ∧ (∀ t ∈ ts, PyData.strOk t = true) ∧
  ∀ (p : Addr) (ys : List Str) (H' : Hp), ys.Perm ts → H p = none → H' p = some (.lst (ys.map V.str)) → DrawAt H' d c → Keep d c H H' → Q (.ref p) H'
section
variable {P : Program} {w : World} {K : PySem.W.Frag} {mg : Str → Option Value} {base : Heap}
theorem scOrder : FnScope ["_law_draw", "_law_some", "_law_rest", "_law_found"] ["_law_draw", "_law_some"] (defScope s__law_order) := ⟨rfl, rfl, rfl, by decide +kernel, rfl, by decide +kernel, by decide +kernel⟩
theorem ok_order {f fT : Addr} {fd fdT : FuncData} (F : Fun K "_law_order" "_law_order" s__law_order f fd) (T : Nm mg) (FT : Fun K "_law_take" "_law_take" s__law_take fT fdT) (bT : Binds K fdT ["_law_draw", "_law_size"] []) (gT : mg "_law_take" = some (.ref fT)) :
    FnOk P w K mg base CX0 2 f fd ["_law_draw", "_law_some"] (spOrder K) := by
  have GT : FnOk P w K mg base CX0 1 fT fdT ["_law_draw", "_law_size"] spDraw := ok_draw FT T
  refine F.ok scOrder (fun vs H Q E h => ?_) (fun cdv A outer s H vs Q E hr h => ?_)
  · obtain ⟨d, c, a, ts, rfl, _⟩ := h
    rfl
  · obtain ⟨d, c, a, ts, rfl, hD, ht, few, sok, k⟩ := h
    have hr1 : Room 1 _ := hr.mono (by decide)
    refine ⟨_, pss_cons (ps_par (i := 2) (j := 3) rfl scOrder.nd rfl rfl (by decide) rfl rfl (pa_cons (pe_callTy (call_texts rfl) (by rfl) T.lst (by decide +kernel) (pa_cons (pv 1) pa_nil)) (pa_cons (pe_lst pa_nil) pa_nil)) (by rfl))
      (pss_cons (ps_while PassesOwn.never (pt_cmpR (op_neD hr.units) (pv 2) (pe_lst pa_nil) (nomark _))
        (pss_one (ps_expr (pe_bm PySem.F.plainAttrs_list PySem.F.slot_list_append PySem.F.type_list_append mt_append (pv 3) (pa_cons (pe_bm PySem.F.plainAttrs_list PySem.F.slot_list_pop PySem.F.type_list_pop mt_popAt (pv 2) (pa_cons (pe_call GT hr1 rfl gT FT.kp bT .nil pass0 (pa_cons (pv 0) (pa_cons (pe_callB call_len_seq (by rfl) T.len PySem.boot_len (pa_cons (pv 2) pa_nil)) pa_nil))) pa_nil)) pa_nil)))))
      (pss_one (ps_ret (pv 3)))), ?_⟩
    refine ⟨_, rfl, a, ts, rfl, ht, fun r nr => ⟨by show 0 ≤ sizeLine; omega, fun q nq => ⟨_, _, rfl, ?_⟩⟩⟩
    have rq : r ≠ q := ne_of_none upd_same nq
    have rd := hD.apart nr
    have qd := (hD.mono (same_new nr)).apart nq
    refine while_by (fun σ H' => σ = [some (.ref d), some (.ref a), some (.ref r), some (.ref q)] ∧ DrawAt H' d c ∧ Keep d c H H' ∧ ∃ rest found : List Str, H' r = some (.lst (rest.map V.str)) ∧ H' q = some (.lst (found.map V.str)) ∧ (found ++ rest).Perm ts) (fun _ H' => many H' r)
      ⟨rfl, (hD.mono (same_new nr)).mono (same_new nq), Keep.of_same ((same_new nr).trans (same_new nq)), ts, [], by rw [upd_ne rq, upd_same], upd_same, .refl _⟩ ?_ ?_
    · rintro σ H1 ⟨rfl, d1, k1, rest, found, er, eq, pm⟩
      have lens := pm.length_eq
      rw [List.length_append] at lens
      refine ⟨_, rfl, by show 0 ≤ sizeLine; omega, fun e ne => ⟨_, _, .lst (SqL.of (by rw [upd_ne (ne_of_none er ne)]; exact er)) (dps_strs rest), .lst (SqL.of upd_same) .nil, ?_, rfl, ?_⟩⟩
      · exact strs_shaped fun t m => sok t (pm.mem_iff.mp (List.mem_append_right _ m))
      · have s1 := same_new (o := .lst []) ne
        obtain ⟨H2, e2⟩ : ∃ X, X = upd H1 e (.lst []) := ⟨_, rfl⟩
        rw [← e2] at s1 ⊢
        have d2 := d1.mono s1
        refine ⟨_, rfl, ?_⟩
        refine ite2 (fun t => ?_) (fun t => ?_)
        · cases rest with
          | nil => cases t
          | cons y rest =>
            have er2 := s1 _ _ er
            have eq2 := s1 _ _ eq
            refine ⟨_, rfl, .inl ⟨rfl, _, SqL.of eq2⟩, _, rfl, .inl ⟨rfl, _, SqL.of er2⟩, _, rfl, _, rfl, r, _, rfl, .inl (SqL.of er2), d, c, _, rfl, d2, ?_, ?_, fun i H3 i0 i1 d3 k3 => ?_⟩
            · rw [List.length_map, List.length_cons]
              omega
            · rw [List.length_map, List.length_cons, Int.natAbs_natCast]
              rw [List.length_cons] at lens
              exact Nat.lt_trans (by omega : rest.length + 1 < 1000) (by decide)
            · rw [List.length_map] at i1
              have er3 := k3 r _ rd.1 rd.2 er2
              have eq3 := k3 q _ qd.1 qd.2 eq2
              have hi : i.toNat < (y :: rest).length := by omega
              have e0 : ((y :: rest).map V.str)[i.toNat]? = some (V.str (y :: rest)[i.toNat]) := by rw [List.getElem?_map, List.getElem?_eq_getElem hi] <;> rfl
              obtain ⟨sx, _, _, _⟩ := ixN_seq (ixN_nat (n := ((y :: rest).map V.str).length) (j := i.toNat) (by rw [List.length_map]; exact hi))
              rw [show ((i.toNat : Nat) : Int) = i by omega] at sx
              rw [List.length_cons] at lens i1
              refine ⟨r, _, i, i.toNat, _, rfl, rfl, er3, by omega, by omega, sx, e0, ?_⟩
              refine ⟨q, _, _, rfl, rfl, by rw [upd_ne rq.symm]; exact eq3, ?_, ?_⟩
              · rw [List.length_map]
                exact Nat.lt_of_lt_of_le (by omega : found.length < 1000) (by decide)
              · have er4 : (upd (upd H3 r (.lst (((y :: rest).map V.str).eraseIdx i.toNat))) q (.lst (found.map V.str ++ [V.str (y :: rest)[i.toNat]]))) r = some (.lst (((y :: rest).eraseIdx i.toNat).map V.str)) := by
                  rw [upd_ne rq, upd_same, map_erase]
                have pe : ((y :: rest)[i.toNat] :: (y :: rest).eraseIdx i.toNat).Perm (y :: rest) := erase_perm _ _ hi
                refine ⟨⟨rfl, (d3.off rd.1 rd.2).off qd.1 qd.2, fun b o b1 b2 eb => ?_, _, found ++ [(y :: rest)[i.toNat]], er4, by rw [upd_same, List.map_append] <;> rfl, ?_⟩, ?_⟩
                · have n1 : b ≠ r := ne_of_none eb nr
                  have n2 : b ≠ q := ne_of_none (same_new nr b o eb) nq
                  rw [upd_ne n2, upd_ne n1]
                  exact k3 b o b1 b2 (s1 b o (k1 b o b1 b2 eb))
                · rw [List.append_assoc]
                  exact ((List.Perm.refl found).append pe).trans pm
                · show many _ r < many H1 r
                  rw [many_at er4, many_at er, List.length_map, List.length_map, List.length_eraseIdx, if_pos hi, List.length_cons]
                  omega
        · cases rest with
          | cons y rest => exact absurd rfl t
          | nil =>
            have k2 : Keep d c H H2 := k1.trans (Keep.of_same s1)
            rw [List.append_nil] at pm
            have nq0 : H q = none := by
              cases z : H q with
              | none => rfl
              | some o =>
                rw [same_new nr q o z] at nq
                cases nq
            exact ⟨_, rfl, k q found H2 pm nq0 (s1 _ _ eq) d2 k2⟩
    · exact fun σ H Q Q' hm ⟨v, e, z, f⟩ => ⟨v, e, z, fun p np => let ⟨d1, d2, a1, a2, a3, a4, b, eb, q⟩ := f p np; ⟨d1, d2, a1, a2, a3, a4, b, eb, hm _ _ q⟩⟩
end

def pool1 : List Str := ["a", "b", "c", "aa", "ab", "z", "zz", "new", "old", "abcdefgh", "zzzzzzzz", "size", "must", "users", "none"]
def pool2 : List Str := ["a", "b", "c", "d", "e", "f", "g", "h", "i", "j", "k", "l"]
theorem pool_ok : (∀ z ∈ pool1, NameL z) ∧ (∀ z ∈ pool2, NameL z) := by decide +kernel
theorem pool_nd : pool1.Nodup ∧ pool2.Nodup := by decide +kernel
theorem pool_str : (∀ z ∈ pool1, PyData.strOk z = true) ∧ (∀ z ∈ pool2, PyData.strOk z = true) := by decide +kernel
def spNames : Sp := fun vs H Q _ => ∃ (d c : Addr) (n : Nat), vs = [.ref d, .int (n : Int)] ∧ DrawAt H d c ∧ 1 ≤ n ∧ n ≤ 12 ∧
  ∀ (l : Addr) (fs : List Str) (H' : Hp), fs.length = n → fs.Nodup → (∀ z ∈ fs, NameL z) → (∀ z ∈ fs, PyData.strOk z = true) → H l = none → H' l = some (.lst (fs.map V.str)) → DrawAt H' d c → Keep d c H H' → Q (.ref l) H'
theorem Keep.put {d c p : Addr} {H H' : Hp} {o : HO} (k : Keep d c H H') (n : H p = none) : Keep d c H (upd H' p o) := fun b u h1 h2 e => by
  rw [upd_ne (ne_of_none e n)]
  exact k b u h1 h2 e
theorem Keep.free {d c p : Addr} {H H' : Hp} (k : Keep d c H H') (n : H' p = none) (n1 : p ≠ d) (n2 : p ≠ c) : H p = none := by
  cases e : H p with
  | none => rfl
  | some o =>
    rw [k p o n1 n2 e] at n
    cases n
section
variable {P : Program} {w : World} {K : PySem.W.Frag} {mg : Str → Option Value} {base : Heap}
theorem scNames : FnScope ["_law_draw", "_law_many", "_law_pool"] ["_law_draw", "_law_many"] (defScope s__law_names) := ⟨rfl, rfl, rfl, by decide +kernel, rfl, by decide +kernel, by decide +kernel⟩
theorem ok_names {f fT fO : Addr} {fd fdT fdO : FuncData} (F : Fun K "_law_names" "_law_names" s__law_names f fd) (T : Nm mg) (FT : Fun K "_law_take" "_law_take" s__law_take fT fdT) (bT : Binds K fdT ["_law_draw", "_law_size"] []) (gT : mg "_law_take" = some (.ref fT))
    (FO : Fun K "_law_order" "_law_order" s__law_order fO fdO) (bO : Binds K fdO ["_law_draw", "_law_some"] []) (gO : mg "_law_order" = some (.ref fO)) : FnOk P w K mg base CX0 3 f fd ["_law_draw", "_law_many"] spNames := by
  have GT : FnOk P w K mg base CX0 1 fT fdT ["_law_draw", "_law_size"] spDraw := ok_draw FT T
  have GO : FnOk P w K mg base CX0 2 fO fdO ["_law_draw", "_law_some"] (spOrder K) := ok_order FO T FT bT gT
  refine F.ok scNames (fun vs H Q E h => ?_) (fun cdv A outer s H vs Q E hr h => ?_)
  · obtain ⟨d, c, n, rfl, _⟩ := h
    rfl
  · obtain ⟨d, c, n, rfl, hD, n1, n12, k⟩ := h
    have hr1 : Room 1 _ := hr.mono (by decide)
    have hr2 : Room 2 _ := hr.mono (by decide)
    refine ⟨_, pss_cons (ps_set (i := 2) scNames.nd rfl (.inl rfl) (pe_lst (pa_cons pe_str (pa_cons pe_str (pa_cons pe_str (pa_cons pe_str (pa_cons pe_str (pa_cons pe_str (pa_cons pe_str (pa_cons pe_str (pa_cons pe_str (pa_cons pe_str (pa_cons pe_str (pa_cons pe_str (pa_cons pe_str (pa_cons pe_str (pa_cons pe_str pa_nil)))))))))))))))))
      (pss_cons (ps_if (pt_cmpR op_eq (pe_call GT hr1 rfl gT FT.kp bT .nil pass0 (pa_cons (pv 0) (pa_cons pe_int pa_nil))) pe_int (nomark _))
        (pss_one (ps_set (i := 2) scNames.nd rfl (.inl rfl) (pe_lst (pa_cons pe_str (pa_cons pe_str (pa_cons pe_str (pa_cons pe_str (pa_cons pe_str (pa_cons pe_str (pa_cons pe_str (pa_cons pe_str (pa_cons pe_str (pa_cons pe_str (pa_cons pe_str (pa_cons pe_str pa_nil))))))))))))))) pss_nil)
      (pss_one (ps_ret (pe_slice sl_list (pe_call GO hr2 rfl gO FO.kp bO .nil pass0 (pa_cons (pv 0) (pa_cons (pv 2) pa_nil))) po_none (po_some (pv 1)))))), ?_⟩
    have big : 1000 ≤ sizeLine := by decide
    -- the rest, from any pool
    have rest : ∀ (pool : List Str) (p : Addr) (H1 : Hp), H1 p = some (.lst (pool.map V.str)) → p ≠ d → p ≠ c → DrawAt H1 d c → Keep d c H H1 → 12 ≤ pool.length → pool.length < 900 → pool.Nodup → (∀ z ∈ pool, NameL z) → (∀ z ∈ pool, PyData.strOk z = true) →
        tRet (tSl (rSlL K) (tCall (spOrder K) [] E0 (tCons (tVar 0) (tCons (tVar 2) tNil))) tNoPart (tPart (tVar 1))) { nx := fun _ H' => Q .non H', rt := Q } [some (.ref d), some (.int (n : Int)), some (.ref p)] H1 := by
      intro pool p H1 e1 pd pc d1 k1 l12 few nd ok sok
      refine ⟨_, rfl, _, rfl, d, c, p, pool, rfl, d1, .inl (SqL.of e1), few, sok, fun r ys H2 pm nr er d2 k2 => ?_⟩
      have ly := pm.length_eq
      have rd := d1.apart nr
      refine ⟨_, rfl, _, rfl, r, ys.map V.str, rfl, SqL.of er, fun q nq => ?_⟩
      rw [cut_take (by rw [List.length_map]; omega), ← List.map_take]
      have qd := d2.apart nq
      have sub : ∀ z ∈ ys.take n, z ∈ pool := fun z hz => pm.mem_iff.mp (List.mem_of_mem_take hz)
      exact k q _ _ (by rw [List.length_take]; omega) ((pm.nodup_iff.mpr nd).sublist (List.take_sublist _ _)) (fun z hz => ok z (sub z hz)) (fun z hz => sok z (sub z hz)) ((k1.trans k2).free nq qd.1 qd.2) upd_same (d2.mono (same_new nq)) ((k1.trans k2).trans (Keep.of_same (same_new nq)))
    refine ⟨by show 15 ≤ sizeLine; omega, fun p np => ?_⟩
    have s1 := same_new (o := .lst (pool1.map V.str)) np
    have pd := hD.apart np
    refine ⟨_, rfl, d, c, 2, rfl, hD.mono s1, by decide, by decide, fun i H2 i0 i1 d2 k2 => ?_⟩
    have e2 := k2 p _ pd.1 pd.2 (upd_same : upd H p (.lst (pool1.map V.str)) p = some (.lst (pool1.map V.str)))
    have K2 : Keep d c H H2 := (Keep.of_same s1).trans k2
    refine ⟨rfl, _, rfl, ?_⟩
    refine ite2 (fun _ => ?_) (fun _ => ?_)
    · refine ⟨by show 12 ≤ sizeLine; omega, fun q nq => ?_⟩
      have qd := d2.apart nq
      exact rest pool2 q _ upd_same qd.1 qd.2 (d2.mono (same_new nq)) (K2.trans (Keep.of_same (same_new nq))) (by decide) (by decide) pool_nd.2 pool_ok.2 pool_str.2
    · exact rest pool1 p _ e2 pd.1 pd.2 d2 K2 (by decide) (by decide) pool_nd.1 pool_ok.1 pool_str.1
end
end FT


namespace FT
open PySem L2 TL ClX
def spParents : Sp := fun vs H Q _ => ∃ (d c : Addr) (n : Nat), vs = [.ref d, .int (n : Int)] ∧ DrawAt H d c ∧ 1 ≤ n ∧ n ≤ 12 ∧
  ∀ (q : Addr) (t : List (Str × Str)) (H' : Hp), TreeOk t → t.length = n → H q = none → H' q = some (.dK (prs t)) → DrawAt H' d c → Keep d c H H' → Q (.ref q) H'
def spPath : Sp := fun vs H Q _ => ∃ (q : Addr) (a : Str) (t : List (Str × Str)), vs = [.ref q, .str a] ∧ Rd H q (.dK (prs t)) ∧ TreeOk t ∧ Pl t a ∧ ∀ p H', Same H H' → H p = none → H' p = some (.tup ((pathOf t a).map V.str)) → Q (.ref p) H'
theorem fresh_at {fs l : List Str} {j : Nat} {f : Str} (nd : fs.Nodup) (h : fs[j]? = some f) (e : l = fs.take j) : f ∉ l := by
  rw [e]
  intro hm
  obtain ⟨i, hi⟩ := List.mem_iff_getElem?.mp hm
  have hi2 := (List.getElem?_eq_some_iff.mp hi).1
  have jl := (List.getElem?_eq_some_iff.mp h).1
  rw [List.length_take] at hi2
  rw [List.getElem?_take, if_pos (by omega)] at hi
  have := (List.getElem?_inj (by omega) nd).mp (hi.trans h.symm)
  omega
section
variable {P : Program} {w : World} {K : PySem.W.Frag} {mg : Str → Option Value} {base : Heap}
abbrev NPa : List Str := ["_law_draw", "_law_many", "_law_names_here", "_law_way", "_law_found", "_law_at", "_law_name"]
theorem scPa : FnScope NPa ["_law_draw", "_law_many"] (defScope s__law_parents) := ⟨rfl, rfl, rfl, by decide +kernel, rfl, by decide +kernel, by decide +kernel⟩
theorem ok_parents {f fT fP fO fN : Addr} {fd fdT fdP fdO fdN : FuncData} (F : Fun K "_law_parents" "_law_parents" s__law_parents f fd) (T : Nm mg) (DT : Dn P w K mg base CX0 1 "_law_take" ["_law_draw", "_law_size"] spDraw fT fdT) (DP : Dn P w K mg base CX0 2 "_law_pick" ["_law_draw", "_law_some"] (spPick K) fP fdP)
    (DO : Dn P w K mg base CX0 2 "_law_order" ["_law_draw", "_law_some"] (spOrder K) fO fdO) (DN : Dn P w K mg base CX0 3 "_law_names" ["_law_draw", "_law_many"] spNames fN fdN) : FnOk P w K mg base CX0 4 f fd ["_law_draw", "_law_many"] spParents := by
  refine F.ok scPa (fun vs H Q E h => ?_) (fun cdv A outer s H vs Q E hr h => ?_)
  · obtain ⟨d, c, n, rfl, _⟩ := h
    rfl
  · obtain ⟨d, c, n, rfl, hD, n1, n12, k⟩ := h
    have hu := hu_of hr
    have hr1 : Room 1 _ := hr.mono (by decide)
    have hr2 : Room 2 _ := hr.mono (by decide)
    have big : 1000 ≤ sizeLine := by decide
    refine ⟨_, pss_cons (ps_asg (pe_tup (pa_cons (pe_call DN.ok hr rfl DN.mgn DN.kp DN.bn .nil pass0 (pa_cons (pv 0) (pa_cons (pv 1) pa_nil))) (pa_cons (pe_call DT.ok hr1 rfl DT.mgn DT.kp DT.bn .nil pass0 (pa_cons (pv 0) (pa_cons pe_int pa_nil))) (pa_cons pe_dnewK pa_nil))))
        (pg_tup rfl (pgs_cons (pg_name (i := 2) scPa.nd rfl (.inl rfl)) (pgs_cons (pg_name (i := 3) scPa.nd rfl (.inl rfl)) (pgs_cons (pg_name (i := 4) scPa.nd rfl (.inr rfl)) pgs_nil)))))
      (pss_cons (ps_for PassesOwn.never rfl (pi_enum rfl T.enu (pa_cons (pv 2) pa_nil)) (pg_tup rfl (pgs_cons (pg_name (i := 5) scPa.nd rfl (.inl rfl)) (pgs_cons (pg_name (i := 6) scPa.nd rfl (.inl rfl)) pgs_nil)))
        (pss_cons (ps_dput hu (pv 4) (pv 6) (pe_call DP.ok hr2 rfl DP.mgn DP.kp DP.bn .nil pass0 (pa_cons (pv 0) (pa_cons (pe_op op_cat (pe_lst (pa_cons pe_str pa_nil)) (pe_slice sl_list (pv 2) po_none (po_some (pv 5)))) pa_nil))) rfl)
        (pss_cons (ps_if (pt_cmpR op_eq (pv 3) pe_int (nomark _)) (pss_one (ps_dput hu (pv 4) (pv 6) (pe_ix ix_list (pe_op op_cat (pe_lst (pa_cons pe_str pa_nil)) (pv 2)) (pv 5) (fun _ _ => rfl)) rfl)) pss_nil)
        (pss_one (ps_if (pt_cmpR op_eq (pv 3) pe_int (nomark _)) (pss_one (ps_dput hu (pv 4) (pv 6) (pe_ix ix_list (pe_op op_cat (pe_lst (pa_cons pe_str (pa_cons pe_str pa_nil))) (pv 2)) (pv 5) (fun _ _ => rfl)) rfl)) pss_nil)))))
      (pss_one (ps_ret (pe_callTy (call_dictP rfl) (by rfl) T.dct (by decide +kernel) (pa_cons (pe_lc (own := [("_law_name", 6)]) (g := gName 6) (tt := tYes) (te := tTup (tCons (tVar 6) (tCons (tDGet (tVar 4) (tVar 6)) tNil))) rfl scPa.nd (pi_list (pe_call DO.ok hr2 rfl DO.mgn DO.kp DO.bn .nil pass0 (pa_cons (pv 0) (pa_cons (pv 2) pa_nil))))
        (blkOk_by (N := NPa) (sc := defScope s__law_parents) (by decide +kernel))
        (fun _ _ _ _ _ => pg_name (i := 6) scPa.nd rfl (Or.inl rfl)) (fun _ _ _ _ _ => pts_nil) (fun _ _ _ _ _ => pe_tup (pa_cons (pv 6) (pa_cons (pe_dget hu (pv 4) (pv 6) (fun _ _ => rfl)) pa_nil)))) pa_nil))))), ?_⟩
    refine ⟨_, rfl, _, rfl, d, c, n, rfl, hD, n1, n12, fun pn fs H1 ln nd ok sok npn hn dr1 k1 => ?_⟩
    have pnd := hD.apart npn
    refine ⟨_, rfl, d, c, 5, rfl, dr1, by decide, by decide, fun way H2 w0 w5 dr2 k2 q nq => ⟨by show 3 ≤ sizeLine; omega, fun tp ntp => ⟨tp, _, rfl, .inl (.inl upd_same), rfl, ?_⟩⟩⟩
    have hn2 := k2 pn _ pnd.1 pnd.2 hn
    have K2 : Keep d c H H2 := k1.trans k2
    obtain ⟨H3, e3⟩ : ∃ X, X = upd (upd H2 q (.dK [])) tp (.tup [.ref pn, .int way, .ref q]) := ⟨_, rfl⟩
    have s23 : Same H2 H3 := e3 ▸ (same_new nq).trans (same_new ntp)
    have dr3 := dr2.mono s23
    have qd := dr2.apart nq
    have hq3 : H3 q = some (.dK []) := by rw [e3]; exact same_new ntp _ _ upd_same
    have hn3 := s23 _ _ hn2
    rw [← e3]
    have nq0 : H q = none := K2.free nq qd.1 qd.2
    refine ⟨_, _, rfl, _, _, rfl, _, _, rfl, rfl, ?_⟩
    refine ⟨_, rfl, pn, fs.map V.str, rfl, SqL.of hn3, ?_⟩
    refine for_it walk_enum (fun j σ' H' => (∃ u5 u6, σ' = [some (.ref d), some (.int (n : Int)), some (.ref pn), some (.int way), some (.ref q), u5, u6]) ∧ DrawAt H' d c ∧ H' pn = some (.lst (fs.map V.str)) ∧ Keep d c H H' ∧
      ∃ t : List (Str × Str), H' q = some (.dK (prs t)) ∧ t.map Prod.fst = fs.take j ∧ ∀ (i : Nat) (p : Str × Str), t[i]? = some p → p.2 = "" ∨ p.2 ∈ fs.take i)
      ⟨⟨_, _, rfl⟩, dr3, hn3, K2.trans (Keep.of_same s23), [], hq3, by rw [List.take_zero] <;> rfl, fun i p h => by simp at h⟩ (fun j σ' H' _ q => SqL.of q.2.2.1) ?_ ?_
    · intro j TT σ' Ha Hb hj ⟨⟨u5, u6, e⟩, da, hna, ka, t, hq, et, up⟩ ⟨T', y, z, eT, nT, eH, ey, ez⟩
      subst e
      subst eT
      subst eH
      cases ey
      rw [List.length_map] at hj
      obtain ⟨f, hf, rfl⟩ := map_of (show (fs.map V.str)[j]? = some z from ez)
      have tlen := congrArg List.length et
      rw [List.length_map, List.length_take] at tlen
      have fresh : f ∉ t.map Prod.fst := fresh_at nd hf et
      obtain ⟨H4, e4⟩ : ∃ X, X = upd Ha T' (.tup [.int (j : Int), .str f]) := ⟨_, rfl⟩
      have sT : Same Ha H4 := e4 ▸ same_new nT
      have a4 : H4 T' = some (.tup [.int (j : Int), .str f]) := by rw [e4]; exact upd_same
      rw [← e4]
      have hna4 := sT _ _ hna
      have hq4 := sT _ _ hq
      have da4 := da.mono sT
      refine ⟨T', _, rfl, .inl (.inl a4), rfl, ?_⟩
      refine ⟨_, _, rfl, _, _, rfl, rfl, ?_⟩
      -- the drawn parent
      refine ⟨_, rfl, by show 1 ≤ sizeLine; omega, fun p1 m1 => ⟨_, rfl, _, rfl, _, rfl, pn, fs.map V.str, rfl, SqL.of (by rw [upd_ne (ne_of_none hna4 m1)]; exact hna4), fun p2 m2 => ⟨p1, p2, [.str ""], _, rfl, rfl, by rw [upd_ne (ne_of_none upd_same m2), upd_same], upd_same, ?_, fun pa ma => ?_⟩⟩⟩
      · have := cutV_length (fs.map V.str) none (some (j : Int))
        rw [List.length_map] at this
        show 1 + _ ≤ sizeLine
        omega
      rw [cut_take (by rw [List.length_map]; omega), ← List.map_take] at ma ⊢
      obtain ⟨H5, e5⟩ : ∃ X, X = upd (upd (upd H4 p1 (.lst [.str ""])) p2 (.lst ((fs.take j).map V.str))) pa (.lst ([.str ""] ++ (fs.take j).map V.str)) := ⟨_, rfl⟩
      have s5 : Same H4 H5 := e5 ▸ ((same_new m1).trans (same_new m2)).trans (same_new ma)
      have at5 : H5 pa = some (.lst ((("" : Str) :: fs.take j).map V.str)) := by rw [e5, upd_same] <;> rfl
      have pad : pa ≠ d ∧ pa ≠ c := ((da4.mono (same_new m1)).mono (same_new m2)).apart ma
      rw [← e5]
      have dr5 := da4.mono s5
      refine ⟨d, c, _, (("" : Str) :: fs.take j).length, (fun _ x => ∃ z, x = .str z ∧ z ∈ (("" : Str) :: fs.take j)), rfl, dr5, .inl ⟨pa, _, rfl, pad.1, pad.2, at5, by rw [List.length_map], items_strs fun z hz => hz⟩, Nat.succ_pos _, by rw [List.length_cons, List.length_take]; omega, fun i x H6 px dr6 k6 => ?_⟩
      obtain ⟨z, rfl, mz⟩ := px
      have hz0 : z = "" ∨ z ∈ fs.take j := List.mem_cons.mp mz
      have hq6 := k6 q _ qd.1 qd.2 (s5 _ _ hq4)
      have hn6 := k6 pn _ pnd.1 pnd.2 (s5 _ _ hna4)
      refine ⟨_, rfl, _, rfl, q, _, rfl, DPut.k (k := Sum.inr f) hq6 (by rw [prs_len]; omega), ?_⟩
      rw [put_new fresh]
      have K6 : Keep d c H H6 := ((ka.trans (Keep.of_same sT)).trans (Keep.of_same s5)).trans k6
      obtain ⟨H7, e7⟩ : ∃ X, X = upd H6 q (.dK (prs (t ++ [(f, z)]))) := ⟨_, rfl⟩
      have hq7 : H7 q = some (.dK (prs (t ++ [(f, z)]))) := by rw [e7]; exact upd_same
      have dr7 : DrawAt H7 d c := by rw [e7]; exact dr6.off qd.1 qd.2
      have qn : pn ≠ q := ne_of hn6 hq6 (by intro z; cases z)
      have hn7 : H7 pn = some (.lst (fs.map V.str)) := by rw [e7, upd_ne qn]; exact hn6
      have K7 : Keep d c H H7 := by rw [e7]; exact K6.put nq0
      rw [← e7]
      have lj : j < fs.length := by omega
      -- an item of the list with roots in front
      have row : ∀ (m : Nat) (hm : 1 ≤ m), ∃ zz, ((List.replicate m (V.str "")) ++ fs.map V.str)[j]? = some (.str zz) ∧ (zz = "" ∨ zz ∈ fs.take j) := fun m hm => by
        by_cases lt : j < m
        · exact ⟨"", by rw [List.getElem?_append_left (by rw [List.length_replicate]; exact lt), List.getElem?_replicate, if_pos lt], .inl rfl⟩
        · refine ⟨fs[j - m]'(by omega), ?_, .inr ?_⟩
          · rw [List.getElem?_append_right (by rw [List.length_replicate]; omega), List.length_replicate, List.getElem?_map, List.getElem?_eq_getElem (by omega)] <;> rfl
          · rw [List.mem_take_iff_getElem]
            exact ⟨j - m, by omega, rfl⟩
      -- the end of a turn
      have fin : ∀ (z' : Str) (H' : Hp), (z' = "" ∨ z' ∈ fs.take j) → DrawAt H' d c → H' pn = some (.lst (fs.map V.str)) → Keep d c H H' → H' q = some (.dK (prs (t ++ [(f, z')]))) →
          (∃ u5 u6, ([some (.ref d), some (.int (n : Int)), some (.ref pn), some (.int way), some (.ref q), some (.int (j : Int)), some (.str f)] : St) = [some (.ref d), some (.int (n : Int)), some (.ref pn), some (.int way), some (.ref q), u5, u6]) ∧ DrawAt H' d c ∧ H' pn = some (.lst (fs.map V.str)) ∧ Keep d c H H' ∧
          ∃ t : List (Str × Str), H' q = some (.dK (prs t)) ∧ t.map Prod.fst = fs.take (j + 1) ∧ ∀ (i : Nat) (p : Str × Str), t[i]? = some p → p.2 = "" ∨ p.2 ∈ fs.take i := fun z' H' hz' d' n' k' q' => by
        refine ⟨⟨_, _, rfl⟩, d', n', k', t ++ [(f, z')], q', by rw [List.map_append, et, take_more hf] <;> rfl, fun i p h => ?_⟩
        by_cases hi : i < t.length
        · rw [List.getElem?_append_left hi] at h
          exact up i p h
        · have hl := (List.getElem?_eq_some_iff.mp h).1
          rw [List.length_append] at hl
          have one : ([(f, z')] : List (Str × Str)).length = 1 := rfl
          have ei : i = t.length := by omega
          subst ei
          rw [List.getElem?_append_right (Nat.le_refl _), Nat.sub_self] at h
          have ep : (f, z') = p := Option.some.inj h
          subst ep
          rw [show t.length = j by omega]
          exact hz'
      refine ⟨_, rfl, rfl, _, rfl, ?_⟩
      refine ite2 (fun y0 => ?_) (fun n0 => ?_)
      · -- a chain
        have e0 : way = 0 := V.int.inj (of_decide_eq_true y0)
        subst e0
        obtain ⟨zz, hz, hz'⟩ := row 1 (Nat.le_refl _)
        refine ⟨by show 1 ≤ sizeLine; omega, fun p1 m1 => ⟨_, rfl, p1, pn, [.str ""], fs.map V.str, rfl, rfl, upd_same, by rw [upd_ne (ne_of_none hn7 m1)]; exact hn7, by rw [List.length_map]; show 1 + _ ≤ sizeLine; omega, fun p2 m2 => ?_⟩⟩
        obtain ⟨H8, e8⟩ : ∃ X, X = upd (upd H7 p1 (.lst [.str ""])) p2 (.lst ([.str ""] ++ fs.map V.str)) := ⟨_, rfl⟩
        have s8 : Same H7 H8 := e8 ▸ (same_new m1).trans (same_new m2)
        have a8 : H8 p2 = some (.lst ([.str ""] ++ fs.map V.str)) := by rw [e8]; exact upd_same
        rw [← e8]
        refine ⟨_, rfl, p2, _, _, .str zz, rfl, rfl, SqL.of a8, atI_nat hz, ?_⟩
        have hq8 := s8 _ _ hq7
        refine ⟨_, rfl, _, rfl, q, _, rfl, DPut.k (k := Sum.inr f) hq8 (by rw [prs_len, List.length_append]; show _ + 1 < _; omega), ?_⟩
        rw [put_old fresh]
        refine ⟨_, rfl, rfl, _, rfl, iteF ?_⟩
        exact fin zz _ hz' ((dr7.mono s8).off qd.1 qd.2) (by rw [upd_ne qn]; exact s8 _ _ hn7) ((K7.trans (Keep.of_same s8)).put nq0) upd_same
      · refine ⟨_, rfl, rfl, _, rfl, ?_⟩
        refine ite2 (fun y1 => ?_) (fun n1 => ?_)
        · -- two chains
          have e0 : way = 1 := V.int.inj (of_decide_eq_true y1)
          subst e0
          obtain ⟨zz, hz, hz'⟩ := row 2 (by omega)
          refine ⟨by show 2 ≤ sizeLine; omega, fun p1 m1 => ⟨_, rfl, p1, pn, [.str "", .str ""], fs.map V.str, rfl, rfl, upd_same, by rw [upd_ne (ne_of_none hn7 m1)]; exact hn7, by rw [List.length_map]; show 2 + _ ≤ sizeLine; omega, fun p2 m2 => ?_⟩⟩
          obtain ⟨H8, e8⟩ : ∃ X, X = upd (upd H7 p1 (.lst [.str "", .str ""])) p2 (.lst ([.str "", .str ""] ++ fs.map V.str)) := ⟨_, rfl⟩
          have s8 : Same H7 H8 := e8 ▸ (same_new m1).trans (same_new m2)
          have a8 : H8 p2 = some (.lst ([.str "", .str ""] ++ fs.map V.str)) := by rw [e8]; exact upd_same
          rw [← e8]
          refine ⟨_, rfl, p2, _, _, .str zz, rfl, rfl, SqL.of a8, atI_nat hz, ?_⟩
          have hq8 := s8 _ _ hq7
          refine ⟨_, rfl, _, rfl, q, _, rfl, DPut.k (k := Sum.inr f) hq8 (by rw [prs_len, List.length_append]; show _ + 1 < _; omega), ?_⟩
          rw [put_old fresh]
          exact fin zz _ hz' ((dr7.mono s8).off qd.1 qd.2) (by rw [upd_ne qn]; exact s8 _ _ hn7) ((K7.trans (Keep.of_same s8)).put nq0) upd_same
        · exact fin z H7 hz0 dr7 hn7 K7 hq7
    · intro σ' H4 ⟨⟨u5, u6, e⟩, da, hna, ka, t, hq, et, up⟩
      subst e
      rw [List.length_map, List.take_length] at et
      have lt := congrArg List.length et
      rw [List.length_map] at lt
      have tr : TreeOk t := tree_of (by omega) (by omega) (by rw [et]; exact nd) (by rw [et]; exact ok) (by rw [et]; exact up)
      refine ⟨_, rfl, _, rfl, d, c, pn, fs, rfl, da, .inl (SqL.of hna), by omega, sok, fun r ys H5 pm nr er d5 k5 => ⟨r, rfl, ⟨_, SqL.of er⟩, fun D nD => ?_⟩⟩
      have hq5 := k5 q _ qd.1 qd.2 hq
      have rd := da.apart nr
      have Dd := d5.apart nD
      have ly := pm.length_eq
      refine lc_it walk_list (fun i H' => Same H5 H' ∧ ∃ rs : List Addr, H' D = some (.lst (rs.map V.ref)) ∧ PrG (fun a => .str ((par t a).getD "")) H' rs (ys.take i)) ⟨same_new nD, [], upd_same, .nil⟩ (fun i H' _ z => SqL.of (z.1 _ _ er)) ?_ ?_
      · intro i y Ha Hb hi ⟨q1, rs, hD, pr⟩ ⟨eb, ex⟩
        subst eb
        obtain ⟨a, ha, rfl⟩ := map_of ex
        have ma : a ∈ t.map Prod.fst := by rw [et]; exact pm.mem_iff.mp (List.mem_of_getElem? ha)
        obtain ⟨pa, hp⟩ := par_some tr.nd ma
        have lr := pr.len
        rw [List.length_take] at lr
        refine ⟨rfl, ?_⟩
        refine ⟨_, rfl, _, rfl, _, rfl, q, .str pa, rfl, ?_, by show 2 ≤ sizeLine; omega, fun tq ntq => ?_⟩
        · have z := DGet.k (k := Sum.inr a) (q1 _ _ hq5)
          rw [val_prs, hp] at z
          exact z
        · have sq : Same Hb (upd Hb tq (.tup [.str a, .str pa])) := same_new ntq
          refine ⟨_, sq _ _ hD, by rw [List.length_map]; omega, (q1.trans sq).put nD, rs ++ [tq], by rw [upd_same, List.map_append] <;> rfl, ?_⟩
          rw [take_more ha]
          refine PrG.push (sq _ _ hD) (PrG.snoc ?_ (pr.mono sq))
          rw [upd_same, hp] <;> rfl
      · intro H6 ⟨q1, rs, hD, pr⟩
        rw [List.length_map, List.take_length] at pr
        refine ⟨D, rs, _, rfl, SqL.of hD, pr.kvs, fun p np => ?_⟩
        have ndy : ys.Nodup := pm.nodup_iff.mpr nd
        rw [merge_nd (by rw [map_fst]; exact ndy)]
        have K5 : Keep d c H H6 := (ka.trans k5).trans (Keep.of_same q1)
        have d6 := d5.mono q1
        have pd := d6.apart np
        have pairs : (ys.map fun a => (a, (par t a).getD "")).Perm t := by
          refine perm_pairs tr.nd ?_ fun x hx => ?_
          · rw [List.map_map, et]
            have e : (Prod.fst ∘ fun a : Str => (a, (par t a).getD "")) = id := rfl
            rw [e, List.map_id]
            exact pm
          · obtain ⟨a, ha, rfl⟩ := List.mem_map.mp hx
            obtain ⟨pa, hp⟩ := par_some tr.nd (show a ∈ t.map Prod.fst by rw [et]; exact pm.mem_iff.mp ha)
            rw [hp]
            exact par_mem hp
        refine k p (ys.map fun a => (a, (par t a).getD "")) _ (tr.perm pairs.symm) (by rw [List.length_map]; omega) (K5.free np pd.1 pd.2) ?_ (d6.mono (same_new np)) (K5.trans (Keep.of_same (same_new np)))
        rw [upd_same]
        unfold prs
        rw [List.map_map] <;> rfl
end
end FT


/-! Own: repr over the layer. repr asks what calls of repr are under way (A.guards), and the layer's contracts do not tell it: a contract FnG that tells it too, its rule for a def's body, its call, the end. -/
namespace L2
open PySem PySem.Spec PyProof.Rows
/-- no repr is under way -/
abbrev Clr (A : Around) : Prop := A.guards = some []
theorem Clr.deeper {A : Around} {env : Env} (h : Clr A) : Clr (A.deeper env) := by
  have h' : A.guards = some [] := h
  show (A.deeper env).guards = some []
  first
    | exact h'
    | (simp [Around.deeper, h', pushGuards, Code.guards, Code.isGuard])
structure FnG (P : Program) (w : World) (K : PySem.W.Frag) (mg : Str → Option Value) (base : Heap) (CX : CXT) (k : Nat) (f : Addr) (fd : FuncData) (ps : List Str) (sp : Sp) : Prop where
  len : ∀ vs H Q E, sp vs H Q E → vs.length = ps.length
  run : ∀ (A : Around) (outer : List Env) (s : Shared) (H : Hp) (args : Args) (us : List Value) (vs : List V) (Q : VK) (E : XK), Clr A → Room k A → Env0 P w K mg base A outer s H → BindsTo s fd args (ps.zip us) → Vals vs us → sp vs H Q E →
    codeAny (model P w) A (.call (.ref f) args) (CR CX outer P w H s Q E) s
theorem FnOk.g {P : Program} {w : World} {K : PySem.W.Frag} {mg : Str → Option Value} {base : Heap} {CX : CXT} {k : Nat} {f : Addr} {fd : FuncData} {ps : List Str} {sp : Sp} (F : FnOk P w K mg base CX k f fd ps sp) : FnG P w K mg base CX k f fd ps sp :=
  ⟨F.len, fun A outer s H args us vs Q E _ => F.run A outer s H args us vs Q E⟩
section
variable {P : Program} {w : World} {K : PySem.W.Frag} {mg : Str → Option Value} {base : Heap}
/-- a def by its body, where nothing is raised out of it -/
theorem Fun.okG {x qual : Str} {st : Stmt} {f : Addr} {fd : FuncData} {N ps : List Str} {k : Nat} {sp : Sp} (F : Fun K x qual st f fd) (S : FnScope N ps (defScope st)) (len : ∀ vs H Q E, sp vs H Q E → vs.length = ps.length)
    (body : ∀ (cdv : Value) (A : Around) (outer : List Env) (s : Shared) (H : Hp) (vs : List V) (Q : VK) (E : XK), Clr A → Room k (A.deeper (envOfC qual (defScope st) s.heap.objs.size f cdv)) → sp vs H Q E →
      ∃ t, PSs (cxOf CX0 P w K mg base N qual (defScope st) f cdv A outer s H E).nox (defBody st) t ∧ t { nx := fun _ H' => Q .non H', rt := Q } (start N vs) H) : FnG P w K mg base CX0 (k + 1) f fd ps sp := by
  obtain ⟨oc, od, kV, doc, pm, an, cdv, ct, osl, rfl, lk, code⟩ := F.ex
  refine ⟨len, fun A outer s H args us vs Q E clr room e0 binds rel want => ?_⟩
  have nps := len _ _ _ _ want
  have KX : K.In s.heap := e0.mod.kin.keeps fun b o e => (e0.bs b o e).1
  have lim : s.heap.NoLimit := e0.mod.nolimit.keeps fun b o e => (e0.bs b o e).1
  refine codeAny_call_function room.depth (KX _ _ lk) rfl S.co S.gen rfl (PySem.W.codeRec_of KX code) (binds _ _ _ _ (wpAny_newFunctionEnv_cells S.kind (fun y hy => ?_) fun env he s1 x => ?_))
  · obtain ⟨n, v⟩ := y
    exact (S.par n (List.of_mem_zip hy).1).elim .inl fun q => .inr ⟨q, PySem.W.cellsFrom_some _ _ _ (.inl q)⟩
  · subst he
    obtain ⟨t, term, q⟩ := body cdv A outer s H vs Q E clr (room.deeper _) want
    have I : Inv (cxOf CX0 P w K mg base N qual (defScope st) f cdv A outer s H E) [] (start N vs) H s1 := inv_start S room.hd e0 nps rel x
    refine ⟨lim.keeps x.toInCall.keep, codeAny_func (wpAny_mono (term.nox.run [] s1 (start N vs) H _ I q) (fun fl s' z => ?_) fun _ _ z => z)⟩
    match fl, z with
    | .ret u, ⟨v, _, H', J, rv, q⟩ => exact ⟨v, H', J.os, J.bare, J.base, J.hok, rv, q⟩
    | .next, ⟨_, H', J, q⟩ => exact ⟨.non, H', J.os, J.bare, J.base, J.hok, rfl, q⟩
    | .brk, ⟨_, _, _, q⟩ => exact q.elim
    | .cont, ⟨_, _, _, q⟩ => exact q.elim
end
section
variable {X : Cx} {CX : CXT} {k : Nat} {f : Addr} {fd : FuncData} {ps : List Str} {sp : Sp} {dvs : List V} {ds : List Value} {E : XK} {x : Str} {p pos : Pos} {e : Expr} {es : List Expr} {t : TA}
/-- f(e, ..), f of such a contract -/
theorem pe_callG (F : FnG X.prog X.w X.K X.mg X.base CX k f fd ps sp) (clr : Clr X.A) (hr : Room k X.A) (hg : Gl X x) (hm : X.mg x = some (.ref f)) (hk : PySem.W.keepIn X.K (.ref f) = true) (hb : Binds X.K fd ps ds) (hd : Vals dvs ds) (hx : Passes CX X E)
    (ha : PA X (e :: es) t) (dbg : (x == ("__debug__" : Str)) = false := by decide) (one : starEach (e :: es) X.env = (false, eval e X.env) :: starEach es X.env := by rfl) (plain : (backTo pos (starEach es X.env)).any (·.1) = false := by rfl) :
    PE X (.Call (.Name x p) (e :: es) [] pos) (tCall sp dvs E t) := by
  refine ⟨fun pins s σ H Q I h => wpAny_Call_Name_kw (ld_glob I hg hm ?_ dbg)⟩
  refine PySem.W.callWith_K (h₀ := X.base) I.ok.mod.kin hk (thn (ha.run pos pins s σ H _ I h) fun us s1 ⟨vs, H1, J, rel, want⟩ => ⟨J.kIn, ?_⟩) one plain
  have r2 : Vals (vs ++ dvs) (us ++ ds) := rel.append hd
  have len : (us ++ ds).length = ps.length := r2.length.symm.trans (F.len _ _ _ _ want)
  refine wpAny_call (codeAny_mono (F.run X.A X.stack s1 H1 ⟨us, []⟩ (us ++ ds) (vs ++ dvs) Q E clr hr J.env0 (hb s1 us J.kIn len) r2 want) fun r s' z => ?_)
  match r, z with
  | .error er, z => exact hx pins σ H1 s1 er s' J z
  | .ok (.ret u), z => exact J.after z
  | .ok .next, z => exact z.elim
  | .ok .brk, z => exact z.elim
  | .ok .cont, z => exact z.elim
/-! ### repr -/
/-- what is shown: data without dicts, or the empty dict -/
def Shw (K : PySem.W.Frag) (H : Hp) (x : V) (d : PyData) : Prop := (Dp K H x d ∧ d.hasDict = false) ∨ ∃ a, x = .ref a ∧ H a = some (.dK []) ∧ d = .dict []
def rRepr (K : PySem.W.Frag) : List V → Hp → VK → Prop := fun xs H Q => ∃ (x : V) (d : PyData), xs = [x] ∧ Shw K H x d ∧ d.showable = true ∧ d.depth ≤ 60 ∧ d.shown.length ≤ sizeLine ∧ Q (.str d.shown) H
theorem Shw.reads {pins : List (Addr × Obj)} {σ : St} {H : Hp} {s : Shared} {x : V} {u : Value} {d : PyData} (h : Shw X.K H x d) (I : Inv X pins σ H s) (r : RelV x u) : ∃ as, Reads s.heap u d as ∧ (d.hasDict = true → sysModules ∉ as) := by
  rcases h with ⟨h, nd⟩ | ⟨a, rfl, e, rfl⟩
  · obtain ⟨as, q⟩ := Dp.reads I d x u h r
    exact ⟨as, q, PyData.noDict_hsm nd⟩
  · obtain rfl : u = Value.ref a := r
    obtain ⟨_, ns, vs, kv, o, es, ep, h1, h2, h3, h4⟩ := (show ObjOk X.prog X.w H s.heap a (.dK []) from I.hok a _ e)
    cases kv
    have hes : es.toList = [] := by
      obtain ⟨_, h5, _⟩ := h4
      revert h5
      generalize es.toList = l
      intro h5
      cases h5
      rfl
    refine ⟨a :: [] ++ [], .dict h1 h2.1 h3 (by rw [hes]; exact .nil) (by rw [hes]; exact .nil), fun _ hm => ?_⟩
    have hm' : sysModules = a := by simpa using hm
    rw [hm'] at ns
    simp at ns
theorem call_repr (clr : Clr X.A) (hu : X.A.units + 64 < cLine) : CallR X (.builtin "repr") (rRepr X.K) := by
  intro pins s σ H xs us Q I r h
  obtain ⟨x, d, rfl, sh, ok, dep, few, q⟩ := h
  obtain ⟨u, rfl, ru⟩ := vals1 r
  obtain ⟨as, rd, sm⟩ := sh.reads I ru
  have fin : ∀ h' (t : Tok) tk, (∀ b o, s.heap.get? b = some o → h'.get? b = some o) → EP X pins σ Q (.str d.shown t) { s with heap := h', toks := tk } := fun h' t tk kp => ⟨.str d.shown, H, I.kept kp, ⟨t, rfl⟩, q⟩
  cases u with
  | ref a => exact repr_of_reads' rd ok sm clr (by omega) (fun _ _ z => z) fin few
  | none => cases rd; exact PySem.P.repr_of_none (fin _ _ _ fun _ _ z => z)
  | bool b => cases rd; exact PySem.P.repr_of_bool (fin _ _ _ fun _ _ z => z)
  | int i t => cases rd; exact PySem.P.repr_of_int (by simpa [PyData.showable] using ok) (fin _ _ _ fun _ _ z => z)
  | str y t => cases rd; exact PySem.P.repr_of_str (fin _ _ _ fun _ _ z => z) few
  | _ => cases rd
end
end L2


/-! Own: the end of a law's row from a contract FnG (the library's walk_of asks FnOk). -/
namespace L2
open PySem PySem.Spec PyProof.Rows
section
variable {P : Program} {w : World} {K : PySem.W.Frag} {mg mb : Str → Option Value} {k : Nat} {fa a : Addr} {fd : FuncData} {x : Str} {sp : Sp} {s : Shared} {vs : List Value} {ns : List Int}
/-- the abstract heap at the law's entry: the script alone, locked; or nothing, where the script is the module's own -/
abbrev Entry (K : PySem.W.Frag) (a : Addr) (H : Hp) : Prop := (∀ b, H b ≠ none → b = a) ∧ (H a ≠ none → K.lookup a = none)
theorem entry_run (KX : K.In s.heap) (hns : s.heap.Ns mainGlobals mg) (hb : s.heap.Ns builtinsNs mb) (hbb : ∀ y : Str, y ≠ "__name__" → mb y = bootBuiltins y) (lim : s.heap.NoLimit) (gens : s.gens = #[])
    (oa : s.heap.get? a = some { cls := .type "list", data := .seq vs.toArray }) (room : Room k callerA) (F : ∀ base : Heap, K.In base → base.Ns mainGlobals mg → FnG P w K mg base CX0 k fa fd [x] sp)
    (bind : ∀ (s : Shared) (u : Value), BindsTo s fd ⟨[u], []⟩ [(x, u)]) {H : Hp} (only : Only H) (ok : HOk P w H s.heap) (en : Entry K a H) (want : sp [.ref a] H (fun v _ => v = .bl true) fun _ _ _ => False) :
    codeAny (model P w) callerA (.call (.ref fa) ⟨[.ref a], []⟩) (fun r s' => r = .ok (.ret (.bool true)) ∧ OldK s.heap s'.heap ∧ s'.os = s.os ∧ AllBare s'.gens) s := by
  obtain ⟨e1, e2⟩ := en
  have isA : ∀ {b : Addr} {u : HO}, H b = some u → b = a := fun {b u} q => e1 b fun z => by
    rw [z] at q
    cases q
  -- an address at which another object stands is not tracked
  have out : ∀ {b : Addr}, b ≠ a → H b = none := fun {b} ne => by
    cases q : H b with
    | none => rfl
    | some u => exact absurd (isA q) ne
  have dictNe : ∀ {b : Addr} {o : Obj} {es : Array DictEntry} {ep : Nat}, s.heap.get? b = some o → o.data = .dict es ep → b ≠ a := fun {b o es ep} q d z => by
    subst z
    rw [oa] at q
    cases q
    cases (show Data.seq vs.toArray _ = Data.dict es ep from d)
  have seen : ∀ {b : Addr} {o : Obj}, s.heap.get? b = some o → H b = none → (hidT s.heap H).get? b = some o := fun q n => hidT_get q n
  have nsT : ∀ {b : Addr} {m : Str → Option Value}, s.heap.Ns b m → (hidT s.heap H).Ns b m := fun ⟨o, es, ep, q, d, r⟩ => ⟨o, es, ep, seen q (out (dictNe q d)), d, r⟩
  have KT : K.In (hidT s.heap H) := fun b o q => seen (KX b o q) (by
    by_cases z : b = a
    · subst z
      cases r : H b with
      | none => rfl
      | some u =>
        rw [e2 (by rw [r]; exact fun z => nomatch z)] at q
        cases q
    · exact out z)
  have e0 : Env0 P w K mg (hidT s.heap H) callerA [] s H :=
    ⟨rfl, ⟨KT, nsT hns, ⟨mb, nsT hb, hbb⟩, let ⟨m, z1, z2⟩ := lim; ⟨m, nsT z1, z2⟩⟩, fun b o q => of_hidT q, Nat.le_of_eq (hidT_size _ _), trivial, fun b z => absurd (show b ∈ ([] : List Addr) from z) (by simp), ok, .of_eq gens⟩
  refine codeAny_mono ((F _ KT (nsT hns)).run callerA [] s H ⟨[.ref a], []⟩ [.ref a] [.ref a] _ _ rfl room e0 (bind s (.ref a)) (.cons rfl .nil) want) fun r s' z => ?_
  match r, z with
  | .error _, z => exact z.elim
  | .ok .next, z => exact z.elim
  | .ok .brk, z => exact z.elim
  | .ok .cont, z => exact z.elim
  | .ok (.ret u), ⟨v, H', os, bare, un, ok', rv, q⟩ =>
    obtain rfl : v = .bl true := q
    obtain rfl : u = Value.bool true := rv
    refine ⟨rfl, .of_keep fun b o q => ?_, os, bare⟩
    rcases only b with n | ⟨o2, xs, n⟩
    · exact un.keep b o q n (fun z => absurd (show b ∈ ([] : List Addr) from z) (by simp)) (by simp)
    · have q1 := (ok b _ n).1
      rw [q] at q1
      cases q1
      exact (ok' b _ (un.frzs b o _ n)).1
theorem entry_call (KX : K.In s.heap) (hns : s.heap.Ns mainGlobals mg) (hb : s.heap.Ns builtinsNs mb) (hbb : ∀ y : Str, y ≠ "__name__" → mb y = bootBuiltins y) (lim : s.heap.NoLimit) (gens : s.gens = #[])
    (oa : s.heap.get? a = some { cls := .type "list", data := .seq vs.toArray }) (hi : IntsAre vs ns) (few : ns.length ≤ sizeLine) (room : Room k callerA) (F : ∀ base : Heap, K.In base → base.Ns mainGlobals mg → FnG P w K mg base CX0 k fa fd [x] sp)
    (bind : ∀ (s : Shared) (u : Value), BindsTo s fd ⟨[u], []⟩ [(x, u)]) (want : ∀ H : Hp, Only H → SqL K H a (ns.map V.int) → sp [.ref a] H (fun v _ => v = .bl true) fun _ _ _ => False) :
    codeAny (model P w) callerA (.call (.ref fa) ⟨[.ref a], []⟩) (fun r s' => r = .ok (.ret (.bool true)) ∧ OldK s.heap s'.heap ∧ s'.os = s.os ∧ AllBare s'.gens) s := by
  have rv := vals_ints hi
  have len := hi.length
  cases own : K.lookup a with
  | some o =>
    have q := KX a o own
    rw [oa] at q
    cases q
    have no : ∀ b, ¬ ((fun _ => none : Hp) b ≠ none) := fun b z => z rfl
    exact entry_run KX hns hb hbb lim gens oa room F bind (H := fun _ => none) (fun _ => .inl rfl) (fun b u z => nomatch (show (none : Option HO) = some u from z)) ⟨fun b z => (no b z).elim, fun z => (no a z).elim⟩
      (want _ (fun _ => .inl rfl) (.inr ⟨_, vs.toArray, _, own, rfl, rfl, rfl, by rw [List.size_toArray, len]; exact few, by simpa using rv⟩))
  | none =>
    obtain ⟨H, hH⟩ : ∃ H : Hp, H = fun b => if b = a then some (.frz { cls := .type "list", data := .seq vs.toArray } (.lst (ns.map V.int))) else none := ⟨_, rfl⟩
    have at_ : H a = some (.frz { cls := .type "list", data := .seq vs.toArray } (.lst (ns.map V.int))) := by rw [hH]; exact if_pos rfl
    have off : ∀ {b}, b ≠ a → H b = none := fun {b} z => by rw [hH]; exact if_neg z
    have only : Only H := fun b => (Decidable.em (b = a)).elim (fun z => .inr ⟨_, _, z ▸ at_⟩) fun z => .inl (off z)
    refine entry_run KX hns hb hbb lim gens oa room F bind only (fun b u z => ?_) ⟨fun b z => Decidable.byContradiction fun n => z (off n), fun _ => own⟩ (want _ only (.inl (.inr ⟨_, at_⟩)))
    by_cases n : b = a
    · subst n
      rw [at_] at z
      cases z
      exact ⟨oa, by rw [List.length_map]; exact few, vs, _, rv, oa⟩
    · rw [off n] at z
      cases z
end
/-- the goal behind the head, from the law's promise as an FnG -/
theorem walk_ofG {l : PySem.W.OpenLaw} {n k : Nat} {q : Program} {loose : List Str} {XP : (Str → Option Value) → Heap → Prop} {YP : World → Heap → Prop} {d : DefRec} {K : Params → PySem.W.Frag} {sp : World → Sp} {x : Str}
    (most : l.most = some n) (few : n ≤ sizeLine) (nodf : d.params.defaults = []) (room : Room k callerA) (hY : ∀ (w : World) (h : Heap), YP w h → (K w.params).In h)
    (F : ∀ (w : World) (mg : Str → Option Value) (fa : Addr) (h : Heap), (K w.params).In h → h.Ns mainGlobals mg → mg d.name = some (.ref fa) →
      ∃ fd : FuncData, (∀ (s : Shared) (u : Value), BindsTo s fd ⟨[u], []⟩ [(x, u)]) ∧ ∀ base : Heap, (K w.params).In base → base.Ns mainGlobals mg → FnG l.prog w (K w.params) mg base CX0 k fa fd [x] (sp w))
    (want : ∀ (w : World) (H : Hp) (a : Addr) (ns : List Int), ns.length ≤ n → Only H → SqL (K w.params) H a (ns.map V.int) → sp w [.ref a] H (fun v _ => v = .bl true) fun _ _ _ => False) :
    PySem.W.WalkO q loose XP YP l.row.toRowW d [] (fun f vs => PySem.call f vs) :=
  Att.attach_call most nodf fun w _ s mg mb fa _ _ _ _ a vs ns G Y _ _ _ hmg hobj hints hlen hg => by
    have KX := hY w _ Y
    obtain ⟨fd, bind, hF⟩ := F w mg fa _ KX G.T.g hmg
    exact entry_call KX G.T.g G.T.b G.T.builtins G.T.nolimit hg hobj hints (Nat.le_trans hlen few) room hF bind fun H only sq => want w H a ns hlen only sq
end L2


/-! Own: defs that make lambdas (their code object known), and the end of a law's row from a contract FnG with tables of code objects. -/
namespace L2
open PySem PySem.Spec PyProof.Rows LamX
/-- as Fun, the code object's place told -/
structure FunC (K : PySem.W.Frag) (x qual : Str) (st : Stmt) (f : Addr) (fd : FuncData) (c : Addr) : Prop where
  ex : ∃ (oc : Value) (od : Option Addr) (kV doc pm : Value) (an : Option Addr) (ct : Value) (osl : Array (Option Value)),
    fd = PySem.W.fnOf x qual (defArgs st) (defBody st) (defScope st) .none kV doc pm an (.ref c) ct ∧ K.lookup f = some ⟨oc, od, .func fd, osl⟩ ∧ PySem.W.codeIn K (.ref c) qual = true
  kp : PySem.W.keepIn K (.ref f) = true
theorem FunC.fun {K : PySem.W.Frag} {x qual : Str} {st : Stmt} {f c : Addr} {fd : FuncData} (F : FunC K x qual st f fd c) : Fun K x qual st f fd :=
  let ⟨oc, od, kV, doc, pm, an, ct, osl, e1, e2, e3⟩ := F.ex
  ⟨⟨oc, od, kV, doc, pm, an, .ref c, ct, osl, e1, e2, e3⟩, F.kp⟩
theorem funC_mk {K : PySem.W.Frag} {x qual : Str} {st : Stmt} {f c : Addr} {oc : Value} {od an : Option Addr} {osl : Array (Option Value)} {kV doc pm ct : Value} (l : K.lookup f = some ⟨oc, od, .func (PySem.W.fnOf x qual (defArgs st) (defBody st) (defScope st) .none kV doc pm an (.ref c) ct), osl⟩)
    (e : PySem.W.codeIn K (.ref c) qual = true) (k : PySem.W.keepIn K (.ref f) = true) : FunC K x qual st f (PySem.W.fnOf x qual (defArgs st) (defBody st) (defScope st) .none kV doc pm an (.ref c) ct) c := ⟨⟨oc, od, kV, doc, pm, an, ct, osl, rfl, l, e⟩, k⟩
section
variable {P : Program} {w : World} {K : PySem.W.Frag} {mg : Str → Option Value} {base : Heap}
theorem FunC.ok {x qual : Str} {st : Stmt} {f c : Addr} {fd : FuncData} {N ps : List Str} {k : Nat} {sp : Sp} (F : FunC K x qual st f fd c) (S : FnScope N ps (defScope st)) (len : ∀ vs H Q E, sp vs H Q E → vs.length = ps.length)
    (body : ∀ (A : Around) (outer : List Env) (s : Shared) (H : Hp) (vs : List V) (Q : VK) (E : XK), Room k (A.deeper (envOfC qual (defScope st) s.heap.objs.size f (.ref c))) → sp vs H Q E →
      ∃ t, PSs (cxOf CX0 P w K mg base N qual (defScope st) f (.ref c) A outer s H E).nox (defBody st) t ∧ t { nx := fun _ H' => Q .non H', rt := Q } (start N vs) H) : FnOk P w K mg base CX0 (k + 1) f fd ps sp := by
  obtain ⟨oc, od, kV, doc, pm, an, ct, osl, rfl, lk, code⟩ := F.ex
  refine fn_of lk code S len fun A outer s H vs Q E room want => ?_
  obtain ⟨t, h, q⟩ := body A outer s H vs Q E room want
  exact ⟨t, h.nox, q⟩
theorem FunC.okG {x qual : Str} {st : Stmt} {f c : Addr} {fd : FuncData} {N ps : List Str} {k : Nat} {sp : Sp} (F : FunC K x qual st f fd c) (S : FnScope N ps (defScope st)) (len : ∀ vs H Q E, sp vs H Q E → vs.length = ps.length)
    (body : ∀ (A : Around) (outer : List Env) (s : Shared) (H : Hp) (vs : List V) (Q : VK) (E : XK), Clr A → Room k (A.deeper (envOfC qual (defScope st) s.heap.objs.size f (.ref c))) → sp vs H Q E →
      ∃ t, PSs (cxOf CX0 P w K mg base N qual (defScope st) f (.ref c) A outer s H E).nox (defBody st) t ∧ t { nx := fun _ H' => Q .non H', rt := Q } (start N vs) H) : FnG P w K mg base CX0 (k + 1) f fd ps sp := by
  obtain ⟨oc, od, kV, doc, pm, an, ct, osl, rfl, lk, code⟩ := F.ex
  refine ⟨len, fun A outer s H args us vs Q E clr room e0 binds rel want => ?_⟩
  have nps := len _ _ _ _ want
  have KX : K.In s.heap := e0.mod.kin.keeps fun b o e => (e0.bs b o e).1
  have lim : s.heap.NoLimit := e0.mod.nolimit.keeps fun b o e => (e0.bs b o e).1
  refine codeAny_call_function room.depth (KX _ _ lk) rfl S.co S.gen rfl (PySem.W.codeRec_of KX code) (binds _ _ _ _ (wpAny_newFunctionEnv_cells S.kind (fun y hy => ?_) fun env he s1 x => ?_))
  · obtain ⟨n, v⟩ := y
    exact (S.par n (List.of_mem_zip hy).1).elim .inl fun q => .inr ⟨q, PySem.W.cellsFrom_some _ _ _ (.inl q)⟩
  · subst he
    obtain ⟨t, term, q⟩ := body A outer s H vs Q E clr (room.deeper _) want
    have I : Inv (cxOf CX0 P w K mg base N qual (defScope st) f (.ref c) A outer s H E) [] (start N vs) H s1 := inv_start S room.hd e0 nps rel x
    refine ⟨lim.keeps x.toInCall.keep, codeAny_func (wpAny_mono (term.nox.run [] s1 (start N vs) H _ I q) (fun fl s' z => ?_) fun _ _ z => z)⟩
    match fl, z with
    | .ret u, ⟨v, _, H', J, rv, q⟩ => exact ⟨v, H', J.os, J.bare, J.base, J.hok, rv, q⟩
    | .next, ⟨_, H', J, q⟩ => exact ⟨.non, H', J.os, J.bare, J.base, J.hok, rfl, q⟩
    | .brk, ⟨_, _, _, q⟩ => exact q.elim
    | .cont, ⟨_, _, _, q⟩ => exact q.elim
end
section
variable {P : Program} {w : World} {K : PySem.W.Frag} {mg mb : Str → Option Value} {k : Nat} {fa a : Addr} {fd : FuncData} {x : Str} {sp : Sp} {s : Shared} {vs : List Value} {ns : List Int} {cs : List (Addr × Addr)}
/-- the code objects and their tables: empty, not of the written part -/
abbrev TabsIn (K : PySem.W.Frag) (h : Heap) (cs : List (Addr × Addr)) : Prop := ∀ p ∈ cs, PySem.W.CodeHd h p.1 p.2 ∧ h.get? p.2 = some (PySem.W.tabObj #[]) ∧ K.lookup p.2 = none
/-- the abstract heap at the law's entry: the tables, and the script, locked, or where it is the module's own the tables alone -/
structure EntT (K : PySem.W.Frag) (cs : List (Addr × Addr)) (a : Addr) (vs : List Value) (ns : List Int) (H : Hp) : Prop where
  tab : ∀ p ∈ cs, H p.2 = some (.tbl #[])
  dom : ∀ b u, H b = some u → (b = a ∧ u = .frz { cls := .type "list", data := .seq vs.toArray } (.lst (ns.map V.int))) ∨ ∃ p ∈ cs, b = p.2
  own : H a ≠ none → K.lookup a = none
theorem entT_run (KX : K.In s.heap) (hns : s.heap.Ns mainGlobals mg) (hb : s.heap.Ns builtinsNs mb) (hbb : ∀ y : Str, y ≠ "__name__" → mb y = bootBuiltins y) (lim : s.heap.NoLimit) (gens : s.gens = #[]) (ti : TabsIn K s.heap cs)
    (bmain : ∃ (bm : Addr) (ob : Obj), mg "__builtins__" = some (.ref bm) ∧ bm ≠ builtinsNs ∧ s.heap.get? bm = some ob ∧ ob.cls = .type "module" ∧ ob.dict = some builtinsNs ∧ ob.data = .plain)
    (oa : s.heap.get? a = some { cls := .type "list", data := .seq vs.toArray }) (rv : Vals (ns.map V.int) vs) (few : ns.length ≤ sizeLine) (room : Room k callerA)
    (F : ∀ base : Heap, K.In base → base.Ns mainGlobals mg → (∀ p ∈ cs, TabB base mg p.1 p.2) → FnG P w K mg base CX0 k fa fd [x] sp)
    (bind : ∀ (s : Shared) (u : Value), BindsTo s fd ⟨[u], []⟩ [(x, u)]) {H : Hp} (en : EntT K cs a vs ns H) (want : sp [.ref a] H (fun v _ => v = .bl true) fun _ _ _ => False) :
    codeAny (model P w) callerA (.call (.ref fa) ⟨[.ref a], []⟩) (fun r s' => r = .ok (.ret (.bool true)) ∧ OldK s.heap s'.heap ∧ s'.os = s.os ∧ AllBare s'.gens) s := by
  -- what is tracked: a list or a table
  have kinds : ∀ {b : Addr} {o : Obj}, s.heap.get? b = some o → H b ≠ none → o = { cls := .type "list", data := .seq vs.toArray } ∨ o = PySem.W.tabObj #[] := fun {b o} q n => by
    cases r : H b with
    | none => exact absurd r n
    | some u =>
      rcases en.dom b u r with ⟨rfl, _⟩ | ⟨p, hp, rfl⟩
      · rw [oa] at q
        exact .inl (Option.some.inj q).symm
      · rw [(ti p hp).2.1] at q
        exact .inr (Option.some.inj q).symm
  have loose : ∀ {b : Addr} {o : Obj}, s.heap.get? b = some o → (∀ vs n, o.data ≠ .seq vs n) → (o.data = .fields #[] → False) → H b = none := fun {b o} q h1 h2 => by
    refine Decidable.byContradiction fun n => ?_
    rcases kinds q n with e | e
    · exact h1 _ _ (by rw [e])
    · exact h2 (by rw [e])
  have seen : ∀ {b : Addr} {o : Obj}, s.heap.get? b = some o → H b = none → (hidT s.heap H).get? b = some o := fun q n => hidT_get q n
  have dict : ∀ {b : Addr} {o : Obj} {es : Array DictEntry} {ep : Nat}, s.heap.get? b = some o → o.data = .dict es ep → (hidT s.heap H).get? b = some o := fun q d => seen q (loose q (fun vs n z => nomatch d.symm.trans z) fun z => nomatch d.symm.trans z)
  have nsT : ∀ {b : Addr} {m : Str → Option Value}, s.heap.Ns b m → (hidT s.heap H).Ns b m := fun ⟨o, es, ep, q, d, r⟩ => ⟨o, es, ep, dict q d, d, r⟩
  have KT : K.In (hidT s.heap H) := fun b o q => seen (KX b o q) (Decidable.byContradiction fun n => by
    cases r : H b with
    | none => exact n r
    | some u =>
      rcases en.dom b u r with ⟨rfl, _⟩ | ⟨p, hp, rfl⟩
      · rw [en.own n] at q
        cases q
      · rw [(ti p hp).2.2] at q
        cases q)
  have isTab : ∀ b u, H b = some u → ∀ q, u = .tbl q → s.heap.get? b = some (PySem.W.tabObj #[]) ∧ q = #[] := fun b u r q e => by
    rcases en.dom b u r with ⟨_, z⟩ | ⟨p, hp, rfl⟩
    · rw [e] at z
      cases z
    · refine ⟨(ti p hp).2.1, ?_⟩
      have z := en.tab p hp
      rw [r, e] at z
      cases z
      rfl
  have ok : HOk P w H s.heap := fun b u r => by
    rcases en.dom b u r with ⟨rfl, rfl⟩ | ⟨p, hp, rfl⟩
    · exact ⟨oa, by rw [List.length_map]; exact few, vs, _, rv, oa⟩
    · rw [en.tab p hp] at r
      cases r
      exact (ti p hp).2.1
  have TB : ∀ p ∈ cs, TabB (hidT s.heap H) mg p.1 p.2 := fun p hp => by
    obtain ⟨C, tp, _⟩ := ti p hp
    refine ⟨?_, ?_, fun z => ?_⟩
    · obtain ⟨o, us, file, tf, flags, tg, inF, text, tt, e1, r1, r2, r3, r⟩ := C
      refine ⟨o, us, file, tf, flags, tg, inF, text, tt, seen e1 (loose e1 (fun vs n z => nomatch r2.symm.trans z) fun z => ?_), r1, r2, r3, r⟩
      have e := r2.symm.trans z
      cases e
      simp at r3
    · obtain ⟨bm, ob, b1, b2, b3, b4, b5, b6⟩ := bmain
      refine ⟨bm, ob, b1, b2, fun q => ?_, fun q => ?_, seen b3 (loose b3 (fun vs n z => nomatch b6.symm.trans z) fun z => nomatch b6.symm.trans z), b4, b5, b6⟩
      · obtain ⟨o, es, ep, e, hd, _⟩ := hns
        rw [q, e] at b3
        cases b3
        cases hd.symm.trans b6
      · rw [q, tp] at b3
        cases b3
        cases b6
    · obtain ⟨o, es, ep, e, hd, _⟩ := hns
      rw [z, tp] at e
      cases e
      cases hd
  have e0 : Env0 P w K mg (hidT s.heap H) callerA [] s H :=
    ⟨rfl, ⟨KT, nsT hns, ⟨mb, nsT hb, hbb⟩, let ⟨m, z1, z2⟩ := lim; ⟨m, nsT z1, z2⟩⟩, fun b o q => of_hidT q, Nat.le_of_eq (hidT_size _ _), trivial, fun b z => absurd (show b ∈ ([] : List Addr) from z) (by simp), ok, .of_eq gens⟩
  refine codeAny_mono ((F _ KT (nsT hns) TB).run callerA [] s H ⟨[.ref a], []⟩ [.ref a] [.ref a] _ _ rfl room e0 (bind s (.ref a)) (.cons rfl .nil) want) fun r s' z => ?_
  match r, z with
  | .error _, z => exact z.elim
  | .ok .next, z => exact z.elim
  | .ok .brk, z => exact z.elim
  | .ok .cont, z => exact z.elim
  | .ok (.ret u), ⟨v, H', os, bare, un, ok', rv', q⟩ =>
    obtain rfl : v = .bl true := q
    obtain rfl : u = Value.bool true := rv'
    -- an object stays, or is a table that has grown
    have way : ∀ b o, s.heap.get? b = some o → s'.heap.get? b = some o ∨ ∃ p ∈ cs, b = p.2 ∧ ∃ more : Array Value, s'.heap.get? b = some (PySem.W.tabObj more) := fun b o q => by
      cases r : H b with
      | none => exact .inl (un.keep b o q r (fun z => absurd (show b ∈ ([] : List Addr) from z) (by simp)) (by simp))
      | some u =>
        rcases en.dom b u r with ⟨rfl, rfl⟩ | ⟨p, hp, rfl⟩
        · have q1 := (ok b _ r).1
          rw [q] at q1
          cases q1
          exact .inl (ok' b _ (un.frzs b _ _ r)).1
        · obtain ⟨more, z⟩ := un.tbls p.2 #[] (en.tab p hp)
          exact .inr ⟨p, hp, rfl, _, ok' p.2 _ z⟩
    refine ⟨rfl, ⟨fun b o q => ?_, fun b o q => ?_⟩, os, bare⟩
    · rcases way b o q with z | ⟨p, hp, rfl, more, z⟩
      · exact .inl z
      · obtain ⟨C, tp, _⟩ := ti p hp
        rw [tp] at q
        cases q
        exact .inr (.inl ⟨(C.tab tp).isCodeTable, rfl, #[], more, rfl, by rw [Array.empty_append]; exact z⟩)
    · rcases way b o q with z | ⟨_, _, _, more, z⟩
      · exact ⟨o, z⟩
      · exact ⟨_, z⟩
end
/-- the law's promise with its tables -/
def LawTG (l : PySem.W.OpenLaw) (w : World) (K : PySem.W.Frag) (k n : Nat) (x : Str) (mg : Str → Option Value) (fa : Addr) (h : Heap) : Prop :=
  ∃ (fd : FuncData) (cs : List (Addr × Addr)) (sp : Sp), TabsIn K h cs ∧ (∀ (s : Shared) (u : Value), BindsTo s fd ⟨[u], []⟩ [(x, u)]) ∧
    (∀ (H : Hp) (a : Addr) (ns : List Int), ns.length ≤ n → (∀ p ∈ cs, H p.2 = some (.tbl #[])) → SqL K H a (ns.map V.int) → sp [.ref a] H (fun v _ => v = .bl true) fun _ _ _ => False) ∧
    ∀ base : Heap, K.In base → base.Ns mainGlobals mg → (∀ p ∈ cs, TabB base mg p.1 p.2) → FnG l.prog w K mg base CX0 k fa fd [x] sp
/-- what the head tells of a def's table -/
abbrev TabsOf (q : Program) (K : PySem.W.Frag) (h : Heap) : Prop := ∀ (y : Str) (c P : Addr), ((recsOf q).find? (fun e => e.name == y)).isSome = true → PySem.W.tabIn K y = some (c, P) → PySem.W.CodeHd h c P ∧ h.get? P = some (PySem.W.tabObj #[])
/-- the goal behind the head, from such a promise -/
theorem walk_tabG {l : PySem.W.OpenLaw} {n k : Nat} {q : Program} {loose : List Str} {XP : (Str → Option Value) → Heap → Prop} {YP : World → Heap → Prop} {d : DefRec} {K : Params → PySem.W.Frag} {x : Str}
    (most : l.most = some n) (few : n ≤ sizeLine) (nodf : d.params.defaults = []) (room : Room k callerA) (hY : ∀ (w : World) (h : Heap), YP w h → (K w.params).In h)
    (F : ∀ (w : World) (mg : Str → Option Value) (fa : Addr) (h : Heap), (K w.params).In h → h.Ns mainGlobals mg → mg d.name = some (.ref fa) → TabsOf q (K w.params) h → XP mg h → LawTG l w (K w.params) k n x mg fa h) :
    PySem.W.WalkO q loose XP YP l.row.toRowW d [] (fun f vs => PySem.call f vs) :=
  Att.attach_call most nodf fun w _ s mg mb fa _ _ _ _ a vs ns G Y _ _ _ hmg hobj hints hlen hg => by
    have KX := hY w _ Y
    obtain ⟨fd, cs, sp, ti, bind, hsp, hF⟩ := F w mg fa _ KX G.T.g hmg (fun y c P hr ht => let ⟨d', hd⟩ := Option.isSome_iff_exists.mp hr; PySem.W.tab_of G.T KX hd ht) G.X
    have rv := vals_ints hints
    have len := hints.length
    have tne : ∀ p ∈ cs, p.2 ≠ a := fun p hp z => by
      have e := (ti p hp).2.1
      rw [z, hobj] at e
      cases e
    cases own : (K w.params).lookup a with
    | some o =>
      have e := KX a o own
      rw [hobj] at e
      cases e
      obtain ⟨H, eH⟩ : ∃ H : Hp, H = fun b => if b ∈ cs.map (·.2) then some (.tbl #[]) else none := ⟨_, rfl⟩
      have inT : ∀ p ∈ cs, H p.2 = some (.tbl #[]) := fun p hp => by
        rw [eH]
        exact if_pos (List.mem_map.mpr ⟨p, hp, rfl⟩)
      have outT : ∀ b, b ∉ cs.map (·.2) → H b = none := fun b n => by
        rw [eH]
        exact if_neg n
      have na : a ∉ cs.map (·.2) := fun m => by
        obtain ⟨p, hp, e⟩ := List.mem_map.mp m
        exact tne p hp e
      refine entT_run KX G.T.g G.T.b G.T.builtins G.T.nolimit hg ti G.T.bmain hobj rv (Nat.le_trans hlen few) room hF bind (H := H) ⟨inT, fun b u r => .inr ?_, fun z => absurd (outT a na) z⟩
        (hsp H a ns hlen inT (.inr ⟨_, vs.toArray, _, own, rfl, rfl, rfl, by rw [List.size_toArray, len]; exact Nat.le_trans hlen few, by simpa using rv⟩))
      refine Decidable.byContradiction fun n => ?_
      rw [outT b fun m => n (let ⟨p, hp, e⟩ := List.mem_map.mp m; ⟨p, hp, e.symm⟩)] at r
      cases r
    | none =>
      obtain ⟨H, eH⟩ : ∃ H : Hp, H = fun b => if b = a then some (.frz { cls := .type "list", data := .seq vs.toArray } (.lst (ns.map V.int))) else if b ∈ cs.map (·.2) then some (.tbl #[]) else none := ⟨_, rfl⟩
      have atA : H a = some (.frz { cls := .type "list", data := .seq vs.toArray } (.lst (ns.map V.int))) := by rw [eH]; exact if_pos rfl
      have inT : ∀ p ∈ cs, H p.2 = some (.tbl #[]) := fun p hp => by
        rw [eH]
        exact (if_neg (tne p hp)).trans (if_pos (List.mem_map.mpr ⟨p, hp, rfl⟩))
      refine entT_run KX G.T.g G.T.b G.T.builtins G.T.nolimit hg ti G.T.bmain hobj rv (Nat.le_trans hlen few) room hF bind (H := H) ⟨inT, fun b u r => ?_, fun _ => own⟩ (hsp H a ns hlen inT (.inl (.inr ⟨_, atA⟩)))
      by_cases n : b = a
      · subst n
        rw [atA] at r
        exact .inl ⟨rfl, (Option.some.inj r).symm⟩
      · refine .inr (Decidable.byContradiction fun m => ?_)
        rw [eH] at r
        have r' := (if_neg n).symm.trans r
        rw [if_neg fun z => m (let ⟨p, hp, e⟩ := List.mem_map.mp z; ⟨p, hp, e.symm⟩)] at r'
        cases r'
end L2


/-! feasible sizes, dealt out name by name (plain maths) -/
namespace FT
open PySem L2 TL ClX
/-! ### sizes that are drawn -/
theorem szOf_tbl {l : List Str} {sz : Str → Int} {a : Str} (h : a ∈ l) : szOf (tblI l sz) a = sz a := by
  unfold szOf
  rw [tblI_val h]
theorem kids_sub {t : List (Str × Str)} {p a : Str} (h : a ∈ kids t p) : a ∈ t.map Prod.fst := by
  obtain ⟨q, hq, rfl⟩ := List.mem_map.mp h
  exact List.mem_map.mpr ⟨q, (List.mem_filter.mp hq).1, rfl⟩
theorem resid_congr {t : List (Str × Str)} {n : Int} {sz sz' : Str → Int} {p : Str} (h : ∀ a ∈ t.map Prod.fst, sz a = sz' a) (hp : p = "" ∨ sz p = sz' p) : resid t n sz p = resid t n sz' p := by
  unfold resid
  rw [List.map_congr_left fun a ha => h a (kids_sub ha)]
  by_cases e : p = ""
  · rw [if_pos e, if_pos e]
  · rw [if_neg e, if_neg e, hp.resolve_left e]
/-- feasible sizes for n users -/
structure Fea (t : List (Str × Str)) (n : Int) (sz : Str → Int) : Prop where
  nn : ∀ a ∈ t.map Prod.fst, 0 ≤ sz a
  res : ∀ p ∈ (("" : Str) :: t.map Prod.fst), 0 ≤ resid t n sz p
theorem Fea.perm {t u : List (Str × Str)} {n : Int} {sz : Str → Int} (p : t.Perm u) (f : Fea t n sz) : Fea u n sz :=
  ⟨fun a ha => f.nn a ((p.map _).mem_iff.mpr ha), fun q hq => by rw [← resid_perm p]; exact f.res q ((List.mem_cons.mp hq).elim (fun e => e ▸ List.mem_cons_self ..) fun m => List.mem_cons_of_mem _ ((p.map Prod.fst).mem_iff.mpr m))⟩
theorem Fea.ok {CS : Addr} {ts : List (Str × Str)} {n : Int} {sz : Str → Int} {l : List Str} (f : Fea ts n sz) (p : l.Perm (ts.map Prod.fst)) : feE CS ts n (some (tblI l sz)) = none := by
  have e1 : ∀ a ∈ ts.map Prod.fst, valV (tblI l sz) (Sum.inr a) = some (.int (sz a)) := fun a ha => tblI_val (p.mem_iff.mpr ha)
  have ll := p.length_eq
  rw [List.length_map] at ll
  unfold feE
  rw [feas_some, if_neg (by rw [tblI_len]; exact fun z => z ll), if_neg]
  · have e2 : (ts.map Prod.fst).find? (badKey (tblI l sz)) = none := List.find?_eq_none.mpr fun a ha z => by
      unfold badKey at z
      rw [e1 a ha] at z
      have z' : (!decide ((0 : Int) ≤ sz a)) = true := z
      rw [decide_eq_true (f.nn a ha)] at z'
      cases z'
    rw [e2]
    have e3 : ((("" : Str) :: ts.map Prod.fst).find? fun p => decide (resid ts n (szOf (tblI l sz)) p < 0)) = none := List.find?_eq_none.mpr fun q hq z => by
      have z' := of_decide_eq_true z
      rw [resid_congr (sz' := sz) (fun a ha => szOf_tbl (p.mem_iff.mpr ha)) ((List.mem_cons.mp hq).imp id fun h => szOf_tbl (p.mem_iff.mpr h))] at z'
      have := f.res q hq
      omega
    show Option.map _ (Option.map V.str (List.find? _ _)) = none
    rw [e3] <;> rfl
  · intro z
    have : ((ts.map Prod.fst).all fun a => (valV (tblI l sz) (Sum.inr a)).isSome) = true := List.all_eq_true.mpr fun a ha => by rw [e1 a ha] <;> rfl
    rw [this] at z
    cases z
/-- what has been dealt out -/
structure Dealt (t : List (Str × Str)) (n : Int) (l : List Str) (t' : List (Str × Str)) (sz : Str → Int) : Prop where
  keys : t'.map Prod.fst = l
  sub : ∀ p ∈ t', p ∈ t
  par_ : ∀ p ∈ t', p.2 = "" ∨ p.2 ∈ l
  nn : ∀ a ∈ l, 0 ≤ sz a
  res : ∀ p ∈ (("" : Str) :: l), 0 ≤ resid t' n sz p
  top_ : ∀ p ∈ (("" : Str) :: l), resid t' n sz p ≤ n
theorem Dealt.nil {t : List (Str × Str)} {n : Int} {sz : Str → Int} (n0 : 0 ≤ n) : Dealt t n [] [] sz := by
  refine ⟨rfl, fun p h => (by cases h), fun p h => (by cases h), fun a h => (by cases h), fun p h => ?_, fun p h => ?_⟩
  · rw [List.mem_singleton.mp h]
    show 0 ≤ n - 0
    omega
  · rw [List.mem_singleton.mp h]
    show n - 0 ≤ n
    omega
theorem Dealt.step {t t' : List (Str × Str)} {n : Int} {l : List Str} {sz : Str → Int} (d : Dealt t n l t' sz) {a pa : Str} {z : Int} (na : a ∉ l) (ne : a ≠ "") (mt : (a, pa) ∈ t) (mp : pa = "" ∨ pa ∈ l) (z0 : 0 ≤ z) (z1 : z ≤ resid t' n sz pa) :
    Dealt t n (l ++ [a]) (t' ++ [(a, pa)]) (fun x => if x = a then z else sz x) ∧
    (∀ p ∈ (("" : Str) :: (l ++ [a])), resid (t' ++ [(a, pa)]) n (fun x => if x = a then z else sz x) p = if p = pa then resid t' n sz pa - z else if p = a then z else resid t' n sz p) := by
  have kid : kids t' a = [] := by
    unfold kids
    rw [List.filter_eq_nil_iff.mpr fun q hq z => ?_] <;> try rfl
    have e := of_decide_eq_true z
    rcases d.par_ q hq with h | h
    · exact ne (e.symm.trans h)
    · exact na (by rw [← e]; exact h)
  have pne : pa ≠ a := fun e => mp.elim (fun h => ne (e.symm.trans h)) fun h => na (by rw [← e]; exact h)
  have old : ∀ p, p ≠ a → resid t' n (fun x => if x = a then z else sz x) p = resid t' n sz p := fun p hp =>
    resid_congr (fun x hx => if_neg fun e => na (by rw [← e, ← d.keys]; exact hx)) (.inr (if_neg hp))
  have eq : ∀ p ∈ (("" : Str) :: (l ++ [a])), resid (t' ++ [(a, pa)]) n (fun x => if x = a then z else sz x) p = if p = pa then resid t' n sz pa - z else if p = a then z else resid t' n sz p := fun p _ => by
    rw [resid_snoc]
    by_cases h1 : p = pa
    · rw [if_pos h1.symm, if_pos h1, old p (by rw [h1]; exact pne), h1]
      show _ - (if a = a then z else sz a) = _
      rw [if_pos rfl]
    · rw [if_neg (fun e => h1 e.symm), if_neg h1]
      by_cases h2 : p = a
      · rw [if_pos h2, h2]
        unfold resid
        rw [kid, if_neg ne]
        show (if a = a then z else sz a) - 0 = z
        rw [if_pos rfl]
        omega
      · rw [if_neg h2, old p h2]
  refine ⟨⟨by rw [List.map_append, d.keys] <;> rfl, fun p hp => ?_, fun p hp => ?_, fun x hx => ?_, fun p hp => ?_, fun p hp => ?_⟩, eq⟩
  · rcases List.mem_append.mp hp with h | h
    · exact d.sub p h
    · rw [List.mem_singleton.mp h]
      exact mt
  · rcases List.mem_append.mp hp with h | h
    · exact (d.par_ p h).imp id fun m => List.mem_append_left _ m
    · rw [List.mem_singleton.mp h]
      exact mp.imp id fun m => List.mem_append_left _ m
  · show 0 ≤ if x = a then z else sz x
    by_cases e : x = a
    · rw [if_pos e]
      exact z0
    · rw [if_neg e]
      exact d.nn x ((List.mem_append.mp hx).resolve_right fun m => e (List.mem_singleton.mp m))
  · rw [eq p hp]
    by_cases h1 : p = pa
    · rw [if_pos h1]
      omega
    · rw [if_neg h1]
      by_cases h2 : p = a
      · rw [if_pos h2]
        exact z0
      · rw [if_neg h2]
        refine d.res p ((List.mem_cons.mp hp).elim (fun e => e ▸ List.mem_cons_self ..) fun m => List.mem_cons_of_mem _ ?_)
        exact (List.mem_append.mp m).resolve_right fun m => h2 (List.mem_singleton.mp m)
  · rw [eq p hp]
    have tp := d.top_ pa (List.mem_cons.mpr mp)
    by_cases h1 : p = pa
    · rw [if_pos h1]
      omega
    · rw [if_neg h1]
      by_cases h2 : p = a
      · rw [if_pos h2]
        omega
      · rw [if_neg h2]
        refine d.top_ p ((List.mem_cons.mp hp).elim (fun e => e ▸ List.mem_cons_self ..) fun m => List.mem_cons_of_mem _ ?_)
        exact (List.mem_append.mp m).resolve_right fun m => h2 (List.mem_singleton.mp m)
end FT


namespace FT
open PySem L2 TL ClX LamX NdefX
/-! ### tables -/
/-- as Keep, but for the tables of code objects -/
def KeepN (d c : Addr) (H H' : Hp) : Prop := ∀ b o, b ≠ d → b ≠ c → H b = some o → (∀ ps, o ≠ .tbl ps) → H' b = some o
theorem KeepN.trans {d c : Addr} {H H1 H2 : Hp} (a : KeepN d c H H1) (b : KeepN d c H1 H2) : KeepN d c H H2 := fun x o h h' e n => b x o h h' (a x o h h' e n) n
theorem Keep.n {d c : Addr} {H H' : Hp} (k : Keep d c H H') : KeepN d c H H' := fun b o h h' e _ => k b o h h' e
theorem KeepN.of_ext {d c : Addr} {H H' : Hp} (e : ExtN H H') : KeepN d c H H' := fun b o _ _ q n => e b o q n
theorem KeepN.free {d c p : Addr} {H H' : Hp} (k : KeepN d c H H') (n : H' p = none) (n1 : p ≠ d) (n2 : p ≠ c) (t : ∀ ps, H p ≠ some (.tbl ps)) : H p = none := by
  cases e : H p with
  | none => rfl
  | some o =>
    rw [k p o n1 n2 e (fun ps z => t ps (by rw [e, z]))] at n
    cases n
theorem tabs_keep {T : List (Addr × Str)} {d c : Addr} {H H' : Hp} (t : Tabs T H) (dr : DrawAt H d c) (k : Keep d c H H') : Tabs T H' := fun p hp => by
  obtain ⟨nx, mx, ct, cells, h1, h2, _⟩ := dr
  obtain ⟨ps, e1, e2, e3⟩ := t p hp
  have off : ∀ {b : Addr} {o : HO}, H b = some o → (∀ xs, o ≠ .lst xs) → H' b = some o := fun {b o} e n => k b o (fun z => by
    rw [z, h1] at e
    exact n _ (Option.some.inj e).symm) (fun z => by
    rw [z, h2] at e
    exact n _ (Option.some.inj e).symm) e
  refine ⟨ps, off e1 (fun xs z => nomatch z), e2, fun pos cv hc => ?_⟩
  obtain ⟨c', q1, q2⟩ := e3 pos cv hc
  exact ⟨c', q1, off q2 (fun xs z => by unfold CodeO at z; cases z)⟩
/-- neither a table nor a code object -/
def NTab (u : HO) : Prop := (∀ ps, u ≠ .tbl ps) ∧ ∀ c q, u ≠ CodeO c q
theorem NTab.dK {kvs : List (Key × V)} : NTab (.dK kvs) := ⟨fun ps z => (nomatch z), fun c q z => (by unfold CodeO at z; cases z)⟩
theorem NTab.dT {kvs : List (List Key × V)} : NTab (.dT kvs) := ⟨fun ps z => (nomatch z), fun c q z => (by unfold CodeO at z; cases z)⟩
theorem NTab.lst {xs : List V} : NTab (.lst xs) := ⟨fun ps z => (nomatch z), fun c q z => (by unfold CodeO at z; cases z)⟩
theorem NTab.ins {C dx : Addr} {fs : List (Str × V)} : NTab (.ins C dx fs) := ⟨fun ps z => (nomatch z), fun c q z => (by unfold CodeO at z; cases z)⟩
theorem tabs_put {T : List (Addr × Str)} {H : Hp} {p : Addr} {u o : HO} (t : Tabs T H) (e : H p = some u) (n : NTab u) : Tabs T (upd H p o) := fun x hx => by
  obtain ⟨ps, e1, e2, e3⟩ := t x hx
  refine ⟨ps, ?_, e2, fun pos cv hc => ?_⟩
  · rw [upd_ne fun z => ?_]
    · exact e1
    · rw [z, e] at e1
      exact n.1 _ (Option.some.inj e1)
  · obtain ⟨c, q1, q2⟩ := e3 pos cv hc
    refine ⟨c, q1, ?_⟩
    rw [upd_ne fun z => ?_]
    · exact q2
    · rw [z, e] at q2
      exact n.2 _ _ (Option.some.inj q2)
theorem tabs_new {T : List (Addr × Str)} {H : Hp} {p : Addr} {o : HO} (t : Tabs T H) (n : H p = none) : Tabs T (upd H p o) := t.ext (same_new n)
theorem DrawAt.ext {H H' : Hp} {d c : Addr} (x : DrawAt H d c) (e : ExtN H H') : DrawAt H' d c := by
  obtain ⟨nx, mx, ct, cells, h1, h2, r⟩ := x
  exact ⟨nx, mx, ct, cells, e _ _ h1 (fun ps z => nomatch z), e _ _ h2 (fun ps z => nomatch z), r⟩
theorem capt_by {sc scope : Scope} (h : (scope.names.all fun y => !decide (y.2 = .free) || decide (sc.names.lookup y.1 = some .cell) || decide (sc.names.lookup y.1 = some .free)) = true) :
    ∀ y ∈ scope.names, y.2 = .free → sc.names.lookup y.1 = some .cell ∨ sc.names.lookup y.1 = some .free := fun y hy e => by
  have z := List.all_eq_true.mp h y hy
  simp only [Bool.or_eq_true, Bool.not_eq_true', decide_eq_false_iff_not, decide_eq_true_eq] at z
  rcases z with (z | z) | z
  · exact absurd e z
  · exact .inl z
  · exact .inr z
def rLenS (K : PySem.W.Frag) : List V → Hp → VK → Prop := fun xs H Q => ∃ p ys, xs = [.ref p] ∧ (SqL K H p ys ∨ SqT K H p ys) ∧ Q (.int ys.length) H
def spSizes (T : List (Addr × Str)) : Sp := fun vs H Q _ => ∃ (d c q : Addr) (n : Int) (t : List (Str × Str)), vs = [.ref d, .ref q, .int n] ∧ DrawAt H d c ∧ H q = some (.dK (prs t)) ∧ TreeOk t ∧ 0 ≤ n ∧ n ≤ 10 ^ 30 ∧ Tabs T H ∧
  ∀ (p : Addr) (l : List Str) (sz : Str → Int) (H' : Hp), l.Perm (t.map Prod.fst) → Fea t n sz → (∀ b o, H b = some o → (∀ ps, o ≠ .tbl ps) → b ≠ p) → H' p = some (.dK (tblI l sz)) → DrawAt H' d c → Tabs T H' → KeepN d c H H' → Q (.ref p) H'
section
variable {P : Program} {w : World} {K : PySem.W.Frag} {mg : Str → Option Value} {base : Heap}
theorem scPath : FnScope ["_law_above", "_law_spot", "_law_way"] ["_law_above", "_law_spot"] (defScope s__law_path) := ⟨rfl, rfl, rfl, by decide +kernel, rfl, by decide +kernel, by decide +kernel⟩
def rankP (t : List (Str × Str)) (rk : Str → Nat) (σ : St) : Nat := match σ[1]? with
  | some (some (V.str a)) => if a ∈ t.map Prod.fst then rk a + 1 else 0
  | _ => 0
theorem ok_path {f : Addr} {fd : FuncData} (F : Fun K "_law_path" "_law_path" s__law_path f fd) : FnOk P w K mg base CX0 1 f fd ["_law_above", "_law_spot"] spPath := by
  refine F.ok scPath (fun vs H Q E h => ?_) (fun cdv A outer s H vs Q E hr h => ?_)
  · obtain ⟨q, a, t, rfl, _⟩ := h
    rfl
  · obtain ⟨q, a, t, rfl, hq, o, pl, k⟩ := h
    have hu := hu_of hr
    obtain ⟨rk, r⟩ := o.up
    refine ⟨_, pss_cons (ps_set (i := 2) scPath.nd rfl (.inl rfl) (pe_tup pa_nil))
      (pss_cons (ps_while PassesOwn.never (pt_cmpR op_ne (pv 1) pe_str (nomark _))
        (pss_cons (ps_set (i := 2) scPath.nd rfl (.inl rfl) (pe_op op_catT (pe_tup (pa_cons (pv 1) pa_nil)) (pv 2)))
        (pss_one (ps_set (i := 1) scPath.nd rfl (.inl rfl) (pe_dget hu (pv 0) (pv 1) (fun _ _ => rfl))))))
      (pss_one (ps_ret (pv 2)))), ?_⟩
    have big : 1000 ≤ sizeLine := by decide
    have few := o.few
    have rdm : ∀ {H'}, Same H H' → Rd H' q (.dK (prs t)) := fun s => hq.imp (s _ _) fun ⟨ob, e⟩ => ⟨ob, s _ _ e⟩
    refine ⟨by show 0 ≤ sizeLine; omega, fun p0 n0 => ?_⟩
    refine while_by (fun σ H' => ∃ (x : Str) (pw : Addr) (ws : List Str), σ = [some (.ref q), some (.str x), some (.ref pw)] ∧ Same H H' ∧ H pw = none ∧ H' pw = some (.tup (ws.map V.str)) ∧ Pl t x ∧ pathOf t a = pathOf t x ++ ws)
      (fun σ _ => rankP t rk σ) ⟨a, p0, [], rfl, same_new n0, n0, upd_same, pl, by rw [List.append_nil]⟩ ?_ ?_
    · rintro σ H1 ⟨x, pw, ws, rfl, s1, npw, aw, px, epath⟩
      refine ⟨_, rfl, rfl, _, rfl, ?_⟩
      have lws : ws.length ≤ 12 := by
        have z := congrArg List.length epath
        rw [List.length_append] at z
        have := path_len t a
        omega
      by_cases e : x = ""
      · rw [decide_eq_true (show V.str x = V.str "" by rw [e])]
        refine iteF ?_
        rw [e, path_root, List.nil_append] at epath
        exact ⟨_, rfl, k pw H1 s1 npw (by rw [epath]; exact aw)⟩
      · rw [decide_eq_false (show ¬ V.str x = V.str "" from fun z => e (V.str.inj z))]
        show if true = true then _ else _
        rw [if_pos rfl]
        have mx := px.resolve_left e
        obtain ⟨pa, ep, hpa, lx⟩ := o.step r mx
        have st := path_step o mx ep
        have fin : ∀ (p3 : Addr) (H3 : Hp), Same H1 H3 → H p3 = none → H3 p3 = some (.tup ((x :: ws).map V.str)) →
            DGet H3 q (.str x) (some (.str pa)) ∧ (∃ (x' : Str) (pw' : Addr) (ws' : List Str), ([some (.ref q), some (.str pa), some (.ref p3)] : St) = [some (.ref q), some (.str x'), some (.ref pw')] ∧ Same H H3 ∧ H pw' = none ∧ H3 pw' = some (.tup (ws'.map V.str)) ∧ Pl t x' ∧ pathOf t a = pathOf t x' ++ ws') ∧
            rankP t rk [some (.ref q), some (.str pa), some (.ref p3)] < rankP t rk [some (.ref q), some (.str x), some (.ref pw)] := fun p3 H3 s3 n3 a3 => by
          refine ⟨.inl ⟨_, Sum.inr x, rdm (s1.trans s3), rfl, by rw [val_prs, ep] <;> rfl⟩, ⟨pa, p3, x :: ws, rfl, s1.trans s3, n3, a3, hpa.imp id And.left, by rw [epath, st, List.append_assoc] <;> rfl⟩, ?_⟩
          have e1 : rankP t rk [some (.ref q), some (.str x), some (.ref pw)] = rk x + 1 := if_pos mx
          rw [e1]
          rcases hpa with z | ⟨mp, lp⟩
          · have e2 : rankP t rk [some (.ref q), some (.str pa), some (.ref p3)] = 0 := if_neg (by rw [z]; exact o.root)
            show rankP t rk [some (.ref q), some (.str pa), some (.ref p3)] < _
            rw [e2]
            omega
          · have e2 : rankP t rk [some (.ref q), some (.str pa), some (.ref p3)] = rk pa + 1 := if_pos mp
            show rankP t rk [some (.ref q), some (.str pa), some (.ref p3)] < _
            rw [e2]
            omega
        refine ⟨_, rfl, by show 1 ≤ sizeLine; omega, fun p2 n2 => ⟨_, rfl, p2, pw, [.str x], ws.map V.str, rfl, rfl, .inl (.inl upd_same), .inl (.inl (by rw [upd_ne (ne_of_none aw n2)]; exact aw)), by simp, by rw [List.length_map]; show 1 + _ ≤ sizeLine; omega, fun ew => ?_, fun _ p3 n3 => ?_⟩⟩
        · have ew' : ws = [] := List.map_eq_nil_iff.mp ew
          obtain ⟨f1, f2, f3⟩ := fin p2 _ (same_new n2) (s1.free n2) (by rw [upd_same, ew'] <;> rfl)
          exact ⟨_, rfl, _, rfl, q, .str pa, rfl, f1, f2, f3⟩
        · obtain ⟨f1, f2, f3⟩ := fin p3 _ ((same_new n2).trans (same_new n3)) (s1.free ((same_new n2).free n3)) upd_same
          exact ⟨_, rfl, _, rfl, q, .str pa, rfl, f1, f2, f3⟩
    · rintro σ H' Qa Qb h ⟨v, e1, e2, b, e3, z⟩
      exact ⟨v, e1, e2, b, e3, h _ _ z⟩
end
end FT


namespace FT
open PySem L2 TL ClX LamX NdefX
/-- the name of the lambdas of a def -/
abbrev lamQ (x : Str) : Str := x ++ ".<locals>." ++ "<lambda>"
def keyP (t : List (Str × Str)) (a : Str) : Int × Str := (((pathOf t a).length : Int), a)
/-- a parent stands ahead of its children -/
theorem par_ahead {t : List (Str × Str)} (o : TreeOk t) {ys : List Str} (pm : ys.Perm (t.map Prod.fst)) (pw : ys.Pairwise (fun x y => SrtKy.isLt (keyP t y) (keyP t x) = false)) {j : Nat} {a pa : Str} (hj : ys[j]? = some a) (hp : par t a = some pa) : pa = "" ∨ pa ∈ ys.take j := by
  obtain ⟨rk, r⟩ := o.up
  have ma := pm.mem_iff.mp (List.mem_of_getElem? hj)
  obtain ⟨p', e', hpa, _⟩ := o.step r ma
  cases hp.symm.trans e'
  rcases hpa with z | ⟨mp, _⟩
  · exact .inl z
  · refine .inr ?_
    obtain ⟨i, hi⟩ := List.mem_iff_getElem?.mp (pm.mem_iff.mpr mp)
    have il := (List.getElem?_eq_some_iff.mp hi).1
    have jl := (List.getElem?_eq_some_iff.mp hj).1
    have st := congrArg List.length (path_step o ma hp)
    rw [List.length_append] at st
    have st' : (pathOf t a).length = (pathOf t pa).length + 1 := st
    have lt : SrtKy.isLt (keyP t pa) (keyP t a) = true := SrtKy.isLt_iff.mpr (.inl (by show ((pathOf t pa).length : Int) < ((pathOf t a).length : Int); omega))
    have ij : i < j := by
      refine Decidable.byContradiction fun n => ?_
      by_cases e : i = j
      · subst e
        rw [hi] at hj
        cases hj
        omega
      · have g := List.pairwise_iff_getElem.mp pw j i jl il (by omega)
        rw [(List.getElem?_eq_some_iff.mp hi).2, (List.getElem?_eq_some_iff.mp hj).2, lt] at g
        cases g
    rw [List.mem_take_iff_getElem]
    exact ⟨i, by omega, (List.getElem?_eq_some_iff.mp hi).2⟩
section
variable {P : Program} {w : World} {K : PySem.W.Frag} {mg : Str → Option Value} {base : Heap}
abbrev NSz : List Str := ["_law_draw", "_law_above", "_law_many", "_law_found", "_law_left", "_law_name", "_law_most", "_law_size"]
theorem scSz : FnScope NSz ["_law_draw", "_law_above", "_law_many"] (defScope s__law_sizes) := ⟨rfl, rfl, rfl, by decide +kernel, rfl, by decide +kernel, by decide +kernel⟩
theorem ok_sizes {f fT fP fO fH co ta : Addr} {T : List (Addr × Str)} {fd fdT fdP fdO fdH : FuncData} (F : FunC K "_law_sizes" "_law_sizes" s__law_sizes f fd co) (N : Nm mg) (DT : Dn P w K mg base CX0 1 "_law_take" ["_law_draw", "_law_size"] spDraw fT fdT) (DP : Dn P w K mg base CX0 2 "_law_pick" ["_law_draw", "_law_some"] (spPick K) fP fdP)
    (DO : Dn P w K mg base CX0 2 "_law_order" ["_law_draw", "_law_some"] (spOrder K) fO fdO) (DH : Dn P w K mg base CX0 1 "_law_path" ["_law_above", "_law_spot"] spPath fH fdH) (TB : TabB base mg co ta) (hmT : (ta, lamQ "_law_sizes") ∈ T) (hut : ∀ p ∈ T, p.1 = ta → p.2 = lamQ "_law_sizes") :
    FnOk P w K mg base CX0 5 f fd ["_law_draw", "_law_above", "_law_many"] (spSizes T) := by
  refine F.ok scSz (fun vs H Q E h => ?_) (fun A outer s H vs Q E hr h => ?_)
  · obtain ⟨d, c, q, n, t, rfl, _⟩ := h
    rfl
  · obtain ⟨d, c, q, n, t, rfl, dr, hq, o, n0, n1, tT, k⟩ := h
    have hu := hu_of hr
    have hr1 : Room 1 _ := hr.mono (by decide)
    have hr2 : Room 2 _ := hr.mono (by decide)
    have big : 1000 ≤ sizeLine := by decide
    have few := o.few
    refine ⟨_, pss_cons (ps_asg (pe_tup (pa_cons pe_dnewK (pa_cons (pe_disp (pps_cons pe_str (pv 2) pps_nil) (by rfl) (by rfl) (fun z => by cases z) (by decide)) pa_nil)))
        (pg_tup rfl (pgs_cons (pg_name (i := 3) scSz.nd rfl (.inr rfl)) (pgs_cons (pg_name (i := 4) scSz.nd rfl (.inl rfl)) pgs_nil))))
      (pss_cons (ps_for PassesOwn.never rfl (pi_list (pe_sortedLam (T := T) (N := ["_law_each", "_law_above"]) (fr := ["_law_above"]) (js := [1]) (each := "_law_each") (k := 1) rfl N.srt rfl (pa_cons (pv 1) pa_nil) TB rfl hmT hut rfl
          (capt_by (sc := defScope s__law_sizes) (by decide +kernel)) (by decide +kernel) rfl (nscope_by (by decide +kernel)) (fun _ _ _ _ _ _ => rfl) hr
          (tb := tTup (tCons (tCB (rLenS K) (tCons (tCall spPath [] E0 (tCons (tVar 1) (tCons (tVar 0) tNil))) tNil)) (tCons (tVar 0) tNil)))
          (fun A outer s H f c' hr2 => pe_tup (pa_cons (pe_callB call_len_seq (by rfl) N.len PySem.boot_len (pa_cons (pe_call DH.ok hr2 rfl DH.mgn DH.kp DH.bn .nil pass0 (pa_cons (pv 1) (pa_cons (pv 0) pa_nil))) pa_nil)) (pa_cons (pv 0) pa_nil))))) (pg_name (i := 5) scSz.nd rfl (.inl rfl))
        (pss_cons (ps_set (i := 6) scSz.nd rfl (.inl rfl) (pe_dget hu (pv 4) (pe_dget hu (pv 1) (pv 5) (fun _ _ => rfl)) (fun _ _ => rfl)))
        (pss_cons (ps_set (i := 7) scSz.nd rfl (.inl rfl) (pe_call DP.ok hr2 rfl DP.mgn DP.kp DP.bn .nil pass0 (pa_cons (pv 0) (pa_cons (pe_lst (pa_cons pe_int (pa_cons (pv 6) (pa_cons (pe_call DT.ok hr1 rfl DT.mgn DT.kp DT.bn .nil pass0 (pa_cons (pv 0) (pa_cons (pe_op op_add (pv 6) pe_int) pa_nil)))
          (pa_cons (pe_call DT.ok hr1 rfl DT.mgn DT.kp DT.bn .nil pass0 (pa_cons (pv 0) (pa_cons (pe_op op_add (pv 6) pe_int) pa_nil))) (pa_cons (pe_op op_fdiv (pv 6) pe_int) pa_nil)))))) pa_nil))))
        (pss_cons (ps_asg (pe_tup (pa_cons (pv 7) (pa_cons (pv 7) pa_nil))) (pg_tup rfl (pgs_cons (pg_sub (pv 3) (pv 5) (set_dict hu)) (pgs_cons (pg_sub (pv 4) (pv 5) (set_dict hu)) pgs_nil))))
        (pss_one (ps_dput hu (pv 4) (pe_dget hu (pv 1) (pv 5) (fun _ _ => rfl)) (pe_op op_sub (pv 6) (pv 7)) rfl))))))
      (pss_one (ps_ret (pe_callTy (call_dictP rfl) (by rfl) N.dct (by decide +kernel) (pa_cons (pe_lc (own := [("_law_name", 5)]) (g := gName 5) (tt := tYes) (te := tTup (tCons (tVar 5) (tCons (tDGet (tVar 3) (tVar 5)) tNil))) rfl scSz.nd (pi_list (pe_call DO.ok hr2 rfl DO.mgn DO.kp DO.bn .nil pass0 (pa_cons (pv 0) (pa_cons (pv 1) pa_nil))))
        (blkOk_by (N := NSz) (sc := defScope s__law_sizes) (by decide +kernel))
        (fun _ _ _ _ _ => pg_name (i := 5) scSz.nd rfl (Or.inl rfl)) (fun _ _ _ _ _ => pts_nil) (fun _ _ _ _ _ => pe_tup (pa_cons (pv 5) (pa_cons (pe_dget hu (pv 3) (pv 5) (fun _ _ => rfl)) pa_nil)))) pa_nil))))), ?_⟩
    -- the two tables
    refine fun qf nqf ql nql => ⟨_, rfl, upd_same, [(Sum.inr "", V.int n)], rfl, by show 1 ≤ 15; omega, ?_⟩
    refine ⟨by show 2 ≤ sizeLine; omega, fun tp ntp => ⟨tp, _, rfl, .inl (.inl upd_same), rfl, _, _, rfl, _, _, rfl, rfl, ?_⟩⟩
    have qfl : qf ≠ ql := ne_of_none upd_same nql
    obtain ⟨H3, e3⟩ : ∃ X, X = upd (upd (upd (upd H qf (.dK [])) ql (.dK [])) ql (.dK (mergeK [] [(Sum.inr "", V.int n)]))) tp (.tup [.ref qf, .ref ql]) := ⟨_, rfl⟩
    have nql0 : H ql = none := by rw [upd_ne qfl.symm] at nql; exact nql
    have s0l : Same H (upd (upd (upd H qf (.dK [])) ql (.dK [])) ql (.dK (mergeK [] [(Sum.inr "", V.int n)]))) := ((same_new nqf).put nql0).put nql0
    have s03 : Same H H3 := e3 ▸ s0l.trans (same_new ntp)
    have hf3 : H3 qf = some (.dK (tblI [] fun _ => 0)) := by
      rw [e3, upd_ne (ne_of_none (by rw [upd_ne qfl, upd_ne qfl, upd_same]) ntp), upd_ne qfl, upd_ne qfl, upd_same] <;> rfl
    have hl3 : H3 ql = some (.dK (tblI [""] (resid [] n fun _ => 0))) := by
      rw [e3, upd_ne (ne_of_none upd_same ntp), upd_same]
      show some (HO.dK [(Sum.inr "", V.int n)]) = some (HO.dK [(Sum.inr "", V.int (n - 0))])
      rw [Int.sub_zero]
    have dr3 := dr.mono s03
    have qfd := dr.apart nqf
    have qld := dr.apart nql0
    have qqf : q ≠ qf := ne_of_none hq nqf
    have qql : q ≠ ql := ne_of_none hq nql0
    rw [← e3]
    -- in the order of their paths
    refine ⟨_, rfl, .ref q, rfl, tT.ext s03, fun c' H4 x34 t4 hc4 => ⟨q, prs t, t.map Prod.fst, keyP t, rfl, .inl (x34 _ _ (s03 _ _ hq) (fun ps z => nomatch z)), prs_keys t, by rw [List.length_map]; omega, ?_, fun ys H5 p pm pw k45 np => ⟨p, rfl, ⟨_, SqL.of upd_same⟩, ?_⟩⟩⟩
    · intro a ha H' k'
      refine ⟨_, rfl, _, rfl, q, a, t, rfl, .inl (k' _ _ (x34 _ _ (s03 _ _ hq) (fun ps z => nomatch z))), o, .inr ha, fun p2 H2 s2 n2 a2 => ⟨p2, _, rfl, .inr (.inl (.inl a2)), _, rfl, by show 2 ≤ sizeLine; omega, fun t2 nt2 => ⟨fun b u e => ?_, t2, rfl, ?_⟩⟩⟩
      · rw [upd_ne (ne_of_none (s2 _ _ e) nt2)]
        exact s2 _ _ e
      · rw [upd_same]
        show some (HO.tup [V.int (((pathOf t a).map V.str).length : Int), V.str a]) = some (HO.tup [V.int ((pathOf t a).length : Int), V.str a])
        rw [List.length_map]
    obtain ⟨H6, e6⟩ : ∃ X, X = upd H5 p (.lst (ys.map V.str)) := ⟨_, rfl⟩
    have x36 : ExtN H3 H6 := x34.trans (ExtN.of fun b u e => by rw [e6, upd_ne (ne_of_none (k45 b u e) np)]; exact k45 b u e)
    have t6 : Tabs T H6 := t4.ext fun b u e => by rw [e6, upd_ne (ne_of_none (k45 b u e) np)]; exact k45 b u e
    have a6 : H6 p = some (.lst (ys.map V.str)) := by rw [e6]; exact upd_same
    have dr6 := dr3.ext x36
    have pd : p ≠ d ∧ p ≠ c := ((dr3.ext x34).mono k45).apart np
    have hq6 := x36 _ _ (s03 _ _ hq) (fun ps z => nomatch z)
    have hf6 := x36 _ _ hf3 (fun ps z => nomatch z)
    have hl6 := x36 _ _ hl3 (fun ps z => nomatch z)
    have kn6 : KeepN d c H H6 := (Keep.of_same s03).n.trans (KeepN.of_ext x36)
    rw [← e6]
    have qd : q ≠ d ∧ q ≠ c := by
      obtain ⟨nx, mx, ct, cells, z1, z2, _⟩ := dr
      exact ⟨ne_of hq z1 (by intro z; cases z), ne_of hq z2 (by intro z; cases z)⟩
    have ppf : p ≠ qf := ne_of a6 hf6 (by intro z; cases z)
    have ppl : p ≠ ql := ne_of a6 hl6 (by intro z; cases z)
    have ly := pm.length_eq
    rw [List.length_map] at ly
    have ndy : ys.Nodup := pm.nodup_iff.mpr o.nd
    -- the loop's state
    refine for_it walk_list (fun j σ' H' => (∃ u5 u6 u7, σ' = [some (.ref d), some (.ref q), some (.int n), some (.ref qf), some (.ref ql), u5, u6, u7]) ∧ DrawAt H' d c ∧ Tabs T H' ∧ KeepN d c H H' ∧ H' p = some (.lst (ys.map V.str)) ∧ H' q = some (.dK (prs t)) ∧
      ∃ (t' : List (Str × Str)) (sz : Str → Int), Dealt t n (ys.take j) t' sz ∧ H' qf = some (.dK (tblI (ys.take j) sz)) ∧ H' ql = some (.dK (tblI ("" :: ys.take j) (resid t' n sz))))
      ⟨⟨_, _, _, rfl⟩, dr6, t6, kn6, a6, hq6, [], (fun _ => 0), Dealt.nil n0, hf6, hl6⟩ (fun j σ' H' _ z => SqL.of z.2.2.2.2.1) ?_ ?_
    · intro j y σ' Ha Hb hj ⟨⟨u5, u6, u7, e⟩, da, ta', ka, apa, aqa, t', sz, dl, hfa, hla⟩ ⟨eb, ex⟩
      subst e
      subst eb
      obtain ⟨a, hja, rfl⟩ := map_of ex
      have ma : a ∈ t.map Prod.fst := pm.mem_iff.mp (List.mem_of_getElem? hja)
      have anr : a ≠ "" := fun z => o.root (by rw [← z]; exact ma)
      have fresh : a ∉ ys.take j := fresh_at ndy hja rfl
      have jl := (List.getElem?_eq_some_iff.mp hja).1
      obtain ⟨pa, hpa⟩ := par_some o.nd ma
      have mpa := par_ahead o pm pw hja hpa
      have mpl : pa ∈ (("" : Str) :: ys.take j) := List.mem_cons.mpr mpa
      obtain ⟨m, em⟩ : ∃ m, m = resid t' n sz pa := ⟨_, rfl⟩
      have m0 : 0 ≤ m := by rw [em]; exact dl.res pa mpl
      have mn : m ≤ 10 ^ 30 := by
        have := dl.top_ pa mpl
        omega
      have dgp : ∀ {H'}, H' q = some (.dK (prs t)) → DGet H' q (.str a) (some (.str pa)) := fun {H'} hq' => by
        have z := DGet.k (k := Sum.inr a) hq'
        rw [val_prs, hpa] at z
        exact z
      refine ⟨_, rfl, _, rfl, _, rfl, q, .str pa, rfl, dgp aqa, ql, .int m, rfl, ?_, ?_⟩
      · have z := DGet.k (k := Sum.inr pa) hla
        rw [tblI_val mpl, ← em] at z
        exact z
      have bnd : (m + 1).natAbs < 2 ^ 200 := by omega
      refine ⟨_, rfl, _, rfl, _, rfl, _, rfl, _, _, rfl, rfl, d, c, m + 1, rfl, da, by omega, bnd, fun k1 H7 k10 k11 d7 kp7 => ?_⟩
      refine ⟨_, rfl, _, rfl, _, _, rfl, rfl, d, c, m + 1, rfl, d7, by omega, bnd, fun k2 H8 k20 k21 d8 kp8 => ?_⟩
      refine ⟨_, rfl, _, _, rfl, rfl, ⟨by decide, by decide⟩, by show 5 ≤ sizeLine; omega, fun pl npl => ?_⟩
      have pld := d8.apart npl
      refine ⟨d, c, _, 5, (fun _ x => ∃ z, x = .int z ∧ 0 ≤ z ∧ z ≤ m), rfl, d8.off pld.1 pld.2, .inl ⟨pl, ([0, m, k1, k2, m / 2] : List Int).map V.int, rfl, pld.1, pld.2, upd_same, rfl, items_ints fun z hz => ?_⟩, by decide, by decide, fun i x H9 px d9 k9 => ?_⟩
      · simp only [List.mem_cons, List.not_mem_nil, or_false] at hz
        rcases hz with rfl | rfl | rfl | rfl | rfl <;> omega
      obtain ⟨z, rfl, z0, z1⟩ := px
      have kpa9 : Keep d c Hb H9 := ((kp7.trans kp8).trans (Keep.of_same (same_new npl))).trans k9
      have hf9 := kpa9 _ _ qfd.1 qfd.2 hfa
      have hl9 := kpa9 _ _ qld.1 qld.2 hla
      have hq9 := kpa9 _ _ qd.1 qd.2 aqa
      have hp9 := kpa9 _ _ pd.1 pd.2 apa
      have t9 : Tabs T H9 := tabs_keep ta' da kpa9
      have kn9 : KeepN d c H H9 := ka.trans kpa9.n
      obtain ⟨dl', req⟩ := dl.step fresh anr (par_mem hpa) mpa z0 (by rw [← em]; exact z1)
      refine ⟨_, rfl, _, rfl, by show 2 ≤ sizeLine; omega, fun t2 nt2 => ⟨t2, _, rfl, .inl (.inl upd_same), rfl, ?_⟩⟩
      obtain ⟨H10, e10⟩ : ∃ X, X = upd H9 t2 (.tup [.int z, .int z]) := ⟨_, rfl⟩
      have s10 : Same H9 H10 := e10 ▸ same_new nt2
      rw [← e10]
      refine ⟨_, _, rfl, _, rfl, _, rfl, qf, _, rfl, DPut.k (k := Sum.inr a) (s10 _ _ hf9) (by rw [tblI_len, List.length_take]; omega), ?_⟩
      rw [tblI_congr (g' := fun x => if x = a then z else sz x) (fun b hb => (if_neg fun e => fresh (by rw [← e]; exact hb)).symm), tblI_snoc (g := fun x => if x = a then z else sz x) fresh (if_pos rfl).symm, ← take_more hja]
      refine ⟨_, _, rfl, _, rfl, _, rfl, ql, _, rfl, DPut.k (k := Sum.inr a) (by rw [upd_ne qfl.symm]; exact s10 _ _ hl9) (by rw [tblI_len, List.length_cons, List.length_take]; omega), rfl, ?_⟩
      have lkeep : (ys.take j).length = j := by rw [List.length_take]; omega
      have nin : a ∉ (("" : Str) :: ys.take j) := fun h => (List.mem_cons.mp h).elim anr fresh
      obtain ⟨g, eg⟩ : ∃ g : Str → Int, g = fun p => if p = a then z else resid t' n sz p := ⟨_, rfl⟩
      rw [tblI_congr (l := "" :: ys.take j) (g' := g) (fun b hb => by rw [eg]; exact (if_neg fun e => nin (by rw [← e]; exact hb)).symm), tblI_snoc (g := g) nin (by rw [eg]; exact (if_pos rfl).symm), List.cons_append, ← take_more hja]
      obtain ⟨H11, e11⟩ : ∃ X, X = upd (upd H10 qf (.dK (tblI (ys.take (j + 1)) fun x => if x = a then z else sz x))) ql (.dK (tblI ("" :: ys.take (j + 1)) g)) := ⟨_, rfl⟩
      have hq11 : H11 q = some (.dK (prs t)) := by rw [e11, upd_ne qql, upd_ne qqf]; exact s10 _ _ hq9
      have hl11 : H11 ql = some (.dK (tblI ("" :: ys.take (j + 1)) g)) := by rw [e11]; exact upd_same
      have mpl' : pa ∈ (("" : Str) :: ys.take (j + 1)) := by rw [take_more hja]; exact (List.mem_cons.mp mpl).elim (fun e => e ▸ List.mem_cons_self ..) fun m => List.mem_cons_of_mem _ (List.mem_append_left _ m)
      rw [← e11]
      refine ⟨_, rfl, _, rfl, _, _, rfl, rfl, _, rfl, _, rfl, _, rfl, q, .str pa, rfl, dgp hq11, ql, _, rfl, DPut.k (k := Sum.inr pa) hl11 (by rw [tblI_len, List.length_cons, List.length_take]; omega), ?_⟩
      rw [tblI_put mpl']
      refine ⟨⟨_, _, _, rfl⟩, ?_, ?_, fun b u b1 b2 eb nt => ?_, ?_, ?_, t' ++ [(a, pa)], (fun x => if x = a then z else sz x), by rw [take_more hja]; exact dl', ?_, ?_⟩
      · rw [e11]
        exact (((d9.mono s10).off qfd.1 qfd.2).off qld.1 qld.2).off qld.1 qld.2
      · refine tabs_put (u := .dK (tblI ("" :: ys.take (j + 1)) g)) ?_ hl11 NTab.dK
        rw [e11]
        exact tabs_put (tabs_put (t9.ext s10) (s10 _ _ hf9) NTab.dK) (by rw [upd_ne qfl.symm]; exact s10 _ _ hl9) NTab.dK
      · have n1 : b ≠ qf := ne_of_none eb nqf
        have n2 : b ≠ ql := ne_of_none eb nql0
        rw [upd_ne n2, e11, upd_ne n2, upd_ne n1]
        exact s10 _ _ (kn9 b u b1 b2 eb nt)
      · rw [upd_ne ppl, e11, upd_ne ppl, upd_ne ppf]
        exact s10 _ _ hp9
      · rw [upd_ne qql]
        exact hq11
      · rw [upd_ne qfl, e11, upd_ne qfl, upd_same]
      · rw [upd_same]
        congr 2
        refine tblI_congr fun b hb => ?_
        rw [take_more hja] at hb
        rw [req b hb, eg, em]
    · intro σ' H7 ⟨⟨u5, u6, u7, e⟩, da, ta', ka, apa, aqa, t', sz, dl, hfa, hla⟩
      subst e
      rw [List.length_map, List.take_length] at dl hfa
      have fe : Fea t n sz := by
        have pt : t'.Perm t := perm_pairs o.nd (by rw [dl.keys]; exact pm) dl.sub
        exact Fea.perm pt ⟨fun a ha => dl.nn a (by rw [← dl.keys]; exact ha), fun p hp => dl.res p (by rw [← dl.keys]; exact hp)⟩
      refine ⟨_, rfl, _, rfl, d, c, q, t.map Prod.fst, rfl, da, .inr ⟨prs t, .inl aqa, prs_keys t⟩, by rw [List.length_map]; omega, fun z hz => strOk_name (o.nm z hz), fun r zs H8 pz nr er d8 k8 => ⟨r, rfl, ⟨_, SqL.of er⟩, fun D nD => ?_⟩⟩
      have hf8 := k8 _ _ qfd.1 qfd.2 hfa
      have lz := pz.length_eq
      rw [List.length_map] at lz
      refine lc_it walk_list (fun i H' => Same H8 H' ∧ ∃ rs : List Addr, H' D = some (.lst (rs.map V.ref)) ∧ PrG (fun a => .int (sz a)) H' rs (zs.take i)) ⟨same_new nD, [], upd_same, .nil⟩ (fun i H' _ z => SqL.of (z.1 _ _ er)) ?_ ?_
      · intro i y Ha Hb hi ⟨q1, rs, hD, pr⟩ ⟨eb, ex⟩
        subst eb
        obtain ⟨a, ha, rfl⟩ := map_of ex
        have ma : a ∈ ys := pm.mem_iff.mpr (pz.mem_iff.mp (List.mem_of_getElem? ha))
        have lr := pr.len
        rw [List.length_take] at lr
        refine ⟨rfl, ?_⟩
        refine ⟨_, rfl, _, rfl, _, rfl, qf, .int (sz a), rfl, ?_, by show 2 ≤ sizeLine; omega, fun tq ntq => ?_⟩
        · have z := DGet.k (k := Sum.inr a) (q1 _ _ hf8)
          rw [tblI_val ma] at z
          exact z
        · have sq : Same Hb (upd Hb tq (.tup [.str a, .int (sz a)])) := same_new ntq
          refine ⟨_, sq _ _ hD, by rw [List.length_map]; omega, (q1.trans sq).put nD, rs ++ [tq], by rw [upd_same, List.map_append] <;> rfl, ?_⟩
          rw [take_more ha]
          exact PrG.push (sq _ _ hD) (PrG.snoc upd_same (pr.mono sq))
      · intro H9 ⟨q1, rs, hD, pr⟩
        rw [List.length_map, List.take_length] at pr
        refine ⟨D, rs, _, rfl, SqL.of hD, pr.kvs, fun p np => ?_⟩
        have ndz : zs.Nodup := pz.nodup_iff.mpr o.nd
        rw [merge_nd (by rw [map_fst]; exact ndz)]
        have K9 : Keep d c H7 H9 := k8.trans (Keep.of_same q1)
        have d9 := d8.mono q1
        have pd := d9.apart np
        have t9 : Tabs T H9 := tabs_keep ta' da K9
        have np7 := K9.free np pd.1 pd.2
        have npH : ∀ b o, H b = some o → (∀ ps, o ≠ .tbl ps) → b ≠ p := fun b u e nt z => by
          subst z
          rw [ka b u pd.1 pd.2 e nt] at np7
          cases np7
        exact k p zs sz _ pz fe npH upd_same (d9.mono (same_new np)) (tabs_new t9 np) (ka.trans (K9.trans (Keep.of_same (same_new np))).n)
end
end FT


/-! Own: xs.remove(t) of a list of texts. -/
namespace L2
open PySem PySem.Spec PyProof.Rows
variable {X : Cx}
theorem erase_strs : ∀ (l : List Str) (j : Nat), (l.map V.str).eraseIdx j = (l.eraseIdx j).map V.str
  | [], j => by simp
  | a :: r, 0 => rfl
  | a :: r, j + 1 => congrArg (List.cons (V.str a)) (erase_strs r j)
def rRemS : V → List V → Hp → VK → Prop := fun x xs H Q => ∃ (l : Addr) (zs : List Str) (k : Str) (j : Nat), x = .ref l ∧ xs = [.str k] ∧ H l = some (.lst (zs.map V.str)) ∧ zs[j]? = some k ∧ (∀ m : Nat, m < j → zs[m]? ≠ some k) ∧ Q .non (upd H l (.lst ((zs.eraseIdx j).map V.str)))
theorem mt_removeS : MtM X "list.remove" rRemS := by
  intro pins s σ H x xs v us Q I rx rxs h
  obtain ⟨l, zs, k, j, ex, exs, hH, hj, hno, q⟩ := h
  subst ex
  subst exs
  cases rx
  obtain ⟨u, eu, ru⟩ := rxs.one
  subst eu
  obtain ⟨t, et⟩ := ru
  subst et
  obtain ⟨z, its, n, r, hl, e⟩ := I.lstM hH
  have hi := strs_of_vals r
  have hjn : j < zs.length := (List.getElem?_eq_some_iff.mp hj).1
  rw [List.length_map] at hl z
  refine call_meets PySem.F.slot_list_remove ⟨_, e, rfl⟩ PySem.F.entry_list_remove (PySem.F.args_list_remove_2 _ _)
    (MeetsSeq.list_remove l its.toArray n (.str k t) (isStrOf k) (fun y hy => eq_isStrOf k t hi y (by simpa using hy)) j (by rw [List.size_toArray]; omega) ?_ ?_ (by rw [List.size_toArray]; omega)) ⟨e, ?_⟩
  · obtain ⟨tj, hjt⟩ := StrsAre.get hi j k hj
    have e1 : its.toArray[j]'(by rw [List.size_toArray]; omega) = .str k tj := by simpa using (List.getElem?_eq_some_iff.mp hjt).2
    rw [e1]
    exact beq_self_eq_true k
  · intro m hm hmj
    have hmn : m < zs.length := by omega
    obtain ⟨tm, hmt⟩ := StrsAre.get hi m _ (List.getElem?_eq_getElem hmn)
    have e1 : its.toArray[m] = .str zs[m] tm := by simpa using (List.getElem?_eq_some_iff.mp hmt).2
    rw [e1]
    exact beq_eq_false_iff_ne.mpr fun e2 => hno m hmj (by rw [List.getElem?_eq_getElem hmn, e2])
  · have rr := r.eraseIdx j
    rw [erase_strs] at rr
    refine ⟨.non, _, I.lset (its' := its.eraseIdx j) (t' := s.toks) hH e ?_ rr ?_, rfl, q⟩
    · show its.toArray.eraseIdxIfInBounds j = (its.eraseIdx j).toArray
      exact List.eraseIdxIfInBounds_toArray ..
    · have := len_erase zs j
      rw [List.length_map]
      omega
end L2


/-! Own: dict comprehensions whose keys are tuples, and those of two clauses. What a turn does behind its tests is a parameter. -/
namespace L2
open PySem PySem.Spec PyProof.Rows
/-! ### what a turn stores -/
abbrev PutT := Addr → V → V → Hp → (Hp → Prop) → Prop
def putKey : PutT := fun D y z H N => ∃ kvs k, y = kV k ∧ H D = some (.dK kvs) ∧ kvs.length < sizeLine ∧ N (upd H D (.dK (putK kvs k z)))
def putTup : PutT := fun D y z H N => ∃ kvs k b, y = .ref b ∧ H b = some (.tup (k.map kV)) ∧ H D = some (.dT kvs) ∧ kvs.length < sizeLine ∧ N (upd H D (.dT (putK kvs k z)))
structure Puts (pt : PutT) (o0 : HO) : Prop where
  new : ∀ {P : Program} {w : World} {H : Hp} (h : Heap), sysModules < h.objs.size → ObjOk P w H (h.push { cls := .type "dict", data := .dict #[] }) h.objs.size o0
  set : ∀ {X : Cx} {pins : List (Addr × Obj)} {σ : St} {H : Hp} {s : Shared} {E : Value → Shared → Prop} {D : Addr} {y z : V} {u r : Value} {N : Hp → Prop} {Q : Unit → Shared → Prop},
    X.A.units + 1 < cLine → Inv X pins σ H s → RelV y u → RelV z r → pt D y z H N → (∀ H' s', N H' → Inv X pins σ H' s' → Q () s') → wpAny (model X.prog X.w) X.A (dictSet D u r) Q E s
theorem putsKey : Puts putKey (.dK []) := by
  refine ⟨fun h b => dk_empty h b, fun hu I ry rz p hQ => ?_⟩
  obtain ⟨kvs, k, ey, hD, l, n⟩ := p
  subst ey
  exact d_dictSet I hD l ry rz fun s' I' => hQ _ _ n I'
theorem putsTup : Puts putTup (.dT []) := by
  refine ⟨fun h b => dt_empty h b, fun hu I ry rz p hQ => ?_⟩
  obtain ⟨kvs, k, b, ey, eb, e, l, n⟩ := p
  subst ey
  cases (show _ = Value.ref b from ry)
  obtain ⟨z0, hd, xs, rel, dd⟩ := dt_of I.hok e
  have hz : xs.length ≤ sizeLine := Paired.length rel ▸ z0
  refine wpAny_dictSet_heap (hsz := hz) (knd := tupleKind _) (Nat.lt_of_succ_lt hu) (key_of I.hok eb) dd fun h' dd' hs => hQ _ _ n ?_
  obtain ⟨q, es, ep, hq, h2, h3, h4, _, h5⟩ := dd'
  refine d_write I (by rw [e]; exact True.intro) hs ⟨q, hq⟩ ⟨Nat.le_trans (length_putK kvs k _) l, hd, _, (rel.put k eb rz).keeps fun c ys ec => ?_, q, es, ep, hq, h2, h3, h4, h5⟩
  rw [upd_ne (ne_of ec e nofun)]
  exact ec
/-! ### the turns at the library's level -/
/-- one turn of the outer loop; Tl: what stands behind its tests -/
def OutTurn (M : Model) (A : Around) (R : Result → Shared → Prop) (t0 : Expr) (ifs0 : List Expr) (it : Value) (env : Env) (Tl : (Shared → Prop) → Shared → Prop) (I : Nat → Shared → Prop) : Prop := ∀ n s, I n s →
  wpAny M A (pyNext it) (fun r s₁ => match r with
    | none => R (.ok .next) s₁
    | some v => wpAny M A (letOwnedTupleGo t0 it v) (fun _ a => wpAny M A (assign t0 env v) (fun _ b =>
        wpAny M A (forIn ifs0 true fun c r => if r = true then do let ok ← isTrue c env (eval c env); pure (ForInStep.yield ok) else pure (ForInStep.yield r))
          (fun ok c => if ok = true then Tl (fun s' => ∃ m, m < n ∧ I m s') c else ∃ m, m < n ∧ I m c) (fun _ _ => False) b) (fun _ _ => False) a) (fun _ _ => False) s₁) (fun _ _ => False) s
abbrev OutRun (M : Model) (A : Around) (C : Expr) (t0 : Expr) (ifs0 : List Expr) (D : Addr) (Tl : Env → (Shared → Prop) → Shared → Prop) : Prop :=
  ∀ (it : Value) (env : Env) (R : Result → Shared → Prop) (I : Nat → Shared → Prop), OutTurn M A R t0 ifs0 it env (Tl env) I → ∀ n s, I n s → codeAny M A (.compLoop C 0 it (.ref D) env) R s
section
variable {prog : Program} {w : World} {A : Around} {R : Result → Shared → Prop} {kx vx t0 i0 t1 i1 : Expr} {ifs0 ifs1 : List Expr} {scope : Scope} {pos : Pos} {D : Addr}
/-- k: v of one turn -/
def TlKv (M : Model) (A : Around) (kx vx : Expr) (D : Addr) (env : Env) (post : Shared → Prop) (s : Shared) : Prop :=
  wpAny M A (eval kx env) (fun kv s₁ => wpAny M A (eval vx env) (fun vv s₂ => wpAny M A (dictSet D kv vv) (fun _ s₃ => post s₃) (fun _ _ => False) s₂) (fun _ _ => False) s₁) (fun _ _ => False) s
theorem outRun1 : OutRun (model prog w) A (.DictComp kx vx [⟨t0, i0, ifs0, 0⟩] scope pos) t0 ifs0 D (TlKv (model prog w) A kx vx D) := by
  intro it env R I turn n s h
  refine compLoop_anyD I (fun n s hI => thnF (turn n s hI) fun r s1 h1 => ?_) n h
  cases r with
  | none => exact h1
  | some v =>
    refine thnF h1 fun _ s2 h2 => thnF h2 fun _ s3 h3 => thnF h3 fun ok s4 h4 => ?_
    cases ok with
    | false => exact h4
    | true => exact thnF (show TlKv _ _ _ _ _ _ _ _ from h4) fun kv s5 h5 => thnF h5 fun vv s6 h6 => thnF h6 fun _ _ z => z
theorem turnOut (acc it : Value) (env : Env) :
    compTurn (.DictComp kx vx [⟨t0, i0, ifs0, 0⟩, ⟨t1, i1, ifs1, 0⟩] scope pos) 0 it acc env = (do
      standAt i0.pos
      match ← pyNext it with
      | none => pure (.done .next)
      | some u =>
        letOwnedTupleGo t0 it u
        assign t0 env u
        let mut go := true
        for c in ifs0 do
          if go then go ← isTrue c env (eval c env)
        if go then
          let y ← eval i1 env
          standAt i1.pos
          let y ← foldedSetIterable i1 env y
          let _ ← runOwn (.compStart (.DictComp kx vx [⟨t0, i0, ifs0, 0⟩, ⟨t1, i1, ifs1, 0⟩] scope pos) 1 (← holding [y] (pyIter y)) acc env) env
        again (.compLoop (.DictComp kx vx [⟨t0, i0, ifs0, 0⟩, ⟨t1, i1, ifs1, 0⟩] scope pos) 0 it acc env)) := by rfl
theorem turnIn (it : Value) (env : Env) :
    compTurn (.DictComp kx vx [⟨t0, i0, ifs0, 0⟩, ⟨t1, i1, ifs1, 0⟩] scope pos) 1 it (.ref D) env = (do
      standAt i1.pos
      match ← pyNext it with
      | none => pure (.done .next)
      | some u =>
        letOwnedTupleGo t1 it u
        assign t1 env u
        let mut go := true
        for c in ifs1 do
          if go then go ← isTrue c env (eval c env)
        if go then
          (do
            let a ← eval kx env
            let b ← holding [a] (eval vx env)
            standAt { kx.pos with endLine := vx.pos.endLine, endCol := vx.pos.endCol }
            holding [a, b] (dictSet D a b))
        again (.compLoop (.DictComp kx vx [⟨t0, i0, ifs0, 0⟩, ⟨t1, i1, ifs1, 0⟩] scope pos) 1 it (.ref D) env)) := by rfl
/-- the second source's loop -/
def TlIn (M : Model) (A : Around) (C i1 : Expr) (D : Addr) (env : Env) (post : Shared → Prop) (s : Shared) : Prop :=
  wpAny M A (eval i1 env) (fun x s₁ => wpAny M A (pyIter x) (fun it s₂ => codeAny M A (.compStart C 1 it (.ref D) env) (fun r s' => match r with
    | .ok _ => post s'
    | .error _ => False) s₂) (fun _ _ => False) s₁) (fun _ _ => False) s
theorem outRun2 (hs : ∀ env x, foldedSetIterable i1 env x = pure x) : OutRun (model prog w) A (.DictComp kx vx [⟨t0, i0, ifs0, 0⟩, ⟨t1, i1, ifs1, 0⟩] scope pos) t0 ifs0 D (TlIn (model prog w) A (.DictComp kx vx [⟨t0, i0, ifs0, 0⟩, ⟨t1, i1, ifs1, 0⟩] scope pos) i1 D) := by
  intro it env R I turn n s h
  refine codeAny_loop rfl I (fun n s hI => ?_) n h
  show wpAny _ A ((compTurn (.DictComp kx vx [⟨t0, i0, ifs0, 0⟩, ⟨t1, i1, ifs1, 0⟩] scope pos) 0 it (.ref D) env).onRaise _) _ _ s
  refine wpAny_noted ?_
  rw [turnOut]
  refine wpAny_bind (wpAny_standAt (wpAny_bind (thnF (turn n s hI) fun r s1 h1 => ?_)))
  cases r with
  | none => exact wpAny_pure h1
  | some v =>
    refine wpAny_bind (thnF h1 fun _ s2 h2 => wpAny_bind (thnF h2 fun _ s3 h3 => wpAny_bind (thnF h3 fun ok s4 h4 => ?_)))
    cases ok with
    | false => exact wpAny_pure ⟨rfl, h4⟩
    | true =>
      have h4 : TlIn (model prog w) A _ i1 D env _ s4 := h4
      refine wpAny_bind (thnF h4 fun x s5 h5 => wpAny_bind (wpAny_standAt (wpAny_bind (wpAny_of_eq (hs env x) (wpAny_bind (wpAny_holding (thnF h5 fun i2 s6 h6 => ?_)))))))
      refine wpAny_bind (wpAny_runOwn ?_)
      rw [Around.mark_none]
      refine codeAny_mono h6 fun r s' hr => ?_
      cases r with
      | error e => exact hr.elim
      | ok f => first | exact wpAny_pure ⟨rfl, hr⟩ | exact wpAny_bind (wpAny_pure (wpAny_pure ⟨rfl, hr⟩))
theorem inRun (it : Value) (env : Env) (R : Result → Shared → Prop) (I : Nat → Shared → Prop) (turn : OutTurn (model prog w) A R t1 ifs1 it env (TlKv (model prog w) A kx vx D env) I) (n : Nat) (s : Shared) (h : I n s) :
    codeAny (model prog w) A (.compLoop (.DictComp kx vx [⟨t0, i0, ifs0, 0⟩, ⟨t1, i1, ifs1, 0⟩] scope pos) 1 it (.ref D) env) R s := by
  refine codeAny_loop rfl I (fun n s hI => ?_) n h
  show wpAny _ A ((compTurn (.DictComp kx vx [⟨t0, i0, ifs0, 0⟩, ⟨t1, i1, ifs1, 0⟩] scope pos) 1 it (.ref D) env).onRaise _) _ _ s
  refine wpAny_noted ?_
  rw [turnIn]
  refine wpAny_bind (wpAny_standAt (wpAny_bind (thnF (turn n s hI) fun r s1 h1 => ?_)))
  cases r with
  | none => exact wpAny_pure h1
  | some v =>
    refine wpAny_bind (thnF h1 fun _ s2 h2 => wpAny_bind (thnF h2 fun _ s3 h3 => wpAny_bind (thnF h3 fun ok s4 h4 => ?_)))
    cases ok with
    | false => exact wpAny_pure ⟨rfl, h4⟩
    | true =>
      have h4 : TlKv (model prog w) A kx vx D env _ s4 := h4
      exact wpAny_bind (wpAny_bind (thnF h4 fun a s5 h5 => wpAny_bind (wpAny_holding (thnF h5 fun b s6 h6 => wpAny_bind (wpAny_standAt (wpAny_holding (thnF h6 fun _ s7 h7 => wpAny_pure ⟨rfl, h7⟩)))))))
/-- the second clause's start -/
theorem inStart {it : Value} {env : Env} {s : Shared} (h0 : codeAny (model prog w) A (.compLoop (.DictComp kx vx [⟨t0, i0, ifs0, 0⟩, ⟨t1, i1, ifs1, 0⟩] scope pos) 1 it (.ref D) env) R s)
    (h : wpAny (model prog w) A (pyIter it) (fun i2 s' => codeAny (model prog w) A (.compLoop (.DictComp kx vx [⟨t0, i0, ifs0, 0⟩, ⟨t1, i1, ifs1, 0⟩] scope pos) 1 i2 (.ref D) env) R s') (notedBy (model prog w) A env fun x s' => R (.error x) s') s) :
    codeAny (model prog w) A (.compStart (.DictComp kx vx [⟨t0, i0, ifs0, 0⟩, ⟨t1, i1, ifs1, 0⟩] scope pos) 1 it (.ref D) env) R s := by
  refine codeAny_of_tree ?_
  show wpAny _ _ ((compStart (.DictComp kx vx [⟨t0, i0, ifs0, 0⟩, ⟨t1, i1, ifs1, 0⟩] scope pos) 1 it (.ref D) env).onRaise _) _ _ s
  refine wpAny_notedAt ?_
  unfold compStart
  show wpAny _ _ (ask >>= _) _ _ s
  refine wpAny_bind (wpAny_askSetting (wpAny_ite ?_))
  split
  · first | exact wpAny_bind (wpAny_pure (wpAny_pure (And.intro rfl h0))) | exact wpAny_pure (And.intro rfl h0)
  · refine wpAny_bind (wpAny_rule ?_)
    first
      | exact wpAny_bind (wpAny_standAt (wpAny_bind (wpAny_mono h (fun i2 s' z => wpAny_pure (And.intro rfl z)) fun _ _ x => x)))
      | (show wpAny _ _ (standAt i1.pos >>= _) _ _ s; exact wpAny_bind (wpAny_standAt (wpAny_bind (wpAny_mono h (fun i2 s' z => wpAny_pure (And.intro rfl z)) fun _ _ x => x))))
end
/-! ### over the layer -/
section
variable {X : Cx}
/-- {.. for target in iter if ..}, D the new dict; tl: what a turn asks behind its tests, Nx what is wanted of it -/
def tDcG (o0 : HO) (wi : TI) (g : TG) (tt : TT) (tl : Addr → St → Hp → (Hp → Prop) → Prop) (vs : List Nat) : TE := fun σ H Q => wi σ H fun J H1 => ∀ D, H1 D = none → ∃ W : Nat → Nat → Hp → Prop, (∃ m, W 0 m (upd H1 D o0)) ∧
  ∀ i m H, W i m H → (J.stop i H ∧ Q (.ref D) H) ∨ (J.go i H ∧ ∃ Nx : Hp → Prop, (∀ H', Nx H' → ∃ m', m' < m ∧ W (i + 1) m' H') ∧ ∀ x H', J.yld i H x H' → g x (wipe σ vs) H' fun σ2 H2 => wipe σ2 vs = wipe σ vs ∧ tt σ2 H2 fun b H3 => if b = true then tl D σ2 H3 Nx else Nx H3)
/-- behind the tests: k: v -/
def tlKv (pt : PutT) (tk tv : TE) : Addr → St → Hp → (Hp → Prop) → Prop := fun D σ H N => tk σ H fun y H1 => tv σ H1 fun z H2 => pt D y z H2 N
/-- behind the tests: a second source -/
def tlIn (pt : PutT) (wi1 : TI) (g1 : TG) (tt1 : TT) (tk tv : TE) (vs1 : List Nat) : Addr → St → Hp → (Hp → Prop) → Prop := fun D σ H N => wi1 σ H fun J1 H4 => ∃ W1 : Nat → Nat → Hp → Prop, (∃ m, W1 0 m H4) ∧
  ∀ j k H, W1 j k H → (J1.stop j H ∧ N H) ∨ (J1.go j H ∧ ∃ Nx1 : Hp → Prop, (∀ H', Nx1 H' → ∃ k', k' < k ∧ W1 (j + 1) k' H') ∧ ∀ x H', J1.yld j H x H' → g1 x (wipe σ vs1) H' fun σ3 H5 => wipe σ3 vs1 = wipe σ vs1 ∧ tt1 σ3 H5 fun b H6 => if b = true then tlKv pt tk tv D σ3 H6 Nx1 else Nx1 H6)
/-- a turn's end, in a block of X -/
def TailOk (X : Cx) (scope : Scope) (own : List (Str × Nat)) (Tl : Addr → Env → (Shared → Prop) → Shared → Prop) (tl : Addr → St → Hp → (Hp → Prop) → Prop) : Prop :=
  ∀ (s0 : Shared) (H0 : Hp) (C : Addr) (cl : List (Str × Addr)) (fp : List Addr) (D : Addr) (pins : List (Addr × Obj)) (s : Shared) (σ : St) (H : Hp) (N : Hp → Prop) (post : Shared → Prop), Inv (X.blk s0 H0 scope (compEnvC scope cl C X.env) fp) pins σ H s → tl D σ H N →
    (∀ (σ' : St) (s' : Shared) (H' : Hp), Inv (X.blk s0 H0 scope (compEnvC scope cl C X.env) fp) pins σ' H' s' → σ'.length = σ.length → (∀ (j : Nat) v, j ∉ own.map (·.2) → σ[j]? = some (some v) → σ'[j]? = some (some v)) → N H' → post s') → Tl D (compEnvC scope cl C X.env) post s
theorem dcG_core {pt : PutT} {o0 : HO} {pins : List (Addr × Obj)} {s : Shared} {σ : St} {H : Hp} {Q : VK} {kx vx tg iter : Expr} {ifs : List Expr} {rest : List Comprehension} {scope : Scope} {own : List (Str × Nat)} {pos pos' : Pos} {wi : TI} {g : TG} {tt : TT}
    {tl : Addr → St → Hp → (Hp → Prop) → Prop} {Tl : Addr → Env → (Shared → Prop) → Shared → Prop} {use : Option (Value → Sem Unit)} {Qf : Value → Shared → Prop} (pu : Puts pt o0) (hc : X.calm = true) (hN : X.N.Nodup) (I : Inv X pins σ H s) (hi : PI X tg iter wi) (ok : BlkOk X.N X.env.scope scope own)
    (hg : ∀ s H C cl fp, PG (X.blk s H scope (compEnvC scope cl C X.env) fp) tg g) (ht : ∀ s H C cl fp, PTs (X.blk s H scope (compEnvC scope cl C X.env) fp) ifs tt) (hs : ∀ x, foldedSetIterable iter X.env x = pure x)
    (hR : ∀ D, OutRun (model X.prog X.w) X.A (.DictComp kx vx (⟨tg, iter, ifs, 0⟩ :: rest) scope pos) tg ifs D (Tl D)) (hT : TailOk X scope own Tl tl) (h : tDcG o0 wi g tt tl (own.map (·.2)) σ H Q)
    (fin : ∀ D C s' m H', Inv X pins σ H' s' → Q (.ref D) H' → s'.heap.Ns C m → FpOk X pins H' C → compPost (model X.prog X.w) X.A X.xe use Qf (.ref D) C (.ok .next) s') :
    wpAny (model X.prog X.w) X.A (comprehension (.DictComp kx vx (⟨tg, iter, ifs, 0⟩ :: rest) scope pos) scope X.env pos' newDict false (eval iter X.env) use) Qf X.xe s := by
  have cells : ∀ y ∈ scope.names, y.2 = .free → ∃ c, X.env.cells.lookup y.1 = some c := fun y hy e => (ok.free y hy e).elim (fun k => I.ok.has _ (.inl k)) fun k => I.ok.has _ (.inr k)
  refine wpAny_comprehension_free (use := use) rfl hs (closure_ok cells) ok.kind (fun y hy e => by rw [ok.uniq y hy, e]) (thn (hi.run pins s σ H _ I h) fun xv s1 hx => thn hx fun itv s2 ⟨it, fp, tn, J, H2, e, I2, T, st2, f2, q⟩ => ?_)
  subst e
  refine wpAny_newObj_type (newEnv_comp ?_)
  generalize hD : s2.heap.objs.size = D
  obtain ⟨W, ⟨m0, w0⟩, turn⟩ := q D (I2.hok.fresh (Nat.le_of_eq hD))
  obtain ⟨s3, e3⟩ : ∃ z : Shared, z = { s2 with heap := s2.heap.push { cls := .type "dict", data := .dict #[] } } := ⟨_, rfl⟩
  have h3 : s3.heap = s2.heap.push { cls := .type "dict", data := .dict #[] } := by rw [e3]
  rw [← e3]
  obtain ⟨H3, eH3⟩ : ∃ z, z = upd H2 D o0 := ⟨_, rfl⟩
  rw [← eH3] at w0
  have I3 : Inv X pins σ H3 s3 := by
    rw [e3, eH3]
    refine I2.laid (t' := s2.toks) (fun b o e => Heap.get?_push_of_some _ e) (Nat.le_of_eq hD) ?_
    rw [← hD]
    exact pu.new s2.heap I2.big
  have f3 : ∀ b ∈ fp, FpOk X pins H3 b ∧ b < s3.heap.objs.size := fun b hb => by
    obtain ⟨o, eo, _⟩ := T.obj _ _ st2 b hb
    have lt := Heap.lt_size eo
    refine ⟨⟨?_, (f2 b hb).2⟩, by rw [h3, Heap.size_push]; exact Nat.lt_succ_of_lt lt⟩
    rw [eH3, upd_ne (by rw [← hD]; exact Nat.ne_of_lt lt)]
    exact (f2 b hb).1
  have st3 : tn 0 s3.heap := T.keep _ _ _ st2 fun b _ o e => by rw [h3]; exact Heap.get?_push_of_some _ e
  have I4 := block_start I3 ok hN f3
  have pg := hg s3 H3 s3.heap.objs.size (cellsFrom (s3.heap.objs.size + 1) scope.names (cloFrom X.env.cells scope.names [])) fp
  have pts := ht s3 H3 s3.heap.objs.size (cellsFrom (s3.heap.objs.size + 1) scope.names (cloFrom X.env.cells scope.names [])) fp
  have ptl := hT s3 H3 s3.heap.objs.size (cellsFrom (s3.heap.objs.size + 1) scope.names (cloFrom X.env.cells scope.names [])) fp D
  show codeAny _ _ (.compStart (.DictComp kx vx (⟨tg, iter, ifs, 0⟩ :: rest) scope pos) 0 (.ref it) (.ref D) (compEnvC scope (cellsFrom (s3.heap.objs.size + 1) scope.names (cloFrom X.env.cells scope.names [])) s3.heap.objs.size X.env)) (compPost (model X.prog X.w) X.A X.xe use Qf (.ref D) s3.heap.objs.size) { s3 with heap := pushCells (s3.heap.push { cls := .type "dict", data := .dict #[] }) scope.names }
  generalize hce : compEnvC scope (cellsFrom (s3.heap.objs.size + 1) scope.names (cloFrom X.env.cells scope.names [])) s3.heap.objs.size X.env = ce at I4 pg pts ptl ⊢
  have cL : ce.locals = s3.heap.objs.size := by rw [← hce] <;> rfl
  generalize hs4 : ({ s3 with heap := pushCells (s3.heap.push { cls := .type "dict", data := .dict #[] }) scope.names } : Shared) = s4 at I4 ⊢
  have st4 : tn 0 s4.heap := T.keep _ _ _ st3 fun b _ o e => by rw [← hs4]; exact pushCells_keeps _ _ _ _ (Heap.get?_push_of_some _ e)
  have off : ∀ {σ' : St} {H' : Hp} {s' : Shared}, Inv (X.blk s3 H3 scope ce fp) [] σ' H' s' → (∀ b ∈ fp, H' b = none) → ∀ b ∈ fp, FpOk (X.blk s3 H3 scope ce fp) [] H' b := fun {σ' H' s'} I' hn b hb =>
    ⟨hn b hb, (I'.ok.exf b hb).1, I'.ok.exfs b hb, .inl hb, fun x c e => (I'.ok.exf b hb).2 x c e, fun p hp => absurd (show p ∈ ([] : List (Addr × Obj)) ++ [] from hp) (by simp)⟩
  have loop : codeAny (model X.prog X.w) X.A (.compLoop (.DictComp kx vx (⟨tg, iter, ifs, 0⟩ :: rest) scope pos) 0 (.ref it) (.ref D) ce) (compPost (model X.prog X.w) X.A X.xe use Qf (.ref D) s3.heap.objs.size) s4 := by
    refine hR D (.ref it) ce _ (fun n s' => ∃ i H', Inv (X.blk s3 H3 scope ce fp) [] (wipe σ (own.map (·.2))) H' s' ∧ tn i s'.heap ∧ (∀ b ∈ fp, H' b = none) ∧ W i n H') ?_ m0 s4 ⟨0, H3, I4, st4, fun b hb => (f3 b hb).1.1, w0⟩
    rintro n s5 ⟨i, H5, I5, st5, n5, w5⟩
    rcases turn i n H5 w5 with ⟨stop, qq⟩ | ⟨go, Nx, hNx, step⟩
    · refine thnF (T.done (X.blk s3 H3 scope ce fp) rfl rfl rfl hc i [] s5 _ H5 (fun _ _ => False) I5 (off I5 n5) st5 stop) fun r s6 ⟨hr, I6⟩ => ?_
      subst hr
      have I7 : Inv X pins σ H5 s6 := I3.call' (ch := fp) I6.os I6.base I6.hok I6.bare fun b hb => ⟨(f3 b hb).1.2.2.2.1, (f3 b hb).1.2.1, (f3 b hb).1.2.2.2.2.1, (f3 b hb).1.2.2.2.2.2⟩
      have nC : H5 s3.heap.objs.size = none := cL ▸ (show H5 ce.locals = none from I6.free)
      obtain ⟨m, hn, _⟩ := I6.loc
      exact fin D s3.heap.objs.size s6 m H5 I7 qq (cL ▸ (show s6.heap.Ns ce.locals m from hn)) (I3.fpOk (Nat.le_refl _) nC)
    · refine thnF (T.item (X.blk s3 H3 scope ce fp) rfl rfl rfl hc i [] s5 _ H5 (fun _ _ => False) I5 (off I5 n5) st5 go) fun r s6 ⟨u, hr, h6⟩ => ?_
      subst hr
      refine thnF h6 fun _ s7 ⟨x, H7, I7, r7, y7, st7, n7⟩ => thnF (pg.run _ s7 _ H7 x u _ (I7.pinned (off I7 n7) (T.obj _ _ st7)) r7 (step x H7 y7)) fun _ s8 ⟨σ8, H8, I8, hw8, q8⟩ => thnF (pts.run _ s8 σ8 H8 _ I8 q8) fun b s9 ⟨H9, I9, q9⟩ => ?_
      -- the next turn, from what a turn's end leaves
      have on : ∀ (σ' : St) (s' : Shared) (H' : Hp), Inv (X.blk s3 H3 scope ce fp) ([] ++ pinsAt fp s7.heap) σ' H' s' → σ'.length = σ8.length → (∀ (j : Nat) v, j ∉ own.map (·.2) → σ8[j]? = some (some v) → σ'[j]? = some (some v)) → Nx H' →
          ∃ m, m < n ∧ ∃ i H', Inv (X.blk s3 H3 scope ce fp) [] (wipe σ (own.map (·.2))) H' s' ∧ tn i s'.heap ∧ (∀ b ∈ fp, H' b = none) ∧ W i m H' := fun σ' s' H' I' hl hk nx => by
        obtain ⟨m', hm, w'⟩ := hNx H' nx
        have pin' : ∀ b ∈ fp, ∀ o, s7.heap.get? b = some o → s'.heap.get? b = some o ∧ H' b = none := fun b hb o e =>
          have z := I'.pin (b, o) (List.mem_append_right _ (List.mem_append_right _ (mem_pinsAt hb e)))
          ⟨z.1, z.2.1⟩
        refine ⟨m', hm, i + 1, H', (I'.unpinned (pins := [])).weak (by rw [← hw8, wipe_length, hl]) (fun j v e => ?_), T.keep _ _ _ st7 fun b hb o e => (pin' b hb o e).1, fun b hb => ?_, w'⟩
        · rw [← hw8] at e
          obtain ⟨e1, e2⟩ := wipe_some e
          exact hk j v e2 e1
        · obtain ⟨o, e, _⟩ := T.obj _ _ st7 b hb
          exact (pin' b hb o e).2
      cases b with
      | false =>
        simp only [Bool.false_eq_true, if_false] at q9 ⊢
        exact on σ8 s9 H9 I9 rfl (fun _ _ _ z => z) q9
      | true =>
        simp only [if_true] at q9 ⊢
        exact ptl _ s9 σ8 H9 Nx _ I9 q9 on
  exact codeAny_compStart_dict loop (T.self X.A 0 _ _ _ st4 loop)
section
variable {pt : PutT} {o0 : HO} {kx vx tg iter tg1 iter1 : Expr} {ifs ifs1 : List Expr} {scope : Scope} {own : List (Str × Nat)} {vs1 : List Nat} {pos : Pos} {wi wi1 : TI} {g g1 : TG} {tt tt1 : TT} {tk tv : TE}
theorem tailKv (pu : Puts pt o0) (hu : X.A.units + 1 < cLine) (hk : ∀ s H C cl fp, PE (X.blk s H scope (compEnvC scope cl C X.env) fp) kx tk) (he : ∀ s H C cl fp, PE (X.blk s H scope (compEnvC scope cl C X.env) fp) vx tv) :
    TailOk X scope own (TlKv (model X.prog X.w) X.A kx vx) (tlKv pt tk tv) := by
  intro s0 H0 C cl fp D pins s σ H N post I h on
  refine thnF ((hk s0 H0 C cl fp).run pins s σ H _ I h) fun a s1 ⟨y, H1, I1, r1, q1⟩ => ?_
  refine thnF ((he s0 H0 C cl fp).run pins s1 σ H1 _ I1 q1) fun b s2 ⟨z, H2, I2, r2, q2⟩ => ?_
  exact pu.set (X := X.blk s0 H0 scope (compEnvC scope cl C X.env) fp) hu I2 r1 r2 q2 fun H' s' n I' => on σ s' H' I' rfl (fun _ _ _ z => z) n
theorem tailIn (pu : Puts pt o0) (hc : X.calm = true) (hu : X.A.units + 1 < cLine) (hv : ∀ i ∈ vs1, i ∈ own.map (·.2)) (hi1 : ∀ s H C cl fp, PI (X.blk s H scope (compEnvC scope cl C X.env) fp) tg1 iter1 wi1) (hg1 : ∀ s H C cl fp, PG (X.blk s H scope (compEnvC scope cl C X.env) fp) tg1 g1)
    (ht1 : ∀ s H C cl fp, PTs (X.blk s H scope (compEnvC scope cl C X.env) fp) ifs1 tt1) (hk : ∀ s H C cl fp, PE (X.blk s H scope (compEnvC scope cl C X.env) fp) kx tk) (he : ∀ s H C cl fp, PE (X.blk s H scope (compEnvC scope cl C X.env) fp) vx tv) :
    TailOk X scope own (TlIn (model X.prog X.w) X.A (.DictComp kx vx [⟨tg, iter, ifs, 0⟩, ⟨tg1, iter1, ifs1, 0⟩] scope pos) iter1) (tlIn pt wi1 g1 tt1 tk tv vs1) := by
  intro s0 H0 C cl fp D pins s σ H N post I h on
  have pi1 := hi1 s0 H0 C cl fp
  have pg1 := hg1 s0 H0 C cl fp
  have pt1 := ht1 s0 H0 C cl fp
  have pk := hk s0 H0 C cl fp
  have pv := he s0 H0 C cl fp
  generalize hce : compEnvC scope cl C X.env = ce at *
  refine thnF (pi1.run pins s σ H _ I h) fun xv s1 hx => thnF hx fun itv s2 ⟨it1, fp1, tn1, J1, H2, e1, I2, T1, st2, f2, W1, ⟨m1, w1⟩, turn1⟩ => ?_
  subst e1
  have off1 : ∀ {H' : Hp}, (∀ b ∈ fp1, H' b = none) → ∀ b ∈ fp1, FpOk (X.blk s0 H0 scope ce fp) pins H' b := fun hn b hb => ⟨hn b hb, (f2 b hb).2⟩
  have loop1 : codeAny (model X.prog X.w) X.A (.compLoop (.DictComp kx vx [⟨tg, iter, ifs, 0⟩, ⟨tg1, iter1, ifs1, 0⟩] scope pos) 1 (.ref it1) (.ref D) ce) (fun r s' => match r with
      | .ok _ => post s'
      | .error _ => False) s2 := by
    refine inRun (.ref it1) ce _ (fun k s' => ∃ j H', Inv (X.blk s0 H0 scope ce fp) pins (wipe σ vs1) H' s' ∧ tn1 j s'.heap ∧ (∀ b ∈ fp1, H' b = none) ∧ W1 j k H') ?_ m1 s2 ⟨0, H2, I2.weak (wipe_length _ _) (fun j v e => (wipe_some e).1), st2, fun b hb => (f2 b hb).1, w1⟩
    rintro k s3 ⟨j, H3, I3, st3, n3, w3⟩
    rcases turn1 j k H3 w3 with ⟨stop, nx⟩ | ⟨go, Nx1, hN1, step1⟩
    · refine thnF (T1.done (X.blk s0 H0 scope ce fp) rfl rfl rfl hc j _ s3 (wipe σ vs1) H3 (fun _ _ => False) I3 (off1 n3) st3 stop) fun r s4 ⟨hr, I4⟩ => ?_
      subst hr
      exact on (wipe σ vs1) s4 H3 I4 (wipe_length _ _) (fun j v nj e => (wipe_out fun z => nj (hv j z)).trans e) nx
    · refine thnF (T1.item (X.blk s0 H0 scope ce fp) rfl rfl rfl hc j _ s3 (wipe σ vs1) H3 (fun _ _ => False) I3 (off1 n3) st3 go) fun r s4 ⟨u1, hr, h4⟩ => ?_
      subst hr
      refine thnF h4 fun _ s5 ⟨x1, H5, I5, r5, y5, st5, n5⟩ => thnF (pg1.run _ s5 (wipe σ vs1) H5 x1 u1 _ (I5.pinned (off1 n5) (T1.obj _ _ st5)) r5 (step1 x1 H5 y5)) fun _ s6 ⟨σ6, H6, I6, hw6, q6⟩ => thnF (pt1.run _ s6 σ6 H6 _ I6 q6) fun b s7 ⟨H7, I7, q7⟩ => ?_
      have on1 : ∀ {s' : Shared} {H' : Hp}, Inv (X.blk s0 H0 scope ce fp) (pins ++ pinsAt fp1 s5.heap) σ6 H' s' → Nx1 H' → ∃ m, m < k ∧ ∃ j H', Inv (X.blk s0 H0 scope ce fp) pins (wipe σ vs1) H' s' ∧ tn1 j s'.heap ∧ (∀ b ∈ fp1, H' b = none) ∧ W1 j m H' := fun {s' H'} I' nx => by
        obtain ⟨m', hm, w'⟩ := hN1 H' nx
        have pin' : ∀ b ∈ fp1, ∀ o, s5.heap.get? b = some o → s'.heap.get? b = some o ∧ H' b = none := fun b hb o e =>
          have z := I'.pin (b, o) (List.mem_append_right _ (List.mem_append_right _ (mem_pinsAt hb e)))
          ⟨z.1, z.2.1⟩
        refine ⟨m', hm, j + 1, H', I'.unpinned.weak (by rw [← hw6, wipe_length]) (fun j v e => (wipe_some (hw6.symm ▸ e)).1), T1.keep _ _ _ st5 fun b hb o e => (pin' b hb o e).1, fun b hb => ?_, w'⟩
        obtain ⟨o, e, _⟩ := T1.obj _ _ st5 b hb
        exact (pin' b hb o e).2
      cases b with
      | false =>
        simp only [Bool.false_eq_true, if_false] at q7 ⊢
        exact on1 I7 q7
      | true =>
        simp only [if_true] at q7 ⊢
        exact thnF (pk.run _ s7 σ6 H7 _ I7 q7) fun a s8 ⟨y, H8, I8, r8, q8⟩ => thnF (pv.run _ s8 σ6 H8 _ I8 q8) fun b s9 ⟨z, H9, I9, r9, q9⟩ => pu.set (X := X.blk s0 H0 scope ce fp) hu I9 r8 r9 q9 fun H' s' n I' => on1 I' n
  exact inStart loop1 (T1.self X.A 0 _ _ _ st2 loop1)
/-- {(..): v for target in iter if ..} -/
theorem pe_dcT (hc : X.calm = true) (hN : X.N.Nodup) (hu : X.A.units + 1 < cLine) (hi : PI X tg iter wi) (ok : BlkOk X.N X.env.scope scope own) (hg : ∀ s H C cl fp, PG (X.blk s H scope (compEnvC scope cl C X.env) fp) tg g) (ht : ∀ s H C cl fp, PTs (X.blk s H scope (compEnvC scope cl C X.env) fp) ifs tt)
    (hk : ∀ s H C cl fp, PE (X.blk s H scope (compEnvC scope cl C X.env) fp) kx tk) (he : ∀ s H C cl fp, PE (X.blk s H scope (compEnvC scope cl C X.env) fp) vx tv) (hs : ∀ x, foldedSetIterable iter X.env x = pure x := by intro _; rfl) :
    PE X (.DictComp kx vx [⟨tg, iter, ifs, 0⟩] scope pos) (tDcG (.dT []) wi g tt (tlKv putTup tk tv) (own.map (·.2))) := by
  refine ⟨fun pins s σ H Q I h => ?_⟩
  rw [arm_eval_DictComp]
  exact dcG_core putsTup hc hN I hi ok hg ht hs (fun D => outRun1) (tailKv putsTup hu hk he) h fun D C s' m H' I' q hn ⟨f0, f1, f2, f3, f4, f5⟩ => ⟨m, hn, fun h2 sb => ⟨.ref D, H', I'.turned (t' := s'.toks) (fun b o hb e => (sb.2 b hb).trans e) f0 f1 f3 f4 f5, rfl, q⟩⟩
/-- {k: v for target in iter if .. for target2 in iter2 if ..} -/
theorem pe_dc2 (hc : X.calm = true) (hN : X.N.Nodup) (hu : X.A.units + 1 < cLine) (hi : PI X tg iter wi) (ok : BlkOk X.N X.env.scope scope own) (hv : ∀ i ∈ vs1, i ∈ own.map (·.2)) (hg : ∀ s H C cl fp, PG (X.blk s H scope (compEnvC scope cl C X.env) fp) tg g) (ht : ∀ s H C cl fp, PTs (X.blk s H scope (compEnvC scope cl C X.env) fp) ifs tt)
    (hi1 : ∀ s H C cl fp, PI (X.blk s H scope (compEnvC scope cl C X.env) fp) tg1 iter1 wi1) (hg1 : ∀ s H C cl fp, PG (X.blk s H scope (compEnvC scope cl C X.env) fp) tg1 g1) (ht1 : ∀ s H C cl fp, PTs (X.blk s H scope (compEnvC scope cl C X.env) fp) ifs1 tt1)
    (hk : ∀ s H C cl fp, PE (X.blk s H scope (compEnvC scope cl C X.env) fp) kx tk) (he : ∀ s H C cl fp, PE (X.blk s H scope (compEnvC scope cl C X.env) fp) vx tv) (hs : ∀ x, foldedSetIterable iter X.env x = pure x := by intro _; rfl) (hs1 : ∀ env x, foldedSetIterable iter1 env x = pure x := by intro _ _; rfl) :
    PE X (.DictComp kx vx [⟨tg, iter, ifs, 0⟩, ⟨tg1, iter1, ifs1, 0⟩] scope pos) (tDcG (.dK []) wi g tt (tlIn putKey wi1 g1 tt1 tk tv vs1) (own.map (·.2))) := by
  refine ⟨fun pins s σ H Q I h => ?_⟩
  rw [arm_eval_DictComp]
  exact dcG_core putsKey hc hN I hi ok hg ht hs (fun D => outRun2 hs1) (tailIn putsKey hc hu hv hi1 hg1 ht1 hk he) h fun D C s' m H' I' q hn ⟨f0, f1, f2, f3, f4, f5⟩ => ⟨m, hn, fun h2 sb => ⟨.ref D, H', I'.turned (t' := s'.toks) (fun b o hb e => (sb.2 b hb).trans e) f0 f1 f3 f4 f5, rfl, q⟩⟩
/-- y = {(..): v for ..}, y a local -/
theorem ps_setDcT {i : Nat} {y : Str} {py spos : Pos} (hc : X.calm = true) (nd : X.N.Nodup) (hu : X.A.units + 1 < cLine) (hy : X.N[i]? = some y) (loc : X.env.scope.names.lookup y = some .local) (sw : swapsWith (.DictComp kx vx [⟨tg, iter, ifs, 0⟩] scope pos) (some (.Name y py)) spos.line X.env = pure true) (hi : PI X tg iter wi) (ok : BlkOk X.N X.env.scope scope own)
    (hg : ∀ s H C cl fp, PG (X.blk s H scope (compEnvC scope cl C X.env) fp) tg g) (ht : ∀ s H C cl fp, PTs (X.blk s H scope (compEnvC scope cl C X.env) fp) ifs tt)
    (hk : ∀ s H C cl fp, PE (X.blk s H scope (compEnvC scope cl C X.env) fp) kx tk) (he : ∀ s H C cl fp, PE (X.blk s H scope (compEnvC scope cl C X.env) fp) vx tv) (hs : ∀ x, foldedSetIterable iter X.env x = pure x := by intro _; rfl) :
    PS X (.Assign [.Name y py] (.DictComp kx vx [⟨tg, iter, ifs, 0⟩] scope pos) spos) (tAsg (tDcG (.dT []) wi g tt (tlKv putTup tk tv) (own.map (·.2))) (gName i)) := by
  constructor
  intro pins s σ H D I h
  have want : tDcG (.dT []) wi g tt (tlKv putTup tk tv) (own.map (·.2)) σ H (fun x H1 => gName i x σ H1 D.nx) := h
  rw [exec_Assign_Name_used _ _ _ _ sw]
  refine wpAny_bind (wpAny_standAt (wpAny_bind ?_))
  show wpAny _ X.A (do let _ ← comprehension (.DictComp kx vx [⟨tg, iter, ifs, 0⟩] scope pos) scope X.env (firstIterPos [⟨tg, iter, ifs, 0⟩] pos) newDict false (eval iter X.env) (some (assign (.Name y py) X.env))) _ _ s
  refine wpAny_bind (thn (dcG_core (Qf := fun _ s' => SP X pins D .next s') putsTup hc nd I hi ok hg ht hs (fun D => outRun1) (tailKv putsTup hu hk he) want fun L C s' m H' J q hn f => ?_) fun _ _ z => wpAny_pure (wpAny_pure z))
  show wpAny _ _ (assign (.Name y py) X.env (.ref L)) _ _ _
  refine wpAny_assign_Name (store_ok2 (v := V.ref L) J nd hy (.inl loc) rfl (fun s2 J2 ⟨a, sb, ha⟩ => ?_) (.inr loc))
  obtain ⟨z0, z1, z2, z3, z4, z5⟩ := f
  have off : C ≠ a := ha.elim (fun e => e ▸ z1) fun e => (z4 y a e).symm
  exact ⟨m, hn.sameBut sb off, fun h3 sb3 => ⟨_, H', J2.turned (t' := s2.toks) (fun b o hb e => (sb3.2 b hb).trans e) z0 z1 z3 z4 z5, q⟩⟩
end
end
end L2


/-! Own: list(zip(a, b)) of two lists, as a value. -/
namespace ZlI
open PySem PySem.Calls PySem.Spec PyProof.Rows PySem.W L2
theorem zip_no_len : typeLookup (.type "zip") "__len__" = pure none := by rw [typeLookup_type, builtinLookup_eq_fast]; kernel_rfl
theorem zip_no_hint : typeLookup (.type "zip") "__length_hint__" = pure none := by rw [typeLookup_type, builtinLookup_eq_fast]; kernel_rfl
structure ZlSt (h : Heap) (z TI TO i1 i2 l1 l2 S : Addr) (xs ys : Array Value) (i : Nat) : Prop where
  ti : IsPair h TI (.ref i1) (.ref i2)
  h1 : h.IsListIter i1 l1 i
  h2 : h.IsListIter i2 l2 i
  a1 : h.IsList l1 xs
  a2 : h.IsList l2 ys
  zz : (IsZip h z TI TO .none ∧ ∃ a b, IsPair h TO a b) ∨ ∃ T f oT, IsZipHeld h z TI TO T f ∧ h.get? T = some oT ∧ T ≠ z ∧ T ≠ TO ∧ T ≠ i1 ∧ T ≠ i2 ∧ T ≠ S
structure ZlLow (z TI TO i1 i2 l1 l2 S : Addr) : Prop where
  z : z < S
  TI : TI < S
  TO : TO < S
  i1 : i1 < S
  i2 : i2 < S
  l1 : l1 < S
  l2 : l2 < S
section
variable {z TI TO i1 i2 l1 l2 S : Addr} {xs ys : Array Value} {i : Nat}
theorem list_at {h h' : Heap} {l : Addr} {xs : Array Value} (a : h.IsList l xs) (k : ∀ o, h.get? l = some o → h'.get? l = some o) : h'.IsList l xs := let ⟨o, e, r⟩ := a; ⟨o, k o e, r⟩
theorem iter_at {h h' : Heap} {l a : Addr} {i : Nat} (x : h.IsListIter a l i) (k : ∀ o, h.get? a = some o → h'.get? a = some o) : h'.IsListIter a l i := let ⟨o, e, r⟩ := x; ⟨o, k o e, r⟩
theorem ZlSt.keep {h h' : Heap} (x : ZlSt h z TI TO i1 i2 l1 l2 S xs ys i) (L : ZlLow z TI TO i1 i2 l1 l2 S) (k : ∀ b o, b ≠ S → h.get? b = some o → h'.get? b = some o) : ZlSt h' z TI TO i1 i2 l1 l2 S xs ys i := by
  refine ⟨k _ _ (Nat.ne_of_lt L.TI) x.ti, iter_at x.h1 fun o e => k _ _ (Nat.ne_of_lt L.i1) e, iter_at x.h2 fun o e => k _ _ (Nat.ne_of_lt L.i2) e, list_at x.a1 fun o e => k _ _ (Nat.ne_of_lt L.l1) e, list_at x.a2 fun o e => k _ _ (Nat.ne_of_lt L.l2) e, ?_⟩
  rcases x.zz with ⟨z1, a, b, z2⟩ | ⟨T, f, oT, z1, z2, n1, n2, n3, n4, n5⟩
  · exact .inl ⟨k _ _ (Nat.ne_of_lt L.z) z1, a, b, k _ _ (Nat.ne_of_lt L.TO) z2⟩
  · exact .inr ⟨T, f, oT, k _ _ (Nat.ne_of_lt L.z) z1, k _ _ n5 z2, n1, n2, n3, n4, n5⟩
variable {prog : Program} {w : World} {A : Around} {E : Value → Shared → Prop} {s : Shared}
theorem zl_item {x y : Value} {Q : Option Value → Shared → Prop} (D : ZipApart z TI TO i1 i2 l1 l2) (st : ZlSt s.heap z TI TO i1 i2 l1 l2 S xs ys i) (hS : S < s.heap.objs.size) (L : ZlLow z TI TO i1 i2 l1 l2 S) (hx : xs[i]? = some x) (hy : ys[i]? = some y)
    (hQ : ∀ h', ZlSt h' z TI TO i1 i2 l1 l2 S xs ys (i + 1) → IsPair h' s.heap.objs.size x y → h'.objs.size = s.heap.objs.size + 1 → (∀ c o, c ≠ z → c ≠ TO → c ≠ i1 → c ≠ i2 → s.heap.get? c = some o → h'.get? c = some o) → Q (some (.ref s.heap.objs.size)) { s with heap := h' }) :
    wpAny (model prog w) A (pyNext (.ref z)) Q E s := by
  have up : ∀ c, c < S → s.heap.objs.size ≠ c := fun c h => Nat.ne_of_gt (Nat.lt_trans h hS)
  rcases st.zz with ⟨z1, a, b, z2⟩ | ⟨T, f, oT, z1, z2, n1, n2, n3, n4, n5⟩
  · refine wpAny_pyNext_zip_item D z1 st.ti z2 st.h1 st.h2 st.a1 st.a2 hx hy fun h' z' TO' h1' h2' hT hsz hk => hQ h' ⟨hk _ _ D.TIz D.TITO D.TIi1 D.TIi2 st.ti, h1', h2', list_at st.a1 fun o e => hk _ _ D.l1z D.l1TO D.l1i1 D.l1i2 e, list_at st.a2 fun o e => hk _ _ D.l2z D.l2TO D.l2i1 D.l2i2 e, .inr ⟨s.heap.objs.size, false, _, z', hT, up _ L.z, up _ L.TO, up _ L.i1, up _ L.i2, Nat.ne_of_gt hS⟩⟩ hT hsz hk
  · refine wpAny_pyNext_zip_item_held D z1 z2 st.ti st.h1 st.h2 st.a1 st.a2 hx hy fun h' z' h1' h2' hT hsz hk => hQ h' ⟨hk _ _ D.TIz D.TIi1 D.TIi2 st.ti, h1', h2', list_at st.a1 fun o e => hk _ _ D.l1z D.l1i1 D.l1i2 e, list_at st.a2 fun o e => hk _ _ D.l2z D.l2i1 D.l2i2 e, .inr ⟨T, true, oT, z', hk _ _ n1 n3 n4 z2, n1, n2, n3, n4, n5⟩⟩ hT hsz fun c o c1 c2 c3 c4 e => hk c o c1 c3 c4 e
theorem zl_done {Q : Option Value → Shared → Prop} (hh : A.handled = none) (D : ZipApart z TI TO i1 i2 l1 l2) (st : ZlSt s.heap z TI TO i1 i2 l1 l2 S xs ys i) (hend : xs[i]? = none ∨ ys[i]? = none)
    (hQ : ∀ h', (∀ c o, c ≠ z → c ≠ TO → c ≠ i1 → c ≠ i2 → s.heap.get? c = some o → h'.get? c = some o) → Q none { s with heap := h' }) : wpAny (model prog w) A (pyNext (.ref z)) Q E s := by
  rcases st.zz with ⟨z1, a, b, z2⟩ | ⟨T, f, oT, z1, z2, n1, n2, n3, n4, n5⟩
  · exact wpAny_pyNext_zip_end hh D z1 st.ti z2 st.h1 st.h2 st.a1 st.a2 hend hQ
  · exact wpAny_pyNext_zip_end_held hh D z1 z2 st.ti st.h1 st.h2 st.a1 st.a2 hend fun h' hk => hQ h' fun c o c1 c2 c3 c4 e => hk c o c1 c3 c4 e
structure ZlG (xs ys : Array Value) (lo : Addr) (h : Heap) (as : List Addr) : Prop where
  rise : as.Pairwise (· < ·)
  above : ∀ a ∈ as, lo < a
  pairs : ∀ (j : Nat) (a : Addr), as[j]? = some a → ∃ x y, xs[j]? = some x ∧ ys[j]? = some y ∧ IsPair h a x y
theorem ZlG.there {lo : Addr} {h : Heap} {as : List Addr} (g : ZlG xs ys lo h as) {a : Addr} (ha : a ∈ as) : a < h.objs.size := by
  obtain ⟨j, hj⟩ := List.mem_iff_getElem?.mp ha
  obtain ⟨_, _, _, _, e⟩ := g.pairs j a hj
  exact Heap.lt_size e
end
section
variable {z TI TO i1 i2 l1 l2 S : Addr} {xs ys : Array Value} {prog : Program} {w : World} {A : Around} {s : Shared} {R : Result → Shared → Prop}
theorem zl_loop (hh : A.handled = none) (D : ZipApart z TI TO i1 i2 l1 l2) (L : ZlLow z TI TO i1 i2 l1 l2 S) {n : Nat} (hn : n = min xs.size ys.size) (few : n ≤ sizeLine) (res : Value) {h₁ : Heap}
    (hR : ∀ h' tk acc c as, (∀ b o, b ≠ S → b ≠ z → b ≠ TO → b ≠ i1 → b ≠ i2 → h₁.get? b = some o → h'.get? b = some o) → h'.get? S = some { cls := .type "list", dict := none, data := .seq acc c, slots := #[] } → as.length = n → ZlG xs ys S h' as →
      acc.toList = as.map Value.ref → R (.ok (.ret res)) { s with heap := h', toks := tk }) :
    ∀ (k i : Nat) (h : Heap) (tk c : Nat) (acc : Array Value) (as : List Addr), n - i = k → i ≤ n → ZlSt h z TI TO i1 i2 l1 l2 S xs ys i → (∀ b o, b ≠ S → b ≠ z → b ≠ TO → b ≠ i1 → b ≠ i2 → h₁.get? b = some o → h.get? b = some o) →
      h.get? S = some { cls := .type "list", dict := none, data := .seq acc c, slots := #[] } → acc.toList = as.map Value.ref → as.length = i → ZlG xs ys S h as →
      codeAny (model prog w) A (.builtin "list.extend.loop" ⟨[.ref S, .ref z, res], []⟩) R { s with heap := h, toks := tk } := by
  have sz : S ≠ z := Nat.ne_of_gt L.z
  have sTO : S ≠ TO := Nat.ne_of_gt L.TO
  have s1 : S ≠ i1 := Nat.ne_of_gt L.i1
  have s2 : S ≠ i2 := Nat.ne_of_gt L.i2
  have off : ∀ b, S < b → b ≠ z ∧ b ≠ TO ∧ b ≠ i1 ∧ b ≠ i2 := fun b hb => ⟨Nat.ne_of_gt (Nat.lt_trans L.z hb), Nat.ne_of_gt (Nat.lt_trans L.TO hb), Nat.ne_of_gt (Nat.lt_trans L.i1 hb), Nat.ne_of_gt (Nat.lt_trans L.i2 hb)⟩
  intro k
  induction k with
  | zero =>
    intro i h tk c acc as hk hi hst hkeep hS hacc hal hG
    have hin : i = n := by omega
    refine codeAny_builtin PySem.F.entry_extend_loop ?_
    rw [Around.under_plainId PySem.F.plain_extend_loop _]
    show wpAny _ A.in1 (pyNext (.ref z) >>= _) _ _ _
    refine wpAny_bind (zl_done (s := { s with heap := h, toks := tk }) (A := A.in1) hh D hst ?_ fun h' he => ?_)
    · rcases Nat.le_total xs.size ys.size with q | q
      · exact .inl (by simp; omega)
      · exact .inr (by simp; omega)
    · refine wpAny_pure (hR h' tk acc c as (fun b o b0 b1 b2 b3 b4 e => he b o b1 b2 b3 b4 (hkeep b o b0 b1 b2 b3 b4 e)) (he S _ sz sTO s1 s2 hS) (by omega) ⟨hG.rise, hG.above, fun j a hj => ?_⟩ hacc)
      obtain ⟨x, y, e1, e2, e3⟩ := hG.pairs j a hj
      obtain ⟨n1, n2, n3, n4⟩ := off a (hG.above a (List.mem_of_getElem? hj))
      exact ⟨x, y, e1, e2, he a _ n1 n2 n3 n4 e3⟩
  | succ k ih =>
    intro i h tk c acc as hk hi hst hkeep hS hacc hal hG
    have hlt : i < n := by omega
    obtain ⟨x, hx⟩ : ∃ p, xs[i]? = some p := ⟨xs[i]'(by omega), by simp⟩
    obtain ⟨y, hy⟩ : ∃ p, ys[i]? = some p := ⟨ys[i]'(by omega), by simp⟩
    have hsz : acc.size = i := by rw [← Array.length_toList, hacc, List.length_map, hal]
    have hSl : S < h.objs.size := Heap.lt_size hS
    refine codeAny_builtin PySem.F.entry_extend_loop ?_
    rw [Around.under_plainId PySem.F.plain_extend_loop _]
    show wpAny _ A.in1 (pyNext (.ref z) >>= _) _ _ _
    refine wpAny_bind (zl_item (s := { s with heap := h, toks := tk }) (S := S) D hst hSl L hx hy fun h' hst' ht hz hkp => ?_)
    dsimp only at ht hz hkp ⊢
    have hS' := hkp S _ sz sTO s1 s2 hS
    have up : ∀ b o, b ≠ S → h'.get? b = some o → (h'.update S (Obj.mapSeq (·.push (Value.ref h.objs.size)))).get? b = some o := fun b o hb e => (Heap.get?_update_other _ _ (Ne.symm hb)).trans e
    show wpAny _ A.in1 (updateSeq S (·.push (Value.ref h.objs.size)) >>= _) _ _ _
    refine wpAny_bind ?_
    refine wpAny_updateSeq hS' rfl (wpAny_pure ⟨plainId_quiet PySem.F.plain_extend_loop _, ih (i + 1) _ tk _ (acc.push (Value.ref h.objs.size)) (as ++ [h.objs.size]) (by omega) hlt (hst'.keep L up)
      (fun b o b0 b1 b2 b3 b4 e => up b o b0 (hkp b o b1 b2 b3 b4 (hkeep b o b0 b1 b2 b3 b4 e))) (Heap.get?_update_self _ hS' rfl) (by rw [Array.toList_push, hacc, List.map_append]; rfl) (by rw [List.length_append, hal]; rfl) ⟨?_, ?_, ?_⟩⟩) (by rw [hsz]; omega) (by show (acc.push (Value.ref h.objs.size)).size ≤ sizeLine + 1; rw [Array.size_push, hsz]; omega)
    · refine List.pairwise_append.mpr ⟨hG.rise, List.pairwise_singleton _ _, fun a ha b hb => ?_⟩
      rw [List.mem_singleton.mp hb]
      exact hG.there ha
    · intro a ha
      rcases List.mem_append.mp ha with ha | ha
      · exact hG.above a ha
      · rw [List.mem_singleton.mp ha]; exact hSl
    · intro j b hj
      rcases Nat.lt_trichotomy j as.length with h1 | h1 | h1
      · rw [List.getElem?_append_left h1] at hj
        obtain ⟨x', y', e1, e2, e3⟩ := hG.pairs j b hj
        have hb := hG.above b (List.mem_of_getElem? hj)
        obtain ⟨n1, n2, n3, n4⟩ := off b hb
        exact ⟨x', y', e1, e2, up b _ (Nat.ne_of_gt hb) (hkp b _ n1 n2 n3 n4 e3)⟩
      · subst h1
        have hb : h.objs.size = b := by simpa using hj
        subst hb
        exact ⟨x, y, by rw [hal]; exact hx, by rw [hal]; exact hy, up _ _ (Nat.ne_of_gt hSl) ht⟩
      · have hnone : (as ++ [h.objs.size])[j]? = none := List.getElem?_eq_none (by rw [List.length_append, List.length_singleton]; omega)
        rw [hnone] at hj; cases hj
end
section
variable {z TI TO i1 i2 l1 l2 : Addr} {xs ys : Array Value} {prog : Program} {w : World} {A : Around} {E : Value → Shared → Prop} {s : Shared}
/-- the zip as it is made -/
structure ZlNew (h : Heap) (z TI TO i1 i2 l1 l2 : Addr) (xs ys : Array Value) : Prop where
  zz : IsZip h z TI TO .none
  ti : IsPair h TI (.ref i1) (.ref i2)
  to : ∃ a b, IsPair h TO a b
  h1 : h.IsListIter i1 l1 0
  h2 : h.IsListIter i2 l2 0
  a1 : h.IsList l1 xs
  a2 : h.IsList l2 ys
theorem ZlNew.low {h : Heap} (x : ZlNew h z TI TO i1 i2 l1 l2 xs ys) {S : Addr} (hS : h.objs.size ≤ S) : ZlLow z TI TO i1 i2 l1 l2 S := by
  obtain ⟨a, b, t⟩ := x.to
  obtain ⟨o1, e1, _⟩ := x.h1
  obtain ⟨o2, e2, _⟩ := x.h2
  obtain ⟨o3, e3, _⟩ := x.a1
  obtain ⟨o4, e4, _⟩ := x.a2
  have lt : ∀ {c : Addr} {o : Obj}, h.get? c = some o → c < S := fun e => Nat.lt_of_lt_of_le (Heap.lt_size e) hS
  exact ⟨lt x.zz, lt x.ti, lt t, lt e1, lt e2, lt e3, lt e4⟩
theorem ZlNew.st {h h' : Heap} {S : Addr} (x : ZlNew h z TI TO i1 i2 l1 l2 xs ys) (k : ∀ b o, h.get? b = some o → h'.get? b = some o) : ZlSt h' z TI TO i1 i2 l1 l2 S xs ys 0 := by
  obtain ⟨a, b, t⟩ := x.to
  exact ⟨k _ _ x.ti, iter_at x.h1 fun o e => k _ _ e, iter_at x.h2 fun o e => k _ _ e, list_at x.a1 fun o e => k _ _ e, list_at x.a2 fun o e => k _ _ e, .inl ⟨k _ _ x.zz, a, b, k _ _ t⟩⟩
theorem zl_extend {S : Addr} {R : Result → Shared → Prop} (hh : A.handled = none) (D : ZipApart z TI TO i1 i2 l1 l2) (L : ZlLow z TI TO i1 i2 l1 l2 S) (st : ZlSt s.heap z TI TO i1 i2 l1 l2 S xs ys 0) (hz0 : IsZip s.heap z TI TO .none) (res : Value) (c₀ : Nat) (hS : s.heap.get? S = some { cls := .type "list", data := .seq #[] c₀ })
    (hR : ∀ h' tk acc c as, (∀ b o, b ≠ S → b ≠ z → b ≠ TO → b ≠ i1 → b ≠ i2 → s.heap.get? b = some o → h'.get? b = some o) → h'.get? S = some { cls := .type "list", dict := none, data := .seq acc c, slots := #[] } → as.length = min xs.size ys.size → ZlG xs ys S h' as →
      acc.toList = as.map Value.ref → R (.ok (.ret res)) { s with heap := h', toks := tk }) (few : min xs.size ys.size ≤ sizeLine) :
    wpAny (model prog w) A.in1 (Builtin.List.listExtendWith (.ref S) (.ref z) res)
      (fun fin s' => match fin with | .done f => R (.ok f) s' | .again c' => c'.quiet = true ∧ codeAny (model prog w) A c' R s') (fun e s' => R (.error e) s') s := by
  have hSz : S ≠ z := Nat.ne_of_gt L.z
  have hT : s.TypeIs (.ref z) "zip" := ⟨_, hz0, rfl⟩
  unfold Builtin.List.listExtendWith
  refine wpAny_bind (wpAny_typeOf hT ?_)
  have h1 : Builtin.List.listSameRef (.ref S) (.ref z) = false := by simp [Builtin.List.listSameRef, hSz]
  have h2 : (Value.type "zip" == Value.type "list") = false := by decide
  have h3 : (Value.type "zip" == Value.type "tuple") = false := by decide
  simp only [h1, h2, h3, Bool.or_false, Bool.false_eq_true, if_false]
  refine wpAny_bind (wpAny_pyIter_zip hz0 ?_)
  refine wpAny_bind (wpAny_holding ?_)
  unfold Builtin.List.listLengthHint
  refine wpAny_bind (wpAny_specialOf hT zip_no_len ?_)
  show wpAny _ A.in1 (specialOf (Value.ref z) (Str.ofString "__length_hint__") >>= _) _ _ _
  refine wpAny_bind (wpAny_specialOf hT zip_no_hint ?_)
  refine wpAny_pure ?_
  show wpAny _ A.in1 (rule "list.extend.makes-room" >>= fun _ => Builtin.List.listTouch (.ref S) >>= fun _ =>
    again (.builtin "list.extend.loop" ⟨[.ref S, .ref z, res], []⟩)) _ _ _
  refine wpAny_bind (wpAny_rule ?_)
  refine wpAny_bind ?_
  show wpAny _ A.in1 (updateSeq S (·.push .none) >>= fun _ => updateSeq S (·.pop)) _ _ _
  refine wpAny_bind (wpAny_updateSeq hS rfl ?_)
  have hS₂ := Heap.get?_update_self (Obj.mapSeq (·.push Value.none)) hS rfl
  refine wpAny_updateSeq (hz := by seq_fits) hS₂ rfl ?_
  have hS₃ := Heap.get?_update_self (Obj.mapSeq (·.pop)) hS₂ rfl
  have oth : ∀ b o, b ≠ S → s.heap.get? b = some o → ((s.heap.update S (Obj.mapSeq (·.push Value.none))).update S (Obj.mapSeq (·.pop))).get? b = some o :=
    fun b o hb e => (Heap.get?_update_other _ _ (Ne.symm hb)).trans ((Heap.get?_update_other _ _ (Ne.symm hb)).trans e)
  refine wpAny_pure ⟨plainId_quiet PySem.F.plain_extend_loop _, ?_⟩
  exact zl_loop (s := s) (h₁ := s.heap) hh D L rfl few res (fun h' tk acc c as hk hS' hl hG hacc => hR h' tk acc c as hk hS' hl hG hacc) _ 0 _ s.toks _ #[] [] rfl (Nat.zero_le _) (st.keep L oth) (fun b o b0 _ _ _ _ e => oth b o b0 e) hS₃ rfl rfl
    ⟨List.Pairwise.nil, (fun _ ha => nomatch ha), (fun j a hj => by simp at hj)⟩
theorem zl_init {S : Addr} {R : Result → Shared → Prop} (hh : A.handled = none) (D : ZipApart z TI TO i1 i2 l1 l2) (L : ZlLow z TI TO i1 i2 l1 l2 S) (st : ZlSt s.heap z TI TO i1 i2 l1 l2 S xs ys 0) (hz0 : IsZip s.heap z TI TO .none) (hS : s.heap.get? S = some { cls := .type "list", data := .seq #[] })
    (hR : ∀ h' tk acc c as, (∀ b o, b ≠ S → b ≠ z → b ≠ TO → b ≠ i1 → b ≠ i2 → s.heap.get? b = some o → h'.get? b = some o) → h'.get? S = some { cls := .type "list", dict := none, data := .seq acc c, slots := #[] } → as.length = min xs.size ys.size → ZlG xs ys S h' as →
      acc.toList = as.map Value.ref → R (.ok (.ret .none)) { s with heap := h', toks := tk }) (few : min xs.size ys.size ≤ sizeLine) :
    wpAny (model prog w) A.in1 (Builtin.«list.__init__» ⟨[.ref S, .ref z], []⟩)
      (fun fin s' => match fin with | .done f => R (.ok f) s' | .again c' => c'.quiet = true ∧ codeAny (model prog w) A c' R s') (fun e s' => R (.error e) s') s := by
  show wpAny _ _ (do let old ← Builtin.List.listItems (.ref S); Builtin.List.listUpdate (.ref S) (fun _ => #[]); letGo old.toList.reverse; Builtin.List.listExtendWith (.ref S) (.ref z) .none) _ _ s
  refine wpAny_bind ?_
  unfold Builtin.List.listItems
  refine wpAny_bind (wpAny_seqItems hS rfl (wpAny_pure ?_))
  show wpAny _ _ (updateSeq S (fun _ => #[]) >>= fun _ => letGo (#[] : Array Value).toList.reverse >>= fun _ => Builtin.List.listExtendWith (.ref S) (.ref z) .none) _ _ s
  refine wpAny_bind (wpAny_updateSeq hS rfl ?_)
  have hS₂ := Heap.get?_update_self (Obj.mapSeq (fun _ => (#[] : Array Value))) hS rfl
  have oth : ∀ b o, b ≠ S → s.heap.get? b = some o → (s.heap.update S (Obj.mapSeq (fun _ => (#[] : Array Value)))).get? b = some o :=
    fun b o hb e => (Heap.get?_update_other _ _ (Ne.symm hb)).trans e
  refine wpAny_bind (wpAny_letGo ?_)
  refine zl_extend hh D L (st.keep L oth) (oth _ _ (Nat.ne_of_lt L.z) hz0) .none _ hS₂ (fun h' tk acc c as hk hS' hl hG hacc => ?_) few
  exact hR h' tk acc c as (fun b o b0 b1 b2 b3 b4 e => hk b o b0 b1 b2 b3 b4 (oth b o b0 e)) hS' hl hG hacc
theorem zl_call {Q : Value → Shared → Prop} (hh : A.handled = none) (D : ZipApart z TI TO i1 i2 l1 l2) (x : ZlNew s.heap z TI TO i1 i2 l1 l2 xs ys) (few : min xs.size ys.size ≤ sizeLine)
    (hQ : ∀ h' tk acc c as, (∀ b o, b ≠ z → b ≠ TO → b ≠ i1 → b ≠ i2 → s.heap.get? b = some o → h'.get? b = some o) → h'.get? s.heap.objs.size = some { cls := .type "list", dict := none, data := .seq acc c, slots := #[] } → as.length = min xs.size ys.size → ZlG xs ys s.heap.objs.size h' as →
      acc.toList = as.map Value.ref → Q (.ref s.heap.objs.size) { s with heap := h', toks := tk }) :
    wpAny (model prog w) A (call (.type "list") [.ref z]) Q E s := by
  refine callType_codes (Q₁ := fun obj s₁ => obj = .ref s.heap.objs.size ∧ s₁ = { s with heap := s.heap.push { cls := .type "list", data := .seq #[] } }) PySem.F.called_list (PySem.F.typeCall_list_1 _) PySem.F.entry_list_init
    (code_list_new _ ⟨rfl, rfl⟩) fun obj s₁ h₁ => ?_
  obtain ⟨rfl, rfl⟩ := h₁
  have hS : (s.heap.push { cls := .type "list", data := .seq #[] }).get? s.heap.objs.size = some { cls := .type "list", data := .seq #[] } := Heap.get?_push_size _ rfl
  have up : ∀ b o, s.heap.get? b = some o → (s.heap.push { cls := .type "list", data := .seq #[] }).get? b = some o := fun b o e => Heap.get?_push_of_some _ e
  refine ⟨⟨_, hS, rfl⟩, PySem.F.args_list_init_2 _ _, zl_init (A := A.in1) hh D (x.low (Nat.le_refl _)) (x.st up) (up _ _ x.zz) hS (fun h' tk acc c as hk hS' hl hG hacc => ?_) few⟩
  exact ⟨rfl, hQ h' tk acc c as (fun b o b1 b2 b3 b4 e => hk b o (Nat.ne_of_lt (Heap.lt_size e)) b1 b2 b3 b4 (up b o e)) hS' hl hG hacc⟩
end
end ZlI


namespace ZlI
open PySem PySem.Calls PySem.Spec PyProof.Rows L2 LiI
def putP : Hp → List Addr → List (V × V) → Hp
  | H, a :: as, p :: kvs => putP (upd H a (.tup [p.1, p.2])) as kvs
  | H, _, _ => H
theorem putP_off {b : Addr} : ∀ (as : List Addr) (kvs : List (V × V)) (H : Hp), b ∉ as → putP H as kvs b = H b
  | [], _, _, _ => rfl
  | _ :: _, [], _, _ => rfl
  | a :: as, p :: kvs, H, h => by
    show putP (upd H a (.tup [p.1, p.2])) as kvs b = H b
    rw [putP_off as kvs _ (fun z => h (List.mem_cons_of_mem _ z)), upd_ne (fun z => h (by rw [z]; exact List.mem_cons_self))]
theorem putP_at : ∀ (as : List Addr) (kvs : List (V × V)) (H : Hp), as.length = kvs.length → as.Nodup → Paired (fun (t : Addr) (p : V × V) => putP H as kvs t = some (.tup [p.1, p.2])) as kvs
  | [], [], _, _, _ => .nil
  | [], _ :: _, _, h, _ => by cases h
  | _ :: _, [], _, h, _ => by cases h
  | a :: as, p :: kvs, H, h, hn => by
    have hn' := List.nodup_cons.mp hn
    have ih := putP_at as kvs (upd H a (.tup [p.1, p.2])) (Nat.succ.inj h) hn'.2
    refine .cons ?_ ih
    show putP (upd H a (.tup [p.1, p.2])) as kvs a = some (.tup [p.1, p.2])
    rw [putP_off as kvs _ hn'.1, upd_same]
def tListZip (K : PySem.W.Frag) (ta : TA) : TE := fun σ H Q => ta σ H fun vs H1 => ∃ (a b : Addr) (xs ys : List V), vs = [.ref a, .ref b] ∧ SqL K H1 a xs ∧ SqL K H1 b ys ∧
  ∀ (H' : Hp) (p : Addr) (ts : List Addr), (∀ b o, H1 b = some o → H' b = some o) → H1 p = none → (∀ t ∈ ts, H1 t = none) → p ∉ ts → H' p = some (.lst (ts.map V.ref)) → Paired (fun (t : Addr) (q : V × V) => H' t = some (.tup [q.1, q.2])) ts (xs.zip ys) → Q (.ref p) H'
section
variable {X : Cx}
theorem zip_laid {pins : List (Addr × Obj)} {σ : L2.St} {H : Hp} {s : Shared} {h' : Heap} {tk : Nat} {xs ys : List V} {us vs : List Value} {acc : Array Value} {c : Nat} {as : List Addr} {S : Addr} (I : Inv X pins σ H s) (few : (xs.zip ys).length ≤ sizeLine) (r1 : Vals xs us) (r2 : Vals ys vs) (hS0 : s.heap.objs.size ≤ S)
    (hk : ∀ b o, s.heap.get? b = some o → h'.get? b = some o) (hS : h'.get? S = some { cls := .type "list", dict := none, data := .seq acc c, slots := #[] }) (hl : as.length = (xs.zip ys).length) (hG : ZlG us.toArray vs.toArray S h' as) (hacc : acc.toList = as.map Value.ref) :
    ∃ H' : Hp, (∀ b o, H b = some o → H' b = some o) ∧ H S = none ∧ (∀ t ∈ as, H t = none) ∧ S ∉ as ∧ H' S = some (.lst (as.map V.ref)) ∧ Paired (fun (t : Addr) (q : V × V) => H' t = some (.tup [q.1, q.2])) as (xs.zip ys) ∧ Inv X pins σ H' { s with heap := h', toks := tk } := by
  have hSn : S ∉ as := fun z => Nat.lt_irrefl _ (hG.above _ z)
  have nd : as.Nodup := List.Pairwise.imp (fun {a b} (h : a < b) => Nat.ne_of_lt h) hG.rise
  have big : ∀ t ∈ as, s.heap.objs.size ≤ t := fun t ht => Nat.le_trans hS0 (Nat.le_of_lt (hG.above t ht))
  have new : ∀ t ∈ as, H t = none := fun t ht => I.hok.fresh (big t ht)
  have newS : H S = none := I.hok.fresh hS0
  have atP := putP_at as (xs.zip ys) (upd H S (.lst (as.map V.ref))) hl nd
  have off : ∀ b, b ∉ as → b ≠ S → putP (upd H S (.lst (as.map V.ref))) as (xs.zip ys) b = H b := fun b h1 h2 => by rw [putP_off as _ _ h1, upd_ne h2]
  have low : ∀ b o, s.heap.get? b = some o → b ∉ as ∧ b ≠ S := fun b o e => ⟨fun z => absurd (Heap.lt_size e) (Nat.not_lt.mpr (big b z)), Nat.ne_of_lt (Nat.lt_of_lt_of_le (Heap.lt_size e) hS0)⟩
  have kp : ∀ b u, H b = some u → (putP (upd H S (.lst (as.map V.ref))) as (xs.zip ys)) b = some u := fun b u e => by
    rw [off b (fun z => by rw [new b z] at e; cases e) (fun z => by rw [z, newS] at e; cases e)]
    exact e
  have eS : putP (upd H S (.lst (as.map V.ref))) as (xs.zip ys) S = some (.lst (as.map V.ref)) := by rw [putP_off as _ _ hSn, upd_same]
  refine ⟨putP (upd H S (.lst (as.map V.ref))) as (xs.zip ys), kp, newS, new, hSn, eS, atP, ?_⟩
  refine I.call' (ch := []) rfl ⟨fun b o q _ _ _ => hk b o q, fun b o q _ _ _ => ⟨o.slots, hk b o q⟩, fun b o q n _ => ?_, fun b o q _ => ⟨o, hk b o q⟩, fun b xs q => kp b _ q, fun b o u q => kp b _ q, fun b ps q => ⟨#[], by rw [kp b _ q]; simp⟩⟩ (fun b u q => ?_) I.bare fun b z => by simp at z
  · obtain ⟨z1, z2⟩ := low b o q
    rw [off b z1 z2]
    exact n
  · by_cases hb : b ∈ as
    · obtain ⟨j, pk, e1, e2, e3⟩ := paired_ix atP hb
      rw [e3] at q
      cases q
      obtain ⟨x, y, f1, f2, f3⟩ := hG.pairs j b e1
      obtain ⟨g1, g2⟩ := List.getElem?_zip_eq_some.mp e2
      obtain ⟨u, hu, ru⟩ := r1.get g1
      obtain ⟨v, hv, rv⟩ := r2.get g2
      have ex : x = u := by
        have z : us.toArray[j]? = us[j]? := by simp
        rw [z, hu] at f1
        exact (Option.some.inj f1).symm
      have ey : y = v := by
        have z : vs.toArray[j]? = vs[j]? := by simp
        rw [z, hv] at f2
        exact (Option.some.inj f2).symm
      subst ex
      subst ey
      exact ⟨by show 2 ≤ sizeLine; decide, [x, y], .cons ru (.cons rv .nil), ⟨_, f3, rfl, _, rfl⟩⟩
    · by_cases hb2 : b = S
      · rw [hb2] at q ⊢
        rw [eS] at q
        cases q
        refine ⟨by rw [List.length_map]; omega, acc.toList, c, by rw [hacc]; exact LiI.vals_refs as, ?_⟩
        rw [Array.toArray_toList]
        exact hS
      · rw [off b hb hb2] at q
        exact (I.hok b u q).stay (fun d v _ y => hk d v y) (fun d y => kp d _ y) fun d xs y => kp d _ y
/-- list(zip(a, b)) -/
theorem pe_listZip {e1 e2 : Expr} {ta : TA} {p p2 pos pos2 : Pos} (hc : X.calm = true) (ha : PA X [e1, e2] ta) (hg : Gl X "list") (hm : X.mg "list" = none) (hg2 : Gl X "zip") (hm2 : X.mg "zip" = none)
    (hv : bootBuiltins "list" = some (.type "list") := by decide +kernel) (hs : starEach [.Call (.Name "zip" p2) [e1, e2] [] pos2] X.env = (false, eval (.Call (.Name "zip" p2) [e1, e2] [] pos2) X.env) :: starEach [] X.env := by rfl)
    (hs2 : starEach [e1, e2] X.env = (false, eval e1 X.env) :: starEach [e2] X.env := by rfl) (hpl : (backTo pos2 (starEach [e2] X.env)).any (·.1) = false := by rfl) :
    PE X (.Call (.Name "list" p) [.Call (.Name "zip" p2) [e1, e2] [] pos2] [] pos) (tListZip X.K ta) := by
  refine ⟨fun pins s σ H Q I hq => ?_⟩
  refine wpAny_Call_Name_kw (ld_blt I hg hm hv ?_)
  refine PyProof.Rows.callWith_type1 ?_ hs rfl
  rw [hs]
  show wpAny _ _ (spliced ((false, eval (.Call (.Name "zip" p2) [e1, e2] [] pos2) X.env) :: backTo pos (starEach [] X.env))) _ _ s
  refine Calls.spliced_cons ?_
  refine wpAny_Call_Name_kw (ld_blt I hg2 hm2 PyProof.Rows.boot_zip ?_)
  refine PyProof.Rows.callWith_type1 (thn (ha.run pos2 pins s σ H _ I hq) fun us s1 ⟨vs, H1, I1, r1, q1⟩ => ?_) hs2 hpl
  obtain ⟨a, b, xs, ys, ex, hqx, hqy, q⟩ := q1
  subst ex
  cases r1 with
  | cons r rr =>
    cases rr with
    | cons r' rr =>
      cases rr
      cases r
      cases r'
      obtain ⟨its, rv, p1, fx⟩ := I1.list hqx
      obtain ⟨its2, rv2, p2, fy⟩ := I1.list hqy
      have la : a < s1.heap.objs.size := p1.lt
      have lb : b < s1.heap.objs.size := p2.lt
      have ll1 := rv.length
      have ll2 := rv2.length
      refine call_zip_2 p1.isList p2.isList fun h' hz hTI hTO h1 h2 hsz hk => ?_
      refine Calls.spliced_nil ?_
      have few : min its.toArray.size its2.toArray.size ≤ sizeLine := by
        rw [List.size_toArray, List.size_toArray]
        omega
      refine zl_call (s := { s1 with heap := h' }) (I1.ok.hd hc) (PySem.W.ktu_apart s1.heap.objs.size a b la lb) ⟨hz, hTI, ⟨_, _, hTO⟩, h1, h2, list_at p1.isList fun o e => hk _ _ e, list_at p2.isList fun o e => hk _ _ e⟩ few fun h'' tk acc c as hk' hS hl hG hacc => ?_
      have up : ∀ b o, s1.heap.get? b = some o → h''.get? b = some o := fun b o e => by
        have lt := Heap.lt_size e
        exact hk' b o (Nat.ne_of_lt (Nat.lt_of_lt_of_le lt (Nat.le_add_right _ _))) (Nat.ne_of_lt (Nat.lt_of_lt_of_le lt (Nat.le_add_right _ _))) (Nat.ne_of_lt lt) (Nat.ne_of_lt (Nat.lt_of_lt_of_le lt (Nat.le_add_right _ _))) (hk b o e)
      have hS0 : s1.heap.objs.size ≤ h'.objs.size := by rw [hsz]; exact Nat.le_add_right _ _
      have lz : as.length = (xs.zip ys).length := by
        rw [hl, List.length_zip, List.size_toArray, List.size_toArray]
        omega
      obtain ⟨H', k1, k2, k3, k4, k5, k6, J⟩ := zip_laid (tk := tk) I1 (by rw [List.length_zip]; omega) rv rv2 hS0 up hS lz hG hacc
      exact ⟨.ref _, H', J, rfl, q H' _ as k1 k2 k3 k4 k5 k6⟩
end
end ZlI


/-! plain: lists of users by place, how a change of sizes moves them, that the way back restores them. No program here. -/
namespace FT
open PySem L2 TL
/-! ### sums -/
theorem sum_map_add {α : Type} (f g : α → Int) : ∀ l : List α, (l.map fun x => f x + g x).sum = (l.map f).sum + (l.map g).sum
  | [] => rfl
  | a :: l => by
    rw [List.map_cons, List.map_cons, List.map_cons, List.sum_cons, List.sum_cons, List.sum_cons, sum_map_add f g l]
    omega
theorem sum_map_sub {α : Type} (f g : α → Int) : ∀ l : List α, (l.map fun x => f x - g x).sum = (l.map f).sum - (l.map g).sum
  | [] => rfl
  | a :: l => by
    rw [List.map_cons, List.map_cons, List.map_cons, List.sum_cons, List.sum_cons, List.sum_cons, sum_map_sub f g l]
    omega
theorem sum_map_mul {α : Type} (f : α → Int) (c : Int) : ∀ l : List α, (l.map fun x => c * f x).sum = c * (l.map f).sum
  | [] => by simp
  | a :: l => by
    rw [List.map_cons, List.map_cons, List.sum_cons, List.sum_cons, sum_map_mul f c l, Int.mul_add]
theorem sum_map_zero {α : Type} {f : α → Int} : ∀ {l : List α}, (∀ x ∈ l, f x = 0) → (l.map f).sum = 0
  | [], _ => rfl
  | a :: l, h => by
    rw [List.map_cons, List.sum_cons, h a (List.mem_cons_self ..), sum_map_zero fun x hx => h x (List.mem_cons_of_mem _ hx)]
    rfl
theorem sum_swap {α β : Type} (f : α → β → Int) (m : List β) : ∀ l : List α, (l.map fun x => (m.map fun y => f x y).sum).sum = (m.map fun y => (l.map fun x => f x y).sum).sum
  | [] => by
    rw [sum_map_zero (l := m) (f := fun y => (([] : List α).map fun x => f x y).sum) fun _ _ => rfl] <;> rfl
  | a :: l => by
    rw [List.map_cons, List.sum_cons, sum_swap f m l, ← sum_map_add] <;> rfl
theorem sum_one {α : Type} [DecidableEq α] {f : α → Int} {a : α} : ∀ {l : List α}, l.Nodup → (l.map fun x => if x = a then f x else 0).sum = if a ∈ l then f a else 0
  | [], _ => rfl
  | b :: l, nd => by
    obtain ⟨n1, n2⟩ := List.nodup_cons.mp nd
    rw [List.map_cons, List.sum_cons, sum_one n2]
    by_cases e : b = a
    · subst e
      rw [if_pos rfl, if_neg n1, if_pos (List.mem_cons_self ..)]
      omega
    · rw [if_neg e, Int.zero_add]
      by_cases m : a ∈ l
      · rw [if_pos m, if_pos (List.mem_cons_of_mem _ m)]
      · rw [if_neg m, if_neg fun z => (List.mem_cons.mp z).elim (fun z => e z.symm) m]
/-! ### places, neighbours -/
def pls (ts : List (Str × Str)) : List Str := "" :: ts.map Prod.fst
theorem pls_nd {ts : List (Str × Str)} (o : TreeOk ts) : (pls ts).Nodup := List.nodup_cons.mpr ⟨o.root, o.nd⟩
theorem mem_pls {ts : List (Str × Str)} {a : Str} : a ∈ pls ts ↔ Pl ts a := List.mem_cons
theorem pls_len (ts : List (Str × Str)) : (pls ts).length = ts.length + 1 := by unfold pls; rw [List.length_cons, List.length_map]
theorem kids_cons (q : Str × Str) (ts : List (Str × Str)) (p : Str) : kids (q :: ts) p = (if q.2 = p then [q.1] else []) ++ kids ts p := by
  unfold kids
  rw [List.filter_cons]
  by_cases e : q.2 = p
  · rw [if_pos e, if_pos (decide_eq_true e)] <;> rfl
  · rw [if_neg e, if_neg (by rw [decide_eq_false e]; decide)] <;> rfl
/-- a sum over the children of places is a sum over the flags -/
theorem kids_sum {F : List Str} (nd : F.Nodup) (f : Str → Str → Int) : ∀ ts : List (Str × Str), (F.map fun p => ((kids ts p).map fun k => f k p).sum).sum = (ts.map fun q => if q.2 ∈ F then f q.1 q.2 else 0).sum
  | [] => sum_map_zero fun _ _ => rfl
  | q :: ts => by
    rw [List.map_cons, List.sum_cons, ← kids_sum nd f ts]
    rw [show (F.map fun p => ((kids (q :: ts) p).map fun k => f k p).sum) = F.map fun p => (if p = q.2 then f q.1 p else 0) + ((kids ts p).map fun k => f k p).sum from List.map_congr_left fun p _ => ?_, sum_map_add, sum_one nd]
    rw [kids_cons, List.map_append, List.sum_append]
    by_cases e : q.2 = p
    · rw [if_pos e, if_pos e.symm]
      show f q.1 p + 0 + _ = _
      omega
    · rw [if_neg e, if_neg fun z => e z.symm] <;> rfl
theorem mem_kids {ts : List (Str × Str)} {k p : Str} : k ∈ kids ts p ↔ (k, p) ∈ ts := by
  unfold kids
  constructor
  · intro h
    obtain ⟨q, hq, e⟩ := List.mem_map.mp h
    obtain ⟨h1, h2⟩ := List.mem_filter.mp hq
    rw [← e, ← of_decide_eq_true h2]
    exact h1
  · exact fun h => List.mem_map.mpr ⟨_, List.mem_filter.mpr ⟨h, decide_eq_true rfl⟩, rfl⟩
theorem kid_par {ts : List (Str × Str)} (o : TreeOk ts) {k p : Str} : k ∈ kids ts p ↔ par ts k = some p := ⟨fun h => par_of o.nd (mem_kids.mp h), fun h => mem_kids.mpr (par_mem h)⟩
theorem kids_nd {ts : List (Str × Str)} (o : TreeOk ts) (p : Str) : (kids ts p).Nodup := o.nd.sublist ((List.filter_sublist (p := fun q : Str × Str => decide (q.2 = p)) (l := ts)).map Prod.fst)
theorem par_flag {ts : List (Str × Str)} {a z : Str} (h : par ts a = some z) : a ∈ ts.map Prod.fst := List.mem_map.mpr ⟨_, par_mem h, rfl⟩
theorem par_pl {ts : List (Str × Str)} (o : TreeOk ts) {a z : Str} (h : par ts a = some z) : Pl ts z := by
  obtain ⟨rk, r⟩ := o.up
  exact (r _ (par_mem h)).2.imp id And.left
theorem par_root {ts : List (Str × Str)} (o : TreeOk ts) : par ts "" = none := par_none o.root
/-- no flag is above its parent -/
theorem par_once {ts : List (Str × Str)} (o : TreeOk ts) {a b : Str} (h : par ts a = some b) (h2 : par ts b = some a) : False := by
  obtain ⟨rk, r⟩ := o.up
  have h3 := (r _ (par_mem h)).2
  have h4 := (r _ (par_mem h2)).2
  rcases h3 with e | ⟨_, h3⟩
  · have e : b = "" := e
    rw [e, par_root o] at h2
    cases h2
  · rcases h4 with e | ⟨_, h4⟩
    · have e : a = "" := e
      rw [e, par_root o] at h
      cases h
    · have h3 : rk b < rk a := h3
      have h4 : rk a < rk b := h4
      omega
/-- the other ends of the edges of a place -/
def adj (ts : List (Str × Str)) (p : Str) : List Str := (if p = "" then [] else [(par ts p).getD ""]) ++ kids ts p
theorem mem_adj {ts : List (Str × Str)} (o : TreeOk ts) {a b : Str} (h : Pl ts b) : a ∈ adj ts b ↔ par ts b = some a ∨ par ts a = some b := by
  unfold adj
  rw [List.mem_append, kid_par o]
  refine or_congr ?_ .rfl
  by_cases e : b = ""
  · subst e
    rw [if_pos rfl, par_root o]
    exact ⟨(fun z => nomatch z), (fun z => nomatch z)⟩
  · rw [if_neg e, List.mem_singleton]
    obtain ⟨z, hz⟩ := par_some o.nd (h.resolve_left e)
    rw [hz]
    exact ⟨fun q => by rw [q] <;> rfl, fun q => (Option.some.inj q).symm⟩
theorem adj_nd {ts : List (Str × Str)} (o : TreeOk ts) {p : Str} (h : Pl ts p) : (adj ts p).Nodup := by
  unfold adj
  by_cases e : p = ""
  · rw [if_pos e]
    exact kids_nd o p
  · rw [if_neg e]
    refine List.nodup_cons.mpr ⟨fun m => ?_, kids_nd o p⟩
    obtain ⟨z, hz⟩ := par_some o.nd (h.resolve_left e)
    rw [hz] at m
    exact par_once o hz ((kid_par o).mp m)
theorem adj_pl {ts : List (Str × Str)} (o : TreeOk ts) {a b : Str} (h : Pl ts b) (m : a ∈ adj ts b) : Pl ts a := by
  rcases (mem_adj o h).mp m with z | z
  · exact par_pl o z
  · exact .inr (par_flag z)
theorem adj_sym {ts : List (Str × Str)} (o : TreeOk ts) {a b : Str} (h : Pl ts b) (m : a ∈ adj ts b) : b ∈ adj ts a := (mem_adj o (adj_pl o h m)).mpr ((mem_adj o h).mp m).symm
/-! ### how many users cross an edge -/
def lv (ts : List (Str × Str)) (c : Str → Int) (p o : Str) : Nat := if par ts o = some p ∧ 0 < c o then (c o).toNat else if par ts p = some o ∧ c p < 0 then (- c p).toNat else 0
theorem lv_neg {ts : List (Str × Str)} (o : TreeOk ts) {c d : Str → Int} (hd : ∀ x, d x = - c x) (a b : Str) : lv ts d a b = lv ts c b a := by
  have da := hd a
  have db := hd b
  unfold lv
  by_cases h1 : par ts b = some a
  · have h2 : ¬ par ts a = some b := fun z => par_once o h1 z
    rw [if_neg (show ¬ (par ts a = some b ∧ d a < 0) from fun z => h2 z.1), if_neg (show ¬ (par ts a = some b ∧ 0 < c a) from fun z => h2 z.1)]
    by_cases n : c b < 0
    · rw [if_pos ⟨h1, by omega⟩, if_pos ⟨h1, n⟩, db]
    · rw [if_neg fun z => n (by have := z.2; omega), if_neg fun z => n z.2]
  · rw [if_neg (show ¬ (par ts b = some a ∧ 0 < d b) from fun z => h1 z.1), if_neg (show ¬ (par ts b = some a ∧ c b < 0) from fun z => h1 z.1)]
    by_cases h2 : par ts a = some b
    · by_cases n : 0 < c a
      · rw [if_pos ⟨h2, by omega⟩, if_pos ⟨h2, n⟩, da]
        congr 1
        omega
      · rw [if_neg fun z => n (by have := z.2; omega), if_neg fun z => n z.2]
    · rw [if_neg fun z => h2 z.1, if_neg fun z => h2 z.1]
theorem lv_adj {ts : List (Str × Str)} (o : TreeOk ts) {c : Str → Int} {a b : Str} (h : 0 < lv ts c a b) : Pl ts a ∧ Pl ts b ∧ a ∈ adj ts b ∧ ((par ts b = some a ∧ 0 < c b) ∨ (par ts a = some b ∧ c a < 0)) := by
  unfold lv at h
  by_cases h1 : par ts b = some a ∧ 0 < c b
  · have hb : Pl ts b := .inr (par_flag h1.1)
    exact ⟨par_pl o h1.1, hb, (mem_adj o hb).mpr (.inl h1.1), .inl h1⟩
  · rw [if_neg h1] at h
    by_cases h2 : par ts a = some b ∧ c a < 0
    · have hb := par_pl o h2.1
      exact ⟨.inr (par_flag h2.1), hb, (mem_adj o hb).mpr (.inr h2.1), .inr h2⟩
    · rw [if_neg h2] at h
      omega
/-- what a place gets less what it gives -/
theorem lv_net {ts : List (Str × Str)} (o : TreeOk ts) (c : Str → Int) {p : Str} (h : Pl ts p) : ((adj ts p).map fun x => (lv ts c x p : Int)).sum - ((adj ts p).map fun x => (lv ts c p x : Int)).sum = (if p = "" then 0 else c p) - ((kids ts p).map c).sum := by
  have kid : ∀ k ∈ kids ts p, (lv ts c k p : Int) - (lv ts c p k : Int) = - c k := fun k hk => by
    have e := (kid_par o).mp hk
    have n : ¬ par ts p = some k := fun z => par_once o e z
    unfold lv
    rw [if_neg fun z => n z.1, if_neg (show ¬ (par ts p = some k ∧ c p < 0) from fun z => n z.1)]
    by_cases h1 : c k < 0
    · rw [if_pos ⟨e, h1⟩, if_neg fun z => by have := z.2; omega]
      omega
    · rw [if_neg fun z => h1 z.2]
      by_cases h2 : 0 < c k
      · rw [if_pos ⟨e, h2⟩]
        omega
      · rw [if_neg fun z => h2 z.2]
        omega
  have ks : ((kids ts p).map fun x => (lv ts c x p : Int)).sum - ((kids ts p).map fun x => (lv ts c p x : Int)).sum = - ((kids ts p).map c).sum := by
    rw [← sum_map_sub, List.map_congr_left kid]
    have := sum_map_mul c (-1) (kids ts p)
    rw [show (fun x => -1 * c x) = fun x => - c x from funext fun x => by omega] at this
    omega
  unfold adj
  rw [List.map_append, List.map_append, List.sum_append, List.sum_append]
  by_cases e : p = ""
  · rw [if_pos e, if_pos e]
    show (0 + _) - (0 + _) = _
    omega
  · rw [if_neg e, if_neg e]
    obtain ⟨z, hz⟩ := par_some o.nd (h.resolve_left e)
    rw [hz]
    have n : ¬ par ts z = some p := fun w => par_once o hz w
    have one : (lv ts c z p : Int) - (lv ts c p z : Int) = c p := by
      unfold lv
      rw [if_neg (show ¬ (par ts z = some p ∧ 0 < c z) from fun w => n w.1), if_neg (show ¬ (par ts z = some p ∧ c z < 0) from fun w => n w.1)]
      by_cases h1 : 0 < c p
      · rw [if_pos ⟨hz, h1⟩, if_neg fun w => by have := w.2; omega]
        omega
      · rw [if_neg fun w => h1 w.2]
        by_cases h2 : c p < 0
        · rw [if_pos ⟨hz, h2⟩]
          omega
        · rw [if_neg fun w => h2 w.2]
          omega
    show ((lv ts c z p : Int) + 0 + _) - ((lv ts c p z : Int) + 0 + _) = _
    omega
/-! ### an order of the places that all moves follow -/
def sg (z : Int) : Int := if 0 < z then 1 else if z < 0 then -1 else 0
def phi (ts : List (Str × Str)) (c : Str → Int) (p : Str) : Int := ((pathOf ts p).map fun x => sg (c x)).sum
theorem sg_sum (c : Str → Int) : ∀ l : List Str, - (l.length : Int) ≤ (l.map fun x => sg (c x)).sum
  | [] => by simp
  | a :: l => by
    have i := sg_sum c l
    rw [List.map_cons, List.sum_cons, List.length_cons]
    have : -1 ≤ sg (c a) := by unfold sg; split <;> (try split) <;> omega
    omega
def lvl (ts : List (Str × Str)) (c : Str → Int) (p : Str) : Nat := (phi ts c p + 12).toNat
theorem lvl_up {ts : List (Str × Str)} (o : TreeOk ts) {c : Str → Int} {a b : Str} (h : 0 < lv ts c a b) : lvl ts c a < lvl ts c b := by
  have low : ∀ p, 0 ≤ phi ts c p + 12 := fun p => by
    have h1 := sg_sum c (pathOf ts p)
    have h2 := path_len ts p
    have h3 := o.few
    unfold phi
    omega
  have key : phi ts c a < phi ts c b := by
    obtain ⟨_, _, _, h1 | h1⟩ := lv_adj o h
    · unfold phi
      rw [path_step o (par_flag h1.1) h1.1, List.map_append, List.sum_append]
      show _ < _ + (sg (c b) + 0)
      have : sg (c b) = 1 := if_pos h1.2
      omega
    · unfold phi
      rw [path_step o (par_flag h1.1) h1.1, List.map_append, List.sum_append]
      show _ + (sg (c a) + 0) < _
      have : sg (c a) = -1 := by
        have h2 := h1.2
        unfold sg
        rw [if_neg (by omega), if_pos h2]
      omega
  have := low a
  unfold lvl
  omega
/-! ### a change moves the lists -/
/-- groups that come to a place, in the order in which they are put behind its list -/
def ins (ts : List (Str × Str)) (G : Str → Str → List Int) (p : Str) : List Int := ((adj ts p).reverse.map fun o => G o p).flatten
/-- groups that leave a place -/
def outs (ts : List (Str × Str)) (G : Str → Str → List Int) (p : Str) : List Int := ((adj ts p).reverse.map fun o => G p o).flatten
def Moved (ts : List (Str × Str)) (c : Str → Int) (L L' : Str → List Int) : Prop := ∃ G : Str → Str → List Int, (∀ p, Pl ts p → ∀ o ∈ adj ts p, (G p o).length = lv ts c p o) ∧ ∀ p, Pl ts p → L p ++ ins ts G p = L' p ++ outs ts G p
theorem moved_back {ts : List (Str × Str)} (o : TreeOk ts) {c : Str → Int} {L L' : Str → List Int} {d : Str → Int} (hd : ∀ x, d x = - c x) (m : Moved ts c L L') : Moved ts d L' L := by
  obtain ⟨G, g1, g2⟩ := m
  refine ⟨fun a b => G b a, fun p hp q hq => ?_, fun p hp => (g2 p hp).symm⟩
  rw [lv_neg o hd]
  exact g1 q (adj_pl o hp hq) p (adj_sym o hp hq)
theorem flat_len {α β : Type} (f : α → List β) : ∀ l : List α, (l.map f).flatten.length = (l.map fun x => (f x).length).sum
  | [] => rfl
  | a :: l => by rw [List.map_cons, List.flatten_cons, List.length_append, flat_len f l] <;> rfl
theorem flat_inj {α β : Type} {f g : α → List β} : ∀ {l : List α}, (∀ x ∈ l, (f x).length = (g x).length) → (l.map f).flatten = (l.map g).flatten → ∀ x ∈ l, f x = g x
  | [], _, _, x, h => nomatch h
  | a :: l, hl, e, x, h => by
    rw [List.map_cons, List.map_cons, List.flatten_cons, List.flatten_cons] at e
    obtain ⟨e1, e2⟩ := List.append_inj e (hl a (List.mem_cons_self ..))
    rcases List.mem_cons.mp h with rfl | h
    · exact e1
    · exact flat_inj (fun y hy => hl y (List.mem_cons_of_mem _ hy)) e2 x h
theorem flat_congr {α β : Type} {f g : α → List β} {l : List α} (h : ∀ x ∈ l, f x = g x) : (l.map f).flatten = (l.map g).flatten := by rw [List.map_congr_left h]
/-- a change leads to one result -/
theorem moved_one {ts : List (Str × Str)} (o : TreeOk ts) {c : Str → Int} {L A B : Str → List Int} (ma : Moved ts c L A) (mb : Moved ts c L B) : ∀ p, Pl ts p → A p = B p := by
  obtain ⟨G, g1, g2⟩ := ma
  obtain ⟨G', g1', g2'⟩ := mb
  have key : ∀ (n : Nat) (p : Str), lvl ts c p < n → Pl ts p → A p = B p ∧ ∀ q ∈ adj ts p, G p q = G' p q := by
    intro n
    induction n with
    | zero => exact fun p h => absurd h (Nat.not_lt_zero _)
    | succ n ih =>
      intro p hn hp
      have ei : ins ts G p = ins ts G' p := flat_congr fun q hq => by
        have hq := List.mem_reverse.mp hq
        have hq2 := adj_pl o hp hq
        have l1 := g1 q hq2 p (adj_sym o hp hq)
        have l2 := g1' q hq2 p (adj_sym o hp hq)
        rcases Nat.eq_zero_or_pos (lv ts c q p) with z | z
        · rw [z] at l1 l2
          rw [List.length_eq_zero_iff.mp l1, List.length_eq_zero_iff.mp l2]
        · have lt := lvl_up o z
          exact (ih q (by omega) hq2).2 p (adj_sym o hp hq)
      have e := (g2 p hp).symm.trans ((congrArg (L p ++ ·) ei).trans (g2' p hp))
      have hl : ∀ q ∈ (adj ts p).reverse, (G p q).length = (G' p q).length := fun q hq => by
        have hq := List.mem_reverse.mp hq
        rw [g1 p hp q hq, g1' p hp q hq]
      have el : (outs ts G p).length = (outs ts G' p).length := by
        unfold outs
        rw [flat_len, flat_len, List.map_congr_left hl]
      obtain ⟨e1, e2⟩ := List.append_inj' e el
      exact ⟨e1, fun q hq => flat_inj hl e2 q (List.mem_reverse.mpr hq)⟩
  exact fun p hp => (key _ p (Nat.lt_succ_self _) hp).1
/-- there and back -/
theorem there_back {ts : List (Str × Str)} (o : TreeOk ts) {c : Str → Int} {L A B : Str → List Int} {d : Str → Int} (hd : ∀ x, d x = - c x) (ma : Moved ts c L A) (mb : Moved ts d A B) : ∀ p, Pl ts p → B p = L p := moved_one o mb (moved_back o hd ma)
theorem int_sum (l : List Nat) : ((l.sum : Nat) : Int) = (l.map fun x : Nat => (x : Int)).sum := by
  induction l with
  | nil => rfl
  | cons a l ih =>
    rw [List.sum_cons, List.map_cons, List.sum_cons, ← ih]
    omega
theorem sum_rev (l : List Int) : l.reverse.sum = l.sum := sum_perm (List.reverse_perm l)
theorem ins_len {ts : List (Str × Str)} (G : Str → Str → List Int) (p : Str) : ((ins ts G p).length : Int) = ((adj ts p).map fun o => ((G o p).length : Int)).sum := by
  unfold ins
  rw [flat_len, int_sum, List.map_map, List.map_reverse, sum_rev] <;> rfl
theorem outs_len {ts : List (Str × Str)} (G : Str → Str → List Int) (p : Str) : ((outs ts G p).length : Int) = ((adj ts p).map fun o => ((G p o).length : Int)).sum := by
  unfold outs
  rw [flat_len, int_sum, List.map_map, List.map_reverse, sum_rev] <;> rfl
/-- the lengths are the residents -/
def Lens (ts : List (Str × Str)) (n : Int) (sz : Str → Int) (L : Str → List Int) : Prop := ∀ p, Pl ts p → ((L p).length : Int) = resid ts n sz p
theorem moved_lens {ts : List (Str × Str)} (o : TreeOk ts) {n : Int} {sz c : Str → Int} {L L' : Str → List Int} (m : Moved ts c L L') (h : Lens ts n sz L) : Lens ts n (fun x => sz x + c x) L' := by
  obtain ⟨G, g1, g2⟩ := m
  intro p hp
  have e := congrArg (fun l : List Int => (l.length : Int)) (g2 p hp)
  have e : ((L p ++ ins ts G p).length : Int) = ((L' p ++ outs ts G p).length : Int) := e
  rw [List.length_append, List.length_append, Int.natCast_add, Int.natCast_add, ins_len, outs_len, h p hp, List.map_congr_left (fun q hq => by rw [g1 q (adj_pl o hp hq) p (adj_sym o hp hq)]),
    List.map_congr_left (l := adj ts p) (f := fun o => ((G p o).length : Int)) (fun q hq => by rw [g1 p hp q hq])] at e
  have net := lv_net o c hp
  show _ = (if p = "" then n else sz p + c p) - ((kids ts p).map fun x => sz x + c x).sum
  unfold resid at e
  rw [sum_map_add]
  by_cases z : p = ""
  · rw [if_pos z] at e net ⊢
    omega
  · rw [if_neg z] at e net ⊢
    omega
end FT


/-! plain: sizes of lists; every user at one place; a user's way through the tree. -/
namespace FT
open PySem L2 TL
/-! ### sizes and lengths -/
def under (ts : List (Str × Str)) (a : Str) : List Str := (ts.map Prod.fst).filter fun b => decide (a ∈ pathOf ts b)
def lsz (ts : List (Str × Str)) (L : Str → List Int) (a : Str) : Int := ((under ts a).map fun b => ((L b).length : Int)).sum
theorem sum_filter {α : Type} (c : α → Bool) (f : α → Int) : ∀ l : List α, ((l.filter c).map f).sum = (l.map fun x => if c x = true then f x else 0).sum
  | [] => rfl
  | a :: l => by
    rw [List.filter_cons, List.map_cons, List.sum_cons, ← sum_filter c f l]
    by_cases e : c a = true
    · rw [if_pos e, if_pos e, List.map_cons, List.sum_cons]
    · rw [if_neg e, if_neg e, Int.zero_add]
/-- the paths' flags rank no higher -/
theorem path_rank {ts : List (Str × Str)} (o : TreeOk ts) {rk : Str → Nat} (r : Rk ts rk) : ∀ (n : Nat) (a : Str), Pl ts a → (a ≠ "" → rk a < n) → ∀ z ∈ pathOf ts a, rk z ≤ rk a := by
  intro n
  induction n with
  | zero =>
    intro a ha h z hz
    by_cases e : a = ""
    · subst e
      rw [path_root] at hz
      cases hz
    · exact absurd (h e) (Nat.not_lt_zero _)
  | succ n ih =>
    intro a ha h z hz
    by_cases e : a = ""
    · subst e
      rw [path_root] at hz
      cases hz
    · obtain ⟨p, ep, hp, _⟩ := o.step r (ha.resolve_left e)
      rw [path_step o (ha.resolve_left e) ep] at hz
      rcases List.mem_append.mp hz with hz | hz
      · have hh := h e
        rcases hp with e0 | ⟨hp, lt⟩
        · subst e0
          rw [path_root] at hz
          cases hz
        · have := ih p (.inr hp) (fun _ => by omega) z hz
          omega
      · rw [List.mem_singleton.mp hz]
        exact Nat.le_refl _
theorem not_above {ts : List (Str × Str)} (o : TreeOk ts) {a p : Str} (h : par ts a = some p) : a ∉ pathOf ts p := fun hm => by
  obtain ⟨rk, r⟩ := o.up
  have lt := (r _ (par_mem h)).2
  rcases lt with e | ⟨hp, lt⟩
  · have e : p = "" := e
    rw [e, path_root] at hm
    cases hm
  · have lt : rk p < rk a := lt
    have := path_rank o r (rk p + 1) p (.inr hp) (fun _ => Nat.lt_succ_self _) a hm
    omega
theorem path_nd {ts : List (Str × Str)} (o : TreeOk ts) {a : Str} (h : Pl ts a) : (pathOf ts a).Nodup := by
  obtain ⟨rk, r⟩ := o.up
  have key : ∀ (n : Nat) (a : Str), Pl ts a → (a ≠ "" → rk a < n) → (pathOf ts a).Nodup := by
    intro n
    induction n with
    | zero =>
      intro a ha h
      by_cases e : a = ""
      · subst e
        rw [path_root]
        exact List.nodup_nil
      · exact absurd (h e) (Nat.not_lt_zero _)
    | succ n ih =>
      intro a ha h
      by_cases e : a = ""
      · subst e
        rw [path_root]
        exact List.nodup_nil
      · obtain ⟨p, ep, hp, _⟩ := o.step r (ha.resolve_left e)
        rw [path_step o (ha.resolve_left e) ep]
        refine List.nodup_append.mpr ⟨ih p (hp.imp id And.left) (fun z => ?_), by simp, fun x hx y hy e => ?_⟩
        · have := (hp.resolve_left z).2
          have := h e
          omega
        · rw [List.mem_singleton.mp hy] at e
          subst e
          exact not_above o ep hx
  exact key (rk a + 1) a h fun _ => Nat.lt_succ_self _
def inP (ts : List (Str × Str)) (a x : Str) : Int := if a ∈ pathOf ts x then 1 else 0
theorem inP_step {ts : List (Str × Str)} (o : TreeOk ts) {x p : Str} (h : par ts x = some p) (a : Str) : inP ts a x = inP ts a p + if a = x then 1 else 0 := by
  unfold inP
  rw [path_step o (par_flag h) h]
  by_cases e : a = x
  · subst e
    rw [if_pos (List.mem_append_right _ (List.mem_singleton.mpr rfl)), if_neg (not_above o h), if_pos rfl] <;> rfl
  · rw [if_neg e]
    by_cases m : a ∈ pathOf ts p
    · rw [if_pos (List.mem_append_left _ m), if_pos m] <;> rfl
    · rw [if_neg (fun z => (List.mem_append.mp z).elim m fun z => e (List.mem_singleton.mp z)), if_neg m] <;> rfl
theorem inP_root (ts : List (Str × Str)) (a : Str) : inP ts a "" = 0 := by
  unfold inP
  rw [path_root]
  exact if_neg (by simp)
theorem lsz_inP (ts : List (Str × Str)) (L : Str → List Int) (a : Str) : lsz ts L a = ((ts.map Prod.fst).map fun b => inP ts a b * ((L b).length : Int)).sum := by
  unfold lsz under
  rw [sum_filter]
  congr 1
  refine List.map_congr_left fun b _ => ?_
  unfold inP
  by_cases m : a ∈ pathOf ts b
  · rw [if_pos (decide_eq_true m), if_pos m, Int.one_mul]
  · rw [if_neg (by rw [decide_eq_false m]; decide), if_neg m, Int.zero_mul]
/-- from lengths to sizes -/
theorem lens_lsz {ts : List (Str × Str)} (o : TreeOk ts) {n : Int} {sz : Str → Int} {L : Str → List Int} (h : Lens ts n sz L) {a : Str} (ha : a ∈ ts.map Prod.fst) : lsz ts L a = sz a := by
  rw [lsz_inP]
  have e1 : ((ts.map Prod.fst).map fun b => inP ts a b * ((L b).length : Int)) = (ts.map Prod.fst).map fun b => inP ts a b * sz b - ((kids ts b).map fun k => inP ts a b * sz k).sum := List.map_congr_left fun b hb => by
    have nb : b ≠ "" := fun z => o.root (by rw [← z]; exact hb)
    rw [h b (.inr hb), sum_map_mul, ← Int.mul_sub]
    unfold resid
    rw [if_neg nb]
  rw [e1, sum_map_sub, kids_sum o.nd (fun k b => inP ts a b * sz k), List.map_map, ← sum_map_sub]
  have e2 : (ts.map fun q => ((fun b => inP ts a b * sz b) ∘ Prod.fst) q - if q.2 ∈ ts.map Prod.fst then inP ts a q.2 * sz q.1 else 0) = ts.map fun q => if q.1 = a then sz q.1 else 0 := List.map_congr_left fun q hq => by
    have hp := par_of o.nd (show (q.1, q.2) ∈ ts from hq)
    show inP ts a q.1 * sz q.1 - _ = _
    have z : (if q.2 ∈ ts.map Prod.fst then inP ts a q.2 * sz q.1 else 0) = inP ts a q.2 * sz q.1 := by
      rcases par_pl o hp with e | m
      · rw [e, inP_root, Int.zero_mul]
        split <;> rfl
      · rw [if_pos m]
    rw [z, inP_step o hp, Int.add_mul]
    by_cases e : q.1 = a
    · rw [if_pos e.symm, if_pos e, Int.one_mul]
      omega
    · rw [if_neg (fun z => e z.symm), if_neg e, Int.zero_mul]
      omega
  rw [e2]
  have e3 := sum_one (f := sz) (a := a) o.nd
  rw [if_pos ha, List.map_map] at e3
  exact e3
/-- from sizes to lengths -/
theorem lsz_lens {ts : List (Str × Str)} (o : TreeOk ts) {n : Int} {L : Str → List Int} (h : ((pls ts).map fun p => ((L p).length : Int)).sum = n) : Lens ts n (lsz ts L) L := by
  intro p hp
  have co : ∀ (m : Nat) (rk : Str → Nat), Rk ts rk → ∀ x, Pl ts x → (x ≠ "" → rk x < m) → (if p = "" then 1 else inP ts p x) - ((kids ts p).map fun k => inP ts k x).sum = if x = p then 1 else 0 := by
    intro m rk r
    induction m with
    | zero =>
      intro x hx hm
      by_cases e : x = ""
      · subst e
        rw [sum_map_zero fun k _ => inP_root ts k, inP_root]
        by_cases z : p = ""
        · rw [if_pos z, if_pos z.symm] <;> rfl
        · rw [if_neg z, if_neg fun w => z w.symm] <;> rfl
      · exact absurd (hm e) (Nat.not_lt_zero _)
    | succ m ih =>
      intro x hx hm
      by_cases e : x = ""
      · subst e
        rw [sum_map_zero fun k _ => inP_root ts k, inP_root]
        by_cases z : p = ""
        · rw [if_pos z, if_pos z.symm] <;> rfl
        · rw [if_neg z, if_neg fun w => z w.symm] <;> rfl
      · obtain ⟨q, eq, hq, _⟩ := o.step r (hx.resolve_left e)
        have hh := hm e
        have i := ih q (hq.imp id And.left) fun z => by
          have := (hq.resolve_left z).2
          omega
        have ks : ((kids ts p).map fun k => inP ts k x).sum = ((kids ts p).map fun k => inP ts k q).sum + if q = p then 1 else 0 := by
          rw [List.map_congr_left (g := fun k => inP ts k q + if k = x then 1 else 0) fun k _ => inP_step o eq k, sum_map_add, sum_one (f := fun _ => 1) (kids_nd o p)]
          congr 1
          by_cases w : q = p
          · rw [if_pos w, if_pos ((kid_par o).mpr (by rw [← w]; exact eq))]
          · rw [if_neg w, if_neg fun z => w (Option.some.inj (eq.symm.trans ((kid_par o).mp z)))]
        rw [ks]
        by_cases z : p = ""
        · rw [if_pos z] at i ⊢
          have nx : ¬ x = p := fun w => e (w.trans z)
          rw [if_neg nx]
          omega
        · rw [if_neg z] at i ⊢
          rw [inP_step o eq p]
          by_cases w : x = p
          · rw [if_pos w, if_pos w.symm]
            omega
          · rw [if_neg w, if_neg fun v => w v.symm]
            omega
  obtain ⟨rk, r⟩ := o.up
  have co' : ∀ x ∈ pls ts, (if p = "" then 1 else inP ts p x) - ((kids ts p).map fun k => inP ts k x).sum = if x = p then 1 else 0 := fun x hx => co (rk x + 1) rk r x (mem_pls.mp hx) fun _ => Nat.lt_succ_self _
  -- sizes as sums over all places
  have sz_pls : ∀ a, lsz ts L a = ((pls ts).map fun x => inP ts a x * ((L x).length : Int)).sum := fun a => by
    rw [lsz_inP]
    unfold pls
    rw [List.map_cons, List.sum_cons, inP_root, Int.zero_mul, Int.zero_add]
  have u : (if p = "" then n else lsz ts L p) = ((pls ts).map fun x => (if p = "" then 1 else inP ts p x) * ((L x).length : Int)).sum := by
    by_cases z : p = ""
    · rw [if_pos z, ← h]
      congr 1
      refine List.map_congr_left fun x _ => ?_
      rw [if_pos z, Int.one_mul]
    · rw [if_neg z, sz_pls]
      congr 1
      refine List.map_congr_left fun x _ => ?_
      rw [if_neg z]
  unfold resid
  rw [u, List.map_congr_left (f := lsz ts L) (fun k _ => sz_pls k), sum_swap, ← sum_map_sub]
  have fin : ((pls ts).map fun x => (if p = "" then 1 else inP ts p x) * ((L x).length : Int) - ((kids ts p).map fun k => inP ts k x * ((L x).length : Int)).sum) = (pls ts).map fun x => if x = p then ((L x).length : Int) else 0 := List.map_congr_left fun x hx => by
    have c := co' x hx
    have mul : ((kids ts p).map fun k => inP ts k x * ((L x).length : Int)).sum = ((L x).length : Int) * ((kids ts p).map fun k => inP ts k x).sum := by
      rw [← sum_map_mul]
      congr 1
      exact List.map_congr_left fun k _ => Int.mul_comm _ _
    rw [mul, Int.mul_comm _ ((L x).length : Int), ← Int.mul_sub, c]
    by_cases w : x = p
    · rw [if_pos w, if_pos w, Int.mul_one]
    · rw [if_neg w, if_neg w, Int.mul_zero]
  rw [fin, sum_one (f := fun x => ((L x).length : Int)) (pls_nd o), if_pos (mem_pls.mpr hp)]
/-! ### every user at one place -/
def usr (n : Nat) : List Int := (List.range n).map fun k : Nat => (k : Int)
theorem usr_nd (n : Nat) : (usr n).Nodup := by
  unfold usr
  refine List.nodup_iff_pairwise_ne.mpr (List.pairwise_map.mpr ((List.nodup_iff_pairwise_ne.mp List.nodup_range).imp fun h e => h ?_))
  omega
theorem mem_usr {n : Nat} {u : Int} : u ∈ usr n ↔ 0 ≤ u ∧ u < n := by
  unfold usr
  rw [List.mem_map]
  constructor
  · rintro ⟨k, hk, rfl⟩
    have := List.mem_range.mp hk
    omega
  · rintro ⟨h1, h2⟩
    exact ⟨u.toNat, List.mem_range.mpr (by omega), by omega⟩
def Val (ts : List (Str × Str)) (n : Nat) (L : Str → List Int) : Prop := ((pls ts).flatMap L).Perm (usr n)
theorem adj_sum {ts : List (Str × Str)} (o : TreeOk ts) (h : Str → Str → Int) : ((pls ts).map fun p => ((adj ts p).map fun x => h x p).sum).sum = (ts.map fun q => h q.2 q.1 + h q.1 q.2).sum := by
  have e : ((pls ts).map fun p => ((adj ts p).map fun x => h x p).sum) = (pls ts).map fun p : Str => (if p = "" then 0 else h ((par ts p).getD "") p) + ((kids ts p).map fun k => h k p).sum := List.map_congr_left fun p _ => by
    unfold adj
    rw [List.map_append, List.sum_append]
    by_cases z : p = ""
    · rw [if_pos z, if_pos z] <;> rfl
    · rw [if_neg z, if_neg z]
      show (h _ p + 0) + _ = _
      omega
  rw [e, sum_map_add, kids_sum (pls_nd o), sum_map_add]
  congr 1
  · unfold pls
    rw [List.map_cons, List.sum_cons, if_pos rfl, Int.zero_add, List.map_map]
    congr 1
    refine List.map_congr_left fun q hq => ?_
    have hp := par_of o.nd (show (q.1, q.2) ∈ ts from hq)
    have nq : q.1 ≠ "" := fun z => o.root (by rw [← z]; exact par_flag hp)
    show (if q.1 = "" then 0 else h ((par ts q.1).getD "") q.1) = _
    rw [if_neg nq, hp] <;> rfl
  · congr 1
    refine List.map_congr_left fun q hq => ?_
    rw [if_pos (mem_pls.mpr (par_pl o (par_of o.nd (show (q.1, q.2) ∈ ts from hq))))]
theorem count_flat (u : Int) (L : Str → List Int) (l : List Str) : ((l.flatMap L).count u : Int) = (l.map fun p => ((L p).count u : Int)).sum := by
  rw [List.count_flatMap, int_sum, List.map_map] <;> rfl
theorem count_flat2 (u : Int) (f : Str → List Int) (l : List Str) : (((l.reverse.map f).flatten).count u : Int) = (l.map fun p => ((f p).count u : Int)).sum := by
  rw [← List.flatMap_def, count_flat, List.map_reverse, sum_rev]
theorem moved_val {ts : List (Str × Str)} (o : TreeOk ts) {c : Str → Int} {n : Nat} {L L' : Str → List Int} (m : Moved ts c L L') (h : Val ts n L) : Val ts n L' := by
  obtain ⟨G, g1, g2⟩ := m
  refine List.Perm.trans (List.perm_iff_count.mpr fun u => ?_) h
  have e : ((pls ts).map fun p => ((L p).count u : Int) + ((ins ts G p).count u : Int)).sum = ((pls ts).map fun p => ((L' p).count u : Int) + ((outs ts G p).count u : Int)).sum := by
    congr 1
    refine List.map_congr_left fun p hp => ?_
    have q := congrArg (fun l : List Int => (l.count u : Int)) (g2 p (mem_pls.mp hp))
    have q : (((L p ++ ins ts G p).count u : Nat) : Int) = (((L' p ++ outs ts G p).count u : Nat) : Int) := q
    rw [List.count_append, List.count_append, Int.natCast_add, Int.natCast_add] at q
    exact q
  rw [sum_map_add, sum_map_add, ← count_flat u L, ← count_flat u L'] at e
  have ei : ((pls ts).map fun p => ((ins ts G p).count u : Int)).sum = (ts.map fun q => ((G q.2 q.1).count u : Int) + ((G q.1 q.2).count u : Int)).sum := by
    rw [← adj_sum o fun a b => ((G a b).count u : Int)]
    congr 1
    exact List.map_congr_left fun p _ => count_flat2 u (fun x => G x p) (adj ts p)
  have eo : ((pls ts).map fun p => ((outs ts G p).count u : Int)).sum = (ts.map fun q => ((G q.1 q.2).count u : Int) + ((G q.2 q.1).count u : Int)).sum := by
    rw [← adj_sum o fun a b => ((G b a).count u : Int)]
    congr 1
    exact List.map_congr_left fun p _ => count_flat2 u (fun x => G p x) (adj ts p)
  rw [ei, eo, List.map_congr_left (g := fun q : Str × Str => ((G q.1 q.2).count u : Int) + ((G q.2 q.1).count u : Int)) fun q _ => Int.add_comm _ _] at e
  omega
theorem val_len {ts : List (Str × Str)} {n : Nat} {L : Str → List Int} (h : Val ts n L) : ((pls ts).map fun p => ((L p).length : Int)).sum = n := by
  have e := h.length_eq
  rw [List.length_flatMap] at e
  unfold usr at e
  rw [List.length_map, List.length_range] at e
  rw [← e, int_sum, List.map_map] <;> rfl
/-- the place of a user -/
def plOf (ts : List (Str × Str)) (L : Str → List Int) (u : Int) : Str := ((pls ts).find? fun p => decide (u ∈ L p)).getD ""
theorem plOf_at {ts : List (Str × Str)} {n : Nat} {L : Str → List Int} (h : Val ts n L) {u : Int} (h0 : 0 ≤ u) (h1 : u < n) : Pl ts (plOf ts L u) ∧ u ∈ L (plOf ts L u) := by
  have m : u ∈ (pls ts).flatMap L := h.mem_iff.mpr (mem_usr.mpr ⟨h0, h1⟩)
  obtain ⟨p, hp, hu⟩ := List.mem_flatMap.mp m
  unfold plOf
  cases e : (pls ts).find? fun p => decide (u ∈ L p) with
  | none => exact absurd (decide_eq_true hu) (List.find?_eq_none.mp e p hp)
  | some q => exact ⟨mem_pls.mp (List.mem_of_find?_eq_some e), of_decide_eq_true (List.find?_some (p := fun p => decide (u ∈ L p)) e)⟩
theorem one_place {ts : List (Str × Str)} {n : Nat} {L : Str → List Int} (h : Val ts n L) {u : Int} {p q : Str} (hp : Pl ts p) (hq : Pl ts q) (up : u ∈ L p) (uq : u ∈ L q) : p = q := by
  have nd : ((pls ts).flatMap L).Nodup := h.nodup_iff.mpr (usr_nd n)
  obtain ⟨_, pw⟩ := List.pairwise_flatMap.mp (List.nodup_iff_pairwise_ne.mp nd)
  obtain ⟨i, hi, ei⟩ := List.mem_iff_getElem.mp (mem_pls.mpr hp)
  obtain ⟨j, hj, ej⟩ := List.mem_iff_getElem.mp (mem_pls.mpr hq)
  have pw := List.pairwise_iff_getElem.mp pw
  rcases Nat.lt_trichotomy i j with lt | e | lt
  · exact absurd rfl (pw i j hi hj lt u (by rw [ei]; exact up) u (by rw [ej]; exact uq))
  · subst e
    exact ei.symm.trans ej
  · exact absurd rfl (pw j i hj hi lt u (by rw [ej]; exact uq) u (by rw [ei]; exact up))
theorem plOf_of {ts : List (Str × Str)} {n : Nat} {L : Str → List Int} (h : Val ts n L) {u : Int} {p : Str} (hp : Pl ts p) (up : u ∈ L p) : plOf ts L u = p := by
  have m : u ∈ (pls ts).flatMap L := List.mem_flatMap.mpr ⟨p, mem_pls.mpr hp, up⟩
  obtain ⟨h0, h1⟩ := mem_usr.mp (h.mem_iff.mp m)
  obtain ⟨a, b⟩ := plOf_at h h0 h1
  exact one_place h a hp b up
/-! ### a user's way -/
inductive Rc (ts : List (Str × Str)) (c : Str → Int) (p : Str) : Str → Prop where
  | refl : Rc ts c p p
  | step {q x : Str} : Rc ts c p q → 0 < lv ts c q x → Rc ts c p x
theorem rc_dir {ts : List (Str × Str)} (o : TreeOk ts) {c : Str → Int} {p x : Str} (h : Rc ts c p x) : ∀ f, (f ∈ pathOf ts p → f ∉ pathOf ts x → c f < 0) ∧ (f ∉ pathOf ts p → f ∈ pathOf ts x → 0 < c f) := by
  induction h with
  | refl => exact fun f => ⟨fun a b => absurd a b, fun a b => absurd b a⟩
  | @step q x _ hl ih =>
    intro f
    obtain ⟨_, _, _, ⟨e, pos⟩ | ⟨e, neg⟩⟩ := lv_adj o hl
    · rw [path_step o (par_flag e) e]
      refine ⟨fun a b => (ih f).1 a fun z => b (List.mem_append_left _ z), fun a b => ?_⟩
      rcases List.mem_append.mp b with b | b
      · exact (ih f).2 a b
      · rw [List.mem_singleton.mp b]
        exact pos
    · have ps := path_step o (par_flag e) e
      refine ⟨fun a b => ?_, fun a b => (ih f).2 a (by rw [ps]; exact List.mem_append_left _ b)⟩
      by_cases z : f ∈ pathOf ts q
      · rw [ps] at z
        rcases List.mem_append.mp z with z | z
        · exact absurd z b
        · rw [List.mem_singleton.mp z]
          exact neg
      · exact (ih f).1 a z
theorem moved_rc {ts : List (Str × Str)} (o : TreeOk ts) {c : Str → Int} {L L' : Str → List Int} (m : Moved ts c L L') {u : Int} {x : Str} (hx : Pl ts x) (hu : u ∈ L' x) : ∃ p, Pl ts p ∧ u ∈ L p ∧ Rc ts c p x := by
  obtain ⟨G, g1, g2⟩ := m
  have key : ∀ (n : Nat) (x : Str), lvl ts c x < n → Pl ts x → u ∈ L x ++ ins ts G x → ∃ p, Pl ts p ∧ u ∈ L p ∧ Rc ts c p x := by
    intro n
    induction n with
    | zero => exact fun x h => absurd h (Nat.not_lt_zero _)
    | succ n ih =>
      intro x hn hx hu
      rcases List.mem_append.mp hu with hu | hu
      · exact ⟨x, hx, hu, .refl⟩
      · obtain ⟨l, hl, hul⟩ := List.mem_flatten.mp hu
        obtain ⟨q, hq, rfl⟩ := List.mem_map.mp hl
        have hq := List.mem_reverse.mp hq
        have hq2 := adj_pl o hx hq
        have len := g1 q hq2 x (adj_sym o hx hq)
        have pos : 0 < lv ts c q x := by
          rw [← len]
          exact List.length_pos_of_mem hul
        have lt := lvl_up o pos
        have mo : u ∈ L q ++ ins ts G q := by
          rw [g2 q hq2]
          refine List.mem_append_right _ (List.mem_flatten.mpr ⟨_, List.mem_map.mpr ⟨x, List.mem_reverse.mpr (adj_sym o hx hq), rfl⟩, hul⟩)
        obtain ⟨p, hp, up, rc⟩ := ih q (by omega) hq2 mo
        exact ⟨p, hp, up, .step rc pos⟩
  exact key _ x (Nat.lt_succ_self _) hx (by rw [g2 x hx]; exact List.mem_append_left _ hu)
end FT


/-! dicts from texts to any values; lists by place in the heap. -/
namespace FT
open PySem L2 TL ClX
def tblV (l : List Str) (g : Str → V) : List (Key × V) := kvT (l.map fun a => (a, g a))
theorem tblV_int (l : List Str) (g : Str → Int) : tblI l g = tblV l fun a => .int (g a) := rfl
theorem tblV_len (l : List Str) (g : Str → V) : (tblV l g).length = l.length := by unfold tblV; rw [kvT_len, List.length_map]
theorem tblV_fst (l : List Str) (g : Str → V) : (l.map fun a => (a, g a)).map Prod.fst = l := by rw [List.map_map]; exact List.map_id _
theorem tblV_keys (l : List Str) (g : Str → V) : (tblV l g).map (·.1) = l.map Sum.inr := by unfold tblV kvT; rw [List.map_map, List.map_map] <;> rfl
theorem tblV_at {l : List Str} {g : Str → V} {i : Nat} {k : Key} {v : V} (h : (tblV l g)[i]? = some (k, v)) : ∃ a, l[i]? = some a ∧ k = Sum.inr a ∧ v = g a := by
  unfold tblV kvT at h
  rw [List.map_map, List.getElem?_map] at h
  obtain ⟨a, ha, e⟩ := Option.map_eq_some_iff.mp h
  cases e
  exact ⟨a, ha, rfl, rfl⟩
theorem tblV_val {l : List Str} {g : Str → V} {a : Str} (h : a ∈ l) : valV (tblV l g) (Sum.inr a) = some (g a) := by
  unfold tblV
  rw [kvT_val]
  induction l with
  | nil => cases h
  | cons b l ih =>
    rw [List.map_cons, look_cons]
    by_cases e : b = a
    · subst e
      exact if_pos rfl
    · rw [if_neg e]
      exact ih ((List.mem_cons.mp h).resolve_left fun z => e z.symm)
theorem tblV_none {l : List Str} {g : Str → V} {a : Str} (h : a ∉ l) : valV (tblV l g) (Sum.inr a) = none := by
  unfold tblV
  rw [kvT_val, look_none (by rw [tblV_fst]; exact h)]
theorem tblV_put {l : List Str} {g : Str → V} {a : Str} {z : V} (h : a ∈ l) : putK (tblV l g) (Sum.inr a) z = tblV l (fun p => if p = a then z else g p) := by
  unfold tblV
  rw [kvT_putT]
  unfold putT
  rw [if_pos (by rw [tblV_fst]; exact h), List.map_map]
  congr 1
  refine List.map_congr_left fun p _ => ?_
  show (if p = a then (p, z) else (p, g p)) = (p, if p = a then z else g p)
  by_cases e : p = a
  · rw [if_pos e, if_pos e]
  · rw [if_neg e, if_neg e]
theorem tblV_snoc {l : List Str} {g : Str → V} {a : Str} {z : V} (h : a ∉ l) (e : z = g a) : putK (tblV l g) (Sum.inr a) z = tblV (l ++ [a]) g := by
  unfold tblV
  rw [kvT_put (by rw [tblV_fst]; exact h), List.map_append, e] <;> rfl
theorem tblV_congr {l : List Str} {g g' : Str → V} (h : ∀ a ∈ l, g a = g' a) : tblV l g = tblV l g' := by
  unfold tblV
  rw [List.map_congr_left fun a ha => by rw [h a ha]]
theorem keys_tblV (l : List Str) (g : Str → V) : ((tblV l g).map fun kv => kV kv.1) = l.map V.str := by
  unfold tblV kvT
  rw [List.map_map, List.map_map] <;> rfl
theorem nat_fresh {l : List Str} {i : Nat} {a : Str} (nd : l.Nodup) (h : l[i]? = some a) : a ∉ l.take i := fun hm => by
  obtain ⟨j, hj⟩ := List.mem_iff_getElem?.mp hm
  have jl := (List.getElem?_eq_some_iff.mp hj).1
  rw [List.length_take] at jl
  rw [List.getElem?_take, if_pos (by omega)] at hj
  have := (List.getElem?_inj (by omega) nd).mp (hj.trans h.symm)
  omega
/-- lists by place: the dict at q, the list of p at r p -/
def LsAt (H : Hp) (q : Addr) (l : List Str) (r : Str → Addr) (L : Str → List Int) : Prop := H q = some (.dK (tblV l fun p => .ref (r p))) ∧ ∀ p ∈ l, H (r p) = some (.lst ((L p).map V.int))
theorem LsAt.mono {H H' : Hp} {q : Addr} {l : List Str} {r : Str → Addr} {L : Str → List Int} (s : Same H H') (h : LsAt H q l r L) : LsAt H' q l r L := ⟨s _ _ h.1, fun p hp => s _ _ (h.2 p hp)⟩
theorem LsAt.congr {H : Hp} {q : Addr} {l : List Str} {r : Str → Addr} {L L' : Str → List Int} (h : LsAt H q l r L) (e : ∀ p ∈ l, L p = L' p) : LsAt H q l r L' := ⟨h.1, fun p hp => by rw [h.2 p hp, e p hp]⟩
theorem LsAt.get {H : Hp} {q : Addr} {l : List Str} {r : Str → Addr} {L : Str → List Int} (h : LsAt H q l r L) {p : Str} (hp : p ∈ l) : DGet H q (.str p) (some (.ref (r p))) := by
  have z := DGet.k (k := Sum.inr p) h.1
  rw [tblV_val hp] at z
  exact z
end FT


/-! path_in, need_place, Forest.under, edges_at -/
namespace FT
open PySem L2 TL ClX
theorem Rd.same {H H' : Hp} {a : Addr} {u : HO} (s : Same H H') (h : Rd H a u) : Rd H' a u := h.imp (fun e => s _ _ e) fun ⟨o, e⟩ => ⟨o, s _ _ e⟩
theorem dget_prs {H : Hp} {q : Addr} {ts : List (Str × Str)} {a p : Str} (h : Rd H q (.dK (prs ts))) (e : par ts a = some p) : DGet H q (.str a) (some (.str p)) := .inl ⟨prs ts, Sum.inr a, h, rfl, by rw [val_prs, e] <;> rfl⟩
def spPathIn : Sp := fun vs H Q _ => ∃ (q : Addr) (ts : List (Str × Str)) (a : Str), vs = [.ref q, .str a] ∧ Rd H q (.dK (prs ts)) ∧ TreeOk ts ∧ Pl ts a ∧ ∀ p H', Same H H' → H p = none → H' p = some (.tup ((pathOf ts a).map V.str)) → Q (.ref p) H'
def spNeedPl (CF : Addr) : Sp := fun vs H Q _ => ∃ (x : Addr) (ts : List (Str × Str)) (a : Str), vs = [.ref x, .str a] ∧ FAt CF H x ts ∧ TreeOk ts ∧ Pl ts a ∧ Q .non H
def spEdgesAt (CF : Addr) : Sp := fun vs H Q _ => ∃ (x : Addr) (ts : List (Str × Str)) (a : Str), vs = [.ref x, .str a] ∧ FAt CF H x ts ∧ TreeOk ts ∧ Pl ts a ∧ ∀ p H', Same H H' → H p = none → H' p = some (.lst ((adj ts a).map V.str)) → Q (.ref p) H'
def pathLen (ts : List (Str × Str)) (σ : St) : Nat := match σ[1]? with
  | some (some (V.str a)) => (pathOf ts a).length
  | _ => 0
theorem filter_more {c : Str → Bool} {l : List Str} {i : Nat} {a : Str} (h : l[i]? = some a) : (l.take (i + 1)).filter c = (l.take i).filter c ++ if c a = true then [a] else [] := by
  rw [take_more h, List.filter_append, List.filter_cons, List.filter_nil]
section
variable {P : Program} {w : World} {K : PySem.W.Frag} {mg : Str → Option Value} {base : Heap}
abbrev NPi : List Str := ["above", "place", "path"]
theorem scPi : FnScope NPi ["above", "place"] (defScope s_path_in) := ⟨rfl, rfl, rfl, by decide +kernel, rfl, by decide +kernel, by decide +kernel⟩
theorem ok_pathIn {f : Addr} {fd : FuncData} (F : Fun K "path_in" "path_in" s_path_in f fd) (T : Nm mg) : FnOk P w K mg base CX0 1 f fd ["above", "place"] spPathIn := by
  refine F.ok scPi (fun vs H Q E h => ?_) (fun cdv A outer s H vs Q E hr h => ?_)
  · obtain ⟨q, ts, a, rfl, _⟩ := h
    rfl
  · obtain ⟨q, ts, a0, rfl, hq, o, pl0, k⟩ := h
    have hu := hu_of hr
    have nd := scPi.nd
    have big : 1000 ≤ sizeLine := by decide
    have few := o.few
    refine ⟨_, pss_cons (ps_set (i := 2) nd rfl (.inl rfl) (pe_lst pa_nil))
      (pss_cons (ps_while PassesOwn.never (pt_cmpR op_ne (pv 1) pe_str (nomark _))
        (pss_cons (ps_expr (pe_bm PySem.F.plainAttrs_list PySem.F.slot_list_append PySem.F.type_list_append mt_append (pv 2) (pa_cons (pv 1) pa_nil)))
        (pss_one (ps_set (i := 1) nd rfl (.inl rfl) (pe_dget hu (pv 0) (pv 1) (fun _ _ => rfl))))))
      (pss_one (ps_ret (pe_tupleOf (by rfl) T.tup (pe_revL (pv 2)))))), ?_⟩
    refine ⟨by show 0 ≤ sizeLine; omega, fun l nl => ?_⟩
    refine while_by (fun σ H' => ∃ (a : Str) (ws : List Str), σ = [some (.ref q), some (.str a), some (.ref l)] ∧ H' l = some (.lst (ws.map V.str)) ∧ Same H H' ∧ Pl ts a ∧ pathOf ts a0 = pathOf ts a ++ ws.reverse) (fun σ _ => pathLen ts σ)
      ⟨a0, [], rfl, upd_same, same_new nl, pl0, by rw [List.reverse_nil, List.append_nil]⟩ ?_ ?_
    · rintro σ Hx ⟨a, ws, rfl, hl, sm, pl, ep⟩
      have len := congrArg List.length ep
      have le := path_len ts a0
      rw [List.length_append, List.length_reverse] at len
      refine ⟨_, rfl, rfl, _, rfl, ?_⟩
      by_cases e : a = ""
      · rw [decide_eq_true (show V.str a = V.str "" by rw [e])]
        refine iteF ?_
        rw [e, path_root, List.nil_append] at ep
        refine ⟨_, rfl, l, _, rfl, SqL.of hl, fun p1 n1 => .inl ⟨p1, _, rfl, SqL.of upd_same, fun p2 n2 => ?_⟩⟩
        refine k p2 _ ((sm.trans (same_new n1)).trans (same_new n2)) ((sm.trans (same_new n1)).free n2) ?_
        rw [upd_same, ep, List.map_reverse]
      · rw [decide_eq_false (show ¬ V.str a = V.str "" from fun z => e (V.str.inj z))]
        show if true = true then _ else _
        rw [if_pos rfl]
        have fl := pl.resolve_left e
        obtain ⟨pa, hp⟩ := par_some o.nd fl
        have st := path_step o fl hp
        refine ⟨_, rfl, .inl ⟨rfl, _, SqL.of hl⟩, _, rfl, l, _, _, rfl, rfl, hl, by rw [List.length_map]; omega, ?_⟩
        refine ⟨_, rfl, _, rfl, q, V.str pa, rfl, dget_prs ?_ hp, ?_⟩
        · have ql : q ≠ l := by
            intro z
            rcases hq with hq | ⟨oo, hq⟩ <;> (rw [z, nl] at hq; cases hq)
          have hq' := Rd.same sm hq
          rcases hq' with h | ⟨oo, h⟩
          · exact .inl (by rw [upd_ne ql]; exact h)
          · exact .inr ⟨oo, by rw [upd_ne ql]; exact h⟩
        · refine ⟨⟨pa, ws ++ [a], rfl, by rw [upd_same, List.map_append] <;> rfl, sm.put nl, par_pl o hp, ?_⟩, ?_⟩
          · rw [ep, st, List.reverse_append, List.append_assoc] <;> rfl
          · show (pathOf ts pa).length < (pathOf ts a).length
            rw [st, List.length_append]
            exact Nat.lt_succ_self _
    · exact fun σ H Q Q' hm ⟨v, e, e2, b, eb, z⟩ => ⟨v, e, e2, b, eb, hm _ _ z⟩
abbrev NNp : List Str := ["forest", "place"]
theorem scNp : FnScope NNp ["forest", "place"] (defScope s_need_place) := ⟨rfl, rfl, rfl, by decide +kernel, rfl, by decide +kernel, by decide +kernel⟩
theorem ok_needPl {f CF : Addr} {mc : Value} {fd : FuncData} (F : Fun K "need_place" "need_place" s_need_place f fd) (T : Nm mg) (O : FoC K CF) (Z : Fc K mg CF mc) : FnOk P w K mg base CX0 1 f fd ["forest", "place"] (spNeedPl CF) := by
  obtain ⟨ur, cr⟩ := Z.root
  refine F.ok scNp (fun vs H Q E h => ?_) (fun cdv A outer s H vs Q E hr h => ?_)
  · obtain ⟨x, ts, a, rfl, _⟩ := h
    rfl
  · obtain ⟨x, ts, a, rfl, fa, o, pl, k⟩ := h
    have hu := hu_of hr
    refine ⟨_, pss_one (ps_if (PW.pt (pw_or (pt_not (pt_val (pe_callB call_isi (by rfl) T.isi (by decide +kernel) (pa_cons (pv 1) (pa_cons (pe_bltn (v := .ty "str") (u := .type "str") (by rfl) T.str (by decide +kernel) rfl) pa_nil)))))
          (pw_or1 (PW.pt (pw_and (pt_cmpR op_ne (pv 1) (pe_cval (pe_glob (v := .ref CF) (by rfl) Z.gF rfl)) (nomark _)) (pw_and1 (pt_cmp (pc_dnotin hu (pv 1) (pe_fld (pv 0) rfl))))))))) pss_never pss_nil), ?_⟩
    obtain ⟨dx, dq, hx, hd⟩ := id fa
    refine ⟨_, rfl, .str a, _, _, _, true, rfl, .ty _, .base (.str a), kit_ty (by decide +kernel), true, rfl, ?_⟩
    refine iteF ?_
    refine ⟨_, rfl, CF, mc, _, ur, rfl, Z.rd, cr, rfl, _, rfl, ?_⟩
    by_cases e : a = ""
    · rw [decide_eq_true (show V.str a = V.str "" by rw [e])]
      refine iteF ?_
      exact iteF k
    · rw [decide_eq_false (show ¬ V.str a = V.str "" from fun z => e (V.str.inj z))]
      show if true = true then _ else _
      rw [if_pos rfl]
      obtain ⟨pa, hp⟩ := par_some o.nd (pl.resolve_left e)
      refine ⟨_, rfl, _, rfl, x, CF, dx, _, .ref dq, rfl, hx, O.cl, O.nA, rfl, dq, _, rfl, dget_prs (.inl hd) hp, _, rfl, ?_⟩
      exact iteF k
end
end FT


/-! edges_at, edge_order -/
namespace FT
open PySem L2 TL ClX LiI
theorem mem_crs {ts : List (Str × Str)} {c : Str → Int} {e : Str × Str × Int} : e ∈ crs c ts ↔ ∃ q ∈ ts, (0 < c q.1 ∧ e = (q.2, q.1, c q.1)) ∨ (c q.1 < 0 ∧ e = (q.1, q.2, - c q.1)) := by
  unfold crs
  rw [List.mem_flatMap]
  refine exists_congr fun q => and_congr .rfl ?_
  by_cases h1 : 0 < c q.1
  · rw [if_pos h1, List.mem_singleton]
    exact ⟨fun h => .inl ⟨h1, h⟩, fun h => h.elim And.right fun z => by have := z.1; omega⟩
  · rw [if_neg h1]
    by_cases h2 : c q.1 < 0
    · rw [if_pos h2, List.mem_singleton]
      exact ⟨fun h => .inr ⟨h2, h⟩, fun h => h.elim (fun z => absurd z.1 h1) And.right⟩
    · rw [if_neg h2]
      exact ⟨(fun h => by cases h), fun h => h.elim (fun z => absurd z.1 h1) fun z => absurd z.1 h2⟩
theorem crs_lv {ts : List (Str × Str)} (o : TreeOk ts) {c : Str → Int} {s g : Str} {a : Int} (h : (s, g, a) ∈ crs c ts) : a = (lv ts c s g : Int) ∧ 0 < lv ts c s g := by
  obtain ⟨⟨f, p⟩, hq, ⟨pos, e⟩ | ⟨neg, e⟩⟩ := mem_crs.mp h
  · cases e
    have hp := par_of o.nd hq
    have pos : 0 < c f := pos
    have : lv ts c p f = (c f).toNat := by
      unfold lv
      rw [if_pos ⟨hp, pos⟩]
    show c f = (lv ts c p f : Int) ∧ 0 < lv ts c p f
    omega
  · cases e
    have hp := par_of o.nd hq
    have neg : c f < 0 := neg
    have n : ¬ par ts p = some f := fun z => par_once o hp z
    have : lv ts c f p = (- c f).toNat := by
      unfold lv
      rw [if_neg fun z => n z.1, if_pos ⟨hp, neg⟩]
    show - c f = (lv ts c f p : Int) ∧ 0 < lv ts c f p
    omega
theorem lv_crs {ts : List (Str × Str)} (o : TreeOk ts) {c : Str → Int} {s g : Str} (h : 0 < lv ts c s g) : (s, g, (lv ts c s g : Int)) ∈ crs c ts := by
  have m : ∃ a, (s, g, a) ∈ crs c ts := by
    obtain ⟨_, _, _, ⟨e, pos⟩ | ⟨e, neg⟩⟩ := lv_adj o h
    · exact ⟨c g, mem_crs.mpr ⟨_, par_mem e, .inl ⟨pos, rfl⟩⟩⟩
    · exact ⟨- c s, mem_crs.mpr ⟨_, par_mem e, .inr ⟨neg, rfl⟩⟩⟩
  obtain ⟨a, m⟩ := m
  rw [← (crs_lv o m).1]
  exact m
theorem min_mem (f : Str → Nat) : ∀ {l : List Str}, l ≠ [] → ∃ p ∈ l, ∀ q ∈ l, f p ≤ f q
  | [], h => absurd rfl h
  | [a], _ => ⟨a, List.mem_cons_self .., fun q hq => by rw [List.mem_singleton.mp hq]; exact Nat.le_refl _⟩
  | a :: b :: l, _ => by
    obtain ⟨p, hp, h⟩ := min_mem f (l := b :: l) (by simp)
    by_cases e : f a ≤ f p
    · refine ⟨a, List.mem_cons_self .., fun q hq => ?_⟩
      rcases List.mem_cons.mp hq with rfl | hq
      · exact Nat.le_refl _
      · exact Nat.le_trans e (h q hq)
    · refine ⟨p, List.mem_cons_of_mem _ hp, fun q hq => ?_⟩
      rcases List.mem_cons.mp hq with rfl | hq
      · omega
      · exact h q hq
/-- each place behind all from which users move to it -/
def Topo (ts : List (Str × Str)) (c : Str → Int) (ds : List Str) : Prop := ∀ (i : Nat) (p : Str), ds[i]? = some p → ∀ q, 0 < lv ts c q p → q ∈ ds.take i
def spEdgeOrder (CF : Addr) : Sp := fun vs H Q _ => ∃ (x q : Addr) (ts : List (Str × Str)) (c : Str → Int), vs = [.ref x, .ref q] ∧ FAt CF H x ts ∧ TreeOk ts ∧ H q = some (.dK (tblI (ts.map Prod.fst) c)) ∧
  ∀ (p : Addr) (ds : List Str) (H' : Hp), Same H H' → H p = none → ds.Perm (pls ts) → Topo ts c ds → H' p = some (.lst (ds.map V.str)) → Q (.ref p) H'
/-- goals of the edges from places that are left -/
def waitL (es : List (Str × Str × Int)) (rest : List Str) : List Str := (es.filter fun e => decide (e.1 ∈ rest)).map fun e => e.2.1
theorem waitL_more {es : List (Str × Str × Int)} {i : Nat} {e : Str × Str × Int} (rest : List Str) (h : es[i]? = some e) : waitL (es.take (i + 1)) rest = waitL (es.take i) rest ++ if e.1 ∈ rest then [e.2.1] else [] := by
  unfold waitL
  rw [take_more h, List.filter_append, List.map_append, List.filter_cons, List.filter_nil]
  by_cases m : e.1 ∈ rest
  · rw [if_pos m, if_pos (decide_eq_true m)] <;> rfl
  · rw [if_neg m, if_neg (by rw [decide_eq_false m]; decide)] <;> rfl
section
variable {P : Program} {w : World} {K : PySem.W.Frag} {mg : Str → Option Value} {base : Heap}
abbrev NEo : List Str := ["forest", "changed", "edges", "found", "left", "place", "waiting", "goal", "amount"]
theorem scEo : FnScope NEo ["forest", "changed"] (defScope s_edge_order) := ⟨rfl, rfl, rfl, by decide +kernel, rfl, by decide +kernel, by decide +kernel⟩
theorem ok_edgeOrder {f fC fP CF : Addr} {fd fdC fdP : FuncData} (F : Fun K "edge_order" "edge_order" s_edge_order f fd) (DC : Dn P w K mg base CX0 3 "crossings" ["forest", "changed"] (spCross CF) fC fdC) (DP : Dn P w K mg base CX0 3 "places_of" ["forest"] (spPlacesOf CF) fP fdP) : FnOk P w K mg base CX0 4 f fd ["forest", "changed"] (spEdgeOrder CF) := by
  refine F.ok scEo (fun vs H Q E h => ?_) (fun cdv A outer s H vs Q E hr h => ?_)
  · obtain ⟨x, q, ts, c, rfl, _⟩ := h
    rfl
  · obtain ⟨x, q, ts, c, rfl, fa, o, hq, k⟩ := h
    have nd := scEo.nd
    have big : 1000 ≤ sizeLine := by decide
    have few := o.few
    refine ⟨_, pss_cons (ps_set (i := 2) nd rfl (.inl rfl) (pe_call DC.ok hr rfl DC.mgn DC.kp DC.bn .nil pass0 (pa_cons (pv 0) (pa_cons (pv 1) pa_nil))))
      (pss_cons (ps_asg (pe_tup (pa_cons (pe_lst pa_nil) (pa_cons (pe_call DP.ok hr rfl DP.mgn DP.kp DP.bn .nil pass0 (pa_cons (pv 0) pa_nil)) pa_nil))) (pg_tup rfl (pgs_cons (pg_name (i := 3) nd rfl (.inl rfl)) (pgs_cons (pg_name (i := 4) nd rfl (.inr rfl)) pgs_nil))))
      (pss_cons (ps_while PassesOwn.never (pt_cmpR (op_neD hr.units) (pv 4) (pe_lst pa_nil) (nomark _))
        (pss_cons (ps_set (i := 6) nd rfl (.inr rfl) (pe_lc (own := [("place", 5), ("goal", 7), ("amount", 8)]) (g := gTup K 3 (gCons (gName 5) (gCons (gName 7) (gCons (gName 8) gNil)))) (tt := tTest (tOp (rIn K false) (tVar 5) (tVar 4))) (te := tVar 7) rfl nd (pi_list (pv 2))
          (blkOk_by (N := NEo) (sc := defScope s_edge_order) (by decide +kernel)) (fun _ _ _ _ _ => pg_tup rfl (pgs_cons (pg_name (i := 5) nd rfl (Or.inl rfl)) (pgs_cons (pg_name (i := 7) nd rfl (Or.inl rfl)) (pgs_cons (pg_name (i := 8) nd rfl (Or.inl rfl)) pgs_nil))))
          (fun _ _ _ _ _ => pts_one (pt_cmpR op_in_seq (pv 5) (pv 4) rfl)) (fun _ _ _ _ _ => pv 7)))
        (pss_cons (ps_set (i := 5) nd rfl (.inl rfl) (pe_ix ix_list (pe_lc (own := [("place", 5)]) (g := gName 5) (tt := tTest (tOp (rIn K true) (tVar 5) (tVar 6))) (te := tVar 5) rfl nd (pi_list (pv 4))
          (blkOk_by (N := NEo) (sc := defScope s_edge_order) (by decide +kernel)) (fun _ _ _ _ _ => pg_name (i := 5) nd rfl (Or.inl rfl))
          (fun _ _ _ _ _ => pts_one (pt_cmpR op_notIn_seq (pv 5) (pv 6) rfl)) (fun _ _ _ _ _ => pv 5)) pe_int (fun _ _ => rfl)))
        (pss_cons (ps_expr (pe_bm PySem.F.plainAttrs_list PySem.F.slot_list_append PySem.F.type_list_append mt_append (pv 3) (pa_cons (pv 5) pa_nil)))
        (pss_one (ps_expr (pe_bm PySem.F.plainAttrs_list PySem.F.slot_list_remove PySem.F.type_list_remove mt_removeS (pv 4) (pa_cons (pv 5) pa_nil))))))))
      (pss_one (ps_ret (pv 3))))), ?_⟩
    refine ⟨_, rfl, _, rfl, x, q, ts, c, rfl, fa, o, hq, fun e rs H1 s1 ne he ed => ?_⟩
    refine ⟨by show 0 ≤ sizeLine; omega, fun fl nfl => ?_⟩
    have s2 := same_new (o := .lst []) nfl
    refine ⟨_, rfl, x, ts, rfl, (fa.mono s1).mono s2, few, fun pl H3 s3 npl hpl => ⟨by show 2 ≤ sizeLine; omega, fun tp ntp => ⟨tp, _, rfl, .inl (.inl upd_same), rfl, ?_⟩⟩⟩
    obtain ⟨H4, e4⟩ : ∃ X, X = upd H3 tp (.tup [.ref fl, .ref pl]) := ⟨_, rfl⟩
    have s34 : Same H3 H4 := e4 ▸ same_new ntp
    rw [← e4]
    have s14 : Same H1 H4 := (s2.trans s3).trans s34
    have s04 := s1.trans s14
    have hfl4 : H4 fl = some (.lst []) := s34 _ _ (s3 _ _ upd_same)
    have hpl4 : H4 pl = some (.lst ((pls ts).map V.str)) := s34 _ _ hpl
    have he4 := s14 _ _ he
    have ed4 := EdG.mono s14 ed
    have pn := pls_nd o
    have pln := pls_len ts
    have flpl : pl ≠ fl := (ne_of_none (upd_same (H := H1) (a := fl) (o := .lst [])) npl).symm
    have fl0 : H fl = none := s1.free nfl
    have pl0 : H pl = none := s1.free (s2.free npl)
    have efl : e ≠ fl := ne_of_none he nfl
    have epl : e ≠ pl := ne_of_none (s2 _ _ he) npl
    refine ⟨_, _, rfl, _, _, rfl, rfl, ?_⟩
    refine while_by (fun σ H' => (∃ u5 u6, σ = [some (.ref x), some (.ref q), some (.ref e), some (.ref fl), some (.ref pl), u5, u6, none, none]) ∧ (∀ b u, b ≠ fl → b ≠ pl → H4 b = some u → H' b = some u) ∧
        ∃ ds rest : List Str, H' fl = some (.lst (ds.map V.str)) ∧ H' pl = some (.lst (rest.map V.str)) ∧ (ds ++ rest).Perm (pls ts) ∧ Topo ts c ds) (fun _ H' => many H' pl)
      ⟨⟨none, none, rfl⟩, fun _ _ _ _ z => z, [], pls ts, hfl4, hpl4, .refl _, fun i p h => by simp at h⟩ ?_ ?_
    · rintro σ H5 ⟨⟨u5, u6, rfl⟩, kp, ds, rest, hfl, hpl5, pm, tp⟩
      have lens := pm.length_eq
      rw [List.length_append] at lens
      have ndr : (ds ++ rest).Nodup := pm.nodup_iff.mpr pn
      refine ⟨_, rfl, by show 0 ≤ sizeLine; omega, fun z nz => ⟨_, _, .lst (SqL.of (by rw [upd_ne (ne_of_none hpl5 nz)]; exact hpl5)) (dps_strs rest), .lst (SqL.of upd_same) .nil, strs_shaped (fun t ht => ?_), rfl, ?_⟩⟩
      · rcases mem_pls.mp (pm.mem_iff.mp (List.mem_append_right _ ht)) with e0 | m
        · rw [e0]
          exact strOk_root
        · exact strOk_name (o.nm _ m)
      obtain ⟨H6, e6⟩ : ∃ X, X = upd H5 z (.lst []) := ⟨_, rfl⟩
      have s56 : Same H5 H6 := e6 ▸ same_new nz
      rw [← e6]
      refine ⟨_, rfl, ite2 (fun t => ?_) (fun t => ?_)⟩
      · have rne : rest ≠ [] := fun z => by rw [z] at t; cases t
        have he6 : H6 e = some (.lst (rs.map V.ref)) := s56 _ _ (kp _ _ efl epl he4)
        have ed6 : EdG H6 rs (crs c ts) := by
          have m : ∀ {rs : List Addr} {es : List (Str × Str × Int)}, EdG H4 rs es → EdG H6 rs es := by
            intro rs es ed
            induction ed with
            | nil => exact .nil
            | cons h _ ih => exact .cons (s56 _ _ (kp _ _ (ne_of h hfl4 (by intro z; cases z)) (ne_of h hpl4 (by intro z; cases z)) h)) ih
          exact m ed4
        have hpl6 := s56 _ _ hpl5
        have hfl6 := s56 _ _ hfl
        have cl := crs_len c ts
        have lr := ed6.len
        -- waiting
        refine ⟨_, rfl, e, rfl, ⟨_, SqL.of he6⟩, fun D1 nD1 => ?_⟩
        refine lc_it walk_list (fun i H' => Same H6 H' ∧ H' D1 = some (.lst ((waitL ((crs c ts).take i) rest).map V.str))) ⟨same_new nD1, upd_same⟩ (fun i H' _ z => SqL.of (z.1 _ _ he6)) ?_ ?_
        · intro i y Hc Hd hi ⟨q1, q2⟩ ⟨eb, ey⟩
          subst eb
          obtain ⟨r, hr0, rfl⟩ := map_of ey
          obtain ⟨e1, he1, hrb⟩ := ed6.at_ hr0
          have more := waitL_more rest he1
          have wl : (waitL ((crs c ts).take i) rest).length ≤ 12 := by
            unfold waitL
            rw [List.length_map]
            have := List.length_filter_le (fun e : Str × Str × Int => decide (e.1 ∈ rest)) ((crs c ts).take i)
            rw [List.length_take] at this
            omega
          refine ⟨r, [.str e1.1, .str e1.2.1, .int e1.2.2], rfl, .inl (.inl (q1 _ _ hrb)), rfl, _, _, rfl, _, _, rfl, _, _, rfl, rfl, rfl, ?_⟩
          refine ⟨_, rfl, _, rfl, pl, _, rfl, .inl (SqL.of (q1 _ _ hpl6)), rfl, flat_strs rest, _, rfl, ?_⟩
          rw [show (if false = true then !inV (V.str e1.1) (rest.map V.str) else inV (V.str e1.1) (rest.map V.str)) = decide (e1.1 ∈ rest) from inV_strs e1.1 rest]
          refine ite2 (fun yes => ?_) (fun no => ?_)
          · have yes : e1.1 ∈ rest := of_decide_eq_true yes
            rw [if_pos yes] at more
            exact ⟨_, rfl, _, q2, by rw [List.length_map]; omega, Same.put q1 nD1, by rw [upd_same, more, List.map_append] <;> rfl⟩
          · have no : ¬ e1.1 ∈ rest := fun z => no (decide_eq_true z)
            rw [if_neg no, List.append_nil] at more
            exact ⟨q1, by rw [more]; exact q2⟩
        intro H7 ⟨s67, hD1⟩
        rw [List.length_map, lr, List.take_length] at hD1
        obtain ⟨wt, ewt⟩ : ∃ wt, wt = waitL (crs c ts) rest := ⟨_, rfl⟩
        rw [← ewt] at hD1
        have hpl7 := s67 _ _ hpl6
        -- who waits for none
        refine ⟨_, rfl, pl, rfl, ⟨_, SqL.of hpl7⟩, fun D2 nD2 => ?_⟩
        refine lc_it walk_list (fun i H' => Same H7 H' ∧ H' D2 = some (.lst (((rest.take i).filter fun p => !decide (p ∈ wt)).map V.str))) ⟨same_new nD2, upd_same⟩ (fun i H' _ z => SqL.of (z.1 _ _ hpl7)) ?_ ?_
        · intro i y Hc Hd hi ⟨q1, q2⟩ ⟨eb, ey⟩
          subst eb
          obtain ⟨p, hp, rfl⟩ := map_of ey
          have more := filter_more (c := fun p => !decide (p ∈ wt)) hp
          have fl' := List.length_filter_le (fun p => !decide (p ∈ wt)) (rest.take i)
          rw [List.length_take] at fl'
          refine ⟨rfl, ?_⟩
          refine ⟨_, rfl, _, rfl, D1, _, rfl, .inl (SqL.of (q1 _ _ hD1)), rfl, flat_strs wt, _, rfl, ?_⟩
          rw [show (if true = true then !inV (V.str p) (wt.map V.str) else inV (V.str p) (wt.map V.str)) = !decide (p ∈ wt) from congrArg not (inV_strs p wt)]
          refine ite2 (fun yes => ?_) (fun no => ?_)
          · have yes : (!decide (p ∈ wt)) = true := yes
            rw [if_pos yes] at more
            exact ⟨_, rfl, _, q2, by rw [List.length_map]; omega, Same.put q1 nD2, by rw [upd_same, more, List.map_append] <;> rfl⟩
          · have no : ¬ (!decide (p ∈ wt)) = true := no
            rw [if_neg no, List.append_nil] at more
            exact ⟨q1, by rw [more]; exact q2⟩
        intro H8 ⟨s78, hD2⟩
        rw [List.length_map, List.take_length] at hD2
        -- one is free
        obtain ⟨cand, ec⟩ : ∃ cand, cand = rest.filter fun p => !decide (p ∈ wt) := ⟨_, rfl⟩
        rw [← ec] at hD2
        have free : ∀ p, p ∈ cand ↔ p ∈ rest ∧ p ∉ wt := fun p => by
          rw [ec, List.mem_filter, Bool.not_eq_true', decide_eq_false_iff_not]
        have wtm : ∀ p, p ∈ wt → ∃ s, s ∈ rest ∧ 0 < lv ts c s p := fun p hp => by
          rw [ewt] at hp
          unfold waitL at hp
          obtain ⟨⟨s, g, a⟩, h1, rfl⟩ := List.mem_map.mp hp
          obtain ⟨h2, h3⟩ := List.mem_filter.mp h1
          exact ⟨s, of_decide_eq_true h3, (crs_lv o h2).2⟩
        have ne : cand ≠ [] := by
          obtain ⟨p, hp, mn⟩ := min_mem (lvl ts c) rne
          refine List.ne_nil_of_mem ((free p).mpr ⟨hp, fun hw => ?_⟩)
          obtain ⟨s, hs, pos⟩ := wtm p hw
          have := lvl_up o pos
          have := mn s hs
          omega
        obtain ⟨p, cs, ecs⟩ := List.exists_cons_of_ne_nil ne
        have pc := (free p).mp (by rw [ecs]; exact List.mem_cons_self ..)
        rw [ecs] at hD2
        refine ⟨D2, _, 0, .str p, rfl, rfl, SqL.of hD2, atI_nat (xs := (p :: cs).map V.str) (j := 0) (v := .str p) rfl, ?_⟩
        have s58 : Same H5 H8 := (s56.trans s67).trans s78
        refine ⟨_, rfl, .inl ⟨rfl, _, SqL.of (s58 _ _ hfl)⟩, _, rfl, fl, _, _, rfl, rfl, s58 _ _ hfl, by rw [List.length_map]; omega, ?_⟩
        obtain ⟨j, hj, ej⟩ := List.mem_iff_getElem.mp pc.1
        have ej' : rest[j]? = some p := List.getElem?_eq_some_iff.mpr ⟨hj, ej⟩
        have nrest : rest.Nodup := (List.nodup_append.mp ndr).2.1
        refine ⟨_, rfl, .inl ⟨rfl, _, SqL.of (by rw [upd_ne flpl]; exact s58 _ _ hpl5)⟩, _, rfl, pl, rest, p, j, rfl, rfl, by rw [upd_ne flpl]; exact s58 _ _ hpl5, ej', fun m hm em => ?_, ?_⟩
        · have := (List.getElem?_inj (by omega) nrest).mp (em.trans ej'.symm)
          omega
        have pe : (p :: rest.eraseIdx j).Perm rest := ej ▸ erase_perm rest j hj
        refine ⟨⟨⟨_, _, rfl⟩, fun b u b1 b2 eb => ?_, ds ++ [p], rest.eraseIdx j, ?_, upd_same, ?_, ?_⟩, ?_⟩
        · rw [upd_ne b2, upd_ne b1]
          exact s58 _ _ (kp b u b1 b2 eb)
        · rw [upd_ne flpl.symm, upd_same, List.map_append] <;> rfl
        · rw [List.append_assoc]
          exact ((List.Perm.refl ds).append pe).trans pm
        · intro i p' hp' s pos
          by_cases hi : i < ds.length
          · rw [List.getElem?_append_left hi] at hp'
            rw [List.take_append_of_le_length (Nat.le_of_lt hi)]
            exact tp i p' hp' s pos
          · have hl := (List.getElem?_eq_some_iff.mp hp').1
            rw [List.length_append] at hl
            have one : ([p] : List Str).length = 1 := rfl
            have ei : i = ds.length := by omega
            rw [ei, List.getElem?_append_right (Nat.le_refl _), Nat.sub_self] at hp'
            have ep : p = p' := Option.some.inj hp'
            subst ep
            rw [ei, List.take_left' rfl]
            have hs := pm.mem_iff.mpr (mem_pls.mpr (lv_adj o pos).1)
            rcases List.mem_append.mp hs with h | h
            · exact h
            · refine absurd ?_ pc.2
              rw [ewt]
              unfold waitL
              exact List.mem_map.mpr ⟨_, List.mem_filter.mpr ⟨lv_crs o pos, decide_eq_true h⟩, rfl⟩
        · show many _ pl < many H5 pl
          rw [many_at upd_same, many_at hpl5, List.length_map, List.length_map, List.length_eraseIdx, if_pos hj]
          omega
      · have rnil : rest = [] := by
          cases rest with
          | nil => rfl
          | cons y r => exact absurd rfl t
        subst rnil
        rw [List.append_nil] at pm
        have sf : Same H H6 := fun b u eb => s56 _ _ (kp b u (ne_of_none eb fl0) (ne_of_none eb pl0) (s04 _ _ eb))
        exact ⟨_, rfl, k fl ds H6 sf fl0 pm tp (s56 _ _ hfl)⟩
    · exact fun σ H Q Q' hm ⟨v, e, z, f⟩ => ⟨v, e, z, fun p np => let ⟨d1, d2, a1, a2, a3, a4, b, eb, q⟩ := f p np; ⟨d1, d2, a1, a2, a3, a4, b, eb, hm _ _ q⟩⟩
end
end FT


/-! methods and properties, as a whole -/
namespace FT
open PySem L2 TL ClX
/-- a method of a class, as a whole -/
structure Mt (P : Program) (w : World) (K : PySem.W.Frag) (mg : Str → Option Value) (base : Heap) (CX : CXT) (k : Nat) (C : Addr) (m : Str) (ps : List Str) (sp : Sp) (f : Addr) (fd : FuncData) : Prop where
  mt : Meth K C m f
  fn : FnOk P w K mg base CX k f fd ps sp
  bn : Binds K fd ps []
/-- a property, at any level -/
structure PrN (P : Program) (w : World) (K : PySem.W.Frag) (mg : Str → Option Value) (base : Heap) (k : Nat) (C : Addr) (x : Str) (sp : Sp) (p g : Addr) (fd : FuncData) : Prop where
  pr : PropOf K C x p g
  fn : FnOk P w K mg base CX0 k g fd ["self"] sp
  bn : Binds K fd ["self"] []
end FT


/-! Assignment: made of valid places; its places -/
namespace FT
open PySem L2 TL ClX
/-- the class Assignment -/
structure Ac (K : PySem.W.Frag) (mg : Str → Option Value) (CA : Addr) (mc : Value) : Prop where
  gA : mg "Assignment" = some (.ref CA)
  rd : CRead K CA mc
  most : ∃ u, CVal K CA mc "MOST" (.int 60) u
  cl : Cls K CA
  nF : NoAttr K CA "own_forest"
  nP : NoAttr K CA "own_places"
/-- an assignment at y: its forest, its places -/
def AAt (CA : Addr) (H : Hp) (y x : Addr) (zs : List Str) : Prop := ∃ dy p, H y = some (.ins CA dy [("own_forest", .ref x), ("own_places", .ref p)]) ∧ H p = some (.lst (zs.map V.str))
theorem AAt.mono {CA y x : Addr} {H H' : Hp} {zs : List Str} (s : Same H H') (h : AAt CA H y x zs) : AAt CA H' y x zs := let ⟨dy, p, e1, e2⟩ := h; ⟨dy, p, s _ _ e1, s _ _ e2⟩
theorem put2a {u v : V} : putF "own_places" v [(("own_forest" : Str), u)] = [(("own_forest" : Str), u), (("own_places" : Str), v)] := by
  unfold putF
  rw [if_neg (by decide +kernel)] <;> rfl
def spAInit (CF CA : Addr) : Sp := fun vs H Q _ => ∃ (y x l dy : Addr) (ts : List (Str × Str)) (zs : List Str), vs = [.ref y, .ref x, .ref l] ∧ H y = some (.ins CA dy []) ∧ FAt CF H x ts ∧ TreeOk ts ∧ H l = some (.lst (zs.map V.str)) ∧ 1 ≤ zs.length ∧ zs.length ≤ 60 ∧ (∀ z ∈ zs, Pl ts z) ∧
  ∀ H', AAt CA H' y x zs → (∀ b o, b ≠ y → H b = some o → H' b = some o) → Q .non H'
def spAPlaces (CA : Addr) : Sp := fun vs H Q _ => ∃ (y x : Addr) (zs : List Str), vs = [.ref y] ∧ AAt CA H y x zs ∧ ∀ p, H p = none → Q (.ref p) (upd H p (.lst (zs.map V.str)))
section
variable {P : Program} {w : World} {K : PySem.W.Frag} {mg : Str → Option Value} {base : Heap}
theorem scAInit : FnScope ["self", "forest", "places", "user", "place"] ["self", "forest", "places"] (defScope s_Assignment___init__) := ⟨rfl, rfl, rfl, by decide +kernel, rfl, by decide +kernel, by decide +kernel⟩
theorem ok_ainit {f CF CA : Addr} {mc mcA : Value} {fd : FuncData} (F : Fun K "__init__" "Assignment.__init__" s_Assignment___init__ f fd) (T : Nm mg) (O : FoC K CF) (Z : Fc K mg CF mc) (B : Ac K mg CA mcA) : FnOk P w K mg base CX0 1 f fd ["self", "forest", "places"] (spAInit CF CA) := by
  obtain ⟨um, cm⟩ := B.most
  obtain ⟨ur, cr⟩ := Z.root
  refine F.ok scAInit (fun vs H Q E h => ?_) (fun cdv A outer s H vs Q E hr h => ?_)
  · obtain ⟨y, x, l, dy, ts, zs, rfl, _⟩ := h
    rfl
  · obtain ⟨y, x, l, dy, ts, zs, rfl, hy, fa, o, hl, one, few, mem, k⟩ := h
    have hu := hu_of hr
    refine ⟨_, pss_cons (ps_if (PW.pt (pw_or (pt_not (pt_val (pe_callB call_isiT (by rfl) T.isi (by decide +kernel) (pa_cons (pv 2) (pa_cons (pe_tup (pa_cons (pe_bltn (v := .ty "list") (u := .type "list") (by rfl) T.lst (by decide +kernel) rfl) (pa_cons (pe_bltn (v := .ty "tuple") (u := .type "tuple") (by rfl) T.tup (by decide +kernel) rfl) pa_nil))) pa_nil)))))
        (pw_or1 (pt_not (pt_chain op_le op_le pe_int (pe_callB call_len_seq (by rfl) T.len PySem.boot_len (pa_cons (pv 2) pa_nil)) (pe_cval (pe_glob (v := .ref CA) (by rfl) B.gA rfl))))))) pss_never pss_nil)
      (pss_cons (ps_for PassesOwn.never rfl (pi_enum rfl T.enu (pa_cons (pv 2) pa_nil)) (pg_tup rfl (pgs_cons (pg_name (i := 3) scAInit.nd rfl (.inl rfl)) (pgs_cons (pg_name (i := 4) scAInit.nd rfl (.inl rfl)) pgs_nil)))
        (pss_one (ps_if (PW.pt (pw_or (pt_not (pt_val (pe_callB call_isi (by rfl) T.isi (by decide +kernel) (pa_cons (pv 4) (pa_cons (pe_bltn (v := .ty "str") (u := .type "str") (by rfl) T.str (by decide +kernel) rfl) pa_nil)))))
          (pw_or1 (PW.pt (pw_and (pt_cmpR op_ne (pv 4) (pe_cval (pe_glob (v := .ref CF) (by rfl) Z.gF rfl)) (nomark _)) (pw_and1 (pt_cmp (pc_dnotin hu (pv 4) (pe_fld (pv 1) rfl))))))))) pss_never pss_nil)))
      (pss_cons (ps_fld (pv 0) (pv 1) rfl)
      (pss_one (ps_fld (pv 0) (pe_callTy call_list_of (by rfl) T.lst (by decide +kernel) (pa_cons (pv 2) pa_nil)) rfl)))), ?_⟩
    have big : 1000 ≤ sizeLine := by decide
    obtain ⟨dx, dq, hx, hd⟩ := fa
    refine ⟨_, rfl, by show 2 ≤ sizeLine; omega, fun tp ntp => ?_⟩
    have s1 := same_new (o := .tup [.ty "list", .ty "tuple"]) ntp
    refine ⟨.ref l, tp, [.ty "list", .ty "tuple"], _, [.type "list", .type "tuple"], true, rfl, upd_same, .cons (.ty _) (.cons (.ty _) .nil), .base (.lst (s1 _ _ hl)), kitAny_cons (b := true) (kit_ty (by decide +kernel)) (fun z => nomatch z) (fun _ => rfl), true, rfl, ?_⟩
    refine iteF ?_
    obtain ⟨H1, e1⟩ : ∃ X, X = upd H tp (.tup [.ty "list", .ty "tuple"]) := ⟨_, rfl⟩
    rw [← e1] at s1 ⊢
    have hl1 := s1 _ _ hl
    refine ⟨_, rfl, l, _, rfl, .inl (SqL.of hl1), _, _, rfl, rfl, _, rfl, ?_⟩
    have ll : (zs.map V.str).length = zs.length := List.length_map ..
    rw [if_pos (decide_eq_true (by omega))]
    refine ⟨CA, mcA, _, um, rfl, B.rd, cm, _, _, rfl, rfl, _, rfl, ?_⟩
    rw [decide_eq_true (show ((zs.map V.str).length : Int) ≤ 60 by omega)]
    refine iteF ?_
    refine ⟨_, rfl, l, _, rfl, SqL.of hl1, ?_⟩
    refine for_it walk_enum (fun j σ' H' => (∃ u3 u4, σ' = [some (.ref y), some (.ref x), some (.ref l), u3, u4]) ∧ Same H1 H') ⟨⟨_, _, rfl⟩, fun _ _ e => e⟩ (fun j σ' H' _ z => SqL.of (z.2 _ _ hl1)) ?_ ?_
    · intro j T' σ' Ha Hb hj ⟨⟨u3, u4, e⟩, sa⟩ ⟨Tp, i, z, eT, nT, eH, ey, ez⟩
      subst e
      subst eT
      subst eH
      cases ey
      obtain ⟨a, ha, rfl⟩ := map_of (show (zs.map V.str)[j]? = some z from ez)
      have ma := mem a (List.mem_of_getElem? ha)
      have sT := same_new (o := .tup [.int (j : Int), .str a]) nT
      have hx2 := sT _ _ (sa _ _ (s1 _ _ hx))
      have hd2 := sT _ _ (sa _ _ (s1 _ _ hd))
      refine ⟨Tp, _, rfl, .inl (.inl upd_same), rfl, ?_⟩
      refine ⟨_, _, rfl, _, _, rfl, rfl, ?_⟩
      refine ⟨_, rfl, .str a, _, _, _, true, rfl, .ty _, .base (.str a), kit_ty (by decide +kernel), true, rfl, ?_⟩
      refine iteF ?_
      refine ⟨_, rfl, CF, mc, _, ur, rfl, Z.rd, cr, rfl, _, rfl, ?_⟩
      by_cases e0 : a = ""
      · rw [decide_eq_true (show V.str a = V.str "" by rw [e0])]
        refine iteF ?_
        exact iteF ⟨⟨_, _, rfl⟩, sa.trans sT⟩
      · rw [decide_eq_false (show ¬ V.str a = V.str "" from fun z => e0 (V.str.inj z))]
        show if true = true then _ else _
        rw [if_pos rfl]
        obtain ⟨pa, hp⟩ := par_some o.nd (ma.resolve_left e0)
        refine ⟨_, rfl, _, rfl, x, CF, dx, _, .ref dq, rfl, hx2, O.cl, O.nA, rfl, dq, _, rfl, dget_prs (.inl hd2) hp, _, rfl, ?_⟩
        exact iteF ⟨⟨_, _, rfl⟩, sa.trans sT⟩
    · intro σ' H2 ⟨⟨u3, u4, e⟩, sa⟩
      subst e
      have s2 : Same H H2 := s1.trans sa
      have hy2 := s2 _ _ hy
      have hl2 := s2 _ _ hl
      have yl : l ≠ y := ne_of hl2 hy2 (by intro z; cases z)
      refine ⟨_, rfl, _, rfl, y, CA, dy, [], rfl, hy2, B.cl, B.nF, by show 0 < 1000; decide, ?_⟩
      refine ⟨_, rfl, l, _, rfl, .inl (SqL.of (by rw [upd_ne yl]; exact hl2)), fun p np => ?_⟩
      have yp : y ≠ p := ne_of_none upd_same np
      refine ⟨_, rfl, y, CA, dy, [("own_forest", .ref x)], rfl, by rw [upd_ne yp, upd_same] <;> rfl, B.cl, B.nP, by show 1 < 1000; decide, ?_⟩
      rw [put2a]
      refine k _ ⟨dy, p, upd_same, by rw [upd_ne yp.symm, upd_same]⟩ fun b o by_ e => ?_
      have np2 : H2 p = none := by
        rw [upd_ne yp.symm] at np
        exact np
      rw [upd_ne by_, upd_ne (ne_of_none (s2 _ _ e) np2), upd_ne by_]
      exact s2 _ _ e
theorem scAPlaces : FnScope ["self"] ["self"] (defScope s_Assignment_places) := ⟨rfl, rfl, rfl, by decide +kernel, rfl, by decide +kernel, by decide +kernel⟩
theorem ok_aplaces {f CA : Addr} {mcA : Value} {fd : FuncData} (F : Fun K "places" "Assignment.places" s_Assignment_places f fd) (T : Nm mg) (B : Ac K mg CA mcA) : FnOk P w K mg base CX0 1 f fd ["self"] (spAPlaces CA) := by
  refine F.ok scAPlaces (fun vs H Q E h => ?_) (fun cdv A outer s H vs Q E hr h => ?_)
  · obtain ⟨y, x, zs, rfl, _⟩ := h
    rfl
  · obtain ⟨y, x, zs, rfl, ⟨dy, p, hy, hp⟩, k⟩ := h
    refine ⟨_, pss_one (ps_ret (pe_callTy call_list_of (by rfl) T.lst (by decide +kernel) (pa_cons (pe_fld (pv 0) rfl) pa_nil))), ?_⟩
    exact ⟨_, rfl, y, CA, dy, _, .ref p, rfl, hy, B.cl, B.nP, rfl, p, _, rfl, .inl (SqL.of hp), fun q nq => k q nq⟩
end
end FT


/-! users move along edges, the order of the lists left open (plain maths) -/
namespace FT
open PySem L2 TL ClX
def MovedP (ts : List (Str × Str)) (c : Str → Int) (L L' : Str → List Int) : Prop := ∃ G : Str → Str → List Int, (∀ p, Pl ts p → ∀ o ∈ adj ts p, (G p o).length = lv ts c p o) ∧ ∀ p, Pl ts p → (L p ++ ins ts G p).Perm (L' p ++ outs ts G p)
theorem Moved.p {ts : List (Str × Str)} {c : Str → Int} {L L' : Str → List Int} (m : Moved ts c L L') : MovedP ts c L L' := by
  obtain ⟨G, g1, g2⟩ := m
  exact ⟨G, g1, fun p hp => by rw [g2 p hp]⟩
theorem movedP_lens {ts : List (Str × Str)} (o : TreeOk ts) {n : Int} {sz c : Str → Int} {L L' : Str → List Int} (m : MovedP ts c L L') (h : Lens ts n sz L) : Lens ts n (fun x => sz x + c x) L' := by
  obtain ⟨G, g1, g2⟩ := m
  intro p hp
  have e : ((L p ++ ins ts G p).length : Int) = ((L' p ++ outs ts G p).length : Int) := by rw [(g2 p hp).length_eq]
  rw [List.length_append, List.length_append, Int.natCast_add, Int.natCast_add, ins_len, outs_len, h p hp, List.map_congr_left (fun q hq => by rw [g1 q (adj_pl o hp hq) p (adj_sym o hp hq)]),
    List.map_congr_left (l := adj ts p) (f := fun o => ((G p o).length : Int)) (fun q hq => by rw [g1 p hp q hq])] at e
  have net := lv_net o c hp
  show _ = (if p = "" then n else sz p + c p) - ((kids ts p).map fun x => sz x + c x).sum
  unfold resid at e
  rw [sum_map_add]
  by_cases z : p = ""
  · rw [if_pos z] at e net ⊢
    omega
  · rw [if_neg z] at e net ⊢
    omega
theorem movedP_val {ts : List (Str × Str)} (o : TreeOk ts) {c : Str → Int} {n : Nat} {L L' : Str → List Int} (m : MovedP ts c L L') (h : Val ts n L) : Val ts n L' := by
  obtain ⟨G, g1, g2⟩ := m
  refine List.Perm.trans (List.perm_iff_count.mpr fun u => ?_) h
  have e : ((pls ts).map fun p => ((L p).count u : Int) + ((ins ts G p).count u : Int)).sum = ((pls ts).map fun p => ((L' p).count u : Int) + ((outs ts G p).count u : Int)).sum := by
    congr 1
    refine List.map_congr_left fun p hp => ?_
    have q := (g2 p (mem_pls.mp hp)).count_eq u
    rw [List.count_append, List.count_append] at q
    omega
  rw [sum_map_add, sum_map_add, ← count_flat u L, ← count_flat u L'] at e
  have ei : ((pls ts).map fun p => ((ins ts G p).count u : Int)).sum = (ts.map fun q => ((G q.2 q.1).count u : Int) + ((G q.1 q.2).count u : Int)).sum := by
    rw [← adj_sum o fun a b => ((G a b).count u : Int)]
    congr 1
    exact List.map_congr_left fun p _ => count_flat2 u (fun x => G x p) (adj ts p)
  have eo : ((pls ts).map fun p => ((outs ts G p).count u : Int)).sum = (ts.map fun q => ((G q.1 q.2).count u : Int) + ((G q.2 q.1).count u : Int)).sum := by
    rw [← adj_sum o fun a b => ((G b a).count u : Int)]
    congr 1
    exact List.map_congr_left fun p _ => count_flat2 u (fun x => G p x) (adj ts p)
  rw [ei, eo, List.map_congr_left (g := fun q : Str × Str => ((G q.1 q.2).count u : Int) + ((G q.2 q.1).count u : Int)) fun q _ => Int.add_comm _ _] at e
  omega
theorem movedP_rc {ts : List (Str × Str)} (o : TreeOk ts) {c : Str → Int} {L L' : Str → List Int} (m : MovedP ts c L L') {u : Int} {x : Str} (hx : Pl ts x) (hu : u ∈ L' x) : ∃ p, Pl ts p ∧ u ∈ L p ∧ Rc ts c p x := by
  obtain ⟨G, g1, g2⟩ := m
  have key : ∀ (n : Nat) (x : Str), lvl ts c x < n → Pl ts x → u ∈ L x ++ ins ts G x → ∃ p, Pl ts p ∧ u ∈ L p ∧ Rc ts c p x := by
    intro n
    induction n with
    | zero => exact fun x h => absurd h (Nat.not_lt_zero _)
    | succ n ih =>
      intro x hn hx hu
      rcases List.mem_append.mp hu with hu | hu
      · exact ⟨x, hx, hu, .refl⟩
      · obtain ⟨l, hl, hul⟩ := List.mem_flatten.mp hu
        obtain ⟨q, hq, rfl⟩ := List.mem_map.mp hl
        have hq := List.mem_reverse.mp hq
        have hq2 := adj_pl o hx hq
        have len := g1 q hq2 x (adj_sym o hx hq)
        have pos : 0 < lv ts c q x := by
          rw [← len]
          exact List.length_pos_of_mem hul
        have lt := lvl_up o pos
        have mo : u ∈ L q ++ ins ts G q := by
          rw [(g2 q hq2).mem_iff]
          refine List.mem_append_right _ (List.mem_flatten.mpr ⟨_, List.mem_map.mpr ⟨x, List.mem_reverse.mpr (adj_sym o hx hq), rfl⟩, hul⟩)
        obtain ⟨p, hp, up, rc⟩ := ih q (by omega) hq2 mo
        exact ⟨p, hp, up, .step rc pos⟩
  exact key _ x (Nat.lt_succ_self _) hx (by rw [(g2 x hx).mem_iff]; exact List.mem_append_left _ hu)
end FT


/-! Assignment: forest, total, sizes, users_of, at -/
namespace FT
open PySem L2 TL ClX LiI
/-- the numbers below n with a mark -/
def selU (n : Nat) (c : Nat → Bool) : List Int := ((List.range n).filter c).map fun i : Nat => (i : Int)
theorem selU_zero (c : Nat → Bool) : selU 0 c = [] := rfl
theorem selU_more (n : Nat) (c : Nat → Bool) : selU (n + 1) c = selU n c ++ if c n = true then [(n : Int)] else [] := by
  unfold selU
  rw [List.range_succ, List.filter_append, List.map_append]
  by_cases h : c n = true
  · rw [if_pos h, List.filter_cons, if_pos h] <;> rfl
  · rw [if_neg h, List.filter_cons, if_neg h] <;> rfl
theorem selU_len (n : Nat) (c : Nat → Bool) : (selU n c).length ≤ n := by
  unfold selU
  rw [List.length_map]
  have := List.length_filter_le c (List.range n)
  rw [List.length_range] at this
  exact this
theorem mem_selU {n : Nat} {c : Nat → Bool} {u : Int} : u ∈ selU n c ↔ ∃ i : Nat, u = i ∧ i < n ∧ c i = true := by
  unfold selU
  rw [List.mem_map]
  constructor
  · rintro ⟨i, hi, rfl⟩
    obtain ⟨h1, h2⟩ := List.mem_filter.mp hi
    exact ⟨i, rfl, List.mem_range.mp h1, h2⟩
  · rintro ⟨i, rfl, h1, h2⟩
    exact ⟨i, List.mem_filter.mpr ⟨List.mem_range.mpr h1, h2⟩, rfl⟩
def atC (zs : List Str) (p : Str) (i : Nat) : Bool := decide (zs[i]? = some p)
def hasC (ts : List (Str × Str)) (zs : List Str) (a : Str) (i : Nat) : Bool := match zs[i]? with
  | some z => decide (a ∈ pathOf ts z)
  | none => false
/-- the users at a place; those that have a flag; how many -/
def atU (zs : List Str) (p : Str) : List Int := selU zs.length (atC zs p)
def hasU (ts : List (Str × Str)) (zs : List Str) (a : Str) : List Int := selU zs.length (hasC ts zs a)
def szZ (ts : List (Str × Str)) (zs : List Str) (a : Str) : Int := ((zs.filter fun z => decide (a ∈ pathOf ts z)).length : Int)
theorem szZ_more {ts : List (Str × Str)} {zs : List Str} {z a : Str} {j : Nat} (h : zs[j]? = some z) : szZ ts (zs.take (j + 1)) a = szZ ts (zs.take j) a + if a ∈ pathOf ts z then 1 else 0 := by
  unfold szZ
  rw [take_more h, List.filter_append, List.length_append]
  by_cases m : a ∈ pathOf ts z
  · rw [if_pos m, List.filter_cons, if_pos (decide_eq_true m)] <;> rfl
  · rw [if_neg m, List.filter_cons, if_neg (by rw [decide_eq_false m]; decide)] <;> rfl
def spAForest (CA : Addr) : Sp := fun vs H Q _ => ∃ (y x : Addr) (zs : List Str), vs = [.ref y] ∧ AAt CA H y x zs ∧ Q (.ref x) H
def spATotal (CA : Addr) : Sp := fun vs H Q _ => ∃ (y x : Addr) (zs : List Str), vs = [.ref y] ∧ AAt CA H y x zs ∧ Q (.int (zs.length : Int)) H
def spSizesOf (CF : Addr) : Sp := fun vs H Q _ => ∃ (x l : Addr) (ts : List (Str × Str)) (zs : List Str), vs = [.ref x, .ref l] ∧ FAt CF H x ts ∧ TreeOk ts ∧ H l = some (.lst (zs.map V.str)) ∧ (∀ z ∈ zs, Pl ts z) ∧
  ∀ (p : Addr) (H' : Hp), Same H H' → H p = none → H' p = some (.dK (tblI (ts.map Prod.fst) (szZ ts zs))) → Q (.ref p) H'
def spASizes (CF CA : Addr) : Sp := fun vs H Q _ => ∃ (y x : Addr) (ts : List (Str × Str)) (zs : List Str), vs = [.ref y] ∧ AAt CA H y x zs ∧ FAt CF H x ts ∧ TreeOk ts ∧ (∀ z ∈ zs, Pl ts z) ∧
  ∀ (p : Addr) (H' : Hp), Same H H' → H p = none → H' p = some (.dK (tblI (ts.map Prod.fst) (szZ ts zs))) → Q (.ref p) H'
def spAAt (CF CA : Addr) : Sp := fun vs H Q _ => ∃ (y x : Addr) (ts : List (Str × Str)) (zs : List Str) (a : Str), vs = [.ref y, .str a] ∧ AAt CA H y x zs ∧ FAt CF H x ts ∧ TreeOk ts ∧ zs.length ≤ 1000 ∧ Pl ts a ∧
  ∀ (p : Addr) (H' : Hp), Same H H' → H p = none → H' p = some (.lst ((atU zs a).map V.int)) → Q (.ref p) H'
def spAUsers (CF CA : Addr) : Sp := fun vs H Q _ => ∃ (y x : Addr) (ts : List (Str × Str)) (zs : List Str) (a : Str), vs = [.ref y, .str a] ∧ AAt CA H y x zs ∧ FAt CF H x ts ∧ TreeOk ts ∧ (∀ z ∈ zs, Pl ts z) ∧ zs.length ≤ 1000 ∧ a ∈ ts.map Prod.fst ∧
  ∀ (p : Addr) (H' : Hp), Same H H' → H p = none → H' p = some (.lst ((hasU ts zs a).map V.int)) → Q (.ref p) H'
def spNeedFl (CF : Addr) : Sp := fun vs H Q _ => ∃ (x : Addr) (ts : List (Str × Str)) (a : Str), vs = [.ref x, .str a] ∧ FAt CF H x ts ∧ TreeOk ts ∧ a ∈ ts.map Prod.fst ∧ Q .non H
section
variable {P : Program} {w : World} {K : PySem.W.Frag} {mg : Str → Option Value} {base : Heap}
theorem scAFo : FnScope ["self"] ["self"] (defScope s_Assignment_forest) := ⟨rfl, rfl, rfl, by decide +kernel, rfl, by decide +kernel, by decide +kernel⟩
theorem ok_aforest {f CA : Addr} {mcA : Value} {fd : FuncData} (F : Fun K "forest" "Assignment.forest" s_Assignment_forest f fd) (B : Ac K mg CA mcA) : FnOk P w K mg base CX0 1 f fd ["self"] (spAForest CA) := by
  refine F.ok scAFo (fun vs H Q E h => ?_) (fun cdv A outer s H vs Q E hr h => ?_)
  · obtain ⟨y, x, zs, rfl, _⟩ := h
    rfl
  · obtain ⟨y, x, zs, rfl, ⟨dy, p, hy, hp⟩, k⟩ := h
    exact ⟨_, pss_one (ps_ret (pe_fld (pv 0) rfl)), _, rfl, y, CA, dy, _, .ref x, rfl, hy, B.cl, B.nF, rfl, k⟩
theorem scATo : FnScope ["self"] ["self"] (defScope s_Assignment_total) := ⟨rfl, rfl, rfl, by decide +kernel, rfl, by decide +kernel, by decide +kernel⟩
theorem ok_atotal {f CA : Addr} {mcA : Value} {fd : FuncData} (F : Fun K "total" "Assignment.total" s_Assignment_total f fd) (T : Nm mg) (B : Ac K mg CA mcA) : FnOk P w K mg base CX0 1 f fd ["self"] (spATotal CA) := by
  refine F.ok scATo (fun vs H Q E h => ?_) (fun cdv A outer s H vs Q E hr h => ?_)
  · obtain ⟨y, x, zs, rfl, _⟩ := h
    rfl
  · obtain ⟨y, x, zs, rfl, ⟨dy, p, hy, hp⟩, k⟩ := h
    refine ⟨_, pss_one (ps_ret (pe_callB call_len_seq (by rfl) T.len PySem.boot_len (pa_cons (pe_fld (pv 0) rfl) pa_nil))), ?_⟩
    refine ⟨_, rfl, y, CA, dy, _, .ref p, rfl, hy, B.cl, B.nP, rfl, p, _, rfl, .inl (SqL.of hp), ?_⟩
    rw [List.length_map]
    exact k
abbrev NSo : List Str := ["forest", "places", "name", "found", "place"]
theorem scSo : FnScope NSo ["forest", "places"] (defScope s_sizes_of) := ⟨rfl, rfl, rfl, by decide +kernel, rfl, by decide +kernel, by decide +kernel⟩
theorem ok_sizesOf {f fP CF p1 g1 : Addr} {fd fdP fd1 : FuncData} (F : Fun K "sizes_of" "sizes_of" s_sizes_of f fd) (T : Nm mg) (O : FoC K CF) (L1 : Pr1 P w K mg base CF "flags" (spFFlags CF) p1 g1 fd1) (DP : Dn P w K mg base CX0 1 "path_in" ["above", "place"] spPathIn fP fdP) : FnOk P w K mg base CX0 3 f fd ["forest", "places"] (spSizesOf CF) := by
  refine F.ok scSo (fun vs H Q E h => ?_) (fun cdv A outer s H vs Q E hr h => ?_)
  · obtain ⟨x, l, ts, zs, rfl, _⟩ := h
    rfl
  · obtain ⟨x, l, ts, zs, rfl, fa, o, hl, pl, k⟩ := h
    have hu := hu_of hr
    have nd := scSo.nd
    have hr1 : Room 1 _ := hr.mono (by decide)
    have hr2 : Room 2 _ := hr.mono (by decide)
    have big : 1000 ≤ sizeLine := by decide
    have few := o.few
    refine ⟨_, pss_cons (ps_set (i := 3) nd rfl (.inl rfl) (pe_callTy (call_dictP rfl) (by rfl) T.dct (by decide +kernel) (pa_cons (pe_lc (own := [("name", 2)]) (g := gName 2) (tt := tYes) rfl nd (pi_list (pe_prop (pv 0) O.cl L1.pr L1.fn hr2 L1.bn .nil pass0 (by rfl)))
          (blkOk_by (N := NSo) (sc := defScope s_sizes_of) (by decide +kernel)) (fun _ _ _ _ _ => pg_name (i := 2) nd rfl (Or.inl rfl)) (fun _ _ _ _ _ => pts_nil) (fun _ _ _ _ _ => pe_tup (pa_cons (pv 2) (pa_cons pe_int pa_nil)))) pa_nil)))
      (pss_cons (ps_for PassesOwn.never rfl (pi_list (pv 1)) (pg_name (i := 4) nd rfl (.inl rfl))
        (pss_one (ps_for PassesOwn.never rfl (pi_tup (pe_call DP.ok hr1 rfl DP.mgn DP.kp DP.bn .nil pass0 (pa_cons (pe_fld (pv 0) rfl) (pa_cons (pv 4) pa_nil)))) (pg_name (i := 2) nd rfl (.inl rfl))
          (pss_one (ps_dput hu (pv 3) (pv 2) (pe_op op_add (pe_dget hu (pv 3) (pv 2) (fun _ _ => rfl)) pe_int) rfl)))))
      (pss_one (ps_ret (pv 3)))), ?_⟩
    obtain ⟨dx, dq, hx, hd⟩ := id fa
    refine ⟨_, rfl, x, dx, _, rfl, hx, x, ts, rfl, fa, fun pf nf => ⟨pf, rfl, ⟨_, SqL.of upd_same⟩, fun D nD => ?_⟩⟩
    obtain ⟨H1, e1⟩ : ∃ X, X = upd H pf (.lst ((ts.map Prod.fst).map V.str)) := ⟨_, rfl⟩
    have s1 : Same H H1 := e1 ▸ same_new nf
    have a1 : H1 pf = some (.lst ((ts.map Prod.fst).map V.str)) := by rw [e1]; exact upd_same
    rw [← e1] at nD ⊢
    refine lc_it walk_list (fun i H' => Same H1 H' ∧ ∃ rs : List Addr, H' D = some (.lst (rs.map V.ref)) ∧ PrG (fun _ => .int 0) H' rs ((ts.map Prod.fst).take i)) ⟨same_new nD, [], upd_same, .nil⟩ (fun i H' _ z => SqL.of (z.1 _ _ a1)) ?_ ?_
    · intro i y Hz Ha hi ⟨z1, rs, hD, pr⟩ ⟨eb, ex⟩
      subst eb
      obtain ⟨a, ha, rfl⟩ := map_of ex
      have lr := pr.len
      rw [List.length_take, List.length_map] at lr
      refine ⟨rfl, ?_⟩
      refine ⟨_, rfl, by show 2 ≤ sizeLine; omega, fun tq ntq => ?_⟩
      have sq : Same Ha (upd Ha tq (.tup [.str a, .int 0])) := same_new ntq
      refine ⟨_, sq _ _ hD, by rw [List.length_map]; omega, (z1.trans sq).put nD, rs ++ [tq], by rw [upd_same, List.map_append] <;> rfl, ?_⟩
      rw [take_more ha]
      exact PrG.push (sq _ _ hD) (PrG.snoc upd_same (pr.mono sq))
    intro H2 ⟨z1, rs, hD, pr⟩
    rw [List.length_map, List.take_length] at pr
    refine ⟨D, rs, _, rfl, SqL.of hD, pr.kvs, fun pd npd => ?_⟩
    rw [merge_nd (by rw [map_fst]; exact o.nd)]
    have s02 : Same H H2 := s1.trans z1
    have np0 : H pd = none := s02.free npd
    obtain ⟨H3, e3⟩ : ∃ X, X = upd H2 pd (.dK (kvT ((ts.map Prod.fst).map fun a => (a, V.int 0)))) := ⟨_, rfl⟩
    have s03 : Same H H3 := e3 ▸ s02.trans (same_new npd)
    have hp3 : H3 pd = some (.dK (tblI (ts.map Prod.fst) (szZ ts []))) := by rw [e3, upd_same] <;> rfl
    rw [← e3]
    refine ⟨_, rfl, l, rfl, ⟨_, SqL.of (s03 _ _ hl)⟩, ?_⟩
    refine for_it walk_list (fun j σ' H' => (∃ u2 u4, σ' = [some (.ref x), some (.ref l), u2, some (.ref pd), u4]) ∧ Same H H' ∧ H' pd = some (.dK (tblI (ts.map Prod.fst) (szZ ts (zs.take j))))) ⟨⟨_, _, rfl⟩, s03, by rw [List.take_zero]; exact hp3⟩ (fun j σ' H' _ z => SqL.of (z.2.1 _ _ hl)) ?_ ?_
    · intro j y σ' Hz Ha hj ⟨⟨u2, u4, e⟩, sa, hpd⟩ ⟨eb, ex⟩
      subst e
      subst eb
      obtain ⟨z, hz, rfl⟩ := map_of ex
      have mz := pl z (List.mem_of_getElem? hz)
      refine ⟨_, rfl, x, CF, dx, _, .ref dq, rfl, sa _ _ hx, O.cl, O.nA, rfl, _, rfl, dq, ts, z, rfl, .inl (sa _ _ hd), o, mz, fun pt H4 s4 npt hpt => ?_⟩
      have pdt : pd ≠ pt := ne_of_none hpd npt
      have nt0 : H pt = none := sa.free npt
      refine ⟨pt, rfl, ⟨_, .inl (.inl hpt)⟩, ?_⟩
      have nodup := path_nd o mz
      refine for_it walk_tup (fun i σ' H' => (∃ u2, σ' = [some (.ref x), some (.ref l), u2, some (.ref pd), some (.str z)]) ∧ Same H H' ∧ H' pt = some (.tup ((pathOf ts z).map V.str)) ∧ H' pd = some (.dK (tblI (ts.map Prod.fst) fun a => szZ ts (zs.take j) a + if a ∈ (pathOf ts z).take i then 1 else 0)))
        ⟨⟨_, rfl⟩, sa.trans s4, hpt, by rw [s4 _ _ hpd]; congr 2⟩ (fun i σ' H' _ w => .inl (.inl w.2.2.1)) ?_ ?_
      · intro i y2 σ2 Hy Hb hi ⟨⟨u2', e⟩, sb, hpt', hpd'⟩ ⟨eb, ex⟩
        subst e
        subst eb
        obtain ⟨b, hb, rfl⟩ := map_of ex
        have mb := path_all o mz b (List.mem_of_getElem? hb)
        have nb := nat_fresh nodup hb
        have dg : DGet Hb pd (.str b) (some (.int (szZ ts (zs.take j) b + 0))) := by
          have w := DGet.k (k := Sum.inr b) hpd'
          rw [tblI_val mb, if_neg nb] at w
          exact w
        refine ⟨_, rfl, _, rfl, pd, _, rfl, dg, _, _, rfl, rfl, _, rfl, _, rfl, pd, _, rfl, DPut.k (k := Sum.inr b) hpd' (by rw [tblI_len, List.length_map]; omega), ?_⟩
        rw [tblI_put mb]
        refine ⟨⟨_, rfl⟩, sb.put np0, by rw [upd_ne pdt.symm]; exact hpt', ?_⟩
        rw [upd_same, take_more hb]
        congr 2
        refine tblI_congr fun a _ => ?_
        by_cases w : a = b
        · rw [if_pos w, w, if_pos (List.mem_append_right _ (List.mem_singleton_self _)), Int.add_zero]
        · rw [if_neg w]
          by_cases m : a ∈ (pathOf ts z).take i
          · rw [if_pos m, if_pos (List.mem_append_left _ m)]
          · rw [if_neg m, if_neg fun h => (List.mem_append.mp h).elim m fun h => w (List.mem_singleton.mp h)]
      · intro σ2 Hb ⟨⟨u2', e⟩, sb, hpt', hpd'⟩
        subst e
        rw [List.length_map, List.take_length] at hpd'
        refine ⟨⟨_, _, rfl⟩, sb, ?_⟩
        rw [hpd']
        congr 2
        exact tblI_congr fun a _ => (szZ_more hz).symm
    · intro σ' H4 ⟨⟨u2, u4, e⟩, sa, hpd⟩
      subst e
      rw [List.length_map, List.take_length] at hpd
      exact ⟨_, rfl, k pd H4 sa np0 hpd⟩
theorem scASz : FnScope ["self"] ["self"] (defScope s_Assignment_sizes) := ⟨rfl, rfl, rfl, by decide +kernel, rfl, by decide +kernel, by decide +kernel⟩
theorem ok_asizes {f fS CF CA : Addr} {mcA : Value} {fd fdS : FuncData} (F : Fun K "sizes" "Assignment.sizes" s_Assignment_sizes f fd) (B : Ac K mg CA mcA) (DS : Dn P w K mg base CX0 3 "sizes_of" ["forest", "places"] (spSizesOf CF) fS fdS) : FnOk P w K mg base CX0 4 f fd ["self"] (spASizes CF CA) := by
  refine F.ok scASz (fun vs H Q E h => ?_) (fun cdv A outer s H vs Q E hr h => ?_)
  · obtain ⟨y, x, ts, zs, rfl, _⟩ := h
    rfl
  · obtain ⟨y, x, ts, zs, rfl, ⟨dy, p, hy, hp⟩, fa, o, pl, k⟩ := h
    refine ⟨_, pss_one (ps_ret (pe_call DS.ok hr rfl DS.mgn DS.kp DS.bn .nil pass0 (pa_cons (pe_fld (pv 0) rfl) (pa_cons (pe_fld (pv 0) rfl) pa_nil)))), ?_⟩
    exact ⟨_, rfl, y, CA, dy, _, .ref x, rfl, hy, B.cl, B.nF, rfl, _, rfl, y, CA, dy, _, .ref p, rfl, hy, B.cl, B.nP, rfl, x, p, ts, zs, rfl, fa, o, hp, pl, k⟩
abbrev NAt : List Str := ["self", "place", "user", "other"]
theorem scAt : FnScope NAt ["self", "place"] (defScope s_Assignment_at) := ⟨rfl, rfl, rfl, by decide +kernel, rfl, by decide +kernel, by decide +kernel⟩
theorem ok_aat {f fN CF CA : Addr} {mcA : Value} {fd fdN : FuncData} (F : Fun K "at" "Assignment.at" s_Assignment_at f fd) (T : Nm mg) (B : Ac K mg CA mcA) (DN : Dn P w K mg base CX0 1 "need_place" ["forest", "place"] (spNeedPl CF) fN fdN) : FnOk P w K mg base CX0 2 f fd ["self", "place"] (spAAt CF CA) := by
  refine F.ok scAt (fun vs H Q E h => ?_) (fun cdv A outer s H vs Q E hr h => ?_)
  · obtain ⟨y, x, ts, zs, a, rfl, _⟩ := h
    rfl
  · obtain ⟨y, x, ts, zs, a, rfl, ⟨dy, p, hy, hp⟩, fa, o, few, pl, k⟩ := h
    have hu := hu_of hr
    have nd := scAt.nd
    have big : 1000 ≤ sizeLine := by decide
    refine ⟨_, pss_cons (ps_expr (pe_call DN.ok hr rfl DN.mgn DN.kp DN.bn .nil pass0 (pa_cons (pe_fld (pv 0) rfl) (pa_cons (pv 1) pa_nil))))
      (pss_one (ps_ret (pe_lc (own := [("user", 2), ("other", 3)]) (g := gTup K 2 (gCons (gName 2) (gCons (gName 3) gNil))) (tt := tTest (tOp rEq (tVar 3) (tVar 1))) (te := tVar 2) rfl nd (pi_enum rfl T.enu (pa_cons (pe_fld (pv 0) rfl) pa_nil))
        (blkOk_by (N := NAt) (sc := defScope s_Assignment_at) (by decide +kernel)) (fun _ _ _ _ _ => pg_tup rfl (pgs_cons (pg_name (i := 2) nd rfl (Or.inl rfl)) (pgs_cons (pg_name (i := 3) nd rfl (Or.inl rfl)) pgs_nil))) (fun _ _ _ _ _ => pts_one (pt_cmpR op_eq (pv 3) (pv 1) (nomark _))) (fun _ _ _ _ _ => pv 2)))), ?_⟩
    refine ⟨_, rfl, y, CA, dy, _, .ref x, rfl, hy, B.cl, B.nF, rfl, _, rfl, x, ts, a, rfl, fa, o, pl, ?_⟩
    refine ⟨_, rfl, y, CA, dy, _, .ref p, rfl, hy, B.cl, B.nP, rfl, p, _, rfl, SqL.of hp, fun D nD => ?_⟩
    refine lc_it walk_enum (fun j H' => Same H H' ∧ H' D = some (.lst ((selU j (atC zs a)).map V.int))) ⟨same_new nD, upd_same⟩ (fun j H' _ w => SqL.of (w.1 _ _ hp)) ?_ ?_
    · intro j TT Ha Hb hj ⟨q1, q2⟩ ⟨T', y1, z, eT, nT, eH, ey, ez⟩
      subst eT
      subst eH
      cases ey
      obtain ⟨b, hb, rfl⟩ := map_of (f := V.str) (l := zs) (show (zs.map V.str)[j]? = some z from ez)
      have sT : Same Ha (upd Ha T' (.tup [.int (j : Int), .str b])) := same_new nT
      have jl := (List.getElem?_eq_some_iff.mp hb).1
      have ls := selU_len j (atC zs a)
      refine ⟨T', [.int (j : Int), .str b], rfl, .inl (.inl upd_same), rfl, _, _, rfl, _, _, rfl, rfl, rfl, ?_⟩
      refine ⟨_, rfl, _, rfl, rfl, _, rfl, ?_⟩
      have more := selU_more j (atC zs a)
      have ec : atC zs a j = decide (b = a) := by
        unfold atC
        rw [hb]
        by_cases e : b = a
        · rw [decide_eq_true e, decide_eq_true (by rw [e])]
        · rw [decide_eq_false e, decide_eq_false fun z => e (Option.some.inj z)]
      by_cases e : b = a
      · rw [decide_eq_true (show V.str b = V.str a by rw [e])]
        show if true = true then _ else _
        rw [if_pos rfl]
        rw [ec, decide_eq_true e, if_pos rfl] at more
        refine ⟨_, rfl, _, sT _ _ q2, by rw [List.length_map]; omega, (q1.trans sT).put nD, by rw [upd_same, more, List.map_append] <;> rfl⟩
      · rw [decide_eq_false (show ¬ V.str b = V.str a from fun z => e (V.str.inj z))]
        rw [ec, decide_eq_false e, if_neg (by decide), List.append_nil] at more
        exact iteF ⟨q1.trans sT, by rw [more]; exact sT _ _ q2⟩
    · intro H1 ⟨q1, q2⟩
      rw [List.length_map] at q2
      exact k D H1 q1 nD q2
end
end FT


/-! Assignment.users_of, need_flag -/
namespace FT
open PySem L2 TL ClX LiI
section
variable {P : Program} {w : World} {K : PySem.W.Frag} {mg : Str → Option Value} {base : Heap}
abbrev NFl : List Str := ["forest", "name"]
theorem scNf : FnScope NFl ["forest", "name"] (defScope s_need_flag) := ⟨rfl, rfl, rfl, by decide +kernel, rfl, by decide +kernel, by decide +kernel⟩
theorem ok_needFl {f CF : Addr} {fd : FuncData} (F : Fun K "need_flag" "need_flag" s_need_flag f fd) (T : Nm mg) (O : FoC K CF) : FnOk P w K mg base CX0 1 f fd ["forest", "name"] (spNeedFl CF) := by
  refine F.ok scNf (fun vs H Q E h => ?_) (fun cdv A outer s H vs Q E hr h => ?_)
  · obtain ⟨x, ts, a, rfl, _⟩ := h
    rfl
  · obtain ⟨x, ts, a, rfl, fa, o, ma, k⟩ := h
    have hu := hu_of hr
    refine ⟨_, pss_one (ps_if (PW.pt (pw_or (pt_not (pt_val (pe_callB call_isi (by rfl) T.isi (by decide +kernel) (pa_cons (pv 1) (pa_cons (pe_bltn (v := .ty "str") (u := .type "str") (by rfl) T.str (by decide +kernel) rfl) pa_nil)))))
          (pw_or1 (pt_cmp (pc_dnotin hu (pv 1) (pe_fld (pv 0) rfl)))))) pss_never pss_nil), ?_⟩
    obtain ⟨dx, dq, hx, hd⟩ := id fa
    refine ⟨_, rfl, .str a, _, _, _, true, rfl, .ty _, .base (.str a), kit_ty (by decide +kernel), true, rfl, ?_⟩
    refine iteF ?_
    obtain ⟨pa, hp⟩ := par_some o.nd ma
    refine ⟨_, rfl, _, rfl, x, CF, dx, _, .ref dq, rfl, hx, O.cl, O.nA, rfl, dq, _, rfl, dget_prs (.inl hd) hp, _, rfl, ?_⟩
    exact iteF k
abbrev NUs : List Str := ["self", "name", "above", "user", "place"]
theorem scUs : FnScope NUs ["self", "name"] (defScope s_Assignment_users_of) := ⟨rfl, rfl, rfl, by decide +kernel, rfl, by decide +kernel, by decide +kernel⟩
theorem ok_ausers {f fN fP CF CA : Addr} {mcA : Value} {fd fdN fdP : FuncData} (F : Fun K "users_of" "Assignment.users_of" s_Assignment_users_of f fd) (T : Nm mg) (O : FoC K CF) (B : Ac K mg CA mcA) (DN : Dn P w K mg base CX0 1 "need_flag" ["forest", "name"] (spNeedFl CF) fN fdN) (DP : Dn P w K mg base CX0 1 "path_in" ["above", "place"] spPathIn fP fdP) : FnOk P w K mg base CX0 2 f fd ["self", "name"] (spAUsers CF CA) := by
  refine F.ok scUs (fun vs H Q E h => ?_) (fun cdv A outer s H vs Q E hr h => ?_)
  · obtain ⟨y, x, ts, zs, a, rfl, _⟩ := h
    rfl
  · obtain ⟨y, x, ts, zs, a, rfl, ⟨dy, p, hy, hp⟩, fa, o, pls, few, ma, k⟩ := h
    have hu := hu_of hr
    have nd := scUs.nd
    have big : 1000 ≤ sizeLine := by decide
    refine ⟨_, pss_cons (ps_expr (pe_call DN.ok hr rfl DN.mgn DN.kp DN.bn .nil pass0 (pa_cons (pe_fld (pv 0) rfl) (pa_cons (pv 1) pa_nil))))
      (pss_cons (ps_set (i := 2) nd rfl (.inr rfl) (pe_fld (pe_fld (pv 0) rfl) rfl))
      (pss_one (ps_ret (pe_lc (own := [("user", 3), ("place", 4)]) (g := gTup K 2 (gCons (gName 3) (gCons (gName 4) gNil))) (tt := tTest (tOp (rIn K false) (tVar 1) (tCall spPathIn [] E0 (tCons (tVar 2) (tCons (tVar 4) tNil))))) (te := tVar 3) rfl nd (pi_enum rfl T.enu (pa_cons (pe_fld (pv 0) rfl) pa_nil))
        (blkOk_by (N := NUs) (sc := defScope s_Assignment_users_of) (by decide +kernel)) (fun _ _ _ _ _ => pg_tup rfl (pgs_cons (pg_name (i := 3) nd rfl (Or.inl rfl)) (pgs_cons (pg_name (i := 4) nd rfl (Or.inl rfl)) pgs_nil)))
        (fun _ _ _ _ _ => pts_one (pt_cmpR op_in_seq (pv 1) (pe_call DP.ok hr rfl DP.mgn DP.kp DP.bn .nil pass0 (pa_cons (pv 2) (pa_cons (pv 4) pa_nil))) rfl)) (fun _ _ _ _ _ => pv 3))))), ?_⟩
    obtain ⟨dx, dq, hx, hd⟩ := id fa
    refine ⟨_, rfl, y, CA, dy, _, .ref x, rfl, hy, B.cl, B.nF, rfl, _, rfl, x, ts, a, rfl, fa, o, ma, ?_⟩
    refine ⟨_, rfl, y, CA, dy, _, .ref x, rfl, hy, B.cl, B.nF, rfl, x, CF, dx, _, .ref dq, rfl, hx, O.cl, O.nA, rfl, ?_⟩
    refine ⟨_, rfl, y, CA, dy, _, .ref p, rfl, hy, B.cl, B.nP, rfl, p, _, rfl, SqL.of hp, fun D nD => ?_⟩
    refine lc_it walk_enum (fun j H' => Same H H' ∧ H' D = some (.lst ((selU j (hasC ts zs a)).map V.int))) ⟨same_new nD, upd_same⟩ (fun j H' _ w => SqL.of (w.1 _ _ hp)) ?_ ?_
    · intro j TT Ha Hb hj ⟨q1, q2⟩ ⟨T', y1, z, eT, nT, eH, ey, ez⟩
      subst eT
      subst eH
      cases ey
      obtain ⟨b, hb, rfl⟩ := map_of (f := V.str) (l := zs) (show (zs.map V.str)[j]? = some z from ez)
      have sT : Same Ha (upd Ha T' (.tup [.int (j : Int), .str b])) := same_new nT
      have jl := (List.getElem?_eq_some_iff.mp hb).1
      have ls := selU_len j (hasC ts zs a)
      refine ⟨T', [.int (j : Int), .str b], rfl, .inl (.inl upd_same), rfl, _, _, rfl, _, _, rfl, rfl, rfl, ?_⟩
      refine ⟨_, rfl, _, rfl, _, rfl, dq, ts, b, rfl, .inl (sT _ _ (q1 _ _ hd)), o, pls b (List.mem_of_getElem? hb), fun pt H4 s4 npt hpt => ?_⟩
      refine ⟨pt, _, rfl, .inr (.inl (.inl hpt)), rfl, flat_strs _, _, rfl, ?_⟩
      rw [show (if false = true then !inV (V.str a) ((pathOf ts b).map V.str) else inV (V.str a) ((pathOf ts b).map V.str)) = decide (a ∈ pathOf ts b) from inV_strs a _]
      have more := selU_more j (hasC ts zs a)
      have ec : hasC ts zs a j = decide (a ∈ pathOf ts b) := by
        unfold hasC
        rw [hb]
      rw [ec] at more
      have q3 := s4 _ _ (sT _ _ q2)
      refine ite2 (fun yes => ?_) (fun no => ?_)
      · have yes : decide (a ∈ pathOf ts b) = true := yes
        rw [if_pos yes] at more
        refine ⟨_, rfl, _, q3, by rw [List.length_map]; omega, ((q1.trans sT).trans s4).put nD, by rw [upd_same, more, List.map_append] <;> rfl⟩
      · have no : ¬ decide (a ∈ pathOf ts b) = true := no
        rw [if_neg no, List.append_nil] at more
        exact ⟨(q1.trans sT).trans s4, by rw [more]; exact q3⟩
    · intro H1 ⟨q1, q2⟩
      rw [List.length_map] at q2
      exact k D H1 q1 nD q2
end
end FT


/-! users moved edge by edge (plain maths) -/
namespace FT
open PySem L2 TL ClX LiI
theorem crs_nd {ts : List (Str × Str)} (o : TreeOk ts) (c : Str → Int) : ((crs c ts).map fun e => (e.1, e.2.1)).Nodup := by
  unfold crs
  rw [List.map_flatMap]
  refine List.nodup_iff_pairwise_ne.mpr (List.pairwise_flatMap.mpr ⟨fun q _ => ?_, ?_⟩)
  · split
    · exact List.pairwise_singleton ..
    · split
      · exact List.pairwise_singleton ..
      · exact List.Pairwise.nil
  · have nd := o.nd
    refine (List.pairwise_map.mp (List.nodup_iff_pairwise_ne.mp nd)).imp_of_mem fun {q r} hq hr ne x hx y hy e => ?_
    have hp := par_of o.nd (show (q.1, q.2) ∈ ts from hq)
    have hs := par_of o.nd (show (r.1, r.2) ∈ ts from hr)
    have one : ∀ {q : Str × Str} {x : Str × Str}, x ∈ ((if 0 < c q.1 then [(q.2, q.1, c q.1)] else if c q.1 < 0 then [(q.1, q.2, - c q.1)] else []).map fun e => (e.1, e.2.1)) → x = (q.2, q.1) ∨ x = (q.1, q.2) := by
      intro q x hx
      split at hx
      · exact .inl (List.mem_singleton.mp hx)
      · split at hx
        · exact .inr (List.mem_singleton.mp hx)
        · cases hx
    subst e
    rcases one hx with e1 | e1 <;> rcases one hy with e2 | e2 <;> rw [e1] at e2
    · exact ne (Prod.mk.inj e2).2
    · obtain ⟨z1, z2⟩ := Prod.mk.inj e2
      exact par_once o hp (by rw [z2, z1]; exact hs)
    · obtain ⟨z1, z2⟩ := Prod.mk.inj e2
      exact par_once o hp (by rw [z1, z2]; exact hs)
    · exact ne (Prod.mk.inj e2).1
/-- the last ones, the rest -/
def lastN (a : Int) (l : List Int) : List Int := l.drop (l.length - a.toNat)
def butN (a : Int) (l : List Int) : List Int := l.take (l.length - a.toNat)
theorem but_last (a : Int) (l : List Int) : butN a l ++ lastN a l = l := List.take_append_drop ..
theorem lastN_len {a : Int} {l : List Int} (h : a ≤ l.length) : (lastN a l).length = a.toNat := by
  unfold lastN
  rw [List.length_drop]
  omega
def mvE (L : Str → List Int) (e : Str × Str × Int) : Str → List Int := fun p => if p = e.1 then butN e.2.2 (L e.1) else if p = e.2.1 then L e.2.1 ++ lastN e.2.2 (L e.1) else L p
def mvP (es : List (Str × Str × Int)) (L : Str → List Int) (p : Str) : Str → List Int := (es.filter fun e => decide (e.1 = p)).foldl mvE L
def mvA (es : List (Str × Str × Int)) (L : Str → List Int) (ds : List Str) : Str → List Int := ds.foldl (mvP es) L
structure Adv (φ : List Int → Int) : Prop where
  nil : φ [] = 0
  app : ∀ a b, φ (a ++ b) = φ a + φ b
theorem adv_len : Adv fun l => (l.length : Int) := ⟨rfl, fun a b => by
  show ((a ++ b).length : Int) = _
  rw [List.length_append]
  exact Int.natCast_add ..⟩
theorem adv_count (u : Int) : Adv fun l => (l.count u : Int) := ⟨by simp, fun a b => by
  show ((a ++ b).count u : Int) = _
  rw [List.count_append]
  exact Int.natCast_add ..⟩
def Bal (ts : List (Str × Str)) (L0 L : Str → List Int) (G : Str → Str → List Int) : Prop := ∀ p, Pl ts p → ∀ φ, Adv φ → φ (L0 p) + ((adj ts p).map fun x => φ (G x p)).sum = φ (L p) + ((adj ts p).map fun x => φ (G p x)).sum
theorem sum_upd {f f' : Str → Int} {g : Str} {d : Int} {l : List Str} (nd : l.Nodup) (hg : g ∈ l) (h : ∀ x ∈ l, f' x = f x + if x = g then d else 0) : (l.map f').sum = (l.map f).sum + d := by
  rw [List.map_congr_left h, sum_map_add, sum_one (f := fun _ => d) nd, if_pos hg]
theorem adj_self {ts : List (Str × Str)} (o : TreeOk ts) {p : Str} (h : Pl ts p) : p ∉ adj ts p := fun m => ((mem_adj o h).mp m).elim (fun e => par_once o e e) fun e => par_once o e e
theorem bal_step {ts : List (Str × Str)} (o : TreeOk ts) {L0 L : Str → List Int} {G : Str → Str → List Int} (b : Bal ts L0 L G) {p g : Str} {a : Int} (hp : Pl ts p) (hg : g ∈ adj ts p) (e0 : G p g = []) :
    Bal ts L0 (mvE L (p, g, a)) (fun x y => if x = p ∧ y = g then lastN a (L p) else G x y) := by
  have pg : g ≠ p := fun z => adj_self o hp (z ▸ hg)
  intro r hr φ ad
  have base := b r hr φ ad
  have ll : φ (butN a (L p)) + φ (lastN a (L p)) = φ (L p) := by rw [← ad.app, but_last]
  by_cases r1 : r = p
  · subst r1
    have e1 : ((adj ts r).map fun x => φ (if x = r ∧ r = g then lastN a (L r) else G x r)).sum = ((adj ts r).map fun x => φ (G x r)).sum := by
      congr 1
      exact List.map_congr_left fun x _ => by rw [if_neg fun z => pg z.2.symm]
    have e2 : ((adj ts r).map fun x => φ (if r = r ∧ x = g then lastN a (L r) else G r x)).sum = ((adj ts r).map fun x => φ (G r x)).sum + φ (lastN a (L r)) := sum_upd (adj_nd o hr) hg fun x _ => by
      by_cases w : x = g
      · rw [if_pos ⟨rfl, w⟩, if_pos w, w, e0, ad.nil]
        omega
      · rw [if_neg fun z => w z.2, if_neg w]
        omega
    rw [e1, e2]
    show _ = φ (if r = r then butN a (L r) else _) + _
    rw [if_pos rfl]
    omega
  · have eL : mvE L (p, g, a) r = if r = g then L g ++ lastN a (L p) else L r := if_neg r1
    have e2 : ((adj ts r).map fun x => φ (if r = p ∧ x = g then lastN a (L p) else G r x)).sum = ((adj ts r).map fun x => φ (G r x)).sum := by
      congr 1
      exact List.map_congr_left fun x _ => by rw [if_neg fun z => r1 z.1]
    rw [e2, eL]
    by_cases r2 : r = g
    · subst r2
      have e1 : ((adj ts r).map fun x => φ (if x = p ∧ r = r then lastN a (L p) else G x r)).sum = ((adj ts r).map fun x => φ (G x r)).sum + φ (lastN a (L p)) := sum_upd (adj_nd o hr) (adj_sym o hp hg) fun x _ => by
        by_cases w : x = p
        · rw [if_pos ⟨w, rfl⟩, if_pos w, w, e0, ad.nil]
          omega
        · rw [if_neg fun z => w z.1, if_neg w]
          omega
      rw [e1, if_pos rfl, ad.app]
      omega
    · have e1 : ((adj ts r).map fun x => φ (if x = p ∧ r = g then lastN a (L p) else G x r)).sum = ((adj ts r).map fun x => φ (G x r)).sum := by
        congr 1
        exact List.map_congr_left fun x _ => by rw [if_neg fun z => r2 z.2]
      rw [e1, if_neg r2]
      exact base
/-- after some places: groups out of them are whole, out of others none -/
structure Gone (ts : List (Str × Str)) (c : Str → Int) (L0 L : Str → List Int) (D : List Str) : Prop where
  ex : ∃ G : Str → Str → List Int, Bal ts L0 L G ∧ (∀ p x, p ∉ D → G p x = []) ∧ ∀ p ∈ D, ∀ x ∈ adj ts p, (G p x).length = lv ts c p x
theorem gone_step {ts : List (Str × Str)} (o : TreeOk ts) {c : Str → Int} {n : Int} {sz : Str → Int} {L0 L : Str → List Int} {D : List Str} {p : Str} (w : Gone ts c L0 L D) (hp : Pl ts p) (np : p ∉ D) (src : ∀ q, 0 < lv ts c q p → q ∈ D) (le : Lens ts n sz L0) (re : 0 ≤ resid ts n (fun a => sz a + c a) p) :
    Gone ts c L0 (mvP (crs c ts) L p) (D ++ [p]) := by
  obtain ⟨G, b, g0, g1⟩ := w.ex
  have nd := crs_nd o c
  -- edge by edge
  have key : ∀ (es pre : List (Str × Str × Int)), crs c ts = pre ++ es → ∀ (L : Str → List Int) (G : Str → Str → List Int), Bal ts L0 L G → (∀ r x, r ∉ D → r ≠ p → G r x = []) → (∀ r ∈ D, ∀ x ∈ adj ts r, (G r x).length = lv ts c r x) →
      (∀ x ∈ adj ts p, (G p x).length = if (p, x, (lv ts c p x : Int)) ∈ pre then lv ts c p x else 0) →
      ∃ G', Bal ts L0 ((es.filter fun e => decide (e.1 = p)).foldl mvE L) G' ∧ (∀ r x, r ∉ D → r ≠ p → G' r x = []) ∧ (∀ r ∈ D, ∀ x ∈ adj ts r, (G' r x).length = lv ts c r x) ∧ ∀ x ∈ adj ts p, (G' p x).length = if (p, x, (lv ts c p x : Int)) ∈ pre ++ es then lv ts c p x else 0 := by
    intro es
    induction es with
    | nil =>
      intro pre _ L G b h0 h1 h2
      exact ⟨G, b, h0, h1, fun x hx => by rw [List.append_nil]; exact h2 x hx⟩
    | cons e es ih =>
      intro pre epre L G b h0 h1 h2
      have epre2 : crs c ts = (pre ++ [e]) ++ es := by rw [epre, List.append_assoc] <;> rfl
      by_cases ep : e.1 = p
      · obtain ⟨s, g, a⟩ := e
        have ep : s = p := ep
        subst ep
        have me : (s, g, a) ∈ crs c ts := by rw [epre]; exact List.mem_append_right _ (List.mem_cons_self ..)
        obtain ⟨ea, pos⟩ := crs_lv o me
        have hg : g ∈ adj ts s := by
          obtain ⟨_, _, _, ⟨z, _⟩ | ⟨z, _⟩⟩ := lv_adj o pos
          · exact (mem_adj o hp).mpr (.inr z)
          · exact (mem_adj o hp).mpr (.inl z)
        have npre : (s, g, (lv ts c s g : Int)) ∉ pre := fun m => by
          rw [epre, List.map_append, List.map_cons] at nd
          obtain ⟨_, _, dj⟩ := List.nodup_append.mp nd
          exact dj (s, g) (List.mem_map.mpr ⟨_, m, rfl⟩) (s, g) (List.mem_cons_self ..) rfl
        have z0 : G s g = [] := List.length_eq_zero_iff.mp (by rw [h2 g hg, if_neg npre])
        -- enough users
        have bl := b s hp _ adv_len
        have el := le s hp
        have net := lv_net o c hp
        have eins : ((adj ts s).map fun x => ((G x s).length : Int)).sum = ((adj ts s).map fun x => (lv ts c x s : Int)).sum := by
          congr 1
          refine List.map_congr_left fun x hx => ?_
          by_cases pos2 : 0 < lv ts c x s
          · rw [h1 x (src x pos2) s (adj_sym o hp hx)]
          · have z : lv ts c x s = 0 := by omega
            have xs : x ≠ s := fun w => adj_self o hp (w ▸ hx)
            by_cases xd : x ∈ D
            · rw [h1 x xd s (adj_sym o hp hx)]
            · rw [h0 x s xd xs, z] <;> rfl
        have eouts : ((adj ts s).map fun x => ((G s x).length : Int)).sum + a ≤ ((adj ts s).map fun x => (lv ts c s x : Int)).sum := by
          have e1 := sum_upd (f := fun x => ((G s x).length : Int)) (f' := fun x => ((G s x).length : Int) + if x = g then a else 0) (adj_nd o hp) hg fun x _ => rfl
          rw [← e1]
          have le_sum : ∀ l : List Str, (∀ x ∈ l, ((G s x).length : Int) + (if x = g then a else 0) ≤ (lv ts c s x : Int)) → (l.map fun x => ((G s x).length : Int) + if x = g then a else 0).sum ≤ (l.map fun x => (lv ts c s x : Int)).sum := by
            intro l
            induction l with
            | nil => exact fun _ => Int.le_refl _
            | cons y l ihl =>
              intro h
              rw [List.map_cons, List.map_cons, List.sum_cons, List.sum_cons]
              have q1 := h y (List.mem_cons_self ..)
              have q2 := ihl fun x hx => h x (List.mem_cons_of_mem _ hx)
              omega
          refine le_sum _ fun x hx => ?_
          by_cases w : x = g
          · rw [if_pos w, w, z0, ← ea]
            show ((0 : Nat) : Int) + a ≤ a
            omega
          · rw [if_neg w, h2 x hx]
            split <;> omega
        have enough : a ≤ (L s).length := by
          unfold resid at el
          have re : 0 ≤ (if s = "" then n else sz s + c s) - ((kids ts s).map fun x => sz x + c x).sum := re
          have e1 : ((kids ts s).map fun x => sz x + c x).sum = ((kids ts s).map sz).sum + ((kids ts s).map c).sum := sum_map_add _ _ _
          rw [e1] at re
          have bl : ((L0 s).length : Int) + ((adj ts s).map fun x => ((G x s).length : Int)).sum = ((L s).length : Int) + ((adj ts s).map fun x => ((G s x).length : Int)).sum := bl
          rw [eins] at bl
          by_cases z : s = ""
          · rw [if_pos z] at re el net
            omega
          · rw [if_neg z] at re el net
            omega
        have r := ih (pre ++ [(s, g, a)]) epre2 _ _ (bal_step o (a := a) b hp hg z0) (fun r x hr rp => by rw [if_neg fun z => rp z.1]; exact h0 r x hr rp)
          (fun r hr x hx => by rw [if_neg (fun (z : r = s ∧ x = g) => np (z.1 ▸ hr))]; exact h1 r hr x hx) fun x hx => by
            by_cases w : x = g
            · rw [if_pos ⟨rfl, w⟩, lastN_len enough, w, if_pos (by rw [← ea]; exact List.mem_append_right _ (List.mem_singleton_self _))]
              omega
            · rw [if_neg fun z => w z.2, h2 x hx]
              by_cases m : (s, x, (lv ts c s x : Int)) ∈ pre
              · rw [if_pos m, if_pos (List.mem_append_left _ m)]
              · rw [if_neg m, if_neg fun h => (List.mem_append.mp h).elim m fun h => w (Prod.mk.inj (Prod.mk.inj (List.mem_singleton.mp h)).2).1]
        rw [List.filter_cons, if_pos (decide_eq_true rfl), List.foldl_cons, show pre ++ (s, g, a) :: es = (pre ++ [(s, g, a)]) ++ es by rw [List.append_assoc] <;> rfl]
        exact r
      · have r := ih (pre ++ [e]) epre2 L G b h0 h1 fun x hx => by
          rw [h2 x hx]
          by_cases m : (p, x, (lv ts c p x : Int)) ∈ pre
          · rw [if_pos m, if_pos (List.mem_append_left _ m)]
          · rw [if_neg m, if_neg fun h => (List.mem_append.mp h).elim m fun h => ep (by rw [← List.mem_singleton.mp h])]
        rw [List.filter_cons, if_neg (by rw [decide_eq_false ep]; decide), show pre ++ e :: es = (pre ++ [e]) ++ es by rw [List.append_assoc] <;> rfl]
        exact r
  obtain ⟨G', q1, q2, q3, q4⟩ := key (crs c ts) [] rfl L G b (fun r x hr _ => g0 r x hr) g1 fun x _ => by rw [g0 p x np, if_neg (by simp)] <;> rfl
  refine ⟨G', q1, fun r x hr => q2 r x (fun m => hr (List.mem_append_left _ m)) fun z => hr (List.mem_append_right _ (by rw [z]; exact List.mem_singleton_self _)), fun r hr x hx => ?_⟩
  rcases List.mem_append.mp hr with m | m
  · exact q3 r m x hx
  · have m := List.mem_singleton.mp m
    subst m
    rw [q4 x hx, List.nil_append]
    by_cases pos : 0 < lv ts c r x
    · rw [if_pos (lv_crs o pos)]
    · split <;> omega
theorem best_moved {ts : List (Str × Str)} (o : TreeOk ts) {c : Str → Int} {n : Int} {sz : Str → Int} {L0 : Str → List Int} {ds : List Str} (pd : ds.Perm (pls ts)) (tp : Topo ts c ds) (le : Lens ts n sz L0) (re : ∀ p, Pl ts p → 0 ≤ resid ts n (fun a => sz a + c a) p) : MovedP ts c L0 (mvA (crs c ts) L0 ds) := by
  have ndd : ds.Nodup := pd.nodup_iff.mpr (pls_nd o)
  have key : ∀ j, j ≤ ds.length → Gone ts c L0 (mvA (crs c ts) L0 (ds.take j)) (ds.take j) := by
    intro j
    induction j with
    | zero =>
      intro _
      refine ⟨fun _ _ => [], fun p hp φ ad => ?_, fun p x _ => rfl, fun p hp => by simp at hp⟩
      rw [List.take_zero]
      rfl
    | succ j ih =>
      intro hj
      have e : ds[j]? = some ds[j] := List.getElem?_eq_getElem (by omega)
      rw [take_more e]
      unfold mvA
      rw [List.foldl_append]
      exact gone_step o (ih (by omega)) (mem_pls.mp (pd.mem_iff.mp (List.getElem_mem _))) (nat_fresh ndd e) (tp j _ e) le (re _ (mem_pls.mp (pd.mem_iff.mp (List.getElem_mem _))))
  have fin := key ds.length (Nat.le_refl _)
  rw [List.take_length] at fin
  obtain ⟨G, b, _, g1⟩ := fin.ex
  refine ⟨G, fun p hp x hx => g1 p (pd.mem_iff.mpr (mem_pls.mpr hp)) x hx, fun p hp => List.perm_iff_count.mpr fun u => ?_⟩
  have z := b p hp _ (adv_count u)
  have e1 : ((ins ts G p).count u : Int) = ((adj ts p).map fun x => ((G x p).count u : Int)).sum := count_flat2 u (fun x => G x p) (adj ts p)
  have e2 : ((outs ts G p).count u : Int) = ((adj ts p).map fun x => ((G p x).count u : Int)).sum := count_flat2 u (fun x => G p x) (adj ts p)
  rw [List.count_append, List.count_append]
  have z : ((L0 p).count u : Int) + ((adj ts p).map fun x => ((G x p).count u : Int)).sum = ((mvA (crs c ts) L0 ds p).count u : Int) + ((adj ts p).map fun x => ((G p x).count u : Int)).sum := z
  omega
end FT


/-! best -/
namespace FT
open PySem L2 TL ClX LiI
theorem cut_last {xs : List Int} {a : Int} (pos : 0 < a) : cutV (xs.map V.int) (some (-a)) none = (lastN a xs).map V.int := by
  have e : HT.sIx (xs.map V.int).length 0 (some (-a)) = xs.length - a.toNat := by
    show (if -a < 0 then (-a + ((xs.map V.int).length : Int)).toNat else _) = _
    rw [if_pos (by omega), List.length_map]
    omega
  unfold cutV
  rw [e]
  show ((xs.map V.int).drop (xs.length - a.toNat)).take ((xs.map V.int).length - (xs.length - a.toNat)) = _
  rw [← List.map_drop, List.take_of_length_le (by rw [List.length_map, List.length_drop, List.length_map]; omega)] <;> rfl
theorem cut_but {xs : List Int} {a : Int} (pos : 0 < a) : cutV (xs.map V.int) none (some (-a)) = (butN a xs).map V.int := by
  have e : HT.sIx (xs.map V.int).length (xs.map V.int).length (some (-a)) = xs.length - a.toNat := by
    show (if -a < 0 then (-a + ((xs.map V.int).length : Int)).toNat else _) = _
    rw [if_pos (by omega), List.length_map]
    omega
  unfold cutV
  rw [e]
  show ((xs.map V.int).drop 0).take (xs.length - a.toNat - 0) = _
  rw [List.drop_zero, Nat.sub_zero, ← List.map_take] <;> rfl
theorem EdG.imp {H H' : Hp} (m : ∀ r xs, H r = some (.tup xs) → H' r = some (.tup xs)) : ∀ {rs : List Addr} {es : List (Str × Str × Int)}, EdG H rs es → EdG H' rs es
  | _, _, .nil => .nil
  | _, _, .cons h t => .cons (m _ _ h) (EdG.imp m t)
theorem lsAt_put {H : Hp} {q p : Addr} {l : List Str} {r : Str → Addr} {L : Str → List Int} {X : List Int} {g : Str} (h : LsAt H q l r L) (mg : g ∈ l) (e : H p = some (.lst (X.map V.int))) :
    LsAt (upd H q (.dK (putK (tblV l fun a => .ref (r a)) (Sum.inr g) (.ref p)))) q l (fun a => if a = g then p else r a) (fun a => if a = g then X else L a) := by
  refine ⟨by
    rw [upd_same, tblV_put mg]
    congr 2
    exact tblV_congr fun a _ => by
      show (if a = g then V.ref p else V.ref (r a)) = V.ref (if a = g then p else r a)
      by_cases w : a = g
      · rw [if_pos w, if_pos w]
      · rw [if_neg w, if_neg w], fun a ha => ?_⟩
  show (upd H q _) (if a = g then p else r a) = some (.lst ((if a = g then X else L a).map V.int))
  by_cases w : a = g
  · rw [if_pos w, if_pos w, upd_ne (ne_of e h.1 (by intro z; cases z))]
    exact e
  · rw [if_neg w, if_neg w, upd_ne (ne_of (h.2 a ha) h.1 (by intro z; cases z))]
    exact h.2 a ha
theorem nat_le {l : List Str} {f : Str → List Int} {b : Str} (h : b ∈ l) : ((f b).length : Int) ≤ (l.map fun p => ((f p).length : Int)).sum := by
  induction l with
  | nil => cases h
  | cons a l ih =>
    have nl : 0 ≤ (l.map fun p => ((f p).length : Int)).sum := by
      generalize l = m
      induction m with
      | nil => exact Int.le_refl _
      | cons c m ih2 =>
        rw [List.map_cons, List.sum_cons]
        omega
    rw [List.map_cons, List.sum_cons]
    rcases List.mem_cons.mp h with rfl | h
    · omega
    · have := ih h
      omega
theorem mvE_sum {l : List Str} (nd : l.Nodup) {L : Str → List Int} {e : Str × Str × Int} (h1 : e.1 ∈ l) (h2 : e.2.1 ∈ l) (ne : e.1 ≠ e.2.1) : (l.map fun p => ((mvE L e p).length : Int)).sum = (l.map fun p => ((L p).length : Int)).sum := by
  have bl := congrArg List.length (but_last e.2.2 (L e.1))
  rw [List.length_append] at bl
  obtain ⟨k, ek⟩ : ∃ k : Int, k = ((lastN e.2.2 (L e.1)).length : Int) := ⟨_, rfl⟩
  have s1 := sum_upd (f := fun p => ((L p).length : Int)) (f' := fun p => ((L p).length : Int) + if p = e.2.1 then k else 0) nd h2 fun _ _ => rfl
  have s2 := sum_upd (f := fun p => ((L p).length : Int) + if p = e.2.1 then k else 0) (f' := fun p => ((mvE L e p).length : Int)) (d := -k) nd h1 fun x _ => by
    show ((mvE L e x).length : Int) = ((L x).length : Int) + (if x = e.2.1 then k else 0) + if x = e.1 then -k else 0
    unfold mvE
    by_cases w : x = e.1
    · rw [if_pos w, if_pos w, w, if_neg ne]
      omega
    · rw [if_neg w, if_neg w]
      by_cases v : x = e.2.1
      · rw [if_pos v, if_pos v, v, List.length_append]
        omega
      · rw [if_neg v, if_neg v]
        omega
  rw [s2, s1]
  omega
theorem rep_strs2 (n : Nat) (a : Str) : (List.replicate n [V.str a]).flatten = (List.replicate n a).map V.str := by
  rw [List.map_replicate]
  induction n with
  | zero => rfl
  | succ n ih => rw [List.replicate_succ, List.flatten_cons, ih, List.replicate_succ] <;> rfl
/-- a change of places by moves along edges -/
def BestOf (ts : List (Str × Str)) (c : Str → Int) (zs zs' : List Str) : Prop := ∃ L' : Str → List Int, MovedP ts c (atU zs) L' ∧ Val ts zs.length L' ∧ zs' = (usr zs.length).map (plOf ts L')
def spBest (K : PySem.W.Frag) (CF CA CS : Addr) : Sp := fun vs H Q E => ∃ (y x : Addr) (sv : V) (ts : List (Str × Str)) (zs : List Str) (so : Option (List (Key × V))), vs = [.ref y, sv] ∧ AAt CA H y x zs ∧ FAt CF H x ts ∧ TreeOk ts ∧ (∀ z ∈ zs, Pl ts z) ∧ 1 ≤ zs.length ∧ zs.length ≤ 60 ∧ SzV K H sv so ∧
  match feE CS ts (zs.length : Int) so with
  | none => ∀ (y' : Addr) (H' : Hp) (zs' : List Str), Same H H' → H y' = none → AAt CA H' y' x zs' → BestOf ts (fun a => szOf (kvsOf so) a - szZ ts zs a) zs zs' → Q (.ref y') H'
  | some e => Out H E e
theorem atU_val {ts : List (Str × Str)} (o : TreeOk ts) {zs : List Str} (pl : ∀ z ∈ zs, Pl ts z) : Val ts zs.length (atU zs) := by
  unfold Val
  have nd : ((pls ts).flatMap (atU zs)).Nodup := by
    refine List.nodup_iff_pairwise_ne.mpr (List.pairwise_flatMap.mpr ⟨fun p _ => ?_, ?_⟩)
    · unfold atU selU
      refine List.pairwise_map.mpr (((List.nodup_iff_pairwise_ne.mp List.nodup_range).filter _).imp fun h e => h ?_)
      omega
    · refine (List.nodup_iff_pairwise_ne.mp (pls_nd o)).imp fun {p q} ne u hu v hv e => ?_
      obtain ⟨i, e1, i1, i2⟩ := mem_selU.mp hu
      obtain ⟨j, e2, j1, j2⟩ := mem_selU.mp hv
      have ij : i = j := by omega
      subst ij
      exact ne (Option.some.inj ((of_decide_eq_true i2).symm.trans (of_decide_eq_true j2)))
  refine (List.perm_ext_iff_of_nodup nd (usr_nd _)).mpr fun u => ?_
  rw [List.mem_flatMap, mem_usr]
  constructor
  · rintro ⟨p, hp, hu⟩
    obtain ⟨i, rfl, i1, _⟩ := mem_selU.mp hu
    omega
  · rintro ⟨h0, h1⟩
    have lt : u.toNat < zs.length := by omega
    refine ⟨zs[u.toNat], mem_pls.mpr (pl _ (List.getElem_mem lt)), mem_selU.mpr ⟨u.toNat, by omega, lt, ?_⟩⟩
    exact decide_eq_true (List.getElem?_eq_getElem lt)
/-- lists by place as counts of users with a flag -/
theorem atU_lsz {ts : List (Str × Str)} (o : TreeOk ts) {zs : List Str} (pl : ∀ z ∈ zs, Pl ts z) {a : Str} (ha : a ∈ ts.map Prod.fst) : lsz ts (atU zs) a = szZ ts zs a := by
  rw [lsz_inP]
  have key : ∀ j, j ≤ zs.length → ((ts.map Prod.fst).map fun b => inP ts a b * ((selU j (atC zs b)).length : Int)).sum = szZ ts (zs.take j) a := by
    intro j
    induction j with
    | zero =>
      intro _
      rw [List.take_zero, sum_map_zero fun b _ => by rw [selU_zero]; exact Int.mul_zero _] <;> rfl
    | succ j ih =>
      intro hj
      have e : zs[j]? = some zs[j] := List.getElem?_eq_getElem (by omega)
      obtain ⟨z, ez⟩ : ∃ z, z = zs[j] := ⟨_, rfl⟩
      rw [← ez] at e
      rw [szZ_more e, ← ih (by omega)]
      have e1 : ∀ b ∈ ts.map Prod.fst, inP ts a b * ((selU (j + 1) (atC zs b)).length : Int) = inP ts a b * ((selU j (atC zs b)).length : Int) + if b = z then inP ts a b else 0 := fun b _ => by
        rw [selU_more, List.length_append, Int.natCast_add, Int.mul_add]
        congr 1
        have ec : atC zs b j = decide (z = b) := by
          unfold atC
          rw [e]
          by_cases w : z = b
          · rw [decide_eq_true w, decide_eq_true (by rw [w])]
          · rw [decide_eq_false w, decide_eq_false fun h => w (Option.some.inj h)]
        by_cases w : b = z
        · rw [if_pos w, ec, decide_eq_true w.symm, if_pos rfl]
          show inP ts a b * 1 = _
          rw [Int.mul_one]
        · rw [if_neg w, ec, decide_eq_false (fun h => w h.symm), if_neg (by decide)]
          exact Int.mul_zero _
      rw [List.map_congr_left e1, sum_map_add, sum_one (f := fun b => inP ts a b) o.nd]
      congr 1
      by_cases m : z ∈ ts.map Prod.fst
      · rw [if_pos m] <;> rfl
      · have z0 : z = "" := (pl z (List.mem_of_getElem? e)).resolve_right m
        rw [if_neg m, z0, path_root, if_neg (by simp)]
  have z := key zs.length (Nat.le_refl _)
  rw [List.take_length] at z
  exact z
section
variable {P : Program} {w : World} {K : PySem.W.Frag} {mg : Str → Option Value} {base : Heap}
abbrev NBe : List Str := ["assignment", "new", "forest", "changed", "place", "here", "start", "goal", "amount", "places", "user"]
theorem scBe : FnScope NBe ["assignment", "new"] (defScope s_best) := ⟨rfl, rfl, rfl, by decide +kernel, rfl, by decide +kernel, by decide +kernel⟩
theorem ok_best {f fF fA fP fE fC fT fI CF CA CS pF gF pT gT pS gS : Addr} {mc mcA : Value} {fd fdF fdA fdP fdE fdC fdT fdI fd1 fd2 fd3 : FuncData} (F : Fun K "best" "best" s_best f fd) (T : Nm mg) (Z : Fc K mg CF mc) (B : Ac K mg CA mcA)
    (NF : Dn P w K mg base (L2.CX P w) 5 "need_feasible" ["forest", "users", "sizes"] (spFeas K CF CS) fF fdF) (DA : Dn P w K mg base CX0 3 "amounts_of" ["forest", "sizes", "new"] (spAmtOf CF) fA fdA) (DP : Dn P w K mg base CX0 3 "places_of" ["forest"] (spPlacesOf CF) fP fdP)
    (DE : Dn P w K mg base CX0 4 "edge_order" ["forest", "changed"] (spEdgeOrder CF) fE fdE) (DC : Dn P w K mg base CX0 3 "crossings" ["forest", "changed"] (spCross CF) fC fdC)
    (PF : PrN P w K mg base 1 CA "forest" (spAForest CA) pF gF fd1) (PT : PrN P w K mg base 1 CA "total" (spATotal CA) pT gT fd2) (PS : PrN P w K mg base 4 CA "sizes" (spASizes CF CA) pS gS fd3) (MA : Mt P w K mg base CX0 2 CA "at" ["self", "place"] (spAAt CF CA) fT fdT)
    (M : Mk K CA fI) (FI : FnOk P w K mg base CX0 1 fI fdI ["self", "forest", "places"] (spAInit CF CA)) (bI : Binds K fdI ["self", "forest", "places"] []) :
    FnOk P w K mg base (L2.CX P w) 6 f fd ["assignment", "new"] (spBest K CF CA CS) := by
  obtain ⟨ur, cr⟩ := Z.root
  refine F.okX scBe (fun vs H Q E h => ?_) (fun cdv A outer s H vs Q E hr h => ?_)
  · obtain ⟨y, x, sv, ts, zs, so, rfl, _⟩ := h
    rfl
  · obtain ⟨y, x, sv, ts, zs, so, rfl, hy, fa, o, pl, n1, n60, hz, k⟩ := h
    have hu := hu_of hr
    have nd := scBe.nd
    have hr2 : Room 2 _ := hr.mono (by decide)
    have hr3 : Room 3 _ := hr.mono (by decide)
    have hr4 : Room 4 _ := hr.mono (by decide)
    have big : 2000 ≤ sizeLine := by decide
    have few := o.few
    refine ⟨_, pss_cons (ps_set (i := 2) nd rfl (.inl rfl) (pe_prop (pv 0) B.cl PF.pr PF.fn hr2 PF.bn .nil pass0 (by rfl)))
      (pss_cons (ps_expr (pe_call NF.ok hr rfl NF.mgn NF.kp NF.bn .nil (passes_call (takes_of rfl rfl rfl rfl) (fun _ _ _ _ h => h)) (pa_cons (pv 2) (pa_cons (pe_prop (pv 0) B.cl PT.pr PT.fn hr2 PT.bn .nil pass0 (by rfl)) (pa_cons (pv 1) pa_nil)))))
      (pss_cons (ps_set (i := 3) nd rfl (.inl rfl) (pe_call DA.ok hr3 rfl DA.mgn DA.kp DA.bn .nil pass0 (pa_cons (pv 2) (pa_cons (pe_prop (pv 0) B.cl PS.pr PS.fn hr PS.bn .nil pass0 (by rfl)) (pa_cons (pv 1) pa_nil)))))
      (pss_cons (ps_setDc (i := 5) (own := [("place", 4)]) (g := gName 4) (tt := tYes) rfl nd rfl rfl (swd_true rfl rfl rfl (by decide +kernel)) (pi_list (pe_call DP.ok hr3 rfl DP.mgn DP.kp DP.bn .nil pass0 (pa_cons (pv 2) pa_nil))) (blkOk_by (N := NBe) (sc := defScope s_best) (by decide +kernel))
        (fun _ _ _ _ _ => pg_name (i := 4) nd rfl (Or.inl rfl)) (fun _ _ _ _ _ => pts_nil) (fun _ _ _ _ _ => pv 4) (fun _ _ _ _ _ => pe_meth (pv 0) B.cl MA.mt MA.fn hr2 MA.bn .nil pass0 (pa_cons (pv 4) pa_nil)))
      (pss_cons (ps_for (passes_of rfl) rfl (pi_list (pe_call DE.ok hr4 rfl DE.mgn DE.kp DE.bn .nil pass0 (pa_cons (pv 2) (pa_cons (pv 3) pa_nil)))) (pg_name (i := 4) nd rfl (.inl rfl))
        (pss_one (ps_for (passes_of rfl) rfl (pi_list (pe_call DC.ok hr3 rfl DC.mgn DC.kp DC.bn .nil pass0 (pa_cons (pv 2) (pa_cons (pv 3) pa_nil)))) (pg_tup rfl (pgs_cons (pg_name (i := 6) nd rfl (.inl rfl)) (pgs_cons (pg_name (i := 7) nd rfl (.inl rfl)) (pgs_cons (pg_name (i := 8) nd rfl (.inl rfl)) pgs_nil))))
          (pss_one (ps_if (pt_cmpR op_eq (pv 6) (pv 4) (nomark _))
            (pss_cons (ps_dput hu (pv 5) (pv 7) (pe_op op_cat (pe_dget hu (pv 5) (pv 7) (fun _ _ => rfl)) (pe_slice sl_list (pe_dget hu (pv 5) (pv 4) (fun _ _ => rfl)) (po_some (pe_un un_neg (pv 8))) po_none)) rfl)
            (pss_one (ps_dput hu (pv 5) (pv 4) (pe_slice sl_list (pe_dget hu (pv 5) (pv 4) (fun _ _ => rfl)) po_none (po_some (pe_un un_neg (pv 8)))) rfl))) pss_nil)))))
      (pss_cons (ps_set (i := 9) nd rfl (.inl rfl) (pe_op op_rep (pe_lst (pa_cons (pe_cval (pe_glob (v := .ref CF) (by rfl) Z.gF rfl)) pa_nil)) (pe_prop (pv 0) B.cl PT.pr PT.fn hr2 PT.bn .nil pass0 (by rfl))))
      (pss_cons (ps_lock (ps_for (passes_of rfl) rfl (pi_keys (pv 5)) (pg_name (i := 4) nd rfl (.inl rfl))
        (pss_one (ps_for (passes_of rfl) rfl (pi_list (pe_dget hu (pv 5) (pv 4) (fun _ _ => rfl))) (pg_name (i := 10) nd rfl (.inl rfl))
          (pss_one (ps_asg (pv 4) (pg_sub (pv 9) (pv 10) set_list)))))))
      (pss_one (ps_ret (pe_make M FI hr2 (by rfl) B.gA bI .nil pass0 (pa_cons (pv 2) (pa_cons (pv 9) pa_nil))))))))))), ?_⟩
    obtain ⟨dy, p, hy1, hp⟩ := id hy
    refine ⟨_, rfl, y, dy, _, rfl, hy1, y, x, zs, rfl, hy, ?_⟩
    refine ⟨_, rfl, _, rfl, y, dy, _, rfl, hy1, y, x, zs, rfl, hy, _, rfl, x, (zs.length : Int), sv, ts, so, rfl, fa, o, hz, ?_⟩
    cases ef : feE CS ts (zs.length : Int) so with
    | some e =>
      rw [ef] at k
      exact k
    | none =>
      rw [ef] at k
      intro H2 s2
      cases so with
      | none => exact absurd ef feE_none
      | some kvs =>
        obtain ⟨qn, rfl, hqn, _⟩ := hz
        obtain ⟨fl, fv, fr⟩ := feE_ok ef
        refine ⟨_, rfl, _, rfl, y, dy, _, rfl, s2 _ _ hy1, y, x, ts, zs, rfl, hy.mono s2, fa.mono s2, o, pl, fun b H3 s23 nb hb => ?_⟩
        have s3 := s2.trans s23
        refine ⟨_, rfl, x, b, qn, ts, _, kvs, rfl, fa.mono s3, o, hb, s3 _ _ hqn, fun a ha => by rw [tblI_val ha, szOf_tbl ha], fun a ha => (fv a ha).1, fun cc H4 s34 ncc hcc => ?_⟩
        have s4 := s3.trans s34
        obtain ⟨c, ec⟩ : ∃ c : Str → Int, c = fun a => szOf kvs a - szZ ts zs a := ⟨_, rfl⟩
        have hcc : H4 cc = some (.dK (tblI (ts.map Prod.fst) c)) := by
          rw [hcc]
          congr 2
          exact tblI_congr fun a ha => by rw [szOf_tbl ha, ec]
        have hy4 := s4 _ _ hy1
        refine ⟨_, rfl, x, ts, rfl, fa.mono s4, few, fun pl' H5 s5 npl hpl => ⟨pl', rfl, ⟨_, SqL.of hpl⟩, fun D nD => ?_⟩⟩
        refine dc_it walk_list (fun i H' => Same H5 H' ∧ ∃ r' : Str → Addr, H' D = some (.dK (tblV ((pls ts).take i) fun p => .ref (r' p))) ∧ ∀ p ∈ (pls ts).take i, H' (r' p) = some (.lst ((atU zs p).map V.int))) ⟨same_new nD, fun _ => 0, upd_same, fun p h => by simp at h⟩ (fun i H' _ z => SqL.of (z.1 _ _ hpl)) ?_ ?_
        · intro i v Hz Ha hi ⟨q1, r', q2, q3⟩ ⟨eb, ex⟩
          subst eb
          obtain ⟨g, hg, rfl⟩ := map_of (f := V.str) (l := pls ts) ex
          have mg' := List.mem_of_getElem? hg
          have il := (List.getElem?_eq_some_iff.mp hg).1
          have fr := nat_fresh (pls_nd o) hg
          have sA := (s4.trans s5).trans q1
          refine ⟨rfl, ?_⟩
          refine ⟨_, rfl, _, rfl, y, dy, _, rfl, sA _ _ hy1, rfl, _, rfl, y, x, ts, zs, g, rfl, hy.mono sA, fa.mono sA, o, by omega, mem_pls.mp mg', fun l H6 s6 nl hl => ?_⟩
          have lD : l ≠ D := (ne_of_none q2 nl).symm
          have pln := pls_len ts
          refine ⟨_, Sum.inr g, rfl, s6 _ _ q2, by rw [tblV_len, List.length_take]; omega, (q1.trans s6).put nD, fun a => if a = g then l else r' a, ?_, fun a ha => ?_⟩
          · rw [upd_same, tblV_congr (g' := fun a => V.ref (if a = g then l else r' a)) fun a ha => by rw [if_neg fun z => fr (by rw [← z]; exact ha)], tblV_snoc fr (by rw [if_pos rfl]), take_more hg]
          · rw [take_more hg] at ha
            show (upd H6 D _) (if a = g then l else r' a) = some (.lst ((atU zs a).map V.int))
            by_cases e : a = g
            · rw [if_pos e, e, upd_ne lD]
              exact hl
            · rw [if_neg e]
              have z1 := q3 a ((List.mem_append.mp ha).resolve_right fun z => e (List.mem_singleton.mp z))
              rw [upd_ne (ne_of z1 q2 (by intro z; cases z))]
              exact s6 _ _ z1
        intro H7 ⟨s57, r', hD, hr'⟩
        have e : ((("" : Str) :: ts.map Prod.fst).map V.str).length = (pls ts).length := List.length_map _
        rw [e, List.take_length] at hD hr'
        have s47 : Same H4 H7 := s5.trans s57
        have nD4 : H4 D = none := s5.free nD
        have hL : LsAt H7 D (pls ts) r' (atU zs) := ⟨hD, hr'⟩
        have fa4 := fa.mono s4
        refine ⟨_, rfl, _, rfl, x, cc, ts, c, rfl, fa4.mono s47, o, s47 _ _ hcc, fun pe ds H8 s8 npe pds top hpe => ⟨pe, rfl, ⟨_, SqL.of hpe⟩, ?_⟩⟩
        have s48 := s47.trans s8
        have eD : pe ≠ D := (ne_of_none hD npe).symm
        refine for_it walk_list (fun j σ' H' => (∃ u4 u6 u7 u8, σ' = [some (.ref y), some (.ref qn), some (.ref x), some (.ref cc), u4, some (.ref D), u6, u7, u8, none, none]) ∧ Same H4 H' ∧ H' pe = some (.lst (ds.map V.str)) ∧ ∃ r : Str → Addr, LsAt H' D (pls ts) r (mvA (crs c ts) (atU zs) (ds.take j)) ∧ ((pls ts).map fun p => ((mvA (crs c ts) (atU zs) (ds.take j) p).length : Int)).sum = zs.length)
          ⟨⟨_, _, _, _, rfl⟩, s48, hpe, r', hL.mono s8, val_len (atU_val o pl)⟩ (fun j σ' H' _ z => SqL.of z.2.2.1) ?_ ?_
        · intro j v σ' Hz Ha hj ⟨⟨u4, u6, u7, u8, eσ⟩, sa, hpe', r1, hL1, sm1⟩ ⟨eb, ex⟩
          subst eσ
          subst eb
          obtain ⟨g0, hg0, rfl⟩ := map_of ex
          have mg0 := pds.mem_iff.mp (List.mem_of_getElem? hg0)
          obtain ⟨Lj, eLj⟩ : ∃ Lj, Lj = mvA (crs c ts) (atU zs) (ds.take j) := ⟨_, rfl⟩
          rw [← eLj] at hL1 sm1
          refine ⟨_, rfl, _, rfl, x, cc, ts, c, rfl, fa4.mono sa, o, sa _ _ hcc, fun pc rs H9 s9 npc hpc ed => ⟨pc, rfl, ⟨_, SqL.of hpc⟩, ?_⟩⟩
          have pcD : pc ≠ D := (ne_of_none hL1.1 npc).symm
          have cl := crs_len c ts
          refine for_it walk_list (fun i σ' H' => (∃ u6 u7 u8, σ' = [some (.ref y), some (.ref qn), some (.ref x), some (.ref cc), some (.str g0), some (.ref D), u6, u7, u8, none, none]) ∧ Same H4 H' ∧ H' pe = some (.lst (ds.map V.str)) ∧ H' pc = some (.lst (rs.map V.ref)) ∧ EdG H' rs (crs c ts) ∧
            ∃ r : Str → Addr, LsAt H' D (pls ts) r ((((crs c ts).take i).filter fun e => decide (e.1 = g0)).foldl mvE Lj) ∧ ((pls ts).map fun p => ((((((crs c ts).take i).filter fun e => decide (e.1 = g0)).foldl mvE Lj) p).length : Int)).sum = zs.length) ⟨⟨_, _, _, rfl⟩, sa.trans s9, s9 _ _ hpe', hpc, ed, r1, hL1.mono s9, sm1⟩ (fun i σ' H' _ z => SqL.of z.2.2.2.1) ?_ ?_
          · intro i v2 σ2 Hy Hb hi ⟨⟨u6, u7, u8, eσ⟩, sb, hpe2, hpc2, ed2, r2, hL2, sm2⟩ ⟨eb, ex⟩
            subst eσ
            subst eb
            obtain ⟨tr, htr, rfl⟩ := map_of (f := V.ref) (l := rs) ex
            obtain ⟨⟨es, eg, ea⟩, hes, htup⟩ := ed2.at_ htr
            obtain ⟨La, eLa⟩ : ∃ La, La = (((crs c ts).take i).filter fun e => decide (e.1 = g0)).foldl mvE Lj := ⟨_, rfl⟩
            rw [← eLa] at hL2 sm2
            have mes := List.mem_of_getElem? hes
            obtain ⟨eav, pos⟩ := crs_lv o mes
            have pa : 0 < ea := by omega
            obtain ⟨m1, m2, _, _⟩ := lv_adj o pos
            have filt : ((crs c ts).take (i + 1)).filter (fun e => decide (e.1 = g0)) = ((crs c ts).take i).filter (fun e => decide (e.1 = g0)) ++ if es = g0 then [(es, eg, ea)] else [] := by
              rw [take_more hes, List.filter_append]
              congr 1
              by_cases w : es = g0
              · rw [if_pos w, List.filter_cons, if_pos (decide_eq_true w)] <;> rfl
              · rw [if_neg w, List.filter_cons, if_neg (by rw [decide_eq_false w]; decide)] <;> rfl
            refine ⟨tr, _, rfl, .inl (.inl htup), rfl, _, _, rfl, _, _, rfl, _, _, rfl, rfl, ?_⟩
            refine ⟨_, rfl, _, rfl, rfl, _, rfl, ?_⟩
            by_cases w : es = g0
            · rw [decide_eq_true (show V.str es = V.str g0 by rw [w])]
              show if true = true then _ else _
              rw [if_pos rfl]
              have mes0 : es ∈ pls ts := by rw [w]; exact mg0
              subst w
              have ne : es ≠ eg := fun z => by
                have pg := lv_adj o pos
                rw [← z] at pg
                exact adj_self o pg.1 pg.2.2.1
              have mg : eg ∈ pls ts := mem_pls.mpr m2
              have b1 := nat_le (f := La) mg
              have b2 := nat_le (f := La) mes0
              have ll : (lastN ea (La es)).length ≤ (La es).length := by
                have z := congrArg List.length (but_last ea (La es))
                rw [List.length_append] at z
                omega
              refine ⟨_, rfl, _, rfl, D, _, rfl, hL2.get mg, _, rfl, _, rfl, D, _, rfl, hL2.get mes0, _, rfl, _, rfl, _, rfl, r2 es, _, rfl, SqL.of (hL2.2 es mes0), fun p1 np1 => ?_⟩
              rw [cut_last pa]
              have t1 := same_new (o := .lst ((lastN ea (La es)).map V.int)) np1
              refine ⟨r2 eg, p1, _, _, rfl, rfl, t1 _ _ (hL2.2 eg mg), upd_same, by rw [List.length_map, List.length_map]; omega, fun p2 np2 => ?_⟩
              rw [← List.map_append]
              have t2 := same_new (o := .lst ((La eg ++ lastN ea (La es)).map V.int)) np2
              obtain ⟨Hc, ec'⟩ : ∃ X, X = upd (upd Hb p1 (.lst ((lastN ea (La es)).map V.int))) p2 (.lst ((La eg ++ lastN ea (La es)).map V.int)) := ⟨_, rfl⟩
              have sc : Same Hb Hc := ec' ▸ t1.trans t2
              have hp2 : Hc p2 = some (.lst ((La eg ++ lastN ea (La es)).map V.int)) := by rw [ec', upd_same]
              rw [← ec']
              have hLc := hL2.mono sc
              refine ⟨_, rfl, _, rfl, D, _, rfl, DPut.k (k := Sum.inr eg) hLc.1 (by have := pls_len ts; rw [tblV_len]; omega), ?_⟩
              have hLd := lsAt_put hLc mg hp2
              obtain ⟨Hd, ed'⟩ : ∃ X, X = upd Hc D (.dK (putK (tblV (pls ts) fun a => .ref (r2 a)) (Sum.inr eg) (.ref p2))) := ⟨_, rfl⟩
              have kd : ∀ b u, b ≠ D → Hc b = some u → Hd b = some u := fun b u n e => by rw [ed', upd_ne n]; exact e
              rw [← ed'] at hLd
              rw [← ed']
              -- the rest stays
              refine ⟨_, rfl, _, rfl, D, _, rfl, hLd.get mes0, _, rfl, _, rfl, _, rfl, _, _, rfl, SqL.of (hLd.2 es mes0), fun p3 np3 => ?_⟩
              rw [cut_but pa]
              have t3 := same_new (o := .lst ((butN ea (if es = eg then La eg ++ lastN ea (La es) else La es)).map V.int)) np3
              refine ⟨_, rfl, _, rfl, D, _, rfl, DPut.k (k := Sum.inr es) (t3 _ _ hLd.1) (by have := pls_len ts; rw [tblV_len]; omega), ?_⟩
              have hLe := lsAt_put (hLd.mono t3) mes0 upd_same
              have off : ∀ b u, b ≠ D → Hb b = some u → (upd (upd Hd p3 (.lst ((butN ea (if es = eg then La eg ++ lastN ea (La es) else La es)).map V.int))) D (.dK (putK (tblV (pls ts) fun a => .ref (if a = eg then p2 else r2 a)) (Sum.inr es) (.ref p3)))) b = some u := fun b u n e => by
                rw [upd_ne n]
                exact t3 _ _ (kd _ _ n (sc _ _ e))
              refine ⟨⟨_, _, _, rfl⟩, fun b u e => off b u (ne_of_none e nD4) (sb _ _ e), off _ _ (ne_of hpe2 hL2.1 (by intro z; cases z)) hpe2, off _ _ (ne_of hpc2 hL2.1 (by intro z; cases z)) hpc2, ed2.imp fun r xs e => off r _ (ne_of e hL2.1 (by intro z; cases z)) e, (fun a => if a = es then p3 else if a = eg then p2 else r2 a), ?_⟩
              rw [filt, if_pos rfl, List.foldl_append, ← eLa]
              refine ⟨hLe.congr fun a _ => ?_, ?_⟩
              · show (if a = es then butN ea (if es = eg then _ else La es) else if a = eg then La eg ++ lastN ea (La es) else La a) = mvE La (es, eg, ea) a
                rw [if_neg ne] <;> rfl
              · show ((pls ts).map fun p => ((mvE La (es, eg, ea) p).length : Int)).sum = _
                rw [mvE_sum (pls_nd o) mes0 mg ne]
                exact sm2
            · rw [decide_eq_false (show ¬ V.str es = V.str g0 from fun z => w (V.str.inj z))]
              refine iteF ⟨⟨_, _, _, rfl⟩, sb, hpe2, hpc2, ed2, r2, ?_⟩
              rw [filt, if_neg w, List.append_nil, ← eLa]
              exact ⟨hL2, sm2⟩
          · intro σ2 Hb ⟨⟨u6, u7, u8, eσ⟩, sb, hpe2, hpc2, ed2, r2, hL2, sm2⟩
            subst eσ
            refine ⟨⟨_, _, _, _, rfl⟩, sb, hpe2, r2, ?_⟩
            rw [List.length_map, ed2.len, List.take_length] at hL2 sm2
            rw [take_more hg0]
            unfold mvA
            rw [List.foldl_append]
            rw [eLj] at hL2 sm2
            exact ⟨hL2, sm2⟩
        intro σ' H9 ⟨⟨u4, u6, u7, u8, eσ⟩, sa, hpe', r1, hL1, _⟩
        subst eσ
        rw [List.length_map, List.take_length] at hL1
        obtain ⟨Lf, eLf⟩ : ∃ Lf, Lf = mvA (crs c ts) (atU zs) ds := ⟨_, rfl⟩
        rw [← eLf] at hL1
        have hV0 := atU_val o pl
        have mv : MovedP ts c (atU zs) Lf := by
          rw [eLf]
          refine best_moved o pds top (lsz_lens o (val_len hV0)) fun p hp => ?_
          rw [resid_congr (sz' := szOf kvs) (fun a ha => by rw [atU_lsz o pl ha, ec]; show szZ ts zs a + (szOf kvs a - szZ ts zs a) = _; omega) (by
            by_cases e : p = ""
            · exact .inl e
            · have ha := hp.resolve_left e
              exact .inr (by rw [atU_lsz o pl ha, ec]; show szZ ts zs p + (szOf kvs p - szZ ts zs p) = _; omega))]
          exact fr p (mem_pls.mpr hp)
        have hV := movedP_val o mv hV0
        have bnd : ∀ p ∈ pls ts, ∀ u ∈ Lf p, 0 ≤ u ∧ u < zs.length := fun p hp u hu => mem_usr.mp (hV.mem_iff.mp (List.mem_flatMap.mpr ⟨p, hp, hu⟩))
        refine ⟨CF, mc, _, ur, rfl, Z.rd, cr, by show 1 ≤ sizeLine; omega, fun p1 np1 => ?_⟩
        have t1 := same_new (o := .lst [V.str ("" : Str)]) np1
        refine ⟨_, rfl, y, dy, _, rfl, t1 _ _ (sa _ _ hy4), y, x, zs, rfl, ((hy.mono s4).mono sa).mono t1, p1, (zs.length : Int), _, rfl, rfl, upd_same, by omega, by omega, ?_, fun pw npw => ?_⟩
        · show 1 * _ ≤ sizeLine
          omega
        rw [Int.toNat_natCast, rep_strs2]
        have t2 := same_new (o := .lst ((List.replicate zs.length ("" : Str)).map V.str)) npw
        obtain ⟨Ha, ea⟩ : ∃ X, X = upd (upd H9 p1 (.lst [V.str ("" : Str)])) pw (.lst ((List.replicate zs.length ("" : Str)).map V.str)) := ⟨_, rfl⟩
        have s9a : Same H9 Ha := ea ▸ t1.trans t2
        have hpw : Ha pw = some (.lst ((List.replicate zs.length ("" : Str)).map V.str)) := by rw [ea, upd_same]
        rw [← ea]
        have hLa := hL1.mono s9a
        have npw9 : H9 pw = none := t1.free npw
        have rpw : ∀ p ∈ pls ts, r1 p ≠ pw := fun p hp => ne_of_none (hL1.2 p hp) npw9
        have pwD : pw ≠ D := (ne_of_none hL1.1 npw9).symm
        have s4a := sa.trans s9a
        have npw4 : H4 pw = none := sa.free npw9
        refine ⟨D, _, hLa.1, trivial, fun od => ⟨_, rfl, D, od, rfl, .inl ⟨_, upd_same, ?_⟩⟩⟩
        refine for_it walk_keys (fun i σ' H' => (∃ u4 u10, σ' = [some (.ref y), some (.ref qn), some (.ref x), some (.ref cc), u4, some (.ref D), u6, u7, u8, some (.ref pw), u10]) ∧ H' D = some (.frz od (.dK (tblV (pls ts) fun p => .ref (r1 p)))) ∧ (∀ p ∈ pls ts, H' (r1 p) = some (.lst ((Lf p).map V.int))) ∧ (∀ b u, b ≠ D → H4 b = some u → H' b = some u) ∧
          ∃ W : List Str, H' pw = some (.lst (W.map V.str)) ∧ W.length = zs.length ∧ (∀ z ∈ W, Pl ts z) ∧ ∀ p ∈ (pls ts).take i, ∀ u ∈ Lf p, W[u.toNat]? = some p)
          ⟨⟨_, _, rfl⟩, upd_same, fun p hp => by rw [upd_ne (ne_of (hLa.2 p hp) hLa.1 (by intro z; cases z))]; exact hLa.2 p hp, fun b u n e => by rw [upd_ne n]; exact s4a _ _ e, _, by rw [upd_ne pwD]; exact hpw, List.length_replicate, fun z hz => .inl (List.eq_of_mem_replicate hz), fun p hp => by simp at hp⟩ (fun i σ' H' _ z => z.2.1) ?_ ?_
        · intro i v σ2 Hz Hb hi ⟨⟨u4, u10, eσ⟩, hD2, hl2, off2, W, hW, lW, pW, aW⟩ ⟨eb, kk, vv, hk, ev⟩
          subst eσ
          subst eb
          subst ev
          obtain ⟨g, hg, rfl, rfl⟩ := tblV_at hk
          rw [show kV (Sum.inr g) = V.str g from rfl]
          have mg := List.mem_of_getElem? hg
          have fr' := nat_fresh (pls_nd o) hg
          have dg : ∀ {H' : Hp}, H' D = some (.frz od (.dK (tblV (pls ts) fun p => .ref (r1 p)))) → DGet H' D (.str g) (some (.ref (r1 g))) := fun {H'} h => .inl ⟨_, Sum.inr g, .inr ⟨od, h⟩, rfl, (tblV_val (g := fun p => V.ref (r1 p)) mg).symm⟩
          refine ⟨_, rfl, _, rfl, D, _, rfl, dg hD2, r1 g, rfl, ⟨_, SqL.of (hl2 g mg)⟩, ?_⟩
          refine for_it walk_list (fun j σ' H' => (∃ u10, σ' = [some (.ref y), some (.ref qn), some (.ref x), some (.ref cc), some (.str g), some (.ref D), u6, u7, u8, some (.ref pw), u10]) ∧ H' D = some (.frz od (.dK (tblV (pls ts) fun p => .ref (r1 p)))) ∧ (∀ p ∈ pls ts, H' (r1 p) = some (.lst ((Lf p).map V.int))) ∧ (∀ b u, b ≠ D → H4 b = some u → H' b = some u) ∧
            ∃ W : List Str, H' pw = some (.lst (W.map V.str)) ∧ W.length = zs.length ∧ (∀ z ∈ W, Pl ts z) ∧ (∀ p ∈ (pls ts).take i, ∀ u ∈ Lf p, W[u.toNat]? = some p) ∧ ∀ u ∈ (Lf g).take j, W[u.toNat]? = some g)
            ⟨⟨_, rfl⟩, hD2, hl2, off2, W, hW, lW, pW, aW, fun u hu => by simp at hu⟩ (fun j σ' H' _ z => SqL.of (z.2.2.1 g mg)) ?_ ?_
          · intro j v σ3 Hy Hc hj ⟨⟨u10, eσ⟩, hD3, hl3, off3, W3, hW3, lW3, pW3, aW3, bW3⟩ ⟨eb, ex⟩
            subst eσ
            subst eb
            obtain ⟨u, hu', rfl⟩ := map_of ex
            have mu := List.mem_of_getElem? hu'
            obtain ⟨u0, u1⟩ := bnd g mg u mu
            have ut : u.toNat < W3.length := by omega
            refine ⟨_, rfl, _, rfl, _, rfl, pw, _, u, u.toNat, rfl, rfl, hW3, by rw [show u = ((u.toNat : Nat) : Int) by omega]; exact ixN_nat (by rw [List.length_map]; exact ut), ?_⟩
            have offW : ∀ b w, b ≠ pw → Hc b = some w → (upd Hc pw (.lst ((W3.map V.str).set u.toNat (.str g)))) b = some w := fun b w n e => by rw [upd_ne n]; exact e
            refine ⟨⟨_, rfl⟩, offW _ _ pwD.symm hD3, fun p hp => offW _ _ (rpw p hp) (hl3 p hp), fun b w n e => offW _ _ (ne_of_none e npw4) (off3 b w n e), W3.set u.toNat g, by rw [upd_same, List.map_set], by rw [List.length_set]; exact lW3, fun z hz => ?_, fun p hp w hw => ?_, fun w hw => ?_⟩
            · rcases List.mem_or_eq_of_mem_set hz with h | h
              · exact pW3 z h
              · rw [h]
                exact mem_pls.mp mg
            · have mp := List.mem_of_mem_take hp
              have ne : u.toNat ≠ w.toNat := fun e => by
                obtain ⟨w0, w1⟩ := bnd p mp w hw
                have e : u = w := by omega
                subst e
                have := one_place hV (mem_pls.mp mp) (mem_pls.mp mg) hw mu
                exact fr' (this ▸ hp)
              rw [List.getElem?_set_ne ne]
              exact aW3 p hp w hw
            · rw [take_more hu'] at hw
              by_cases e : u.toNat = w.toNat
              · rw [← e, List.getElem?_set_self ut]
              · rw [List.getElem?_set_ne e]
                exact bW3 w ((List.mem_append.mp hw).resolve_right fun z => e (by rw [List.mem_singleton.mp z]))
          · intro σ3 Hc ⟨⟨u10, eσ⟩, hD3, hl3, off3, W3, hW3, lW3, pW3, aW3, bW3⟩
            subst eσ
            rw [List.length_map, List.take_length] at bW3
            refine ⟨⟨_, _, rfl⟩, hD3, hl3, off3, W3, hW3, lW3, pW3, fun p hp w hw => ?_⟩
            rw [take_more hg] at hp
            rcases List.mem_append.mp hp with hp | hp
            · exact aW3 p hp w hw
            · have hp := List.mem_singleton.mp hp
              subst hp
              exact bW3 w hw
        intro σ2 Hb ⟨⟨u4, u10, eσ⟩, hD2, hl2, off2, W, hW, lW, pW, aW⟩
        subst eσ
        rw [tblV_len, List.take_length] at aW
        have eW : W = (usr zs.length).map (plOf ts Lf) := by
          refine List.ext_getElem? fun i => ?_
          by_cases lt : i < zs.length
          · obtain ⟨a1, a2⟩ := plOf_at hV (u := (i : Int)) (by omega) (by omega)
            have z := aW _ (mem_pls.mpr a1) _ a2
            rw [Int.toNat_natCast] at z
            rw [z, List.getElem?_map]
            unfold usr
            rw [List.getElem?_map, List.getElem?_range lt] <;> rfl
          · rw [List.getElem?_eq_none (by omega), List.getElem?_eq_none (by unfold usr; rw [List.length_map, List.length_map, List.length_range]; omega)]
        obtain ⟨Hc, ec2⟩ : ∃ X, X = upd Hb D (.dK (tblV (pls ts) fun p => .ref (r1 p))) := ⟨_, rfl⟩
        have s4c : Same H4 Hc := fun b u e => by
          have n : b ≠ D := ne_of_none e nD4
          rw [ec2, upd_ne n]
          exact off2 b u n e
        have hWc : Hc pw = some (.lst (W.map V.str)) := by rw [ec2, upd_ne pwD]; exact hW
        refine ⟨hD2, ?_⟩
        rw [← ec2]
        refine ⟨_, rfl, _, rfl, fun a da na nda daa => ?_⟩
        have sN : Same Hc (upd (upd Hc da (.own a)) a (.ins CA da [])) := fun b u e => by
          rw [upd_ne (ne_of_none e na), upd_ne (ne_of_none e nda)]
          exact e
        refine ⟨a, x, pw, da, ts, W, rfl, upd_same, (fa4.mono s4c).mono sN, o, sN _ _ hWc, by omega, by omega, pW, fun Hd aa oth => ⟨rfl, ?_⟩⟩
        have s4d : Same H4 Hd := fun b u e => oth b u (ne_of_none (s4c _ _ e) na) (sN _ _ (s4c _ _ e))
        refine k a Hd W (s4.trans s4d) (s4.free (s4c.free na)) aa ⟨Lf, ?_, hV, eW⟩
        rw [ec] at mv
        exact mv
end
end FT


/-! own __eq__; Forest.__eq__; need_match -/
namespace FT
open PySem L2 TL ClX LiI
def strKey (e : DictEntry) : Bool := match e.key with
  | .str _ _ => true
  | _ => false
/-- a class of the text with its own __eq__ and no __ne__ -/
structure EqF (K : PySem.W.Frag) (C f : Addr) : Prop where
  at_ : ∃ nm q N bs sn sub ab col dd k0 k1 k2 k3 k5 newId, K.lookup C = some (excClassObj nm q C N bs [.type "object"] true sn sub ab col dd k0 k1 k2 k3 k5 newId) ∧
    ∃ (oc : Value) (od : Option Addr) (es : Array DictEntry) (ep : Nat) (sl : Array (Option Value)), K.lookup N = some ⟨oc, od, .dict es ep, sl⟩ ∧ es.toList.all strKey = true ∧ nsFind es "__eq__" = some (.ref f) ∧ nsFind es "__ne__" = none
  ty : ∃ o : Obj, K.lookup f = some o ∧ o.cls = .type "function"
theorem EqF.own {K : PySem.W.Frag} {C f : Addr} (e : EqF K C f) {h : Heap} (X : K.In h) {a : Addr} {o : Obj} (ho : h.get? a = some o) (hc : o.cls = .ref C) : h.OwnEqNoNe a C f "object" [.type "object"] := by
  obtain ⟨nm, q, N, bs, sn, sub, ab, col, dd, k0, k1, k2, k3, k5, newId, hC, oc, od, es, ep, sl, hN, hk, h1, h2⟩ := e.at_
  obtain ⟨of, hf, tf⟩ := e.ty
  have keys : StrKeys es := fun x hx => by
    have := List.all_eq_true.mp hk x (Array.mem_toList_iff.mpr hx)
    unfold strKey at this
    cases ek : x.key with
    | str n t => exact ⟨n, t, rfl⟩
    | _ => rw [ek] at this; cases this
  exact ⟨o, of, nm, q, N, bs, true, sn, sub, ab, col, dd, k0, k1, k2, k3, k5, newId, nsFind es, _, ho, hc, X _ _ hC, ⟨_, es, ep, X _ _ hN, rfl, keys, fun _ => rfl⟩, h1, X _ _ hf, tf, PySem.F.cmp_object.mro, PySem.F.cmp_object.eq.lookup, h2⟩
/-- x != y, two instances that are equal by their own __eq__ -/
def rNeG (D : Eqv) : R2 := fun x y H Q => D x y H ∧ ∀ H', Ext H H' → Q (.bl false) H'
theorem op_neG {X : Cx} {CX : CXT} {C f : Addr} {fd : FuncData} {ps : List Str} {R : Addr → Addr → Hp → Prop} {E : XK} {n : Nat} (F : FnOk X.prog X.w X.K X.mg X.base CX n f fd ps (spEq R)) (ef : EqF X.K C f) (hb : Binds X.K fd ps []) (hx : Passes CX X E) (hr : Room (n + 1) X.A) (hu : X.A.units + 1 < cLine) :
    OpR X (compareOp .NotEq) (rNeG (DIns C R)) := by
  intro pins s σ H x y v u Q I rx ry hq
  obtain ⟨⟨a, b, dx, dy, fs, gs, rfl, rfl, ha, hb', rel⟩, q⟩ := hq
  cases rx
  cases ry
  obtain ⟨mA, J, _⟩ := ins_get I.hok ha
  obtain ⟨mB, J', _⟩ := ins_get I.hok hb'
  obtain ⟨od, J, _⟩ := J.look
  obtain ⟨od', J', _⟩ := J'.look
  obtain ⟨j1, j2, _⟩ := J
  obtain ⟨j3, j4, _⟩ := J'
  have want : spEq R [.ref a, .ref b] H (fun v H' => v = .bl true ∧ Ext H H') E := ⟨a, b, rfl, rel, fun H' e => ⟨rfl, e⟩⟩
  have len := F.len _ _ _ _ want
  have rv : Vals [V.ref a, V.ref b] [Value.ref a, Value.ref b] := .cons rfl (.cons rfl .nil)
  have bind : BindsTo s fd ⟨[.ref a, .ref b], []⟩ (ps.zip [.ref a, .ref b]) := by
    have z := hb s [.ref a, .ref b] I.kIn (by simpa using len)
    simpa using z
  have run : wpAny (model X.prog X.w) X.A.in1 (call (.ref f) [.ref a, .ref b]) (fun v s' => ∃ b, v = .bool b ∧ EP X pins σ Q (.bool (!b)) s') X.xe s := by
    refine wpAny_call (codeAny_mono (F.run X.A.in1 X.stack s H ⟨[.ref a, .ref b], []⟩ [.ref a, .ref b] [.ref a, .ref b] _ E hr.in1 I.env0.in1 bind rv want) fun r s' z => ?_)
    match r, z with
    | .error er, z => exact hx pins σ H s er s' I z
    | .ok (.ret u), z =>
      obtain ⟨t, H', I', rz, ez, ex⟩ := I.after z
      subst ez
      cases rz
      exact ⟨true, rfl, .bl false, H', I', rfl, q H' ex⟩
    | .ok .next, z => exact z.elim
    | .ok .brk, z => exact z.elim
    | .ok .cont, z => exact z.elim
  have own := ef.own I.kIn j1 j2
  obtain ⟨hp, gn, dr, tk, os⟩ := s
  exact compareOp_ne_ownEq PySem.F.cmp_object own j3 j4 hu run
/-- what isinstance asks of an own class -/
structure IsF (K : PySem.W.Frag) (C : Addr) : Prop where
  ha : PySem.W.findIn K (.ref C) "__class__" = some (some (.builtin "object.__class__"))
  hn : PySem.W.specialIn K (.builtin "object.__class__") "__get__" = some (some (.builtin "getset_descriptor.__get__"))
  ht : PySem.W.takesIn K (.builtin "object.__class__") = some true
  hm : PySem.W.mroIn K C (.type "object") = some true
theorem kit_self {K : PySem.W.Frag} {C : Addr} : PySem.W.kitOne K (.ref C) (.ref C) = some true := if_pos (beq_self_eq_true _)
def RFo (CF : Addr) : Addr → Addr → Hp → Prop := fun a b H => ∃ ts, FAt CF H a ts ∧ FAt CF H b ts ∧ TreeOk ts
theorem prs_all {ts : List (Str × Str)} (nd : (ts.map Prod.fst).Nodup) : ∀ p ∈ prs ts, valV (prs ts) p.1 = some p.2 ∧ flatB p.2 = true := fun p hp => by
  unfold prs kvT at hp
  rw [List.map_map] at hp
  obtain ⟨⟨a, r⟩, hm, rfl⟩ := List.mem_map.mp hp
  refine ⟨?_, rfl⟩
  show valV (prs ts) (Sum.inr a) = some (V.str r)
  rw [val_prs, par_of nd hm] <;> rfl
def spMatch (CF CA : Addr) : Sp := fun vs H Q _ => ∃ (y1 y2 x : Addr) (ts : List (Str × Str)) (zs1 zs2 : List Str), vs = [.ref y1, .ref y2] ∧ AAt CA H y1 x zs1 ∧ AAt CA H y2 x zs2 ∧ FAt CF H x ts ∧ TreeOk ts ∧ zs1.length = zs2.length ∧ ∀ H', Same H H' → Q .non H'
section
variable {P : Program} {w : World} {K : PySem.W.Frag} {mg : Str → Option Value} {base : Heap}
theorem scFEq : FnScope ["self", "other"] ["self", "other"] (defScope s_Forest___eq__) := ⟨rfl, rfl, rfl, by decide +kernel, rfl, by decide +kernel, by decide +kernel⟩
theorem ok_feq {f CF : Addr} {mc : Value} {fd : FuncData} (F : Fun K "__eq__" "Forest.__eq__" s_Forest___eq__ f fd) (T : Nm mg) (O : FoC K CF) (Z : Fc K mg CF mc) (S : IsF K CF) : FnOk P w K mg base CX0 1 f fd ["self", "other"] (spEq (RFo CF)) := by
  refine F.ok scFEq (fun vs H Q E h => ?_) (fun cdv A outer s H vs Q E hr h => ?_)
  · obtain ⟨a, b, rfl, _⟩ := h
    rfl
  · obtain ⟨a, b, rfl, ⟨ts, ⟨da, qa, ha, hda⟩, ⟨db, qb, hb, hdb⟩, o⟩, k⟩ := h
    have hu := hu_of hr
    refine ⟨_, pss_one (ps_ret (pe_and (pe_callB call_isi (by rfl) T.isi (by decide +kernel) (pa_cons (pv 1) (pa_cons (pe_glob (v := .ref CF) (by rfl) Z.gF rfl) pa_nil))) (pe_one (pe_cmpR (op_eq_dictA (Nat.lt_of_succ_lt hu)) (pe_fld (pv 0) rfl) (pe_fld (pv 1) rfl) (nomark _))))), ?_⟩
    refine ⟨_, rfl, .ref b, _, .ref CF, _, true, rfl, .own _, .base (.ins hb O.cl S.ha S.hn S.ht S.hm), kit_self, true, rfl, ?_⟩
    show if true = true then _ else _
    rw [if_pos rfl]
    exact ⟨_, rfl, a, CF, da, _, .ref qa, rfl, ha, O.cl, O.nA, rfl, _, rfl, b, CF, db, _, .ref qb, rfl, hb, O.cl, O.nA, rfl, qa, qb, _, _, rfl, rfl, hda, hdb, rfl, prs_all o.nd, k _ fun _ _ e => e⟩
theorem scMa : FnScope ["one", "other"] ["one", "other"] (defScope s_need_match) := ⟨rfl, rfl, rfl, by decide +kernel, rfl, by decide +kernel, by decide +kernel⟩
theorem ok_match {f fE CF CA pF gF pT gT : Addr} {mcA : Value} {fd fdE fd1 fd2 : FuncData} (F : Fun K "need_match" "need_match" s_need_match f fd) (B : Ac K mg CA mcA) (PF : PrN P w K mg base 1 CA "forest" (spAForest CA) pF gF fd1) (PT : PrN P w K mg base 1 CA "total" (spATotal CA) pT gT fd2)
    (EQ : FnOk P w K mg base CX0 1 fE fdE ["self", "other"] (spEq (RFo CF))) (ef : EqF K CF fE) (bE : Binds K fdE ["self", "other"] []) : FnOk P w K mg base CX0 3 f fd ["one", "other"] (spMatch CF CA) := by
  refine F.ok scMa (fun vs H Q E h => ?_) (fun cdv A outer s H vs Q E hr h => ?_)
  · obtain ⟨y1, y2, x, ts, zs1, zs2, rfl, _⟩ := h
    rfl
  · obtain ⟨y1, y2, x, ts, zs1, zs2, rfl, h1, h2, fa, o, el, k⟩ := h
    have hu := hu_of hr
    refine ⟨_, pss_one (ps_if (PW.pt (pw_or (pt_cmpR (op_neG (E := E0) EQ ef bE pass0 hr hu) (pe_prop (pv 0) B.cl PF.pr PF.fn hr PF.bn .nil pass0 (by rfl)) (pe_prop (pv 1) B.cl PF.pr PF.fn hr PF.bn .nil pass0 (by rfl)) (nomark _))
        (pw_or1 (pt_cmpR op_ne (pe_prop (pv 0) B.cl PT.pr PT.fn hr PT.bn .nil pass0 (by rfl)) (pe_prop (pv 1) B.cl PT.pr PT.fn hr PT.bn .nil pass0 (by rfl)) (nomark _))))) pss_never pss_nil), ?_⟩
    obtain ⟨d1, p1, a1, b1⟩ := id h1
    obtain ⟨d2, p2, a2, b2⟩ := id h2
    obtain ⟨dx, dq, hx, hd⟩ := id fa
    refine ⟨_, rfl, y1, d1, _, rfl, a1, y1, x, zs1, rfl, h1, _, rfl, y2, d2, _, rfl, a2, y2, x, zs2, rfl, h2, ⟨x, x, dx, dx, _, _, rfl, rfl, hx, hx, ts, fa, fa, o⟩, fun H' s' => ⟨false, rfl, iteF ?_⟩⟩
    refine ⟨_, rfl, y1, d1, _, rfl, s' _ _ a1, y1, x, zs1, rfl, h1.mono s', _, rfl, y2, d2, _, rfl, s' _ _ a2, y2, x, zs2, rfl, h2.mono s', rfl, _, rfl, ?_⟩
    rw [decide_eq_true (show V.int (zs1.length : Int) = V.int (zs2.length : Int) by rw [el])]
    exact iteF (k H' s')
end
end FT


/-! d.values() as a value, sum of it -/
namespace L2
open PySem PySem.Spec PyProof.Rows
/-- at v: the view of the values of the dict at d -/
def VwO (v d : Addr) : HO := .ext fun h => h.get? v = some ({ cls := .type "dict_values", data := .fields #[.ref d] } : Obj)
theorem vwo_ok {P : Program} {w : World} {H : Hp} {h : Heap} {v d : Addr} (e : h.get? v = some ({ cls := .type "dict_values", data := .fields #[.ref d] } : Obj)) : ObjOk P w H h v (VwO v d) :=
  ⟨e, ⟨_, e⟩, fun h1 h2 z k => k _ z⟩
theorem vwo_at {P : Program} {w : World} {H : Hp} {h : Heap} {v d : Addr} (ok : HOk P w H h) (e : H v = some (VwO v d)) : h.get? v = some ({ cls := .type "dict_values", data := .fields #[.ref d] } : Obj) := by
  have x : ObjOk P w H h v (.ext fun h => h.get? v = some ({ cls := .type "dict_values", data := .fields #[.ref d] } : Obj)) := ok v _ e
  exact x.1
theorem preSum_list : ∀ ns : List Int, preSum (fun i => (ns[i]?).getD 0) ns.length = ns.sum
  | [] => rfl
  | n :: ns => by
    show preSum _ (ns.length + 1) = _
    rw [PySem.W.kdu_shift, List.sum_cons, ← preSum_list ns] <;> rfl
section
variable {X : Cx}
def rDVals : V → List V → Hp → VK → Prop := fun x xs H Q => ∃ (a : Addr) (kvs : List (Key × V)), x = .ref a ∧ xs = [] ∧ H a = some (.dK kvs) ∧ ∀ v, H v = none → Q (.ref v) (upd H v (VwO v a))
theorem mt_dvals : MtR X "dict.values" rDVals := by
  intro pins s σ H x xs v us Q I rx rxs ⟨a, kvs, ex, exs, e, q⟩
  subst ex
  subst exs
  cases rx
  cases rxs
  obtain ⟨z, lo, vs, rel, dd⟩ := dk_of I.hok e
  refine call_meetsIn PySem.F.slot_dict_values dd.typeIs PySem.F.entry_dict_values (PySem.F.args_dict_values_1 _) (meets_dict_values (mixKind X.prog X.w) a lo) ⟨⟨vs, dd⟩, ?_⟩
  have at_ : (s.heap.push ({ cls := .type "dict_values", data := .fields #[.ref a] } : Obj)).get? s.heap.objs.size = some ({ cls := .type "dict_values", data := .fields #[.ref a] } : Obj) := Heap.get?_push_size _ rfl
  exact ⟨.ref s.heap.objs.size, upd H s.heap.objs.size (VwO s.heap.objs.size a), I.laid (t' := s.toks) (fun b u e => Heap.get?_push_of_some _ e) (Nat.le_refl _) (vwo_ok at_), rfl, q _ (I.hok.fresh (Nat.le_refl _))⟩
def rSumV : List V → Hp → VK → Prop := fun xs H Q => ∃ (v d : Addr) (kvs : List (Key × V)) (ns : List Int), xs = [.ref v] ∧ H v = some (VwO v d) ∧ H d = some (.dK kvs) ∧ kvs.map (·.2) = ns.map V.int ∧ Q (.int ns.sum) H
theorem cr_sumV (hc : X.calm = true) : CallR X (.builtin "sum") rSumV := by
  intro pins s σ H xs us Q I r ⟨v, d, kvs, ns, ex, ev, ed, en, q⟩
  subst ex
  obtain ⟨u, rfl, ru⟩ := vals1 r
  cases ru
  obtain ⟨z, lo, vs, rel, dd⟩ := dk_of I.hok ed
  obtain ⟨ep, hat⟩ := dd.dictAt
  have av := vwo_at I.hok ev
  have lv : kvs.length = vs.length := rel.length
  have ln : kvs.length = ns.length := by
    have e := congrArg List.length en
    rw [List.length_map, List.length_map] at e
    exact e
  have items : ∀ (i : Nat) (k : Key) (y : Value), vs[i]? = some (k, y) → ∃ t : Tok, y = Value.int ((ns[i]?).getD 0) t := fun i k y h => by
    have il := (List.getElem?_eq_some_iff.mp h).1
    obtain ⟨kv, hk⟩ : ∃ kv, kvs[i]? = some kv := ⟨_, List.getElem?_eq_getElem (by omega)⟩
    obtain ⟨b, hb, r1, r2⟩ := paired_get (show Paired _ kvs vs from rel) hk
    rw [h] at hb
    cases hb
    have e1 : (kvs.map (·.2))[i]? = some kv.2 := by rw [List.getElem?_map, hk] <;> rfl
    rw [en, List.getElem?_map] at e1
    obtain ⟨n, hn, e2⟩ := Option.map_eq_some_iff.mp e1
    rw [hn]
    rw [← e2] at r2
    exact r2
  refine PySem.call_sum_walkAnyS ?_
  obtain ⟨oI, St, hit, W, st⟩ := (PySem.W.kdl_values (knd := mixKind X.prog X.w) (kvs := vs) (ep := ep) (r := v) (d := d)).iter X.A.in1 s (I.ok.hd hc) ⟨⟨_, av, rfl, rfl⟩, hat⟩
  refine hit _ _ ⟨s.heap.objs.size, _, _, _, vs.length, _, _, (fun i => (ns[i]?).getD 0), rfl, W.toS, st, fun b hb => ?_, fun i y ⟨k, hy⟩ => items i k y hy, fun s' t' hm => ?_⟩
  · show b < (s.heap.push oI).objs.size
    rw [Heap.size_push]
    rcases List.mem_cons.mp hb with e | hb
    · rw [e]
      exact Nat.lt_succ_self _
    · rw [List.mem_singleton.mp hb]
      exact Nat.lt_succ_of_lt hat.lt_size
  · have hk : ∀ b o, s.heap.get? b = some o → s'.heap.get? b = some o := fun b o e =>
      hm.heap b o (fun hI => absurd (Heap.lt_size e) (by rw [List.mem_singleton.mp hI]; exact Nat.lt_irrefl _)) (Heap.get?_push_of_some _ e)
    rw [PySem.Moved.eq_with hm]
    rw [show vs.length = ns.length by omega, preSum_list]
    exact ⟨.int ns.sum, H, I.kept (t' := s'.toks) hk, ⟨_, rfl⟩, q⟩
end
end L2


/-! path_difference, toggles, traffic, is_best -/
namespace FT
open PySem L2 TL ClX LiI
/-- how many flags stand on exactly one of two paths -/
def dist (ts : List (Str × Str)) (p q : Str) : Int := (((pathOf ts p).filter fun a => decide (a ∉ pathOf ts q)).length : Int) + (((pathOf ts q).filter fun a => decide (a ∉ pathOf ts p)).length : Int)
def farS (ts : List (Str × Str)) (zs1 zs2 : List Str) : Int := ((zs1.zip zs2).map fun e => dist ts e.1 e.2).sum
/-- users of the second list that are not in the first -/
def newU (xs ys : List Int) : Int := ((ys.filter fun u => decide (u ∉ xs)).length : Int)
theorem zip_strs (xs ys : List Str) : (xs.map V.str).zip (ys.map V.str) = (xs.zip ys).map fun e => (V.str e.1, V.str e.2) := by
  induction xs generalizing ys with
  | nil => rfl
  | cons x xs ih =>
    cases ys with
    | nil => rfl
    | cons y ys =>
      show (V.str x, V.str y) :: (xs.map V.str).zip (ys.map V.str) = _
      rw [ih] <;> rfl
theorem pair_lenZ {α β : Type} {F : α → β → Prop} : ∀ {xs : List α} {ys : List β}, Paired F xs ys → xs.length = ys.length
  | _, _, .nil => rfl
  | _, _, .cons _ t => congrArg (· + 1) (pair_lenZ t)
theorem inV_ints (x : Int) : ∀ fs : List Int, inV (.int x) (fs.map V.int) = decide (x ∈ fs)
  | [] => rfl
  | y :: fs => by
    show (eqV (.int y) (.int x) || inV (.int x) (fs.map V.int)) = _
    rw [inV_ints x fs]
    have e : eqV (.int y) (.int x) = decide (x = y) := by
      show (y == x) = decide (x = y)
      rw [Bool.eq_iff_iff, beq_iff_eq, decide_eq_true_eq]
      exact eq_comm
    rw [e, Bool.eq_iff_iff]
    simp only [Bool.or_eq_true, decide_eq_true_eq, List.mem_cons]
theorem flat_ints : ∀ fs : List Int, (fs.map V.int).all flatV = true
  | [] => rfl
  | _ :: fs => flat_ints fs
theorem filter_moreI {c : Int → Bool} {l : List Int} {i : Nat} {a : Int} (h : l[i]? = some a) : (l.take (i + 1)).filter c = (l.take i).filter c ++ if c a = true then [a] else [] := by
  rw [take_more h, List.filter_append]
  congr 1
  by_cases w : c a = true
  · rw [if_pos w, List.filter_cons, if_pos w] <;> rfl
  · rw [if_neg w, List.filter_cons, if_neg w] <;> rfl
def spDiff : Sp := fun vs H Q _ => ∃ (p1 p2 : Addr) (as bs : List Str), vs = [.ref p1, .ref p2] ∧ H p1 = some (.tup (as.map V.str)) ∧ H p2 = some (.tup (bs.map V.str)) ∧ as.length ≤ 100 ∧ bs.length ≤ 100 ∧
  ∀ H', Same H H' → Q (.int (((as.filter fun a => decide (a ∉ bs)).length : Int) + ((bs.filter fun a => decide (a ∉ as)).length : Int))) H'
def spToggles (CF CA : Addr) : Sp := fun vs H Q _ => ∃ (y1 y2 x : Addr) (ts : List (Str × Str)) (zs1 zs2 : List Str), vs = [.ref y1, .ref y2] ∧ AAt CA H y1 x zs1 ∧ AAt CA H y2 x zs2 ∧ FAt CF H x ts ∧ TreeOk ts ∧ zs1.length = zs2.length ∧ zs1.length ≤ 1000 ∧ (∀ z ∈ zs1, Pl ts z) ∧ (∀ z ∈ zs2, Pl ts z) ∧
  ∀ H', Same H H' → Q (.int (farS ts zs1 zs2)) H'
def spTraffic (CF CA : Addr) : Sp := fun vs H Q _ => ∃ (y1 y2 x : Addr) (ts : List (Str × Str)) (zs1 zs2 : List Str), vs = [.ref y1, .ref y2] ∧ AAt CA H y1 x zs1 ∧ AAt CA H y2 x zs2 ∧ FAt CF H x ts ∧ TreeOk ts ∧ zs1.length = zs2.length ∧ zs1.length ≤ 1000 ∧ (∀ z ∈ zs1, Pl ts z) ∧ (∀ z ∈ zs2, Pl ts z) ∧
  ∀ (p : Addr) (r : Str → Addr) (H' : Hp), Same H H' → H p = none → H' p = some (.dK (tblV (ts.map Prod.fst) fun a => .ref (r a))) → (∀ a ∈ ts.map Prod.fst, H' (r a) = some (.tup [.int (newU (hasU ts zs1 a) (hasU ts zs2 a)), .int (newU (hasU ts zs2 a) (hasU ts zs1 a))])) → Q (.ref p) H'
def bestB (ts : List (Str × Str)) (zs1 zs2 : List Str) : Bool := (ts.map Prod.fst).all fun a => decide (newU (hasU ts zs1 a) (hasU ts zs2 a) = 0) || decide (newU (hasU ts zs2 a) (hasU ts zs1 a) = 0)
def spIsBest (CF CA : Addr) : Sp := fun vs H Q _ => ∃ (y1 y2 x : Addr) (ts : List (Str × Str)) (zs1 zs2 : List Str), vs = [.ref y1, .ref y2] ∧ AAt CA H y1 x zs1 ∧ AAt CA H y2 x zs2 ∧ FAt CF H x ts ∧ TreeOk ts ∧ zs1.length = zs2.length ∧ zs1.length ≤ 1000 ∧ (∀ z ∈ zs1, Pl ts z) ∧ (∀ z ∈ zs2, Pl ts z) ∧
  ∀ H', Same H H' → Q (.bl (bestB ts zs1 zs2)) H'
end FT


/-! toggles flag by flag (plain maths) -/
namespace FT
open PySem L2 TL ClX LiI
def cntB (n : Nat) (c : Nat → Bool) : Int := (((List.range n).filter c).length : Int)
theorem cntB_more (n : Nat) (c : Nat → Bool) : cntB (n + 1) c = cntB n c + if c n = true then 1 else 0 := by
  unfold cntB
  rw [List.range_succ, List.filter_append, List.length_append]
  by_cases h : c n = true
  · rw [if_pos h, List.filter_cons, if_pos h] <;> rfl
  · rw [if_neg h, List.filter_cons, if_neg h] <;> rfl
theorem cntB_nn (n : Nat) (c : Nat → Bool) : 0 ≤ cntB n c := Int.natCast_nonneg _
theorem cntB_congr {n : Nat} {c d : Nat → Bool} (h : ∀ i, i < n → c i = d i) : cntB n c = cntB n d := by
  unfold cntB
  rw [List.filter_congr fun i hi => h i (List.mem_range.mp hi)]
theorem cntB_diff (n : Nat) (c d : Nat → Bool) : cntB n (fun i => c i != d i) = cntB n (fun i => d i && !c i) + cntB n (fun i => c i && !d i) ∧ cntB n d - cntB n c = cntB n (fun i => d i && !c i) - cntB n (fun i => c i && !d i) := by
  induction n with
  | zero => exact ⟨rfl, rfl⟩
  | succ n ih =>
    obtain ⟨h1, h2⟩ := ih
    rw [cntB_more, cntB_more, cntB_more, cntB_more, cntB_more]
    cases hc : c n <;> cases hd : d n <;> simp only [hc, hd, bne_self_eq_false, Bool.not_true, Bool.not_false, Bool.and_true, Bool.and_false, Bool.and_self, if_true, if_false, Bool.false_eq_true, reduceIte] <;> (constructor <;> first | omega | (simp; omega))
theorem cntB_zero {n : Nat} {c : Nat → Bool} (h : cntB n c = 0) : ∀ i, i < n → c i = false := fun i hi => by
  have z : (List.range n).filter c = [] := List.length_eq_zero_iff.mp (by unfold cntB at h; omega)
  cases e : c i with
  | false => rfl
  | true =>
    have := List.mem_filter.mpr ⟨List.mem_range.mpr hi, e⟩
    rw [z] at this
    cases this
theorem cntB_none {n : Nat} {c : Nat → Bool} (h : ∀ i, i < n → c i = false) : cntB n c = 0 := by
  rw [cntB_congr (d := fun _ => false) h]
  unfold cntB
  simp
section
variable {ts : List (Str × Str)} {zs zs' : List Str} {a : Str}
theorem szZ_cnt : szZ ts zs a = cntB zs.length (hasC ts zs a) := by
  have key : ∀ j, j ≤ zs.length → szZ ts (zs.take j) a = cntB j (hasC ts zs a) := by
    intro j
    induction j with
    | zero => intro _; rfl
    | succ j ih =>
      intro hj
      have e : zs[j]? = some zs[j] := List.getElem?_eq_getElem (by omega)
      rw [szZ_more e, ih (by omega), cntB_more]
      congr 1
      unfold hasC
      rw [e]
      by_cases m : a ∈ pathOf ts zs[j]
      · rw [if_pos m]
        show 1 = if decide (a ∈ pathOf ts zs[j]) = true then 1 else 0
        rw [if_pos (decide_eq_true m)]
      · rw [if_neg m]
        show 0 = if decide (a ∈ pathOf ts zs[j]) = true then 1 else 0
        rw [if_neg (by rw [decide_eq_false m]; decide)]
  have z := key zs.length (Nat.le_refl _)
  rw [List.take_length] at z
  exact z
theorem newU_cnt (el : zs.length = zs'.length) : newU (hasU ts zs a) (hasU ts zs' a) = cntB zs.length fun i => hasC ts zs' a i && !hasC ts zs a i := by
  unfold newU hasU selU
  rw [← el, List.filter_map, List.length_map, List.filter_filter]
  unfold cntB
  congr 2
  refine List.filter_congr fun i hi => ?_
  have lt := List.mem_range.mp hi
  show (decide ((i : Int) ∉ ((List.range zs.length).filter (hasC ts zs a)).map fun i : Nat => (i : Int)) && hasC ts zs' a i) = (hasC ts zs' a i && !hasC ts zs a i)
  rw [Bool.and_comm]
  congr 1
  by_cases m : hasC ts zs a i = true
  · rw [m, decide_eq_false]
    · rfl
    · exact fun z => z (List.mem_map.mpr ⟨i, List.mem_filter.mpr ⟨hi, m⟩, rfl⟩)
  · have m' : hasC ts zs a i = false := by simpa using m
    rw [m', decide_eq_true]
    · rfl
    · intro z
      obtain ⟨j, hj, e⟩ := List.mem_map.mp z
      have : j = i := by omega
      subst this
      exact m (List.mem_filter.mp hj).2
/-- the toggles of one flag -/
def alone (ts : List (Str × Str)) (zs zs' : List Str) (a : Str) : Int := cntB zs.length fun i => hasC ts zs a i != hasC ts zs' a i
theorem alone_traffic (el : zs.length = zs'.length) : alone ts zs zs' a = newU (hasU ts zs a) (hasU ts zs' a) + newU (hasU ts zs' a) (hasU ts zs a) := by
  rw [newU_cnt el, newU_cnt el.symm, ← el]
  exact (cntB_diff _ _ _).1
theorem sizes_traffic (el : zs.length = zs'.length) : szZ ts zs' a - szZ ts zs a = newU (hasU ts zs a) (hasU ts zs' a) - newU (hasU ts zs' a) (hasU ts zs a) := by
  rw [newU_cnt el, newU_cnt el.symm, szZ_cnt, szZ_cnt, ← el]
  exact (cntB_diff _ _ _).2
theorem newU_nn (xs ys : List Int) : 0 ≤ newU xs ys := Int.natCast_nonneg _
theorem alone_least (el : zs.length = zs'.length) : absI (szZ ts zs' a - szZ ts zs a) ≤ alone ts zs zs' a := by
  have h1 := alone_traffic (ts := ts) (a := a) el
  have h2 := sizes_traffic (ts := ts) (a := a) el
  have n1 := newU_nn (hasU ts zs a) (hasU ts zs' a)
  have n2 := newU_nn (hasU ts zs' a) (hasU ts zs a)
  unfold absI
  split <;> omega
theorem alone_one (el : zs.length = zs'.length) : alone ts zs zs' a = absI (szZ ts zs' a - szZ ts zs a) ↔ newU (hasU ts zs a) (hasU ts zs' a) = 0 ∨ newU (hasU ts zs' a) (hasU ts zs a) = 0 := by
  have h1 := alone_traffic (ts := ts) (a := a) el
  have h2 := sizes_traffic (ts := ts) (a := a) el
  have n1 := newU_nn (hasU ts zs a) (hasU ts zs' a)
  have n2 := newU_nn (hasU ts zs' a) (hasU ts zs a)
  unfold absI
  split <;> omega
theorem dist_sum (o : TreeOk ts) {p q : Str} (hp : Pl ts p) (hq : Pl ts q) : dist ts p q = ((ts.map Prod.fst).map fun b => if decide (b ∈ pathOf ts p) != decide (b ∈ pathOf ts q) then (1 : Int) else 0).sum := by
  have one : ∀ {p q : Str}, Pl ts p → (((pathOf ts p).filter fun b => decide (b ∉ pathOf ts q)).length : Int) = ((ts.map Prod.fst).map fun b => if b ∈ pathOf ts p ∧ b ∉ pathOf ts q then (1 : Int) else 0).sum := by
    intro p q hp
    have pm : ((pathOf ts p).filter fun b => decide (b ∉ pathOf ts q)).Perm ((ts.map Prod.fst).filter fun b => decide (b ∈ pathOf ts p ∧ b ∉ pathOf ts q)) := by
      refine (List.perm_ext_iff_of_nodup ((path_nd o hp).filter _) (o.nd.filter _)).mpr fun b => ?_
      rw [List.mem_filter, List.mem_filter]
      constructor
      · rintro ⟨m1, m2⟩
        exact ⟨path_all o hp b m1, decide_eq_true ⟨m1, of_decide_eq_true m2⟩⟩
      · rintro ⟨m1, m2⟩
        obtain ⟨m3, m4⟩ := of_decide_eq_true m2
        exact ⟨m3, decide_eq_true m4⟩
    rw [pm.length_eq]
    generalize ts.map Prod.fst = l
    induction l with
    | nil => rfl
    | cons b l ih =>
      rw [List.map_cons, List.sum_cons, ← ih]
      by_cases m : b ∈ pathOf ts p ∧ b ∉ pathOf ts q
      · rw [if_pos m, List.filter_cons, if_pos (decide_eq_true m), List.length_cons]
        omega
      · rw [if_neg m, List.filter_cons, if_neg (by rw [decide_eq_false m]; decide)]
        omega
  unfold dist
  rw [one hp, one hq, ← sum_map_add]
  congr 1
  refine List.map_congr_left fun b _ => ?_
  by_cases m1 : b ∈ pathOf ts p <;> by_cases m2 : b ∈ pathOf ts q <;> simp [m1, m2]
theorem far_sum (o : TreeOk ts) (el : zs.length = zs'.length) (pl : ∀ z ∈ zs, Pl ts z) (pl' : ∀ z ∈ zs', Pl ts z) : farS ts zs zs' = ((ts.map Prod.fst).map fun b => alone ts zs zs' b).sum := by
  have key : ∀ j, j ≤ zs.length → (((zs.zip zs').take j).map fun e => dist ts e.1 e.2).sum = ((ts.map Prod.fst).map fun b => cntB j fun i => hasC ts zs b i != hasC ts zs' b i).sum := by
    intro j
    induction j with
    | zero =>
      intro _
      rw [List.take_zero, sum_map_zero (f := fun b => cntB 0 fun i => hasC ts zs b i != hasC ts zs' b i) fun b _ => rfl] <;> rfl
    | succ j ih =>
      intro hj
      have e1 : zs[j]? = some zs[j] := List.getElem?_eq_getElem (by omega)
      have e2 : zs'[j]? = some zs'[j] := List.getElem?_eq_getElem (by omega)
      have ez : (zs.zip zs')[j]? = some (zs[j], zs'[j]) := by
        rw [List.getElem?_zip_eq_some]
        exact ⟨e1, e2⟩
      rw [take_more ez, List.map_append, List.sum_append, ih (by omega)]
      show _ + (dist ts zs[j] zs'[j] + 0) = _
      rw [Int.add_zero, dist_sum o (pl _ (List.getElem_mem _)) (pl' _ (List.getElem_mem _)), ← sum_map_add]
      congr 1
      refine List.map_congr_left fun b _ => ?_
      rw [cntB_more]
      unfold hasC
      rw [e1, e2]
  have z := key zs.length (Nat.le_refl _)
  rw [List.take_of_length_le (by rw [List.length_zip]; omega)] at z
  exact z
end
end FT


/-! what a best change is (plain maths) -/
namespace FT
open PySem L2 TL ClX LiI
section
variable {ts : List (Str × Str)} {zs zs' : List Str} {c : Str → Int}
theorem best_len (b : BestOf ts c zs zs') : zs'.length = zs.length := by
  obtain ⟨L', _, _, rfl⟩ := b
  unfold usr
  rw [List.length_map, List.length_map, List.length_range]
theorem best_at (b : BestOf ts c zs zs') : ∃ L' : Str → List Int, MovedP ts c (atU zs) L' ∧ Val ts zs.length L' ∧ ∀ (i : Nat) (x : Str), zs'[i]? = some x → Pl ts x ∧ (i : Int) ∈ L' x := by
  obtain ⟨L', m, v, rfl⟩ := b
  refine ⟨L', m, v, fun i x h => ?_⟩
  unfold usr at h
  rw [List.getElem?_map, List.getElem?_map] at h
  obtain ⟨u, hu, rfl⟩ := Option.map_eq_some_iff.mp h
  obtain ⟨k, hk, rfl⟩ := Option.map_eq_some_iff.mp hu
  have lt := (List.getElem?_eq_some_iff.mp hk).1
  rw [List.length_range] at lt
  rw [List.getElem?_range lt] at hk
  cases hk
  exact plOf_at v (by omega) (by omega)
theorem best_pl (b : BestOf ts c zs zs') : ∀ z ∈ zs', Pl ts z := fun z hz => by
  obtain ⟨L', _, _, h⟩ := best_at b
  obtain ⟨i, hi⟩ := List.mem_iff_getElem?.mp hz
  exact (h i z hi).1
theorem best_sizes (o : TreeOk ts) (pl : ∀ z ∈ zs, Pl ts z) (b : BestOf ts c zs zs') {a : Str} (ha : a ∈ ts.map Prod.fst) : szZ ts zs' a = szZ ts zs a + c a := by
  have bl := best_len b
  have bp := best_pl b
  obtain ⟨L', m, v, h⟩ := best_at b
  have le0 := lsz_lens o (val_len (atU_val o pl))
  have le := movedP_lens o m le0
  have le' : Lens ts (zs.length : Int) (fun x => lsz ts (atU zs) x + c x) (atU zs') := fun p hp => by
    rw [← le p hp]
    congr 1
    refine List.Perm.length_eq ((List.perm_ext_iff_of_nodup ?_ ?_).mpr fun u => ?_)
    · unfold atU selU
      refine List.nodup_iff_pairwise_ne.mpr (List.pairwise_map.mpr (((List.nodup_iff_pairwise_ne.mp List.nodup_range).filter _).imp fun h e => h ?_))
      omega
    · have nd : ((pls ts).flatMap L').Nodup := v.nodup_iff.mpr (usr_nd _)
      exact List.nodup_iff_pairwise_ne.mpr ((List.pairwise_flatMap.mp (List.nodup_iff_pairwise_ne.mp nd)).1 p (mem_pls.mpr hp))
    · constructor
      · intro hu
        obtain ⟨i, rfl, i1, i2⟩ := mem_selU.mp hu
        exact (h i p (of_decide_eq_true i2)).2
      · intro hu
        obtain ⟨u0, u1⟩ := mem_usr.mp (v.mem_iff.mp (List.mem_flatMap.mpr ⟨p, mem_pls.mpr hp, hu⟩))
        have lt : u.toNat < zs'.length := by omega
        have e := List.getElem?_eq_getElem lt
        obtain ⟨q1, q2⟩ := h _ _ e
        rw [show ((u.toNat : Nat) : Int) = u by omega] at q2
        have pq := one_place v hp q1 hu q2
        exact mem_selU.mpr ⟨u.toNat, by omega, lt, decide_eq_true (by rw [e, pq])⟩
  have z := lens_lsz o le' ha
  rw [atU_lsz o bp ha] at z
  rw [z]
  show lsz ts (atU zs) a + c a = _
  rw [atU_lsz o pl ha]
theorem best_one (o : TreeOk ts) (pl : ∀ z ∈ zs, Pl ts z) (b : BestOf ts c zs zs') (a : Str) : newU (hasU ts zs a) (hasU ts zs' a) = 0 ∨ newU (hasU ts zs' a) (hasU ts zs a) = 0 := by
  have bl := best_len b
  obtain ⟨L', m, v, h⟩ := best_at b
  have way : ∀ i, i < zs.length → (hasC ts zs' a i = true → hasC ts zs a i = false → 0 < c a) ∧ (hasC ts zs a i = true → hasC ts zs' a i = false → c a < 0) := by
    intro i lt
    have e1 := List.getElem?_eq_getElem lt
    have e2 : zs'[i]? = some zs'[i] := List.getElem?_eq_getElem (by omega)
    obtain ⟨q1, q2⟩ := h _ _ e2
    obtain ⟨p, hp, up, rc⟩ := movedP_rc o m q1 q2
    obtain ⟨j, ej, j1, j2⟩ := mem_selU.mp up
    have ij : i = j := by omega
    subst ij
    have pz : zs[i] = p := Option.some.inj (e1.symm.trans (of_decide_eq_true j2))
    obtain ⟨r1, r2⟩ := rc_dir o rc a
    unfold hasC
    rw [e1, e2, pz]
    show (decide (a ∈ pathOf ts zs'[i]) = true → decide (a ∈ pathOf ts p) = false → 0 < c a) ∧ (decide (a ∈ pathOf ts p) = true → decide (a ∈ pathOf ts zs'[i]) = false → c a < 0)
    exact ⟨fun x y => r2 (of_decide_eq_false y) (of_decide_eq_true x), fun x y => r1 (of_decide_eq_true x) (of_decide_eq_false y)⟩
  by_cases pos : 0 < c a
  · refine .inr ?_
    rw [newU_cnt bl]
    refine cntB_none fun i hi => ?_
    cases x : hasC ts zs a i with
    | false => rfl
    | true =>
      cases y : hasC ts zs' a i with
      | true => rfl
      | false =>
        have := (way i (by omega)).2 x y
        omega
  · refine .inl ?_
    rw [newU_cnt bl.symm]
    refine cntB_none fun i hi => ?_
    cases x : hasC ts zs' a i with
    | false => rfl
    | true =>
      cases y : hasC ts zs a i with
      | true => rfl
      | false => exact absurd ((way i hi).1 x y) pos
end
/-- sums of numbers, one by one at least as large -/
theorem sums_eq {l : List Str} {f g : Str → Int} (h : ∀ a ∈ l, f a ≤ g a) : (l.map f).sum ≤ (l.map g).sum ∧ ((l.map g).sum = (l.map f).sum ↔ ∀ a ∈ l, g a = f a) := by
  induction l with
  | nil => exact ⟨Int.le_refl _, fun _ a ha => (by cases ha), fun _ => rfl⟩
  | cons b l ih =>
    obtain ⟨h1, h2⟩ := ih fun a ha => h a (List.mem_cons_of_mem _ ha)
    have hb := h b (List.mem_cons_self ..)
    rw [List.map_cons, List.map_cons, List.sum_cons, List.sum_cons]
    refine ⟨by omega, fun e a ha => ?_, fun e => ?_⟩
    · rcases List.mem_cons.mp ha with rfl | ha
      · omega
      · exact h2.mp (by omega) a ha
    · have := e b (List.mem_cons_self ..)
      have := h2.mpr fun a ha => e a (List.mem_cons_of_mem _ ha)
      omega
/-- all toggles: at least the least, and just so many exactly if every flag only gets or only loses -/
theorem far_least {ts : List (Str × Str)} {zs zs' : List Str} (o : TreeOk ts) (el : zs.length = zs'.length) (pl : ∀ z ∈ zs, Pl ts z) (pl' : ∀ z ∈ zs', Pl ts z) :
    ((ts.map Prod.fst).map fun a => absI (szZ ts zs' a - szZ ts zs a)).sum ≤ farS ts zs zs' ∧ decide (farS ts zs zs' = ((ts.map Prod.fst).map fun a => absI (szZ ts zs' a - szZ ts zs a)).sum) = bestB ts zs zs' := by
  obtain ⟨h1, h2⟩ := sums_eq (l := ts.map Prod.fst) (f := fun a => absI (szZ ts zs' a - szZ ts zs a)) (g := fun a => alone ts zs zs' a) fun a _ => alone_least el
  rw [far_sum o el pl pl']
  refine ⟨h1, ?_⟩
  rw [Bool.eq_iff_iff, decide_eq_true_eq, h2]
  unfold bestB
  rw [List.all_eq_true]
  refine forall_congr' fun a => forall_congr' fun _ => ?_
  show alone ts zs zs' a = absI _ ↔ _
  rw [alone_one el, Bool.or_eq_true, decide_eq_true_eq, decide_eq_true_eq]
end FT


/-! xs.count(y), flat items -/
namespace L2
open PySem PySem.Spec PyProof.Rows
theorem countP_eqU {x : V} : ∀ {xs : List V} {us : List Value}, Vals xs us → xs.all flatV = true → us.countP (eqU x) = xs.countP fun y => eqV y x
  | _, _, .nil, _ => rfl
  | y :: xs, u :: us, .cons r t, f => by
    rw [List.all_cons, Bool.and_eq_true] at f
    rw [List.countP_cons, List.countP_cons, countP_eqU t f.2, eqU_of r f.1]
def rCntF (K : PySem.W.Frag) : V → List V → Hp → VK → Prop := fun x xs H Q => ∃ (a : Addr) (ys : List V) (y : V), x = .ref a ∧ xs = [y] ∧ SqL K H a ys ∧ flatV y = true ∧ ys.all flatV = true ∧ Q (.int ((ys.countP fun z => eqV z y : Nat) : Int)) H
variable {X : Cx}
theorem mt_countF : MtR X "list.count" (rCntF X.K) := by
  intro pins s σ H x xs v us Q I rx rxs ⟨a, ys, y, ex, exs, hs, fy, fys, q⟩
  subst ex
  subst exs
  cases rx
  match us, rxs with
  | [uy], .cons ry .nil =>
    obtain ⟨its, rv, ⟨⟨cls, dd, data, sl⟩, n, ho, hc, hdn, hd⟩, hlen⟩ := I.list hs
    simp only at hc hd
    subst hc hd
    refine call_meets PySem.F.slot_list_count ⟨_, ho, rfl⟩ PySem.F.entry_list_count (PySem.F.args_list_count_2 _ _)
      (SeqAt.list_countAt a its.toArray n dd sl uy (eqU y)) ⟨ho, fun u hu => mem_eqAt ry fy rv fys u (by simpa using hu), ?_⟩
    refine ⟨.int ((ys.countP fun z => eqV z y : Nat) : Int), H, I.tok _, ⟨s.toks, ?_⟩, q⟩
    show Value.int ((its.toArray.toList.countP (eqU y) : Nat) : Int) s.toks = Value.int ((ys.countP fun z => eqV z y : Nat) : Int) s.toks
    rw [show its.toArray.toList = its from rfl, countP_eqU rv fys]
end L2


/-! the law's toggles: of a user, of a flag -/
namespace FT
open PySem L2 TL ClX LiI
def distT (t : List (Str × Str)) (p g : Str) : Int := (((t.map Prod.fst).filter fun b => decide (b ∈ pathOf t p) != decide (b ∈ pathOf t g)).length : Int)
theorem distT_dist {ts t : List (Str × Str)} (o : TreeOk ts) (pt : ts.Perm t) {p g : Str} (hp : Pl ts p) (hg : Pl ts g) : distT t p g = dist ts p g := by
  rw [dist_sum o hp hg]
  unfold distT
  have e : ((t.map Prod.fst).filter fun b => decide (b ∈ pathOf t p) != decide (b ∈ pathOf t g)) = (t.map Prod.fst).filter fun b => decide (b ∈ pathOf ts p) != decide (b ∈ pathOf ts g) := by
    rw [path_perm o.nd pt, path_perm o.nd pt]
  rw [e, (((pt.symm.map Prod.fst).filter _).length_eq)]
  generalize ts.map Prod.fst = l
  induction l with
  | nil => rfl
  | cons b l ih =>
    rw [List.map_cons, List.sum_cons, ← ih, List.filter_cons]
    by_cases m : (decide (b ∈ pathOf ts p) != decide (b ∈ pathOf ts g)) = true
    · rw [if_pos m, if_pos m, List.length_cons]
      omega
    · rw [if_neg m, if_neg m]
      omega
theorem alone_perm {ts t : List (Str × Str)} (o : TreeOk ts) (pt : ts.Perm t) (zs zs' : List Str) (a : Str) : alone t zs zs' a = alone ts zs zs' a := by
  unfold alone hasC
  refine cntB_congr fun i _ => ?_
  cases zs[i]? <;> cases zs'[i]? <;> simp only [path_perm o.nd pt]
def spFar : Sp := fun vs H Q _ => ∃ (q : Addr) (p g : Str) (t : List (Str × Str)), vs = [.ref q, .str p, .str g] ∧ H q = some (.dK (prs t)) ∧ TreeOk t ∧ Pl t p ∧ Pl t g ∧ ∀ H', Same H H' → Q (.int (distT t p g)) H'
def spAlone : Sp := fun vs H Q _ => ∃ (q l1 l2 : Addr) (a : Str) (t : List (Str × Str)) (zs zs' : List Str), vs = [.ref q, .ref l1, .ref l2, .str a] ∧ Rd H q (.dK (prs t)) ∧ TreeOk t ∧ H l1 = some (.lst (zs.map V.str)) ∧ H l2 = some (.lst (zs'.map V.str)) ∧ zs.length = zs'.length ∧ zs.length ≤ 100 ∧ (∀ z ∈ zs, Pl t z) ∧ (∀ z ∈ zs', Pl t z) ∧
  ∀ H', Same H H' → Q (.int (alone t zs zs' a)) H'
section
variable {P : Program} {w : World} {K : PySem.W.Frag} {mg : Str → Option Value} {base : Heap}
abbrev NFa : List Str := ["_law_above", "_law_spot", "_law_goal", "_law_here", "_law_there", "_law_name"]
theorem scFa : FnScope NFa ["_law_above", "_law_spot", "_law_goal"] (defScope s__law_far) := ⟨rfl, rfl, rfl, by decide +kernel, rfl, by decide +kernel, by decide +kernel⟩
theorem ok_far {f fP : Addr} {fd fdP : FuncData} (F : Fun K "_law_far" "_law_far" s__law_far f fd) (T : Nm mg) (DP : Dn P w K mg base CX0 1 "_law_path" ["_law_above", "_law_spot"] spPath fP fdP) : FnOk P w K mg base CX0 2 f fd ["_law_above", "_law_spot", "_law_goal"] spFar := by
  refine F.ok scFa (fun vs H Q E h => ?_) (fun cdv A outer s H vs Q E hr h => ?_)
  · obtain ⟨q, p, g, t, rfl, _⟩ := h
    rfl
  · obtain ⟨q, p, g, t, rfl, hq, o, pp, pg, k⟩ := h
    have hu := hu_of hr
    have nd := scFa.nd
    have big : 1000 ≤ sizeLine := by decide
    have few := o.few
    refine ⟨_, pss_cons (ps_asg (pe_tup (pa_cons (pe_call DP.ok hr rfl DP.mgn DP.kp DP.bn .nil pass0 (pa_cons (pv 0) (pa_cons (pv 1) pa_nil))) (pa_cons (pe_call DP.ok hr rfl DP.mgn DP.kp DP.bn .nil pass0 (pa_cons (pv 0) (pa_cons (pv 2) pa_nil))) pa_nil)))
        (pg_tup rfl (pgs_cons (pg_name (i := 3) nd rfl (.inr rfl)) (pgs_cons (pg_name (i := 4) nd rfl (.inr rfl)) pgs_nil))))
      (pss_one (ps_ret (pe_callB call_len_seq (by rfl) T.len PySem.boot_len (pa_cons (pe_lock (pe_lc (own := [("_law_name", 5)]) (g := gName 5) (tt := tTest (tOp rNe (tOp (rIn K false) (tVar 5) (tVar 3)) (tOp (rIn K false) (tVar 5) (tVar 4)))) (te := tVar 5) rfl nd (pi_keys (pv 0)) (blkOk_by (N := NFa) (sc := defScope s__law_far) (by decide +kernel))
        (fun _ _ _ _ _ => pg_name (i := 5) nd rfl (Or.inl rfl)) (fun _ _ _ _ _ => pts_one (pt_cmpR op_ne (pe_cmpR op_in_seq (pv 5) (pv 3) rfl) (pe_cmpR op_in_seq (pv 5) (pv 4) rfl) (nomark _))) (fun _ _ _ _ _ => pv 5))) pa_nil)))), ?_⟩
    refine ⟨_, rfl, _, rfl, q, p, t, rfl, .inl hq, o, pp, fun p1 H1 s1 n1 h1 => ?_⟩
    refine ⟨_, rfl, _, rfl, q, g, t, rfl, .inl (s1 _ _ hq), o, pg, fun p2 H2 s2 n2 h2 => ?_⟩
    refine ⟨by show 2 ≤ sizeLine; omega, fun tp ntp => ⟨tp, _, rfl, .inl (.inl upd_same), rfl, _, _, rfl, _, _, rfl, rfl, ?_⟩⟩
    have tt := same_new (o := .tup [.ref p1, .ref p2]) ntp
    obtain ⟨H3, e3⟩ : ∃ X, X = upd H2 tp (.tup [.ref p1, .ref p2]) := ⟨_, rfl⟩
    have s03 : Same H H3 := e3 ▸ (s1.trans s2).trans tt
    have h1 : H3 p1 = some (.tup ((pathOf t p).map V.str)) := by rw [e3]; exact tt _ _ (s2 _ _ h1)
    have h2 : H3 p2 = some (.tup ((pathOf t g).map V.str)) := by rw [e3]; exact tt _ _ h2
    rw [← e3]
    have hq3 := s03 _ _ hq
    refine ⟨q, _, hq3, trivial, fun od => ⟨_, rfl, q, od, rfl, .inl ⟨_, upd_same, fun D nD => ?_⟩⟩⟩
    have Dq : D ≠ q := (ne_of_none upd_same nD).symm
    have offq : ∀ {b u}, b ≠ q → H3 b = some u → (upd H3 q (.frz od (.dK (prs t)))) b = some u := fun {b u} n e => by rw [upd_ne n]; exact e
    have p1q : p1 ≠ q := ne_of h1 hq3 (by intro z; cases z)
    have p2q : p2 ≠ q := ne_of h2 hq3 (by intro z; cases z)
    refine lc_it walk_keys (fun i H' => Same (upd H3 q (.frz od (.dK (prs t)))) H' ∧ H' D = some (.lst ((((t.map Prod.fst).take i).filter fun b => decide (b ∈ pathOf t p) != decide (b ∈ pathOf t g)).map V.str))) ⟨same_new nD, upd_same⟩ (fun i H' _ z => z.1 _ _ upd_same) ?_ ?_
    · intro i y Hz Ha hi ⟨q1, q2⟩ ⟨eb, kk, vv, hk, ey⟩
      subst eb
      subst ey
      obtain ⟨⟨b, pb⟩, hp, ee⟩ : ∃ z : Str × Str, t[i]? = some z ∧ (kk, vv) = (Sum.inr z.1, V.str z.2) := by
        unfold prs kvT at hk
        rw [List.map_map, List.getElem?_map] at hk
        obtain ⟨z, hz, e⟩ := Option.map_eq_some_iff.mp hk
        exact ⟨z, hz, e.symm⟩
      cases ee
      rw [show kV (Sum.inr b) = V.str b from rfl]
      have hb : (t.map Prod.fst)[i]? = some b := by rw [List.getElem?_map, hp] <;> rfl
      refine ⟨rfl, ?_⟩
      refine ⟨_, rfl, _, rfl, p1, _, rfl, .inr (.inl (.inl (q1 _ _ (offq p1q h1)))), rfl, flat_strs _, ?_⟩
      refine ⟨_, rfl, _, rfl, p2, _, rfl, .inr (.inl (.inl (q1 _ _ (offq p2q h2)))), rfl, flat_strs _, ?_⟩
      rw [show (if false = true then !inV (V.str b) ((pathOf t p).map V.str) else inV (V.str b) ((pathOf t p).map V.str)) = decide (b ∈ pathOf t p) from inV_strs b _,
        show (if false = true then !inV (V.str b) ((pathOf t g).map V.str) else inV (V.str b) ((pathOf t g).map V.str)) = decide (b ∈ pathOf t g) from inV_strs b _]
      refine ⟨rfl, _, rfl, ?_⟩
      have more := filter_more (c := fun b => decide (b ∈ pathOf t p) != decide (b ∈ pathOf t g)) hb
      have lf := List.length_filter_le (fun b => decide (b ∈ pathOf t p) != decide (b ∈ pathOf t g)) ((t.map Prod.fst).take i)
      rw [List.length_take, List.length_map] at lf
      rw [show (!decide (V.bl (decide (b ∈ pathOf t p)) = V.bl (decide (b ∈ pathOf t g)))) = (decide (b ∈ pathOf t p) != decide (b ∈ pathOf t g)) by
        cases decide (b ∈ pathOf t p) <;> cases decide (b ∈ pathOf t g) <;> rfl]
      refine ite2 (fun yes => ?_) (fun no => ?_)
      · rw [if_pos yes] at more
        exact ⟨_, rfl, _, q2, by rw [List.length_map]; omega, q1.put nD, by rw [upd_same, more, List.map_append] <;> rfl⟩
      · rw [if_neg no, List.append_nil] at more
        exact ⟨q1, by rw [more]; exact q2⟩
    · intro H4 ⟨q1, q2⟩
      rw [prs_len, ← List.length_map (f := Prod.fst) (as := t), List.take_length] at q2
      refine ⟨q1 _ _ upd_same, D, _, rfl, .inl (SqL.of (by rw [upd_ne Dq]; exact q2)), ?_⟩
      rw [List.length_map]
      exact k _ (s03.trans (unlock_same hq3 q1))
end
end FT


/-! all lists of places with given residents -/
namespace FT
open PySem L2 TL ClX LiI
def lessF (f : Str → Int) (p : Str) : Str → Int := fun q => if q = p then f p - 1 else f q
def evN (ks : List Str) : Nat → (Str → Int) → List (List Str)
  | 0, _ => [[]]
  | m + 1, f => ks.flatMap fun p => if 0 < f p then (evN ks m (lessF f p)).map (p :: ·) else []
theorem evN_len (ks : List Str) : ∀ (m : Nat) (f : Str → Int), (evN ks m f).length ≤ ks.length ^ m
  | 0, _ => Nat.le_refl _
  | m + 1, f => by
    have key : ∀ l : List Str, (l.flatMap fun p => if 0 < f p then (evN ks m (lessF f p)).map (p :: ·) else []).length ≤ l.length * ks.length ^ m := by
      intro l
      induction l with
      | nil => exact Nat.zero_le _
      | cons a l ih =>
        rw [List.flatMap_cons, List.length_append, List.length_cons, Nat.succ_mul]
        have : (if 0 < f a then (evN ks m (lessF f a)).map (a :: ·) else []).length ≤ ks.length ^ m := by
          split
          · rw [List.length_map]
            exact evN_len ks m _
          · exact Nat.zero_le _
        omega
    have z := key ks
    rw [Nat.pow_succ, Nat.mul_comm]
    exact z
theorem less_sum {ks : List Str} (nd : ks.Nodup) {f : Str → Int} {p : Str} (hp : p ∈ ks) : (ks.map (lessF f p)).sum = (ks.map f).sum - 1 := by
  have z := sum_upd (f := f) (f' := lessF f p) (d := -1) nd hp fun x _ => by
    unfold lessF
    by_cases e : x = p
    · rw [if_pos e, if_pos e, e]
      omega
    · rw [if_neg e, if_neg e]
      omega
  omega
theorem evN_mem {ks : List Str} (nd : ks.Nodup) : ∀ (m : Nat) (f : Str → Int), (∀ a ∈ ks, 0 ≤ f a) → (ks.map f).sum = m → ∀ W, W ∈ evN ks m f ↔ W.length = m ∧ (∀ z ∈ W, z ∈ ks) ∧ ∀ p ∈ ks, (W.count p : Int) = f p
  | 0, f, nn, sm, W => by
    have z0 : ∀ a ∈ ks, f a = 0 := by
      have := (sums_eq (l := ks) (f := fun _ => 0) (g := f) nn).2.mp (by rw [sm, sum_map_zero fun _ _ => rfl] <;> rfl)
      exact this
    show W ∈ [[]] ↔ _
    rw [List.mem_singleton]
    constructor
    · rintro rfl
      exact ⟨rfl, fun z h => (by cases h), fun p hp => by rw [z0 p hp] <;> rfl⟩
    · rintro ⟨h, _, _⟩
      exact List.length_eq_zero_iff.mp h
  | m + 1, f, nn, sm, W => by
    show W ∈ ks.flatMap _ ↔ _
    rw [List.mem_flatMap]
    have sub : ∀ {p}, p ∈ ks → 0 < f p → (∀ a ∈ ks, 0 ≤ lessF f p a) ∧ (ks.map (lessF f p)).sum = m := fun {p} hp pos => by
      refine ⟨fun a ha => ?_, by rw [less_sum nd hp, sm]; omega⟩
      unfold lessF
      split
      · omega
      · exact nn a ha
    constructor
    · rintro ⟨p, hp, h⟩
      by_cases pos : 0 < f p
      · rw [if_pos pos] at h
        obtain ⟨R, hR, rfl⟩ := List.mem_map.mp h
        obtain ⟨r1, r2, r3⟩ := (evN_mem nd m _ (sub hp pos).1 (sub hp pos).2 R).mp hR
        refine ⟨by rw [List.length_cons, r1], fun z hz => (List.mem_cons.mp hz).elim (fun e => e ▸ hp) (r2 z), fun q hq => ?_⟩
        have z := r3 q hq
        unfold lessF at z
        rw [List.count_cons]
        by_cases e : q = p
        · rw [if_pos e] at z
          subst e
          rw [if_pos (beq_self_eq_true _)]
          omega
        · rw [if_neg e] at z
          rw [if_neg (by rw [beq_iff_eq]; exact fun w => e w.symm)]
          omega
      · rw [if_neg pos] at h
        cases h
    · rintro ⟨h1, h2, h3⟩
      cases W with
      | nil => cases h1
      | cons p R =>
        have hp := h2 p (List.mem_cons_self ..)
        have z := h3 p hp
        rw [List.count_cons, if_pos (beq_self_eq_true _)] at z
        have pos : 0 < f p := by omega
        refine ⟨p, hp, ?_⟩
        rw [if_pos pos]
        refine List.mem_map.mpr ⟨R, (evN_mem nd m _ (sub hp pos).1 (sub hp pos).2 R).mpr ⟨by rw [List.length_cons] at h1; omega, fun w hw => h2 w (List.mem_cons_of_mem _ hw), fun q hq => ?_⟩, rfl⟩
        have y := h3 q hq
        rw [List.count_cons] at y
        unfold lessF
        by_cases e : q = p
        · rw [if_pos e]
          subst e
          omega
        · rw [if_neg e]
          rw [if_neg (by rw [beq_iff_eq]; exact fun w => e w.symm)] at y
          omega
def spEvery (m : Nat) : Sp := fun vs H Q _ => ∃ (q ql : Addr) (ks0 ks : List Str) (f : Str → Int), vs = [.ref q, .ref ql] ∧ H ql = some (.dK (tblI ks0 f)) ∧ ks0.Nodup ∧ ks.Perm ks0 ∧ PyProof.Rows.sortedS ks = true ∧ ks0.length ≤ 5 ∧ m ≤ 5 ∧ (∀ a ∈ ks0, 0 ≤ f a) ∧ (ks0.map f).sum = m ∧
  ∀ (p : Addr) (rs : List Addr) (H' : Hp), Same H H' → H p = none → H' p = some (.lst (rs.map V.ref)) → Paired (fun (r : Addr) (W : List Str) => H' r = some (.lst (W.map V.str))) rs (evN ks m f) → Q (.ref p) H'
theorem pair_app2 {α β : Type} {F : α → β → Prop} : ∀ {xs xs' : List α} {ys ys' : List β}, Paired F xs ys → Paired F xs' ys' → Paired F (xs ++ xs') (ys ++ ys')
  | _, _, _, _, .nil, q => q
  | _, _, _, _, .cons h t, q => .cons h (pair_app2 t q)
theorem pair_imp2 {α β : Type} {F G : α → β → Prop} (m : ∀ x y, F x y → G x y) : ∀ {xs : List α} {ys : List β}, Paired F xs ys → Paired G xs ys
  | _, _, .nil => .nil
  | _, _, .cons h t => .cons (m _ _ h) (pair_imp2 m t)
section
variable {P : Program} {w : World} {K : PySem.W.Frag} {mg : Str → Option Value} {base : Heap}
abbrev NEv : List Str := ["_law_above", "_law_left", "_law_found", "_law_spot", "_law_fewer", "_law_rest"]
theorem scEv : FnScope NEv ["_law_above", "_law_left"] (defScope s__law_every) := ⟨rfl, rfl, rfl, by decide +kernel, rfl, by decide +kernel, by decide +kernel⟩
theorem tblI_snd (l : List Str) (f : Str → Int) : (tblI l f).map (·.2) = (l.map f).map V.int := by
  rw [tblV_int]
  unfold tblV kvT
  rw [List.map_map, List.map_map, List.map_map] <;> rfl
theorem ok_every0 {f : Addr} {fd : FuncData} (F : Fun K "_law_every" "_law_every" s__law_every f fd) (T : Nm mg) : FnOk P w K mg base CX0 1 f fd ["_law_above", "_law_left"] (spEvery 0) := by
  refine F.ok scEv (fun vs H Q E h => ?_) (fun cdv A outer s H vs Q E hr h => ?_)
  · obtain ⟨q, ql, ks0, ks, g, rfl, _⟩ := h
    rfl
  · obtain ⟨q, ql, ks0, ks, g, rfl, hl, nd0, pk, srt, l5, m5, nn, sm, k⟩ := h
    have hu := hu_of hr
    have big : 1000 ≤ sizeLine := by decide
    refine ⟨_, pss_cons (ps_if (pt_cmpR op_eq (pe_callB (cr_sumV rfl) (by rfl) T.sum (by decide +kernel) (pa_cons (pe_bm0 PySem.F.plainAttrs_dict PySem.F.slot_dict_values PySem.F.type_dict_values mt_dvals (pv 1)) pa_nil)) pe_int (nomark _))
        (pss_one (ps_ret (pe_lst (pa_cons (pe_lst pa_nil) pa_nil)))) pss_nil) pss_never, ?_⟩
    refine ⟨_, rfl, .inr (.inr (.inl ⟨rfl, .inl ⟨_, hl⟩⟩)), ql, _, rfl, rfl, hl, fun v nv => ?_⟩
    have tv := same_new (o := VwO v ql) nv
    refine ⟨v, ql, _, ks0.map g, rfl, upd_same, tv _ _ hl, tblI_snd _ _, rfl, _, rfl, ?_⟩
    rw [sm]
    show if true = true then _ else _
    rw [if_pos rfl]
    refine ⟨by show 0 ≤ sizeLine; omega, fun r nr => ⟨by show 1 ≤ sizeLine; omega, fun p np => ?_⟩⟩
    have tr := same_new (o := .lst ([] : List V)) nr
    have tp := same_new (o := .lst [V.ref r]) np
    refine k p [r] _ ((tv.trans tr).trans tp) (tv.free (tr.free np)) upd_same (.cons ?_ .nil)
    exact tp _ _ upd_same
theorem ok_everyS {m : Nat} {f : Addr} {fd : FuncData} (F : Fun K "_law_every" "_law_every" s__law_every f fd) (T : Nm mg) (D : Dn P w K mg base CX0 (m + 1) "_law_every" ["_law_above", "_law_left"] (spEvery m) f fd) : FnOk P w K mg base CX0 (m + 2) f fd ["_law_above", "_law_left"] (spEvery (m + 1)) := by
  refine F.ok scEv (fun vs H Q E h => ?_) (fun cdv A outer s H vs Q E hr h => ?_)
  · obtain ⟨q, ql, ks0, ks, g, rfl, _⟩ := h
    rfl
  · obtain ⟨q, ql, ks0, ks, g, rfl, hl, nd0, pk, srt, l5, m5, nn, sm, k⟩ := h
    have hu := hu_of hr
    have nd := scEv.nd
    have big : 4000 ≤ sizeLine := by decide
    refine ⟨_, pss_cons (ps_if (pt_cmpR op_eq (pe_callB (cr_sumV rfl) (by rfl) T.sum (by decide +kernel) (pa_cons (pe_bm0 PySem.F.plainAttrs_dict PySem.F.slot_dict_values PySem.F.type_dict_values mt_dvals (pv 1)) pa_nil)) pe_int (nomark _)) pss_never pss_nil)
      (pss_cons (ps_set (i := 2) nd rfl (.inl rfl) (pe_lst pa_nil))
      (pss_cons (ps_for PassesOwn.never rfl (pi_list (pe_callB (call_sortedD rfl) (by rfl) T.srt (by decide +kernel) (pa_cons (pv 1) pa_nil))) (pg_name (i := 3) nd rfl (.inr rfl))
        (pss_one (ps_if (pt_cmpR op_gt (pe_dget hu (pv 1) (pv 3) (fun _ _ => rfl)) pe_int (nomark _))
          (pss_cons (ps_set (i := 4) nd rfl (.inl rfl) (pe_callTy call_dictD (by rfl) T.dct (by decide +kernel) (pa_cons (pv 1) pa_nil)))
          (pss_cons (ps_dput hu (pv 4) (pv 3) (pe_op op_sub (pe_dget hu (pv 4) (pv 3) (fun _ _ => rfl)) pe_int) rfl)
          (pss_one (ps_set (i := 2) nd rfl (.inl rfl) (pe_op op_cat (pv 2) (pe_lc (own := [("_law_rest", 5)]) (g := gName 5) (tt := tYes) rfl nd (pi_list (pe_call D.ok hr rfl D.mgn D.kp D.bn .nil pass0 (pa_cons (pv 0) (pa_cons (pv 4) pa_nil))))
            (blkOk_by (N := NEv) (sc := defScope s__law_every) (by decide +kernel)) (fun _ _ _ _ _ => pg_name (i := 5) nd rfl (Or.inl rfl)) (fun _ _ _ _ _ => pts_nil) (fun _ _ _ _ _ => pe_op op_cat (pe_lst (pa_cons (pv 3) pa_nil)) (pv 5)))))))) pss_nil)))
      (pss_one (ps_ret (pv 2))))), ?_⟩
    refine ⟨_, rfl, .inr (.inr (.inl ⟨rfl, .inl ⟨_, hl⟩⟩)), ql, _, rfl, rfl, hl, fun v nv => ?_⟩
    have tv := same_new (o := VwO v ql) nv
    refine ⟨v, ql, _, ks0.map g, rfl, upd_same, tv _ _ hl, tblI_snd _ _, rfl, _, rfl, ?_⟩
    rw [decide_eq_false (show ¬ V.int (ks0.map g).sum = V.int 0 from fun z => by have := V.int.inj z; omega)]
    refine iteF ?_
    refine ⟨by show 0 ≤ sizeLine; omega, fun fo0 nfo0 => ?_⟩
    have tfo := same_new (o := .lst ([] : List V)) nfo0
    refine ⟨_, rfl, ql, _, ks0, rfl, .inl (tfo _ _ (tv _ _ hl)), ?_, by omega, fun ks' pl' pk' srt' npl => ?_⟩
    · rw [tblV_int, tblV_keys]
    have ek : ks' = ks := sorted_one (pk'.trans pk.symm) srt' srt
    subst ek
    have tpl := same_new (o := .lst (ks'.map V.str)) npl
    have ndk : ks'.Nodup := pk.nodup_iff.mpr nd0
    have lk := pk.length_eq
    obtain ⟨H1, e1⟩ : ∃ X, X = upd (upd (upd H v (VwO v ql)) fo0 (.lst ([] : List V))) pl' (.lst (ks'.map V.str)) := ⟨_, rfl⟩
    have s1 : Same H H1 := e1 ▸ (tv.trans tfo).trans tpl
    have hpl : H1 pl' = some (.lst (ks'.map V.str)) := by rw [e1, upd_same]
    have hfo : H1 fo0 = some (.lst (([] : List Addr).map V.ref)) := by rw [e1]; exact tpl _ _ upd_same
    have nfoH : H fo0 = none := tv.free nfo0
    refine ⟨pl', rfl, ⟨_, SqL.of upd_same⟩, ?_⟩
    rw [← e1]
    obtain ⟨G, eG⟩ : ∃ G : Str → List (List Str), G = fun p => if 0 < g p then (evN ks' m (lessF g p)).map (p :: ·) else [] := ⟨_, rfl⟩
    refine for_it walk_list (fun j σ' H' => Same H1 H' ∧ ∃ (fo : Addr) (rs : List Addr) (u3 u4 : Option V), σ' = [some (.ref q), some (.ref ql), some (.ref fo), u3, u4, none] ∧ H fo = none ∧ H' fo = some (.lst (rs.map V.ref)) ∧ Paired (fun (r : Addr) (W : List Str) => H' r = some (.lst (W.map V.str))) rs ((ks'.take j).flatMap G))
      ⟨Same.refl, fo0, [], _, _, rfl, nfoH, hfo, .nil⟩ (fun j σ' H' _ z => SqL.of (z.1 _ _ hpl)) ?_ ?_
    · intro j y σ' Hz Ha hj ⟨sa, fo, rs, u3, u4, eσ, nfo, hfo', pr⟩ ⟨eb, ex⟩
      subst eσ
      subst eb
      obtain ⟨p, hp, rfl⟩ := map_of ex
      have mp := List.mem_of_getElem? hp
      have mp0 := pk.mem_iff.mp mp
      have fr := nat_fresh ndk hp
      have hla := sa _ _ (s1 _ _ hl)
      have dg : ∀ {H' : Hp} {b : Addr} {f : Str → Int}, H' b = some (.dK (tblI ks0 f)) → DGet H' b (.str p) (some (.int (f p))) := fun {H' b f} h => by
        have w := DGet.k (k := Sum.inr p) h
        rw [tblI_val mp0] at w
        exact w
      have tot : ((ks'.take (j + 1)).flatMap G).length ≤ 3125 := by
        have e : (ks'.flatMap G).length = ((ks'.take (j + 1)).flatMap G).length + ((ks'.drop (j + 1)).flatMap G).length := by
          rw [← List.length_append, ← List.flatMap_append, List.take_append_drop]
        have z := evN_len ks' (m + 1) g
        have z2 : ks'.length ^ (m + 1) ≤ 5 ^ 5 := Nat.le_trans (Nat.pow_le_pow_left (by omega) _) (Nat.pow_le_pow_right (by decide) m5)
        have z3 : (evN ks' (m + 1) g).length = (ks'.flatMap G).length := by rw [eG] <;> rfl
        have : (5 : Nat) ^ 5 = 3125 := by decide
        omega
      have tm : (ks'.take (j + 1)).flatMap G = (ks'.take j).flatMap G ++ G p := by
        rw [take_more hp, List.flatMap_append, List.flatMap_cons, List.flatMap_nil, List.append_nil]
      have lr := pair_lenZ pr
      refine ⟨_, rfl, _, rfl, ql, _, rfl, dg hla, _, _, rfl, rfl, _, rfl, ?_⟩
      refine ite2 (fun yes => ?_) (fun no => ?_)
      · have pos : 0 < g p := of_decide_eq_true yes
        have eGp : G p = (evN ks' m (lessF g p)).map (p :: ·) := by rw [eG]; exact if_pos pos
        refine ⟨_, rfl, ql, _, rfl, .inl hla, fun pf npf => ?_⟩
        have tf := same_new (o := .dK (tblI ks0 g)) npf
        have npfH : H pf = none := s1.free (sa.free npf)
        refine ⟨_, rfl, _, rfl, pf, _, rfl, dg upd_same, _, _, rfl, rfl, _, rfl, _, rfl, pf, _, rfl, DPut.k (k := Sum.inr p) upd_same (by rw [tblI_len]; omega), ?_⟩
        rw [tblI_put mp0, upd_upd, show (fun x => if x = p then g p - 1 else g x) = lessF g p from rfl]
        obtain ⟨Hb, eb2⟩ : ∃ X, X = upd Ha pf (.dK (tblI ks0 (lessF g p))) := ⟨_, rfl⟩
        have sb : Same Ha Hb := eb2 ▸ same_new npf
        have hpf : Hb pf = some (.dK (tblI ks0 (lessF g p))) := by rw [eb2, upd_same]
        rw [← eb2]
        refine ⟨_, rfl, _, rfl, _, rfl, q, pf, ks0, ks', lessF g p, rfl, hpf, nd0, pk, srt, l5, by omega, fun a ha => ?_, by rw [less_sum nd0 mp0, sm]; omega, fun pe rs2 Hc sc npe hpe prc => ⟨pe, rfl, ⟨_, SqL.of hpe⟩, fun D nD => ?_⟩⟩
        · unfold lessF
          split
          · omega
          · exact nn a ha
        obtain ⟨EV, eEV⟩ : ∃ EV, EV = evN ks' m (lessF g p) := ⟨_, rfl⟩
        rw [← eEV] at prc eGp
        have lr2 := pair_lenZ prc
        have lEV : EV.length ≤ 3125 := by
          have := tot
          rw [tm, List.length_append, eGp, List.length_map] at this
          omega
        refine lc_it walk_list (fun i H' => Same Hc H' ∧ ∃ rs3 : List Addr, H' D = some (.lst (rs3.map V.ref)) ∧ Paired (fun (r : Addr) (W : List Str) => H' r = some (.lst (W.map V.str)) ∧ r ≠ D) rs3 ((EV.take i).map (p :: ·))) ⟨same_new nD, [], upd_same, .nil⟩ (fun i H' _ z => SqL.of (z.1 _ _ hpe)) ?_ ?_
        · intro i v2 Hy Hd hi ⟨q1, rs3, hD, pr3⟩ ⟨eb, ex2⟩
          subst eb
          obtain ⟨r, hr2, rfl⟩ := map_of (f := V.ref) (l := rs2) ex2
          obtain ⟨W, hW, hrW⟩ := LiI.paired_get prc hr2
          have mW := List.mem_of_getElem? hW
          have lW : W.length ≤ 5 := by
            rw [eEV] at mW
            have z := (evN_mem ndk m (lessF g p) (fun a ha => by
              unfold lessF
              split
              · omega
              · exact nn a (pk.mem_iff.mp ha)) (by rw [sum_perm (pk.map _), less_sum nd0 mp0, sm]; omega) W).mp mW
            omega
          have l3 := pair_lenZ pr3
          rw [List.length_map, List.length_take] at l3
          refine ⟨rfl, ?_⟩
          refine ⟨_, rfl, by show 1 ≤ sizeLine; omega, fun x1 nx1 => ⟨_, rfl, ?_⟩⟩
          have tx1 := same_new (o := .lst [V.str p]) nx1
          refine ⟨x1, r, _, _, rfl, rfl, upd_same, tx1 _ _ (q1 _ _ hrW), by rw [List.length_map]; show 1 + _ ≤ _; omega, fun x2 nx2 => ?_⟩
          have tx2 := same_new (o := .lst ([V.str p] ++ W.map V.str)) nx2
          have sx := tx1.trans tx2
          have x2D : x2 ≠ D := (ne_of_none (tx1 _ _ hD) nx2).symm
          refine ⟨_, sx _ _ hD, by rw [List.length_map]; omega, (q1.trans sx).put nD, rs3 ++ [x2], by rw [upd_same, List.map_append] <;> rfl, ?_⟩
          rw [take_more hW, List.map_append]
          refine pair_app2 (pair_imp2 (fun r W ⟨e, n⟩ => ⟨by rw [upd_ne n]; exact sx _ _ e, n⟩) pr3) (.cons ⟨?_, x2D⟩ .nil)
          rw [upd_ne x2D, upd_same] <;> rfl
        · intro Hd ⟨sd, rs3, hD, pr3⟩
          rw [List.length_map, lr2, List.take_length] at pr3
          have l3 := pair_lenZ pr3
          rw [List.length_map] at l3
          have sad : Same Ha Hd := (sb.trans sc).trans sd
          refine ⟨fo, D, _, _, rfl, rfl, sad _ _ hfo', hD, ?_, fun x5 nx5 => ?_⟩
          · rw [List.length_map, List.length_map]
            have := tot
            rw [tm, List.length_append, eGp, List.length_map] at this
            omega
          have t5 := same_new (o := .lst (rs.map V.ref ++ rs3.map V.ref)) nx5
          refine ⟨sa.trans (sad.trans t5), x5, rs ++ rs3, _, _, rfl, s1.free (sa.free (sad.free nx5)), by rw [upd_same, List.map_append], ?_⟩
          rw [tm, eGp]
          exact pair_app2 (pair_imp2 (fun r W e => t5 _ _ (sad _ _ e)) pr) (pair_imp2 (fun r W e => t5 _ _ e.1) pr3)
      · have neg : ¬ 0 < g p := fun z => no (decide_eq_true z)
        have eGp : G p = [] := by rw [eG]; exact if_neg neg
        refine ⟨sa, fo, rs, _, _, rfl, nfo, hfo', ?_⟩
        rw [tm, eGp, List.append_nil]
        exact pr
    · intro σ' H2 ⟨s2, fo, rs, u3, u4, eσ, nfo, hfo2, pr⟩
      subst eσ
      rw [List.length_map, List.take_length] at pr
      refine ⟨_, rfl, k fo rs H2 (s1.trans s2) nfo hfo2 ?_⟩
      show Paired _ rs (ks'.flatMap fun p => if 0 < g p then (evN ks' m (lessF g p)).map (p :: ·) else [])
      rw [eG] at pr
      exact pr
/-- at every number of users up to five -/
theorem ok_every {f : Addr} {fd : FuncData} (F : Fun K "_law_every" "_law_every" s__law_every f fd) (T : Nm mg) (b : Binds K fd ["_law_above", "_law_left"] []) (g : mg "_law_every" = some (.ref f)) : ∀ m, FnOk P w K mg base CX0 (m + 1) f fd ["_law_above", "_law_left"] (spEvery m)
  | 0 => ok_every0 F T
  | m + 1 => ok_everyS F T ⟨ok_every F T b g m, F.kp, b, g⟩
end
end FT


/-! amounts and errors of tables; what stands while the draws go on. -/
namespace FT
open PySem L2 TL ClX LamX NdefX LiI
theorem DrawAt.notD {H : Hp} {d c b : Addr} {o : HO} (x : DrawAt H d c) (e : H b = some o) (n : ∀ xs, o ≠ .lst xs) : b ≠ d ∧ b ≠ c := by
  obtain ⟨nx, mx, ct, cells, z1, z2, _⟩ := x
  exact ⟨ne_of e z1 (n _), ne_of e z2 (n _)⟩
theorem Dat.keepN {K : PySem.W.Frag} {H H' : Hp} {d c : Addr} {v : V} {T : String} (dr : DrawAt H d c) (dr' : DrawAt H' d c) (k : KeepN d c H H') (x : Dat K H v T) : Dat K H' v T := by
  cases x with
  | non => exact .non
  | bl b => exact .bl b
  | int i => exact .int i
  | str z => exact .str z
  | @lst a xs h =>
    obtain ⟨nx, mx, ct, cells, z1, z2, _⟩ := dr'
    by_cases e1 : a = d
    · subst e1
      exact .lst z1
    · by_cases e2 : a = c
      · subst e2
        exact .lst z2
      · exact .lst (k _ _ e1 e2 h fun ps z => nomatch z)
  | tup h => exact let ⟨e1, e2⟩ := dr.notD h (fun xs z => nomatch z); .tup (k _ _ e1 e2 h fun ps z => nomatch z)
  | dct h => exact let ⟨e1, e2⟩ := dr.notD h (fun xs z => nomatch z); .dct (k _ _ e1 e2 h fun ps z => nomatch z)
theorem SzV.keepN {K : PySem.W.Frag} {H H' : Hp} {d c : Addr} {sv : V} {o : Option (List (Key × V))} (dr : DrawAt H d c) (dr' : DrawAt H' d c) (k : KeepN d c H H') (x : SzV K H sv o) : SzV K H' sv o := by
  cases o with
  | none => exact let ⟨T, x, n⟩ := x; ⟨T, x.keepN dr dr' k, n⟩
  | some kvs =>
    obtain ⟨q, e, h, a⟩ := x
    obtain ⟨e1, e2⟩ := dr.notD h (fun xs z => nomatch z)
    exact ⟨q, e, k _ _ e1 e2 h (fun ps z => nomatch z), fun p hp => let ⟨T, x⟩ := a p hp; ⟨T, x.keepN dr dr' k⟩⟩
theorem FAt.keepN {CF x : Addr} {H H' : Hp} {d c : Addr} {ts : List (Str × Str)} (dr : DrawAt H d c) (k : KeepN d c H H') (h : FAt CF H x ts) : FAt CF H' x ts := by
  obtain ⟨dx, dq, h1, h2⟩ := h
  obtain ⟨a1, a2⟩ := dr.notD h1 (fun xs z => nomatch z)
  obtain ⟨b1, b2⟩ := dr.notD h2 (fun xs z => nomatch z)
  exact ⟨dx, dq, k _ _ a1 a2 h1 (fun ps z => nomatch z), k _ _ b1 b2 h2 (fun ps z => nomatch z)⟩
theorem KeepN.dk {H H' : Hp} {d c b : Addr} {kvs : List (Key × V)} (dr : DrawAt H d c) (k : KeepN d c H H') (h : H b = some (.dK kvs)) : H' b = some (.dK kvs) := let ⟨a1, a2⟩ := dr.notD h (fun xs z => nomatch z); k _ _ a1 a2 h (fun ps z => nomatch z)
theorem cut_one (ts : List Addr) : cutV (ts.map V.ref) (some 1) none = (ts.drop 1).map V.ref := by
  cases ts with
  | nil => rfl
  | cons a ts =>
    have e : HT.sIx ((a :: ts).map V.ref).length 0 (some 1) = 1 := by
      rw [show (1 : Int) = ((1 : Nat) : Int) from rfl, HT.sIx_nat, List.length_map, List.length_cons]
      omega
    show (((a :: ts).map V.ref).drop (HT.sIx ((a :: ts).map V.ref).length 0 (some 1))).take (((a :: ts).map V.ref).length - HT.sIx ((a :: ts).map V.ref).length 0 (some 1)) = _
    rw [e, List.map_cons, List.drop_one, List.tail_cons, List.length_cons, Nat.add_sub_cancel, List.take_length] <;> rfl
theorem paired_drop {α β : Type} {F : α → β → Prop} {xs : List α} {ys : List β} (h : Paired F xs ys) : Paired F (xs.drop 1) (ys.drop 1) := by
  cases h with
  | nil => exact .nil
  | cons _ t => exact t
theorem tblI_drop (l : List Str) (g : Str → Int) : (tblI l g).drop 1 = tblI (l.drop 1) g := by
  cases l <;> rfl
theorem am_none {CU CS : Addr} {ts : List (Str × Str)} {n : Int} {l1 l2 : List Str} {s1 s2 : Str → Int} (n1 : 1 ≤ n) (n2 : n ≤ 10 ^ 30) (f1 : Fea ts n s1) (f2 : Fea ts n s2) (p1 : l1.Perm (ts.map Prod.fst)) (p2 : l2.Perm (ts.map Prod.fst)) :
    amE CU CS ts (.int n) (some (tblI l1 s1)) (some (tblI l2 s2)) = none := by
  have u : usersOk (.int n) (10 ^ 30) = true := by
    show (decide (1 ≤ n) && decide (n ≤ 10 ^ 30)) = true
    rw [decide_eq_true n1, decide_eq_true n2] <;> rfl
  unfold amE szE
  rw [if_pos u]
  show (feE CS ts n _).or (feE CS ts n _) = none
  rw [f1.ok p1, f2.ok p2] <;> rfl
theorem am_first {CU CS : Addr} {ts : List (Str × Str)} {n : Int} {o1 o2 : Option (List (Key × V))} {e : Err} (n1 : 1 ≤ n) (n2 : n ≤ 10 ^ 30) (h : feE CS ts n o1 = some e) : amE CU CS ts (.int n) o1 o2 = some e := by
  have u : usersOk (.int n) (10 ^ 30) = true := by
    show (decide (1 ≤ n) && decide (n ≤ 10 ^ 30)) = true
    rw [decide_eq_true n1, decide_eq_true n2] <;> rfl
  unfold amE szE
  rw [if_pos u]
  show (feE CS ts n _).or _ = _
  rw [h] <;> rfl
theorem am_second {CU CS : Addr} {ts : List (Str × Str)} {n : Int} {l1 : List Str} {s1 : Str → Int} {o2 : Option (List (Key × V))} {e : Err} (n1 : 1 ≤ n) (n2 : n ≤ 10 ^ 30) (f1 : Fea ts n s1) (p1 : l1.Perm (ts.map Prod.fst)) (h : feE CS ts n o2 = some e) :
    amE CU CS ts (.int n) (some (tblI l1 s1)) o2 = some e := by
  have u : usersOk (.int n) (10 ^ 30) = true := by
    show (decide (1 ≤ n) && decide (n ≤ 10 ^ 30)) = true
    rw [decide_eq_true n1, decide_eq_true n2] <;> rfl
  unfold amE szE
  rw [if_pos u]
  show (feE CS ts n _).or (feE CS ts n _) = _
  rw [f1.ok p1, h] <;> rfl
theorem am_users {CU CS : Addr} {ts : List (Str × Str)} {uv : V} {o1 o2 : Option (List (Key × V))} (h : usersOk uv (10 ^ 30) = false) : amE CU CS ts uv o1 o2 = some (.e0 CU) := by
  unfold amE szE
  rw [if_neg (by rw [h]; decide)] <;> rfl
theorem amt_tbl {l1 l2 : List Str} {s1 s2 : Str → Int} {a : Str} (h1 : a ∈ l1) (h2 : a ∈ l2) : amt (some (tblI l1 s1)) (some (tblI l2 s2)) a = s2 a - s1 a := by
  unfold amt
  rw [show kvsOf (some (tblI l2 s2)) = tblI l2 s2 from rfl, show kvsOf (some (tblI l1 s1)) = tblI l1 s1 from rfl, szOf_tbl h1, szOf_tbl h2]
theorem sz_tbl {K : PySem.W.Frag} {H : Hp} {q : Addr} {l : List Str} {s : Str → Int} (h : H q = some (.dK (tblI l s))) : SzV K H (.ref q) (some (tblI l s)) :=
  ⟨q, rfl, h, fun p hp => by
    obtain ⟨i, hi⟩ := List.mem_iff_getElem?.mp hp
    obtain ⟨k, v⟩ := p
    obtain ⟨a, _, _, rfl⟩ := tblI_at hi
    exact ⟨_, .int _⟩⟩
theorem absI_nn {z : Int} (h : 0 ≤ z) : absI z = z := if_neg (by omega)
theorem fea_zero {t : List (Str × Str)} {n : Int} (n0 : 0 ≤ n) : Fea t n fun _ => 0 := by
  have z : ∀ m : List Str, (m.map fun _ => (0 : Int)).sum = 0 := by
    intro m
    induction m with
    | nil => rfl
    | cons b m ih => rw [List.map_cons, List.sum_cons, ih] <;> rfl
  refine ⟨fun a ha => Int.le_refl _, fun p hp => ?_⟩
  unfold resid
  rw [z]
  by_cases e : p = ""
  · rw [if_pos e]
    omega
  · rw [if_neg e]
    show 0 ≤ (0 : Int) - 0
    omega
theorem isFrz_tup {H : Hp} {r q : Addr} {xs : List V} {o : Obj} {u : HO} (h1 : H r = some (.tup xs)) (h2 : H q = some (.frz o u)) : r ≠ q := ne_of h1 h2 (by intro z; cases z)
theorem keys_walk {t : List (Str × Str)} {i : Nat} {k : Key} {v : V} (h : (prs t)[i]? = some (k, v)) : ∃ a p : Str, k = Sum.inr a ∧ v = .str p ∧ t[i]? = some (a, p) := by
  unfold prs kvT at h
  rw [List.map_map, List.getElem?_map] at h
  obtain ⟨⟨a, p⟩, hp, e⟩ := Option.map_eq_some_iff.mp h
  cases e
  exact ⟨a, p, rfl, rfl, hp⟩
end FT


/-! Own: a lambda handed to a def that calls it in a try: what is raised is wished for at the caller's very slots (the library's rule asks it for all slots). -/
namespace L2
open PySem PySem.Spec PyProof.Rows LamX
section
variable {X : Cx} {pins : List (Addr × Obj)} {σ : St} {H : Hp} {s : Shared}
theorem pe_actS {CXg : CXT} {Eg : XK} {Ng : List Str} {qg : Str} {sg : Scope} {g f c' : Addr} {cdg pm ctv : Value} {params : Arguments} {body : Expr} {scope : Scope} {k i : Nat} {a : Str} {pn : List (Addr × Obj)} {xe : Value → Shared → Prop} {W : WX} {tb : XK → TE} {p1 p2 : Pos}
    (I : Inv X pins σ H s) (L : LamS X.env.scope scope) (here : s.heap.get? f = some (PySem.W.kla_obj "<lambda>" (X.env.qual ++ "<lambda>") params body scope (cloFrom X.env.cells scope.names []) pm c' ctv)) (fno : H f = none) (ffr : f ∉ frs X.stack)
    (bd : bindArgs (PySem.W.kla_fn "<lambda>" (X.env.qual ++ "<lambda>") params body scope (cloFrom X.env.cells scope.names []) pm (.ref c') ctv) ⟨[], []⟩ = pure []) (tk : Takes ((cxOf CXg X.prog X.w X.K X.mg X.base Ng qg sg g cdg X.A X.stack s H Eg).tr pn xe) W)
    (room : Room (k + 1) (X.A.deeper (envOfC qg sg s.heap.objs.size g cdg))) (walk : ∀ (A : Around) (outer : List Env) (s : Shared) (H : Hp) (E : XK), Room k (A.deeper (lamEnv X scope s.heap.objs.size f c')) → PE (lamCx X A outer s H E scope f c') body (tb E))
    (hN : Ng[i]? = some a) (hv : Vis sg a) (hd : (a == ("__debug__" : Str)) = false := by decide) (hcd : (a == ("__classdict__" : Str)) = false := by decide) :
    PE ((cxOf CXg X.prog X.w X.K X.mg X.base Ng qg sg g cdg X.A X.stack s H Eg).tr pn xe) (.Call (.Name a p1) [] [] p2)
      (fun τ HZ Q => ∃ (Ech : XK) (Qn : VK), (∀ cls d H', Ech cls d H' → W cls d τ H') ∧ (∀ v H', Qn v H' → Q v H') ∧ τ[i]? = some (some (.ref f)) ∧ HZ c' = some (CodeO c' (X.env.qual ++ "<lambda>")) ∧ tb Ech σ HZ Qn) := by
  constructor
  intro pz sz τ HZ Q IZ ⟨Ech, Qn, imp, impQ, slot, code, want⟩
  refine wpAny_Call_Name_kw (thn ((pe_var (pos := p1) (i := i) hN hv hd hcd).run pz sz τ HZ (fun v H1 => v = .ref f ∧ H1 = HZ) IZ ⟨.ref f, slot, rfl, rfl⟩) fun u s1 ⟨v, H1, I1, r1, ev, eH⟩ => ?_)
  subst ev
  subst eH
  cases (show u = Value.ref f from r1)
  have still : s1.heap.get? f = some (PySem.W.kla_obj "<lambda>" (X.env.qual ++ "<lambda>") params body scope (cloFrom X.env.cells scope.names []) pm c' ctv) := I1.base.keep f _ here fno ffr (by simp [cxOf, Cx.tr])
  have grown : Un (frs X.stack) [] H H1 s.heap s1.heap := I1.base
  obtain ⟨⟨oc, ws, t, e1, e2, e3⟩, _, _⟩ := I1.hok c' _ code
  refine PySem.W.callWith_F0 ⟨_, _, _, _, still⟩ (wpAny_call (codeAny_mono (R := CR (L2.CX X.prog X.w) (envOfC qg sg s.heap.objs.size g cdg :: X.stack) X.prog X.w H1 s1 Qn Ech) ?_ fun r s' z => ?_))
  · show codeAny _ _ (.call (.ref f) ⟨[], []⟩) _ s1
    refine PySem.W.kla_callFunE room.depth still rfl L.co L.gen rfl ⟨c', oc, ws, t, rfl, e1, e2, e3⟩ ?_
    rw [bd]
    refine wpAny_pure (wpAny_newFunctionEnv (fun y hy => (L.own y hy).2) (fun y hy => absurd hy (by simp)) (fun h₁ ns sb => ⟨I1.nolimit.fresh _ sb, ?_⟩) L.kind)
    have kp : ∀ b o, s1.heap.get? b = some o → h₁.get? b = some o := fun b o e => sb.extBut b o (Nat.ne_of_lt (Heap.lt_size e)) (Heap.get?_push_of_some _ e)
    have J : Inv (lamCx X (X.A.deeper (envOfC qg sg s.heap.objs.size g cdg)) (envOfC qg sg s.heap.objs.size g cdg :: X.stack) s1 H1 Ech scope f c') [] σ H1 { s1 with heap := h₁, toks := s1.toks + ([] : List (Str × Value)).length } := lam_start2 I L I1.env0 room.hd grown ns kp
    exact PySem.W.kla_codeExpr (wpAny_mono ((walk _ _ s1 H1 _ (room.deeper _)).run [] _ _ H1 Qn J want) (fun v s' ⟨w, H', J', rv, q⟩ => ⟨w, H', J'.os, J'.bare, J'.base, J'.hok, rv, q⟩) fun _ _ z => z)
  · match r, z with
    | .error e, z => exact tk e s' (XE.of_call I1 (fun cls d H' h => imp cls d H' h) z)
    | .ok (.ret u), z =>
      obtain ⟨v, H2, J2, rv, q⟩ := I1.after z
      exact ⟨v, H2, J2, rv, impQ v H2 q⟩
    | .ok .next, z => exact z.elim
    | .ok .brk, z => exact z.elim
    | .ok .cont, z => exact z.elim
end
/-- the def that calls what it got, in its slot 0 -/
def GivesS (X : Cx) (Ng : List Str) (x : Str) (sg : Scope) (g : Addr) (cdg : Value) (bg : List Stmt) (a : Str) (q : Str) (TT : (XK → Hp → VK → Prop) → Hp → VK → Prop) : Prop :=
  ∀ (f c' : Addr) (s : Shared) (H : Hp) (Q : VK) (tl : XK → Hp → VK → Prop),
    (∀ (W : WX) (pn : List (Addr × Obj)) (xe : Value → Shared → Prop) (p1 p2 : Pos), Takes ((cxOf C8.CX0 X.prog X.w X.K X.mg X.base Ng x sg g cdg X.A X.stack s H C8.E0).tr pn xe) W →
      PE ((cxOf C8.CX0 X.prog X.w X.K X.mg X.base Ng x sg g cdg X.A X.stack s H C8.E0).tr pn xe) (.Call (.Name a p1) [] [] p2) (fun τ HZ Q => ∃ (Ech : XK) (Qn : VK), (∀ cls d H', Ech cls d H' → W cls d τ H') ∧ (∀ v H', Qn v H' → Q v H') ∧ τ[0]? = some (some (.ref f)) ∧ HZ c' = some (CodeO c' q) ∧ tl Ech HZ Qn)) →
    H c' = some (CodeO c' q) → TT tl H Q → ∃ t, PSs (cxOf C8.CX0 X.prog X.w X.K X.mg X.base Ng x sg g cdg X.A X.stack s H C8.E0).nox bg t ∧ t { nx := fun _ H' => Q .non H', rt := Q } (L2.start Ng [.ref f]) H
/-- x(lambda: body), x such a def -/
theorem pe_lamS {X : Cx} {T : List (Addr × Str)} {TT : (XK → Hp → VK → Prop) → Hp → VK → Prop} {x a : Str} {g c P : Addr} {k : Nat} {st : Stmt} {fd : FuncData} {Ng : List Str} {params : Arguments} {body : Expr} {scope : Scope} {t : XK → TE} {p lpos pos : Pos} (hg : Gl X x) (hm : X.mg x = some (.ref g))
    (F : Fun X.K x x st g fd) (hb : Binds X.K fd [a] []) (Sg : FnScope Ng [a] (defScope st)) (hNg : Ng[0]? = some a) (hva : Vis (defScope st) a) (gives : ∀ cdg, GivesS X Ng x (defScope st) g cdg (defBody st) a (X.env.qual ++ "<lambda>") TT)
    (TB : TabB X.base X.mg c P) (code : X.env.code = .ref c) (mT : (P, X.env.qual ++ "<lambda>") ∈ T) (uT : ∀ p ∈ T, p.1 = P → p.2 = X.env.qual ++ "<lambda>") (room : Room (k + 2) X.A) (L : LamS X.env.scope scope) (dfl : defaultsOf params X.env = ([], []))
    (bd : ∀ (q : Str) (cl : List (Str × Addr)) (pm cv ctv : Value), bindArgs (PySem.W.kla_fn "<lambda>" q params body scope cl pm cv ctv) ⟨[], []⟩ = pure [])
    (walk : ∀ (A : Around) (outer : List Env) (s : Shared) (H : Hp) (E : XK) (f c' : Addr), Room k (A.deeper (lamEnv X scope s.heap.objs.size f c')) → PE (lamCx X A outer s H E scope f c') body (t E))
    (hdb : (x == ("__debug__" : Str)) = false := by decide) (hd : (a == ("__debug__" : Str)) = false := by decide) (hcd : (a == ("__classdict__" : Str)) = false := by decide) : PE X (.Call (.Name x p) [.Lambda params body scope lpos] [] pos) (tLam T TT t) := by
  constructor
  intro pins s σ H Q I ⟨hT, want⟩
  refine wpAny_Call_Name_kw (ld_glob I hg hm ?_ hdb)
  refine PySem.W.callWith_K (h₀ := X.base) I.ok.mod.kin F.kp (pos := pos) ?_ (by rfl) (by rfl)
  show wpAny _ _ (spliced ((false, eval (.Lambda params body scope lpos) X.env) :: backTo pos (starEach [] X.env))) _ _ s
  refine Calls.spliced_cons (lam_make2 I TB code mT uT hT dfl (L.has I.ok) fun f c' pm' ctv H1 s' I1 eN T1 of fn fr co => Calls.spliced_nil ⟨I1.kIn, wpAny_call (codeAny_mono (R := CR C8.CX0 X.stack X.prog X.w H1 s' Q C8.E0) ?_ fun r s2 z => ?_)⟩)
  · obtain ⟨oc, od, kV, doc, pm, an, cdv, ct, osl, rfl, lk, cin⟩ := F.ex
    refine run_ofS (N := Ng) (ps := [a]) (us := [.ref f]) (vs := [.ref f]) lk cin Sg room I1.env0 (hb s' [.ref f] I1.kIn rfl) (.cons rfl .nil) rfl fun room' => ?_
    obtain ⟨t', term, q⟩ := gives cdv f c' s' H1 Q (fun E H' Q' => t E σ H' Q') (fun W pn xe p1 p2 tk => pe_actS (i := 0) I1 L of fn fr (bd _ _ _ _ _) tk room' (fun A outer s H E hr2 => walk A outer s H E f c' hr2) hNg hva hd hcd) co (want H1 eN T1)
    exact ⟨t', term.nox, q⟩
  · match r, z with
    | .error e, z => exact (show False from z).elim
    | .ok (.ret u), z => exact I1.after z
    | .ok .next, z => exact z.elim
    | .ok .brk, z => exact z.elim
    | .ok .cont, z => exact z.elim
end L2


/-! _law_error: what it makes of a lambda -/
namespace FT
open PySem L2 TL ClX LamX NdefX
/-- an error that is caught: one of the classes C i, with its word -/
def TError (C : Nat → Addr) (wd : Nat → Str) (n : Nat) : (XK → Hp → VK → Prop) → Hp → VK → Prop := fun tl H Q =>
  tl (fun cls d H' => ∃ i, i < n ∧ cls = .ref (C i) ∧ (d = none ∨ ∃ dd fs, d = some dd ∧ H' dd = some (.xd fs)) ∧ ∀ H'', Same H' H'' → Q (.str (wd i)) H'') H fun _ H' => ∀ H'', Same H' H'' → Q .non H''
/-- the five classes of _law_error -/
def cn5 (i : Nat) : Str := (["InvalidUsers", "InvalidSizes", "Mismatch", "InvalidNumber", "NotBest"] : List Str).getD i ""
def wd5 (i : Nat) : Str := (["users", "sizes", "mismatch", "number", "notbest"] : List Str).getD i ""
structure Cl5 (K : PySem.W.Frag) (mg : Str → Option Value) (R : Addr) (C : Nat → Addr) : Prop where
  gR : mg "RolloutError" = some (.ref R)
  g : ∀ i, i < 5 → mg (cn5 i) = some (.ref (C i))
  x : ∀ i, i < 5 → XCls K (C i)
  kit : ∀ i j, i < 5 → j < 5 → PySem.W.kitOne K (.ref (C i)) (.ref (C j)) = some (decide (i = j))
  kitV : ∀ i, i < 5 → PySem.W.kitOne K (.ref (C i)) (.type "ValueError") = some true
  te : ∀ i, i < 5 → PySem.W.exmOne K (.ref (C i)) (.ref R) = some true
theorem XV_mono {H H' : Hp} {a C : Addr} {fs : List (Str × V)} (s : Same H H') (x : XV H a C fs) : XV H' a C fs := by
  rcases x with ⟨x, e⟩ | ⟨dx, x, y⟩
  · exact .inl ⟨x.elim (fun q => .inl (s _ _ q)) (fun q => .inr (s _ _ q)), e⟩
  · exact .inr ⟨dx, x.elim (fun q => .inl (s _ _ q)) (fun q => .inr (s _ _ q)), y.elim (fun q => .inl (s _ _ q)) (fun q => .inr (s _ _ q))⟩
def marks5 (i : Nat) : List V := (List.range 5).map fun j => .bl (decide (i = j))
theorem upTo5 {Pr : Nat → Prop} (h0 : Pr 0) (h1 : Pr 1) (h2 : Pr 2) (h3 : Pr 3) (h4 : Pr 4) : ∀ i, i < 5 → Pr i := by
  intro i hi
  match i, hi with
  | 0, _ => exact h0
  | 1, _ => exact h1
  | 2, _ => exact h2
  | 3, _ => exact h3
  | 4, _ => exact h4
theorem marks_flat (i : Nat) : (marks5 i).all flatV = true := rfl
theorem marks_count : ∀ i, i < 5 → (marks5 i).countP (fun z => eqV z (.bl true)) = 1 := upTo5 rfl rfl rfl rfl rfl
theorem marks_at : ∀ i, i < 5 → (marks5 i)[i]? = some (.bl true) ∧ ∀ (m : Nat) (z' : V), m < i → (marks5 i)[m]? = some z' → eqV z' (.bl true) = false := fun i hi => by
  have e : ∀ m, m < 5 → (marks5 i)[m]? = some (.bl (decide (i = m))) := upTo5 rfl rfl rfl rfl rfl
  refine ⟨by rw [e i hi, decide_eq_true rfl], fun m z' lt h => ?_⟩
  rw [e m (by omega), decide_eq_false (by omega)] at h
  cases h
  rfl
theorem words_at : ∀ i, i < 5 → ([V.str "users", .str "sizes", .str "mismatch", .str "number", .str "notbest"] : List V)[i]? = some (.str (wd5 i)) := upTo5 rfl rfl rfl rfl rfl
/-- [..] + [..]: the second list new -/
theorem cat_seg {H : Hp} {l : Addr} {xs ys : List V} {Q : VK} (hl : H l = some (.lst xs)) (few : xs.length + ys.length ≤ 1000) (k : ∀ p H', Same H H' → H p = none → H' p = some (.lst (xs ++ ys)) → Q (.ref p) H') :
    ys.length ≤ sizeLine ∧ ∀ q, H q = none → rCat (.ref l) (.ref q) (upd H q (.lst ys)) Q := by
  have big : 1000 ≤ sizeLine := by decide
  refine ⟨by omega, fun q nq => ⟨l, q, xs, ys, rfl, rfl, by rw [upd_ne (ne_of_none hl nq)]; exact hl, upd_same, by omega, fun p np => ?_⟩⟩
  have s1 := same_new (o := .lst ys) nq
  exact k p _ (s1.trans (same_new np)) (s1.free np) upd_same
abbrev NEr : List Str := ["_law_work", "_law_error_here", "e", "_law_marks"]
theorem scEr : FnScope NEr ["_law_work"] (defScope s__law_error) := ⟨rfl, rfl, rfl, by decide +kernel, rfl, by decide +kernel, by decide +kernel⟩
theorem isi_rd {K : PySem.W.Frag} {σ : St} {H : Hp} {a Ci D : Addr} {fs : List (Str × V)} {b : Bool} {Q : VK} (h0 : σ[1]? = some (some (.ref a))) (X : XCls K Ci) (xv : XV H a Ci fs) (kit : PySem.W.kitOne K (.ref Ci) (.ref D) = some b) (q : Q (.bl b) H) :
    tCB (rIsX K) (tCons (tVar 1) (tCons (tC (.ref D)) tNil)) σ H Q := ⟨_, h0, a, Ci, fs, .ref D, _, b, rfl, .own _, X, xv, kit, q⟩
theorem error_gives {X : Cx} {g R : Addr} {C : Nat → Addr} {cdg : Value} {q : Str} (N : Nm X.mg) (L : Cl5 X.K X.mg R C) : GivesS X NEr "_law_error" (defScope s__law_error) g cdg (defBody s__law_error) "_law_work" q (TError C wd5 5) := by
  intro f c' s H Q tl act hc h
  refine ⟨_, pss_cons (ps_set (i := 1) scEr.nd rfl (.inl rfl) pe_non)
    (pss_cons (ps_try_keep (X := (cxOf C8.CX0 X.prog X.w X.K X.mg X.base NEr "_law_error" (defScope s__law_error) g cdg X.A X.stack s H C8.E0).nox) (c := .ref R) (i := 2)
      rfl rfl rfl scEr.nd rfl rfl ⟨rfl, by decide, .inl L.gR⟩ LamX.takes0 (fun W pn xe tk _ => pss_one (ps_expr (act W pn xe _ _ tk))) (fun a oe cls d pn hz hf => pss_one (ps_set (i := 1) scEr.nd rfl (.inl rfl) (pv 2))))
    (pss_cons (ps_if (pt_cmpR op_isN (pv 1) pe_non (nomark _)) (pss_one (ps_ret pe_non)) pss_nil)
    (pss_cons (ps_set (i := 3) scEr.nd rfl (.inl rfl) (pe_lst (pa_cons (pe_callB call_isX (by rfl) N.isi (by decide +kernel) (pa_cons (pv 1) (pa_cons (pe_glob (v := .ref (C 0)) rfl (L.g 0 (by decide)) rfl) pa_nil))) (pa_cons (pe_callB call_isX (by rfl) N.isi (by decide +kernel) (pa_cons (pv 1) (pa_cons (pe_glob (v := .ref (C 1)) rfl (L.g 1 (by decide)) rfl) pa_nil)))
      (pa_cons (pe_callB call_isX (by rfl) N.isi (by decide +kernel) (pa_cons (pv 1) (pa_cons (pe_glob (v := .ref (C 2)) rfl (L.g 2 (by decide)) rfl) pa_nil))) pa_nil)))))
    (pss_cons (ps_set (i := 3) scEr.nd rfl (.inl rfl) (pe_op op_cat (pv 3) (pe_lst (pa_cons (pe_callB call_isX (by rfl) N.isi (by decide +kernel) (pa_cons (pv 1) (pa_cons (pe_glob (v := .ref (C 3)) rfl (L.g 3 (by decide)) rfl) pa_nil))) (pa_cons (pe_callB call_isX (by rfl) N.isi (by decide +kernel) (pa_cons (pv 1) (pa_cons (pe_glob (v := .ref (C 4)) rfl (L.g 4 (by decide)) rfl) pa_nil))) pa_nil)))))
    (pss_cons (ps_if (PW.pt (pw_or (pt_cmpR op_ne (pe_bm PySem.F.plainAttrs_list PySem.F.slot_list_count PySem.F.type_list_count mt_countF (pv 3) (pa_cons pe_bl pa_nil)) pe_int (nomark _)) (pw_or1 (pt_not (pt_val (pe_callB call_isX (by rfl) N.isi (by decide +kernel) (pa_cons (pv 1) (pa_cons (pe_bltn (v := .ty "ValueError") (u := .type "ValueError") (by rfl) N.vE (by decide +kernel) rfl) pa_nil)))))))) (pss_one (ps_ret pe_str)) pss_nil)
    (pss_one (ps_ret (pe_ix ix_list (pe_lst (pa_cons pe_str (pa_cons pe_str (pa_cons pe_str (pa_cons pe_str (pa_cons pe_str pa_nil)))))) (pe_bm PySem.F.plainAttrs_list PySem.F.slot_list_index PySem.F.type_list_index mt_index (pv 3) (pa_cons pe_bl pa_nil)) (fun _ _ => rfl))))))))), ?_⟩
  refine ⟨_, _, fun cls d H' z => ?_, fun v H' z => ?_, rfl, hc, h⟩
  · obtain ⟨i, hi, rfl, hd, k⟩ := z
    refine ⟨true, C i, rfl, L.te i hi, fun _ a ha => ⟨_, rfl, ?_⟩, fun z => nomatch z⟩
    obtain ⟨H2, e2⟩ : ∃ X, X = upd H' a (exg a (C i) d) := ⟨_, rfl⟩
    have s2 : Same H' H2 := e2 ▸ same_new ha
    have big : 1000 ≤ sizeLine := by decide
    obtain ⟨fs, xv⟩ : ∃ fs, XV H2 a (C i) fs := by
      rcases hd with rfl | ⟨dd, fs, rfl, hdd⟩
      · exact ⟨[], .inl ⟨.inr (by rw [e2]; exact upd_same), rfl⟩⟩
      · exact ⟨fs, .inr ⟨dd, .inr (by rw [e2]; exact upd_same), .inr (s2 _ _ hdd)⟩⟩
    subst e2
    have Xi := L.x i hi
    refine ⟨_, rfl, rfl, _, rfl, iteF ?_⟩
    refine isi_rd rfl Xi xv (L.kit i 0 hi (by decide)) (isi_rd rfl Xi xv (L.kit i 1 hi (by decide)) (isi_rd rfl Xi xv (L.kit i 2 hi (by decide)) ⟨by show 3 ≤ sizeLine; omega, fun p0 n0 => ?_⟩))
    have s3 := same_new (o := .lst ([.bl (decide (i = 0)), .bl (decide (i = 1)), .bl (decide (i = 2))] : List V)) n0
    have a3 := upd_same (H := upd H' a (exg a (C i) d)) (a := p0) (o := .lst ([.bl (decide (i = 0)), .bl (decide (i = 1)), .bl (decide (i = 2))] : List V))
    have xv3 := XV_mono s3 xv
    refine ⟨_, rfl, isi_rd rfl Xi xv3 (L.kit i 3 hi (by decide)) (isi_rd rfl Xi xv3 (L.kit i 4 hi (by decide)) (cat_seg a3 (by show 3 + 2 ≤ 1000; omega) fun p1 H4 s4 n1 a4 => ?_))⟩
    have a4' : H4 p1 = some (.lst (marks5 i)) := a4
    have xv4 := XV_mono s4 xv3
    refine ⟨_, rfl, .inl ⟨rfl, _, SqL.of a4'⟩, p1, marks5 i, .bl true, rfl, rfl, SqL.of a4', rfl, marks_flat i, rfl, _, rfl, ?_⟩
    rw [marks_count i hi]
    refine iteF ?_
    refine ⟨_, rfl, a, C i, fs, .ty "ValueError", .type "ValueError", true, rfl, .ty _, Xi, xv4, L.kitV i hi, true, rfl, iteF ?_⟩
    refine ⟨by show 5 ≤ sizeLine; omega, fun pl npl => ?_⟩
    have s5 : Same H4 (upd H4 pl (.lst [.str "users", .str "sizes", .str "mismatch", .str "number", .str "notbest"])) := same_new npl
    obtain ⟨m1, m2⟩ := marks_at i hi
    refine ⟨_, rfl, .inl ⟨rfl, _, SqL.of (s5 _ _ a4')⟩, p1, marks5 i, .bl true, i, .bl true, rfl, rfl, SqL.of (s5 _ _ a4'), rfl, marks_flat i, m1, rfl, m2, ?_⟩
    exact ⟨pl, _, _, .str (wd5 i), rfl, rfl, SqL.of upd_same, atI_nat (words_at i hi), k _ (((s2.trans s3).trans s4).trans s5)⟩
  · exact ⟨_, rfl, rfl, _, rfl, iteT (z H' Same.refl)⟩
end FT


/-! Own: calls with keywords alone, two or four of them turned; pairs of a text and an int as data. -/
namespace FT
open PySem L2 TL ClX
def tCallK0 (m : Nat) (sp : Sp) (gV : List V → List V → List V) (E : XK) (tk : TA) : TE := fun σ H Q => tk σ H fun zs H1 => zs.length = m ∧ sp (gV [] zs) H1 Q E
/-- f(k = v, ..), no value by place -/
theorem pe_callK0 {X : Cx} {CX : CXT} {k : Nat} {f : Addr} {fd : FuncData} {ps ks : List Str} {sp : Sp} {E : XK} {x : Str} {p pos : Pos} {kw : Keyword} {kws : List Keyword} {tk : TA} {g : List Value → List Value → List Value} {gV : List V → List V → List V}
    (F : FnOk X.prog X.w X.K X.mg X.base CX k f fd ps sp) (hr : Room k X.A) (hg : Gl X x) (hm : X.mg x = some (.ref f)) (hk : PySem.W.keepIn X.K (.ref f) = true) (hb : KBn X.K fd ps 0 ks g gV) (hx : Passes CX X E)
    (hkw : PK X (kw :: kws) tk) (hall : (backToKw pos (keywordEach (kw :: kws) X.env)).all (·.1.isSome) = true := by rfl) (hks : (backToKw pos (keywordEach (kw :: kws) X.env)).filterMap (·.1) = ks := by rfl)
    (hdb : (x == ("__debug__" : Str)) = false := by decide) (hpl : ((backTo pos (starEach [] X.env)).any (·.1) || (backToKw pos (keywordEach (kw :: kws) X.env)).any (·.1.isNone)) = false := by rfl) : PE X (.Call (.Name x p) [] (kw :: kws) pos) (tCallK0 ks.length sp gV E tk) := by
  refine ⟨fun pins s σ H Q I h => ?_⟩
  refine wpAny_Call_Name_kw (ld_glob I hg hm ?_ hdb)
  refine PySem.W.callWith_KW0 (h₀ := X.base) I.ok.mod.kin hk hall ?_ hpl
  refine thn (hkw.run pos pins s σ H _ I h) fun ws s2 ⟨zs, H2, J, rz, l2, want⟩ => ⟨J.kIn, ?_⟩
  rw [hks]
  exact run_fnN (us := []) (vs := []) F hr hb hx J .nil rz rfl l2 want
/-- four values, turned -/
def turn4 {α : Type} : List α → List α
  | [a, b, c, d] => [d, c, b, a]
  | l => l
theorem turn4_rel {vs : List V} {us : List Value} (r : Vals vs us) : Vals (turn4 vs) (turn4 us) := by
  match vs, us, r with
  | [], _, .nil => exact .nil
  | [_], _, .cons a .nil => exact .cons a .nil
  | [_, _], _, .cons a (.cons b .nil) => exact .cons a (.cons b .nil)
  | [_, _, _], _, .cons a (.cons b (.cons c .nil)) => exact .cons a (.cons b (.cons c .nil))
  | [_, _, _, _], _, .cons a (.cons b (.cons c (.cons d .nil))) => exact .cons d (.cons c (.cons b (.cons a .nil)))
  | _ :: _ :: _ :: _ :: _ :: _, _, .cons a (.cons b (.cons c (.cons d (.cons e r)))) => exact .cons a (.cons b (.cons c (.cons d (.cons e r))))
theorem kw4 {K : PySem.W.Frag} {x qual a b c d : Str} {st : Stmt} {f : Addr} {fd : FuncData} {ps : List Str} (F : L2.Fun K x qual st f fd)
    (h : ∀ (kV doc pm : Value) (an : Option Addr) (cdv ct u v y z : Value), bindArgs (PySem.W.fnOf x qual (defArgs st) (defBody st) (defScope st) .none kV doc pm an cdv ct) ⟨[], [(a, u), (b, v), (c, y), (d, z)]⟩ = pure (ps.zip [z, y, v, u])) :
    KBn K fd ps 0 [a, b, c, d] (fun _ ws => turn4 ws) (fun _ zs => turn4 zs) := by
  obtain ⟨oc, od, kV, doc, pm, an, cdv, ct, osl, rfl, lk, hcd⟩ := F.ex
  refine ⟨fun s us ws _ h1 h2 => ?_, fun _ r => turn4_rel r⟩
  match us, ws, h1, h2 with
  | [], [u, v, y, z], _, _ => exact .of_eq (h kV doc pm an cdv ct u v y z)
end FT


/-! data stays where all stays -/
namespace FT
open PySem L2 TL ClX
mutual
theorem dp_up {K : PySem.W.Frag} {H H' : Hp} (s : Same H H') : ∀ (d : PyData) (v : V), Dp K H v d → Dp K H' v d
  | .none, _, .non => .non
  | .bool _, _, .bl b => .bl b
  | .int _, _, .int i => .int i
  | .str _, _, .str x => .str x
  | .list ds, _, .lst h q => .lst (Same.sql s h) (dps_up s ds _ q)
  | .tuple ds, _, .tup h q => .tup (Same.sqt s h) (dps_up s ds _ q)
theorem dps_up {K : PySem.W.Frag} {H H' : Hp} (s : Same H H') : ∀ (ds : List PyData) (vs : List V), DpAll K H vs ds → DpAll K H' vs ds
  | [], _, .nil => .nil
  | d :: ds, _, .cons h q => .cons (dp_up s d _ h) (dps_up s ds _ q)
end
theorem dps_snoc {K : PySem.W.Frag} {H : Hp} {v : V} {d : PyData} (h : Dp K H v d) : ∀ {ds : List PyData} {vs : List V}, DpAll K H vs ds → DpAll K H (vs ++ [v]) (ds ++ [d])
  | _, _, .nil => .cons h .nil
  | _, _, .cons a r => .cons a (dps_snoc h r)
theorem dps_get {K : PySem.W.Frag} {H : Hp} : ∀ {ds : List PyData} {vs : List V}, DpAll K H vs ds → ∀ {i : Nat} {d : PyData}, ds[i]? = some d → ∃ v, vs[i]? = some v ∧ Dp K H v d
  | _, _, .nil, i, d, h => by simp at h
  | _, _, .cons a r, 0, d, h => by
    cases Option.some.inj h
    exact ⟨_, rfl, a⟩
  | _, _, .cons a r, i + 1, d, h => dps_get r (i := i) h
theorem dps_len {K : PySem.W.Frag} {H : Hp} : ∀ {ds : List PyData} {vs : List V}, DpAll K H vs ds → vs.length = ds.length
  | _, _, .nil => rfl
  | _, _, .cons a r => congrArg (· + 1) (dps_len r)
end FT


/-! all lists of places with given residents are the lists of places with given sizes (plain maths) -/
namespace FT
open PySem L2 TL ClX
theorem selU_count {zs : List Str} {p : Str} : ∀ k : Nat, k ≤ zs.length → (selU k (atC zs p)).length = (zs.take k).count p
  | 0, _ => by rw [selU_zero, List.take_zero] <;> rfl
  | k + 1, h => by
    have hk : zs[k]? = some zs[k] := List.getElem?_eq_getElem (by omega)
    obtain ⟨z, ez⟩ : ∃ z, z = zs[k] := ⟨_, rfl⟩
    rw [← ez] at hk
    rw [selU_more, List.length_append, selU_count k (by omega), take_more hk, List.count_append]
    congr 1
    unfold atC
    rw [hk]
    by_cases e : z = p
    · rw [e, if_pos (by rw [decide_eq_true_eq])]
      simp
    · rw [if_neg (fun w => e (Option.some.inj (of_decide_eq_true w)))]
      simp [e]
theorem atU_count (zs : List Str) (p : Str) : (atU zs p).length = zs.count p := by
  unfold atU
  rw [selU_count _ (Nat.le_refl _), List.take_length]
section
variable {ts : List (Str × Str)} {zs : List Str} {s : Str → Int}
theorem cnt_resid (o : TreeOk ts) (pl : ∀ z ∈ zs, Pl ts z) (hs : ∀ a ∈ ts.map Prod.fst, szZ ts zs a = s a) {p : Str} (hp : Pl ts p) : (zs.count p : Int) = resid ts (zs.length : Int) s p := by
  have h := lsz_lens o (val_len (atU_val o pl)) p hp
  rw [atU_count] at h
  rw [h]
  have e : ∀ a ∈ ts.map Prod.fst, lsz ts (atU zs) a = s a := fun a ha => by rw [atU_lsz o pl ha, hs a ha]
  exact resid_congr e (hp.imp id fun m => e p m)
theorem resid_cnt (o : TreeOk ts) (pl : ∀ z ∈ zs, Pl ts z) (h : ∀ p, Pl ts p → (zs.count p : Int) = resid ts (zs.length : Int) s p) {a : Str} (ha : a ∈ ts.map Prod.fst) : szZ ts zs a = s a := by
  rw [← atU_lsz o pl ha]
  exact lens_lsz o (n := (zs.length : Int)) (sz := s) (fun p hp => by rw [atU_count]; exact h p hp) ha
theorem res_pls (o : TreeOk ts) {n : Int} : ((pls ts).map (resid ts n s)).sum = n := by
  have e : ((pls ts).map fun p : Str => (if p = ("" : Str) then n else s p) - ((kids ts p).map s).sum).sum = n := by
    rw [sum_map_sub, kids_sum (pls_nd o) fun k _ => s k]
    have e1 : (ts.map fun q => if q.2 ∈ pls ts then s q.1 else 0).sum = ((ts.map Prod.fst).map s).sum := by
      rw [List.map_map]
      congr 1
      refine List.map_congr_left fun q hq => ?_
      rw [if_pos (mem_pls.mpr (par_pl o (par_of o.nd (a := q.1) (z := q.2) hq)))] <;> rfl
    rw [e1]
    unfold pls
    rw [List.map_cons, List.sum_cons, if_pos rfl]
    have e2 : ((ts.map Prod.fst).map fun p : Str => if p = ("" : Str) then n else s p) = (ts.map Prod.fst).map s := List.map_congr_left fun a ha => if_neg fun z => o.root (by rw [← z]; exact ha)
    rw [e2]
    omega
  exact e
theorem ev_iff (o : TreeOk ts) {ks : List Str} (pk : ks.Perm (pls ts)) {n : Nat} (f : Fea ts (n : Int) s) (W : List Str) : W ∈ evN ks n (resid ts (n : Int) s) ↔ W.length = n ∧ (∀ z ∈ W, Pl ts z) ∧ ∀ a ∈ ts.map Prod.fst, szZ ts W a = s a := by
  have nd : ks.Nodup := pk.nodup_iff.mpr (pls_nd o)
  rw [evN_mem nd n _ (fun a ha => f.res a (pk.mem_iff.mp ha)) (by rw [sum_perm (pk.map _)]; exact res_pls o)]
  refine ⟨fun ⟨h1, h2, h3⟩ => ?_, fun ⟨h1, h2, h3⟩ => ?_⟩
  · have pl : ∀ z ∈ W, Pl ts z := fun z hz => mem_pls.mp (pk.mem_iff.mp (h2 z hz))
    exact ⟨h1, pl, fun a ha => resid_cnt o pl (fun p hp => by rw [h1]; exact h3 p (pk.mem_iff.mpr (mem_pls.mpr hp))) ha⟩
  · exact ⟨h1, fun z hz => pk.mem_iff.mpr (mem_pls.mpr (h2 z hz)), fun p hp => by rw [cnt_resid o h2 h3 (mem_pls.mp (pk.mem_iff.mp hp)), h1]⟩
/-- what a best change has -/
structure Best (ts : List (Str × Str)) (s : Str → Int) (zs zs' : List Str) : Prop where
  len : zs'.length = zs.length
  pl : ∀ z ∈ zs', Pl ts z
  sz : ∀ a ∈ ts.map Prod.fst, szZ ts zs' a = s a
  al : ∀ a ∈ ts.map Prod.fst, alone ts zs zs' a = absI (s a - szZ ts zs a)
theorem best_all (o : TreeOk ts) {zs' lo : List Str} (plo : lo.Perm (ts.map Prod.fst)) (pl : ∀ z ∈ zs, Pl ts z) (b : BestOf ts (fun a => szOf (kvsOf (some (tblI lo s))) a - szZ ts zs a) zs zs') : Best ts s zs zs' := by
  have hsz : ∀ a ∈ ts.map Prod.fst, szZ ts zs' a = s a := fun a ha => by
    rw [best_sizes o pl b ha]
    show szZ ts zs a + (szOf (tblI lo s) a - szZ ts zs a) = s a
    rw [szOf_tbl (plo.mem_iff.mpr ha)]
    omega
  exact ⟨best_len b, best_pl b, hsz, fun a ha => by rw [(alone_one (best_len b).symm).mpr (best_one o pl b a), hsz a ha]⟩
theorem ev_best (o : TreeOk ts) {ks zs' : List Str} (pk : ks.Perm (pls ts)) (f : Fea ts (zs.length : Int) s) (b : Best ts s zs zs') : zs' ∈ evN ks zs.length (resid ts (zs.length : Int) s) := (ev_iff o pk f zs').mpr ⟨b.len, b.pl, b.sz⟩
end
theorem root_first {ks : List Str} (h : PyProof.Rows.sortedS ks = true) : PyProof.Rows.sortedS (("" : Str) :: ks) = true := by
  cases ks with
  | nil => rfl
  | cons x r =>
    show PyProof.Rows.risingS ("" : Str) (x :: r) = true
    have h' : PyProof.Rows.risingS x r = true := h
    unfold PyProof.Rows.risingS
    rw [h']
    generalize x.cps.toList = xs
    cases xs <;> rfl
theorem fea_szZ {ts : List (Str × Str)} {zs : List Str} (o : TreeOk ts) (pl : ∀ z ∈ zs, Pl ts z) : Fea ts (zs.length : Int) (szZ ts zs) :=
  ⟨fun a _ => Int.natCast_nonneg _, fun p hp => by rw [← cnt_resid o pl (fun _ _ => rfl) (mem_pls.mp hp)]; exact Int.natCast_nonneg _⟩
/-- the least of the numbers -/
theorem min_is {ns : List Int} {m d : Int} (hm : m ∈ ns) (lo : ∀ y ∈ ns, m ≤ y) (ge : ∀ y ∈ ns, d ≤ y) (md : d ∈ ns) : m = d := by
  have h1 := lo d md
  have h2 := ge m hm
  omega
end FT


/-! two dicts of flat values compared, equal or not -/
namespace L2
open PySem PySem.Spec PyProof.Rows
def rowEq (ls : List (Key × V)) (p : Key × V) : Bool := match valV ls p.1 with
  | some u => eqV p.2 u
  | none => false
def eqDK (ks ls : List (Key × V)) : Bool := ks.length == ls.length && ks.all (rowEq ls)
theorem valV_mem {ls : List (Key × V)} {k : Key} {u : V} (h : valV ls k = some u) : ∃ p ∈ ls, p.2 = u := by
  induction ls with
  | nil => cases h
  | cons p ls ih =>
    by_cases e : p.1 = k
    · rw [valV_pos e] at h
      exact ⟨p, List.mem_cons_self .., Option.some.inj h⟩
    · rw [valV_neg e] at h
      obtain ⟨q, hq, eq⟩ := ih h
      exact ⟨q, List.mem_cons_of_mem _ hq, eq⟩
theorem hits_any {A : Around} {s : Shared} {ls : List (Key × V)} {vb : List (Key × Value)} (rb : KV ls vb) (fl : ∀ p ∈ ls, flatV p.2 = true) {ks : List (Key × V)} {va : List (Key × Value)} (ra : KV ks va) : (∀ p ∈ ks, flatV p.2 = true) → PySem.W.KeqHits A s vb va (ks.all (rowEq ls)) := by
  unfold KV at ra
  induction ra with
  | nil => intro _; exact .nil
  | @cons p q ps qs h t ih =>
    intro fk
    obtain ⟨h1, h2⟩ := h
    have ih := ih fun p' hm => fk p' (List.mem_cons_of_mem _ hm)
    obtain ⟨k, v⟩ := q
    have h1' : p.1 = k := h1
    have rr := rb.val p.1
    rw [List.all_cons]
    cases e : valV ls p.1 with
    | none =>
      rw [e] at rr
      have z := rr.none_of
      rw [h1'] at z
      rw [show rowEq ls p = false by unfold rowEq; rw [e]]
      exact .miss z
    | some u =>
      rw [e] at rr
      obtain ⟨y, hy, ry⟩ := rr.some_of
      rw [h1'] at hy
      obtain ⟨p', hp', e'⟩ := valV_mem e
      have fu : flatV u = true := by rw [← e']; exact fl p' hp'
      rw [show rowEq ls p = eqV p.2 u by unfold rowEq; rw [e]]
      exact .hit hy (eqAt_V h2 ry (fk p (List.mem_cons_self ..)) fu) ih
section
variable {X : Cx}
def rEqDC : R2 := fun x y H Q => ∃ a b ks ls, x = .ref a ∧ y = .ref b ∧ H a = some (.dK ks) ∧ H b = some (.dK ls) ∧ (∀ p ∈ ks, flatV p.2 = true) ∧ (∀ p ∈ ls, flatV p.2 = true) ∧ Q (.bl (eqDK ks ls)) H
def rNeDC : R2 := fun x y H Q => ∃ a b ks ls, x = .ref a ∧ y = .ref b ∧ H a = some (.dK ks) ∧ H b = some (.dK ls) ∧ (∀ p ∈ ks, flatV p.2 = true) ∧ (∀ p ∈ ls, flatV p.2 = true) ∧ Q (.bl (!eqDK ks ls)) H
theorem op_eq_dictC (hu : X.A.units < cLine) : OpR X (compareOp .Eq) rEqDC := by
  intro pins s σ H x y v u Q I rx ry h
  obtain ⟨a, b, ks, ls, rfl, rfl, ea, eb, fk, fl, q⟩ := h
  obtain rfl : v = Value.ref a := rx
  obtain rfl : u = Value.ref b := ry
  obtain ⟨_, ya, va, ra, da⟩ := (show ObjOk X.prog X.w H s.heap a (.dK ks) from I.hok a _ ea)
  obtain ⟨_, yb, vb, rb, db⟩ := (show ObjOk X.prog X.w H s.heap b (.dK ls) from I.hok b _ eb)
  have e : eqDK ks ls = (va.length == vb.length && ks.all (rowEq ls)) := by unfold eqDK; rw [ra.length, rb.length]
  exact PySem.W.keq_eq (knd := mixKind X.prog X.w) (r := ks.all (rowEq ls)) ya yb da db hu (fun _ => hits_any rb fl ra fk) (fin_bl I q e)
theorem op_ne_dictC (hu : X.A.units < cLine) : OpR X (compareOp .NotEq) rNeDC := by
  intro pins s σ H x y v u Q I rx ry h
  obtain ⟨a, b, ks, ls, rfl, rfl, ea, eb, fk, fl, q⟩ := h
  obtain rfl : v = Value.ref a := rx
  obtain rfl : u = Value.ref b := ry
  obtain ⟨_, ya, va, ra, da⟩ := (show ObjOk X.prog X.w H s.heap a (.dK ks) from I.hok a _ ea)
  obtain ⟨_, yb, vb, rb, db⟩ := (show ObjOk X.prog X.w H s.heap b (.dK ls) from I.hok b _ eb)
  have e : (!eqDK ks ls) = !(va.length == vb.length && ks.all (rowEq ls)) := by unfold eqDK; rw [ra.length, rb.length]
  exact PySem.W.keq_ne (knd := mixKind X.prog X.w) (r := ks.all (rowEq ls)) ya yb da db hu (fun _ => hits_any rb fl ra fk) (fin_bl I q e)
end
end L2


/-! xs.count(y), items that are data of any depth -/
namespace L2
open PySem PySem.Spec PyProof.Rows
variable {X : Cx}
def rCntD (K : PySem.W.Frag) : V → List V → Hp → VK → Prop := fun x xs H Q => ∃ (a : Addr) (y : V) (d : PyData) (ds : List PyData), x = .ref a ∧ xs = [y] ∧ Dp K H (V.ref a) (.list ds) ∧ Dp K H y d ∧ SeqAt.shaped (.list ds) = true ∧ SeqAt.shaped d = true ∧
  Q (.int ((ds.countP fun z => PyData.eqv z d : Nat) : Int)) H
theorem mt_countD (hu : X.A.units + 65 < cLine) : MtR X "list.count" (rCntD X.K) := by
  intro pins s σ H x xs v us Q I rx rxs ⟨a, y, d, ds, ex, exs, hl, hy, sl, sd, q⟩
  subst ex
  subst exs
  cases rx
  match us, rxs with
  | [uy], .cons ry .nil =>
    obtain ⟨bs, r1⟩ := Dp.reads I d y uy hy ry
    have hxs : PyData.canLayAll0 ds = true := SeqAt.canLay_of_shaped sl
    have hroom : X.A.units + 1 + min (PyData.depthAll ds) d.depth < cLine := room_in_shaped sd hu
    cases hl with
    | lst hs ha =>
      obtain ⟨its, rv, ⟨⟨cls, dd, data, sls⟩, n, ho, hc, hdn, hdt⟩, hlen⟩ := I.list hs
      simp only at hc hdt
      subst hc hdt
      obtain ⟨as, h4⟩ := Dp.readsAll I ds _ its ha rv
      have hmap : its.map (SeqAt.readOf s.heap) = ds := SeqAt.readsAll_map ds its as hxs h4
      refine call_meets PySem.F.slot_list_count ⟨_, ho, rfl⟩ PySem.F.entry_list_count (PySem.F.args_list_count_2 _ _)
        (SeqAt.list_countAt a its.toArray n dd sls uy (fun u => PyData.eqv (SeqAt.readOf s.heap u) d)) ⟨ho, SeqAt.items_eqAt (vs := its.toArray) (show ReadsAll s.heap its.toArray.toList ds as from h4) r1 hxs (SeqAt.canLay_of_shaped sd) hroom, ?_⟩
      refine ⟨.int ((ds.countP fun z => PyData.eqv z d : Nat) : Int), H, I.tok _, ⟨s.toks, ?_⟩, q⟩
      show Value.int ((its.toArray.toList.countP (fun u => PyData.eqv (SeqAt.readOf s.heap u) d) : Nat) : Int) s.toks = Value.int ((ds.countP fun z => PyData.eqv z d : Nat) : Int) s.toks
      rw [show its.toArray.toList = its from rfl, ← hmap, List.countP_map] <;> rfl
end L2


/-! own __eq__ with either answer; Forest.__eq__; need_match with its error -/
namespace FT
open PySem L2 TL ClX LiI
/-- what an own == promises, equal or not -/
def spEqB (R : Addr → Addr → Bool → Hp → Prop) : Sp := fun vs H Q _ => ∃ a b v, vs = [.ref a, .ref b] ∧ R a b v H ∧ ∀ H', Ext H H' → Q (.bl v) H'
def rNeB (C : Addr) (R : Addr → Addr → Bool → Hp → Prop) : R2 := fun x y H Q => ∃ a b dx dy fs gs v, x = .ref a ∧ y = .ref b ∧ H a = some (.ins C dx fs) ∧ H b = some (.ins C dy gs) ∧ R a b v H ∧ ∀ H', Ext H H' → Q (.bl (!v)) H'
theorem op_neB {X : Cx} {CX : CXT} {C f : Addr} {fd : FuncData} {ps : List Str} {R : Addr → Addr → Bool → Hp → Prop} {E : XK} {n : Nat} (F : FnOk X.prog X.w X.K X.mg X.base CX n f fd ps (spEqB R)) (ef : EqF X.K C f) (hb : Binds X.K fd ps []) (hx : Passes CX X E) (hr : Room (n + 1) X.A) (hu : X.A.units + 1 < cLine) :
    OpR X (compareOp .NotEq) (rNeB C R) := by
  intro pins s σ H x y v u Q I rx ry hq
  obtain ⟨a, b, dx, dy, fs, gs, v0, rfl, rfl, ha, hb', rel, q⟩ := hq
  cases rx
  cases ry
  obtain ⟨mA, J, _⟩ := ins_get I.hok ha
  obtain ⟨mB, J', _⟩ := ins_get I.hok hb'
  obtain ⟨od, J, _⟩ := J.look
  obtain ⟨od', J', _⟩ := J'.look
  obtain ⟨j1, j2, _⟩ := J
  obtain ⟨j3, j4, _⟩ := J'
  have want : spEqB R [.ref a, .ref b] H (fun v H' => v = .bl v0 ∧ Ext H H') E := ⟨a, b, v0, rfl, rel, fun H' e => ⟨rfl, e⟩⟩
  have len := F.len _ _ _ _ want
  have rv : Vals [V.ref a, V.ref b] [Value.ref a, Value.ref b] := .cons rfl (.cons rfl .nil)
  have bind : BindsTo s fd ⟨[.ref a, .ref b], []⟩ (ps.zip [.ref a, .ref b]) := by
    have z := hb s [.ref a, .ref b] I.kIn (by simpa using len)
    simpa using z
  have run : wpAny (model X.prog X.w) X.A.in1 (call (.ref f) [.ref a, .ref b]) (fun v s' => ∃ b, v = .bool b ∧ EP X pins σ Q (.bool (!b)) s') X.xe s := by
    refine wpAny_call (codeAny_mono (F.run X.A.in1 X.stack s H ⟨[.ref a, .ref b], []⟩ [.ref a, .ref b] [.ref a, .ref b] _ E hr.in1 I.env0.in1 bind rv want) fun r s' z => ?_)
    match r, z with
    | .error er, z => exact hx pins σ H s er s' I z
    | .ok (.ret u), z =>
      obtain ⟨t, H', I', rz, ez, ex⟩ := I.after z
      subst ez
      cases rz
      exact ⟨v0, rfl, .bl (!v0), H', I', rfl, q H' ex⟩
    | .ok .next, z => exact z.elim
    | .ok .brk, z => exact z.elim
    | .ok .cont, z => exact z.elim
  have own := ef.own I.kIn j1 j2
  obtain ⟨hp, gn, dr, tk, os⟩ := s
  exact compareOp_ne_ownEq PySem.F.cmp_object own j3 j4 hu run
def RFoB (CF : Addr) : Addr → Addr → Bool → Hp → Prop := fun a b v H => ∃ ts us, FAt CF H a ts ∧ FAt CF H b us ∧ v = eqDK (prs ts) (prs us)
theorem prs_flat (ts : List (Str × Str)) : ∀ p ∈ prs ts, flatV p.2 = true := fun p hp => by
  unfold prs kvT at hp
  rw [List.map_map] at hp
  obtain ⟨q, _, rfl⟩ := List.mem_map.mp hp
  rfl
/-- the same parents, as many users -/
def matB (ts us : List (Str × Str)) (zs1 zs2 : List Str) : Bool := eqDK (prs ts) (prs us) && decide (zs1.length = zs2.length)
def spMatchE (CF CA CM : Addr) : Sp := fun vs H Q E => ∃ (y1 y2 x1 x2 : Addr) (ts us : List (Str × Str)) (zs1 zs2 : List Str), vs = [.ref y1, .ref y2] ∧ AAt CA H y1 x1 zs1 ∧ AAt CA H y2 x2 zs2 ∧ FAt CF H x1 ts ∧ FAt CF H x2 us ∧
  if matB ts us zs1 zs2 = true then ∀ H', Same H H' → Q .non H' else Out H E (.e0 CM)
section
variable {P : Program} {w : World} {K : PySem.W.Frag} {mg : Str → Option Value} {base : Heap}
theorem ok_feqB {f CF : Addr} {mc : Value} {fd : FuncData} (F : Fun K "__eq__" "Forest.__eq__" s_Forest___eq__ f fd) (T : Nm mg) (O : FoC K CF) (Z : Fc K mg CF mc) (S : IsF K CF) : FnOk P w K mg base CX0 1 f fd ["self", "other"] (spEqB (RFoB CF)) := by
  refine F.ok scFEq (fun vs H Q E h => ?_) (fun cdv A outer s H vs Q E hr h => ?_)
  · obtain ⟨a, b, v, rfl, _⟩ := h
    rfl
  · obtain ⟨a, b, v, rfl, ⟨ts, us, ⟨da, qa, ha, hda⟩, ⟨db, qb, hb, hdb⟩, rfl⟩, k⟩ := h
    have hu := hu_of hr
    refine ⟨_, pss_one (ps_ret (pe_and (pe_callB call_isi (by rfl) T.isi (by decide +kernel) (pa_cons (pv 1) (pa_cons (pe_glob (v := .ref CF) (by rfl) Z.gF rfl) pa_nil))) (pe_one (pe_cmpR (op_eq_dictC (Nat.lt_of_succ_lt hu)) (pe_fld (pv 0) rfl) (pe_fld (pv 1) rfl) (nomark _))))), ?_⟩
    refine ⟨_, rfl, .ref b, _, .ref CF, _, true, rfl, .own _, .base (.ins hb O.cl S.ha S.hn S.ht S.hm), kit_self, true, rfl, ?_⟩
    show if true = true then _ else _
    rw [if_pos rfl]
    exact ⟨_, rfl, a, CF, da, _, .ref qa, rfl, ha, O.cl, O.nA, rfl, _, rfl, b, CF, db, _, .ref qb, rfl, hb, O.cl, O.nA, rfl, qa, qb, _, _, rfl, rfl, hda, hdb, prs_flat _, prs_flat _, k _ fun _ _ e => e⟩
theorem ok_matchE {f fE CF CA CM IM pF gF pT gT : Addr} {mcA : Value} {fd fdE fdM fd1 fd2 : FuncData} (F : Fun K "need_match" "need_match" s_need_match f fd) (B : Ac K mg CA mcA) (PF : PrN P w K mg base 1 CA "forest" (spAForest CA) pF gF fd1) (PT : PrN P w K mg base 1 CA "total" (spATotal CA) pT gT fd2)
    (EQ : FnOk P w K mg base CX0 1 fE fdE ["self", "other"] (spEqB (RFoB CF))) (ef : EqF K CF fE) (bE : Binds K fdE ["self", "other"] []) (U : Er0 P w K mg base "Mismatch" CM IM fdM) : FnOk P w K mg base (L2.CX P w) 3 f fd ["one", "other"] (spMatchE CF CA CM) := by
  refine F.okX scMa (fun vs H Q E h => ?_) (fun cdv A outer s H vs Q E hr h => ?_)
  · obtain ⟨y1, y2, x1, x2, ts, us, zs1, zs2, rfl, _⟩ := h
    rfl
  · obtain ⟨y1, y2, x1, x2, ts, us, zs1, zs2, rfl, h1, h2, fa, fb, k⟩ := h
    have hu := hu_of hr
    refine ⟨_, pss_one (ps_if (PW.pt (pw_or (pt_cmpR (op_neB (E := E0) EQ ef bE pass0 hr hu) (pe_prop (pv 0) B.cl PF.pr PF.fn hr PF.bn .nil pass0 (by rfl)) (pe_prop (pv 1) B.cl PF.pr PF.fn hr PF.bn .nil pass0 (by rfl)) (nomark _))
        (pw_or1 (pt_cmpR op_ne (pe_prop (pv 0) B.cl PT.pr PT.fn hr PT.bn .nil pass0 (by rfl)) (pe_prop (pv 1) B.cl PT.pr PT.fn hr PT.bn .nil pass0 (by rfl)) (nomark _))))) (pss_one (ps_err0 U rfl (takes_of rfl rfl rfl rfl) hr rfl)) pss_nil), ?_⟩
    obtain ⟨d1, p1, a1, b1⟩ := id h1
    obtain ⟨d2, p2, a2, b2⟩ := id h2
    obtain ⟨dx, dq, hx, hd⟩ := id fa
    obtain ⟨dz, dr, hz, he⟩ := id fb
    refine ⟨_, rfl, y1, d1, _, rfl, a1, y1, x1, zs1, rfl, h1, _, rfl, y2, d2, _, rfl, a2, y2, x2, zs2, rfl, h2, x1, x2, dx, dz, _, _, eqDK (prs ts) (prs us), rfl, rfl, hx, hz, ⟨ts, us, fa, fb, rfl⟩, fun H' s' => ⟨_, rfl, ?_⟩⟩
    have r' : Same H H' := fun b u e => s' b u e
    unfold matB at k
    cases e : eqDK (prs ts) (prs us) with
    | false =>
      rw [e, Bool.false_and, if_neg (by decide)] at k
      exact iteT (iteT (out0 k r'))
    | true =>
      rw [e] at k
      refine iteF ?_
      refine ⟨_, rfl, y1, d1, _, rfl, r' _ _ a1, y1, x1, zs1, rfl, h1.mono r', _, rfl, y2, d2, _, rfl, r' _ _ a2, y2, x2, zs2, rfl, h2.mono r', rfl, _, rfl, ?_⟩
      by_cases el : zs1.length = zs2.length
      · rw [if_pos (by rw [decide_eq_true el] <;> rfl)] at k
        rw [decide_eq_true (show V.int (zs1.length : Int) = V.int (zs2.length : Int) by rw [el])]
        exact iteF (k H' r')
      · rw [if_neg (by rw [decide_eq_false el]; decide)] at k
        rw [decide_eq_false (show ¬ V.int (zs1.length : Int) = V.int (zs2.length : Int) from fun z => el (by have := V.int.inj z; omega))]
        exact iteT (out0 k r')
end
end FT


/-! traffic, is_best, with their error -/
namespace FT
open PySem L2 TL ClX LiI
theorem eqDK_self {ts : List (Str × Str)} (nd : (ts.map Prod.fst).Nodup) : eqDK (prs ts) (prs ts) = true := by
  unfold eqDK
  rw [Bool.and_eq_true]
  refine ⟨by simp, List.all_eq_true.mpr fun p hp => ?_⟩
  obtain ⟨e, f⟩ := prs_all nd p hp
  unfold rowEq
  rw [e]
  unfold prs kvT at hp
  rw [List.map_map] at hp
  obtain ⟨q, _, rfl⟩ := List.mem_map.mp hp
  show (eqV (V.str q.2) (V.str q.2)) = true
  simp [eqV]
theorem matB_self {ts : List (Str × Str)} {zs1 zs2 : List Str} (o : TreeOk ts) (el : zs1.length = zs2.length) : matB ts ts zs1 zs2 = true := by
  unfold matB
  rw [eqDK_self o.nd, decide_eq_true el] <;> rfl
def spTrafficE (CF CA CM : Addr) : Sp := fun vs H Q E => ∃ (y1 y2 x1 x2 : Addr) (ts us : List (Str × Str)) (zs1 zs2 : List Str), vs = [.ref y1, .ref y2] ∧ AAt CA H y1 x1 zs1 ∧ AAt CA H y2 x2 zs2 ∧ FAt CF H x1 ts ∧ FAt CF H x2 us ∧
  ((matB ts us zs1 zs2 = false ∧ Out H E (.e0 CM)) ∨ (ts = us ∧ TreeOk ts ∧ zs1.length = zs2.length ∧ zs1.length ≤ 1000 ∧ (∀ z ∈ zs1, Pl ts z) ∧ (∀ z ∈ zs2, Pl ts z) ∧
  ∀ (p : Addr) (r : Str → Addr) (H' : Hp), Same H H' → H p = none → H' p = some (.dK (tblV (ts.map Prod.fst) fun a => .ref (r a))) → (∀ a ∈ ts.map Prod.fst, H' (r a) = some (.tup [.int (newU (hasU ts zs1 a) (hasU ts zs2 a)), .int (newU (hasU ts zs2 a) (hasU ts zs1 a))])) → Q (.ref p) H'))
def spIsBestE (CF CA CM : Addr) : Sp := fun vs H Q E => ∃ (y1 y2 x1 x2 : Addr) (ts us : List (Str × Str)) (zs1 zs2 : List Str), vs = [.ref y1, .ref y2] ∧ AAt CA H y1 x1 zs1 ∧ AAt CA H y2 x2 zs2 ∧ FAt CF H x1 ts ∧ FAt CF H x2 us ∧
  ((matB ts us zs1 zs2 = false ∧ Out H E (.e0 CM)) ∨ (ts = us ∧ TreeOk ts ∧ zs1.length = zs2.length ∧ zs1.length ≤ 1000 ∧ (∀ z ∈ zs1, Pl ts z) ∧ (∀ z ∈ zs2, Pl ts z) ∧ ∀ H', Same H H' → Q (.bl (bestB ts zs1 zs2)) H'))
section
variable {P : Program} {w : World} {K : PySem.W.Frag} {mg : Str → Option Value} {base : Heap}
abbrev NTr : List Str := ["one", "other", "found", "name", "ahead", "behind", "gained", "user"]
theorem scTr : FnScope NTr ["one", "other"] (defScope s_traffic) := ⟨rfl, rfl, rfl, by decide +kernel, rfl, by decide +kernel, by decide +kernel⟩
theorem ok_trafficE {f fM fU CF CA CM pF gF p1 g1 : Addr} {mcA : Value} {fd fdM fdU fd1 fd2 : FuncData} (F : Fun K "traffic" "traffic" s_traffic f fd) (T : Nm mg) (O : FoC K CF) (B : Ac K mg CA mcA) (DM : Dn P w K mg base (L2.CX P w) 3 "need_match" ["one", "other"] (spMatchE CF CA CM) fM fdM) (MU : Mt P w K mg base CX0 2 CA "users_of" ["self", "name"] (spAUsers CF CA) fU fdU)
    (PF : PrN P w K mg base 1 CA "forest" (spAForest CA) pF gF fd1) (L1 : Pr1 P w K mg base CF "flags" (spFFlags CF) p1 g1 fd2) : FnOk P w K mg base (L2.CX P w) 4 f fd ["one", "other"] (spTrafficE CF CA CM) := by
  refine F.okX scTr (fun vs H Q E h => ?_) (fun cdv A outer s H vs Q E hr h => ?_)
  · obtain ⟨y1, y2, x1, x2, ts, us, zs1, zs2, rfl, _⟩ := h
    rfl
  · obtain ⟨y1, y2, x, x2, ts, us, zs1, zs2, rfl, h1, h2, fa, fb, k⟩ := h
    have hu := hu_of hr
    have nd := scTr.nd
    have hr2 : Room 2 _ := hr.mono (by decide)
    have big : 2000 ≤ sizeLine := by decide
    refine ⟨_, pss_cons (ps_expr (pe_call DM.ok hr rfl DM.mgn DM.kp DM.bn .nil (passes_call (takes_of rfl rfl rfl rfl) (fun _ _ _ _ h => h)) (pa_cons (pv 0) (pa_cons (pv 1) pa_nil))))
      (pss_cons (ps_set (i := 2) nd rfl (.inl rfl) pe_dnewK)
      (pss_cons (ps_for (passes_of rfl) rfl (pi_list (pe_prop (pe_prop (pv 0) B.cl PF.pr PF.fn hr2 PF.bn .nil pass0 (by rfl)) O.cl L1.pr L1.fn hr2 L1.bn .nil pass0 (by rfl))) (pg_name (i := 3) nd rfl (.inl rfl))
        (pss_cons (ps_asg (pe_tup (pa_cons (pe_meth (pv 0) B.cl MU.mt MU.fn hr2 MU.bn .nil pass0 (pa_cons (pv 3) pa_nil)) (pa_cons (pe_meth (pv 1) B.cl MU.mt MU.fn hr2 MU.bn .nil pass0 (pa_cons (pv 3) pa_nil)) pa_nil)))
            (pg_tup rfl (pgs_cons (pg_name (i := 4) nd rfl (.inr rfl)) (pgs_cons (pg_name (i := 5) nd rfl (.inr rfl)) pgs_nil))))
        (pss_cons (ps_set (i := 6) nd rfl (.inl rfl) (pe_callB call_len_seq (by rfl) T.len PySem.boot_len (pa_cons (pe_lc (own := [("user", 7)]) (g := gName 7) (tt := tTest (tOp (rIn K true) (tVar 7) (tVar 4))) (te := tVar 7) rfl nd (pi_list (pv 5)) (blkOk_by (N := NTr) (sc := defScope s_traffic) (by decide +kernel))
            (fun _ _ _ _ _ => pg_name (i := 7) nd rfl (Or.inl rfl)) (fun _ _ _ _ _ => pts_one (pt_cmpR op_notIn_seq (pv 7) (pv 4) rfl)) (fun _ _ _ _ _ => pv 7)) pa_nil)))
        (pss_one (ps_dput hu (pv 2) (pv 3) (pe_tup (pa_cons (pv 6) (pa_cons (pe_callB call_len_seq (by rfl) T.len PySem.boot_len (pa_cons (pe_lc (own := [("user", 7)]) (g := gName 7) (tt := tTest (tOp (rIn K true) (tVar 7) (tVar 5))) (te := tVar 7) rfl nd (pi_list (pv 4)) (blkOk_by (N := NTr) (sc := defScope s_traffic) (by decide +kernel))
            (fun _ _ _ _ _ => pg_name (i := 7) nd rfl (Or.inl rfl)) (fun _ _ _ _ _ => pts_one (pt_cmpR op_notIn_seq (pv 7) (pv 5) rfl)) (fun _ _ _ _ _ => pv 7)) pa_nil)) pa_nil))) rfl)))))
      (pss_one (ps_ret (pv 2))))), ?_⟩
    obtain ⟨d1, q1', a1, b1⟩ := id h1
    obtain ⟨d2, q2', a2, b2⟩ := id h2
    obtain ⟨dx, dq, hx, hd⟩ := id fa
    refine ⟨_, rfl, _, rfl, y1, y2, x, x2, ts, us, zs1, zs2, rfl, h1, h2, fa, fb, ?_⟩
    rcases k with ⟨no, k⟩ | ⟨e0, o, el, few, pl1, pl2, k⟩
    · rw [if_neg (by rw [no]; decide)]
      exact k
    subst e0
    rw [if_pos (matB_self o el)]
    intro H1 s1
    have few' := o.few
    refine fun q nq => ?_
    have tq := same_new (o := .dK []) nq
    have nq0 : H q = none := s1.free nq
    have s1q := s1.trans tq
    show tSeq _ _ _ _ (upd H1 q (.dK []))
    refine ⟨_, rfl, y1, d1, _, rfl, s1q _ _ a1, y1, x, zs1, rfl, h1.mono s1q, x, dx, _, rfl, s1q _ _ hx, x, ts, rfl, fa.mono s1q, fun pf nf => ⟨pf, rfl, ⟨_, SqL.of upd_same⟩, ?_⟩⟩
    have tf := same_new (o := .lst ((ts.map Prod.fst).map V.str)) nf
    refine for_it walk_list (fun j σ' H' => (∃ u3 u4 u5 u6, σ' = [some (.ref y1), some (.ref y2), some (.ref q), u3, u4, u5, u6, none]) ∧ Same H H' ∧ H' pf = some (.lst ((ts.map Prod.fst).map V.str)) ∧ ∃ r : Str → Addr, H' q = some (.dK (tblV ((ts.map Prod.fst).take j) fun a => .ref (r a))) ∧
        ∀ a ∈ (ts.map Prod.fst).take j, H' (r a) = some (.tup [.int (newU (hasU ts zs1 a) (hasU ts zs2 a)), .int (newU (hasU ts zs2 a) (hasU ts zs1 a))]))
      ⟨⟨_, _, _, _, rfl⟩, s1q.trans tf, upd_same, fun _ => 0, tf _ _ upd_same, fun a h => by simp at h⟩ (fun j σ' H' _ z => SqL.of z.2.2.1) ?_ ?_
    · intro j y σ' Hz Ha hj ⟨⟨u3, u4, u5, u6, eσ⟩, sa, hpf, r, hq, hr0⟩ ⟨eb, ex⟩
      subst eσ
      subst eb
      obtain ⟨a, ha, rfl⟩ := map_of ex
      have ma := List.mem_of_getElem? ha
      have fr := nat_fresh o.nd ha
      refine ⟨_, rfl, y1, d1, _, rfl, sa _ _ a1, rfl, _, rfl, y1, x, ts, zs1, a, rfl, h1.mono sa, fa.mono sa, o, pl1, few, ma, fun ah Hb sb nah hah => ?_⟩
      refine ⟨_, rfl, y2, d2, _, rfl, sb _ _ (sa _ _ a2), rfl, _, rfl, y2, x2, ts, zs2, a, rfl, (h2.mono sa).mono sb, (fb.mono sa).mono sb, o, pl2, by omega, ma, fun be Hc sc nbe hbe => ?_⟩
      refine ⟨by show 2 ≤ sizeLine; omega, fun tp ntp => ⟨tp, _, rfl, .inl (.inl upd_same), rfl, _, _, rfl, _, _, rfl, rfl, ?_⟩⟩
      have tt := same_new (o := .tup [.ref ah, .ref be]) ntp
      obtain ⟨Hd, ed⟩ : ∃ X, X = upd Hc tp (.tup [.ref ah, .ref be]) := ⟨_, rfl⟩
      have sd : Same Ha Hd := ed ▸ (sb.trans sc).trans tt
      have had : Hd ah = some (.lst ((hasU ts zs1 a).map V.int)) := by rw [ed]; exact tt _ _ (sc _ _ hah)
      have hbd : Hd be = some (.lst ((hasU ts zs2 a).map V.int)) := by rw [ed]; exact tt _ _ hbe
      rw [← ed]
      have l1 := selU_len zs1.length (hasC ts zs1 a)
      have l2 := selU_len zs2.length (hasC ts zs2 a)
      have l1 : (hasU ts zs1 a).length ≤ zs1.length := l1
      have l2 : (hasU ts zs2 a).length ≤ zs2.length := l2
      refine ⟨_, rfl, be, rfl, ⟨_, SqL.of hbd⟩, fun D3 nD3 => ?_⟩
      refine lc_it walk_list (fun i H' => Same Hd H' ∧ H' D3 = some (.lst ((((hasU ts zs2 a).take i).filter fun u => decide (u ∉ hasU ts zs1 a)).map V.int))) ⟨same_new nD3, upd_same⟩ (fun i H' _ z => SqL.of (z.1 _ _ hbd)) ?_ ?_
      · intro i v2 Hz Hc hi ⟨q1, q2⟩ ⟨eb, ex⟩
        subst eb
        obtain ⟨u, hu', rfl⟩ := map_of ex
        refine ⟨rfl, ?_⟩
        refine ⟨_, rfl, _, rfl, ah, _, rfl, .inl (SqL.of (q1 _ _ had)), rfl, flat_ints _, _, rfl, ?_⟩
        rw [show (if true = true then !inV (V.int u) ((hasU ts zs1 a).map V.int) else inV (V.int u) ((hasU ts zs1 a).map V.int)) = decide (u ∉ hasU ts zs1 a) from (congrArg (!·) (inV_ints u _)).trans (by simp)]
        have more := filter_moreI (c := fun u => decide (u ∉ hasU ts zs1 a)) hu'
        have lf := List.length_filter_le (fun u => decide (u ∉ hasU ts zs1 a)) ((hasU ts zs2 a).take i)
        rw [List.length_take] at lf
        refine ite2 (fun yes => ?_) (fun no => ?_)
        · have yes : decide (u ∉ hasU ts zs1 a) = true := yes
          rw [if_pos yes] at more
          exact ⟨_, rfl, _, q2, by rw [List.length_map]; omega, q1.put nD3, by rw [upd_same, more, List.map_append] <;> rfl⟩
        · have no : ¬ decide (u ∉ hasU ts zs1 a) = true := no
          rw [if_neg no, List.append_nil] at more
          exact ⟨q1, by rw [more]; exact q2⟩
      intro H3 ⟨sD3, hD3⟩
      rw [List.length_map, List.take_length] at hD3
      refine ⟨D3, _, rfl, .inl (SqL.of hD3), ?_⟩
      rw [List.length_map]
      refine ⟨_, rfl, _, rfl, ah, rfl, ⟨_, SqL.of (sD3 _ _ had)⟩, fun D4 nD4 => ?_⟩
      refine lc_it walk_list (fun i H' => Same H3 H' ∧ H' D4 = some (.lst ((((hasU ts zs1 a).take i).filter fun u => decide (u ∉ hasU ts zs2 a)).map V.int))) ⟨same_new nD4, upd_same⟩ (fun i H' _ z => SqL.of (z.1 _ _ (sD3 _ _ had))) ?_ ?_
      · intro i v2 Hz Hc hi ⟨q1, q2⟩ ⟨eb, ex⟩
        subst eb
        obtain ⟨u, hu', rfl⟩ := map_of ex
        refine ⟨rfl, ?_⟩
        refine ⟨_, rfl, _, rfl, be, _, rfl, .inl (SqL.of (q1 _ _ (sD3 _ _ hbd))), rfl, flat_ints _, _, rfl, ?_⟩
        rw [show (if true = true then !inV (V.int u) ((hasU ts zs2 a).map V.int) else inV (V.int u) ((hasU ts zs2 a).map V.int)) = decide (u ∉ hasU ts zs2 a) from (congrArg (!·) (inV_ints u _)).trans (by simp)]
        have more := filter_moreI (c := fun u => decide (u ∉ hasU ts zs2 a)) hu'
        have lf := List.length_filter_le (fun u => decide (u ∉ hasU ts zs2 a)) ((hasU ts zs1 a).take i)
        rw [List.length_take] at lf
        refine ite2 (fun yes => ?_) (fun no => ?_)
        · have yes : decide (u ∉ hasU ts zs2 a) = true := yes
          rw [if_pos yes] at more
          exact ⟨_, rfl, _, q2, by rw [List.length_map]; omega, q1.put nD4, by rw [upd_same, more, List.map_append] <;> rfl⟩
        · have no : ¬ decide (u ∉ hasU ts zs2 a) = true := no
          rw [if_neg no, List.append_nil] at more
          exact ⟨q1, by rw [more]; exact q2⟩
      intro H4 ⟨sD4, hD4⟩
      rw [List.length_map, List.take_length] at hD4
      refine ⟨D4, _, rfl, .inl (SqL.of hD4), ?_⟩
      rw [List.length_map]
      refine ⟨by show 2 ≤ sizeLine; omega, fun tv ntv => ?_⟩
      have tvs := same_new (o := .tup [.int (((hasU ts zs2 a).filter fun u => decide (u ∉ hasU ts zs1 a)).length : Int), .int (((hasU ts zs1 a).filter fun u => decide (u ∉ hasU ts zs2 a)).length : Int)]) ntv
      have sAll := ((sd.trans sD3).trans sD4).trans tvs
      have tvq : tv ≠ q := (ne_of_none (sD4 _ _ (sD3 _ _ (sd _ _ hq))) ntv).symm
      refine ⟨_, rfl, _, rfl, q, _, rfl, DPut.k (k := Sum.inr a) (sAll _ _ hq) (by rw [tblV_len, List.length_take, List.length_map]; omega), ?_⟩
      refine ⟨⟨_, _, _, _, rfl⟩, (sa.trans sAll).put nq0, by rw [upd_ne (ne_of hpf hq (by intro z; cases z))]; exact sAll _ _ hpf, fun b => if b = a then tv else r b, ?_, fun b hb => ?_⟩
      · rw [upd_same, tblV_congr (g' := fun b => V.ref (if b = a then tv else r b)) fun b hb => by rw [if_neg fun z => fr (by rw [← z]; exact hb)], tblV_snoc fr (by rw [if_pos rfl]), take_more ha]
      · rw [take_more ha] at hb
        show (upd _ q _) (if b = a then tv else r b) = _
        by_cases e : b = a
        · rw [if_pos e, e, upd_ne tvq]
          exact upd_same
        · rw [if_neg e]
          have z := hr0 b ((List.mem_append.mp hb).resolve_right fun z => e (List.mem_singleton.mp z))
          rw [upd_ne (ne_of z hq (by intro z; cases z))]
          exact sAll _ _ z
    · intro σ' H3 ⟨⟨u3, u4, u5, u6, eσ⟩, sa, hpf, r, hq, hr0⟩
      subst eσ
      rw [List.length_map, List.take_length] at hq hr0
      exact ⟨_, rfl, k q r H3 sa nq0 hq hr0⟩
abbrev NIb : List Str := ["one", "other", "gained", "lost"]
theorem scIb : FnScope NIb ["one", "other"] (defScope s_is_best) := ⟨rfl, rfl, rfl, by decide +kernel, rfl, by decide +kernel, by decide +kernel⟩
theorem ok_isBestE {f fT CF CA CM : Addr} {fd fdT : FuncData} (F : Fun K "is_best" "is_best" s_is_best f fd) (T : Nm mg) (DT : Dn P w K mg base (L2.CX P w) 4 "traffic" ["one", "other"] (spTrafficE CF CA CM) fT fdT) : FnOk P w K mg base (L2.CX P w) 5 f fd ["one", "other"] (spIsBestE CF CA CM) := by
  refine F.okX scIb (fun vs H Q E h => ?_) (fun cdv A outer s H vs Q E hr h => ?_)
  · obtain ⟨y1, y2, x1, x2, ts, us, zs1, zs2, rfl, _⟩ := h
    rfl
  · obtain ⟨y1, y2, x1, x2, ts, us, zs1, zs2, rfl, h1, h2, fa, fb, k⟩ := h
    have nd := scIb.nd
    have big : 1000 ≤ sizeLine := by decide
    refine ⟨_, pss_one (ps_ret (pe_callB (cr_all rfl) (by rfl) T.all (by decide +kernel) (pa_cons (pe_lc (own := [("gained", 2), ("lost", 3)]) (g := gTup K 2 (gCons (gName 2) (gCons (gName 3) gNil))) (tt := tYes) rfl nd (pi_values (pe_lk (pe_call DT.ok hr rfl DT.mgn DT.kp DT.bn .nil (passes_call (takes_of rfl rfl rfl rfl) (fun _ _ _ _ h => h)) (pa_cons (pv 0) (pa_cons (pv 1) pa_nil)))))
        (blkOk_by (N := NIb) (sc := defScope s_is_best) (by decide +kernel)) (fun _ _ _ _ _ => pg_tup rfl (pgs_cons (pg_name (i := 2) nd rfl (Or.inl rfl)) (pgs_cons (pg_name (i := 3) nd rfl (Or.inl rfl)) pgs_nil))) (fun _ _ _ _ _ => pts_nil)
        (fun _ _ _ _ _ => pe_or (pe_cmpR op_eq (pv 2) pe_int (nomark _)) (pe_one (pe_cmpR op_eq (pv 3) pe_int (nomark _))))) pa_nil))), ?_⟩
    refine ⟨_, rfl, _, rfl, y1, y2, x1, x2, ts, us, zs1, zs2, rfl, h1, h2, fa, fb, ?_⟩
    rcases k with ⟨no, k⟩ | ⟨e0, o, el, few, pl1, pl2, k⟩
    · exact .inl ⟨no, k⟩
    refine .inr ⟨e0, o, el, few, pl1, pl2, fun p r H1 s1 np hp hr0 => ?_⟩
    have few' := o.few
    refine ⟨p, _, rfl, hp, trivial, fun od => ⟨p, od, _, rfl, upd_same, fun D nD => ?_⟩⟩
    have Dp : D ≠ p := (ne_of_none upd_same nD).symm
    obtain ⟨bb, ebb⟩ : ∃ bb : Str → Bool, bb = fun a => decide (newU (hasU ts zs1 a) (hasU ts zs2 a) = 0) || decide (newU (hasU ts zs2 a) (hasU ts zs1 a) = 0) := ⟨_, rfl⟩
    have s1p : Same H (upd H1 p (.frz od (.dK (tblV (ts.map Prod.fst) fun a => .ref (r a))))) := s1.put np
    refine lc_it walk_values (fun j H' => Same (upd H1 p (.frz od (.dK (tblV (ts.map Prod.fst) fun a => .ref (r a))))) H' ∧ H' D = some (.lst ((((ts.map Prod.fst).take j).map bb).map V.bl))) ⟨same_new nD, upd_same⟩ (fun j H' _ z => z.1 _ _ upd_same) ?_ ?_
    · intro j y Hz Ha hj ⟨q1, q2⟩ ⟨eb, kk, hk⟩
      subst eb
      obtain ⟨a, ha, rfl, rfl⟩ := tblV_at hk
      have ma := List.mem_of_getElem? ha
      have jl := (List.getElem?_eq_some_iff.mp ha).1
      rw [List.length_map] at jl
      have hra := q1 _ _ (show (upd H1 p (.frz od (.dK (tblV (ts.map Prod.fst) fun a => .ref (r a))))) (r a) = _ by rw [upd_ne (ne_of (hr0 a ma) hp (by intro z; cases z))]; exact hr0 a ma)
      refine ⟨r a, _, rfl, .inl (.inl hra), rfl, _, _, rfl, _, _, rfl, rfl, rfl, ?_⟩
      have fin : ∀ b : Bool, b = bb a → ∃ acc, Ha D = some (.lst acc) ∧ acc.length < sizeLine ∧ (Same (upd H1 p (.frz od (.dK (tblV (ts.map Prod.fst) fun a => .ref (r a))))) (upd Ha D (.lst (acc ++ [V.bl b]))) ∧ (upd Ha D (.lst (acc ++ [V.bl b]))) D = some (.lst ((((ts.map Prod.fst).take (j + 1)).map bb).map V.bl))) := fun b e => by
        refine ⟨_, q2, by rw [List.length_map, List.length_map, List.length_take, List.length_map]; omega, q1.put nD, ?_⟩
        rw [upd_same, take_more ha, List.map_append, List.map_append, e] <;> rfl
      refine ⟨_, rfl, rfl, _, rfl, ?_⟩
      by_cases c1 : newU (hasU ts zs1 a) (hasU ts zs2 a) = 0
      · rw [decide_eq_true (show V.int (newU (hasU ts zs1 a) (hasU ts zs2 a)) = V.int 0 by rw [c1])]
        show if true = true then _ else _
        rw [if_pos rfl]
        exact fin true (by rw [ebb]; simp [c1])
      · rw [decide_eq_false (show ¬ V.int (newU (hasU ts zs1 a) (hasU ts zs2 a)) = V.int 0 from fun z => c1 (V.int.inj z))]
        refine iteF ?_
        refine ⟨_, rfl, rfl, ?_⟩
        by_cases c2 : newU (hasU ts zs2 a) (hasU ts zs1 a) = 0
        · rw [decide_eq_true (show V.int (newU (hasU ts zs2 a) (hasU ts zs1 a)) = V.int 0 by rw [c2])]
          exact fin true (by rw [ebb]; simp [c2])
        · rw [decide_eq_false (show ¬ V.int (newU (hasU ts zs2 a) (hasU ts zs1 a)) = V.int 0 from fun z => c2 (V.int.inj z))]
          exact fin false (by rw [ebb]; simp [c1, c2])
    · intro H2 ⟨q1, q2⟩
      rw [tblV_len, List.take_length] at q2
      refine ⟨D, (ts.map Prod.fst).map bb, rfl, SqL.of q2, ?_⟩
      have e : ((ts.map Prod.fst).map bb).all id = bestB ts zs1 zs2 := by
        unfold bestB
        rw [List.all_map, ebb] <;> rfl
      rw [e]
      exact k H2 (s1p.trans q1)
end
end FT


/-! names, parents: the names are of the two pools -/
namespace FT
open PySem L2 TL ClX
def spNamesP : Sp := fun vs H Q _ => ∃ (d c : Addr) (n : Nat), vs = [.ref d, .int (n : Int)] ∧ DrawAt H d c ∧ 1 ≤ n ∧ n ≤ 12 ∧
  ∀ (l : Addr) (fs : List Str) (H' : Hp), fs.length = n → fs.Nodup → (∀ z ∈ fs, NameL z) → (∀ z ∈ fs, PyData.strOk z = true) → (∀ z ∈ fs, z ∈ pool1 ∨ z ∈ pool2) → H l = none → H' l = some (.lst (fs.map V.str)) → DrawAt H' d c → Keep d c H H' → Q (.ref l) H'
def spParentsP : Sp := fun vs H Q _ => ∃ (d c : Addr) (n : Nat), vs = [.ref d, .int (n : Int)] ∧ DrawAt H d c ∧ 1 ≤ n ∧ n ≤ 12 ∧
  ∀ (q : Addr) (t : List (Str × Str)) (H' : Hp), TreeOk t → t.length = n → (∀ a ∈ t.map Prod.fst, a ∈ pool1 ∨ a ∈ pool2) → H q = none → H' q = some (.dK (prs t)) → DrawAt H' d c → Keep d c H H' → Q (.ref q) H'
section
variable {P : Program} {w : World} {K : PySem.W.Frag} {mg : Str → Option Value} {base : Heap}
theorem ok_namesP {f fT fO : Addr} {fd fdT fdO : FuncData} (F : Fun K "_law_names" "_law_names" s__law_names f fd) (T : Nm mg) (FT : Fun K "_law_take" "_law_take" s__law_take fT fdT) (bT : Binds K fdT ["_law_draw", "_law_size"] []) (gT : mg "_law_take" = some (.ref fT))
    (FO : Fun K "_law_order" "_law_order" s__law_order fO fdO) (bO : Binds K fdO ["_law_draw", "_law_some"] []) (gO : mg "_law_order" = some (.ref fO)) : FnOk P w K mg base CX0 3 f fd ["_law_draw", "_law_many"] spNamesP := by
  have GT : FnOk P w K mg base CX0 1 fT fdT ["_law_draw", "_law_size"] spDraw := ok_draw FT T
  have GO : FnOk P w K mg base CX0 2 fO fdO ["_law_draw", "_law_some"] (spOrder K) := ok_order FO T FT bT gT
  refine F.ok scNames (fun vs H Q E h => ?_) (fun cdv A outer s H vs Q E hr h => ?_)
  · obtain ⟨d, c, n, rfl, _⟩ := h
    rfl
  · obtain ⟨d, c, n, rfl, hD, n1, n12, k⟩ := h
    have hr1 : Room 1 _ := hr.mono (by decide)
    have hr2 : Room 2 _ := hr.mono (by decide)
    refine ⟨_, pss_cons (ps_set (i := 2) scNames.nd rfl (.inl rfl) (pe_lst (pa_cons pe_str (pa_cons pe_str (pa_cons pe_str (pa_cons pe_str (pa_cons pe_str (pa_cons pe_str (pa_cons pe_str (pa_cons pe_str (pa_cons pe_str (pa_cons pe_str (pa_cons pe_str (pa_cons pe_str (pa_cons pe_str (pa_cons pe_str (pa_cons pe_str pa_nil)))))))))))))))))
      (pss_cons (ps_if (pt_cmpR op_eq (pe_call GT hr1 rfl gT FT.kp bT .nil pass0 (pa_cons (pv 0) (pa_cons pe_int pa_nil))) pe_int (nomark _))
        (pss_one (ps_set (i := 2) scNames.nd rfl (.inl rfl) (pe_lst (pa_cons pe_str (pa_cons pe_str (pa_cons pe_str (pa_cons pe_str (pa_cons pe_str (pa_cons pe_str (pa_cons pe_str (pa_cons pe_str (pa_cons pe_str (pa_cons pe_str (pa_cons pe_str (pa_cons pe_str pa_nil))))))))))))))) pss_nil)
      (pss_one (ps_ret (pe_slice sl_list (pe_call GO hr2 rfl gO FO.kp bO .nil pass0 (pa_cons (pv 0) (pa_cons (pv 2) pa_nil))) po_none (po_some (pv 1)))))), ?_⟩
    have big : 1000 ≤ sizeLine := by decide
    -- the rest, from any pool
    have rest : ∀ (pool : List Str) (p : Addr) (H1 : Hp), H1 p = some (.lst (pool.map V.str)) → p ≠ d → p ≠ c → DrawAt H1 d c → Keep d c H H1 → 12 ≤ pool.length → pool.length < 900 → pool.Nodup → (∀ z ∈ pool, NameL z) → (∀ z ∈ pool, PyData.strOk z = true) → (∀ z ∈ pool, z ∈ pool1 ∨ z ∈ pool2) →
        tRet (tSl (rSlL K) (tCall (spOrder K) [] E0 (tCons (tVar 0) (tCons (tVar 2) tNil))) tNoPart (tPart (tVar 1))) { nx := fun _ H' => Q .non H', rt := Q } [some (.ref d), some (.int (n : Int)), some (.ref p)] H1 := by
      intro pool p H1 e1 pd pc d1 k1 l12 few nd ok sok inp
      refine ⟨_, rfl, _, rfl, d, c, p, pool, rfl, d1, .inl (SqL.of e1), few, sok, fun r ys H2 pm nr er d2 k2 => ?_⟩
      have ly := pm.length_eq
      have rd := d1.apart nr
      refine ⟨_, rfl, _, rfl, r, ys.map V.str, rfl, SqL.of er, fun q nq => ?_⟩
      rw [cut_take (by rw [List.length_map]; omega), ← List.map_take]
      have qd := d2.apart nq
      have sub : ∀ z ∈ ys.take n, z ∈ pool := fun z hz => pm.mem_iff.mp (List.mem_of_mem_take hz)
      exact k q _ _ (by rw [List.length_take]; omega) ((pm.nodup_iff.mpr nd).sublist (List.take_sublist _ _)) (fun z hz => ok z (sub z hz)) (fun z hz => sok z (sub z hz)) (fun z hz => inp z (sub z hz)) ((k1.trans k2).free nq qd.1 qd.2) upd_same (d2.mono (same_new nq)) ((k1.trans k2).trans (Keep.of_same (same_new nq)))
    refine ⟨by show 15 ≤ sizeLine; omega, fun p np => ?_⟩
    have s1 := same_new (o := .lst (pool1.map V.str)) np
    have pd := hD.apart np
    refine ⟨_, rfl, d, c, 2, rfl, hD.mono s1, by decide, by decide, fun i H2 i0 i1 d2 k2 => ?_⟩
    have e2 := k2 p _ pd.1 pd.2 (upd_same : upd H p (.lst (pool1.map V.str)) p = some (.lst (pool1.map V.str)))
    have K2 : Keep d c H H2 := (Keep.of_same s1).trans k2
    refine ⟨rfl, _, rfl, ?_⟩
    refine ite2 (fun _ => ?_) (fun _ => ?_)
    · refine ⟨by show 12 ≤ sizeLine; omega, fun q nq => ?_⟩
      have qd := d2.apart nq
      exact rest pool2 q _ upd_same qd.1 qd.2 (d2.mono (same_new nq)) (K2.trans (Keep.of_same (same_new nq))) (by decide) (by decide) pool_nd.2 pool_ok.2 pool_str.2 fun z hz => .inr hz
    · exact rest pool1 p _ e2 pd.1 pd.2 d2 K2 (by decide) (by decide) pool_nd.1 pool_ok.1 pool_str.1 fun z hz => .inl hz
theorem ok_parentsP {f fT fP fO fN : Addr} {fd fdT fdP fdO fdN : FuncData} (F : Fun K "_law_parents" "_law_parents" s__law_parents f fd) (T : Nm mg) (DT : Dn P w K mg base CX0 1 "_law_take" ["_law_draw", "_law_size"] spDraw fT fdT) (DP : Dn P w K mg base CX0 2 "_law_pick" ["_law_draw", "_law_some"] (spPick K) fP fdP)
    (DO : Dn P w K mg base CX0 2 "_law_order" ["_law_draw", "_law_some"] (spOrder K) fO fdO) (DN : Dn P w K mg base CX0 3 "_law_names" ["_law_draw", "_law_many"] spNamesP fN fdN) : FnOk P w K mg base CX0 4 f fd ["_law_draw", "_law_many"] spParentsP := by
  refine F.ok scPa (fun vs H Q E h => ?_) (fun cdv A outer s H vs Q E hr h => ?_)
  · obtain ⟨d, c, n, rfl, _⟩ := h
    rfl
  · obtain ⟨d, c, n, rfl, hD, n1, n12, k⟩ := h
    have hu := hu_of hr
    have hr1 : Room 1 _ := hr.mono (by decide)
    have hr2 : Room 2 _ := hr.mono (by decide)
    have big : 1000 ≤ sizeLine := by decide
    refine ⟨_, pss_cons (ps_asg (pe_tup (pa_cons (pe_call DN.ok hr rfl DN.mgn DN.kp DN.bn .nil pass0 (pa_cons (pv 0) (pa_cons (pv 1) pa_nil))) (pa_cons (pe_call DT.ok hr1 rfl DT.mgn DT.kp DT.bn .nil pass0 (pa_cons (pv 0) (pa_cons pe_int pa_nil))) (pa_cons pe_dnewK pa_nil))))
        (pg_tup rfl (pgs_cons (pg_name (i := 2) scPa.nd rfl (.inl rfl)) (pgs_cons (pg_name (i := 3) scPa.nd rfl (.inl rfl)) (pgs_cons (pg_name (i := 4) scPa.nd rfl (.inr rfl)) pgs_nil)))))
      (pss_cons (ps_for PassesOwn.never rfl (pi_enum rfl T.enu (pa_cons (pv 2) pa_nil)) (pg_tup rfl (pgs_cons (pg_name (i := 5) scPa.nd rfl (.inl rfl)) (pgs_cons (pg_name (i := 6) scPa.nd rfl (.inl rfl)) pgs_nil)))
        (pss_cons (ps_dput hu (pv 4) (pv 6) (pe_call DP.ok hr2 rfl DP.mgn DP.kp DP.bn .nil pass0 (pa_cons (pv 0) (pa_cons (pe_op op_cat (pe_lst (pa_cons pe_str pa_nil)) (pe_slice sl_list (pv 2) po_none (po_some (pv 5)))) pa_nil))) rfl)
        (pss_cons (ps_if (pt_cmpR op_eq (pv 3) pe_int (nomark _)) (pss_one (ps_dput hu (pv 4) (pv 6) (pe_ix ix_list (pe_op op_cat (pe_lst (pa_cons pe_str pa_nil)) (pv 2)) (pv 5) (fun _ _ => rfl)) rfl)) pss_nil)
        (pss_one (ps_if (pt_cmpR op_eq (pv 3) pe_int (nomark _)) (pss_one (ps_dput hu (pv 4) (pv 6) (pe_ix ix_list (pe_op op_cat (pe_lst (pa_cons pe_str (pa_cons pe_str pa_nil))) (pv 2)) (pv 5) (fun _ _ => rfl)) rfl)) pss_nil)))))
      (pss_one (ps_ret (pe_callTy (call_dictP rfl) (by rfl) T.dct (by decide +kernel) (pa_cons (pe_lc (own := [("_law_name", 6)]) (g := gName 6) (tt := tYes) (te := tTup (tCons (tVar 6) (tCons (tDGet (tVar 4) (tVar 6)) tNil))) rfl scPa.nd (pi_list (pe_call DO.ok hr2 rfl DO.mgn DO.kp DO.bn .nil pass0 (pa_cons (pv 0) (pa_cons (pv 2) pa_nil))))
        (blkOk_by (N := NPa) (sc := defScope s__law_parents) (by decide +kernel))
        (fun _ _ _ _ _ => pg_name (i := 6) scPa.nd rfl (Or.inl rfl)) (fun _ _ _ _ _ => pts_nil) (fun _ _ _ _ _ => pe_tup (pa_cons (pv 6) (pa_cons (pe_dget hu (pv 4) (pv 6) (fun _ _ => rfl)) pa_nil)))) pa_nil))))), ?_⟩
    refine ⟨_, rfl, _, rfl, d, c, n, rfl, hD, n1, n12, fun pn fs H1 ln nd ok sok inp npn hn dr1 k1 => ?_⟩
    have pnd := hD.apart npn
    refine ⟨_, rfl, d, c, 5, rfl, dr1, by decide, by decide, fun way H2 w0 w5 dr2 k2 q nq => ⟨by show 3 ≤ sizeLine; omega, fun tp ntp => ⟨tp, _, rfl, .inl (.inl upd_same), rfl, ?_⟩⟩⟩
    have hn2 := k2 pn _ pnd.1 pnd.2 hn
    have K2 : Keep d c H H2 := k1.trans k2
    obtain ⟨H3, e3⟩ : ∃ X, X = upd (upd H2 q (.dK [])) tp (.tup [.ref pn, .int way, .ref q]) := ⟨_, rfl⟩
    have s23 : Same H2 H3 := e3 ▸ (same_new nq).trans (same_new ntp)
    have dr3 := dr2.mono s23
    have qd := dr2.apart nq
    have hq3 : H3 q = some (.dK []) := by rw [e3]; exact same_new ntp _ _ upd_same
    have hn3 := s23 _ _ hn2
    rw [← e3]
    have nq0 : H q = none := K2.free nq qd.1 qd.2
    refine ⟨_, _, rfl, _, _, rfl, _, _, rfl, rfl, ?_⟩
    refine ⟨_, rfl, pn, fs.map V.str, rfl, SqL.of hn3, ?_⟩
    refine for_it walk_enum (fun j σ' H' => (∃ u5 u6, σ' = [some (.ref d), some (.int (n : Int)), some (.ref pn), some (.int way), some (.ref q), u5, u6]) ∧ DrawAt H' d c ∧ H' pn = some (.lst (fs.map V.str)) ∧ Keep d c H H' ∧
      ∃ t : List (Str × Str), H' q = some (.dK (prs t)) ∧ t.map Prod.fst = fs.take j ∧ ∀ (i : Nat) (p : Str × Str), t[i]? = some p → p.2 = "" ∨ p.2 ∈ fs.take i)
      ⟨⟨_, _, rfl⟩, dr3, hn3, K2.trans (Keep.of_same s23), [], hq3, by rw [List.take_zero] <;> rfl, fun i p h => by simp at h⟩ (fun j σ' H' _ q => SqL.of q.2.2.1) ?_ ?_
    · intro j TT σ' Ha Hb hj ⟨⟨u5, u6, e⟩, da, hna, ka, t, hq, et, up⟩ ⟨T', y, z, eT, nT, eH, ey, ez⟩
      subst e
      subst eT
      subst eH
      cases ey
      rw [List.length_map] at hj
      obtain ⟨f, hf, rfl⟩ := map_of (show (fs.map V.str)[j]? = some z from ez)
      have tlen := congrArg List.length et
      rw [List.length_map, List.length_take] at tlen
      have fresh : f ∉ t.map Prod.fst := fresh_at nd hf et
      obtain ⟨H4, e4⟩ : ∃ X, X = upd Ha T' (.tup [.int (j : Int), .str f]) := ⟨_, rfl⟩
      have sT : Same Ha H4 := e4 ▸ same_new nT
      have a4 : H4 T' = some (.tup [.int (j : Int), .str f]) := by rw [e4]; exact upd_same
      rw [← e4]
      have hna4 := sT _ _ hna
      have hq4 := sT _ _ hq
      have da4 := da.mono sT
      refine ⟨T', _, rfl, .inl (.inl a4), rfl, ?_⟩
      refine ⟨_, _, rfl, _, _, rfl, rfl, ?_⟩
      -- the drawn parent
      refine ⟨_, rfl, by show 1 ≤ sizeLine; omega, fun p1 m1 => ⟨_, rfl, _, rfl, _, rfl, pn, fs.map V.str, rfl, SqL.of (by rw [upd_ne (ne_of_none hna4 m1)]; exact hna4), fun p2 m2 => ⟨p1, p2, [.str ""], _, rfl, rfl, by rw [upd_ne (ne_of_none upd_same m2), upd_same], upd_same, ?_, fun pa ma => ?_⟩⟩⟩
      · have := cutV_length (fs.map V.str) none (some (j : Int))
        rw [List.length_map] at this
        show 1 + _ ≤ sizeLine
        omega
      rw [cut_take (by rw [List.length_map]; omega), ← List.map_take] at ma ⊢
      obtain ⟨H5, e5⟩ : ∃ X, X = upd (upd (upd H4 p1 (.lst [.str ""])) p2 (.lst ((fs.take j).map V.str))) pa (.lst ([.str ""] ++ (fs.take j).map V.str)) := ⟨_, rfl⟩
      have s5 : Same H4 H5 := e5 ▸ ((same_new m1).trans (same_new m2)).trans (same_new ma)
      have at5 : H5 pa = some (.lst ((("" : Str) :: fs.take j).map V.str)) := by rw [e5, upd_same] <;> rfl
      have pad : pa ≠ d ∧ pa ≠ c := ((da4.mono (same_new m1)).mono (same_new m2)).apart ma
      rw [← e5]
      have dr5 := da4.mono s5
      refine ⟨d, c, _, (("" : Str) :: fs.take j).length, (fun _ x => ∃ z, x = .str z ∧ z ∈ (("" : Str) :: fs.take j)), rfl, dr5, .inl ⟨pa, _, rfl, pad.1, pad.2, at5, by rw [List.length_map], items_strs fun z hz => hz⟩, Nat.succ_pos _, by rw [List.length_cons, List.length_take]; omega, fun i x H6 px dr6 k6 => ?_⟩
      obtain ⟨z, rfl, mz⟩ := px
      have hz0 : z = "" ∨ z ∈ fs.take j := List.mem_cons.mp mz
      have hq6 := k6 q _ qd.1 qd.2 (s5 _ _ hq4)
      have hn6 := k6 pn _ pnd.1 pnd.2 (s5 _ _ hna4)
      refine ⟨_, rfl, _, rfl, q, _, rfl, DPut.k (k := Sum.inr f) hq6 (by rw [prs_len]; omega), ?_⟩
      rw [put_new fresh]
      have K6 : Keep d c H H6 := ((ka.trans (Keep.of_same sT)).trans (Keep.of_same s5)).trans k6
      obtain ⟨H7, e7⟩ : ∃ X, X = upd H6 q (.dK (prs (t ++ [(f, z)]))) := ⟨_, rfl⟩
      have hq7 : H7 q = some (.dK (prs (t ++ [(f, z)]))) := by rw [e7]; exact upd_same
      have dr7 : DrawAt H7 d c := by rw [e7]; exact dr6.off qd.1 qd.2
      have qn : pn ≠ q := ne_of hn6 hq6 (by intro z; cases z)
      have hn7 : H7 pn = some (.lst (fs.map V.str)) := by rw [e7, upd_ne qn]; exact hn6
      have K7 : Keep d c H H7 := by rw [e7]; exact K6.put nq0
      rw [← e7]
      have lj : j < fs.length := by omega
      -- an item of the list with roots in front
      have row : ∀ (m : Nat) (hm : 1 ≤ m), ∃ zz, ((List.replicate m (V.str "")) ++ fs.map V.str)[j]? = some (.str zz) ∧ (zz = "" ∨ zz ∈ fs.take j) := fun m hm => by
        by_cases lt : j < m
        · exact ⟨"", by rw [List.getElem?_append_left (by rw [List.length_replicate]; exact lt), List.getElem?_replicate, if_pos lt], .inl rfl⟩
        · refine ⟨fs[j - m]'(by omega), ?_, .inr ?_⟩
          · rw [List.getElem?_append_right (by rw [List.length_replicate]; omega), List.length_replicate, List.getElem?_map, List.getElem?_eq_getElem (by omega)] <;> rfl
          · rw [List.mem_take_iff_getElem]
            exact ⟨j - m, by omega, rfl⟩
      -- the end of a turn
      have fin : ∀ (z' : Str) (H' : Hp), (z' = "" ∨ z' ∈ fs.take j) → DrawAt H' d c → H' pn = some (.lst (fs.map V.str)) → Keep d c H H' → H' q = some (.dK (prs (t ++ [(f, z')]))) →
          (∃ u5 u6, ([some (.ref d), some (.int (n : Int)), some (.ref pn), some (.int way), some (.ref q), some (.int (j : Int)), some (.str f)] : St) = [some (.ref d), some (.int (n : Int)), some (.ref pn), some (.int way), some (.ref q), u5, u6]) ∧ DrawAt H' d c ∧ H' pn = some (.lst (fs.map V.str)) ∧ Keep d c H H' ∧
          ∃ t : List (Str × Str), H' q = some (.dK (prs t)) ∧ t.map Prod.fst = fs.take (j + 1) ∧ ∀ (i : Nat) (p : Str × Str), t[i]? = some p → p.2 = "" ∨ p.2 ∈ fs.take i := fun z' H' hz' d' n' k' q' => by
        refine ⟨⟨_, _, rfl⟩, d', n', k', t ++ [(f, z')], q', by rw [List.map_append, et, take_more hf] <;> rfl, fun i p h => ?_⟩
        by_cases hi : i < t.length
        · rw [List.getElem?_append_left hi] at h
          exact up i p h
        · have hl := (List.getElem?_eq_some_iff.mp h).1
          rw [List.length_append] at hl
          have one : ([(f, z')] : List (Str × Str)).length = 1 := rfl
          have ei : i = t.length := by omega
          subst ei
          rw [List.getElem?_append_right (Nat.le_refl _), Nat.sub_self] at h
          have ep : (f, z') = p := Option.some.inj h
          subst ep
          rw [show t.length = j by omega]
          exact hz'
      refine ⟨_, rfl, rfl, _, rfl, ?_⟩
      refine ite2 (fun y0 => ?_) (fun n0 => ?_)
      · -- a chain
        have e0 : way = 0 := V.int.inj (of_decide_eq_true y0)
        subst e0
        obtain ⟨zz, hz, hz'⟩ := row 1 (Nat.le_refl _)
        refine ⟨by show 1 ≤ sizeLine; omega, fun p1 m1 => ⟨_, rfl, p1, pn, [.str ""], fs.map V.str, rfl, rfl, upd_same, by rw [upd_ne (ne_of_none hn7 m1)]; exact hn7, by rw [List.length_map]; show 1 + _ ≤ sizeLine; omega, fun p2 m2 => ?_⟩⟩
        obtain ⟨H8, e8⟩ : ∃ X, X = upd (upd H7 p1 (.lst [.str ""])) p2 (.lst ([.str ""] ++ fs.map V.str)) := ⟨_, rfl⟩
        have s8 : Same H7 H8 := e8 ▸ (same_new m1).trans (same_new m2)
        have a8 : H8 p2 = some (.lst ([.str ""] ++ fs.map V.str)) := by rw [e8]; exact upd_same
        rw [← e8]
        refine ⟨_, rfl, p2, _, _, .str zz, rfl, rfl, SqL.of a8, atI_nat hz, ?_⟩
        have hq8 := s8 _ _ hq7
        refine ⟨_, rfl, _, rfl, q, _, rfl, DPut.k (k := Sum.inr f) hq8 (by rw [prs_len, List.length_append]; show _ + 1 < _; omega), ?_⟩
        rw [put_old fresh]
        refine ⟨_, rfl, rfl, _, rfl, iteF ?_⟩
        exact fin zz _ hz' ((dr7.mono s8).off qd.1 qd.2) (by rw [upd_ne qn]; exact s8 _ _ hn7) ((K7.trans (Keep.of_same s8)).put nq0) upd_same
      · refine ⟨_, rfl, rfl, _, rfl, ?_⟩
        refine ite2 (fun y1 => ?_) (fun n1 => ?_)
        · -- two chains
          have e0 : way = 1 := V.int.inj (of_decide_eq_true y1)
          subst e0
          obtain ⟨zz, hz, hz'⟩ := row 2 (by omega)
          refine ⟨by show 2 ≤ sizeLine; omega, fun p1 m1 => ⟨_, rfl, p1, pn, [.str "", .str ""], fs.map V.str, rfl, rfl, upd_same, by rw [upd_ne (ne_of_none hn7 m1)]; exact hn7, by rw [List.length_map]; show 2 + _ ≤ sizeLine; omega, fun p2 m2 => ?_⟩⟩
          obtain ⟨H8, e8⟩ : ∃ X, X = upd (upd H7 p1 (.lst [.str "", .str ""])) p2 (.lst ([.str "", .str ""] ++ fs.map V.str)) := ⟨_, rfl⟩
          have s8 : Same H7 H8 := e8 ▸ (same_new m1).trans (same_new m2)
          have a8 : H8 p2 = some (.lst ([.str "", .str ""] ++ fs.map V.str)) := by rw [e8]; exact upd_same
          rw [← e8]
          refine ⟨_, rfl, p2, _, _, .str zz, rfl, rfl, SqL.of a8, atI_nat hz, ?_⟩
          have hq8 := s8 _ _ hq7
          refine ⟨_, rfl, _, rfl, q, _, rfl, DPut.k (k := Sum.inr f) hq8 (by rw [prs_len, List.length_append]; show _ + 1 < _; omega), ?_⟩
          rw [put_old fresh]
          exact fin zz _ hz' ((dr7.mono s8).off qd.1 qd.2) (by rw [upd_ne qn]; exact s8 _ _ hn7) ((K7.trans (Keep.of_same s8)).put nq0) upd_same
        · exact fin z H7 hz0 dr7 hn7 K7 hq7
    · intro σ' H4 ⟨⟨u5, u6, e⟩, da, hna, ka, t, hq, et, up⟩
      subst e
      rw [List.length_map, List.take_length] at et
      have lt := congrArg List.length et
      rw [List.length_map] at lt
      have tr : TreeOk t := tree_of (by omega) (by omega) (by rw [et]; exact nd) (by rw [et]; exact ok) (by rw [et]; exact up)
      refine ⟨_, rfl, _, rfl, d, c, pn, fs, rfl, da, .inl (SqL.of hna), by omega, sok, fun r ys H5 pm nr er d5 k5 => ⟨r, rfl, ⟨_, SqL.of er⟩, fun D nD => ?_⟩⟩
      have hq5 := k5 q _ qd.1 qd.2 hq
      have rd := da.apart nr
      have Dd := d5.apart nD
      have ly := pm.length_eq
      refine lc_it walk_list (fun i H' => Same H5 H' ∧ ∃ rs : List Addr, H' D = some (.lst (rs.map V.ref)) ∧ PrG (fun a => .str ((par t a).getD "")) H' rs (ys.take i)) ⟨same_new nD, [], upd_same, .nil⟩ (fun i H' _ z => SqL.of (z.1 _ _ er)) ?_ ?_
      · intro i y Ha Hb hi ⟨q1, rs, hD, pr⟩ ⟨eb, ex⟩
        subst eb
        obtain ⟨a, ha, rfl⟩ := map_of ex
        have ma : a ∈ t.map Prod.fst := by rw [et]; exact pm.mem_iff.mp (List.mem_of_getElem? ha)
        obtain ⟨pa, hp⟩ := par_some tr.nd ma
        have lr := pr.len
        rw [List.length_take] at lr
        refine ⟨rfl, ?_⟩
        refine ⟨_, rfl, _, rfl, _, rfl, q, .str pa, rfl, ?_, by show 2 ≤ sizeLine; omega, fun tq ntq => ?_⟩
        · have z := DGet.k (k := Sum.inr a) (q1 _ _ hq5)
          rw [val_prs, hp] at z
          exact z
        · have sq : Same Hb (upd Hb tq (.tup [.str a, .str pa])) := same_new ntq
          refine ⟨_, sq _ _ hD, by rw [List.length_map]; omega, (q1.trans sq).put nD, rs ++ [tq], by rw [upd_same, List.map_append] <;> rfl, ?_⟩
          rw [take_more ha]
          refine PrG.push (sq _ _ hD) (PrG.snoc ?_ (pr.mono sq))
          rw [upd_same, hp] <;> rfl
      · intro H6 ⟨q1, rs, hD, pr⟩
        rw [List.length_map, List.take_length] at pr
        refine ⟨D, rs, _, rfl, SqL.of hD, pr.kvs, fun p np => ?_⟩
        have ndy : ys.Nodup := pm.nodup_iff.mpr nd
        rw [merge_nd (by rw [map_fst]; exact ndy)]
        have K5 : Keep d c H H6 := (ka.trans k5).trans (Keep.of_same q1)
        have d6 := d5.mono q1
        have pd := d6.apart np
        have pairs : (ys.map fun a => (a, (par t a).getD "")).Perm t := by
          refine perm_pairs tr.nd ?_ fun x hx => ?_
          · rw [List.map_map, et]
            have e : (Prod.fst ∘ fun a : Str => (a, (par t a).getD "")) = id := rfl
            rw [e, List.map_id]
            exact pm
          · obtain ⟨a, ha, rfl⟩ := List.mem_map.mp hx
            obtain ⟨pa, hp⟩ := par_some tr.nd (show a ∈ t.map Prod.fst by rw [et]; exact pm.mem_iff.mp ha)
            rw [hp]
            exact par_mem hp
        refine k p (ys.map fun a => (a, (par t a).getD "")) _ (tr.perm pairs.symm) (by rw [List.length_map]; omega) (fun a ha => by
          obtain ⟨q0, hq0, e0⟩ := List.mem_map.mp ha
          obtain ⟨b0, hb0, e1⟩ := List.mem_map.mp hq0
          rw [← e0, ← e1]
          exact inp b0 (pm.mem_iff.mp hb0)) (K5.free np pd.1 pd.2) ?_ (d6.mono (same_new np)) (K5.trans (Keep.of_same (same_new np)))
        rw [upd_same]
        unfold prs
        rw [List.map_map] <;> rfl
end
end FT


/-! pairs of bools as data; which users have a flag -/
namespace FT
open PySem L2 TL ClX LiI
def twoB (x y : Bool) : PyData := .tuple [.bool x, .bool y]
theorem twoB_eq (x y u v : Bool) : PyData.eqv (twoB x y) (twoB u v) = (x == u && y == v) := by
  cases x <;> cases y <;> cases u <;> cases v <;> rfl
theorem twoB_lay : ∀ es : List (Bool × Bool), PyData.canLayAll0 (es.map fun e => twoB e.1 e.2) = true ∧ PyData.depthAll (es.map fun e => twoB e.1 e.2) ≤ 1
  | [] => ⟨rfl, by decide⟩
  | e :: es => by
    obtain ⟨h1, h2⟩ := twoB_lay es
    constructor
    · show ((twoB e.1 e.2).canLay0 && PyData.canLayAll0 (es.map fun e => twoB e.1 e.2)) = true
      rw [h1] <;> rfl
    · show max 1 (PyData.depthAll (es.map fun e => twoB e.1 e.2)) ≤ 1
      omega
theorem twoB_shaped (es : List (Bool × Bool)) : SeqAt.shaped (.list (es.map fun e => twoB e.1 e.2)) = true := by
  obtain ⟨h1, h2⟩ := twoB_lay es
  unfold SeqAt.shaped
  have c : (PyData.list (es.map fun e => twoB e.1 e.2)).canLay0 = true := h1
  rw [c]
  have d : (PyData.list (es.map fun e => twoB e.1 e.2)).depth ≤ 64 := by
    show PyData.depthAll _ + 1 ≤ 64
    omega
  rw [decide_eq_true d] <;> rfl
theorem twoB_any (es : List (Bool × Bool)) (u v : Bool) : ((es.map fun e => twoB e.1 e.2).any fun z => PyData.eqv z (twoB u v)) = es.any fun e => e.1 == u && e.2 == v := by
  rw [List.any_map]
  congr 1
  funext e
  exact twoB_eq e.1 e.2 u v
theorem twoB_dps {K : PySem.W.Frag} {H : Hp} : ∀ {rs : List Addr} {es : List (Bool × Bool)}, Paired (fun (t : Addr) (q : V × V) => H t = some (.tup [q.1, q.2])) rs (es.map fun e => (V.bl e.1, V.bl e.2)) → DpAll K H (rs.map V.ref) (es.map fun e => twoB e.1 e.2)
  | [], [], _ => .nil
  | r :: rs, e :: es, .cons h t => .cons (.tup (SqT.of h) (.cons (.bl _) (.cons (.bl _) .nil))) (twoB_dps t)
/-- has the flag, by user -/
def onB (t : List (Str × Str)) (zs : List Str) (a : Str) : List Bool := zs.map fun z => decide (a ∈ pathOf t z)
theorem onB_at {t : List (Str × Str)} {zs : List Str} {a : Str} {i : Nat} (h : i < zs.length) : (onB t zs a)[i]? = some (hasC t zs a i) := by
  unfold onB hasC
  rw [List.getElem?_map, List.getElem?_eq_getElem h] <;> rfl
theorem onB_any {t : List (Str × Str)} {zs zs' : List Str} {a : Str} (el : zs.length = zs'.length) (u v : Bool) (h : ∀ i, i < zs.length → (hasC t zs a i == u && hasC t zs' a i == v) = false) : (((onB t zs a).zip (onB t zs' a)).any fun e => e.1 == u && e.2 == v) = false := by
  rw [List.any_eq_false]
  intro e he
  obtain ⟨i, hi⟩ := List.mem_iff_getElem?.mp he
  rw [List.getElem?_zip_eq_some] at hi
  have lt := (List.getElem?_eq_some_iff.mp hi.1).1
  unfold onB at lt
  rw [List.length_map] at lt
  rw [onB_at lt, onB_at (by omega)] at hi
  rw [← Option.some.inj hi.1, ← Option.some.inj hi.2, h i lt]
  decide
theorem zip_bls (xs ys : List Bool) : (xs.map V.bl).zip (ys.map V.bl) = (xs.zip ys).map fun e => (V.bl e.1, V.bl e.2) := by
  rw [List.zip_map] <;> rfl
end FT


/-! _law_traffic: who gets, who loses, by flag -/
namespace FT
open PySem L2 TL ClX LiI
/-- a flag and its two numbers -/
def RowAt (H : Hp) (g l : Str → Int) (r : Addr) (a : Str) : Prop := ∃ s, H r = some (.tup [.str a, .ref s]) ∧ H s = some (.tup [.int (g a), .int (l a)])
theorem RowAt.mono {H H' : Hp} {g l : Str → Int} {r : Addr} {a : Str} (s : Same H H') (h : RowAt H g l r a) : RowAt H' g l r a := let ⟨x, e1, e2⟩ := h; ⟨x, s _ _ e1, s _ _ e2⟩
def spLawTraf : Sp := fun vs H Q _ => ∃ (q l1 l2 : Addr) (t : List (Str × Str)) (zs zs' : List Str), vs = [.ref q, .ref l1, .ref l2] ∧ H q = some (.dK (prs t)) ∧ TreeOk t ∧ H l1 = some (.lst (zs.map V.str)) ∧ H l2 = some (.lst (zs'.map V.str)) ∧ zs.length = zs'.length ∧ zs.length ≤ 100 ∧ (∀ z ∈ zs, Pl t z) ∧ (∀ z ∈ zs', Pl t z) ∧
  ∀ (p : Addr) (rs : List Addr) (ks : List Str) (H' : Hp), Same H H' → H p = none → ks.Perm (t.map Prod.fst) → PyProof.Rows.sortedS ks = true → H' p = some (.lst (rs.map V.ref)) → Paired (RowAt H' (fun a => newU (hasU t zs a) (hasU t zs' a)) (fun a => newU (hasU t zs' a) (hasU t zs a))) rs ks → Q (.ref p) H'
theorem psnoc {α β : Type} {F : α → β → Prop} {x : α} {y : β} (h : F x y) : ∀ {xs : List α} {ys : List β}, Paired F xs ys → Paired F (xs ++ [x]) (ys ++ [y])
  | _, _, .nil => .cons h .nil
  | _, _, .cons a r => .cons a (psnoc h r)
theorem pimp {α β : Type} {F G : α → β → Prop} (m : ∀ x y, F x y → G x y) : ∀ {xs : List α} {ys : List β}, Paired F xs ys → Paired G xs ys
  | _, _, .nil => .nil
  | _, _, .cons a r => .cons (m _ _ a) (pimp m r)
theorem twoB_count {t : List (Str × Str)} {zs zs' : List Str} {a : Str} (el : zs.length = zs'.length) (u v : Bool) : ((((((onB t zs a).zip (onB t zs' a)).map fun e => twoB e.1 e.2).countP fun z => PyData.eqv z (twoB u v) : Nat)) : Int) = cntB zs.length fun i => hasC t zs a i == u && hasC t zs' a i == v := by
  have e : (onB t zs a).zip (onB t zs' a) = (List.range zs.length).map fun i => (hasC t zs a i, hasC t zs' a i) := by
    refine List.ext_getElem? fun i => ?_
    by_cases lt : i < zs.length
    · rw [List.getElem?_map, List.getElem?_range lt]
      show _ = some (hasC t zs a i, hasC t zs' a i)
      rw [List.getElem?_zip_eq_some]
      exact ⟨onB_at lt, onB_at (by omega)⟩
    · rw [List.getElem?_eq_none (by rw [List.length_zip]; unfold onB; rw [List.length_map, List.length_map]; omega), List.getElem?_eq_none (by rw [List.length_map, List.length_range]; omega)]
  rw [e, List.countP_map, List.countP_map]
  unfold cntB
  rw [List.countP_eq_length_filter]
  congr 2
  refine List.filter_congr fun i _ => ?_
  exact twoB_eq _ _ u v
theorem got_count {t : List (Str × Str)} {zs zs' : List Str} {a : Str} (el : zs.length = zs'.length) : (cntB zs.length fun i => hasC t zs a i == false && hasC t zs' a i == true) = newU (hasU t zs a) (hasU t zs' a) := by
  rw [newU_cnt el]
  exact cntB_congr fun i _ => by cases hasC t zs a i <;> cases hasC t zs' a i <;> rfl
theorem lost_count {t : List (Str × Str)} {zs zs' : List Str} {a : Str} (el : zs.length = zs'.length) : (cntB zs.length fun i => hasC t zs a i == true && hasC t zs' a i == false) = newU (hasU t zs' a) (hasU t zs a) := by
  rw [newU_cnt el.symm, ← el]
  exact cntB_congr fun i _ => by cases hasC t zs a i <;> cases hasC t zs' a i <;> rfl
section
variable {P : Program} {w : World} {K : PySem.W.Frag} {mg : Str → Option Value} {base : Heap}
abbrev NLt : List Str := ["_law_above", "_law_here", "_law_there", "_law_found", "_law_name", "_law_pairs", "_law_at", "_law_spot"]
theorem scLt : FnScope NLt ["_law_above", "_law_here", "_law_there"] (defScope s__law_traffic) := ⟨rfl, rfl, rfl, by decide +kernel, rfl, by decide +kernel, by decide +kernel⟩
theorem ok_lawTraf {f fP : Addr} {fd fdP : FuncData} (F : Fun K "_law_traffic" "_law_traffic" s__law_traffic f fd) (T : Nm mg) (DP : Dn P w K mg base CX0 1 "_law_path" ["_law_above", "_law_spot"] spPath fP fdP) : FnOk P w K mg base CX0 2 f fd ["_law_above", "_law_here", "_law_there"] spLawTraf := by
  refine F.ok scLt (fun vs H Q E h => ?_) (fun cdv A outer s H vs Q E hr h => ?_)
  · obtain ⟨q, l1, l2, t, zs, zs', rfl, _⟩ := h
    rfl
  · obtain ⟨q, l1, l2, t, zs, zs', rfl, hq, o, h1, h2, el, few, pl, pl', k⟩ := h
    have hu := hu_of hr
    have hu5 : (A.deeper (PyProof.Rows.envOfC "_law_traffic" (defScope s__law_traffic) s.heap.objs.size f cdv)).units + 65 < cLine := by have := hr.un; omega
    have nd := scLt.nd
    have big : 1000 ≤ sizeLine := by decide
    have few' := o.few
    refine ⟨_, pss_cons (ps_set (i := 3) nd rfl (.inl rfl) (pe_lst pa_nil))
      (pss_cons (ps_for PassesOwn.never rfl (pi_list (pe_callB (call_sortedD rfl) (by rfl) T.srt (by decide +kernel) (pa_cons (pv 0) pa_nil))) (pg_name (i := 4) nd rfl (.inr rfl))
        (pss_cons (ps_setLc (i := 5) (own := [("_law_at", 6), ("_law_spot", 7)]) (g := gTup K 2 (gCons (gName 6) (gCons (gName 7) gNil))) (tt := tYes)
            (te := tTup (tCons (tOp (rIn K false) (tVar 4) (tCall spPath [] E0 (tCons (tVar 0) (tCons (tVar 7) tNil)))) (tCons (tOp (rIn K false) (tVar 4) (tCall spPath [] E0 (tCons (tVar 0) (tCons (tOp (rIxL K) (tVar 2) (tVar 6)) tNil)))) tNil))) rfl nd rfl rfl (sw_true rfl rfl rfl (by decide +kernel)) (pi_enum rfl T.enu (pa_cons (pv 1) pa_nil))
            (blkOk_by (N := NLt) (sc := defScope s__law_traffic) (by decide +kernel)) (fun _ _ _ _ _ => pg_tup rfl (pgs_cons (pg_name (i := 6) nd rfl (Or.inl rfl)) (pgs_cons (pg_name (i := 7) nd rfl (Or.inl rfl)) pgs_nil))) (fun _ _ _ _ _ => pts_nil)
            (fun _ _ _ _ _ => pe_tup (pa_cons (pe_cmpR op_in_seq (pv 4) (pe_call DP.ok hr rfl DP.mgn DP.kp DP.bn .nil pass0 (pa_cons (pv 0) (pa_cons (pv 7) pa_nil))) rfl) (pa_cons (pe_cmpR op_in_seq (pv 4) (pe_call DP.ok hr rfl DP.mgn DP.kp DP.bn .nil pass0 (pa_cons (pv 0) (pa_cons (pe_ix ix_list (pv 2) (pv 6) (fun _ _ => rfl)) pa_nil))) rfl) pa_nil))))
        (pss_one (ps_expr (pe_bm PySem.F.plainAttrs_list PySem.F.slot_list_append PySem.F.type_list_append mt_append (pv 3) (pa_cons (pe_tup (pa_cons (pv 4) (pa_cons (pe_tup (pa_cons (pe_bm PySem.F.plainAttrs_list PySem.F.slot_list_count PySem.F.type_list_count (mt_countD hu5) (pv 5) (pa_cons (pe_tup (pa_cons pe_bl (pa_cons pe_bl pa_nil))) pa_nil))
            (pa_cons (pe_bm PySem.F.plainAttrs_list PySem.F.slot_list_count PySem.F.type_list_count (mt_countD hu5) (pv 5) (pa_cons (pe_tup (pa_cons pe_bl (pa_cons pe_bl pa_nil))) pa_nil)) pa_nil))) pa_nil))) pa_nil))))))
      (pss_one (ps_ret (pv 3)))), ?_⟩
    refine ⟨by show 0 ≤ sizeLine; omega, fun fl nfl => ?_⟩
    have s1 := same_new (o := .lst []) nfl
    refine ⟨_, rfl, q, prs t, t.map Prod.fst, rfl, .inl (s1 _ _ hq), prs_keys t, by rw [List.length_map]; omega, fun ks pk pks srt npk => ⟨pk, rfl, ⟨_, SqL.of upd_same⟩, ?_⟩⟩
    have s2 := same_new (o := .lst (ks.map V.str)) npk
    obtain ⟨H2, e2⟩ : ∃ X, X = upd (upd H fl (.lst [])) pk (.lst (ks.map V.str)) := ⟨_, rfl⟩
    have s02 : Same H H2 := e2 ▸ s1.trans s2
    have hfl2 : H2 fl = some (.lst []) := by rw [e2]; exact s2 _ _ upd_same
    have hpk2 : H2 pk = some (.lst (ks.map V.str)) := by rw [e2]; exact upd_same
    have pkf : pk ≠ fl := (ne_of_none (upd_same (H := H) (a := fl) (o := .lst [])) npk).symm
    have off : ∀ {b : Addr} {u : HO}, H b = some u → b ≠ fl := fun e => ne_of_none e nfl
    have lks := pks.length_eq
    rw [List.length_map] at lks
    rw [← e2]
    obtain ⟨g, eg⟩ : ∃ g : Str → Int, g = fun a => newU (hasU t zs a) (hasU t zs' a) := ⟨_, rfl⟩
    obtain ⟨l, elo⟩ : ∃ l : Str → Int, l = fun a => newU (hasU t zs' a) (hasU t zs a) := ⟨_, rfl⟩
    rw [← eg, ← elo] at k
    refine for_it walk_list (fun i σ' H' => (∃ u4 u5, σ' = [some (.ref q), some (.ref l1), some (.ref l2), some (.ref fl), u4, u5, none, none]) ∧ (∀ b u, b ≠ fl → H2 b = some u → H' b = some u) ∧ ∃ rs : List Addr, H' fl = some (.lst (rs.map V.ref)) ∧ Paired (RowAt H' g l) rs (ks.take i)) ⟨⟨_, _, rfl⟩, fun _ _ _ e => e, [], hfl2, by rw [List.take_zero]; exact .nil⟩ (fun i σ' H' _ z => SqL.of (z.2.1 _ _ pkf hpk2)) ?_ ?_
    · intro i yv σ' Hz Ha hi ⟨⟨u4, u5, eσ⟩, sa, rs, hfl, pr⟩ ⟨eb, ex⟩
      subst eσ
      subst eb
      obtain ⟨a, ha, rfl⟩ := map_of (f := V.str) (l := ks) ex
      have il := (List.getElem?_eq_some_iff.mp ha).1
      have h1a := sa _ _ (off h1) (s02 _ _ h1)
      have h2a := sa _ _ (off h2) (s02 _ _ h2)
      have hqa := sa _ _ (off hq) (s02 _ _ hq)
      obtain ⟨es, ees⟩ : ∃ es : List (Bool × Bool), es = (onB t zs a).zip (onB t zs' a) := ⟨_, rfl⟩
      have les : es.length = zs.length := by
        rw [ees, List.length_zip]
        unfold onB
        rw [List.length_map, List.length_map]
        omega
      refine ⟨_, rfl, l1, _, rfl, SqL.of h1a, fun D nD => ?_⟩
      refine lc_it walk_enum (fun j H' => Same Ha H' ∧ ∃ ps : List Addr, H' D = some (.lst (ps.map V.ref)) ∧ Paired (fun (r : Addr) (e : Bool × Bool) => H' r = some (.tup [.bl e.1, .bl e.2])) ps (es.take j)) ⟨same_new nD, [], upd_same, by rw [List.take_zero]; exact .nil⟩ (fun j H' _ w => SqL.of (w.1 _ _ h1a)) ?_ ?_
      · intro j TT Hx Hb hj ⟨q1, ps, q2, pp⟩ ⟨T', y1, z, eT, nT, eH, ey, ez⟩
        subst eT
        subst eH
        cases ey
        obtain ⟨b, hb, rfl⟩ := map_of (f := V.str) (l := zs) (show (zs.map V.str)[j]? = some z from ez)
        have jl := (List.getElem?_eq_some_iff.mp hb).1
        have hb' : zs'[j]? = some zs'[j] := List.getElem?_eq_getElem (by omega)
        obtain ⟨b', eb'⟩ : ∃ b', b' = zs'[j] := ⟨_, rfl⟩
        rw [← eb'] at hb'
        have hes : es[j]? = some (decide (a ∈ pathOf t b), decide (a ∈ pathOf t b')) := by
          rw [ees, List.getElem?_zip_eq_some]
          unfold onB
          rw [List.getElem?_map, List.getElem?_map, hb, hb']
          exact ⟨rfl, rfl⟩
        have sT := q1.trans (same_new (o := .tup [.int (j : Int), .str b]) nT)
        refine ⟨T', [.int (j : Int), .str b], rfl, .inl (.inl upd_same), rfl, _, _, rfl, _, _, rfl, rfl, rfl, ?_⟩
        refine ⟨_, rfl, _, rfl, _, rfl, q, b, t, rfl, .inl (sT _ _ hqa), o, pl b (List.mem_of_getElem? hb), fun p1 H1 s1' n1 hp1 => ?_⟩
        refine ⟨p1, _, rfl, .inr (.inl (.inl hp1)), rfl, flat_strs _, ?_⟩
        refine ⟨_, rfl, _, rfl, _, rfl, _, rfl, l2, _, _, .str b', rfl, rfl, SqL.of (s1' _ _ (sT _ _ h2a)), atI_nat (by rw [List.getElem?_map, hb'] <;> rfl), q, b', t, rfl, .inl (s1' _ _ (sT _ _ hqa)), o, pl' b' (List.mem_of_getElem? hb'), fun p2 H3 s3 n2 hp2 => ?_⟩
        refine ⟨p2, _, rfl, .inr (.inl (.inl hp2)), rfl, flat_strs _, ?_⟩
        rw [show (if false = true then !inV (V.str a) ((pathOf t b).map V.str) else inV (V.str a) ((pathOf t b).map V.str)) = decide (a ∈ pathOf t b) from inV_strs a _,
          show (if false = true then !inV (V.str a) ((pathOf t b').map V.str) else inV (V.str a) ((pathOf t b').map V.str)) = decide (a ∈ pathOf t b') from inV_strs a _]
        refine ⟨by show 2 ≤ sizeLine; omega, fun tq ntq => ?_⟩
        have sx := s1'.trans (s3.trans (same_new (o := .tup [.bl (decide (a ∈ pathOf t b)), .bl (decide (a ∈ pathOf t b'))]) ntq))
        have lp := pair_lenZ pp
        rw [List.length_take] at lp
        have hD' := sx _ _ (same_new nT _ _ q2)
        refine ⟨_, hD', by rw [List.length_map]; omega, (sT.trans sx).put nD, ps ++ [tq], by rw [upd_same, List.map_append] <;> rfl, ?_⟩
        rw [take_more hes]
        have keep : ∀ {r : Addr} {xs : List V}, (upd Hx T' (.tup [.int (j : Int), .str b])) r = some (.tup xs) → (upd (upd H3 tq (.tup [.bl (decide (a ∈ pathOf t b)), .bl (decide (a ∈ pathOf t b'))])) D (.lst (ps.map V.ref ++ [V.ref tq]))) r = some (.tup xs) := fun {r xs} e => by
          rw [upd_ne (ne_of (sx _ _ e) hD' (by intro z; cases z))]
          exact sx _ _ e
        refine psnoc ?_ (pimp (fun r e h => keep (same_new nT _ _ h)) pp)
        rw [upd_ne (ne_of (upd_same (H := H3) (a := tq) (o := .tup [.bl (decide (a ∈ pathOf t b)), .bl (decide (a ∈ pathOf t b'))])) hD' (by intro z; cases z))]
        exact upd_same
      intro Hb ⟨q1, ps, q2, pp⟩
      rw [List.length_map, ← les, List.take_length] at pp
      have shp := twoB_shaped es
      have dps : DpAll K Hb (ps.map V.ref) (es.map fun e => twoB e.1 e.2) := twoB_dps (by
        have m : ∀ {rs : List Addr} {xs : List (Bool × Bool)}, Paired (fun (r : Addr) (e : Bool × Bool) => Hb r = some (.tup [.bl e.1, .bl e.2])) rs xs → Paired (fun (t : Addr) (q : V × V) => Hb t = some (.tup [q.1, q.2])) rs (xs.map fun e => (V.bl e.1, V.bl e.2)) := by
          intro rs xs h
          induction h with
          | nil => exact .nil
          | cons h _ ih => exact .cons h ih
        exact m pp)
      have cnt : ∀ {u v : Bool} {Hx : Hp} {tp : Addr} {Q' : VK}, Same Hb Hx → Hx tp = none → (∀ H', Same Hx H' → Q' (.int (cntB zs.length fun i => hasC t zs a i == u && hasC t zs' a i == v)) H') → rCntD K (.ref D) [.ref tp] (upd Hx tp (.tup [.bl u, .bl v])) Q' := fun {u v Hx tp Q'} sx n kk => by
        have s1 := same_new (o := .tup [.bl u, .bl v]) n
        refine ⟨D, .ref tp, twoB u v, _, rfl, rfl, .lst (SqL.of (s1 _ _ (sx _ _ q2))) (dps_up (sx.trans s1) _ _ dps), .tup (SqT.of upd_same) (.cons (.bl _) (.cons (.bl _) .nil)), shp, by cases u <;> cases v <;> rfl, ?_⟩
        rw [ees, twoB_count el]
        exact kk _ s1
      refine ⟨_, rfl, .inl ⟨rfl, _, SqL.of (q1 _ _ hfl)⟩, _, rfl, _, rfl, .inl ⟨rfl, _, SqL.of q2⟩, by show 2 ≤ sizeLine; omega, fun t1 nt1 => ?_⟩
      dsimp only [tNil]
      refine cnt (fun _ _ e => e) nt1 fun Hc sc => ?_
      have c1 : Same Hb Hc := sc
      refine ⟨_, rfl, .inl ⟨rfl, _, SqL.of (c1 _ _ q2)⟩, by show 2 ≤ sizeLine; omega, fun t2 nt2 => ?_⟩
      dsimp only [tNil]
      refine cnt c1 nt2 fun Hd sd => ?_
      have c2 : Same Hb Hd := c1.trans sd
      rw [got_count el, lost_count el]
      refine ⟨by show 2 ≤ sizeLine; omega, fun ti nti => ⟨by show 2 ≤ sizeLine; omega, fun tr ntr => ?_⟩⟩
      have c3 := same_new (o := .tup [.int (newU (hasU t zs a) (hasU t zs' a)), .int (newU (hasU t zs' a) (hasU t zs a))]) nti
      have c4 := same_new (o := .tup [.str a, .ref ti]) ntr
      have cA := q1.trans (c2.trans (c3.trans c4))
      have lp := pair_lenZ pr
      rw [List.length_take] at lp
      have hfl' := cA _ _ hfl
      refine ⟨fl, _, _, rfl, rfl, hfl', by rw [List.length_map]; omega, ?_⟩
      have keep : ∀ {r : Addr} {xs : List V}, (upd (upd Hd ti (.tup [.int (newU (hasU t zs a) (hasU t zs' a)), .int (newU (hasU t zs' a) (hasU t zs a))])) tr (.tup [.str a, .ref ti])) r = some (.tup xs) → (upd (upd (upd Hd ti (.tup [.int (newU (hasU t zs a) (hasU t zs' a)), .int (newU (hasU t zs' a) (hasU t zs a))])) tr (.tup [.str a, .ref ti])) fl (.lst (rs.map V.ref ++ [V.ref tr]))) r = some (.tup xs) := fun {r xs} e => by
        rw [upd_ne (ne_of e hfl' (by intro z; cases z))]
        exact e
      refine ⟨⟨_, _, rfl⟩, fun b u n e => by rw [upd_ne n]; exact cA _ _ (sa _ _ n e), rs ++ [tr], by rw [upd_same, List.map_append] <;> rfl, ?_⟩
      rw [take_more ha]
      refine psnoc ⟨ti, keep upd_same, keep ?_⟩ (pimp (fun r b h => let ⟨x, e1, e2⟩ := h; ⟨x, keep (cA _ _ e1), keep (cA _ _ e2)⟩) pr)
      rw [eg, elo]
      exact c4 _ _ upd_same
    intro σ' H8 ⟨⟨u4, u5, eσ⟩, sa, rs, hfl, pr⟩
    subst eσ
    rw [List.length_map, List.take_length] at pr
    exact ⟨_, rfl, k fl rs ks H8 (fun b u e => sa _ _ (off e) (s02 _ _ e)) nfl pks srt hfl pr⟩
end
end FT


/-! all ways to given sizes, the fewest toggles (plain maths) -/
namespace FT
open PySem L2 TL ClX
/-- places with these sizes -/
def WayTo (t : List (Str × Str)) (n : Nat) (s : Str → Int) (W : List Str) : Prop := W.length = n ∧ (∀ z ∈ W, Pl t z) ∧ ∀ a ∈ t.map Prod.fst, szZ t W a = s a
def distS (t : List (Str × Str)) (zs W : List Str) : Int := ((zs.zip W).map fun e => distT t e.1 e.2).sum
theorem szZ_perm {ts t : List (Str × Str)} (o : TreeOk ts) (pt : ts.Perm t) (zs : List Str) (a : Str) : szZ t zs a = szZ ts zs a := by
  unfold szZ
  simp only [path_perm o.nd pt]
section
variable {ts t : List (Str × Str)} {zs zs' : List Str} {s : Str → Int}
theorem dist_far (o : TreeOk ts) (pt : ts.Perm t) {W : List Str} (pl : ∀ z ∈ zs, Pl ts z) (pW : ∀ z ∈ W, Pl ts z) : distS t zs W = farS ts zs W := by
  unfold distS farS
  congr 1
  exact List.map_congr_left fun e he => distT_dist o pt (pl _ (List.of_mem_zip he).1) (pW _ (List.of_mem_zip he).2)
/-- all that change -/
def leastS (ts : List (Str × Str)) (s : Str → Int) (zs : List Str) : Int := ((ts.map Prod.fst).map fun a => absI (s a - szZ ts zs a)).sum
theorem best_far (o : TreeOk ts) (pl : ∀ z ∈ zs, Pl ts z) (b : Best ts s zs zs') : farS ts zs zs' = leastS ts s zs := by
  rw [far_sum o b.len.symm pl b.pl]
  unfold leastS
  congr 1
  exact List.map_congr_left fun a ha => b.al a ha
theorem way_low (o : TreeOk ts) (pt : ts.Perm t) (pl : ∀ z ∈ zs, Pl ts z) {W : List Str} (h : WayTo t zs.length s W) : leastS ts s zs ≤ distS t zs W := by
  have pk : (ts.map Prod.fst).Perm (t.map Prod.fst) := pt.map _
  have pW : ∀ z ∈ W, Pl ts z := fun z hz => (h.2.1 z hz).imp id fun m => pk.mem_iff.mpr m
  rw [dist_far o pt pl pW]
  have z := (far_least o h.1.symm pl pW).1
  have e : ((ts.map Prod.fst).map fun a => absI (szZ ts W a - szZ ts zs a)) = (ts.map Prod.fst).map fun a => absI (s a - szZ ts zs a) := List.map_congr_left fun a ha => by
    rw [← szZ_perm o pt W a, h.2.2 a (pk.mem_iff.mp ha)]
  rw [e] at z
  exact z
theorem way_best (o : TreeOk ts) (pt : ts.Perm t) (pl : ∀ z ∈ zs, Pl ts z) (b : Best ts s zs zs') : WayTo t zs.length s zs' ∧ distS t zs zs' = leastS ts s zs := by
  have pk : (ts.map Prod.fst).Perm (t.map Prod.fst) := pt.map _
  exact ⟨⟨b.len, fun z hz => (b.pl z hz).imp id fun m => pk.mem_iff.mp m, fun a ha => by rw [szZ_perm o pt, b.sz a (pk.mem_iff.mpr ha)]⟩, by rw [dist_far o pt pl b.pl, best_far o pl b]⟩
theorem one_way (o : TreeOk ts) (pt : ts.Perm t) (b : Best ts s zs zs') : ∀ a ∈ t.map Prod.fst, newU (hasU t zs a) (hasU t zs' a) = 0 ∨ newU (hasU t zs' a) (hasU t zs a) = 0 := fun a ha => by
  have ma : a ∈ ts.map Prod.fst := (pt.map _).mem_iff.mpr ha
  refine (alone_one (ts := t) (a := a) b.len.symm).mp ?_
  rw [alone_perm o pt, szZ_perm o pt, szZ_perm o pt, b.al a ma, b.sz a ma]
end
end FT


/-! _law_is_fewest: as few toggles as any with the same sizes -/
namespace FT
open PySem L2 TL ClX LiI
def spIsFew : Sp := fun vs H Q _ => ∃ (q l1 l2 : Addr) (t : List (Str × Str)) (zs zs' : List Str) (m : Int), vs = [.ref q, .ref l1, .ref l2] ∧ H q = some (.dK (prs t)) ∧ TreeOk t ∧ t.length ≤ 4 ∧ H l1 = some (.lst (zs.map V.str)) ∧ H l2 = some (.lst (zs'.map V.str)) ∧ zs.length = zs'.length ∧ (∀ z ∈ zs, Pl t z) ∧ (∀ z ∈ zs', Pl t z) ∧ 1 ≤ zs.length ∧ zs.length ≤ 5 ∧
  (∀ W, WayTo t zs.length (szZ t zs') W → m ≤ distS t zs W) ∧ (∃ W, WayTo t zs.length (szZ t zs') W ∧ distS t zs W = m) ∧ ∀ H', Same H H' → Q (.bl (decide (m = distS t zs zs'))) H'
theorem count_strs (p : Str) : ∀ zs : List Str, (zs.map V.str).countP (fun z => eqV z (.str p)) = zs.count p
  | [] => rfl
  | z :: zs => by
    rw [List.map_cons, List.countP_cons, count_strs p zs, List.count_cons]
    congr 1
section
variable {P : Program} {w : World} {K : PySem.W.Frag} {mg : Str → Option Value} {base : Heap}
abbrev NIf : List Str := ["_law_above", "_law_here", "_law_there", "_law_left", "_law_found", "_law_row", "_law_at", "_law_spot"]
theorem scIf : FnScope NIf ["_law_above", "_law_here", "_law_there"] (defScope s__law_is_fewest) := ⟨rfl, rfl, rfl, by decide +kernel, rfl, by decide +kernel, by decide +kernel⟩
theorem ok_isFew {f fE fF : Addr} {fd fdE fdF : FuncData} (F : Fun K "_law_is_fewest" "_law_is_fewest" s__law_is_fewest f fd) (T : Nm mg) (EV : ∀ m, Dn P w K mg base CX0 (m + 1) "_law_every" ["_law_above", "_law_left"] (spEvery m) fE fdE)
    (FA : Dn P w K mg base CX0 2 "_law_far" ["_law_above", "_law_spot", "_law_goal"] spFar fF fdF) : FnOk P w K mg base CX0 7 f fd ["_law_above", "_law_here", "_law_there"] spIsFew := by
  refine F.ok scIf (fun vs H Q E h => ?_) (fun cdv A outer s H vs Q E hr h => ?_)
  · obtain ⟨q, l1, l2, t, zs, zs', m, rfl, _⟩ := h
    rfl
  · obtain ⟨q, l, l2, t, zs, zs', mm, rfl, hq, o, t4, hl, hl2, el, pl, pl', n1, n5, low, ⟨W0, way0, dis0⟩, k⟩ := h
    have nd := scIf.nd
    have hr1 : Room 1 _ := hr.mono (by decide)
    have hr2 : Room 2 _ := hr.mono (by decide)
    have hre : Room (zs.length + 1) _ := hr.mono (by omega)
    have big : 4000 ≤ sizeLine := by decide
    have few := o.few
    refine ⟨_, pss_cons (ps_set (i := 3) nd rfl (.inl rfl) (pe_callTy (call_dictP rfl) (by rfl) T.dct (by decide +kernel) (pa_cons (pe_lc (own := [("_law_spot", 7)]) (g := gName 7) (tt := tYes) (te := tTup (tCons (tVar 7) (tCons (tBM K "list" (rCntF K) (tVar 2) (tCons (tVar 7) tNil)) tNil))) rfl nd
          (pi_list (pe_op op_cat (pe_lst (pa_cons pe_str pa_nil)) (pe_callB (call_sortedD rfl) (by rfl) T.srt (by decide +kernel) (pa_cons (pv 0) pa_nil)))) (blkOk_by (N := NIf) (sc := defScope s__law_is_fewest) (by decide +kernel)) (fun _ _ _ _ _ => pg_name (i := 7) nd rfl (Or.inl rfl)) (fun _ _ _ _ _ => pts_nil)
          (fun _ _ _ _ _ => pe_tup (pa_cons (pv 7) (pa_cons (pe_bm PySem.F.plainAttrs_list PySem.F.slot_list_count PySem.F.type_list_count mt_countF (pv 2) (pa_cons (pv 7) pa_nil)) pa_nil)))) pa_nil)))
      (pss_cons (ps_set (i := 4) nd rfl (.inl rfl) (pe_lst pa_nil))
      (pss_cons (ps_for PassesOwn.never rfl (pi_list (pe_call (EV zs.length).ok hre rfl (EV zs.length).mgn (EV zs.length).kp (EV zs.length).bn .nil pass0 (pa_cons (pv 0) (pa_cons (pv 3) pa_nil)))) (pg_name (i := 5) nd rfl (.inr rfl))
        (pss_one (ps_expr (pe_bm PySem.F.plainAttrs_list PySem.F.slot_list_append PySem.F.type_list_append mt_append (pv 4) (pa_cons (pe_callB (cr_sum rfl) (by rfl) T.sum (by decide +kernel) (pa_cons (pe_lc (own := [("_law_at", 6), ("_law_spot", 7)]) (g := gTup K 2 (gCons (gName 6) (gCons (gName 7) gNil))) (tt := tYes) (te := tCall spFar [] E0 (tCons (tVar 0) (tCons (tVar 7) (tCons (tOp (rIxL K) (tVar 5) (tVar 6)) tNil)))) rfl nd (pi_enum rfl T.enu (pa_cons (pv 1) pa_nil)) (blkOk_by (N := NIf) (sc := defScope s__law_is_fewest) (by decide +kernel))
            (fun _ _ _ _ _ => pg_tup rfl (pgs_cons (pg_name (i := 6) nd rfl (Or.inl rfl)) (pgs_cons (pg_name (i := 7) nd rfl (Or.inl rfl)) pgs_nil))) (fun _ _ _ _ _ => pts_nil) (fun _ _ _ _ _ => pe_call FA.ok hr2 rfl FA.mgn FA.kp FA.bn .nil pass0 (pa_cons (pv 0) (pa_cons (pv 7) (pa_cons (pe_ix ix_list (pv 5) (pv 6) (fun _ _ => rfl)) pa_nil))))) pa_nil)) pa_nil)))))
      (pss_one (ps_ret (pe_cmpR op_eq (pe_callB (cr_min rfl) (by rfl) T.min (by decide +kernel) (pa_cons (pv 4) pa_nil)) (pe_callB (cr_sum rfl) (by rfl) T.sum (by decide +kernel) (pa_cons (pe_lc (own := [("_law_at", 6), ("_law_spot", 7)]) (g := gTup K 2 (gCons (gName 6) (gCons (gName 7) gNil))) (tt := tYes) (te := tCall spFar [] E0 (tCons (tVar 0) (tCons (tVar 7) (tCons (tOp (rIxL K) (tVar 2) (tVar 6)) tNil)))) rfl nd (pi_enum rfl T.enu (pa_cons (pv 1) pa_nil)) (blkOk_by (N := NIf) (sc := defScope s__law_is_fewest) (by decide +kernel))
            (fun _ _ _ _ _ => pg_tup rfl (pgs_cons (pg_name (i := 6) nd rfl (Or.inl rfl)) (pgs_cons (pg_name (i := 7) nd rfl (Or.inl rfl)) pgs_nil))) (fun _ _ _ _ _ => pts_nil) (fun _ _ _ _ _ => pe_call FA.ok hr2 rfl FA.mgn FA.kp FA.bn .nil pass0 (pa_cons (pv 0) (pa_cons (pv 7) (pa_cons (pe_ix ix_list (pv 2) (pv 6) (fun _ _ => rfl)) pa_nil))))) pa_nil)) (nomark _)))))), ?_⟩
    -- how many there are at each place
    refine ⟨by show 1 ≤ sizeLine; omega, fun p1 m1 => ?_⟩
    refine ⟨_, rfl, q, prs t, t.map Prod.fst, rfl, .inl (by rw [upd_ne (ne_of_none hq m1)]; exact hq), prs_keys t, by rw [List.length_map]; omega, fun ks p2 pks sks m2 => ?_⟩
    have lks := pks.length_eq
    rw [List.length_map] at lks
    refine ⟨p1, p2, [.str ""], ks.map V.str, rfl, rfl, by rw [upd_ne (ne_of_none upd_same m2), upd_same], upd_same, by rw [List.length_map]; show 1 + _ ≤ sizeLine; omega, fun pa ma => ⟨pa, rfl, ⟨_, SqL.of upd_same⟩, fun D nD => ?_⟩⟩
    have t1 := same_new (o := .lst [.str ""]) m1
    have t2 := same_new (o := .lst (ks.map V.str)) m2
    have t3 := same_new (o := .lst ([.str ""] ++ ks.map V.str)) ma
    obtain ⟨H1, e1⟩ : ∃ X, X = upd (upd (upd H p1 (.lst [.str ""])) p2 (.lst (ks.map V.str))) pa (.lst ([.str ""] ++ ks.map V.str)) := ⟨_, rfl⟩
    have s01 : Same H H1 := e1 ▸ t1.trans (t2.trans t3)
    have hpa : H1 pa = some (.lst ((("" : Str) :: ks).map V.str)) := by rw [e1]; exact upd_same
    rw [← e1] at nD ⊢
    have pk0 : (("" : Str) :: ks).Perm (pls t) := pks.cons _
    have nk0 : (("" : Str) :: ks).Nodup := pk0.nodup_iff.mpr (pls_nd o)
    obtain ⟨g, eg⟩ : ∃ g : Str → Int, g = fun p => (zs'.count p : Int) := ⟨_, rfl⟩
    refine lc_it walk_list (fun j H' => Same H1 H' ∧ ∃ rs : List Addr, H' D = some (.lst (rs.map V.ref)) ∧ PrG (fun p => .int (g p)) H' rs ((("" : Str) :: ks).take j)) ⟨same_new nD, [], upd_same, by rw [List.take_zero]; exact .nil⟩ (fun j H' _ z => SqL.of (z.1 _ _ hpa)) ?_ ?_
    · intro j yv Hx Hy hj ⟨q1, rs, hD, pr⟩ ⟨eb, ex⟩
      subst eb
      obtain ⟨b, hb, rfl⟩ := map_of (f := V.str) (l := ("" : Str) :: ks) ex
      have lr := pr.len
      rw [List.length_take, List.length_cons] at lr
      refine ⟨rfl, ?_⟩
      refine ⟨_, rfl, _, rfl, .inl ⟨rfl, _, SqL.of (q1 _ _ (s01 _ _ hl2))⟩, _, rfl, l2, _, .str b, rfl, rfl, SqL.of (q1 _ _ (s01 _ _ hl2)), rfl, flat_strs _, by show 2 ≤ sizeLine; omega, fun tq ntq => ?_⟩
      rw [count_strs]
      have sq := same_new (o := .tup [.str b, .int (zs'.count b : Int)]) ntq
      refine ⟨_, sq _ _ hD, by rw [List.length_map]; omega, (q1.trans sq).put nD, rs ++ [tq], by rw [upd_same, List.map_append] <;> rfl, ?_⟩
      rw [take_more hb]
      exact PrG.push (sq _ _ hD) (PrG.snoc (by rw [upd_same, eg]) (pr.mono sq))
    intro H2 ⟨q1, rs0, hD, pr⟩
    rw [List.length_map, List.take_length] at pr
    refine ⟨D, rs0, kvT ((("" : Str) :: ks).map fun b => (b, V.int (g b))), rfl, SqL.of hD, PrG.kvs pr, fun pn npn => ?_⟩
    rw [merge_nd (by rw [map_fst]; exact nk0)]
    have tn := same_new (o := .dK (tblI (("" : Str) :: ks) g)) npn
    obtain ⟨H3, e3⟩ : ∃ X, X = upd H2 pn (.dK (tblI (("" : Str) :: ks) g)) := ⟨_, rfl⟩
    have s03 : Same H H3 := s01.trans (q1.trans (e3 ▸ tn))
    have hpn : H3 pn = some (.dK (tblI (("" : Str) :: ks) (resid t (zs.length : Int) (szZ t zs')))) := by
      rw [e3, upd_same]
      congr 2
      refine tblI_congr fun p hp => ?_
      rw [eg, el]
      exact cnt_resid o pl' (fun _ _ => rfl) (mem_pls.mp (pk0.mem_iff.mp hp))
    rw [show upd H2 pn (.dK (kvT ((("" : Str) :: ks).map fun b => (b, V.int (g b))))) = H3 from e3.symm]
    clear e3 e1
    have fe : Fea t (zs.length : Int) (szZ t zs') := by rw [el]; exact fea_szZ o pl'
    -- all ways
    refine ⟨by show 0 ≤ sizeLine; omega, fun fl nfl => ?_⟩
    have s1 := s03.trans (same_new (o := .lst []) nfl)
    have nfl0 : H fl = none := s03.free nfl
    have lC : (("" : Str) :: ks).length = ks.length + 1 := rfl
    refine ⟨_, rfl, _, rfl, q, pn, "" :: ks, "" :: ks, resid t (zs.length : Int) (szZ t zs'), rfl, same_new nfl _ _ hpn, nk0, .refl _, root_first sks, by omega, n5, fun a ha => fe.res a (pk0.mem_iff.mp ha), by rw [sum_perm (pk0.map _)]; exact res_pls o, fun pe rs H5 s45 npe hpe prd => ?_⟩
    obtain ⟨EW, eEW⟩ : ∃ EW, EW = evN (("" : Str) :: ks) zs.length (resid t (zs.length : Int) (szZ t zs')) := ⟨_, rfl⟩
    rw [← eEW] at prd
    have evm : ∀ W, W ∈ EW ↔ WayTo t zs.length (szZ t zs') W := fun W => by
      rw [eEW]
      exact ev_iff o pk0 fe W
    have lev : EW.length ≤ 3125 := by
      have z := evN_len (("" : Str) :: ks) zs.length (resid t (zs.length : Int) (szZ t zs'))
      have z2 : (("" : Str) :: ks).length ^ zs.length ≤ 5 ^ 5 := Nat.le_trans (Nat.pow_le_pow_left (by omega) _) (Nat.pow_le_pow_right (by decide) n5)
      have : (5 : Nat) ^ 5 = 3125 := by decide
      rw [eEW]
      omega
    have lrs := pair_lenZ prd
    have s5 := s1.trans s45
    have hfl5 : H5 fl = some (.lst []) := s45 _ _ upd_same
    have off : ∀ {b : Addr} {u : HO}, H b = some u → b ≠ fl := fun e => ne_of_none e nfl0
    have lfl := off hl
    have l2fl := off hl2
    have qfl := off hq
    have pfl : pe ≠ fl := (ne_of_none (upd_same (H := H3) (a := fl) (o := .lst [])) npe).symm
    refine ⟨pe, rfl, ⟨_, SqL.of hpe⟩, ?_⟩
    have hl5 := s5 _ _ hl
    have hl25 := s5 _ _ hl2
    have hq5 := s5 _ _ hq
    refine for_it walk_list (fun i σ' H' => (∃ u5, σ' = [some (.ref q), some (.ref l), some (.ref l2), some (.ref pn), some (.ref fl), u5, none, none]) ∧ (∀ b u, b ≠ fl → H5 b = some u → H' b = some u) ∧ H' fl = some (.lst (((EW.take i).map fun W => distS t zs W).map V.int))) ⟨⟨_, rfl⟩, fun _ _ _ e => e, hfl5⟩ (fun i σ' H' _ z => SqL.of (z.2.1 _ _ pfl hpe)) ?_ ?_
    · intro i yv σ' Hz Ha hi ⟨⟨u5, eσ⟩, sa, hfl⟩ ⟨eb, ex⟩
      subst eσ
      subst eb
      obtain ⟨r, hr', rfl⟩ := map_of (f := V.ref) (l := rs) ex
      obtain ⟨W, hW, hrW⟩ := LiI.paired_get prd hr'
      have mW := (evm W).mp (List.mem_of_getElem? hW)
      have il := (List.getElem?_eq_some_iff.mp hW).1
      have rfl' : r ≠ fl := fun z => by
        subst z
        rw [hfl5] at hrW
        have e0 : ([] : List V) = W.map V.str := HO.lst.inj (Option.some.inj hrW)
        have z := congrArg List.length e0
        rw [List.length_map, mW.1] at z
        have : 0 = zs.length := z
        omega
      refine ⟨_, rfl, .inl ⟨rfl, _, SqL.of hfl⟩, _, rfl, l, _, rfl, SqL.of (sa _ _ lfl hl5), fun D nD => ?_⟩
      refine lc_it walk_enum (fun j H' => Same Ha H' ∧ H' D = some (.lst ((((zs.zip W).take j).map fun e => distT t e.1 e.2).map V.int))) ⟨same_new nD, upd_same⟩ (fun j H' _ w => SqL.of (w.1 _ _ (sa _ _ lfl hl5))) ?_ ?_
      · intro j TT Hx Hb hj ⟨q1, q2⟩ ⟨T', y1, z, eT, nT, eH, ey, ez⟩
        subst eT
        subst eH
        cases ey
        obtain ⟨b, hb, rfl⟩ := map_of (f := V.str) (l := zs) (show (zs.map V.str)[j]? = some z from ez)
        have jl := (List.getElem?_eq_some_iff.mp hb).1
        have lW := mW.1
        have hb' : W[j]? = some W[j] := List.getElem?_eq_getElem (by omega)
        obtain ⟨b', eb'⟩ : ∃ b', b' = W[j] := ⟨_, rfl⟩
        rw [← eb'] at hb'
        have ez' : (zs.zip W)[j]? = some (b, b') := by
          rw [List.getElem?_zip_eq_some]
          exact ⟨hb, hb'⟩
        have sT := q1.trans (same_new (o := .tup [.int (j : Int), .str b]) nT)
        refine ⟨T', [.int (j : Int), .str b], rfl, .inl (.inl upd_same), rfl, _, _, rfl, _, _, rfl, rfl, rfl, ?_⟩
        refine ⟨_, rfl, _, rfl, _, rfl, _, rfl, r, _, _, .str b', rfl, rfl, SqL.of (sT _ _ (sa _ _ rfl' hrW)), atI_nat (by rw [List.getElem?_map, hb'] <;> rfl), q, b, b', t, rfl, sT _ _ (sa _ _ qfl hq5), o, pl b (List.mem_of_getElem? hb), mW.2.1 b' (List.mem_of_getElem? hb'), fun Hd sd => ?_⟩
        exact ⟨_, sd _ _ (same_new nT _ _ q2), by rw [List.length_map, List.length_map, List.length_take, List.length_zip]; omega, (sT.trans sd).put nD, by rw [upd_same, take_more ez', List.map_append, List.map_append] <;> rfl⟩
      intro Hb ⟨q1, q2⟩
      rw [List.length_map, show zs.length = (zs.zip W).length by rw [List.length_zip, mW.1]; omega, List.take_length] at q2
      refine ⟨D, _, rfl, SqL.of q2, fl, _, _, rfl, rfl, q1 _ _ hfl, by rw [List.length_map, List.length_map, List.length_take]; omega, ?_⟩
      refine ⟨⟨_, rfl⟩, fun b u n e => by rw [upd_ne n]; exact q1 _ _ (sa _ _ n e), ?_⟩
      rw [upd_same, take_more hW, List.map_append, List.map_append] <;> rfl
    intro σ' H9 ⟨⟨u5, eσ⟩, sa, hfl⟩
    subst eσ
    rw [List.length_map, lrs, List.take_length] at hfl
    refine ⟨_, rfl, fl, _, rfl, SqL.of hfl, by rw [List.length_map]; exact List.length_pos_of_mem ((evm W0).mpr way0), fun m hm lo' => ?_⟩
    have mE : m = mm := min_is hm lo' (fun z hz => by
      obtain ⟨W, hW, rfl⟩ := List.mem_map.mp hz
      exact low W ((evm W).mp hW)) (List.mem_map.mpr ⟨W0, (evm W0).mpr way0, dis0⟩)
    subst mE
    have hl9 := sa _ _ lfl hl5
    have hl29 := sa _ _ l2fl hl25
    have hq9 := sa _ _ qfl hq5
    refine ⟨_, rfl, l, _, rfl, SqL.of hl9, fun D nD => ?_⟩
    refine lc_it walk_enum (fun j H' => Same H9 H' ∧ H' D = some (.lst ((((zs.zip zs').take j).map fun e => distT t e.1 e.2).map V.int))) ⟨same_new nD, upd_same⟩ (fun j H' _ w => SqL.of (w.1 _ _ hl9)) ?_ ?_
    · intro j TT Hx Hb hj ⟨q1, q2⟩ ⟨T', y1, z, eT, nT, eH, ey, ez⟩
      subst eT
      subst eH
      cases ey
      obtain ⟨b, hb, rfl⟩ := map_of (f := V.str) (l := zs) (show (zs.map V.str)[j]? = some z from ez)
      have jl := (List.getElem?_eq_some_iff.mp hb).1
      have hb' : zs'[j]? = some zs'[j] := List.getElem?_eq_getElem (by omega)
      obtain ⟨b', eb'⟩ : ∃ b', b' = zs'[j] := ⟨_, rfl⟩
      rw [← eb'] at hb'
      have ez' : (zs.zip zs')[j]? = some (b, b') := by
        rw [List.getElem?_zip_eq_some]
        exact ⟨hb, hb'⟩
      have sT := q1.trans (same_new (o := .tup [.int (j : Int), .str b]) nT)
      refine ⟨T', [.int (j : Int), .str b], rfl, .inl (.inl upd_same), rfl, _, _, rfl, _, _, rfl, rfl, rfl, ?_⟩
      refine ⟨_, rfl, _, rfl, _, rfl, _, rfl, l2, _, _, .str b', rfl, rfl, SqL.of (sT _ _ hl29), atI_nat (by rw [List.getElem?_map, hb'] <;> rfl), q, b, b', t, rfl, sT _ _ hq9, o, pl b (List.mem_of_getElem? hb), pl' b' (List.mem_of_getElem? hb'), fun Hd sd => ?_⟩
      exact ⟨_, sd _ _ (same_new nT _ _ q2), by rw [List.length_map, List.length_map, List.length_take, List.length_zip]; omega, (sT.trans sd).put nD, by rw [upd_same, take_more ez', List.map_append, List.map_append] <;> rfl⟩
    intro Hb ⟨q1, q2⟩
    rw [List.length_map, show zs.length = (zs.zip zs').length by rw [List.length_zip]; omega, List.take_length] at q2
    refine ⟨D, _, rfl, SqL.of q2, rfl, ?_⟩
    rw [show decide (V.int m = V.int ((zs.zip zs').map fun e => distT t e.1 e.2).sum) = decide (m = distS t zs zs') by
      unfold distS
      by_cases e : m = ((zs.zip zs').map fun e => distT t e.1 e.2).sum
      · rw [decide_eq_true e, decide_eq_true (by rw [← e])]
      · rw [decide_eq_false e, decide_eq_false fun z => e (V.int.inj z)]]
    exact k Hb fun b u e => q1 _ _ (sa _ _ (off e) (s5 _ _ e))
end
end FT


/-! assignments stay while the draws go on; readings of ifs -/
namespace FT
open PySem L2 TL ClX LamX NdefX LiI
theorem pick2 (b : Bool) (x y : Int) : atI [V.int x, V.int y] (if b then 1 else 0) = some (.int (if b then y else x)) := by cases b <;> rfl
theorem ifNe {a b : Int} {A B : Prop} (e : a = b) (h : B) : if (!decide (V.int a = V.int b)) = true then A else B := by
  rw [e, decide_eq_true rfl, if_neg (by decide)]
  exact h
theorem DrawAt.notS {H : Hp} {d c b : Addr} {zs : List Str} (x : DrawAt H d c) (e : H b = some (.lst (zs.map V.str))) : b ≠ d ∧ b ≠ c := by
  obtain ⟨nx, mx, ct, cells, z1, z2, ne, _⟩ := x
  constructor
  · refine ne_of e z1 fun z => ?_
    have z := HO.lst.inj z
    cases zs with
    | nil => cases z
    | cons a zs => cases z
  · refine ne_of e z2 fun z => ?_
    have z := HO.lst.inj z
    cases cells with
    | nil => exact ne rfl
    | cons a cs =>
      cases zs with
      | nil => cases z
      | cons b zs => cases z
theorem AAt.keepN {CA y x : Addr} {H H' : Hp} {d c : Addr} {zs : List Str} (dr : DrawAt H d c) (k : KeepN d c H H') (h : AAt CA H y x zs) : AAt CA H' y x zs := by
  obtain ⟨dy, p, e1, e2⟩ := h
  obtain ⟨a1, a2⟩ := dr.notD e1 (fun xs z => nomatch z)
  obtain ⟨b1, b2⟩ := dr.notS e2
  exact ⟨dy, p, k _ _ a1 a2 e1 (fun ps z => nomatch z), k _ _ b1 b2 e2 (fun ps z => nomatch z)⟩
theorem chk_and {i : Nat} {b : Bool} {t : TT} {tr : TS} {D : Ends} {σ : St} {H0 : Hp} (h : σ[i]? = some (some (.bl b))) (hb : b = true → ∀ Q : Bool → Hp → Prop, (∀ H', Same H0 H' → Q false H') → t σ H0 Q) (k : ∀ H', Same H0 H' → D.nx σ H') : tIfS (tAnd (tB (tVar i)) t) tr tNext D σ H0 := by
  refine ⟨_, h, b, rfl, ?_⟩
  cases b with
  | false => exact iteF (iteF (k H0 fun _ _ e => e))
  | true => exact iteT (hb rfl _ fun H' s => iteF (k H' s))
/-- `not small or t` -/
theorem chk_or {i : Nat} {sm : Bool} {t : TT} {tb : TS} {D : Ends} {σ : St} {H0 : Hp} (h : σ[i]? = some (some (.bl sm))) (G : Hp → Prop) (g0 : G H0) (ht : ∀ Q : Bool → Hp → Prop, (∀ b H', G H' → Q b H') → t σ H0 Q) (k : ∀ H', G H' → tb D σ H') (k2 : ∀ H', G H' → D.nx σ H') : tIfS (tOr (tNot (tB (tVar i))) t) tb tNext D σ H0 := by
  refine ⟨_, h, sm, rfl, ?_⟩
  cases sm with
  | false => exact iteT (iteT (k H0 g0))
  | true => exact iteF (ht _ fun b H' g => by
      cases b with
      | false => exact iteF (k2 H' g)
      | true => exact iteT (k H' g))
end FT


/-! _law_drawn: two lists of places -/
namespace FT
open PySem L2 TL ClX LamX NdefX LiI
structure L08 (P : Program) (w : World) (K : PySem.W.Frag) (mg : Str → Option Value) (base : Heap) (CF CA CS : Addr) (mc mcA : Value) (T : List (Addr × Str)) (f g : Nat → Addr) (fd : Nat → FuncData) : Prop where
  Z : Fc K mg CF mc
  B : Ac K mg CA mcA
  dt : Dn P w K mg base CX0 1 "_law_take" ["_law_draw", "_law_size"] spDraw (f 0) (fd 0)
  dp : Dn P w K mg base CX0 2 "_law_pick" ["_law_draw", "_law_some"] (spPick K) (f 1) (fd 1)
  sz : Dn P w K mg base CX0 5 "_law_sizes" ["_law_draw", "_law_above", "_law_many"] (spSizes T) (f 2) (fd 2)
  fi : FnOk P w K mg base CX0 3 (f 3) (fd 3) ["self", "parents"] (spFInit CF)
  fim : Mk K CF (f 3)
  fib : Binds K (fd 3) ["self", "parents"] []
  ai : FnOk P w K mg base CX0 1 (f 4) (fd 4) ["self", "forest", "places"] (spAInit CF CA)
  aim : Mk K CA (f 4)
  aib : Binds K (fd 4) ["self", "forest", "places"] []
  be : Dn P w K mg base (L2.CX P w) 6 "best" ["assignment", "new"] (spBest K CF CA CS) (f 5) (fd 5)
  pP : PrN P w K mg base 1 CA "places" (spAPlaces CA) (g 0) (f 6) (fd 6)
def spDrawn (T : List (Addr × Str)) : Sp := fun vs H Q _ => ∃ (d c q : Addr) (n : Int) (sm : Bool) (t : List (Str × Str)), vs = [.ref d, .ref q, .int n, .bl sm] ∧ DrawAt H d c ∧ H q = some (.dK (prs t)) ∧ TreeOk t ∧ 1 ≤ n ∧ n ≤ 60 ∧ Tabs T H ∧
  ∀ (tp l1 l2 : Addr) (zs zs' : List Str) (H' : Hp), DrawAt H' d c → Tabs T H' → KeepN d c H H' → H' tp = some (.tup [.ref l1, .ref l2]) → H' l1 = some (.lst (zs.map V.str)) → H' l2 = some (.lst (zs'.map V.str)) → (zs.length : Int) = n → zs'.length = zs.length → (∀ z ∈ zs, Pl t z) → (∀ z ∈ zs', Pl t z) → Q (.ref tp) H'
section
variable {P : Program} {w : World} {K : PySem.W.Frag} {mg : Str → Option Value} {base : Heap}
abbrev NDw : List Str := ["_law_draw", "_law_above", "_law_many", "_law_small", "_law_spots", "_law_here", "_law_there", "_law_turn", "_law_at", "_law_to"]
theorem scDw : FnScope NDw ["_law_draw", "_law_above", "_law_many", "_law_small"] (defScope s__law_drawn) := ⟨rfl, rfl, rfl, by decide +kernel, rfl, by decide +kernel, by decide +kernel⟩
theorem ok_drawn {f0 CF CA CS : Addr} {mc mcA : Value} {T : List (Addr × Str)} {f g : Nat → Addr} {fd : Nat → FuncData} {fd0 : FuncData} (F : Fun K "_law_drawn" "_law_drawn" s__law_drawn f0 fd0) (N : Nm mg) (L : L08 P w K mg base CF CA CS mc mcA T f g fd) : FnOk P w K mg base CX0 7 f0 fd0 ["_law_draw", "_law_above", "_law_many", "_law_small"] (spDrawn T) := by
  refine F.ok scDw (fun vs H Q E h => ?_) (fun cdv A outer s H vs Q E hr h => ?_)
  · obtain ⟨d, c, q, n, sm, t, rfl, _⟩ := h
    rfl
  · obtain ⟨d, c, q, n, sm, t, rfl, dr, hq, o, n1, n60, tb, k⟩ := h
    have hr1 : Room 1 _ := hr.mono (by decide)
    have hr2 : Room 2 _ := hr.mono (by decide)
    have hr4 : Room 4 _ := hr.mono (by decide)
    have hr5 : Room 5 _ := hr.mono (by decide)
    have hr6 : Room 6 _ := hr.mono (by decide)
    have nd := scDw.nd
    have big : 1000 ≤ sizeLine := by decide
    refine ⟨_, pss_cons (ps_set (i := 4) nd rfl (.inr rfl) (pe_op op_cat (pe_lst (pa_cons pe_str pa_nil)) (pe_callB (call_sortedD rfl) (by rfl) N.srt (by decide +kernel) (pa_cons (pv 1) pa_nil))))
      (pss_cons (ps_par (i := 5) (j := 6) rfl nd rfl rfl (by decide) rfl rfl
          (pa_cons (pe_lc (own := [("_law_at", 8)]) (g := gName 8) (tt := tYes) rfl nd (pi_range1 rfl N.rng (pa_cons (pv 2) pa_nil)) (blkOk_by (N := NDw) (sc := defScope s__law_drawn) (by decide +kernel)) (fun _ _ _ _ _ => pg_name (i := 8) nd rfl (Or.inl rfl)) (fun _ _ _ _ _ => pts_nil)
              (fun _ _ _ _ _ => pe_call L.dp.ok hr2 rfl L.dp.mgn L.dp.kp L.dp.bn .nil pass0 (pa_cons (pv 0) (pa_cons (pv 4) pa_nil))))
            (pa_cons (pe_lc (own := [("_law_at", 8)]) (g := gName 8) (tt := tYes) rfl nd (pi_range1 rfl N.rng (pa_cons (pv 2) pa_nil)) (blkOk_by (N := NDw) (sc := defScope s__law_drawn) (by decide +kernel)) (fun _ _ _ _ _ => pg_name (i := 8) nd rfl (Or.inl rfl)) (fun _ _ _ _ _ => pts_nil)
              (fun _ _ _ _ _ => pe_call L.dp.ok hr2 rfl L.dp.mgn L.dp.kp L.dp.bn .nil pass0 (pa_cons (pv 0) (pa_cons (pv 4) pa_nil)))) pa_nil)) (by rfl))
      (pss_cons (ps_if (PW.pt (pw_or (pt_not (pt_val (pv 3))) (pw_or1 (pt_cmpR op_eq (pe_call L.dt.ok hr1 rfl L.dt.mgn L.dt.kp L.dt.bn .nil pass0 (pa_cons (pv 0) (pa_cons pe_int pa_nil))) pe_int (nomark _)))))
        (pss_cons (ps_set (i := 6) nd rfl (.inl rfl) (pe_prop (pe_call (E := E0) L.be.ok hr6 rfl L.be.mgn L.be.kp L.be.bn .nil L2.passL (pa_cons (pe_make L.aim L.ai hr2 (by rfl) L.B.gA L.aib .nil pass0 (pa_cons (pe_make L.fim L.fi hr4 (by rfl) L.Z.gF L.fib .nil pass0 (pa_cons (pv 1) pa_nil)) (pa_cons (pv 5) pa_nil)))
            (pa_cons (pe_call L.sz.ok hr5 rfl L.sz.mgn L.sz.kp L.sz.bn .nil pass0 (pa_cons (pv 0) (pa_cons (pv 1) (pa_cons (pv 2) pa_nil)))) pa_nil))) L.B.cl L.pP.pr L.pP.fn hr2 L.pP.bn .nil pass0 (by rfl)))
        (pss_one (ps_for PassesOwn.never rfl (pi_range1 rfl N.rng (pa_cons (pe_call L.dt.ok hr1 rfl L.dt.mgn L.dt.kp L.dt.bn .nil pass0 (pa_cons (pv 0) (pa_cons pe_int pa_nil))) pa_nil)) (pg_name (i := 7) nd rfl (.inl rfl))
          (pss_cons (ps_par (i := 8) (j := 9) rfl nd rfl rfl (by decide) rfl rfl (pa_cons (pe_call L.dt.ok hr1 rfl L.dt.mgn L.dt.kp L.dt.bn .nil pass0 (pa_cons (pv 0) (pa_cons (pv 2) pa_nil))) (pa_cons (pe_call L.dt.ok hr1 rfl L.dt.mgn L.dt.kp L.dt.bn .nil pass0 (pa_cons (pv 0) (pa_cons (pv 2) pa_nil))) pa_nil)) (by rfl))
          (pss_one (ps_asg (pe_tup (pa_cons (pe_ix ix_list (pv 6) (pv 9) (fun _ _ => rfl)) (pa_cons (pe_ix ix_list (pv 6) (pv 8) (fun _ _ => rfl)) pa_nil))) (pg_tup rfl (pgs_cons (pg_sub (pv 6) (pv 8) set_list) (pgs_cons (pg_sub (pv 6) (pv 9) set_list) pgs_nil)))))))) ) pss_nil)
      (pss_one (ps_ret (pe_tup (pa_cons (pv 5) (pa_cons (pv 6) pa_nil))))))), ?_⟩
    have few := o.few
    obtain ⟨qd, qc⟩ := dr.notD hq (fun xs z => nomatch z)
    -- the places to pick from
    refine ⟨by show 1 ≤ sizeLine; omega, fun p2 m2 => ?_⟩
    refine ⟨_, rfl, q, prs t, t.map Prod.fst, rfl, .inl (by rw [upd_ne (ne_of_none hq m2)]; exact hq), prs_keys t, by rw [List.length_map]; omega, fun ks p3 pks srt m3 => ?_⟩
    have lks := pks.length_eq
    rw [List.length_map] at lks
    refine ⟨p2, p3, [.str ""], ks.map V.str, rfl, rfl, by rw [upd_ne (ne_of_none upd_same m3), upd_same], upd_same, by rw [List.length_map]; show 1 + _ ≤ sizeLine; omega, fun ps mps => ?_⟩
    have t1 := same_new (o := .lst [.str ""]) m2
    have t2 := same_new (o := .lst (ks.map V.str)) m3
    have t3 := same_new (o := .lst ([.str ""] ++ ks.map V.str)) mps
    obtain ⟨H1, e1⟩ : ∃ X, X = upd (upd (upd H p2 (.lst [.str ""])) p3 (.lst (ks.map V.str))) ps (.lst ([.str ""] ++ ks.map V.str)) := ⟨_, rfl⟩
    have s01 : Same H H1 := e1 ▸ (t1.trans (t2.trans t3))
    have hps : H1 ps = some (.lst ((("" : Str) :: ks).map V.str)) := by rw [e1]; exact upd_same
    obtain ⟨psd, psc⟩ := ((dr.mono t1).mono t2).apart mps
    rw [← e1]
    have dr1 := dr.mono s01
    have tb1 := tb.ext s01
    have hq1 := s01 _ _ hq
    -- one list of drawn places
    have inPl : ∀ z ∈ ("" : Str) :: ks, Pl t z := fun z hz => (List.mem_cons.mp hz).imp id fun h => pks.mem_iff.mp h
    refine ⟨_, rfl, n, rfl, by omega, by omega, fun D nD => ?_⟩
    obtain ⟨Dd, Dc⟩ := dr1.apart nD
    have sD := same_new (o := .lst []) nD
    refine lc_it (walk_range (lo := 0) (n := n.toNat)) (fun j H' => DrawAt H' d c ∧ Keep d c H1 H' ∧ ∃ zs : List Str, H' D = some (.lst (zs.map V.str)) ∧ zs.length = j ∧ ∀ z ∈ zs, Pl t z) ⟨dr1.mono sD, Keep.of_same sD, [], upd_same, rfl, fun z hz => by cases hz⟩ (fun _ _ _ _ => trivial) ?_ ?_
    · intro j yv Hx Hy hj ⟨da, ka, zs, hD, lz, pz⟩ ⟨eb, ey⟩
      subst eb
      subst ey
      refine ⟨rfl, ?_⟩
      refine ⟨_, rfl, _, rfl, d, c, .ref ps, (("" : Str) :: ks).length, (fun _ x => ∃ z, x = .str z ∧ z ∈ (("" : Str) :: ks)), rfl, da, .inl ⟨ps, _, rfl, psd, psc, ka ps _ psd psc hps, by rw [List.length_map], items_strs (ws := ("" : Str) :: ks) fun z hz => hz⟩, Nat.succ_pos _, by rw [List.length_cons]; omega, fun i x H6 px dr6 k6 => ?_⟩
      obtain ⟨z, rfl, mz⟩ := px
      have hD6 := k6 D _ Dd Dc hD
      exact ⟨_, hD6, by rw [List.length_map]; omega, dr6.off Dd Dc, (ka.trans k6).put nD, zs ++ [z], by rw [upd_same, List.map_append] <;> rfl, by rw [List.length_append, lz] <;> rfl, fun y hy => (List.mem_append.mp hy).elim (pz y) fun h => by rw [List.mem_singleton.mp h]; exact inPl z mz⟩
    intro H2 ⟨dr2, kp2, zs, hD2, lz, pz⟩
    have hps2 := kp2 ps _ psd psc hps
    refine ⟨_, rfl, n, rfl, by omega, by omega, fun D2 nD2 => ?_⟩
    obtain ⟨Ed, Ec⟩ := dr2.apart nD2
    have sE := same_new (o := .lst []) nD2
    have D2D : D ≠ D2 := ne_of_none hD2 nD2
    refine lc_it (walk_range (lo := 0) (n := n.toNat)) (fun j H' => DrawAt H' d c ∧ Keep d c H2 H' ∧ ∃ zs : List Str, H' D2 = some (.lst (zs.map V.str)) ∧ zs.length = j ∧ ∀ z ∈ zs, Pl t z) ⟨dr2.mono sE, Keep.of_same sE, [], upd_same, rfl, fun z hz => by cases hz⟩ (fun _ _ _ _ => trivial) ?_ ?_
    · intro j yv Hx Hy hj ⟨da, ka, ws, hD, lz, pw⟩ ⟨eb, ey⟩
      subst eb
      subst ey
      refine ⟨rfl, ?_⟩
      refine ⟨_, rfl, _, rfl, d, c, .ref ps, (("" : Str) :: ks).length, (fun _ x => ∃ z, x = .str z ∧ z ∈ (("" : Str) :: ks)), rfl, da, .inl ⟨ps, _, rfl, psd, psc, ka ps _ psd psc hps2, by rw [List.length_map], items_strs (ws := ("" : Str) :: ks) fun z hz => hz⟩, Nat.succ_pos _, by rw [List.length_cons]; omega, fun i x H6 px dr6 k6 => ?_⟩
      obtain ⟨z, rfl, mz⟩ := px
      have hD6 := k6 D2 _ Ed Ec hD
      exact ⟨_, hD6, by rw [List.length_map]; omega, dr6.off Ed Ec, (ka.trans k6).put nD2, ws ++ [z], by rw [upd_same, List.map_append] <;> rfl, by rw [List.length_append, lz] <;> rfl, fun y hy => (List.mem_append.mp hy).elim (pw y) fun h => by rw [List.mem_singleton.mp h]; exact inPl z mz⟩
    intro H3 ⟨dr3, kp3, ws, hE3, lw, pw⟩
    have kp03 : Keep d c H H3 := ((Keep.of_same s01).trans kp2).trans kp3
    have tb3 := tabs_keep tb dr kp03
    have hD3 := kp3 D _ Dd Dc hD2
    have lzn : (zs.length : Int) = n := by omega
    have lwz : ws.length = zs.length := by omega
    refine ⟨_, _, rfl, ?_⟩
    show (_ : St → Hp → Prop) [some (.ref d), some (.ref q), some (.int n), some (.bl sm), some (.ref ps), some (.ref D), some (.ref D2), none, none, none] H3
    -- the end
    have fin : ∀ (H' : Hp) (l2 : Addr) (zs' : List Str) (u7 u8 u9 : Option V), DrawAt H' d c → Tabs T H' → KeepN d c H H' → H' D = some (.lst (zs.map V.str)) → H' l2 = some (.lst (zs'.map V.str)) → zs'.length = zs.length → (∀ z ∈ zs', Pl t z) →
        tRet (tTup (tCons (tVar 5) (tCons (tVar 6) tNil))) { nx := fun _ H' => Q .non H', rt := Q } [some (.ref d), some (.ref q), some (.int n), some (.bl sm), some (.ref ps), some (.ref D), some (.ref l2), u7, u8, u9] H' := by
      intro H' l2 zs' u7 u8 u9 dr' tb' kn' h1 h2 el pl'
      refine ⟨_, rfl, _, rfl, by show 2 ≤ sizeLine; omega, fun tp ntp => ?_⟩
      have st := same_new (o := .tup [.ref D, .ref l2]) ntp
      exact k tp D l2 zs zs' _ (dr'.mono st) (tb'.ext st) (kn'.trans (Keep.of_same st).n) upd_same (st _ _ h1) (st _ _ h2) lzn el pz pl'
    refine chk_or (i := 3) (sm := sm) rfl (fun H' => DrawAt H' d c ∧ Tabs T H' ∧ Keep d c H3 H') ⟨dr3, tb3, .refl⟩ (fun Q' kq => ?_) (fun H4 ⟨dr4, tb4, kp4⟩ => ?_) (fun H4 ⟨dr4, tb4, kp4⟩ => ?_)
    · refine ⟨_, rfl, d, c, 2, rfl, dr3, by decide, by decide, fun kk H4 k0 k1 dr4 kp4 => ⟨rfl, _, rfl, kq _ H4 ⟨dr4, tabs_keep tb3 dr3 kp4, kp4⟩⟩⟩
    · have kn4 : KeepN d c H H4 := (kp03.trans kp4).n
      have hq4 := kn4.dk dr hq
      have hD4 := kp4 D _ Dd Dc hD3
      -- a best change
      refine ⟨_, rfl, fun x dx nx ndx nxd => ?_⟩
      have sN : Same H4 (upd (upd H4 dx (.own x)) x (.ins CF dx [])) := fun b u e => by
        rw [upd_ne (ne_of_none e nx), upd_ne (ne_of_none e ndx)]
        exact e
      refine ⟨x, q, dx, t, rfl, upd_same, sN _ _ hq4, o, fun H5 ts pts asc fa5 oth => ⟨rfl, _, rfl, fun y dy ny ndy nyd => ?_⟩⟩
      have s45 : Same H4 H5 := fun b u e => oth b u (ne_of_none e nx) (sN _ _ e)
      have ot : TreeOk ts := o.perm pts.symm
      have pk : (ts.map Prod.fst).Perm (t.map Prod.fst) := pts.map _
      have plTS : ∀ z ∈ zs, Pl ts z := fun z hz => (pz z hz).imp id fun m => pk.mem_iff.mpr m
      have n1' : 1 ≤ zs.length := by omega
      have n60' : zs.length ≤ 60 := by omega
      have sN1 : Same H5 (upd (upd H5 dy (.own y)) y (.ins CA dy [])) := fun b u e => by
        rw [upd_ne (ne_of_none e ny), upd_ne (ne_of_none e ndy)]
        exact e
      refine ⟨y, x, D, dy, ts, zs, rfl, upd_same, fa5.mono sN1, ot, sN1 _ _ (s45 _ _ hD4), n1', n60', plTS, fun H6 aa6 oth2 => ⟨rfl, ?_⟩⟩
      have s56 : Same H5 H6 := fun b u e => oth2 b u (ne_of_none e ny) (sN1 _ _ e)
      have s46 := s45.trans s56
      have dr6 := dr4.mono s46
      have tb6 := tb4.ext s46
      have fa6 := fa5.mono s56
      have hq6 := s46 _ _ hq4
      have hD6 := s46 _ _ hD4
      refine ⟨_, rfl, _, rfl, _, rfl, d, c, q, n, t, rfl, dr6, hq6, o, by omega, by omega, tb6, fun ql lo sl H7 plo fl frl hl7 dr7 tb7 kn7 => ?_⟩
      have aa7 := aa6.keepN dr6 kn7
      have fa7 := fa6.keepN dr6 kn7
      have hD7 := kn7 D _ Dd Dc hD6 (fun ps z => nomatch z)
      have fe' : Fea ts (zs.length : Int) sl := by rw [lzn]; exact Fea.perm pts.symm fl
      have plo' := plo.trans pk.symm
      refine ⟨y, x, .ref ql, ts, zs, some (tblI lo sl), rfl, aa7, fa7, ot, plTS, n1', n60', sz_tbl hl7, ?_⟩
      rw [fe'.ok plo']
      refine fun y2 H8 zs' s78 ny2 ab8 bo => ?_
      have B := best_all ot plo' plTS bo
      obtain ⟨d2, p2', hy2, hp2'⟩ := id ab8
      refine ⟨y2, d2, _, rfl, hy2, y2, x, zs', rfl, ab8, fun pt npt => ?_⟩
      have s89 := same_new (o := .lst (zs'.map V.str)) npt
      have dr9 := (dr7.mono s78).mono s89
      have tb9 := (tb7.ext s78).ext s89
      obtain ⟨ptd, ptc⟩ := (dr7.mono s78).apart npt
      have kn8 : KeepN d c H H8 := ((kn4.trans (Keep.of_same s46).n).trans kn7).trans (Keep.of_same s78).n
      have kn9 : KeepN d c H (upd H8 pt (.lst (zs'.map V.str))) := kn8.trans (Keep.of_same s89).n
      have Dpt : D ≠ pt := ne_of_none (s78 _ _ hD7) npt
      have plT : ∀ z ∈ zs', Pl t z := fun z hz => (B.pl z hz).imp id fun m => pk.mem_iff.mp m
      have ptH : ∀ {b : Addr} {u : HO}, b ≠ d → b ≠ c → H b = some u → (∀ ps, u ≠ .tbl ps) → b ≠ pt := fun n1 n2 e nt => ne_of_none (kn8 _ _ n1 n2 e nt) npt
      -- a few exchanged
      refine ⟨_, rfl, d, c, 3, rfl, dr9, by decide, by decide, fun kk H10 k0 k1 dr10 kp10 => ⟨kk, rfl, by omega, by omega, ?_⟩⟩
      have hpt10 := kp10 pt _ ptd ptc upd_same
      refine for_it (walk_range (lo := 0) (n := kk.toNat)) (fun j σ' H' => (∃ u7 u8 u9, σ' = [some (.ref d), some (.ref q), some (.int n), some (.bl sm), some (.ref ps), some (.ref D), some (.ref pt), u7, u8, u9]) ∧ DrawAt H' d c ∧ Tabs T H' ∧ KeepN d c H H' ∧ H' D = some (.lst (zs.map V.str)) ∧ ∃ vs : List Str, H' pt = some (.lst (vs.map V.str)) ∧ vs.length = zs.length ∧ ∀ z ∈ vs, Pl t z)
        ⟨⟨_, _, _, rfl⟩, dr10, tabs_keep tb9 dr9 kp10, kn9.trans kp10.n, kp10 D _ Dd Dc (s89 _ _ (s78 _ _ hD7)), zs', hpt10, B.len, plT⟩ (fun _ _ _ _ _ => trivial) ?_ ?_
      · intro j xj σ' Ha Hb hj ⟨⟨u7, u8, u9, eσ⟩, da, ta, ka, hDa, vs, hv, lv, pv'⟩ ⟨e1, e2⟩
        subst eσ
        subst e1
        subst e2
        refine ⟨_, rfl, _, rfl, d, c, n, rfl, da, by omega, by omega, fun i1 H11 i10 i11 d11 k11 => ?_⟩
        refine ⟨_, rfl, _, rfl, d, c, n, rfl, d11, by omega, by omega, fun i2 H12 i20 i21 d12 k12 => ⟨_, _, rfl, ?_⟩⟩
        have kk12 := k11.trans k12
        have hv12 := kk12 pt _ ptd ptc hv
        have hD12 := kk12 D _ Dd Dc hDa
        have lt1 : i1.toNat < vs.length := by omega
        have lt2 : i2.toNat < vs.length := by omega
        have g1 : vs[i1.toNat]? = some vs[i1.toNat] := List.getElem?_eq_getElem lt1
        have g2 : vs[i2.toNat]? = some vs[i2.toNat] := List.getElem?_eq_getElem lt2
        obtain ⟨a1, ea1⟩ : ∃ a1, a1 = vs[i1.toNat] := ⟨_, rfl⟩
        obtain ⟨a2, ea2⟩ : ∃ a2, a2 = vs[i2.toNat] := ⟨_, rfl⟩
        rw [← ea1] at g1
        rw [← ea2] at g2
        have at1 : atI (vs.map V.str) i1 = some (.str a1) := by
          rw [show i1 = ((i1.toNat : Nat) : Int) by omega]
          exact atI_nat (by rw [List.getElem?_map, g1] <;> rfl)
        have at2 : atI (vs.map V.str) i2 = some (.str a2) := by
          rw [show i2 = ((i2.toNat : Nat) : Int) by omega]
          exact atI_nat (by rw [List.getElem?_map, g2] <;> rfl)
        refine ⟨_, rfl, _, rfl, pt, _, _, _, rfl, rfl, SqL.of hv12, at2, _, rfl, _, rfl, pt, _, _, _, rfl, rfl, SqL.of hv12, at1, by show 2 ≤ sizeLine; omega, fun tq ntq => ?_⟩
        have sq := same_new (o := .tup [.str a2, .str a1]) ntq
        refine ⟨tq, _, rfl, .inl (.inl upd_same), rfl, _, _, rfl, _, rfl, _, rfl, pt, _, i1, i1.toNat, rfl, rfl, sq _ _ hv12, ?_, _, _, rfl, _, rfl, _, rfl, pt, _, i2, i2.toNat, rfl, rfl, upd_same, ?_, rfl, ?_⟩
        · rw [show i1 = ((i1.toNat : Nat) : Int) by omega]
          exact ixN_nat (by rw [List.length_map]; exact lt1)
        · rw [show i2 = ((i2.toNat : Nat) : Int) by omega]
          exact ixN_nat (by rw [List.length_set, List.length_map]; exact lt2)
        have m1 : a1 ∈ vs := List.mem_of_getElem? g1
        have m2 : a2 ∈ vs := List.mem_of_getElem? g2
        have dr13 := (d12.mono sq)
        have tb13 := (tabs_keep ta da kk12).ext sq
        have kn12 : KeepN d c H (upd H12 tq (.tup [.str a2, .str a1])) := (ka.trans kk12.n).trans (Keep.of_same sq).n
        refine ⟨⟨_, _, _, rfl⟩, (dr13.off ptd ptc).off ptd ptc, tabs_put (tabs_put tb13 (sq _ _ hv12) NTab.lst) upd_same NTab.lst, fun b u n1 n2 e nt => ?_, ?_, (vs.set i1.toNat a2).set i2.toNat a1, ?_, ?_, fun z hz => ?_⟩
        · have bp := ptH n1 n2 e nt
          rw [upd_ne bp, upd_ne bp]
          exact kn12 b u n1 n2 e nt
        · rw [upd_ne Dpt, upd_ne Dpt]
          exact sq _ _ hD12
        · rw [upd_same, List.map_set, List.map_set]
        · rw [List.length_set, List.length_set]
          exact lv
        · rcases List.mem_or_eq_of_mem_set hz with h | h
          · rcases List.mem_or_eq_of_mem_set h with h | h
            · exact pv' z h
            · rw [h]
              exact pv' _ m2
          · rw [h]
            exact pv' _ m1
      · intro σ' H13 ⟨⟨u7, u8, u9, eσ⟩, da, ta, ka, hDa, vs, hv, lv, pv'⟩
        subst eσ
        exact fin H13 pt vs u7 u8 u9 da ta ka hDa hv lv pv'
    · exact fin H4 D2 ws none none none dr4 tb4 (kp03.trans kp4).n (kp4 D _ Dd Dc hD3) (kp4 D2 _ Ed Ec hE3) lwz pw
end
end FT


/-! _law_other_parents: a tree with another parent -/
namespace FT
open PySem L2 TL ClX LiI
def setP (t : List (Str × Str)) (a z : Str) : List (Str × Str) := t.map fun p => if p.1 = a then (p.1, z) else p
theorem setP_keys (t : List (Str × Str)) (a z : Str) : (setP t a z).map Prod.fst = t.map Prod.fst := by
  unfold setP
  rw [List.map_map]
  refine List.map_congr_left fun p _ => ?_
  show (if p.1 = a then (p.1, z) else p).1 = p.1
  split <;> rfl
theorem setP_mem {t : List (Str × Str)} {a z : Str} {q : Str × Str} (h : q ∈ setP t a z) : q ∈ t ∨ (q.1 = a ∧ q.2 = z ∧ q.1 ∈ t.map Prod.fst) := by
  obtain ⟨p, hp, rfl⟩ := List.mem_map.mp h
  by_cases e : p.1 = a
  · rw [if_pos e]
    exact .inr ⟨e, rfl, List.mem_map.mpr ⟨p, hp, rfl⟩⟩
  · rw [if_neg e]
    exact .inl hp
theorem put_prs {t : List (Str × Str)} {a z : Str} (h : a ∈ t.map Prod.fst) : putK (prs t) (Sum.inr a) (.str z) = prs (setP t a z) := by
  unfold prs
  rw [kvT_putT]
  unfold putT
  rw [if_pos (by rw [prs_fst]; exact h)]
  unfold setP
  rw [List.map_map, List.map_map]
  congr 1
  refine List.map_congr_left fun p _ => ?_
  show (if p.1 = a then (p.1, V.str z) else (p.1, V.str p.2)) = ((if p.1 = a then (p.1, z) else p).1, V.str (if p.1 = a then (p.1, z) else p).2)
  split <;> rfl
theorem setP_root {t : List (Str × Str)} (o : TreeOk t) (a : Str) : TreeOk (setP t a "") := by
  obtain ⟨rk, r⟩ := o.up
  have l : (setP t a "").length = t.length := List.length_map _
  refine ⟨by rw [l]; exact o.one, by rw [l]; exact o.few, by rw [setP_keys]; exact o.nd, by rw [setP_keys]; exact o.nm, rk, fun q hq => ?_⟩
  rw [l, setP_keys]
  rcases setP_mem hq with h | ⟨_, h2, h3⟩
  · exact r q h
  · obtain ⟨p, hp, e⟩ := List.mem_map.mp h3
    rw [← e]
    exact ⟨(r p hp).1, .inl h2⟩
theorem setP_flat {t : List (Str × Str)} (o : TreeOk t) (flat : ∀ q ∈ t, q.2 = ("" : Str)) {a b : Str} (ha : a ∈ t.map Prod.fst) (ne : a ≠ b) (two : 2 ≤ t.length) : TreeOk (setP t b a) := by
  have l : (setP t b a).length = t.length := List.length_map _
  refine ⟨by rw [l]; exact o.one, by rw [l]; exact o.few, by rw [setP_keys]; exact o.nd, by rw [setP_keys]; exact o.nm, fun x => if x = b then 1 else 0, fun q hq => ?_⟩
  rw [l, setP_keys]
  refine ⟨by show (if q.1 = b then 1 else 0) < t.length; split <;> omega, ?_⟩
  rcases setP_mem hq with h | ⟨h1, h2, h3⟩
  · exact .inl (flat q h)
  · refine .inr ⟨by rw [h2]; exact ha, ?_⟩
    show (if q.2 = b then 1 else 0) < (if q.1 = b then 1 else 0)
    rw [h1, h2, if_neg ne, if_pos rfl]
    decide
def spOtherP : Sp := fun vs H Q _ => ∃ (q : Addr) (t : List (Str × Str)), vs = [.ref q] ∧ H q = some (.dK (prs t)) ∧ TreeOk t ∧ (∀ H', Same H H' → Q .non H') ∧
  ∀ (p : Addr) (t' : List (Str × Str)) (H' : Hp), Same H H' → H p = none → H' p = some (.dK (prs t')) → TreeOk t' → eqDK (prs t') (prs t) = false → Q (.ref p) H'
section
variable {P : Program} {w : World} {K : PySem.W.Frag} {mg : Str → Option Value} {base : Heap}
abbrev NOp : List Str := ["_law_above", "_law_found", "_law_names_here", "_law_lower", "_law_name"]
theorem scOp : FnScope NOp ["_law_above"] (defScope s__law_other_parents) := ⟨rfl, rfl, rfl, by decide +kernel, rfl, by decide +kernel, by decide +kernel⟩
theorem ok_otherP {f : Addr} {fd : FuncData} (F : Fun K "_law_other_parents" "_law_other_parents" s__law_other_parents f fd) (T : Nm mg) : FnOk P w K mg base CX0 1 f fd ["_law_above"] spOtherP := by
  refine F.ok scOp (fun vs H Q E h => ?_) (fun cdv A outer s H vs Q E hr h => ?_)
  · obtain ⟨q, t, rfl, _⟩ := h
    rfl
  · obtain ⟨q, t, rfl, hq, o, kn, kp⟩ := h
    have hu := hu_of hr
    have nd := scOp.nd
    have big : 1000 ≤ sizeLine := by decide
    have few := o.few
    refine ⟨_, pss_cons (ps_par (i := 1) (j := 2) rfl nd rfl rfl (by decide) rfl rfl (pa_cons (pe_callTy call_dictD (by rfl) T.dct (by decide +kernel) (pa_cons (pv 0) pa_nil)) (pa_cons (pe_callB (call_sortedD rfl) (by rfl) T.srt (by decide +kernel) (pa_cons (pv 0) pa_nil)) pa_nil)) (by rfl))
      (pss_cons (ps_setLc (i := 3) (own := [("_law_name", 4)]) (g := gName 4) (tt := tTest (tOp rNe (tDGet (tVar 0) (tVar 4)) (tC (.str "")))) (te := tVar 4) rfl nd rfl rfl (sw_true rfl rfl rfl (by decide +kernel)) (pi_list (pv 2))
          (blkOk_by (N := NOp) (sc := defScope s__law_other_parents) (by decide +kernel)) (fun _ _ _ _ _ => pg_name (i := 4) nd rfl (Or.inl rfl)) (fun _ _ _ _ _ => pts_one (pt_cmpR op_ne (pe_dget hu (pv 0) (pv 4) (fun _ _ => rfl)) pe_str (nomark _))) (fun _ _ _ _ _ => pv 4))
      (pss_cons (ps_if (pt_cmpR (op_neD hr.units) (pv 3) (pe_lst pa_nil) (nomark _)) (pss_one (ps_dput hu (pv 1) (pe_ix ix_list (pv 3) pe_int (fun _ _ => rfl)) pe_str rfl))
          (pss_one (ps_if (pt_cmpR op_gt (pe_callB call_len_seq (by rfl) T.len PySem.boot_len (pa_cons (pv 2) pa_nil)) pe_int (nomark _)) (pss_one (ps_dput hu (pv 1) (pe_ix ix_list (pv 2) pe_int (fun _ _ => rfl)) (pe_ix ix_list (pv 2) pe_int (fun _ _ => rfl)) rfl)) pss_nil)))
      (pss_one (ps_ret (pe_ifExp (pt_cmpR (op_ne_dictC (Nat.lt_of_succ_lt hu)) (pv 1) (pv 0) (nomark _)) (pv 1) pe_non))))), ?_⟩
    refine ⟨_, rfl, q, _, rfl, .inl hq, fun pf npf => ?_⟩
    have s1 := same_new (o := .dK (prs t)) npf
    refine ⟨_, rfl, q, prs t, t.map Prod.fst, rfl, .inl (s1 _ _ hq), prs_keys t, by rw [List.length_map]; omega, fun ks pn pks srt npn => ⟨_, _, rfl, ?_⟩⟩
    have s2 := same_new (o := .lst (ks.map V.str)) npn
    have lks := pks.length_eq
    rw [List.length_map] at lks
    obtain ⟨H2, e2⟩ : ∃ X, X = upd (upd H pf (.dK (prs t))) pn (.lst (ks.map V.str)) := ⟨_, rfl⟩
    have s02 : Same H H2 := e2 ▸ s1.trans s2
    have hpf2 : H2 pf = some (.dK (prs t)) := by rw [e2]; exact s2 _ _ upd_same
    have hpn2 : H2 pn = some (.lst (ks.map V.str)) := by rw [e2]; exact upd_same
    have hq2 := s02 _ _ hq
    rw [← e2]
    clear e2
    have fin : ∀ (H' : Hp) (t' : List (Str × Str)) (u3 u4 : Option V), Same H H' → H' pf = some (.dK (prs t')) → TreeOk t' → tRet (tIf (tTest (tOp rNeDC (tVar 1) (tVar 0))) (tVar 1) (tC .non)) { nx := fun _ H' => Q .non H', rt := Q } [some (.ref q), some (.ref pf), some (.ref pn), u3, u4] H' := by
      intro H' t' u3 u4 s' hp o'
      refine ⟨_, rfl, _, rfl, pf, q, _, _, rfl, rfl, hp, s' _ _ hq, prs_flat _, prs_flat _, _, rfl, ?_⟩
      cases e : eqDK (prs t') (prs t) with
      | false => exact iteT ⟨_, rfl, kp pf t' H' s' npf hp o' e⟩
      | true => exact iteF (kn H' s')
    -- the lower ones
    refine ⟨_, rfl, pn, rfl, ⟨_, SqL.of hpn2⟩, fun D nD => ?_⟩
    obtain ⟨lows, elo⟩ : ∃ lows : List Str → List Str, lows = fun l => l.filter fun b => !decide (par t b = some ("" : Str)) := ⟨_, rfl⟩
    have lowl : ∀ l : List Str, l.length ≤ 12 → (lows l).length ≤ 12 := fun l h => by
      rw [elo]
      exact Nat.le_trans (List.length_filter_le _ _) h
    refine lc_it walk_list (fun j H' => Same H2 H' ∧ H' D = some (.lst ((lows (ks.take j)).map V.str))) ⟨same_new nD, by rw [upd_same, List.take_zero, elo] <;> rfl⟩ (fun j H' _ z => SqL.of (z.1 _ _ hpn2)) ?_ ?_
    · intro j yv Hx Hy hj ⟨q1, hD⟩ ⟨eb, ex⟩
      subst eb
      obtain ⟨b, hb, rfl⟩ := map_of (f := V.str) (l := ks) ex
      have mb := pks.mem_iff.mp (List.mem_of_getElem? hb)
      obtain ⟨p, hpar⟩ := par_some o.nd mb
      have nxt := take_more hb
      refine ⟨rfl, ?_⟩
      refine ⟨_, rfl, _, rfl, q, .str p, rfl, dget_prs (.inl (q1 _ _ hq2)) hpar, rfl, _, rfl, ?_⟩
      by_cases e : p = ""
      · rw [decide_eq_true (show V.str p = V.str "" by rw [e])]
        refine iteF ⟨q1, ?_⟩
        rw [hD, nxt, elo]
        show _ = some (HO.lst ((List.filter _ _).map V.str))
        rw [List.filter_append, List.filter_cons, decide_eq_true (by rw [hpar, e]), List.filter_nil, if_neg (by decide), List.append_nil]
      · rw [decide_eq_false (show ¬ V.str p = V.str "" from fun z => e (V.str.inj z))]
        refine iteT ⟨_, rfl, _, hD, ?_, q1.put nD, ?_⟩
        · rw [List.length_map]
          have := lowl (ks.take j) (by rw [List.length_take]; omega)
          omega
        · rw [upd_same, nxt, elo]
          show _ = some (HO.lst ((List.filter _ _).map V.str))
          rw [List.filter_append, List.map_append, List.filter_cons, decide_eq_false (by rw [hpar]; exact fun z => e (Option.some.inj z)), List.filter_nil] <;> rfl
    intro H3 ⟨q1, hD⟩
    rw [List.length_map, List.take_length] at hD
    have hpf3 := q1 _ _ hpf2
    have hpn3 := q1 _ _ hpn2
    have s03 := s02.trans q1
    have okl : ∀ z ∈ lows ks, z ∈ t.map Prod.fst := fun z hz => by
      rw [elo] at hz
      exact pks.mem_iff.mp (List.mem_filter.mp hz).1
    refine ⟨_, rfl, by show 0 ≤ sizeLine; omega, fun z nz => ⟨.list ((lows ks).map PyData.str), .list [], .lst (SqL.of (by rw [upd_ne (ne_of_none hD nz)]; exact hD)) (dps_strs _), .lst (SqL.of upd_same) .nil, strs_shaped (fun z hz => strOk_name (o.nm _ (okl z hz))), rfl, ?_⟩⟩
    have sz := same_new (o := .lst []) nz
    obtain ⟨H4, e4⟩ : ∃ X, X = upd H3 z (.lst []) := ⟨_, rfl⟩
    have s34 : Same H3 H4 := e4 ▸ sz
    have s04 := s03.trans s34
    have hpf4 := s34 _ _ hpf3
    have hpn4 := s34 _ _ hpn3
    have hD4 := s34 _ _ hD
    rw [← e4]
    clear e4
    have putS : ∀ {o : HO}, Same H (upd H4 pf o) := fun {o} => s04.put npf
    refine ⟨_, rfl, ite2 (fun yes => ?_) (fun no => ?_)⟩
    · have ne : lows ks ≠ [] := fun z => by rw [z] at yes; cases yes
      obtain ⟨b, bs, eb⟩ := List.exists_cons_of_ne_nil ne
      have mb := okl b (by rw [eb]; exact List.mem_cons_self ..)
      rw [eb] at hD4
      refine ⟨_, rfl, _, rfl, D, _, _, .str b, rfl, rfl, SqL.of hD4, atI_nat (xs := (b :: bs).map V.str) (j := 0) rfl, pf, _, rfl, DPut.k (k := Sum.inr b) hpf4 (by rw [prs_len]; omega), ?_⟩
      rw [put_prs mb]
      exact fin _ (setP t b "") _ none putS upd_same (setP_root o b)
    · have nil : lows ks = [] := by
        cases e : lows ks with
        | nil => rfl
        | cons y r =>
          rw [e] at no
          exact absurd rfl no
      have flat : ∀ p ∈ t, p.2 = ("" : Str) := fun p hp => by
        have m : p.1 ∈ ks := pks.mem_iff.mpr (List.mem_map.mpr ⟨p, hp, rfl⟩)
        have hpar := par_of o.nd (a := p.1) (z := p.2) hp
        rw [elo] at nil
        have z := List.filter_eq_nil_iff.mp nil p.1 m
        rw [hpar] at z
        by_cases e : p.2 = ""
        · exact e
        · exact absurd (by rw [decide_eq_false fun y => e (Option.some.inj y)] <;> rfl) z
      refine ⟨_, rfl, pn, _, rfl, .inl (SqL.of hpn4), _, _, rfl, rfl, _, rfl, ite2 (fun two => ?_) (fun one => ?_)⟩
      · have two : 1 < ks.length := by
          have z := of_decide_eq_true two
          rw [List.length_map] at z
          omega
        match ks, two, pks, lks, hpn4 with
        | a :: b :: r, _, pks, lks, hpn4 =>
          have ndk : (a :: b :: r).Nodup := pks.nodup_iff.mpr o.nd
          have ne : a ≠ b := fun z => by
            subst z
            exact (List.nodup_cons.mp ndk).1 (List.mem_cons_self ..)
          have ma := pks.mem_iff.mp (List.mem_cons_self ..)
          have mb := pks.mem_iff.mp (List.mem_cons_of_mem _ (List.mem_cons_self ..))
          have l2 : 2 ≤ t.length := by
            rw [← lks]
            show 2 ≤ r.length + 1 + 1
            omega
          refine ⟨_, rfl, pn, _, _, .str a, rfl, rfl, SqL.of hpn4, atI_nat (xs := (a :: b :: r).map V.str) (j := 0) rfl, _, rfl, _, rfl, pn, _, _, .str b, rfl, rfl, SqL.of hpn4, atI_nat (xs := (a :: b :: r).map V.str) (j := 1) rfl, pf, _, rfl, DPut.k (k := Sum.inr b) hpf4 (by rw [prs_len]; omega), ?_⟩
          rw [put_prs mb]
          exact fin _ (setP t b a) _ none putS upd_same (setP_flat o flat ma ne l2)
      · exact fin H4 t _ none s04 hpf4 o
end
end FT


/-! rows of a flag and two numbers as data -/
namespace FT
open PySem L2 TL ClX LiI
def rowD (g l : Str → Int) (a : Str) : PyData := .tuple [.str a, .tuple [.int (g a), .int (l a)]]
theorem int_small : ∀ k : Fin 101, (PyData.shown (.int ((k.1 : Nat) : Int))).length ≤ 8 ∧ PyData.showable (.int ((k.1 : Nat) : Int)) = true := by decide +kernel
theorem int_small' {u : Int} (h0 : 0 ≤ u) (h1 : u ≤ 100) : (PyData.shown (.int u)).length ≤ 8 ∧ PyData.showable (.int u) = true := by
  have h := int_small ⟨u.toNat, by omega⟩
  rw [show ((u.toNat : Nat) : Int) = u by omega] at h
  exact h
theorem str_leaf8 {z : Str} (h : PyData.strOk z = true) : PyData.leavesShort 8 (.str z) = true := by
  unfold PyData.leavesShort
  rw [List.all_eq_true]
  unfold PyData.strOk at h
  intro c hc
  have h := Array.all_eq_true_iff_forall_mem.mp h c (Array.mem_toList_iff.mp hc)
  have h := of_decide_eq_true h
  exact decide_eq_true (by omega)
theorem rows_show {g l : Str → Int} (hg : ∀ a, 0 ≤ g a ∧ g a ≤ 100) (hl : ∀ a, 0 ≤ l a ∧ l a ≤ 100) : ∀ {ks : List Str}, (∀ a ∈ ks, NameL a) → PyData.showableAll (ks.map (rowD g l)) = true ∧ PyData.leavesShortAll 8 (ks.map (rowD g l)) = true ∧ PyData.depthAll (ks.map (rowD g l)) ≤ 2 ∧ PyData.bulkAll (ks.map (rowD g l)) ≤ 20 * ks.length ∧ PyData.hasDictAll (ks.map (rowD g l)) = false ∧ PyData.canLayAll0 (ks.map (rowD g l)) = true
  | [], _ => ⟨rfl, rfl, Nat.zero_le _, Nat.zero_le _, rfl, rfl⟩
  | a :: ks, h => by
    obtain ⟨h1, h2, h3, h4, h5, h6⟩ := rows_show hg hl (ks := ks) fun v hv => h v (List.mem_cons_of_mem _ hv)
    have na := h a (List.mem_cons_self ..)
    obtain ⟨g1, g2⟩ := int_small' (hg a).1 (hg a).2
    obtain ⟨l1, l2⟩ := int_small' (hl a).1 (hl a).2
    have sa := strOk_name na
    refine ⟨?_, ?_, ?_, ?_, ?_, ?_⟩
    · show ((true && ((PyData.showable (.int (g a)) && (PyData.showable (.int (l a)) && true)) && true)) && PyData.showableAll (ks.map (rowD g l))) = true
      rw [g2, l2, h1] <;> rfl
    · show ((PyData.leavesShort 8 (.str a) && ((decide ((PyData.shown (.int (g a))).length ≤ 8) && (decide ((PyData.shown (.int (l a))).length ≤ 8) && true)) && true)) && PyData.leavesShortAll 8 (ks.map (rowD g l))) = true
      rw [str_leaf8 sa, decide_eq_true g1, decide_eq_true l1, h2] <;> rfl
    · show max 2 (PyData.depthAll (ks.map (rowD g l))) ≤ 2
      omega
    · show (a.cps.size + 1 + ((0 + 1 + (0 + 1 + 0)) + 1 + 0)) + 1 + PyData.bulkAll (ks.map (rowD g l)) ≤ 20 * (a :: ks).length
      have : a.cps.size = a.length := rfl
      have := na.len.2
      rw [List.length_cons]
      omega
    · show (false || PyData.hasDictAll (ks.map (rowD g l))) = false
      rw [h5] <;> rfl
    · show ((PyData.strOk a && (true && true)) && PyData.canLayAll0 (ks.map (rowD g l))) = true
      rw [sa, h6] <;> rfl
/-- a list of rows as data -/
theorem rows_dps {K : PySem.W.Frag} {H : Hp} {g l : Str → Int} : ∀ {rs : List Addr} {ks : List Str}, Paired (RowAt H g l) rs ks → DpAll K H (rs.map V.ref) (ks.map (rowD g l))
  | [], [], .nil => .nil
  | r :: rs, a :: ks, .cons ⟨s, h1, h2⟩ t => .cons (.tup (SqT.of h1) (.cons (.str _) (.cons (.tup (SqT.of h2) (.cons (.int _) (.cons (.int _) .nil))) .nil))) (rows_dps t)
theorem newU_le {t : List (Str × Str)} {zs zs' : List Str} {a : Str} (el : zs.length = zs'.length) : newU (hasU t zs a) (hasU t zs' a) ≤ zs.length := by
  rw [newU_cnt el]
  unfold cntB
  have := List.length_filter_le (fun i => hasC t zs' a i && !hasC t zs a i) (List.range zs.length)
  rw [List.length_range] at this
  omega
theorem rows_fit {g l : Str → Int} (hg : ∀ a, 0 ≤ g a ∧ g a ≤ 100) (hl : ∀ a, 0 ≤ l a ∧ l a ≤ 100) {ks : List Str} (h : ∀ a ∈ ks, NameL a) (few : ks.length ≤ 12) : (PyData.list (ks.map (rowD g l))).hasDict = false ∧ (PyData.list (ks.map (rowD g l))).showable = true ∧ (PyData.list (ks.map (rowD g l))).depth ≤ 60 ∧ (PyData.list (ks.map (rowD g l))).shown.length ≤ sizeLine ∧ SeqAt.shaped (.list (ks.map (rowD g l))) = true := by
  obtain ⟨h1, h2, h3, h4, h5, h6⟩ := rows_show hg hl h
  refine ⟨h5, h1, by show PyData.depthAll (ks.map (rowD g l)) + 1 ≤ 60; omega, PyData.shown_fits_bulk (B := 8) (by decide) (by decide) h2 ?_, ?_⟩
  · show PyData.bulkAll (ks.map (rowD g l)) ≤ 2 ^ 20
    omega
  · unfold SeqAt.shaped
    have c : (PyData.list (ks.map (rowD g l))).canLay0 = true := h6
    rw [c]
    have d : (PyData.list (ks.map (rowD g l))).depth ≤ 64 := by
      show PyData.depthAll _ + 1 ≤ 64
      omega
    rw [decide_eq_true d] <;> rfl
/-- the pairs of a table as rows -/
theorem rows_items {H : Hp} {g l : Str → Int} {r : Str → Addr} : ∀ {ts : List Addr} {ks : List Str}, Paired (fun (t : Addr) (q : Key × V) => H t = some (.tup [kV q.1, q.2])) ts (kvT (ks.map fun a => (a, V.ref (r a)))) → (∀ a ∈ ks, H (r a) = some (.tup [.int (g a), .int (l a)])) → Paired (RowAt H g l) ts ks
  | [], [], _, _ => .nil
  | t :: ts, a :: ks, .cons h p, hr => .cons ⟨r a, h, hr a (List.mem_cons_self ..)⟩ (rows_items p fun b hb => hr b (List.mem_cons_of_mem _ hb))
end FT


/-! two keywords, turned; defs that get a lambda -/
namespace FT
open PySem L2 TL ClX
def turn2 {α : Type} : List α → List α
  | [a, b] => [b, a]
  | l => l
theorem turn2_rel {vs : List V} {us : List Value} (r : Vals vs us) : Vals (turn2 vs) (turn2 us) := by
  cases r with
  | nil => exact .nil
  | cons a r =>
    cases r with
    | nil => exact .cons a .nil
    | cons b r =>
      cases r with
      | nil => exact .cons b (.cons a .nil)
      | cons c r => exact .cons a (.cons b (.cons c r))
abbrev tn2 (α : Type) : List α → List α → List α := fun _ ws => turn2 ws
theorem kw2 {K : PySem.W.Frag} {x qual a b : Str} {st : Stmt} {f : Addr} {fd : FuncData} {ps : List Str} (F : L2.Fun K x qual st f fd)
    (h : ∀ (kV doc pm : Value) (an : Option Addr) (cdv ct u v : Value), bindArgs (PySem.W.fnOf x qual (defArgs st) (defBody st) (defScope st) .none kV doc pm an cdv ct) ⟨[], [(a, u), (b, v)]⟩ = pure (ps.zip [v, u])) :
    KBn K fd ps 0 [a, b] (tn2 Value) (tn2 V) := by
  obtain ⟨oc, od, kV, doc, pm, an, cdv, ct, osl, rfl, lk, hcd⟩ := F.ex
  refine ⟨fun s us ws _ h1 h2 => ?_, fun _ r => turn2_rel r⟩
  match us, ws, h1, h2 with
  | [], [u, v], _, _ => exact .of_eq (h kV doc pm an cdv ct u v)
/-- the two defs that get a lambda -/
structure Ge (K : PySem.W.Frag) (mg : Str → Option Value) (x : Str) (st : Stmt) (f : Addr) (fd : FuncData) : Prop where
  fn : Fun K x x st f fd
  bn : Binds K fd ["_law_work"] []
  mgn : mg x = some (.ref f)
end FT


/-! a best change stands for any feasible sizes (plain maths) -/
namespace FT
open PySem L2 TL ClX
theorem topo_exists {ts : List (Str × Str)} (o : TreeOk ts) (c : Str → Int) : ∃ ds : List Str, ds.Perm (pls ts) ∧ Topo ts c ds := by
  refine ⟨(pls ts).mergeSort fun a b => decide (lvl ts c a ≤ lvl ts c b), List.mergeSort_perm _ _, ?_⟩
  have pw := List.pairwise_mergeSort (le := fun a b => decide (lvl ts c a ≤ lvl ts c b)) (fun a b d h1 h2 => by
    rw [decide_eq_true_eq] at h1 h2 ⊢
    omega) (fun a b => by
    rw [Bool.or_eq_true, decide_eq_true_eq, decide_eq_true_eq]
    omega) (pls ts)
  obtain ⟨ds, eds⟩ : ∃ ds, ds = (pls ts).mergeSort fun a b => decide (lvl ts c a ≤ lvl ts c b) := ⟨_, rfl⟩
  have pm : ds.Perm (pls ts) := by rw [eds]; exact List.mergeSort_perm _ _
  rw [← eds] at pw ⊢
  intro i p hp q pos
  have lt := lvl_up o pos
  have mq : q ∈ ds := pm.mem_iff.mpr (mem_pls.mpr (lv_adj o pos).1)
  obtain ⟨j, hj⟩ := List.mem_iff_getElem?.mp mq
  obtain ⟨li, ei⟩ := List.getElem?_eq_some_iff.mp hp
  obtain ⟨lj, ej⟩ := List.getElem?_eq_some_iff.mp hj
  by_cases ji : j < i
  · rw [List.mem_take_iff_getElem]
    exact ⟨j, by omega, ej⟩
  · exfalso
    by_cases e : j = i
    · subst e
      have : p = q := by rw [← ei, ← ej]
      rw [this] at lt
      omega
    · have z := List.pairwise_iff_getElem.mp pw i j li lj (by omega)
      rw [ei, ej, decide_eq_true_eq] at z
      omega
theorem best_exists {ts : List (Str × Str)} {zs : List Str} {s : Str → Int} (o : TreeOk ts) (pl : ∀ z ∈ zs, Pl ts z) (f : Fea ts (zs.length : Int) s) : ∃ W, Best ts s zs W := by
  obtain ⟨c, ec⟩ : ∃ c : Str → Int, c = fun a => s a - szZ ts zs a := ⟨_, rfl⟩
  obtain ⟨ds, pds, top⟩ := topo_exists o c
  have hV0 := atU_val o pl
  have mv : MovedP ts c (atU zs) (mvA (crs c ts) (atU zs) ds) := by
    refine best_moved o pds top (lsz_lens o (val_len hV0)) fun p hp => ?_
    rw [resid_congr (sz' := s) (fun a ha => by rw [atU_lsz o pl ha, ec]; show szZ ts zs a + (s a - szZ ts zs a) = _; omega) (by
      by_cases e : p = ""
      · exact .inl e
      · have ha := hp.resolve_left e
        exact .inr (by rw [atU_lsz o pl ha, ec]; show szZ ts zs p + (s p - szZ ts zs p) = _; omega))]
    exact f.res p (mem_pls.mpr hp)
  have b : BestOf ts c zs ((usr zs.length).map (plOf ts (mvA (crs c ts) (atU zs) ds))) := ⟨_, mv, movedP_val o mv hV0, rfl⟩
  have sz : ∀ a ∈ ts.map Prod.fst, szZ ts ((usr zs.length).map (plOf ts (mvA (crs c ts) (atU zs) ds))) a = s a := fun a ha => by
    rw [best_sizes o pl b ha, ec]
    show szZ ts zs a + (s a - szZ ts zs a) = s a
    omega
  exact ⟨_, best_len b, best_pl b, sz, fun a ha => by rw [(alone_one (best_len b).symm).mpr (best_one o pl b a), sz a ha]⟩
end FT


/-! plain facts for k08 -/
namespace FT
open PySem L2 TL ClX LiI
theorem perm_sub {α : Type} [DecidableEq α] : ∀ {a b : List α}, a.Nodup → (∀ x ∈ a, x ∈ b) → b.length ≤ a.length → a.Perm b
  | [], b, _, _, l => by
    have : b = [] := List.length_eq_zero_iff.mp (by simpa using l)
    rw [this]
  | x :: a, b, nd, h, l => by
    obtain ⟨n1, n2⟩ := List.nodup_cons.mp nd
    have mx := h x (List.mem_cons_self ..)
    refine List.Perm.trans ?_ (List.perm_cons_erase mx).symm
    refine List.Perm.cons x (perm_sub n2 (fun y hy => ?_) ?_)
    · exact (List.mem_erase_of_ne fun e => n1 (by rw [← e]; exact hy)).mpr (h y (List.mem_cons_of_mem _ hy))
    · rw [List.length_erase_of_mem mx]
      rw [List.length_cons] at l
      omega
theorem nd_pairs {t : List (Str × Str)} (nd : (t.map Prod.fst).Nodup) : t.Nodup := by
  rw [List.nodup_iff_pairwise_ne] at nd ⊢
  exact (List.pairwise_map.mp nd).imp fun h e => h (by rw [e])
theorem rowEq_prs {t : List (Str × Str)} (a z : Str) : rowEq (prs t) (Sum.inr a, V.str z) = decide (par t a = some z) := by
  unfold rowEq
  show (match valV (prs t) (Sum.inr a) with | some u => eqV (.str z) u | none => false) = _
  rw [val_prs]
  cases h : par t a with
  | none => rfl
  | some p =>
    show eqV (.str z) (.str p) = decide (some p = some z)
    by_cases e : p = z
    · rw [e, decide_eq_true rfl]
      simp [eqV]
    · rw [decide_eq_false fun y => e (Option.some.inj y)]
      simp [eqV]
      exact fun y => e y.symm
theorem eqDK_iff {a b : List (Str × Str)} (na : (a.map Prod.fst).Nodup) (nb : (b.map Prod.fst).Nodup) : eqDK (prs a) (prs b) = true ↔ a.Perm b := by
  unfold eqDK
  rw [Bool.and_eq_true, prs_len, prs_len, List.all_eq_true]
  constructor
  · rintro ⟨h1, h2⟩
    refine perm_sub (nd_pairs na) (fun p hp => ?_) (Nat.le_of_eq (by simpa using (of_decide_eq_true h1 : a.length = b.length).symm))
    have m : (Sum.inr p.1, V.str p.2) ∈ prs a := by
      unfold prs kvT
      rw [List.map_map]
      exact List.mem_map.mpr ⟨p, hp, rfl⟩
    have z := h2 _ m
    rw [rowEq_prs, decide_eq_true_eq] at z
    exact par_mem z
  · intro h
    refine ⟨by rw [h.length_eq]; simp, fun p hp => ?_⟩
    unfold prs kvT at hp
    rw [List.map_map] at hp
    obtain ⟨q, hq, rfl⟩ := List.mem_map.mp hp
    show rowEq (prs b) (Sum.inr q.1, V.str q.2) = true
    rw [rowEq_prs, decide_eq_true_eq]
    exact par_of nb (h.mem_iff.mp hq)
theorem eqDK_no {a b a' b' : List (Str × Str)} (oa : TreeOk a) (ob : TreeOk b) (pa : a'.Perm a) (pb : b'.Perm b) (h : eqDK (prs a) (prs b) = false) : eqDK (prs a') (prs b') = false ∧ eqDK (prs b') (prs a') = false := by
  have na' := (oa.perm pa.symm).nd
  have nb' := (ob.perm pb.symm).nd
  have no : ¬ a.Perm b := fun p => by
    rw [(eqDK_iff oa.nd ob.nd).mpr p] at h
    cases h
  constructor
  · cases e : eqDK (prs a') (prs b') with
    | false => rfl
    | true => exact absurd (pa.symm.trans (((eqDK_iff na' nb').mp e).trans pb)) no
  · cases e : eqDK (prs b') (prs a') with
    | false => rfl
    | true => exact absurd (pa.symm.trans (((eqDK_iff nb' na').mp e).symm.trans pb)) no
theorem asc_one {ts us : List (Str × Str)} (o : TreeOk ts) (p : us.Perm ts) (a : Asc ts) (b : Asc us) : us = ts := by
  have e : us.map Prod.fst = ts.map Prod.fst := sorted_one (p.map _) b a
  refine List.ext_getElem? fun i => ?_
  have ei : (us.map Prod.fst)[i]? = (ts.map Prod.fst)[i]? := by rw [e]
  rw [List.getElem?_map, List.getElem?_map] at ei
  cases h1 : us[i]? with
  | none =>
    rw [h1] at ei
    cases h2 : ts[i]? with
    | none => rfl
    | some q => rw [h2] at ei; cases ei
  | some q1 =>
    rw [h1] at ei
    cases h2 : ts[i]? with
    | none => rw [h2] at ei; cases ei
    | some q2 =>
      rw [h2] at ei
      have ek : q1.1 = q2.1 := Option.some.inj ei
      have z1 := par_of o.nd (p.mem_iff.mp (List.mem_of_getElem? h1))
      have z2 := par_of o.nd (List.mem_of_getElem? h2)
      rw [ek, z2] at z1
      exact congrArg some (Prod.ext ek (Option.some.inj z1).symm)
theorem hasU_perm {ts t : List (Str × Str)} (o : TreeOk ts) (pt : ts.Perm t) (zs : List Str) (a : Str) : hasU t zs a = hasU ts zs a := by
  unfold hasU
  congr 1
  funext i
  unfold hasC
  cases zs[i]? <;> simp only [path_perm o.nd pt]
theorem bestB_symm (ts : List (Str × Str)) (zs zs' : List Str) : bestB ts zs' zs = bestB ts zs zs' := by
  unfold bestB
  congr 1
  funext a
  exact Bool.or_comm _ _
theorem nobody_ok : TreeOk [(("nobody" : Str), ("" : Str))] := by
  refine ⟨by decide, by decide, by decide, fun z hz => ?_, fun _ => 0, fun q hq => ?_⟩
  · have : z = "nobody" := List.mem_singleton.mp hz
    rw [this]
    decide +kernel
  · have : q = (("nobody" : Str), ("" : Str)) := List.mem_singleton.mp hq
    rw [this]
    exact ⟨by decide, .inl rfl⟩
theorem nobody_no {t : List (Str × Str)} (inp : ∀ a ∈ t.map Prod.fst, a ∈ pool1 ∨ a ∈ pool2) : eqDK (prs [(("nobody" : Str), ("" : Str))]) (prs t) = false := by
  have no : ("nobody" : Str) ∉ t.map Prod.fst := fun h => by
    rcases inp _ h with m | m
    · revert m
      decide +kernel
    · revert m
      decide +kernel
  unfold eqDK
  rw [show (prs [(("nobody" : Str), ("" : Str))]).all (rowEq (prs t)) = (rowEq (prs t) (Sum.inr "nobody", V.str "") && true) from rfl, rowEq_prs, par_none no, decide_eq_false (by intro z; cases z)]
  simp
/-- no flag gets and loses -/
theorem bad_best {ts : List (Str × Str)} {zs zs' : List Str} : PyData.eqv (.list (((ts.map Prod.fst).filter fun a => !decide ((0 : Int) ∈ [newU (hasU ts zs a) (hasU ts zs' a), newU (hasU ts zs' a) (hasU ts zs a)])).map PyData.str)) (.list []) = bestB ts zs zs' := by
  unfold bestB
  generalize ts.map Prod.fst = l
  induction l with
  | nil => rfl
  | cons a l ih =>
    rw [List.filter_cons, List.all_cons]
    have e : decide ((0 : Int) ∈ [newU (hasU ts zs a) (hasU ts zs' a), newU (hasU ts zs' a) (hasU ts zs a)]) = (decide (newU (hasU ts zs a) (hasU ts zs' a) = 0) || decide (newU (hasU ts zs' a) (hasU ts zs a) = 0)) := by
      rw [Bool.eq_iff_iff, decide_eq_true_eq, Bool.or_eq_true, decide_eq_true_eq, decide_eq_true_eq, List.mem_cons, List.mem_singleton]
      exact ⟨fun h => h.imp Eq.symm Eq.symm, fun h => h.imp Eq.symm Eq.symm⟩
    rw [e]
    cases x : (decide (newU (hasU ts zs a) (hasU ts zs' a) = 0) || decide (newU (hasU ts zs' a) (hasU ts zs a) = 0)) with
    | true =>
      rw [if_neg (by decide)]
      exact ih
    | false =>
      rw [if_pos (by decide)]
      rfl
theorem fewest_best {ts t : List (Str × Str)} {zs zs' : List Str} (o : TreeOk ts) (pt : ts.Perm t) (el : zs.length = zs'.length) (pl : ∀ z ∈ zs, Pl ts z) (pl' : ∀ z ∈ zs', Pl ts z) :
    (∀ W, WayTo t zs.length (szZ t zs') W → leastS ts (szZ t zs') zs ≤ distS t zs W) ∧ (∃ W, WayTo t zs.length (szZ t zs') W ∧ distS t zs W = leastS ts (szZ t zs') zs) ∧ decide (leastS ts (szZ t zs') zs = distS t zs zs') = bestB ts zs zs' := by
  have es : szZ t zs' = szZ ts zs' := funext fun a => szZ_perm o pt zs' a
  have fe : Fea ts (zs.length : Int) (szZ ts zs') := by rw [el]; exact fea_szZ o pl'
  refine ⟨fun W h => way_low o pt pl h, ?_, ?_⟩
  · obtain ⟨W, B⟩ := best_exists o pl fe
    rw [es]
    exact ⟨W, way_best o pt pl B⟩
  · rw [es, dist_far o pt pl pl']
    have z := (far_least o el pl pl').2
    rw [← z]
    unfold leastS
    by_cases e : farS ts zs zs' = ((ts.map Prod.fst).map fun a => absI (szZ ts zs' a - szZ ts zs a)).sum
    · rw [decide_eq_true e, decide_eq_true e.symm]
    · rw [decide_eq_false e, decide_eq_false fun y => e y.symm]
/-- `x or y` with one word on what it is -/
theorem chk_orV {K : PySem.W.Frag} {ta tb : TE} {σ : St} {H : Hp} {Q : VK} (G P1 : V → Hp → Prop) (ha : ∀ Q' : VK, (∀ x H1, P1 x H1 → Q' x H1) → ta σ H Q') (h1 : ∀ x H1, P1 x H1 → ∃ k, TruV K x H1 k ∧ (k = true → G x H1) ∧ (k = false → ∀ Q' : VK, (∀ y H2, G y H2 → Q' y H2) → tb σ H1 Q')) (k : ∀ y H2, G y H2 → Q y H2) : tOrT K ta tb σ H Q := ha _ fun x H1 p => by
  obtain ⟨kk, t, g, b⟩ := h1 x H1 p
  refine ⟨kk, t, ?_⟩
  cases kk with
  | false => exact iteF (b rfl _ k)
  | true => exact iteT (k _ _ (g rfl))
theorem bool_fit (b : Bool) : (PyData.bool b).showable = true ∧ (PyData.bool b).depth ≤ 60 ∧ (PyData.bool b).shown.length ≤ sizeLine := by
  cases b <;> exact ⟨rfl, by decide, by decide +kernel⟩
end FT


/-! the law of k08 -/
namespace FT
open PySem L2 TL ClX LamX NdefX LiI
structure W08 (P : Program) (w : World) (K : PySem.W.Frag) (mg : Str → Option Value) (base : Heap) (CF CA CM : Addr) (mc mcA : Value) (T : List (Addr × Str)) (f : Nat → Addr) (fd : Nat → FuncData) : Prop where
  Z : Fc K mg CF mc
  B : Ac K mg CA mcA
  bg : Dn P w K mg base CX0 1 "_law_begin" ["_law_script"] (spBegin K) (f 0) (fd 0)
  dt : Dn P w K mg base CX0 1 "_law_take" ["_law_draw", "_law_size"] spDraw (f 1) (fd 1)
  pa : Dn P w K mg base CX0 4 "_law_parents" ["_law_draw", "_law_many"] spParentsP (f 2) (fd 2)
  dr : Dn P w K mg base CX0 7 "_law_drawn" ["_law_draw", "_law_above", "_law_many", "_law_small"] (spDrawn T) (f 3) (fd 3)
  lt : Dn P w K mg base CX0 2 "_law_traffic" ["_law_above", "_law_here", "_law_there"] spLawTraf (f 4) (fd 4)
  fw : Dn P w K mg base CX0 7 "_law_is_fewest" ["_law_above", "_law_here", "_law_there"] spIsFew (f 5) (fd 5)
  op : Dn P w K mg base CX0 1 "_law_other_parents" ["_law_above"] spOtherP (f 6) (fd 6)
  fi : FnOk P w K mg base CX0 3 (f 7) (fd 7) ["self", "parents"] (spFInit CF)
  fim : Mk K CF (f 7)
  fib : Binds K (fd 7) ["self", "parents"] []
  ai : FnOk P w K mg base CX0 1 (f 8) (fd 8) ["self", "forest", "places"] (spAInit CF CA)
  aim : Mk K CA (f 8)
  aib : Binds K (fd 8) ["self", "forest", "places"] []
  tr : Dn P w K mg base (L2.CX P w) 4 "traffic" ["one", "other"] (spTrafficE CF CA CM) (f 9) (fd 9)
  trk : KBn K (fd 9) ["one", "other"] 0 ["other", "one"] (tn2 Value) (tn2 V)
  ib : Dn P w K mg base (L2.CX P w) 5 "is_best" ["one", "other"] (spIsBestE CF CA CM) (f 10) (fd 10)
  ibk : KBn K (fd 10) ["one", "other"] 0 ["other", "one"] (tn2 Value) (tn2 V)
def spLaw08 (K : PySem.W.Frag) (T : List (Addr × Str)) : Sp := fun vs H Q _ => ∃ (a : Addr) (ns : List Int), vs = [.ref a] ∧ SqL K H a (ns.map V.int) ∧ ns.length ≤ 63 ∧ Tabs T H ∧ ∀ H', Q (.bl true) H'
abbrev N08 : List Str := ["_law_script", "_law_draw", "_law_turn", "_law_small", "_law_above", "_law_here", "_law_there", "_law_start", "_law_goal", "_law_rows", "_law_told", "_law_due", "_law_strange", "_law_odd", "_law_name", "_law_pair"]
theorem cut1 (xs : List V) : cutV xs (some 1) none = xs.drop 1 := by
  cases xs with
  | nil => rfl
  | cons a xs =>
    have e : HT.sIx (a :: xs).length 0 (some 1) = 1 := by
      rw [show (1 : Int) = ((1 : Nat) : Int) from rfl, HT.sIx_nat, List.length_cons]
      omega
    show ((a :: xs).drop (HT.sIx (a :: xs).length 0 (some 1))).take ((a :: xs).length - HT.sIx (a :: xs).length 0 (some 1)) = _
    rw [e, List.drop_one, List.tail_cons, List.length_cons, Nat.add_sub_cancel, List.take_length] <;> rfl
section
variable {P : Program} {w : World} {K : PySem.W.Frag} {mg : Str → Option Value} {base : Heap}
theorem sc08 : FnScope N08 ["_law_script"] (defScope s_law) := ⟨rfl, rfl, rfl, by decide +kernel, rfl, by decide +kernel, by decide +kernel⟩
theorem ok_law08 {f0 fEr CF CA CM R co ta : Addr} {mc mcA : Value} {C5 : Nat → Addr} {T : List (Addr × Str)} {f : Nat → Addr} {fd : Nat → FuncData} {fd0 fdEr : FuncData} (F : FunC K "law" "law" s_law f0 fd0 co) (N : Nm mg) (L : W08 P w K mg base CF CA CM mc mcA T f fd)
    (GE : Ge K mg "_law_error" s__law_error fEr fdEr) (C : Cl5 K mg R C5) (e2 : C5 2 = CM) (TB : TabB base mg co ta) (hmT : (ta, lamQ "law") ∈ T) (hut : ∀ p ∈ T, p.1 = ta → p.2 = lamQ "law") : FnG P w K mg base CX0 8 f0 fd0 ["_law_script"] (spLaw08 K T) := by
  refine F.okG sc08 (fun vs H Q E h => ?_) (fun A outer s H vs Q E clr hr h => ?_)
  · obtain ⟨a, ns, rfl, _⟩ := h
    rfl
  · obtain ⟨a, ns, rfl, hS, hlen, tT, k⟩ := h
    have hu := hu_of hr
    have hr1 : Room 1 _ := hr.mono (by decide)
    have hr2 : Room 2 _ := hr.mono (by decide)
    have hr4 : Room 4 _ := hr.mono (by decide)
    have hr5 : Room 5 _ := hr.mono (by decide)
    have nd := sc08.nd
    have big : 1000 ≤ sizeLine := by decide
    refine ⟨_, pss_cons (ps_set (i := 1) nd rfl (.inl rfl) (pe_call L.bg.ok hr1 rfl L.bg.mgn L.bg.kp L.bg.bn .nil pass0 (pa_cons (pv 0) pa_nil)))
      (pss_cons (ps_for PassesOwn.never rfl (pi_range1 rfl N.rng (pa_cons (pe_op op_add pe_int (pe_callB (call_min2 rfl) (by rfl) N.min (by decide +kernel) (pa_cons (pe_callB call_len_seq (by rfl) N.len PySem.boot_len (pa_cons (pv 0) pa_nil)) (pa_cons pe_int pa_nil)))) pa_nil)) (pg_name (i := 2) nd rfl (.inl rfl))
        (pss_cons (ps_set (i := 3) nd rfl (.inl rfl) (pe_cmpR op_gt (pe_call L.dt.ok hr1 rfl L.dt.mgn L.dt.kp L.dt.bn .nil pass0 (pa_cons (pv 1) (pa_cons pe_int pa_nil))) pe_int (nomark _)))
        (pss_cons (ps_set (i := 4) nd rfl (.inl rfl) (pe_call L.pa.ok hr4 rfl L.pa.mgn L.pa.kp L.pa.bn .nil pass0 (pa_cons (pv 1) (pa_cons (pe_op op_add pe_int (pe_call L.dt.ok hr1 rfl L.dt.mgn L.dt.kp L.dt.bn .nil pass0 (pa_cons (pv 1) (pa_cons (pe_ix ix_list (pe_lst (pa_cons pe_int (pa_cons pe_int pa_nil))) (pe_callTy call_int1 (by rfl) N.int (by decide +kernel) (pa_cons (pv 3) pa_nil)) (fun _ _ => rfl)) pa_nil)))) pa_nil))))
        (pss_cons (ps_asg (pe_call L.dr.ok hr rfl L.dr.mgn L.dr.kp L.dr.bn .nil pass0 (pa_cons (pv 1) (pa_cons (pv 4) (pa_cons (pe_op op_add pe_int (pe_call L.dt.ok hr1 rfl L.dt.mgn L.dt.kp L.dt.bn .nil pass0 (pa_cons (pv 1) (pa_cons (pe_ix ix_list (pe_lst (pa_cons pe_int (pa_cons pe_int pa_nil))) (pe_callTy call_int1 (by rfl) N.int (by decide +kernel) (pa_cons (pv 3) pa_nil)) (fun _ _ => rfl)) pa_nil)))) (pa_cons (pv 3) pa_nil)))))
          (pg_tup rfl (pgs_cons (pg_name (i := 5) nd rfl (.inl rfl)) (pgs_cons (pg_name (i := 6) nd rfl (.inl rfl)) pgs_nil))))
        (pss_cons (ps_asg (pe_tup (pa_cons (pe_make L.aim L.ai hr2 (by rfl) L.B.gA L.aib .nil pass0 (pa_cons (pe_make L.fim L.fi hr4 (by rfl) L.Z.gF L.fib .nil pass0 (pa_cons (pv 4) pa_nil)) (pa_cons (pv 5) pa_nil)))
            (pa_cons (pe_make L.aim L.ai hr2 (by rfl) L.B.gA L.aib .nil pass0 (pa_cons (pe_make L.fim L.fi hr4 (by rfl) L.Z.gF L.fib .nil pass0 (pa_cons (pv 4) pa_nil)) (pa_cons (pv 6) pa_nil))) pa_nil)))
          (pg_tup rfl (pgs_cons (pg_name (i := 7) nd rfl (.inr rfl)) (pgs_cons (pg_name (i := 8) nd rfl (.inr rfl)) pgs_nil))))
        (pss_cons (ps_set (i := 9) nd rfl (.inl rfl) (pe_call L.lt.ok hr2 rfl L.lt.mgn L.lt.kp L.lt.bn .nil pass0 (pa_cons (pv 4) (pa_cons (pv 5) (pa_cons (pv 6) pa_nil)))))
        (pss_cons (ps_set (i := 10) nd rfl (.inl rfl) (pe_call (E := E0) L.tr.ok hr4 rfl L.tr.mgn L.tr.kp L.tr.bn .nil L2.passL (pa_cons (pv 7) (pa_cons (pv 8) pa_nil))))
        (pss_cons (ps_if (PW.pt (pw_or (pt_cmpR op_ne (pe_callB (call_repr clr.deeper hr.units) (by rfl) N.rep (by decide +kernel) (pa_cons (pe_listItems rfl (pv 10) (by rfl) N.lst (by decide +kernel)) pa_nil)) (pe_callB (call_repr clr.deeper hr.units) (by rfl) N.rep (by decide +kernel) (pa_cons (pv 9) pa_nil)) (nomark _))
            (pw_or1 (pt_cmpR (op_neD hr.units) (pe_listItems rfl (pe_callK0 (E := E0) L.tr.ok hr4 rfl L.tr.mgn L.tr.kp L.trk L2.passL (pk_cons (pv 8) (pk_cons (pv 7) pk_nil))) (by rfl) N.lst (by decide +kernel)) (pv 9) (nomark _))))) (pss_one (ps_ret pe_bl)) pss_nil)
        (pss_cons (ps_expr (pe_dclear (pv 10)))
        (pss_cons (ps_set (i := 11) nd rfl (.inl rfl) (pe_cmpR (op_eqD hr.units) (pe_lc (own := [("_law_name", 14), ("_law_pair", 15)]) (g := gTup K 2 (gCons (gName 14) (gCons (gName 15) gNil))) (tt := tTest (tOp (rIn K true) (tC (.int 0)) (tVar 15))) (te := tVar 14) rfl nd (pi_list (pv 9))
          (blkOk_by (N := N08) (sc := defScope s_law) (by decide +kernel)) (fun _ _ _ _ _ => pg_tup rfl (pgs_cons (pg_name (i := 14) nd rfl (Or.inl rfl)) (pgs_cons (pg_name (i := 15) nd rfl (Or.inl rfl)) pgs_nil))) (fun _ _ _ _ _ => pts_one (pt_cmpR op_notIn_seq pe_int (pv 15) rfl)) (fun _ _ _ _ _ => pv 14)) (pe_lst pa_nil) (nomark _)))
        (pss_cons (ps_if (PW.pt (pw_or (pt_cmpR op_ne (pe_callB (call_repr clr.deeper hr.units) (by rfl) N.rep (by decide +kernel) (pa_cons (pe_call (E := E0) L.ib.ok hr5 rfl L.ib.mgn L.ib.kp L.ib.bn .nil L2.passL (pa_cons (pv 7) (pa_cons (pv 8) pa_nil))) pa_nil)) (pe_callB (call_repr clr.deeper hr.units) (by rfl) N.rep (by decide +kernel) (pa_cons (pv 11) pa_nil)) (nomark _))
            (pw_or1 (pt_cmpR op_ne (pe_callK0 (E := E0) L.ib.ok hr5 rfl L.ib.mgn L.ib.kp L.ibk L2.passL (pk_cons (pv 7) (pk_cons (pv 8) pk_nil))) (pv 11) (nomark _))))) (pss_one (ps_ret pe_bl)) pss_nil)
        (pss_cons (ps_if (PW.pt (pw_and (pt_val (pv 3)) (pw_and1 (pt_cmpR op_ne (pv 11) (pe_call L.fw.ok hr rfl L.fw.mgn L.fw.kp L.fw.bn .nil pass0 (pa_cons (pv 4) (pa_cons (pv 5) (pa_cons (pv 6) pa_nil)))) (nomark _))))) (pss_one (ps_ret pe_bl)) pss_nil)
        (pss_cons (ps_set (i := 12) nd rfl (.inr rfl) (pe_make L.aim L.ai hr2 (by rfl) L.B.gA L.aib .nil pass0 (pa_cons (pe_make L.fim L.fi hr4 (by rfl) L.Z.gF L.fib .nil pass0 (pa_cons (pv 4) pa_nil)) (pa_cons (pe_orT (pe_slice sl_list (pv 5) (po_some pe_int) po_none) (pe_one (pe_lst (pa_cons pe_str (pa_cons pe_str pa_nil))))) pa_nil))))
        (pss_cons (ps_if (pt_cmpR op_ne (pe_lamS (T := T) (k := 5) (t := fun E => tCall (spTrafficE CF CA CM) [] E (tCons (tVar 7) (tCons (tVar 12) tNil))) rfl GE.mgn GE.fn GE.bn scEr rfl (.inl rfl) (fun cdg => error_gives N C) TB rfl hmT hut hr (lamS_by (sc := defScope s_law) (by decide +kernel)) rfl (fun _ _ _ _ _ => rfl)
            (fun A outer s H E f c' hr2 => pe_call L.tr.ok (hr2.mono (by decide)) rfl L.tr.mgn L.tr.kp L.tr.bn .nil (passes_call (takes_of rfl rfl rfl rfl) (fun _ _ _ _ h => h)) (pa_cons (pv 7) (pa_cons (pv 12) pa_nil)))) pe_str (nomark _)) (pss_one (ps_ret pe_bl)) pss_nil)
        (pss_cons (ps_if (pt_cmpR op_ne (pe_lamS (T := T) (k := 5) (t := fun E => tCall (spIsBestE CF CA CM) [] E (tCons (tVar 12) (tCons (tVar 8) tNil))) rfl GE.mgn GE.fn GE.bn scEr rfl (.inl rfl) (fun cdg => error_gives N C) TB rfl hmT hut hr (lamS_by (sc := defScope s_law) (by decide +kernel)) rfl (fun _ _ _ _ _ => rfl)
            (fun A outer s H E f c' hr2 => pe_call L.ib.ok hr2 rfl L.ib.mgn L.ib.kp L.ib.bn .nil (passes_call (takes_of rfl rfl rfl rfl) (fun _ _ _ _ h => h)) (pa_cons (pv 12) (pa_cons (pv 8) pa_nil)))) pe_str (nomark _)) (pss_one (ps_ret pe_bl)) pss_nil)
        (pss_cons (ps_set (i := 13) nd rfl (.inr rfl) (pe_make L.aim L.ai hr2 (by rfl) L.B.gA L.aib .nil pass0 (pa_cons (pe_make L.fim L.fi hr4 (by rfl) L.Z.gF L.fib .nil pass0 (pa_cons (pe_orT (pe_call L.op.ok hr1 rfl L.op.mgn L.op.kp L.op.bn .nil pass0 (pa_cons (pv 4) pa_nil)) (pe_one (pe_disp (pps_cons pe_str pe_str pps_nil) (by rfl) (by rfl) (fun z => by cases z) (by decide)))) pa_nil))
            (pa_cons (pe_op op_rep (pe_lst (pa_cons pe_str pa_nil)) (pe_callB call_len_seq (by rfl) N.len PySem.boot_len (pa_cons (pv 5) pa_nil))) pa_nil))))
        (pss_cons (ps_if (pt_cmpR op_ne (pe_lamS (T := T) (k := 5) (t := fun E => tCall (spIsBestE CF CA CM) [] E (tCons (tVar 13) (tCons (tVar 8) tNil))) rfl GE.mgn GE.fn GE.bn scEr rfl (.inl rfl) (fun cdg => error_gives N C) TB rfl hmT hut hr (lamS_by (sc := defScope s_law) (by decide +kernel)) rfl (fun _ _ _ _ _ => rfl)
            (fun A outer s H E f c' hr2 => pe_call L.ib.ok hr2 rfl L.ib.mgn L.ib.kp L.ib.bn .nil (passes_call (takes_of rfl rfl rfl rfl) (fun _ _ _ _ h => h)) (pa_cons (pv 13) (pa_cons (pv 8) pa_nil)))) pe_str (nomark _)) (pss_one (ps_ret pe_bl)) pss_nil)
        (pss_one (ps_if (pt_cmpR op_ne (pe_lamS (T := T) (k := 5) (t := fun E => tCall (spTrafficE CF CA CM) [] E (tCons (tVar 8) (tCons (tVar 13) tNil))) rfl GE.mgn GE.fn GE.bn scEr rfl (.inl rfl) (fun cdg => error_gives N C) TB rfl hmT hut hr (lamS_by (sc := defScope s_law) (by decide +kernel)) rfl (fun _ _ _ _ _ => rfl)
            (fun A outer s H E f c' hr2 => pe_call L.tr.ok (hr2.mono (by decide)) rfl L.tr.mgn L.tr.kp L.tr.bn .nil (passes_call (takes_of rfl rfl rfl rfl) (fun _ _ _ _ h => h)) (pa_cons (pv 8) (pa_cons (pv 13) pa_nil)))) pe_str (nomark _)) (pss_one (ps_ret pe_bl)) pss_nil)))))))))))))))))))
      (pss_one (ps_ret pe_bl))), ?_⟩
    refine ⟨_, rfl, a, ns, rfl, hS, hlen, fun H0 d c s0 ndd ncc dr0 => ?_⟩
    have tT0 : Tabs T H0 := tT.ext s0
    refine ⟨_, rfl, a, _, rfl, .inl (Same.sql s0 hS), _, _, rfl, _, _, rfl, rfl, ?_⟩
    obtain ⟨m, em⟩ : ∃ m : Int, m = 3 + (if (7 : Int) < ((ns.map V.int).length : Int) then 7 else ((ns.map V.int).length : Int)) := ⟨_, rfl⟩
    have lm : 0 ≤ m ∧ m ≤ 20 := by
      rw [List.length_map] at em
      subst em
      split <;> constructor <;> omega
    refine ⟨m, by rw [em] <;> rfl, by omega, by omega, ?_⟩
    refine for_it (walk_range (lo := 0) (n := m.toNat)) (fun j σ' H' => (∃ u2 u3 u4 u5 u6 u7 u8 u9 u10 u11 u12 u13, σ' = [some (.ref a), some (.ref d), u2, u3, u4, u5, u6, u7, u8, u9, u10, u11, u12, u13, none, none]) ∧ DrawAt H' d c ∧ Tabs T H') ⟨⟨_, _, _, _, _, _, _, _, _, _, _, _, rfl⟩, dr0, tT0⟩ (fun _ _ _ _ _ => trivial) ?_ (fun σ' H' _ => k H')
    intro jj xj σ' Ha Hb hj ⟨⟨u2, u3, u4, u5, u6, u7, u8, u9, u10, u11, u12, u13, e⟩, dr, tb⟩ ⟨ea, eb⟩
    subst e
    subst ea
    subst eb
    clear em lm hj
    -- small or not
    refine ⟨_, rfl, d, c, 4, rfl, dr, by decide, by decide, fun k0 H1 k00 k01 dr1 kp1 => ⟨_, _, rfl, rfl, ?_⟩⟩
    have tb1 := tabs_keep tb dr kp1
    have mx1 : ∀ b : Bool, (0 : Int) < (if b then 4 else 12) ∧ ((if b then 4 else 12 : Int).natAbs < 2 ^ 200) ∧ (if b then (4 : Int) else 12) ≤ 12 ∧ (b = true → (if b then (4 : Int) else 12) ≤ 4) := fun b => by cases b <;> exact ⟨by decide, by decide, by decide, by decide⟩
    have mx2 : ∀ b : Bool, (0 : Int) < (if b then 5 else 60) ∧ ((if b then 5 else 60 : Int).natAbs < 2 ^ 200) ∧ (if b then (5 : Int) else 60) ≤ 60 ∧ (b = true → (if b then (5 : Int) else 60) ≤ 5) := fun b => by cases b <;> exact ⟨by decide, by decide, by decide, by decide⟩
    -- the tree
    refine ⟨_, rfl, _, rfl, by show 2 ≤ sizeLine; omega, fun p0 n0 => ?_⟩
    have sp0 := same_new (o := .lst [.int 12, .int 4]) n0
    obtain ⟨m11, m12, m13, m14⟩ := mx1 (decide ((0 : Int) < k0))
    refine ⟨_, rfl, .inr ⟨_, rfl, p0, _, _, _, rfl, rfl, SqL.of upd_same, pick2 _ _ _, d, c, _, rfl, dr1.mono sp0, m11, m12, fun k1 H2 k10 k11 dr2 kp2 => ⟨_, _, rfl, rfl, ?_⟩⟩⟩
    have kp12 := (Keep.of_same (d := d) (c := c) sp0).trans kp2
    refine ⟨d, c, (1 + k1).toNat, by rw [Int.toNat_of_nonneg (by omega)] <;> rfl, dr2, by omega, by omega, fun q t H3 o lt inp nq hq dr3 kp3 => ?_⟩
    have tb2 := tabs_keep tb1 dr1 kp12
    have tb3 := tabs_keep tb2 dr2 kp3
    have few := o.few
    have smT : decide ((0 : Int) < k0) = true → t.length ≤ 4 := fun h => by
      have := m14 h
      omega
    clear m11 m12 m13 m14 k10 k11 mx1
    -- the two lists
    refine ⟨_, rfl, _, rfl, _, rfl, by show 2 ≤ sizeLine; omega, fun p1 n1 => ?_⟩
    have sp1 := same_new (o := .lst [.int 60, .int 5]) n1
    obtain ⟨m21, m22, m23, m24⟩ := mx2 (decide ((0 : Int) < k0))
    refine ⟨_, rfl, .inr ⟨_, rfl, p1, _, _, _, rfl, rfl, SqL.of upd_same, pick2 _ _ _, d, c, _, rfl, dr3.mono sp1, m21, m22, fun k2 H4 k20 k21 dr4 kp4 => ⟨_, _, rfl, rfl, _, rfl, ?_⟩⟩⟩
    have kp34 := (Keep.of_same (d := d) (c := c) sp1).trans kp4
    have tb4 := tabs_keep tb3 dr3 kp34
    have hq4 : H4 q = some (.dK (prs t)) := let ⟨b1, b2⟩ := dr3.notD hq (fun xs z => nomatch z); kp34 _ _ b1 b2 hq
    have smU : decide ((0 : Int) < k0) = true → k2 < 5 := fun h => by
      have := m24 h
      omega
    have k260 : k2 < 60 := by omega
    clear m21 m22 m23 m24 k21 mx2
    refine ⟨d, c, q, 1 + k2, _, t, rfl, dr4, hq4, o, by omega, by omega, tb4, fun tp l1 l2 zs zs' H5 dr5 tb5 kn5 htp hl1 hl2 lzn lz' pl pl' => ⟨tp, _, rfl, .inl (.inl htp), rfl, _, _, rfl, _, _, rfl, rfl, ?_⟩⟩
    have hq5 := kn5.dk dr4 hq4
    have n1 : 1 ≤ zs.length := by omega
    have n60 : zs.length ≤ 60 := by omega
    have n1' : 1 ≤ zs'.length := by omega
    have n60' : zs'.length ≤ 60 := by omega
    have n100 : zs.length ≤ 100 := by omega
    have n1000 : zs.length ≤ 1000 := by omega
    have el : zs.length = zs'.length := lz'.symm
    have smZ : decide ((0 : Int) < k0) = true → zs.length ≤ 5 := fun h => by
      have := smU h
      omega
    -- start
    refine ⟨_, rfl, fun x dx nx ndx nxd => ?_⟩
    have sN : Same H5 (upd (upd H5 dx (.own x)) x (.ins CF dx [])) := fun b u e => by
      rw [upd_ne (ne_of_none e nx), upd_ne (ne_of_none e ndx)]
      exact e
    refine ⟨x, q, dx, t, rfl, upd_same, sN _ _ hq5, o, fun H6 ts pts asc fa6 oth => ⟨rfl, _, rfl, fun y dy ny ndy nyd => ?_⟩⟩
    have s56 : Same H5 H6 := fun b u e => oth b u (ne_of_none e nx) (sN _ _ e)
    have ot : TreeOk ts := o.perm pts.symm
    have pk : (ts.map Prod.fst).Perm (t.map Prod.fst) := pts.map _
    have plTS : ∀ z ∈ zs, Pl ts z := fun z hz => (pl z hz).imp id fun m => pk.mem_iff.mpr m
    have plTS' : ∀ z ∈ zs', Pl ts z := fun z hz => (pl' z hz).imp id fun m => pk.mem_iff.mpr m
    have sN1 : Same H6 (upd (upd H6 dy (.own y)) y (.ins CA dy [])) := fun b u e => by
      rw [upd_ne (ne_of_none e ny), upd_ne (ne_of_none e ndy)]
      exact e
    refine ⟨y, x, l1, dy, ts, zs, rfl, upd_same, fa6.mono sN1, ot, sN1 _ _ (s56 _ _ hl1), n1, n60, plTS, fun H7 aa7 oth2 => ⟨rfl, _, rfl, fun x2 dx2 nx2 ndx2 nxd2 => ?_⟩⟩
    have s67 : Same H6 H7 := fun b u e => oth2 b u (ne_of_none e ny) (sN1 _ _ e)
    have s57 := s56.trans s67
    -- goal
    have sN2 : Same H7 (upd (upd H7 dx2 (.own x2)) x2 (.ins CF dx2 [])) := fun b u e => by
      rw [upd_ne (ne_of_none e nx2), upd_ne (ne_of_none e ndx2)]
      exact e
    refine ⟨x2, q, dx2, t, rfl, upd_same, sN2 _ _ (s57 _ _ hq5), o, fun H8 us pus ascu fb8 oth3 => ⟨rfl, _, rfl, fun y2 dy2 ny2 ndy2 nyd2 => ?_⟩⟩
    have s78 : Same H7 H8 := fun b u e => oth3 b u (ne_of_none e nx2) (sN2 _ _ e)
    have s58 := s57.trans s78
    have eus : us = ts := asc_one ot (pus.trans pts.symm) asc ascu
    subst eus
    have sN3 : Same H8 (upd (upd H8 dy2 (.own y2)) y2 (.ins CA dy2 [])) := fun b u e => by
      rw [upd_ne (ne_of_none e ny2), upd_ne (ne_of_none e ndy2)]
      exact e
    refine ⟨y2, x2, l2, dy2, us, zs', rfl, upd_same, fb8.mono sN3, ot, sN3 _ _ (s58 _ _ hl2), n1', n60', plTS', fun H9 ab9 oth4 => ⟨rfl, by show 2 ≤ sizeLine; omega, fun tq ntq => ⟨tq, _, rfl, .inl (.inl upd_same), rfl, _, _, rfl, _, _, rfl, rfl, ?_⟩⟩⟩
    have s89 : Same H8 H9 := fun b u e => oth4 b u (ne_of_none e ny2) (sN3 _ _ e)
    have sq := same_new (o := .tup [.ref y, .ref y2]) ntq
    obtain ⟨H10, e10⟩ : ∃ X, X = upd H9 tq (.tup [.ref y, .ref y2]) := ⟨_, rfl⟩
    have s910 : Same H9 H10 := e10 ▸ sq
    have s510 := s58.trans (s89.trans s910)
    have aa10 : AAt CA H10 y x zs := aa7.mono (s78.trans (s89.trans s910))
    have ab10 : AAt CA H10 y2 x2 zs' := ab9.mono s910
    have fa10 : FAt CF H10 x us := fa6.mono (s67.trans (s78.trans (s89.trans s910)))
    have fb10 : FAt CF H10 x2 us := fb8.mono (s89.trans s910)
    have hq10 := s510 _ _ hq5
    have hl110 := s510 _ _ hl1
    have hl210 := s510 _ _ hl2
    have dr10 := dr5.mono s510
    have tb10 := tb5.ext s510
    rw [← e10]
    clear e10
    -- the rows
    refine ⟨_, rfl, _, rfl, _, rfl, q, l1, l2, t, zs, zs', rfl, hq10, o, hl110, hl210, el, n100, pl, pl', fun pr rs ks H11 s11 npr pks srt hpr prows => ?_⟩
    obtain ⟨g, eg⟩ : ∃ g : Str → Int, g = fun a => newU (hasU us zs a) (hasU us zs' a) := ⟨_, rfl⟩
    obtain ⟨l, elo⟩ : ∃ l : Str → Int, l = fun a => newU (hasU us zs' a) (hasU us zs a) := ⟨_, rfl⟩
    have eks : ks = us.map Prod.fst := sorted_one (pks.trans pk.symm) srt asc
    subst eks
    have prows : Paired (RowAt H11 g l) rs (us.map Prod.fst) := by
      have e1 : (fun a => newU (hasU t zs a) (hasU t zs' a)) = g := by
        rw [eg]
        funext a
        rw [hasU_perm ot pts, hasU_perm ot pts]
      have e2 : (fun a => newU (hasU t zs' a) (hasU t zs a)) = l := by
        rw [elo]
        funext a
        rw [hasU_perm ot pts, hasU_perm ot pts]
      rw [e1, e2] at prows
      exact prows
    have hg : ∀ a, 0 ≤ g a ∧ g a ≤ 100 := fun a => by
      have h := newU_le (t := us) (zs := zs) (zs' := zs') (a := a) el
      have h0 := newU_nn (hasU us zs a) (hasU us zs' a)
      rw [eg]
      exact ⟨h0, by show newU _ _ ≤ 100; omega⟩
    have hlo : ∀ a, 0 ≤ l a ∧ l a ≤ 100 := fun a => by
      have h := newU_le (t := us) (zs := zs') (zs' := zs) (a := a) lz'
      have h0 := newU_nn (hasU us zs' a) (hasU us zs a)
      rw [elo]
      exact ⟨h0, by show newU _ _ ≤ 100; omega⟩
    have lus : us.length = t.length := pts.length_eq
    obtain ⟨fD, fS, fP, fL, fH⟩ := rows_fit hg hlo (ks := us.map Prod.fst) ot.nm (by rw [List.length_map]; omega)
    -- told
    refine ⟨_, rfl, _, rfl, y, y2, x, x2, us, us, zs, zs', rfl, aa10.mono s11, ab10.mono s11, fa10.mono s11, fb10.mono s11, .inr ⟨rfl, ot, el, n1000, plTS, plTS', fun pt rt H12 s12 npt hpt hrt => ?_⟩⟩
    have s1012 := s11.trans s12
    have aa12 := aa10.mono s1012
    have ab12 := ab10.mono s1012
    have fa12 := fa10.mono s1012
    have fb12 := fb10.mono s1012
    have hpr12 := s12 _ _ hpr
    have pro12 : Paired (RowAt H12 g l) rs (us.map Prod.fst) := pimp (fun r b h => h.mono s12) prows
    have hrt12 : ∀ b ∈ us.map Prod.fst, H12 (rt b) = some (.tup [.int (g b), .int (l b)]) := by
      rw [eg, elo]
      exact hrt
    have pt0 : H10 pt = none := s11.free npt
    -- the pairs
    obtain ⟨D1, eD1⟩ : ∃ D1, D1 = PyData.list ((us.map Prod.fst).map (rowD g l)) := ⟨_, rfl⟩
    rw [← eD1] at fD fS fP fL fH
    have rdp : ∀ {H' : Hp} {p : Addr} {rs : List Addr}, H' p = some (.lst (rs.map V.ref)) → Paired (RowAt H' g l) rs (us.map Prod.fst) → Dp K H' (.ref p) D1 := fun e h => by
      rw [eD1]
      exact .lst (SqL.of e) (rows_dps h)
    refine ⟨_, rfl, pt, _, rfl, hpt, fun H13 pl1 tl1 s13 npl ntl pntl apl prl => ?_⟩
    have r13 : Same H12 H13 := fun b u e => s13 b u e
    refine ⟨_, D1, rfl, .inl ⟨rdp apl (rows_items prl fun b hb => r13 _ _ (hrt12 b hb)), fD⟩, fS, fP, fL, _, rfl, _, D1, rfl, .inl ⟨rdp (r13 _ _ hpr12) (pimp (fun r b h => h.mono r13) pro12), fD⟩, fS, fP, fL, rfl, _, rfl, ?_⟩
    rw [decide_eq_true rfl]
    refine iteF ?_
    refine ⟨_, rfl, _, rfl, rfl, y, y2, x, x2, us, us, zs, zs', rfl, aa12.mono r13, ab12.mono r13, fa12.mono r13, fb12.mono r13, .inr ⟨rfl, ot, el, n1000, plTS, plTS', fun pu ru H14 s14 npu hpu hru => ?_⟩⟩
    have r14 := r13.trans s14
    have hru14 : ∀ b ∈ us.map Prod.fst, H14 (ru b) = some (.tup [.int (g b), .int (l b)]) := by
      rw [eg, elo]
      exact hru
    refine ⟨pu, _, rfl, hpu, fun H15 pl2 tl2 s15 npl2 ntl2 pntl2 apl2 prl2 => ?_⟩
    have r15' : Same H14 H15 := fun b u e => s15 b u e
    have r15 := r14.trans r15'
    refine ⟨_, rfl, D1, D1, rdp apl2 (rows_items prl2 fun b hb => r15' _ _ (hru14 b hb)), rdp (r15 _ _ hpr12) (pimp (fun r b h => h.mono r15) pro12), fH, fH, _, rfl, ?_⟩
    rw [SeqAt.eqv_refl _ (SeqAt.canLay_of_shaped fH)]
    refine iteF ?_
    -- cleared
    have hpt15 := r15 _ _ hpt
    refine ⟨_, rfl, .inr (.inr (.inl ⟨rfl, .inl ⟨_, hpt15⟩⟩)), pt, _, rfl, rfl, hpt15, ?_⟩
    obtain ⟨H16, e16⟩ : ∃ X, X = upd H15 pt (.dK []) := ⟨_, rfl⟩
    have ptH : ∀ {b : Addr} {u : HO}, H11 b = some u → b ≠ pt := fun e => ne_of_none e npt
    have z16 : ∀ {b : Addr} {u : HO}, H11 b = some u → H16 b = some u := fun {b u} e => by
      rw [e16, upd_ne (ptH e)]
      exact r15 _ _ (s12 _ _ e)
    have s1116 : Same H11 H16 := fun b u e => z16 e
    rw [← e16]
    clear e16
    have pro16 : Paired (RowAt H16 g l) rs (us.map Prod.fst) := pimp (fun r b h => h.mono s1116) prows
    have hpr16 := s1116 _ _ hpr
    have s1016 := s11.trans s1116
    have aa16 := aa10.mono s1016
    have ab16 := ab10.mono s1016
    have fa16 := fa10.mono s1016
    have fb16 := fb10.mono s1016
    -- due
    show (_ : St → Hp → Prop) [some (.ref a), some (.ref d), _, some (.bl (decide ((0 : Int) < k0))), some (.ref q), some (.ref l1), some (.ref l2), some (.ref y), some (.ref y2), some (.ref pr), some (.ref pt), _, _, _, none, none] H16
    refine ⟨_, rfl, pr, rfl, ⟨_, SqL.of hpr16⟩, fun D nD => ?_⟩
    obtain ⟨bad, ebad⟩ : ∃ bad : List Str → List Str, bad = fun ks => ks.filter fun a => !decide ((0 : Int) ∈ [g a, l a]) := ⟨_, rfl⟩
    have lrs := pair_lenZ prows
    rw [List.length_map] at lrs
    have badl : ∀ ks : List Str, ks.length ≤ 12 → (bad ks).length ≤ 12 := fun ks h => by
      rw [ebad]
      exact Nat.le_trans (List.length_filter_le _ _) h
    have fewus : us.length ≤ 12 := ot.few
    refine lc_it walk_list (fun j H' => Same H16 H' ∧ H' D = some (.lst ((bad ((us.map Prod.fst).take j)).map V.str))) ⟨same_new nD, by rw [upd_same, List.take_zero, ebad] <;> rfl⟩ (fun j H' _ z => SqL.of (z.1 _ _ hpr16)) ?_ ?_
    · intro j yv Hx Hy hj ⟨q1, hD⟩ ⟨eb, ex⟩
      subst eb
      obtain ⟨r, hr', rfl⟩ := map_of (f := V.ref) (l := rs) ex
      obtain ⟨b, hb, sb, hrb, hsb⟩ := LiI.paired_get pro16 hr'
      have nxt := take_more hb
      refine ⟨r, [.str b, .ref sb], rfl, .inl (.inl (q1 _ _ hrb)), rfl, _, _, rfl, _, _, rfl, rfl, rfl, ?_⟩
      refine ⟨_, rfl, sb, [.int (g b), .int (l b)], rfl, .inr (.inl (.inl (q1 _ _ hsb))), rfl, rfl, _, rfl, ?_⟩
      rw [show (if true = true then !inV (V.int 0) [V.int (g b), V.int (l b)] else inV (V.int 0) [V.int (g b), V.int (l b)]) = !decide ((0 : Int) ∈ [g b, l b]) from congrArg (!·) (inV_ints 0 [g b, l b])]
      cases c : decide ((0 : Int) ∈ [g b, l b]) with
      | false =>
        refine iteT ⟨_, rfl, _, hD, ?_, q1.put nD, ?_⟩
        · rw [List.length_map]
          have := badl ((us.map Prod.fst).take j) (by rw [List.length_take, List.length_map]; omega)
          omega
        · rw [upd_same, nxt, ebad]
          show _ = some (HO.lst ((List.filter _ _).map V.str))
          rw [List.filter_append, List.map_append, List.filter_cons, c, List.filter_nil] <;> rfl
      | true =>
        refine iteF ⟨q1, ?_⟩
        rw [hD, nxt, ebad]
        show _ = some (HO.lst ((List.filter _ _).map V.str))
        rw [List.filter_append, List.filter_cons, c, List.filter_nil, if_neg (by decide), List.append_nil]
    intro H17 ⟨s17, hD17⟩
    rw [List.length_map, lrs, ← List.length_map (f := Prod.fst) (as := us), List.take_length] at hD17
    have okb : ∀ z ∈ bad (us.map Prod.fst), PyData.strOk z = true := fun z hz => by
      rw [ebad] at hz
      exact strOk_name (ot.nm _ (List.mem_filter.mp hz).1)
    refine ⟨by show 0 ≤ sizeLine; omega, fun pn npn => ⟨.list ((bad (us.map Prod.fst)).map PyData.str), .list [], .lst (SqL.of (same_new npn _ _ hD17)) (dps_strs _), .lst (SqL.of upd_same) .nil, strs_shaped okb, rfl, ?_⟩⟩
    obtain ⟨bb, ebb⟩ : ∃ bb, bb = bestB us zs zs' := ⟨_, rfl⟩
    rw [show PyData.eqv (.list ((bad (us.map Prod.fst)).map PyData.str)) (.list []) = bb by
      rw [ebb, ← bad_best, ebad, eg, elo]]
    obtain ⟨H18, e18⟩ : ∃ X, X = upd H17 pn (.lst []) := ⟨_, rfl⟩
    have s1618 : Same H16 H18 := s17.trans (e18 ▸ same_new npn)
    rw [← e18]
    clear e18
    -- is_best
    obtain ⟨v1, v2, v3⟩ := bool_fit bb
    refine ⟨_, rfl, _, rfl, y, y2, x, x2, us, us, zs, zs', rfl, aa16.mono s1618, ab16.mono s1618, fa16.mono s1618, fb16.mono s1618, .inr ⟨rfl, ot, el, n1000, plTS, plTS', fun H19 s19 => ?_⟩⟩
    rw [← ebb]
    refine ⟨_, .bool bb, rfl, .inl ⟨.bl bb, rfl⟩, v1, v2, v3, _, rfl, _, .bool bb, rfl, .inl ⟨.bl bb, rfl⟩, v1, v2, v3, rfl, _, rfl, ?_⟩
    rw [decide_eq_true rfl]
    refine iteF ?_
    have s1619 := s1618.trans s19
    refine ⟨_, rfl, _, rfl, rfl, y2, y, x2, x, us, us, zs', zs, rfl, ab16.mono s1619, aa16.mono s1619, fb16.mono s1619, fa16.mono s1619, .inr ⟨rfl, ot, lz', by omega, plTS', plTS, fun H20 s20 => ?_⟩⟩
    rw [bestB_symm, ← ebb]
    refine ⟨_, rfl, rfl, _, rfl, ?_⟩
    rw [decide_eq_true rfl]
    refine iteF ?_
    have s1620 := s1619.trans s20
    -- the fewest of all
    obtain ⟨f1, f2, f3⟩ := fewest_best ot pts el plTS plTS'
    have hq20 := s1620 _ _ (s1016 _ _ hq10)
    have hl120 := s1620 _ _ (s1016 _ _ hl110)
    have hl220 := s1620 _ _ (s1016 _ _ hl210)
    refine chk_and (i := 3) (b := decide ((0 : Int) < k0)) rfl (fun sm Q' kq => ?_) fun H21 s21 => ?_
    · refine ⟨_, rfl, _, rfl, _, rfl, _, rfl, q, l1, l2, t, zs, zs', leastS us (szZ t zs') zs, rfl, hq20, o, smT sm, hl120, hl220, el, pl, pl', n1, smZ sm, f1, f2, fun H21 s21 => ⟨rfl, _, rfl, ?_⟩⟩
      rw [f3, ← ebb, decide_eq_true rfl]
      exact kq H21 s21
    have s1621 := s1620.trans s21
    have s1021 := s1016.trans s1621
    have hq21 := s1021 _ _ hq10
    have dr21 := dr10.mono s1021
    have tb21 := tb10.ext s1021
    have aa21 := aa16.mono s1621
    have ab21 := ab16.mono s1621
    have fa21 := fa16.mono s1621
    have fb21 := fb16.mono s1621
    have hl121 := s1021 _ _ hl110
    -- strange
    refine ⟨_, rfl, fun x3 dx3 nx3 ndx3 nxd3 => ?_⟩
    have sN4 : Same H21 (upd (upd H21 dx3 (.own x3)) x3 (.ins CF dx3 [])) := fun b u e => by
      rw [upd_ne (ne_of_none e nx3), upd_ne (ne_of_none e ndx3)]
      exact e
    refine ⟨x3, q, dx3, t, rfl, upd_same, sN4 _ _ hq21, o, fun H22 vs3 pvs ascv fc22 oth5 => ⟨rfl, ?_⟩⟩
    have s2122 : Same H21 H22 := fun b u e => oth5 b u (ne_of_none e nx3) (sN4 _ _ e)
    have evs : us = vs3 := (asc_one ot (pvs.trans pts.symm) asc ascv).symm
    subst evs
    have hl122 := s2122 _ _ hl121
    have dl : (zs.drop 1).length = zs.length - 1 := List.length_drop
    refine chk_orV (fun v H' => ∃ (p : Addr) (vs : List Str), v = .ref p ∧ Same H22 H' ∧ H' p = some (.lst (vs.map V.str)) ∧ 1 ≤ vs.length ∧ vs.length ≤ 60 ∧ vs.length ≠ zs.length ∧ ∀ z ∈ vs, Pl us z) (fun v H' => ∃ p : Addr, v = .ref p ∧ Same H22 H' ∧ H' p = some (.lst ((zs.drop 1).map V.str))) (fun Q' kq => ?_) ?_ ?_
    · exact ⟨_, rfl, _, rfl, l1, _, rfl, SqL.of hl122, fun p np => kq _ _ ⟨p, rfl, same_new np, by rw [upd_same, cut1, List.map_drop]⟩⟩
    · rintro v H1 ⟨p, rfl, s, hp⟩
      cases e : zs.drop 1 with
      | nil =>
        rw [e] at hp dl
        have z1 : zs.length = 1 := by
          have : (0 : Nat) = zs.length - 1 := dl
          omega
        exact ⟨false, .inl ⟨_, SqL.of hp, rfl⟩, (fun h => by cases h), fun _ Q' kq => ⟨by show 2 ≤ sizeLine; omega, fun p2 np2 => kq _ _ ⟨p2, ["", ""], rfl, s.trans (same_new np2), upd_same, by decide, by decide, by rw [z1]; decide, fun z hz => .inl (by simpa using hz)⟩⟩⟩
      | cons y r =>
        rw [e] at hp
        have l1' : (y :: r).length = zs.length - 1 := by rw [← e]; exact dl
        exact ⟨true, .inl ⟨_, SqL.of hp, rfl⟩, fun _ => ⟨p, y :: r, rfl, s, hp, by rw [List.length_cons]; omega, by omega, by omega, fun z hz => plTS z (List.mem_of_mem_drop (by rw [e]; exact hz))⟩, fun h => by cases h⟩
    rintro v H23 ⟨p3, vs, rfl, s2223, hp3, v1', v60, vne, vpl⟩
    refine fun y3 dy3 ny3 ndy3 nyd3 => ?_
    have sN5 : Same H23 (upd (upd H23 dy3 (.own y3)) y3 (.ins CA dy3 [])) := fun b u e => by
      rw [upd_ne (ne_of_none e ny3), upd_ne (ne_of_none e ndy3)]
      exact e
    refine ⟨y3, x3, p3, dy3, us, vs, rfl, upd_same, (fc22.mono s2223).mono sN5, ot, sN5 _ _ hp3, v1', v60, vpl, fun H24 ac24 oth6 => ⟨rfl, ?_⟩⟩
    have s2324 : Same H23 H24 := fun b u e => oth6 b u (ne_of_none e ny3) (sN5 _ _ e)
    have s2224 := s2223.trans s2324
    have s2124 := s2122.trans s2224
    have dr24 := dr21.mono s2124
    have tb24 := tb21.ext s2124
    have aa24 := aa21.mono s2124
    have ab24 := ab21.mono s2124
    have fa24 := fa21.mono s2124
    have fb24 := fb21.mono s2124
    have fc24 := fc22.mono s2224
    have hq24 := s2124 _ _ hq21
    have hl124 := s2124 _ _ hl121
    have mat1 : matB us us zs vs = false := by
      unfold matB
      rw [decide_eq_false fun z => vne z.symm, Bool.and_false]
    have mat2 : matB us us vs zs' = false := by
      unfold matB
      rw [decide_eq_false fun z => vne (z.trans lz'), Bool.and_false]
    -- refused by the number of users
    refine ⟨tb24, fun H25 e25 tb25 => ⟨_, rfl, _, rfl, y, y3, x, x3, us, us, zs, vs, rfl, aa24.keepN dr24 (KeepN.of_ext e25), ac24.keepN dr24 (KeepN.of_ext e25), fa24.keepN dr24 (KeepN.of_ext e25), fc24.keepN dr24 (KeepN.of_ext e25), .inl ⟨mat1, fun H26 s26 => ⟨2, by decide, by rw [e2], .inl rfl, fun H27 s27 => ⟨rfl, _, rfl, ?_⟩⟩⟩⟩⟩
    refine iteF ?_
    have kx27 : KeepN d c H24 H27 := (KeepN.of_ext e25).trans (Keep.of_same (s26.trans s27)).n
    have dr27 := ((dr24.ext e25).mono s26).mono s27
    have tb27 := (tb25.ext s26).ext s27
    have ab27 := ab24.keepN dr24 kx27
    have ac27 := ac24.keepN dr24 kx27
    have fb27 := fb24.keepN dr24 kx27
    have fc27 := fc24.keepN dr24 kx27
    have hq27 := kx27.dk dr24 hq24
    have hl127 : H27 l1 = some (.lst (zs.map V.str)) := let ⟨a1, a2⟩ := dr24.notS hl124; kx27 _ _ a1 a2 hl124 (fun ps z => nomatch z)
    refine ⟨tb27, fun H28 e28 tb28 => ⟨_, rfl, _, rfl, y3, y2, x3, x2, us, us, vs, zs', rfl, ac27.keepN dr27 (KeepN.of_ext e28), ab27.keepN dr27 (KeepN.of_ext e28), fc27.keepN dr27 (KeepN.of_ext e28), fb27.keepN dr27 (KeepN.of_ext e28), .inl ⟨mat2, fun H29 s29 => ⟨2, by decide, by rw [e2], .inl rfl, fun H30 s30 => ⟨rfl, _, rfl, ?_⟩⟩⟩⟩⟩
    refine iteF ?_
    have kx30 : KeepN d c H27 H30 := (KeepN.of_ext e28).trans (Keep.of_same (s29.trans s30)).n
    have dr30 := ((dr27.ext e28).mono s29).mono s30
    have tb30 := (tb28.ext s29).ext s30
    have ab30 := ab27.keepN dr27 kx30
    have fb30 := fb27.keepN dr27 kx30
    have hq30 := kx30.dk dr27 hq27
    have hl130 : H30 l1 = some (.lst (zs.map V.str)) := let ⟨a1, a2⟩ := dr27.notS hl127; kx30 _ _ a1 a2 hl127 (fun ps z => nomatch z)
    -- odd
    dsimp only [tNext, tSeq, tAsg, tMake, tCons]
    refine chk_orV (fun v H' => ∃ (p : Addr) (t' : List (Str × Str)), v = .ref p ∧ Same H30 H' ∧ H' p = some (.dK (prs t')) ∧ TreeOk t' ∧ eqDK (prs t') (prs t) = false) (fun v H' => (v = .non ∧ Same H30 H') ∨ ∃ (p : Addr) (t' : List (Str × Str)), v = .ref p ∧ Same H30 H' ∧ H' p = some (.dK (prs t')) ∧ TreeOk t' ∧ eqDK (prs t') (prs t) = false)
      (fun Q' kq => ⟨_, rfl, q, t, rfl, hq30, o, fun H' s' => kq _ _ (.inl ⟨rfl, s'⟩), fun p t' H' s' np hp o' no => kq _ _ (.inr ⟨p, t', rfl, s', hp, o', no⟩)⟩) ?_ ?_
    · rintro v H1 (⟨rfl, s⟩ | ⟨p, t', rfl, s, hp, o', no⟩)
      · exact ⟨false, rfl, (fun h => by cases h), fun _ Q' kq pd npd => ⟨upd_same, [(Sum.inr "nobody", V.str "")], rfl, by show 1 ≤ 15; omega, kq _ _ ⟨pd, [("nobody", "")], rfl, (s.put (s.free npd)).put (s.free npd), upd_same, nobody_ok, nobody_no inp⟩⟩⟩
      · refine ⟨true, .inr (.inr ⟨_, hp, ?_⟩), fun _ => ⟨p, t', rfl, s, hp, o', no⟩, fun h => by cases h⟩
        have l1' := o'.one
        rw [← prs_len] at l1'
        cases e : prs t' with
        | nil => rw [e] at l1'; exact absurd l1' (by decide)
        | cons y r => rfl
    rintro v H31 ⟨p5, t5, rfl, s3031, hp5, o5, no5⟩
    refine fun x5 dx5 nx5 ndx5 nxd5 => ?_
    have sN6 : Same H31 (upd (upd H31 dx5 (.own x5)) x5 (.ins CF dx5 [])) := fun b u e => by
      rw [upd_ne (ne_of_none e nx5), upd_ne (ne_of_none e ndx5)]
      exact e
    refine ⟨x5, p5, dx5, t5, rfl, upd_same, sN6 _ _ hp5, o5, fun H32 ts5 pts5 asc5 fe32 oth7 => ⟨rfl, ?_⟩⟩
    have s3132 : Same H31 H32 := fun b u e => oth7 b u (ne_of_none e nx5) (sN6 _ _ e)
    have s3032 := s3031.trans s3132
    have hl132 := s3032 _ _ hl130
    have lzm : (zs.map V.str).length = zs.length := List.length_map _
    have ot5 : TreeOk ts5 := o5.perm pts5.symm
    refine ⟨by show 1 ≤ sizeLine; omega, fun pb npb => ⟨_, rfl, l1, _, rfl, .inl (SqL.of (same_new npb _ _ hl132)), pb, ((zs.map V.str).length : Int), _, rfl, rfl, upd_same, by omega, by omega, ?_, fun pw npw => ?_⟩⟩
    · show 1 * _ ≤ sizeLine
      omega
    rw [Int.toNat_natCast, rep_strs2]
    have sb1 := same_new (o := .lst [V.str ("" : Str)]) npb
    have sb2 := same_new (o := .lst ((List.replicate (zs.map V.str).length ("" : Str)).map V.str)) npw
    obtain ⟨H33, e33⟩ : ∃ X, X = upd (upd H32 pb (.lst [V.str ("" : Str)])) pw (.lst ((List.replicate (zs.map V.str).length ("" : Str)).map V.str)) := ⟨_, rfl⟩
    have s3233 : Same H32 H33 := e33 ▸ sb1.trans sb2
    have hw33 : H33 pw = some (.lst ((List.replicate (zs.map V.str).length ("" : Str)).map V.str)) := by rw [e33]; exact upd_same
    rw [← e33]
    clear e33
    refine fun y5 dy5 ny5 ndy5 nyd5 => ?_
    have sN7 : Same H33 (upd (upd H33 dy5 (.own y5)) y5 (.ins CA dy5 [])) := fun b u e => by
      rw [upd_ne (ne_of_none e ny5), upd_ne (ne_of_none e ndy5)]
      exact e
    refine ⟨y5, x5, pw, dy5, ts5, List.replicate (zs.map V.str).length ("" : Str), rfl, upd_same, (fe32.mono s3233).mono sN7, ot5, sN7 _ _ hw33, by rw [List.length_replicate]; omega, by rw [List.length_replicate]; omega, fun z hz => .inl (List.eq_of_mem_replicate hz), fun H34 ae34 oth8 => ⟨rfl, ?_⟩⟩
    have s3334 : Same H33 H34 := fun b u e => oth8 b u (ne_of_none e ny5) (sN7 _ _ e)
    have s3234 := s3233.trans s3334
    have s3034 := s3032.trans s3234
    have dr34 := dr30.mono s3034
    have tb34 := tb30.ext s3034
    have ab34 := ab30.mono s3034
    have fb34 := fb30.mono s3034
    have fe34 := fe32.mono s3234
    obtain ⟨no1, no2⟩ := eqDK_no o5 o pts5 pts no5
    have mat3 : matB ts5 us (List.replicate (zs.map V.str).length ("" : Str)) zs' = false := by
      unfold matB
      rw [no1, Bool.false_and]
    have mat4 : matB us ts5 zs' (List.replicate (zs.map V.str).length ("" : Str)) = false := by
      unfold matB
      rw [no2, Bool.false_and]
    refine ⟨tb34, fun H35 e35 tb35 => ⟨_, rfl, _, rfl, y5, y2, x5, x2, ts5, us, _, zs', rfl, ae34.keepN dr34 (KeepN.of_ext e35), ab34.keepN dr34 (KeepN.of_ext e35), fe34.keepN dr34 (KeepN.of_ext e35), fb34.keepN dr34 (KeepN.of_ext e35), .inl ⟨mat3, fun H36 s36 => ⟨2, by decide, by rw [e2], .inl rfl, fun H37 s37 => ⟨rfl, _, rfl, ?_⟩⟩⟩⟩⟩
    refine iteF ?_
    have kx37 : KeepN d c H34 H37 := (KeepN.of_ext e35).trans (Keep.of_same (s36.trans s37)).n
    have dr37 := ((dr34.ext e35).mono s36).mono s37
    have tb37 := (tb35.ext s36).ext s37
    have ab37 := ab34.keepN dr34 kx37
    have ae37 := ae34.keepN dr34 kx37
    have fb37 := fb34.keepN dr34 kx37
    have fe37 := fe34.keepN dr34 kx37
    refine ⟨tb37, fun H38 e38 tb38 => ⟨_, rfl, _, rfl, y2, y5, x2, x5, us, ts5, zs', _, rfl, ab37.keepN dr37 (KeepN.of_ext e38), ae37.keepN dr37 (KeepN.of_ext e38), fb37.keepN dr37 (KeepN.of_ext e38), fe37.keepN dr37 (KeepN.of_ext e38), .inl ⟨mat4, fun H39 s39 => ⟨2, by decide, by rw [e2], .inl rfl, fun H40 s40 => ⟨rfl, _, rfl, ?_⟩⟩⟩⟩⟩
    exact iteF ⟨⟨_, _, _, _, _, _, _, _, _, _, _, _, rfl⟩, ((dr37.ext e38).mono s39).mono s40, (tb38.ext s39).ext s40⟩
end
end FT


/-! Own: C.m(..) where m is a staticmethod of the class. -/
namespace L2
open PySem PySem.Spec PyProof.Rows
/-- C.m is a staticmethod: its record at p, its def at f -/
structure SMet (K : PySem.W.Frag) (C : Addr) (mc : Value) (m : Str) (p f : Addr) : Prop where
  at_ : PySem.W.findCls K (.ref C) mc m = some (.get (.builtin "staticmethod.__get__") (.ref p) .none (.ref C))
  rc : ∃ rest, PySem.W.recIn K p "staticmethod" = some (.ref f :: rest)
def tSMeth (C : Addr) (sp : Sp) (dvs : List V) (E : XK) (ta : TE) (t : TA) : TE := fun σ H Q => ta σ H fun x H1 => x = .ref C ∧ t σ H1 fun vs H2 => sp (vs ++ dvs) H2 Q E
section
variable {X : Cx} {CX : CXT} {k : Nat} {C p f : Addr} {mc : Value} {fd : FuncData} {ps : List Str} {sp : Sp} {dvs : List V} {ds : List Value} {E : XK} {o e : Expr} {es : List Expr} {m : Str} {pos apos : Pos} {ta : TE} {t : TA} {pl : Sem Bool}
theorem pe_smeth (he : PE X o ta) (r : ClX.CRead X.K C mc) (c : SMet X.K C mc m p f) (F : FnOk X.prog X.w X.K X.mg X.base CX k f fd ps sp) (hr : Room k X.A) (hk : PySem.W.keepIn X.K (.ref f) = true) (hb : Binds X.K fd ps ds) (hd : Vals dvs ds) (hx : Passes CX X E) (ha : PA X (e :: es) t)
    (one : starEach (e :: es) X.env = (false, eval e X.env) :: starEach es X.env := by rfl) (plain : (backTo pos (starEach es X.env)).any (·.1) = false := by rfl)
    (ev : eval (.Call (.Attribute o m apos) (e :: es) [] pos) X.env = (do
      let u ← eval o X.env
      standAt apos.atName
      let (g, first) ← holding [u] (getMethod u m pl)
      callWith pos g first (backTo pos (starEach (e :: es) X.env)) (backToKw pos (keywordEach [] X.env))) := by rfl) :
    PE X (.Call (.Attribute o m apos) (e :: es) [] pos) (tSMeth C sp dvs E ta t) := by
  refine ⟨fun pins s σ H Q I h => ?_⟩
  refine PySem.W.methodCall_KW (pl := pl) (thn (he.run pins s σ H _ I h) fun u s1 ⟨x, H1, J, rx, ex, q⟩ => ?_) ev
  subst ex
  obtain rfl : u = Value.ref C := rx
  obtain ⟨rest, hp⟩ := c.rc
  refine PySem.W.method_cls J.kIn r.ga (PySem.W.cls_bind J.kIn r.rd c.at_ (wpAny_call (PySem.W.sm_get (s := { s1 with toks := s1.toks + 1 }) J.kIn hp (PySem.W.handed_on rfl ?_))))
  refine PySem.W.callWith_K (h₀ := X.base) J.ok.mod.kin hk (thn (ha.run pos pins _ σ H1 _ (J.tok _) q) fun us s2 ⟨vs, H2, J2, rel, want⟩ => ⟨J2.kIn, ?_⟩) one plain
  have r2 : Vals (vs ++ dvs) (us ++ ds) := rel.append hd
  have len : (us ++ ds).length = ps.length := r2.length.symm.trans (F.len _ _ _ _ want)
  refine wpAny_call (codeAny_mono (F.run X.A X.stack s2 H2 ⟨us, []⟩ (us ++ ds) (vs ++ dvs) Q E hr J2.env0 (hb s2 us J2.kIn len) r2 want) fun r s' z => ?_)
  match r, z with
  | .error er, z => exact hx pins σ H2 s2 er s' J2 z
  | .ok (.ret u), z => exact J2.after z
  | .ok .next, z => exact z.elim
  | .ok .brk, z => exact z.elim
  | .ok .cont, z => exact z.elim
end
end L2


/-! what the module's top says of classes, of defs: the form that the row's end asks for. -/
namespace FT
open PySem L2 TL ClX
abbrev exTail : List Value := [.type "ValueError", .type "Exception", .type "BaseException", .type "object"]
/-- an own class at C, its chain behind it -/
def ClsAt (K : PySem.W.Frag) (C : Addr) (bm : List Value) : Prop := ∃ nm q N bs sn sub ab col dd k0 k1 k2 k3 k5, K.lookup C = some (excClassObj nm q C N bs bm true sn sub ab col dd k0 k1 k2 k3 k5 "ValueError.__new__")
section
variable {K : PySem.W.Frag} {C : Addr} {bm : List Value}
theorem ClsAt.cls (h : ClsAt K C bm) : ∃ cd : ClassData, PySem.W.clsIn K C = some cd ∧ cd.mro = .ref C :: bm ∧ cd.hasDict = true := by
  obtain ⟨nm, q, N, bs, sn, sub, ab, col, dd, k0, k1, k2, k3, k5, e⟩ := h
  refine ⟨{ name := nm, bases := bs, mro := .ref C :: bm, ns := N, qualname := q, hasDict := true, slotNames := sn, subclasses := sub, abstract := ab, collection := col }, ?_, rfl, rfl⟩
  unfold PySem.W.clsIn
  rw [e]
theorem ClsAt.ty (h : ClsAt K C bm) : PySem.W.typeIn K (.ref C) = some (.type "type") := by
  obtain ⟨nm, q, N, bs, sn, sub, ab, col, dd, k0, k1, k2, k3, k5, e⟩ := h
  show (K.lookup C).map (·.cls) = _
  rw [e] <;> rfl
theorem ClsAt.mroIs (h : ClsAt K C bm) (b : Value) : PySem.W.mroIn K C b = some ((Value.ref C :: bm).contains b) := by
  obtain ⟨cd, e1, e2, _⟩ := h.cls
  unfold PySem.W.mroIn
  rw [e1]
  show (if cd.mro.isEmpty then none else some (cd.mro.contains b)) = _
  rw [e2] <;> rfl
theorem ClsAt.sub (h : ClsAt K C bm) (b : Value) : PySem.W.subIn K (.ref C) b = some ((Value.ref C :: bm).contains b) := h.mroIs b
theorem ClsAt.hd (h : ClsAt K C bm) : PySem.W.hasDictIn K C = true := by
  obtain ⟨cd, e1, _, e3⟩ := h.cls
  show (PySem.W.clsIn K C).any (·.hasDict) = true
  rw [e1]
  exact e3
theorem ClsAt.isC (h : ClsAt K C bm) : (PySem.W.clsIn K C).isSome = true := by
  obtain ⟨cd, e1, _⟩ := h.cls
  rw [e1] <;> rfl
/-- isinstance of the class at C against the class at D -/
theorem ClsAt.kit {D : Addr} {bn : List Value} (h : ClsAt K C bm) (g : ClsAt K D bn) : PySem.W.kitOne K (.ref C) (.ref D) = some ((Value.ref C :: bm).contains (.ref D)) := by
  unfold PySem.W.kitOne
  by_cases e : (Value.ref C == Value.ref D) = true
  · rw [if_pos e, beq_iff_eq.mp e, List.contains_cons, beq_self_eq_true] <;> rfl
  · rw [if_neg e]
    have e2 : ((PySem.W.clsIn K D).isSome && PySem.W.typeIn K (.ref D) == some (.type "type")) = true := by rw [g.isC, g.ty] <;> rfl
    show (if _ then PySem.W.subIn K (.ref C) (.ref D) else none) = _
    rw [if_pos e2, h.sub]
theorem ClsAt.exm {D : Addr} {bn : List Value} (h : ClsAt K C bm) (g : ClsAt K D bn) (eD : (Value.ref D :: bn).contains (.type "BaseException") = true) : PySem.W.exmOne K (.ref C) (.ref D) = some ((Value.ref C :: bm).contains (.ref D)) :=
  PySem.W.exm_ref (by rw [g.sub, eD]) g.hd g.ty (h.sub _)
end
/-- what the top says of one error class -/
structure ClsF (K : PySem.W.Frag) (nm f : Str) (C I R : Addr) : Prop where
  nsn : PySem.W.nsIn K mainGlobals nm = some (some (.ref C))
  at_ : ClsAt K C (.ref R :: exTail)
  sa : PySem.W.findIn K (.ref C) "__setattr__" = some (some (.builtin "object.__setattr__"))
  ga : PySem.W.findIn K (.ref C) "__getattribute__" = some (some (.builtin "BaseException.__getattribute__"))
  gg : PySem.W.findIn K (.ref C) "__getattr__" = some none
  ha : PySem.W.findIn K (.ref C) "__class__" = some (some (.builtin "object.__class__"))
  kC : PySem.W.keepIn K (.ref C) = true
  no : PySem.W.findIn K (.ref C) f = some none
  ini : PySem.W.findIn K (.ref C) "__init__" = some (some (.ref I))
  ity : PySem.W.typeIn K (.ref I) = some (.type "function")
/-- and of what they share -/
structure RootF (K : PySem.W.Frag) (R : Addr) : Prop where
  nsn : PySem.W.nsIn K mainGlobals "RolloutError" = some (some (.ref R))
  at_ : ClsAt K R exTail
  rd : PySem.W.readsIn K R (.type "type") = true
  ga : PySem.W.specialIn K (.ref R) "__getattribute__" = some (some (.builtin "type.__getattribute__"))
  ini : PySem.W.findCls K (.ref R) (.type "type") "__init__" = some (.val (.builtin "ValueError.__init__"))
  hn : PySem.W.specialIn K (.builtin "object.__class__") "__get__" = some (some (.builtin "getset_descriptor.__get__"))
  ht : PySem.W.takesIn K (.builtin "object.__class__") = some true
theorem ClsF.x {K : PySem.W.Frag} {nm f : Str} {C I R : Addr} (c : ClsF K nm f C I R) (r : RootF K R) : XCls K C where
  cls := by
    obtain ⟨nm, q, N, bs, sn, sub, ab, col, dd, k0, k1, k2, k3, k5, e⟩ := c.at_
    exact ⟨nm, q, N, bs, _, sn, sub, ab, col, dd, k0, k1, k2, k3, k5, e, rfl⟩
  sa := c.sa
  exC := by rw [c.at_.sub] <;> rfl
  tyC := c.at_.ty
  kC := c.kC
  ga := c.ga
  gg := c.gg
  hdC := c.at_.hd
  ha := c.ha
  hn := r.hn
  ht := r.ht
  hm := by rw [c.at_.mroIs] <;> rfl
theorem has_cls {C R D : Addr} {b : Bool} (h : decide (C = D) = b) (n : R ≠ D) : (Value.ref C :: Value.ref R :: exTail).contains (.ref D) = b := by
  subst h
  by_cases e : C = D
  · subst e
    rw [List.contains_cons, beq_self_eq_true, decide_eq_true rfl] <;> rfl
  · have e1 : (Value.ref D == Value.ref C) = false := beq_eq_false_iff_ne.mpr fun z => e (Value.ref.inj z).symm
    have e2 : (Value.ref D == Value.ref R) = false := beq_eq_false_iff_ne.mpr fun z => n (Value.ref.inj z).symm
    rw [decide_eq_false e, List.contains_cons, e1, List.contains_cons, e2] <;> rfl
theorem has_root {C R : Addr} : (Value.ref C :: Value.ref R :: exTail).contains (.ref R) = true := by
  rw [List.contains_cons, List.contains_cons, beq_self_eq_true, Bool.true_or, Bool.or_true]
theorem kit_bt {K : PySem.W.Frag} {C R : Addr} (c : ClsAt K C (.ref R :: exTail)) : PySem.W.kitOne K (.ref C) (.type "ValueError") = some true := by
  unfold PySem.W.kitOne
  rw [if_neg (show ¬ (Value.ref C == Value.type "ValueError") = true from fun z => nomatch (show false = true from z))]
  have e2 : PySem.W.kitMeta "ValueError" = true := by decide +kernel
  show (if PySem.W.kitMeta "ValueError" = true then PySem.W.subIn K (.ref C) (.type "ValueError") else none) = _
  rw [if_pos e2, c.sub] <;> rfl
/-- what the top says of a class with a constant MOST -/
structure ClsK (K : PySem.W.Frag) (nm : Str) (C : Addr) (n : Int) (t : Nat) : Prop where
  nsn : PySem.W.nsIn K mainGlobals nm = some (some (.ref C))
  rd : PySem.W.readsIn K C (.type "type") = true
  ga : PySem.W.specialIn K (.ref C) "__getattribute__" = some (some (.builtin "type.__getattribute__"))
  most : PySem.W.findCls K (.ref C) (.type "type") "MOST" = some (.val (.int n t))
  pg : PySem.W.plainGet K C Str.empty = true
  hd : PySem.W.hasDictIn K C = true
  po : PySem.W.plainOver K C = true
  sa : PySem.W.findIn K (.ref C) "__setattr__" = some (some (.builtin "object.__setattr__"))
  mks : PySem.W.makesIn K C = true
  kp : PySem.W.keepIn K (.ref C) = true
  ha : PySem.W.findIn K (.ref C) "__class__" = some (some (.builtin "object.__class__"))
  hn : PySem.W.specialIn K (.builtin "object.__class__") "__get__" = some (some (.builtin "getset_descriptor.__get__"))
  ht : PySem.W.takesIn K (.builtin "object.__class__") = some true
  hm : PySem.W.mroIn K C (.type "object") = some true
/-- a method -/
structure MetK (K : PySem.W.Frag) (C : Addr) (m : Str) (f : Addr) : Prop where
  at_ : PySem.W.findIn K (.ref C) m = some (some (.ref f))
  fn : PySem.W.isFn K (.ref f) = true
/-- a property -/
structure PrK (K : PySem.W.Frag) (C : Addr) (m : Str) (p g : Addr) (rest : List Value) : Prop where
  at_ : PySem.W.findIn K (.ref C) m = some (some (.ref p))
  get : PySem.W.specialIn K (.ref p) "__get__" = some (some (.builtin "property.__get__"))
  tak : PySem.W.takesIn K (.ref p) = some true
  rec_ : PySem.W.recIn K p "property" = some (.ref g :: rest)
theorem ClsF.er {K : PySem.W.Frag} {h : Heap} {mg : Str → Option Value} {nm f : Str} {C I R : Addr} (X : K.In h) (G : h.Ns mainGlobals mg) (c : ClsF K nm f C I R) (r : RootF K R) : Er K mg nm f C I :=
  ⟨PySem.W.mg_of X G c.nsn, c.x r, c.ini, c.ity, c.no⟩
theorem RootF.rt {K : PySem.W.Frag} {h : Heap} {mg : Str → Option Value} {R : Addr} (X : K.In h) (G : h.Ns mainGlobals mg) (r : RootF K R) : Rt K mg R := ⟨PySem.W.mg_of X G r.nsn, ⟨r.rd, r.ga, r.ini⟩⟩
theorem ClsK.fc {K : PySem.W.Frag} {h : Heap} {mg : Str → Option Value} {CF : Addr} {t t2 : Nat} (X : K.In h) (G : h.Ns mainGlobals mg) (k : ClsK K "Forest" CF 12 t) (root : PySem.W.findCls K (.ref CF) (.type "type") "ROOT" = some (.val (.str "" t2))) : Fc K mg CF (.type "type") :=
  ⟨PySem.W.mg_of X G k.nsn, ⟨k.rd, k.ga⟩, ⟨_, k.most, ⟨_, rfl⟩⟩, ⟨_, root, ⟨_, rfl⟩⟩⟩
theorem ClsK.cls {K : PySem.W.Frag} {nm : Str} {C : Addr} {n : Int} {t : Nat} (k : ClsK K nm C n t) : Cls K C := ⟨k.pg, k.hd, k.po, k.sa⟩
/-- an int that the top computes -/
theorem loose_int {p : Program} {lv : List (Str × PySem.W.WData)} {mg : Str → Option Value} {h : Heap} {nm : Str} {n : Int} (x : PySem.W.XL p lv mg h) (m : (nm, PySem.W.WData.int n) ∈ lv) : ∃ t, mg nm = some (.int n t) := by
  obtain ⟨v, e, r⟩ := x.2.val _ m
  cases r with
  | int i t => exact ⟨t, e⟩
/-- a def with its code object and the table of that -/
structure TabK (K : PySem.W.Frag) (x : Str) (c P : Addr) : Prop where
  at_ : PySem.W.tabIn K x = some (c, P)
  no : K.lookup P = none
end FT


/-! what the top says of a class without a constant, of a static method -/
namespace FT
open PySem L2 TL ClX
structure ClsN (K : PySem.W.Frag) (nm : Str) (C : Addr) : Prop where
  nsn : PySem.W.nsIn K mainGlobals nm = some (some (.ref C))
  rd : PySem.W.readsIn K C (.type "type") = true
  ga : PySem.W.specialIn K (.ref C) "__getattribute__" = some (some (.builtin "type.__getattribute__"))
  pg : PySem.W.plainGet K C Str.empty = true
  hd : PySem.W.hasDictIn K C = true
  po : PySem.W.plainOver K C = true
  sa : PySem.W.findIn K (.ref C) "__setattr__" = some (some (.builtin "object.__setattr__"))
  mks : PySem.W.makesIn K C = true
  kp : PySem.W.keepIn K (.ref C) = true
theorem ClsN.cls {K : PySem.W.Frag} {nm : Str} {C : Addr} (k : ClsN K nm C) : Cls K C := ⟨k.pg, k.hd, k.po, k.sa⟩
/-- a static method -/
structure StK (K : PySem.W.Frag) (C : Addr) (m : Str) (p f : Addr) (rest : List Value) : Prop where
  at_ : PySem.W.findCls K (.ref C) (.type "type") m = some (.get (.builtin "staticmethod.__get__") (.ref p) .none (.ref C))
  rec_ : PySem.W.recIn K p "staticmethod" = some (.ref f :: rest)
theorem StK.sm {K : PySem.W.Frag} {C p f : Addr} {m : Str} {rest : List Value} (s : StK K C m p f rest) : SMet K C (.type "type") m p f := ⟨s.at_, _, s.rec_⟩
end FT


namespace FT
open PySem PySem.Spec PyProof.Rows L2 TL ClX LamX NdefX
section
variable {q : Program} {l : PySem.W.OpenLaw} {w : World} {K : PySem.W.Frag} {h : Heap} {mg : Str → Option Value} {fa : Addr}
theorem all_mk {f_bgA f_dtA f_dpA f_doA f_nmP f_paP f_phA f_szA f_isn f_isa f_nd f_fi f_ai f_fl f_po f_fp f_rs f_ii f_nf f_ao f_cr f_eo f_af f_at f_pi f_so f_as f_np f_aat f_be f_ap f_drA f_ltA f_evA f_faA f_ifA f_opA f_feB f_nmE f_nfl f_aus f_trE f_ibE f_erA f_law p_fl p_fp p_af p_at p_as p_ap C_InvalidUsers C_InvalidSizes C_Mismatch C_InvalidNumber C_NotBest I_InvalidUsers I_InvalidSizes I_Mismatch I_InvalidNumber I_NotBest R c_szA c_law t_szA t_law CF CA : Addr} {d_bgA d_dtA d_dpA d_doA d_nmP d_paP d_phA d_szA d_isn d_isa d_nd d_fi d_ai d_fl d_po d_fp d_rs d_ii d_nf d_ao d_cr d_eo d_af d_at d_pi d_so d_as d_np d_aat d_be d_ap d_drA d_ltA d_evA d_faA d_ifA d_opA d_feB d_nmE d_nfl d_aus d_trE d_ibE d_erA d_law D_InvalidUsers D_InvalidSizes D_Mismatch D_InvalidNumber D_NotBest : FuncData} {tL tT tR tCF tCA : Nat} {r_fl r_fp r_af r_at r_as r_ap : List Value} (X : K.In h) (G : h.Ns mainGlobals mg) (hfa : mg "law" = some (.ref fa)) (TO : TabsOf q K h)
    (kCF : ClsK K "Forest" CF 12 tCF)
    (noCF_above : PySem.W.findIn K (.ref CF) "above" = some none)
    (kCA : ClsK K "Assignment" CA 60 tCA)
    (noCA_own_forest : PySem.W.findIn K (.ref CA) "own_forest" = some none)
    (noCA_own_places : PySem.W.findIn K (.ref CA) "own_places" = some none)
    (root : PySem.W.findCls K (.ref CF) (.type "type") "ROOT" = some (.val (.str "" tR)))
    (cL : PySem.W.nsIn K mainGlobals "LONGEST" = some (some (.int 8 tL)))
    (cT : PySem.W.nsIn K mainGlobals "LETTERS" = some (some (.str letters tT)))
    (n_bgA : PySem.W.nsIn K mainGlobals "_law_begin" = some (some (.ref f_bgA)))
    (u_bgA : L2.Fun K "_law_begin" "_law_begin" s__law_begin f_bgA d_bgA)
    (n_dtA : PySem.W.nsIn K mainGlobals "_law_take" = some (some (.ref f_dtA)))
    (u_dtA : L2.Fun K "_law_take" "_law_take" s__law_take f_dtA d_dtA)
    (n_dpA : PySem.W.nsIn K mainGlobals "_law_pick" = some (some (.ref f_dpA)))
    (u_dpA : L2.Fun K "_law_pick" "_law_pick" s__law_pick f_dpA d_dpA)
    (n_doA : PySem.W.nsIn K mainGlobals "_law_order" = some (some (.ref f_doA)))
    (u_doA : L2.Fun K "_law_order" "_law_order" s__law_order f_doA d_doA)
    (n_nmP : PySem.W.nsIn K mainGlobals "_law_names" = some (some (.ref f_nmP)))
    (u_nmP : L2.Fun K "_law_names" "_law_names" s__law_names f_nmP d_nmP)
    (n_paP : PySem.W.nsIn K mainGlobals "_law_parents" = some (some (.ref f_paP)))
    (u_paP : L2.Fun K "_law_parents" "_law_parents" s__law_parents f_paP d_paP)
    (n_phA : PySem.W.nsIn K mainGlobals "_law_path" = some (some (.ref f_phA)))
    (u_phA : L2.Fun K "_law_path" "_law_path" s__law_path f_phA d_phA)
    (n_szA : PySem.W.nsIn K mainGlobals "_law_sizes" = some (some (.ref f_szA)))
    (u_szA : FunC K "_law_sizes" "_law_sizes" s__law_sizes f_szA d_szA c_szA)
    (t1_szA : PySem.W.tabIn K "_law_sizes" = some (c_szA, t_szA))
    (t2_szA : K.lookup t_szA = none)
    (t3_szA : ((recsOf q).find? (fun e => e.name == ("_law_sizes" : Str))).isSome = true)
    (n_isn : PySem.W.nsIn K mainGlobals "is_name" = some (some (.ref f_isn)))
    (u_isn : L2.Fun K "is_name" "is_name" s_is_name f_isn d_isn)
    (n_isa : PySem.W.nsIn K mainGlobals "is_ancestor" = some (some (.ref f_isa)))
    (u_isa : L2.Fun K "is_ancestor" "is_ancestor" s_is_ancestor f_isa d_isa)
    (n_nd : PySem.W.nsIn K mainGlobals "need_parents" = some (some (.ref f_nd)))
    (u_nd : L2.Fun K "need_parents" "need_parents" s_need_parents f_nd d_nd)
    (n_po : PySem.W.nsIn K mainGlobals "places_of" = some (some (.ref f_po)))
    (u_po : L2.Fun K "places_of" "places_of" s_places_of f_po d_po)
    (n_rs : PySem.W.nsIn K mainGlobals "residents_of" = some (some (.ref f_rs)))
    (u_rs : L2.Fun K "residents_of" "residents_of" s_residents_of f_rs d_rs)
    (n_ii : PySem.W.nsIn K mainGlobals "is_integer" = some (some (.ref f_ii)))
    (u_ii : L2.Fun K "is_integer" "is_integer" s_is_integer f_ii d_ii)
    (n_nf : PySem.W.nsIn K mainGlobals "need_feasible" = some (some (.ref f_nf)))
    (u_nf : L2.Fun K "need_feasible" "need_feasible" s_need_feasible f_nf d_nf)
    (n_ao : PySem.W.nsIn K mainGlobals "amounts_of" = some (some (.ref f_ao)))
    (u_ao : L2.Fun K "amounts_of" "amounts_of" s_amounts_of f_ao d_ao)
    (n_cr : PySem.W.nsIn K mainGlobals "crossings" = some (some (.ref f_cr)))
    (u_cr : L2.Fun K "crossings" "crossings" s_crossings f_cr d_cr)
    (n_eo : PySem.W.nsIn K mainGlobals "edge_order" = some (some (.ref f_eo)))
    (u_eo : L2.Fun K "edge_order" "edge_order" s_edge_order f_eo d_eo)
    (n_pi : PySem.W.nsIn K mainGlobals "path_in" = some (some (.ref f_pi)))
    (u_pi : L2.Fun K "path_in" "path_in" s_path_in f_pi d_pi)
    (n_so : PySem.W.nsIn K mainGlobals "sizes_of" = some (some (.ref f_so)))
    (u_so : L2.Fun K "sizes_of" "sizes_of" s_sizes_of f_so d_so)
    (n_np : PySem.W.nsIn K mainGlobals "need_place" = some (some (.ref f_np)))
    (u_np : L2.Fun K "need_place" "need_place" s_need_place f_np d_np)
    (n_be : PySem.W.nsIn K mainGlobals "best" = some (some (.ref f_be)))
    (u_be : L2.Fun K "best" "best" s_best f_be d_be)
    (n_drA : PySem.W.nsIn K mainGlobals "_law_drawn" = some (some (.ref f_drA)))
    (u_drA : L2.Fun K "_law_drawn" "_law_drawn" s__law_drawn f_drA d_drA)
    (n_ltA : PySem.W.nsIn K mainGlobals "_law_traffic" = some (some (.ref f_ltA)))
    (u_ltA : L2.Fun K "_law_traffic" "_law_traffic" s__law_traffic f_ltA d_ltA)
    (n_evA : PySem.W.nsIn K mainGlobals "_law_every" = some (some (.ref f_evA)))
    (u_evA : L2.Fun K "_law_every" "_law_every" s__law_every f_evA d_evA)
    (n_faA : PySem.W.nsIn K mainGlobals "_law_far" = some (some (.ref f_faA)))
    (u_faA : L2.Fun K "_law_far" "_law_far" s__law_far f_faA d_faA)
    (n_ifA : PySem.W.nsIn K mainGlobals "_law_is_fewest" = some (some (.ref f_ifA)))
    (u_ifA : L2.Fun K "_law_is_fewest" "_law_is_fewest" s__law_is_fewest f_ifA d_ifA)
    (n_opA : PySem.W.nsIn K mainGlobals "_law_other_parents" = some (some (.ref f_opA)))
    (u_opA : L2.Fun K "_law_other_parents" "_law_other_parents" s__law_other_parents f_opA d_opA)
    (n_nmE : PySem.W.nsIn K mainGlobals "need_match" = some (some (.ref f_nmE)))
    (u_nmE : L2.Fun K "need_match" "need_match" s_need_match f_nmE d_nmE)
    (n_nfl : PySem.W.nsIn K mainGlobals "need_flag" = some (some (.ref f_nfl)))
    (u_nfl : L2.Fun K "need_flag" "need_flag" s_need_flag f_nfl d_nfl)
    (n_trE : PySem.W.nsIn K mainGlobals "traffic" = some (some (.ref f_trE)))
    (u_trE : L2.Fun K "traffic" "traffic" s_traffic f_trE d_trE)
    (n_ibE : PySem.W.nsIn K mainGlobals "is_best" = some (some (.ref f_ibE)))
    (u_ibE : L2.Fun K "is_best" "is_best" s_is_best f_ibE d_ibE)
    (n_erA : PySem.W.nsIn K mainGlobals "_law_error" = some (some (.ref f_erA)))
    (u_erA : L2.Fun K "_law_error" "_law_error" s__law_error f_erA d_erA)
    (n_law : PySem.W.nsIn K mainGlobals "law" = some (some (.ref f_law)))
    (u_law : FunC K "law" "law" s_law f_law d_law c_law)
    (t1_law : PySem.W.tabIn K "law" = some (c_law, t_law))
    (t2_law : K.lookup t_law = none)
    (t3_law : ((recsOf q).find? (fun e => e.name == ("law" : Str))).isSome = true)
    (ne_szA_law : t_szA ≠ t_law)
    (m_fi : MetK K CF "__init__" f_fi)
    (m_ai : MetK K CA "__init__" f_ai)
    (m_aat : MetK K CA "at" f_aat)
    (m_feB : MetK K CF "__eq__" f_feB)
    (m_aus : MetK K CA "users_of" f_aus)
    (m_fl : PrK K CF "flags" p_fl f_fl r_fl)
    (m_fp : PrK K CF "parents" p_fp f_fp r_fp)
    (m_af : PrK K CA "forest" p_af f_af r_af)
    (m_at : PrK K CA "total" p_at f_at r_at)
    (m_as : PrK K CA "sizes" p_as f_as r_as)
    (m_ap : PrK K CA "places" p_ap f_ap r_ap)
    (eF_CF : EqF K CF f_feB)
    (u_fi : L2.Fun K "__init__" "Forest.__init__" s_Forest___init__ f_fi d_fi)
    (u_ai : L2.Fun K "__init__" "Assignment.__init__" s_Assignment___init__ f_ai d_ai)
    (u_aat : L2.Fun K "at" "Assignment.at" s_Assignment_at f_aat d_aat)
    (u_feB : L2.Fun K "__eq__" "Forest.__eq__" s_Forest___eq__ f_feB d_feB)
    (u_aus : L2.Fun K "users_of" "Assignment.users_of" s_Assignment_users_of f_aus d_aus)
    (u_fl : L2.Fun K "flags" "Forest.flags" s_Forest_flags f_fl d_fl)
    (u_fp : L2.Fun K "parents" "Forest.parents" s_Forest_parents f_fp d_fp)
    (u_af : L2.Fun K "forest" "Assignment.forest" s_Assignment_forest f_af d_af)
    (u_at : L2.Fun K "total" "Assignment.total" s_Assignment_total f_at d_at)
    (u_as : L2.Fun K "sizes" "Assignment.sizes" s_Assignment_sizes f_as d_as)
    (u_ap : L2.Fun K "places" "Assignment.places" s_Assignment_places f_ap d_ap)
    (rt0 : RootF K R)
    (e_InvalidUsers : ClsF K "InvalidUsers" "" C_InvalidUsers I_InvalidUsers R)
    (i_InvalidUsers : L2.Fun K "__init__" "InvalidUsers.__init__" s_InvalidUsers___init__ I_InvalidUsers D_InvalidUsers)
    (e_InvalidSizes : ClsF K "InvalidSizes" "place" C_InvalidSizes I_InvalidSizes R)
    (i_InvalidSizes : L2.Fun K "__init__" "InvalidSizes.__init__" s_InvalidSizes___init__ I_InvalidSizes D_InvalidSizes)
    (e_Mismatch : ClsF K "Mismatch" "" C_Mismatch I_Mismatch R)
    (i_Mismatch : L2.Fun K "__init__" "Mismatch.__init__" s_Mismatch___init__ I_Mismatch D_Mismatch)
    (e_InvalidNumber : ClsF K "InvalidNumber" "" C_InvalidNumber I_InvalidNumber R)
    (i_InvalidNumber : L2.Fun K "__init__" "InvalidNumber.__init__" s_InvalidNumber___init__ I_InvalidNumber D_InvalidNumber)
    (e_NotBest : ClsF K "NotBest" "" C_NotBest I_NotBest R)
    (i_NotBest : L2.Fun K "__init__" "NotBest.__init__" s_NotBest___init__ I_NotBest D_NotBest)
    (apart : ∀ i : Fin 5, R ≠ ([C_InvalidUsers, C_InvalidSizes, C_Mismatch, C_InvalidNumber, C_NotBest] : List Nat).getD i.1 0)
    (dist : ∀ i j : Fin 5, decide (([C_InvalidUsers, C_InvalidSizes, C_Mismatch, C_InvalidNumber, C_NotBest] : List Nat).getD i.1 0 = ([C_InvalidUsers, C_InvalidSizes, C_Mismatch, C_InvalidNumber, C_NotBest] : List Nat).getD j.1 0) = decide (i.1 = j.1))
    (z_abs : PySem.W.nsIn K mainGlobals "abs" = some none)
    (z_len : PySem.W.nsIn K mainGlobals "len" = some none)
    (z_rng : PySem.W.nsIn K mainGlobals "range" = some none)
    (z_enu : PySem.W.nsIn K mainGlobals "enumerate" = some none)
    (z_zip : PySem.W.nsIn K mainGlobals "zip" = some none)
    (z_isi : PySem.W.nsIn K mainGlobals "isinstance" = some none)
    (z_all : PySem.W.nsIn K mainGlobals "all" = some none)
    (z_srt : PySem.W.nsIn K mainGlobals "sorted" = some none)
    (z_lst : PySem.W.nsIn K mainGlobals "list" = some none)
    (z_dct : PySem.W.nsIn K mainGlobals "dict" = some none)
    (z_str : PySem.W.nsIn K mainGlobals "str" = some none)
    (z_int : PySem.W.nsIn K mainGlobals "int" = some none)
    (z_tup : PySem.W.nsIn K mainGlobals "tuple" = some none)
    (z_sum : PySem.W.nsIn K mainGlobals "sum" = some none)
    (z_min : PySem.W.nsIn K mainGlobals "min" = some none)
    (z_max : PySem.W.nsIn K mainGlobals "max" = some none)
    (z_rep : PySem.W.nsIn K mainGlobals "repr" = some none)
    (z_bool : PySem.W.nsIn K mainGlobals "bool" = some none)
    (z_any : PySem.W.nsIn K mainGlobals "any" = some none)
    (z_vE : PySem.W.nsIn K mainGlobals "ValueError" = some none)
    : LawTG l w K 8 63 "_law_script" mg fa h := by
  cases hfa.symm.trans (PySem.W.mg_of X G n_law)
  have N : Nm mg := ⟨PySem.W.mg_none_of X G z_abs, PySem.W.mg_none_of X G z_len, PySem.W.mg_none_of X G z_rng, PySem.W.mg_none_of X G z_enu, PySem.W.mg_none_of X G z_zip, PySem.W.mg_none_of X G z_isi, PySem.W.mg_none_of X G z_all, PySem.W.mg_none_of X G z_srt, PySem.W.mg_none_of X G z_lst, PySem.W.mg_none_of X G z_dct, PySem.W.mg_none_of X G z_str, PySem.W.mg_none_of X G z_int, PySem.W.mg_none_of X G z_tup, PySem.W.mg_none_of X G z_sum, PySem.W.mg_none_of X G z_min, PySem.W.mg_none_of X G z_max, PySem.W.mg_none_of X G z_rep, PySem.W.mg_none_of X G z_bool, PySem.W.mg_none_of X G z_any, PySem.W.mg_none_of X G z_vE⟩
  have Cs_ : Cs mg := ⟨⟨_, PySem.W.mg_of X G cL⟩, ⟨_, PySem.W.mg_of X G cT⟩⟩
  have SF : IsF K CF := ⟨kCF.ha, kCF.hn, kCF.ht, kCF.hm⟩
  have O : FoC K CF := ⟨kCF.cls, noCF_above⟩
  have Z : Fc K mg CF (.type "type") := kCF.fc X G root
  have B : Ac K mg CA (.type "type") := ⟨PySem.W.mg_of X G kCA.nsn, ⟨kCA.rd, kCA.ga⟩, ⟨_, kCA.most, ⟨_, rfl⟩⟩, kCA.cls, noCA_own_forest, noCA_own_places⟩
  have b_bgA := u_bgA.binds (ps := ["_law_script"]) fun _ _ _ _ _ _ us hl => match us, hl with | [_], _ => rfl
  have b_dtA := u_dtA.binds (ps := ["_law_draw", "_law_size"]) fun _ _ _ _ _ _ us hl => match us, hl with | [_, _], _ => rfl
  have b_dpA := u_dpA.binds (ps := ["_law_draw", "_law_some"]) fun _ _ _ _ _ _ us hl => match us, hl with | [_, _], _ => rfl
  have b_doA := u_doA.binds (ps := ["_law_draw", "_law_some"]) fun _ _ _ _ _ _ us hl => match us, hl with | [_, _], _ => rfl
  have b_nmP := u_nmP.binds (ps := ["_law_draw", "_law_many"]) fun _ _ _ _ _ _ us hl => match us, hl with | [_, _], _ => rfl
  have b_paP := u_paP.binds (ps := ["_law_draw", "_law_many"]) fun _ _ _ _ _ _ us hl => match us, hl with | [_, _], _ => rfl
  have b_phA := u_phA.binds (ps := ["_law_above", "_law_spot"]) fun _ _ _ _ _ _ us hl => match us, hl with | [_, _], _ => rfl
  have b_szA := (u_szA.fun).binds (ps := ["_law_draw", "_law_above", "_law_many"]) fun _ _ _ _ _ _ us hl => match us, hl with | [_, _, _], _ => rfl
  have b_isn := u_isn.binds (ps := ["value"]) fun _ _ _ _ _ _ us hl => match us, hl with | [_], _ => rfl
  have b_isa := u_isa.binds (ps := ["parents", "name"]) fun _ _ _ _ _ _ us hl => match us, hl with | [_, _], _ => rfl
  have b_nd := u_nd.binds (ps := ["parents"]) fun _ _ _ _ _ _ us hl => match us, hl with | [_], _ => rfl
  have b_fi := u_fi.binds (ps := ["self", "parents"]) fun _ _ _ _ _ _ us hl => match us, hl with | [_, _], _ => rfl
  have b_ai := u_ai.binds (ps := ["self", "forest", "places"]) fun _ _ _ _ _ _ us hl => match us, hl with | [_, _, _], _ => rfl
  have b_fl := u_fl.binds (ps := ["self"]) fun _ _ _ _ _ _ us hl => match us, hl with | [_], _ => rfl
  have b_po := u_po.binds (ps := ["forest"]) fun _ _ _ _ _ _ us hl => match us, hl with | [_], _ => rfl
  have b_fp := u_fp.binds (ps := ["self"]) fun _ _ _ _ _ _ us hl => match us, hl with | [_], _ => rfl
  have b_rs := u_rs.binds (ps := ["forest", "users", "sizes"]) fun _ _ _ _ _ _ us hl => match us, hl with | [_, _, _], _ => rfl
  have b_ii := u_ii.binds (ps := ["value", "least"]) fun _ _ _ _ _ _ us hl => match us, hl with | [_, _], _ => rfl
  have b_nf := u_nf.binds (ps := ["forest", "users", "sizes"]) fun _ _ _ _ _ _ us hl => match us, hl with | [_, _, _], _ => rfl
  have b_ao := u_ao.binds (ps := ["forest", "sizes", "new"]) fun _ _ _ _ _ _ us hl => match us, hl with | [_, _, _], _ => rfl
  have b_cr := u_cr.binds (ps := ["forest", "changed"]) fun _ _ _ _ _ _ us hl => match us, hl with | [_, _], _ => rfl
  have b_eo := u_eo.binds (ps := ["forest", "changed"]) fun _ _ _ _ _ _ us hl => match us, hl with | [_, _], _ => rfl
  have b_af := u_af.binds (ps := ["self"]) fun _ _ _ _ _ _ us hl => match us, hl with | [_], _ => rfl
  have b_at := u_at.binds (ps := ["self"]) fun _ _ _ _ _ _ us hl => match us, hl with | [_], _ => rfl
  have b_pi := u_pi.binds (ps := ["above", "place"]) fun _ _ _ _ _ _ us hl => match us, hl with | [_, _], _ => rfl
  have b_so := u_so.binds (ps := ["forest", "places"]) fun _ _ _ _ _ _ us hl => match us, hl with | [_, _], _ => rfl
  have b_as := u_as.binds (ps := ["self"]) fun _ _ _ _ _ _ us hl => match us, hl with | [_], _ => rfl
  have b_np := u_np.binds (ps := ["forest", "place"]) fun _ _ _ _ _ _ us hl => match us, hl with | [_, _], _ => rfl
  have b_aat := u_aat.binds (ps := ["self", "place"]) fun _ _ _ _ _ _ us hl => match us, hl with | [_, _], _ => rfl
  have b_be := u_be.binds (ps := ["assignment", "new"]) fun _ _ _ _ _ _ us hl => match us, hl with | [_, _], _ => rfl
  have b_ap := u_ap.binds (ps := ["self"]) fun _ _ _ _ _ _ us hl => match us, hl with | [_], _ => rfl
  have b_drA := u_drA.binds (ps := ["_law_draw", "_law_above", "_law_many", "_law_small"]) fun _ _ _ _ _ _ us hl => match us, hl with | [_, _, _, _], _ => rfl
  have b_ltA := u_ltA.binds (ps := ["_law_above", "_law_here", "_law_there"]) fun _ _ _ _ _ _ us hl => match us, hl with | [_, _, _], _ => rfl
  have b_evA := u_evA.binds (ps := ["_law_above", "_law_left"]) fun _ _ _ _ _ _ us hl => match us, hl with | [_, _], _ => rfl
  have b_faA := u_faA.binds (ps := ["_law_above", "_law_spot", "_law_goal"]) fun _ _ _ _ _ _ us hl => match us, hl with | [_, _, _], _ => rfl
  have b_ifA := u_ifA.binds (ps := ["_law_above", "_law_here", "_law_there"]) fun _ _ _ _ _ _ us hl => match us, hl with | [_, _, _], _ => rfl
  have b_opA := u_opA.binds (ps := ["_law_above"]) fun _ _ _ _ _ _ us hl => match us, hl with | [_], _ => rfl
  have b_feB := u_feB.binds (ps := ["self", "other"]) fun _ _ _ _ _ _ us hl => match us, hl with | [_, _], _ => rfl
  have b_nmE := u_nmE.binds (ps := ["one", "other"]) fun _ _ _ _ _ _ us hl => match us, hl with | [_, _], _ => rfl
  have b_nfl := u_nfl.binds (ps := ["forest", "name"]) fun _ _ _ _ _ _ us hl => match us, hl with | [_, _], _ => rfl
  have b_aus := u_aus.binds (ps := ["self", "name"]) fun _ _ _ _ _ _ us hl => match us, hl with | [_, _], _ => rfl
  have b_trE := u_trE.binds (ps := ["one", "other"]) fun _ _ _ _ _ _ us hl => match us, hl with | [_, _], _ => rfl
  have b_ibE := u_ibE.binds (ps := ["one", "other"]) fun _ _ _ _ _ _ us hl => match us, hl with | [_, _], _ => rfl
  have b_erA := u_erA.binds (ps := ["_law_work"]) fun _ _ _ _ _ _ us hl => match us, hl with | [_], _ => rfl
  have g_bgA := PySem.W.mg_of X G n_bgA
  have g_dtA := PySem.W.mg_of X G n_dtA
  have g_dpA := PySem.W.mg_of X G n_dpA
  have g_doA := PySem.W.mg_of X G n_doA
  have g_nmP := PySem.W.mg_of X G n_nmP
  have g_paP := PySem.W.mg_of X G n_paP
  have g_phA := PySem.W.mg_of X G n_phA
  have g_szA := PySem.W.mg_of X G n_szA
  have g_isn := PySem.W.mg_of X G n_isn
  have g_isa := PySem.W.mg_of X G n_isa
  have g_nd := PySem.W.mg_of X G n_nd
  have g_po := PySem.W.mg_of X G n_po
  have g_rs := PySem.W.mg_of X G n_rs
  have g_ii := PySem.W.mg_of X G n_ii
  have g_nf := PySem.W.mg_of X G n_nf
  have g_ao := PySem.W.mg_of X G n_ao
  have g_cr := PySem.W.mg_of X G n_cr
  have g_eo := PySem.W.mg_of X G n_eo
  have g_pi := PySem.W.mg_of X G n_pi
  have g_so := PySem.W.mg_of X G n_so
  have g_np := PySem.W.mg_of X G n_np
  have g_be := PySem.W.mg_of X G n_be
  have g_drA := PySem.W.mg_of X G n_drA
  have g_ltA := PySem.W.mg_of X G n_ltA
  have g_evA := PySem.W.mg_of X G n_evA
  have g_faA := PySem.W.mg_of X G n_faA
  have g_ifA := PySem.W.mg_of X G n_ifA
  have g_opA := PySem.W.mg_of X G n_opA
  have g_nmE := PySem.W.mg_of X G n_nmE
  have g_nfl := PySem.W.mg_of X G n_nfl
  have g_trE := PySem.W.mg_of X G n_trE
  have g_ibE := PySem.W.mg_of X G n_ibE
  have g_erA := PySem.W.mg_of X G n_erA
  have rt := rt0.rt X G
  have at_ : ∀ i, i < 5 → ClsAt K (([C_InvalidUsers, C_InvalidSizes, C_Mismatch, C_InvalidNumber, C_NotBest] : List Nat).getD i 0) (.ref R :: exTail) := fun i hi => match i, hi with
    | 0, _ => e_InvalidUsers.at_
    | 1, _ => e_InvalidSizes.at_
    | 2, _ => e_Mismatch.at_
    | 3, _ => e_InvalidNumber.at_
    | 4, _ => e_NotBest.at_
  have xs_ : ∀ i, i < 5 → XCls K (([C_InvalidUsers, C_InvalidSizes, C_Mismatch, C_InvalidNumber, C_NotBest] : List Nat).getD i 0) := fun i hi => match i, hi with
    | 0, _ => e_InvalidUsers.x rt0
    | 1, _ => e_InvalidSizes.x rt0
    | 2, _ => e_Mismatch.x rt0
    | 3, _ => e_InvalidNumber.x rt0
    | 4, _ => e_NotBest.x rt0
  have kits : ∀ i j, i < 5 → j < 5 → PySem.W.kitOne K (.ref (([C_InvalidUsers, C_InvalidSizes, C_Mismatch, C_InvalidNumber, C_NotBest] : List Nat).getD i 0)) (.ref (([C_InvalidUsers, C_InvalidSizes, C_Mismatch, C_InvalidNumber, C_NotBest] : List Nat).getD j 0)) = some (decide (i = j)) := fun i j hi hj => by rw [(at_ i hi).kit (at_ j hj), has_cls (dist ⟨i, hi⟩ ⟨j, hj⟩) (apart ⟨j, hj⟩)]
  have exs : ∀ i j, i < 5 → j < 5 → PySem.W.exmOne K (.ref (([C_InvalidUsers, C_InvalidSizes, C_Mismatch, C_InvalidNumber, C_NotBest] : List Nat).getD i 0)) (.ref (([C_InvalidUsers, C_InvalidSizes, C_Mismatch, C_InvalidNumber, C_NotBest] : List Nat).getD j 0)) = some (decide (i = j)) := fun i j hi hj => by rw [(at_ i hi).exm (at_ j hj) rfl, has_cls (dist ⟨i, hi⟩ ⟨j, hj⟩) (apart ⟨j, hj⟩)]
  obtain ⟨T, eT⟩ : ∃ T : List (Addr × Str), T = [(t_szA, lamQ "_law_sizes"), (t_law, lamQ "law")] := ⟨_, rfl⟩
  have m_szA : (t_szA, lamQ "_law_sizes") ∈ T := by rw [eT]; simp
  have un_szA : ∀ p ∈ T, p.1 = t_szA → p.2 = lamQ "_law_sizes" := fun p hp e => by
    rw [eT] at hp
    simp only [List.mem_cons, List.not_mem_nil, or_false] at hp
    rcases hp with rfl | rfl
    · rfl
    · exact absurd e (Ne.symm ne_szA_law)
  have m_law : (t_law, lamQ "law") ∈ T := by rw [eT]; simp
  have un_law : ∀ p ∈ T, p.1 = t_law → p.2 = lamQ "law" := fun p hp e => by
    rw [eT] at hp
    simp only [List.mem_cons, List.not_mem_nil, or_false] at hp
    rcases hp with rfl | rfl
    · exact absurd e ne_szA_law
    · rfl
  refine ⟨d_law, ([(c_szA, t_szA), (c_law, t_law)] : List (Addr × Addr)), spLaw08 K T, fun p hp => ?_, fun s u => ?_, fun H a ns hl hts hS => ?_, fun base KB GB TBs => ?_⟩
  · simp only [List.mem_cons, List.not_mem_nil, or_false] at hp
    rcases hp with rfl | rfl
    · exact ⟨(TO _ _ _ t3_szA t1_szA).1, (TO _ _ _ t3_szA t1_szA).2, t2_szA⟩
    · exact ⟨(TO _ _ _ t3_law t1_law).1, (TO _ _ _ t3_law t1_law).2, t2_law⟩
  · obtain ⟨oc, od, kV, doc, pm, an, cdv, ct, osl, rfl, lk, hcd⟩ := u_law.fun.ex
    exact .of_eq rfl
  · refine ⟨a, ns, rfl, hS, hl, ?_, fun _ => rfl⟩
    intro p hp
    rw [eT] at hp
    simp only [List.mem_cons, List.not_mem_nil, or_false] at hp
    rcases hp with rfl | rfl
    · exact TabS.nil (hts (c_szA, t_szA) (by simp))
    · exact TabS.nil (hts (c_law, t_law) (by simp))
  have E_InvalidSizes : Er1 l.prog w K mg base "InvalidSizes" "place" C_InvalidSizes I_InvalidSizes D_InvalidSizes := ⟨e_InvalidSizes.er X G rt0, ok_InvalidSizes i_InvalidSizes rt (e_InvalidSizes.er X G rt0), i_InvalidSizes.binds (ps := ["self", "place"]) fun _ _ _ _ _ _ us hl => match us, hl with | [_, _], _ => rfl⟩
  have E_Mismatch : Er0 l.prog w K mg base "Mismatch" C_Mismatch I_Mismatch D_Mismatch := ⟨e_Mismatch.er X G rt0, ok_Mismatch i_Mismatch rt (e_Mismatch.er X G rt0), i_Mismatch.binds (ps := ["self"]) fun _ _ _ _ _ _ us hl => match us, hl with | [_], _ => rfl⟩
  have D_bgA : Dn l.prog w K mg base CX0 1 "_law_begin" ["_law_script"] (spBegin K) f_bgA d_bgA := ⟨ok_begin u_bgA N, u_bgA.kp, b_bgA, g_bgA⟩
  have D_dtA : Dn l.prog w K mg base CX0 1 "_law_take" ["_law_draw", "_law_size"] (spDraw) f_dtA d_dtA := ⟨ok_draw u_dtA N, u_dtA.kp, b_dtA, g_dtA⟩
  have D_dpA : Dn l.prog w K mg base CX0 2 "_law_pick" ["_law_draw", "_law_some"] (spPick K) f_dpA d_dpA := ⟨ok_pick u_dpA N u_dtA b_dtA g_dtA, u_dpA.kp, b_dpA, g_dpA⟩
  have D_doA : Dn l.prog w K mg base CX0 2 "_law_order" ["_law_draw", "_law_some"] (spOrder K) f_doA d_doA := ⟨ok_order u_doA N u_dtA b_dtA g_dtA, u_doA.kp, b_doA, g_doA⟩
  have D_nmP : Dn l.prog w K mg base CX0 3 "_law_names" ["_law_draw", "_law_many"] (spNamesP) f_nmP d_nmP := ⟨ok_namesP u_nmP N u_dtA b_dtA g_dtA u_doA b_doA g_doA, u_nmP.kp, b_nmP, g_nmP⟩
  have D_paP : Dn l.prog w K mg base CX0 4 "_law_parents" ["_law_draw", "_law_many"] (spParentsP) f_paP d_paP := ⟨ok_parentsP u_paP N D_dtA D_dpA D_doA D_nmP, u_paP.kp, b_paP, g_paP⟩
  have D_phA : Dn l.prog w K mg base CX0 1 "_law_path" ["_law_above", "_law_spot"] (spPath) f_phA d_phA := ⟨ok_path u_phA, u_phA.kp, b_phA, g_phA⟩
  have D_szA : Dn l.prog w K mg base CX0 5 "_law_sizes" ["_law_draw", "_law_above", "_law_many"] (spSizes T) f_szA d_szA := ⟨ok_sizes u_szA N D_dtA D_dpA D_doA D_phA (TBs (c_szA, t_szA) (by simp)) m_szA un_szA, u_szA.kp, b_szA, g_szA⟩
  have D_isn : Dn l.prog w K mg base CX0 1 "is_name" ["value"] (spIsName) f_isn d_isn := ⟨ok_isName u_isn N Cs_, u_isn.kp, b_isn, g_isn⟩
  have D_isa : Dn l.prog w K mg base CX0 1 "is_ancestor" ["parents", "name"] (spIsAnc) f_isa d_isa := ⟨ok_isAnc u_isa, u_isa.kp, b_isa, g_isa⟩
  have D_nd : Dn l.prog w K mg base CX0 2 "need_parents" ["parents"] (spNeed) f_nd d_nd := ⟨ok_need u_nd N Cs_ Z D_isn D_isa, u_nd.kp, b_nd, g_nd⟩
  have F_fi : FnOk l.prog w K mg base CX0 3 f_fi d_fi ["self", "parents"] (spFInit CF) := ok_finit u_fi N O D_nd
  have MK_fi : Mk K CF f_fi := ⟨kCF.mks, m_fi.at_, m_fi.fn, kCF.kp⟩
  have F_ai : FnOk l.prog w K mg base CX0 1 f_ai d_ai ["self", "forest", "places"] (spAInit CF CA) := ok_ainit u_ai N O Z B
  have MK_ai : Mk K CA f_ai := ⟨kCA.mks, m_ai.at_, m_ai.fn, kCA.kp⟩
  have P_fl : Pr1 l.prog w K mg base CF "flags" (spFFlags CF) p_fl f_fl d_fl := ⟨⟨m_fl.at_, m_fl.get, m_fl.tak, ⟨_, m_fl.rec_⟩⟩, ok_fflags u_fl N O, b_fl⟩
  have D_po : Dn l.prog w K mg base CX0 3 "places_of" ["forest"] (spPlacesOf CF) f_po d_po := ⟨ok_placesOf u_po N O Z P_fl, u_po.kp, b_po, g_po⟩
  have P_fp : Pr1 l.prog w K mg base CF "parents" (spFParents CF) p_fp f_fp d_fp := ⟨⟨m_fp.at_, m_fp.get, m_fp.tak, ⟨_, m_fp.rec_⟩⟩, ok_fparents u_fp N O, b_fp⟩
  have D_rs : Dn l.prog w K mg base CX0 4 "residents_of" ["forest", "users", "sizes"] (spResid CF) f_rs d_rs := ⟨ok_resid u_rs N O Z D_po P_fl P_fp, u_rs.kp, b_rs, g_rs⟩
  have D_ii : Dn l.prog w K mg base CX0 1 "is_integer" ["value", "least"] (spIsInt K) f_ii d_ii := ⟨ok_isInt u_ii N, u_ii.kp, b_ii, g_ii⟩
  have D_nf : Dn l.prog w K mg base (L2.CX l.prog w) 5 "need_feasible" ["forest", "users", "sizes"] (spFeas K CF C_InvalidSizes) f_nf d_nf := ⟨ok_feas u_nf N O E_InvalidSizes D_rs D_ii P_fl, u_nf.kp, b_nf, g_nf⟩
  have D_ao : Dn l.prog w K mg base CX0 3 "amounts_of" ["forest", "sizes", "new"] (spAmtOf CF) f_ao d_ao := ⟨ok_amtOf u_ao O P_fl, u_ao.kp, b_ao, g_ao⟩
  have D_cr : Dn l.prog w K mg base CX0 3 "crossings" ["forest", "changed"] (spCross CF) f_cr d_cr := ⟨ok_cross u_cr O P_fl, u_cr.kp, b_cr, g_cr⟩
  have D_eo : Dn l.prog w K mg base CX0 4 "edge_order" ["forest", "changed"] (spEdgeOrder CF) f_eo d_eo := ⟨ok_edgeOrder u_eo D_cr D_po, u_eo.kp, b_eo, g_eo⟩
  have P_af : PrN l.prog w K mg base 1 CA "forest" (spAForest CA) p_af f_af d_af := ⟨⟨m_af.at_, m_af.get, m_af.tak, ⟨_, m_af.rec_⟩⟩, ok_aforest u_af B, b_af⟩
  have P_at : PrN l.prog w K mg base 1 CA "total" (spATotal CA) p_at f_at d_at := ⟨⟨m_at.at_, m_at.get, m_at.tak, ⟨_, m_at.rec_⟩⟩, ok_atotal u_at N B, b_at⟩
  have D_pi : Dn l.prog w K mg base CX0 1 "path_in" ["above", "place"] (spPathIn) f_pi d_pi := ⟨ok_pathIn u_pi N, u_pi.kp, b_pi, g_pi⟩
  have D_so : Dn l.prog w K mg base CX0 3 "sizes_of" ["forest", "places"] (spSizesOf CF) f_so d_so := ⟨ok_sizesOf u_so N O P_fl D_pi, u_so.kp, b_so, g_so⟩
  have P_as : PrN l.prog w K mg base 4 CA "sizes" (spASizes CF CA) p_as f_as d_as := ⟨⟨m_as.at_, m_as.get, m_as.tak, ⟨_, m_as.rec_⟩⟩, ok_asizes u_as B D_so, b_as⟩
  have D_np : Dn l.prog w K mg base CX0 1 "need_place" ["forest", "place"] (spNeedPl CF) f_np d_np := ⟨ok_needPl u_np N O Z, u_np.kp, b_np, g_np⟩
  have F_aat : FnOk l.prog w K mg base CX0 2 f_aat d_aat ["self", "place"] (spAAt CF CA) := ok_aat u_aat N B D_np
  have M_aat : Mt l.prog w K mg base CX0 2 CA "at" ["self", "place"] (spAAt CF CA) f_aat d_aat := ⟨⟨m_aat.at_, m_aat.fn, u_aat.kp⟩, F_aat, b_aat⟩
  have D_be : Dn l.prog w K mg base (L2.CX l.prog w) 6 "best" ["assignment", "new"] (spBest K CF CA C_InvalidSizes) f_be d_be := ⟨ok_best u_be N Z B D_nf D_ao D_po D_eo D_cr P_af P_at P_as M_aat MK_ai F_ai b_ai, u_be.kp, b_be, g_be⟩
  have P_ap : PrN l.prog w K mg base 1 CA "places" (spAPlaces CA) p_ap f_ap d_ap := ⟨⟨m_ap.at_, m_ap.get, m_ap.tak, ⟨_, m_ap.rec_⟩⟩, ok_aplaces u_ap N B, b_ap⟩
  have L8 : L08 l.prog w K mg base CF CA C_InvalidSizes (.type "type") (.type "type") T (fun i => ([f_dtA, f_dpA, f_szA, f_fi, f_ai, f_be, f_ap] : List Nat).getD i 0) (fun i => ([p_ap] : List Nat).getD i 0) (fun i => ([d_dtA, d_dpA, d_szA, d_fi, d_ai, d_be, d_ap] : List FuncData).getD i d_ai) := { Z := Z, B := B, dt := D_dtA, dp := D_dpA, sz := D_szA, fi := F_fi, fim := MK_fi, fib := b_fi, ai := F_ai, aim := MK_ai, aib := b_ai, be := D_be, pP := P_ap }
  have D_drA : Dn l.prog w K mg base CX0 7 "_law_drawn" ["_law_draw", "_law_above", "_law_many", "_law_small"] (spDrawn T) f_drA d_drA := ⟨ok_drawn u_drA N L8, u_drA.kp, b_drA, g_drA⟩
  have D_ltA : Dn l.prog w K mg base CX0 2 "_law_traffic" ["_law_above", "_law_here", "_law_there"] (spLawTraf) f_ltA d_ltA := ⟨ok_lawTraf u_ltA N D_phA, u_ltA.kp, b_ltA, g_ltA⟩
  have D_evA : ∀ m, Dn l.prog w K mg base CX0 (m + 1) "_law_every" ["_law_above", "_law_left"] (spEvery m) f_evA d_evA := fun m => ⟨ok_every u_evA N b_evA g_evA m, u_evA.kp, b_evA, g_evA⟩
  have D_faA : Dn l.prog w K mg base CX0 2 "_law_far" ["_law_above", "_law_spot", "_law_goal"] (spFar) f_faA d_faA := ⟨ok_far u_faA N D_phA, u_faA.kp, b_faA, g_faA⟩
  have D_ifA : Dn l.prog w K mg base CX0 7 "_law_is_fewest" ["_law_above", "_law_here", "_law_there"] (spIsFew) f_ifA d_ifA := ⟨ok_isFew u_ifA N D_evA D_faA, u_ifA.kp, b_ifA, g_ifA⟩
  have D_opA : Dn l.prog w K mg base CX0 1 "_law_other_parents" ["_law_above"] (spOtherP) f_opA d_opA := ⟨ok_otherP u_opA N, u_opA.kp, b_opA, g_opA⟩
  have F_feB : FnOk l.prog w K mg base CX0 1 f_feB d_feB ["self", "other"] (spEqB (RFoB CF)) := ok_feqB u_feB N O Z SF
  have M_feB : Mt l.prog w K mg base CX0 1 CF "__eq__" ["self", "other"] (spEqB (RFoB CF)) f_feB d_feB := ⟨⟨m_feB.at_, m_feB.fn, u_feB.kp⟩, F_feB, b_feB⟩
  have D_nmE : Dn l.prog w K mg base (L2.CX l.prog w) 3 "need_match" ["one", "other"] (spMatchE CF CA C_Mismatch) f_nmE d_nmE := ⟨ok_matchE u_nmE B P_af P_at F_feB eF_CF b_feB E_Mismatch, u_nmE.kp, b_nmE, g_nmE⟩
  have D_nfl : Dn l.prog w K mg base CX0 1 "need_flag" ["forest", "name"] (spNeedFl CF) f_nfl d_nfl := ⟨ok_needFl u_nfl N O, u_nfl.kp, b_nfl, g_nfl⟩
  have F_aus : FnOk l.prog w K mg base CX0 2 f_aus d_aus ["self", "name"] (spAUsers CF CA) := ok_ausers u_aus N O B D_nfl D_pi
  have M_aus : Mt l.prog w K mg base CX0 2 CA "users_of" ["self", "name"] (spAUsers CF CA) f_aus d_aus := ⟨⟨m_aus.at_, m_aus.fn, u_aus.kp⟩, F_aus, b_aus⟩
  have D_trE : Dn l.prog w K mg base (L2.CX l.prog w) 4 "traffic" ["one", "other"] (spTrafficE CF CA C_Mismatch) f_trE d_trE := ⟨ok_trafficE u_trE N O B D_nmE M_aus P_af P_fl, u_trE.kp, b_trE, g_trE⟩
  have D_ibE : Dn l.prog w K mg base (L2.CX l.prog w) 5 "is_best" ["one", "other"] (spIsBestE CF CA C_Mismatch) f_ibE d_ibE := ⟨ok_isBestE u_ibE N D_trE, u_ibE.kp, b_ibE, g_ibE⟩
  have GE : Ge K mg "_law_error" s__law_error f_erA d_erA := ⟨u_erA, b_erA, g_erA⟩
  have C5 : Cl5 K mg R (fun i => ([C_InvalidUsers, C_InvalidSizes, C_Mismatch, C_InvalidNumber, C_NotBest] : List Nat).getD i 0) := ⟨rt.g, fun i hi => match i, hi with
    | 0, _ => PySem.W.mg_of X G e_InvalidUsers.nsn
    | 1, _ => PySem.W.mg_of X G e_InvalidSizes.nsn
    | 2, _ => PySem.W.mg_of X G e_Mismatch.nsn
    | 3, _ => PySem.W.mg_of X G e_InvalidNumber.nsn
    | 4, _ => PySem.W.mg_of X G e_NotBest.nsn, xs_, kits, fun i hi => kit_bt (at_ i hi), fun i hi => by rw [(at_ i hi).exm rt0.at_ rfl, has_root]⟩
  have W : W08 l.prog w K mg base CF CA C_Mismatch (.type "type") (.type "type") T (fun i => ([f_bgA, f_dtA, f_paP, f_drA, f_ltA, f_ifA, f_opA, f_fi, f_ai, f_trE, f_ibE] : List Nat).getD i 0) (fun i => ([d_bgA, d_dtA, d_paP, d_drA, d_ltA, d_ifA, d_opA, d_fi, d_ai, d_trE, d_ibE] : List FuncData).getD i d_ai) := { Z := Z, B := B, bg := D_bgA, dt := D_dtA, pa := D_paP, dr := D_drA, lt := D_ltA, fw := D_ifA, op := D_opA, fi := F_fi, fim := MK_fi, fib := b_fi, ai := F_ai, aim := MK_ai, aib := b_ai, tr := D_trE, trk := kw2 u_trE fun _ _ _ _ _ _ _ _ => rfl, ib := D_ibE, ibk := kw2 u_ibE fun _ _ _ _ _ _ _ _ => rfl }
  exact ok_law08 u_law N W GE C5 rfl (TBs (c_law, t_law) (by simp)) m_law un_law
end
theorem walk {l : PySem.W.OpenLaw} {q : Program} {loose : List Str} {XP : (Str → Option Value) → Heap → Prop} {YP : World → Heap → Prop} {d : DefRec} {K : Params → PySem.W.Frag} (hn : l.most = some 63) (hdf : d.params.defaults = [])
    (hY : ∀ (w : World) (h : Heap), YP w h → (K w.params).In h)
    (F : ∀ (w : World) (mg : Str → Option Value) (fa : Addr) (h : Heap), (K w.params).In h → h.Ns mainGlobals mg → mg d.name = some (.ref fa) → TabsOf q (K w.params) h → XP mg h → LawTG l w (K w.params) 8 63 "_law_script" mg fa h) :
    PySem.W.WalkO q loose XP YP l.row.toRowW d [] (fun f vs => PySem.call f vs) :=
  walk_tabG (n := 63) (k := 8) (x := "_law_script") hn (by decide) hdf ⟨rfl, by decide, by decide⟩ hY F
end FT


open PySem PySem.W PyProof.Rows
set_option maxRecDepth 100000 in
set_option maxHeartbeats 0 in
theorem PySem.Challenge.cw_flagtrees_k08_recognized_holds : PySem.Challenge.rw_flagtrees_k08_recognized.Holds := by
  w_on; o_law; k_head; (case hw => w_witness2)
  k_fill
  refine FT.walk (l := PySem.Challenge.rw_flagtrees_k08_recognized) rfl rfl (fun w h Y => PySem.W.km_in_of Y) ?F
  case F =>
    intro w mg fa h KX G hm TO XX
    have hmg : mg "law" = some (.ref fa) := hm
    clear hm
    refine' FT.all_mk KX G hmg TO ?kCF ?noCF_above ?kCA ?noCA_own_forest ?noCA_own_places ?root ?cL ?cT ?n_bgA ?u_bgA ?n_dtA ?u_dtA ?n_dpA ?u_dpA ?n_doA ?u_doA ?n_nmP ?u_nmP ?n_paP ?u_paP ?n_phA ?u_phA ?n_szA ?u_szA ?t1_szA ?t2_szA ?t3_szA ?n_isn ?u_isn ?n_isa ?u_isa ?n_nd ?u_nd ?n_po ?u_po ?n_rs ?u_rs ?n_ii ?u_ii ?n_nf ?u_nf ?n_ao ?u_ao ?n_cr ?u_cr ?n_eo ?u_eo ?n_pi ?u_pi ?n_so ?u_so ?n_np ?u_np ?n_be ?u_be ?n_drA ?u_drA ?n_ltA ?u_ltA ?n_evA ?u_evA ?n_faA ?u_faA ?n_ifA ?u_ifA ?n_opA ?u_opA ?n_nmE ?u_nmE ?n_nfl ?u_nfl ?n_trE ?u_trE ?n_ibE ?u_ibE ?n_erA ?u_erA ?n_law ?u_law ?t1_law ?t2_law ?t3_law ?ne_szA_law ?m_fi ?m_ai ?m_aat ?m_feB ?m_aus ?m_fl ?m_fp ?m_af ?m_at ?m_as ?m_ap ?eF_CF ?u_fi ?u_ai ?u_aat ?u_feB ?u_aus ?u_fl ?u_fp ?u_af ?u_at ?u_as ?u_ap ?rt0 ?e_InvalidUsers ?i_InvalidUsers ?e_InvalidSizes ?i_InvalidSizes ?e_Mismatch ?i_Mismatch ?e_InvalidNumber ?i_InvalidNumber ?e_NotBest ?i_NotBest ?apart ?dist ?z_abs ?z_len ?z_rng ?z_enu ?z_zip ?z_isi ?z_all ?z_srt ?z_lst ?z_dct ?z_str ?z_int ?z_tup ?z_sum ?z_min ?z_max ?z_rep ?z_bool ?z_any ?z_vE
    (case kCF => (refine' ⟨?nsn, ?rd, ?ga, ?most, ?pg, ?hd, ?po, ?sa, ?mks, ?kp, ?ha, ?hn, ?ht, ?hm⟩; (case nsn => k_is); (case rd => k_is); (case ga => k_is); (case most => k_is); (case pg => k_is); (case hd => k_is); (case po => k_is); (case sa => k_is); (case mks => k_is); (case kp => k_is); (case ha => k_is); (case hn => k_is); (case ht => k_is); (case hm => k_is)))
    (case noCF_above => k_is)
    (case kCA => (refine' ⟨?nsn, ?rd, ?ga, ?most, ?pg, ?hd, ?po, ?sa, ?mks, ?kp, ?ha, ?hn, ?ht, ?hm⟩; (case nsn => k_is); (case rd => k_is); (case ga => k_is); (case most => k_is); (case pg => k_is); (case hd => k_is); (case po => k_is); (case sa => k_is); (case mks => k_is); (case kp => k_is); (case ha => k_is); (case hn => k_is); (case ht => k_is); (case hm => k_is)))
    (case noCA_own_forest => k_is)
    (case noCA_own_places => k_is)
    (case root => k_is)
    (case cL => k_is)
    (case cT => k_is)
    (case n_bgA => k_is)
    (case u_bgA => (refine' L2.fun_mk ?l ?c ?k; (case l => k_is); (case c => k_is); (case k => k_is)))
    (case n_dtA => k_is)
    (case u_dtA => (refine' L2.fun_mk ?l ?c ?k; (case l => k_is); (case c => k_is); (case k => k_is)))
    (case n_dpA => k_is)
    (case u_dpA => (refine' L2.fun_mk ?l ?c ?k; (case l => k_is); (case c => k_is); (case k => k_is)))
    (case n_doA => k_is)
    (case u_doA => (refine' L2.fun_mk ?l ?c ?k; (case l => k_is); (case c => k_is); (case k => k_is)))
    (case n_nmP => k_is)
    (case u_nmP => (refine' L2.fun_mk ?l ?c ?k; (case l => k_is); (case c => k_is); (case k => k_is)))
    (case n_paP => k_is)
    (case u_paP => (refine' L2.fun_mk ?l ?c ?k; (case l => k_is); (case c => k_is); (case k => k_is)))
    (case n_phA => k_is)
    (case u_phA => (refine' L2.fun_mk ?l ?c ?k; (case l => k_is); (case c => k_is); (case k => k_is)))
    (case n_szA => k_is)
    (case u_szA => (refine' L2.funC_mk ?l ?e ?k; (case l => k_is); (case e => k_is); (case k => k_is)))
    (case t1_szA => rfl)
    (case t2_szA => rfl)
    (case t3_szA => rfl)
    (case n_isn => k_is)
    (case u_isn => (refine' L2.fun_mk ?l ?c ?k; (case l => k_is); (case c => k_is); (case k => k_is)))
    (case n_isa => k_is)
    (case u_isa => (refine' L2.fun_mk ?l ?c ?k; (case l => k_is); (case c => k_is); (case k => k_is)))
    (case n_nd => k_is)
    (case u_nd => (refine' L2.fun_mk ?l ?c ?k; (case l => k_is); (case c => k_is); (case k => k_is)))
    (case n_po => k_is)
    (case u_po => (refine' L2.fun_mk ?l ?c ?k; (case l => k_is); (case c => k_is); (case k => k_is)))
    (case n_rs => k_is)
    (case u_rs => (refine' L2.fun_mk ?l ?c ?k; (case l => k_is); (case c => k_is); (case k => k_is)))
    (case n_ii => k_is)
    (case u_ii => (refine' L2.fun_mk ?l ?c ?k; (case l => k_is); (case c => k_is); (case k => k_is)))
    (case n_nf => k_is)
    (case u_nf => (refine' L2.fun_mk ?l ?c ?k; (case l => k_is); (case c => k_is); (case k => k_is)))
    (case n_ao => k_is)
    (case u_ao => (refine' L2.fun_mk ?l ?c ?k; (case l => k_is); (case c => k_is); (case k => k_is)))
    (case n_cr => k_is)
    (case u_cr => (refine' L2.fun_mk ?l ?c ?k; (case l => k_is); (case c => k_is); (case k => k_is)))
    (case n_eo => k_is)
    (case u_eo => (refine' L2.fun_mk ?l ?c ?k; (case l => k_is); (case c => k_is); (case k => k_is)))
    (case n_pi => k_is)
    (case u_pi => (refine' L2.fun_mk ?l ?c ?k; (case l => k_is); (case c => k_is); (case k => k_is)))
    (case n_so => k_is)
    (case u_so => (refine' L2.fun_mk ?l ?c ?k; (case l => k_is); (case c => k_is); (case k => k_is)))
    (case n_np => k_is)
    (case u_np => (refine' L2.fun_mk ?l ?c ?k; (case l => k_is); (case c => k_is); (case k => k_is)))
    (case n_be => k_is)
    (case u_be => (refine' L2.fun_mk ?l ?c ?k; (case l => k_is); (case c => k_is); (case k => k_is)))
    (case n_drA => k_is)
    (case u_drA => (refine' L2.fun_mk ?l ?c ?k; (case l => k_is); (case c => k_is); (case k => k_is)))
    (case n_ltA => k_is)
    (case u_ltA => (refine' L2.fun_mk ?l ?c ?k; (case l => k_is); (case c => k_is); (case k => k_is)))
    (case n_evA => k_is)
    (case u_evA => (refine' L2.fun_mk ?l ?c ?k; (case l => k_is); (case c => k_is); (case k => k_is)))
    (case n_faA => k_is)
    (case u_faA => (refine' L2.fun_mk ?l ?c ?k; (case l => k_is); (case c => k_is); (case k => k_is)))
    (case n_ifA => k_is)
    (case u_ifA => (refine' L2.fun_mk ?l ?c ?k; (case l => k_is); (case c => k_is); (case k => k_is)))
    (case n_opA => k_is)
    (case u_opA => (refine' L2.fun_mk ?l ?c ?k; (case l => k_is); (case c => k_is); (case k => k_is)))
    (case n_nmE => k_is)
    (case u_nmE => (refine' L2.fun_mk ?l ?c ?k; (case l => k_is); (case c => k_is); (case k => k_is)))
    (case n_nfl => k_is)
    (case u_nfl => (refine' L2.fun_mk ?l ?c ?k; (case l => k_is); (case c => k_is); (case k => k_is)))
    (case n_trE => k_is)
    (case u_trE => (refine' L2.fun_mk ?l ?c ?k; (case l => k_is); (case c => k_is); (case k => k_is)))
    (case n_ibE => k_is)
    (case u_ibE => (refine' L2.fun_mk ?l ?c ?k; (case l => k_is); (case c => k_is); (case k => k_is)))
    (case n_erA => k_is)
    (case u_erA => (refine' L2.fun_mk ?l ?c ?k; (case l => k_is); (case c => k_is); (case k => k_is)))
    (case n_law => k_is)
    (case u_law => (refine' L2.funC_mk ?l ?e ?k; (case l => k_is); (case e => k_is); (case k => k_is)))
    (case t1_law => rfl)
    (case t2_law => rfl)
    (case t3_law => rfl)
    (case ne_szA_law => decide)
    (case m_fi => (refine' ⟨?at_, ?fn⟩; (case at_ => k_is); (case fn => k_is)))
    (case m_ai => (refine' ⟨?at_, ?fn⟩; (case at_ => k_is); (case fn => k_is)))
    (case m_aat => (refine' ⟨?at_, ?fn⟩; (case at_ => k_is); (case fn => k_is)))
    (case m_feB => (refine' ⟨?at_, ?fn⟩; (case at_ => k_is); (case fn => k_is)))
    (case m_aus => (refine' ⟨?at_, ?fn⟩; (case at_ => k_is); (case fn => k_is)))
    (case m_fl => (refine' ⟨?at_, ?get, ?tak, ?rec_⟩; (case at_ => k_is); (case get => k_is); (case tak => k_is); (case rec_ => k_is)))
    (case m_fp => (refine' ⟨?at_, ?get, ?tak, ?rec_⟩; (case at_ => k_is); (case get => k_is); (case tak => k_is); (case rec_ => k_is)))
    (case m_af => (refine' ⟨?at_, ?get, ?tak, ?rec_⟩; (case at_ => k_is); (case get => k_is); (case tak => k_is); (case rec_ => k_is)))
    (case m_at => (refine' ⟨?at_, ?get, ?tak, ?rec_⟩; (case at_ => k_is); (case get => k_is); (case tak => k_is); (case rec_ => k_is)))
    (case m_as => (refine' ⟨?at_, ?get, ?tak, ?rec_⟩; (case at_ => k_is); (case get => k_is); (case tak => k_is); (case rec_ => k_is)))
    (case m_ap => (refine' ⟨?at_, ?get, ?tak, ?rec_⟩; (case at_ => k_is); (case get => k_is); (case tak => k_is); (case rec_ => k_is)))
    (case eF_CF => exact ⟨⟨_, _, _, _, _, _, _, _, _, _, _, _, _, _, _, rfl, _, _, _, _, _, rfl, rfl, rfl, rfl⟩, ⟨_, rfl, rfl⟩⟩)
    (case u_fi => (refine' L2.fun_mk ?l ?c ?k; (case l => k_is); (case c => k_is); (case k => k_is)))
    (case u_ai => (refine' L2.fun_mk ?l ?c ?k; (case l => k_is); (case c => k_is); (case k => k_is)))
    (case u_aat => (refine' L2.fun_mk ?l ?c ?k; (case l => k_is); (case c => k_is); (case k => k_is)))
    (case u_feB => (refine' L2.fun_mk ?l ?c ?k; (case l => k_is); (case c => k_is); (case k => k_is)))
    (case u_aus => (refine' L2.fun_mk ?l ?c ?k; (case l => k_is); (case c => k_is); (case k => k_is)))
    (case u_fl => (refine' L2.fun_mk ?l ?c ?k; (case l => k_is); (case c => k_is); (case k => k_is)))
    (case u_fp => (refine' L2.fun_mk ?l ?c ?k; (case l => k_is); (case c => k_is); (case k => k_is)))
    (case u_af => (refine' L2.fun_mk ?l ?c ?k; (case l => k_is); (case c => k_is); (case k => k_is)))
    (case u_at => (refine' L2.fun_mk ?l ?c ?k; (case l => k_is); (case c => k_is); (case k => k_is)))
    (case u_as => (refine' L2.fun_mk ?l ?c ?k; (case l => k_is); (case c => k_is); (case k => k_is)))
    (case u_ap => (refine' L2.fun_mk ?l ?c ?k; (case l => k_is); (case c => k_is); (case k => k_is)))
    (case rt0 => (refine' ⟨?nsn, ?at_, ?rd, ?ga, ?ini, ?hn, ?ht⟩; (case nsn => k_is); (case at_ => (refine' ⟨_, _, _, _, _, _, _, _, _, _, _, _, _, _, ?xl⟩; (case xl => rfl))); (case rd => k_is); (case ga => k_is); (case ini => k_is); (case hn => k_is); (case ht => k_is)))
    (case e_InvalidUsers => (refine' ⟨?nsn, ?at_, ?sa, ?ga, ?gg, ?ha, ?kC, ?no, ?ini, ?ity⟩; (case nsn => k_is); (case at_ => (refine' ⟨_, _, _, _, _, _, _, _, _, _, _, _, _, _, ?xl⟩; (case xl => rfl))); (case sa => k_is); (case ga => k_is); (case gg => k_is); (case ha => k_is); (case kC => k_is); (case no => k_is); (case ini => k_is); (case ity => k_is)))
    (case i_InvalidUsers => (refine' L2.fun_mk ?l ?c ?k; (case l => k_is); (case c => k_is); (case k => k_is)))
    (case e_InvalidSizes => (refine' ⟨?nsn, ?at_, ?sa, ?ga, ?gg, ?ha, ?kC, ?no, ?ini, ?ity⟩; (case nsn => k_is); (case at_ => (refine' ⟨_, _, _, _, _, _, _, _, _, _, _, _, _, _, ?xl⟩; (case xl => rfl))); (case sa => k_is); (case ga => k_is); (case gg => k_is); (case ha => k_is); (case kC => k_is); (case no => k_is); (case ini => k_is); (case ity => k_is)))
    (case i_InvalidSizes => (refine' L2.fun_mk ?l ?c ?k; (case l => k_is); (case c => k_is); (case k => k_is)))
    (case e_Mismatch => (refine' ⟨?nsn, ?at_, ?sa, ?ga, ?gg, ?ha, ?kC, ?no, ?ini, ?ity⟩; (case nsn => k_is); (case at_ => (refine' ⟨_, _, _, _, _, _, _, _, _, _, _, _, _, _, ?xl⟩; (case xl => rfl))); (case sa => k_is); (case ga => k_is); (case gg => k_is); (case ha => k_is); (case kC => k_is); (case no => k_is); (case ini => k_is); (case ity => k_is)))
    (case i_Mismatch => (refine' L2.fun_mk ?l ?c ?k; (case l => k_is); (case c => k_is); (case k => k_is)))
    (case e_InvalidNumber => (refine' ⟨?nsn, ?at_, ?sa, ?ga, ?gg, ?ha, ?kC, ?no, ?ini, ?ity⟩; (case nsn => k_is); (case at_ => (refine' ⟨_, _, _, _, _, _, _, _, _, _, _, _, _, _, ?xl⟩; (case xl => rfl))); (case sa => k_is); (case ga => k_is); (case gg => k_is); (case ha => k_is); (case kC => k_is); (case no => k_is); (case ini => k_is); (case ity => k_is)))
    (case i_InvalidNumber => (refine' L2.fun_mk ?l ?c ?k; (case l => k_is); (case c => k_is); (case k => k_is)))
    (case e_NotBest => (refine' ⟨?nsn, ?at_, ?sa, ?ga, ?gg, ?ha, ?kC, ?no, ?ini, ?ity⟩; (case nsn => k_is); (case at_ => (refine' ⟨_, _, _, _, _, _, _, _, _, _, _, _, _, _, ?xl⟩; (case xl => rfl))); (case sa => k_is); (case ga => k_is); (case gg => k_is); (case ha => k_is); (case kC => k_is); (case no => k_is); (case ini => k_is); (case ity => k_is)))
    (case i_NotBest => (refine' L2.fun_mk ?l ?c ?k; (case l => k_is); (case c => k_is); (case k => k_is)))
    (case apart => decide +kernel)
    (case dist => decide +kernel)
    (case z_abs => k_is)
    (case z_len => k_is)
    (case z_rng => k_is)
    (case z_enu => k_is)
    (case z_zip => k_is)
    (case z_isi => k_is)
    (case z_all => k_is)
    (case z_srt => k_is)
    (case z_lst => k_is)
    (case z_dct => k_is)
    (case z_str => k_is)
    (case z_int => k_is)
    (case z_tup => k_is)
    (case z_sum => k_is)
    (case z_min => k_is)
    (case z_max => k_is)
    (case z_rep => k_is)
    (case z_bool => k_is)
    (case z_any => k_is)
    (case z_vE => k_is)
