import PyProof.Rows.All
import Wide.All
import OpenK.AllK
import Wide.FinOn
import PyProof.EqAt
import PyProof.EqKinds
import PyProof.TupleCall
import KE.KFromBytes
import KE.KExcIs
import HandS.ForMost
import HandS.Exc
import HandS.TryOnly
import HandS.ExcInit
import HandS.ExcIs
import HandS.ExcField
import HandS.IsInst
import HandS.ClsMeth
import HandS.Defaults
import HandS.Flow
import HandS.Walk
import KE.RegKIsAll
import PySem.Challenge.RW_flagtrees_k14_errors
set_option Elab.async false
set_option linter.all false
set_option maxRecDepth 100000
set_option maxHeartbeats 4000000

/-! Own: an exception class over ValueError called with one keyword, `C(name=value)`. The library's lemmas (HandSPX.call_own) say it for calls without keywords; these say it for one keyword. -/
namespace FX
open PySem PySem.W PySem.Calls PyProof.Rows PySem.HandSPX
section
variable {Mo : Model} {Ar : Around} {Er : Value → Shared → Prop} {he : Heap} {ge : Array GenState} {dr : Drawn} {tk : Nat} {os : OsState}
variable {nm qn : Str} {C N : Addr} {bs bm bmB : List Value} {hdct : Bool} {sn : List Str} {sub : List Value} {ab : Bool} {col : Option Bool} {dd : Option Addr} {k0 k1 k2 k3 k5 : Option Value} {B idN idI : String}
variable {kn : Str} {kv : Value} {more : List Value}
/-- the class object of an exception class, short -/
abbrev XO (nm qn : Str) (C N : Addr) (bs bm : List Value) (hdct : Bool) (sn : List Str) (sub : List Value) (ab : Bool) (col : Option Bool) (dd : Option Addr) (k0 k1 k2 k3 k5 : Option Value) (idN : String) : Obj :=
  excClassObj nm qn C N bs bm hdct sn sub ab col dd k0 k1 k2 k3 k5 idN
abbrev SameTy (bm bmB : List Value) : Prop := ∀ T : String, bm.contains (.type T) = bmB.contains (.type T)
theorem hasT {T : String} {b : Bool} (st : SameTy bm bmB) (e : bmB.contains (.type T) = b) : (Value.ref C :: bm).contains (.type T) = b := by
  rw [List.contains_cons, st, e] <;> rfl
theorem chk_kw (F : ExcBaseFacts B idN idI bmB) (st : SameTy bm bmB) {P : Unit → Shared → Prop} (oC : he.get? C = some (XO nm qn C N bs bm hdct sn sub ab col dd k0 k1 k2 k3 k5 idN)) (fin : P () ⟨he, ge, dr, tk, os⟩) :
    wpAny Mo Ar (checkBuiltinCall idN ⟨.ref C :: more, [(kn, kv)]⟩) P Er ⟨he, ge, dr, tk, os⟩ := by
  have yes := hasT (C := C) st F.hasB
  have ns := F.noStar
  simp only [checkBuiltinCall, F.newKind, F.newSplit, F.newRow]
  repeat (first
    | refine wpAny_loadPart_at oC ?_
    | (refine wpAny_isSubtype_exc oC ?_; rw [yes])
    | refine wpAny_staticBase_exc oC ?_
    | refine wpAny_madeBy_exc oC ?_
    | simp only [bne_self_eq_false, Bool.false_eq_true, if_false]
    | wp_step)
  exact fin
end
section
variable {pg : Program} {w : World} {Ar : Around} {Er : Value → Shared → Prop} {Rs : Result → Shared → Prop} {he : Heap} {ge : Array GenState} {dr : Drawn} {tk : Nat} {os : OsState}
variable {nm qn : Str} {C N fI : Addr} {bs bm bmB : List Value} {hdct : Bool} {sn : List Str} {sub : List Value} {ab : Bool} {col : Option Bool} {dd : Option Addr} {k0 k1 k2 k3 k5 : Option Value} {B idN idI : String}
variable {kn : Str} {kv : Value} {more : List Value}
/-- the heap with the new exception -/
abbrev withX (he : Heap) (C : Addr) (more : List Value) : Heap := (he.push (W.kdv_tup more)).push (excO C he.objs.size)
theorem new_kw (F : ExcBaseFacts B idN idI bmB) (st : SameTy bm bmB) (oC : he.get? C = some (XO nm qn C N bs bm hdct sn sub ab col dd k0 k1 k2 k3 k5 idN)) (sz : more.length ≤ sizeLine)
    (fin : Rs (.ok (.ret (.ref (he.objs.size + 1)))) ⟨withX he C more, ge, dr, tk, os⟩) : codeAny (model pg w) Ar (.builtin idN ⟨.ref C :: more, [(kn, kv)]⟩) Rs ⟨he, ge, dr, tk, os⟩ := by
  have ends := F.ends
  have yes := hasT (C := C) st F.hasB
  have noA := hasT (C := C) st F.noAttr
  have noN := hasT (C := C) st F.noName
  refine codeAny_builtinAt F.entry ?_
  unfold Builtin.«BaseException.__new__»
  refine PySem.wpAt_bind ?_
  show PySem.wpAt _ _ _ (stack >>= _) _ _ _
  refine PySem.wpAt_bind (PySem.wpAt_stack fun _ _ => PySem.wpAt_of_wpAny ?_)
  wp_walk
  refine PySem.wpAt_of_wpAny ?_
  rw [F.owner]
  repeat (first
    | with_reducible refine wpAny_madeHere_exc F.canon oC ?_
    | with_reducible refine wpAny_loadPart_at oC ?_
    | (with_reducible refine wpAny_isSubtype_exc oC ?_; first | rw [yes] | rw [noA] | rw [noN])
    | wp_step)
  show Rs _ _
  rw [Heap.size_push]
  exact fin
theorem tcall_kw (F : ExcBaseFacts B idN idI bmB) (st : SameTy bm bmB) {P : Fin → Shared → Prop} (oC : he.get? C = some (XO nm qn C N bs bm hdct sn sub ab col dd k0 k1 k2 k3 k5 idN)) (sz : more.length ≤ sizeLine)
    (li : W.Looks (model pg w) he (typeLookup (.ref C) "__init__") (some (.ref fI))) (lb : ∀ me, W.Looks (model pg w) he (bindSpecial (.ref fI) me) (.ref fI, [me]))
    (fin : codeAny (model pg w) Ar (.call (.ref fI) ⟨.ref (he.objs.size + 1) :: more, [(kn, kv)]⟩) (fun r z => match r with | .ok (.ret v) => v = .none ∧ P (.done (.ret (.ref (he.objs.size + 1)))) z | .ok _ => False | .error e => Er e z)
      ⟨withX he C more, ge, dr, tk, os⟩) : wpAny (model pg w) Ar (Builtin.«type.__call__» ⟨.ref C :: more, [(kn, kv)]⟩) P Er ⟨he, ge, dr, tk, os⟩ := by
  repeat (first
    | with_reducible refine wpAny_loadPart_at oC ?_
    | with_reducible refine wpAny_madeBy_exc oC ?_
    | wp_step)
  refine codeAny_call_builtin_code (Code.quiet_builtin _ F.quiet) (chk_kw F st oC (new_kw F st oC sz ?_))
  show wpAny _ _ _ _ _ _
  have kept : ∀ b o, he.get? b = some o → (withX he C more).get? b = some o := fun _ _ q => Heap.get?_push_of_some _ (Heap.get?_push_of_some _ q)
  have oC2 := kept _ _ oC
  have oX : (withX he C more).get? (he.objs.size + 1) = some (excO C he.objs.size) := by heap_get
  have self : (Value.ref C :: bm).contains (.ref C) = true := by simp
  have li2 := li.keeps kept
  have lb2 := (lb (.ref (he.objs.size + 1))).keeps kept
  unfold isInstance
  repeat (first
    | with_reducible refine wpAny_loadPart_at oX ?_
    | (with_reducible refine wpAny_isSubtype_exc oC2 ?_; rw [self])
    | wp_step)
  show wpAny _ _ (typeLookup (.ref C) _) _ _ _
  refine li2.at (wpAny_holding (wpAny_bind (lb2.at ?_)))
  refine wpAny_bind (wpAny_call (codeAny_mono fin fun r z q => ?_))
  rcases r with _ | (_ | _ | _ | _) <;> first | exact q | exact q.elim | skip
  obtain ⟨rfl, q⟩ := q
  first
    | exact wpAny_pure (wpAny_pure q)
    | (wp_walk; exact q)
theorem call_kw (F : ExcBaseFacts B idN idI bmB) (st : SameTy bm bmB) (oC : he.get? C = some (XO nm qn C N bs bm hdct sn sub ab col dd k0 k1 k2 k3 k5 idN)) (sz : more.length ≤ sizeLine)
    (li : W.Looks (model pg w) he (typeLookup (.ref C) "__init__") (some (.ref fI))) (lb : ∀ me, W.Looks (model pg w) he (bindSpecial (.ref fI) me) (.ref fI, [me]))
    (fin : codeAny (model pg w) (Ar.under (.builtin "type.__call__" ⟨.ref C :: more, [(kn, kv)]⟩)) (.call (.ref fI) ⟨.ref (he.objs.size + 1) :: more, [(kn, kv)]⟩) (W.InitBack (he.objs.size + 1) Rs) ⟨withX he C more, ge, dr, tk, os⟩) :
    codeAny (model pg w) Ar (.call (.ref C) ⟨more, [(kn, kv)]⟩) Rs ⟨he, ge, dr, tk, os⟩ := by
  have l1 := tc_lookup
  have l2 := tc_bind (.ref C)
  have ty : (⟨he, ge, dr, tk, os⟩ : Shared).TypeIs (.ref C) "type" := ⟨_, oC, rfl⟩
  refine codeAny_of_tree (show wpAny _ _ (callAny (.ref C) _) _ _ _ from ?_)
  repeat (any_goals (first
    | assumption
    | with_reducible refine wpAny_loadPart_at oC ?_
    | wp_step))
  refine ⟨rfl, codeAny_call_builtin_at (Code.quiet_builtin _ (by decide +kernel)) entry_typeCall (wpAny_check_type_call_sub oC (tcall_kw F st oC sz li lb (codeAny_mono fin fun r z q => ?_)))⟩
  rcases r with _ | (_ | _ | _ | _) <;> exact q
end
end FX


namespace L2
open PySem PySem.Spec PyProof.Rows
/-- what the written part says of an own exception class over ValueError -/
structure XCls (K : PySem.W.Frag) (C : Addr) : Prop where
  cls : ∃ nm q N bs bm sn sub ab col dd k0 k1 k2 k3 k5, K.lookup C = some (excClassObj nm q C N bs bm true sn sub ab col dd k0 k1 k2 k3 k5 "ValueError.__new__") ∧ PySem.HandSPX.refsVE bm = true
  sa : PySem.W.findIn K (.ref C) "__setattr__" = some (some (.builtin "object.__setattr__"))
  exC : PySem.W.subIn K (.ref C) (.type "BaseException") = some true
  tyC : PySem.W.typeIn K (.ref C) = some (.type "type")
  kC : PySem.W.keepIn K (.ref C) = true
  ga : PySem.W.findIn K (.ref C) "__getattribute__" = some (some (.builtin "BaseException.__getattribute__"))
  gg : PySem.W.findIn K (.ref C) "__getattr__" = some none
  hdC : PySem.W.hasDictIn K C = true
  ha : PySem.W.findIn K (.ref C) "__class__" = some (some (.builtin "object.__class__"))
  hn : PySem.W.specialIn K (.builtin "object.__class__") "__get__" = some (some (.builtin "getset_descriptor.__get__"))
  ht : PySem.W.takesIn K (.builtin "object.__class__") = some true
  hm : PySem.W.mroIn K C (.type "object") = some true
theorem XCls.oex {K : PySem.W.Frag} {C : Addr} (c : XCls K C) : OexC K C := ⟨c.cls, c.sa, c.exC, c.tyC, c.kC⟩
/-- an exception object at a, by class and dict, its fields not told -/
def exg (a C : Addr) (d : Option Addr) : HO := .ext fun h => ∃ vs sl, h.get? a = some ({ cls := .ref C, dict := d, data := .fields vs, slots := sl } : Obj)
theorem exg_ok {P : Program} {w : World} {H : Hp} {h : Heap} {e C : Addr} {d : Option Addr} {vs : Array Value} {sl : Array (Option Value)} (he : h.get? e = some ({ cls := .ref C, dict := d, data := .fields vs, slots := sl } : Obj)) : ObjOk P w H h e (exg e C d) :=
  ⟨⟨vs, sl, he⟩, ⟨_, he⟩, fun h1 h2 z k => by
    obtain ⟨vs, sl, q⟩ := z
    exact ⟨vs, sl, k _ q⟩⟩
def XAt (H : Hp) (a C : Addr) (d : Option Addr) : Prop := H a = some (exo a C d) ∨ H a = some (exg a C d)
theorem XAt.obj {P : Program} {w : World} {H : Hp} {h : Heap} {a C : Addr} {d : Option Addr} (x : XAt H a C d) (hok : HOk P w H h) : ∃ ox vs, h.get? a = some ox ∧ ox.cls = .ref C ∧ ox.dict = d ∧ ox.data = .fields vs := by
  rcases x with e | e
  · obtain ⟨t1, q⟩ := exo_at hok e
    exact ⟨_, _, q, rfl, rfl, rfl⟩
  · have z : ObjOk P w H h a (.ext fun h => ∃ vs sl, h.get? a = some ({ cls := .ref C, dict := d, data := .fields vs, slots := sl } : Obj)) := hok a _ e
    obtain ⟨⟨vs, sl, q⟩, _⟩ := z
    exact ⟨_, vs, q, rfl, rfl, rfl⟩
def XD (H : Hp) (dx : Addr) (fs : List (Str × V)) : Prop := H dx = some (exd dx fs) ∨ H dx = some (.xd fs)
theorem XD.at {P : Program} {w : World} {H : Hp} {h : Heap} {dx : Addr} {fs : List (Str × V)} (x : XD H dx fs) (hok : HOk P w H h) : ∃ mA, h.Ns1 dx mA ∧ ∀ f, RelO (fs.lookup f) (mA f) := by
  rcases x with e | e
  · exact exd_at hok e
  · have z : ObjOk P w H h dx (.xd fs) := hok dx _ e
    exact z
/-- an exception of the class at C stands at a; its attributes are fs -/
def XV (H : Hp) (a C : Addr) (fs : List (Str × V)) : Prop := (XAt H a C none ∧ fs = []) ∨ ∃ dx, XAt H a C (some dx) ∧ XD H dx fs
theorem XV.inst {P : Program} {w : World} {H : Hp} {h : Heap} {a C : Addr} {fs : List (Str × V)} (x : XV H a C fs) (hok : HOk P w H h) : ∃ ox od, PySem.W.InstAt h a ox C od := by
  rcases x with ⟨x, _⟩ | ⟨dx, x, y⟩
  · obtain ⟨ox, vs, e1, e2, e3, e4⟩ := x.obj hok
    exact ⟨ox, none, e1, e2, by unfold PySem.W.notCls; rw [e4] <;> rfl, by rw [e3]; trivial⟩
  · obtain ⟨ox, vs, e1, e2, e3, e4⟩ := x.obj hok
    obtain ⟨mA, hn, hr⟩ := y.at hok
    obtain ⟨od, ho, hl⟩ := lookIn_ns hn
    exact ⟨ox, some od, e1, e2, by unfold PySem.W.notCls; rw [e4] <;> rfl, by rw [e3]; exact ho⟩
theorem XV.look {P : Program} {w : World} {H : Hp} {h : Heap} {a C : Addr} {fs : List (Str × V)} {f : Str} {v : V} (x : XV H a C fs) (hok : HOk P w H h) (hl : fs.lookup f = some v) :
    ∃ ox od u, PySem.W.InstAt h a ox C (some od) ∧ PySem.W.lookIn f od = some (some u) ∧ RelV v u := by
  rcases x with ⟨_, e⟩ | ⟨dx, x, y⟩
  · rw [e] at hl
    cases hl
  · obtain ⟨ox, vs, e1, e2, e3, e4⟩ := x.obj hok
    obtain ⟨mA, hn, hr⟩ := y.at hok
    obtain ⟨od, ho, hk⟩ := lookIn_ns hn
    obtain ⟨u, hu, ru⟩ := RelO.some_of (v := v) (o := mA f) (by rw [← hl]; exact hr f)
    exact ⟨ox, od, u, ⟨e1, e2, by unfold PySem.W.notCls; rw [e4] <;> rfl, by rw [e3]; exact ho⟩, by rw [hk, hu], ru⟩

section
variable {X : Cx}
/-- isinstance(e, c), e an exception of an own class -/
def rIsX (K : PySem.W.Frag) : List V → Hp → VK → Prop := fun xs H Q => ∃ (a C : Addr) (fs : List (Str × V)) (c : V) (u : Value) (b : Bool), xs = [.ref a, c] ∧ ClsV c u ∧ XCls K C ∧ XV H a C fs ∧ PySem.W.kitOne K (.ref C) u = some b ∧ Q (.bl b) H
theorem call_isX : CallR X (.builtin "isinstance") (rIsX X.K) := by
  intro pins s σ H xs us Q I r h
  obtain ⟨a, C, fs, c, u, b, rfl, k, T, xv, e, q⟩ := h
  obtain ⟨u1, u2, rfl, r1, r2⟩ := vals2 r
  have e2 := k.eq r2
  subst e2
  obtain rfl : u1 = Value.ref a := r1
  obtain ⟨ox, od, J⟩ := xv.inst I.hok
  have hcl : (PySem.W.clsIn X.K C).isSome = true := by
    obtain ⟨cd, hc, _⟩ := PySem.W.any_some T.hdC
    rw [hc] <;> rfl
  exact PySem.W.kia_one (PySem.W.kitx_exc hcl T.ga T.gg T.exC T.ha T.hn T.ht T.hm) I.kIn J e (fun z => nomatch z) fun tk => ⟨.bl b, H, I.tok tk, rfl, q⟩
/-- e.f -/
def tXFld (K : PySem.W.Frag) (te : TE) (f : Str) : TE := fun σ H Q => te σ H fun x H1 => ∃ (a C : Addr) (fs : List (Str × V)) (v : V), x = .ref a ∧ XV H1 a C fs ∧ XCls K C ∧ PySem.W.findIn K (.ref C) f = some none ∧ fs.lookup f = some v ∧ Q v H1
theorem pe_xfld {e : Expr} {te : TE} {pos : Pos} {n : Str} (he : PE X e te) (hb : attributeBase e n X.env (eval e X.env) = eval e X.env := by rfl) : PE X (.Attribute e n pos) (tXFld X.K te n) := by
  refine ⟨fun pins s σ H Q I h => ?_⟩
  refine attr_of hb (thn (he.run pins s σ H _ I h) fun u s1 hh => ?_)
  obtain ⟨x, H1, I1, rx, a, C, fs, v, ex, xv, T, hno, hl, q⟩ := hh
  subst ex
  obtain rfl : u = Value.ref a := rx
  obtain ⟨ox, od, u, J, hk, ru⟩ := xv.look I1.hok hl
  exact HandSPX.exc_get I1.kIn J T.ga T.gg T.exC (PySem.W.findObj_own T.hdC hno rfl hk) (handed_of ru) ⟨v, H1, I1.tok _, ru, q⟩
/-- R.__init__(self, ..), R an own class whose __init__ is ValueError's -/
structure XIni (K : PySem.W.Frag) (R : Addr) : Prop where
  rd : PySem.W.readsIn K R (.type "type") = true
  ga : PySem.W.specialIn K (.ref R) "__getattribute__" = some (some (.builtin "type.__getattribute__"))
  at_ : PySem.W.findCls K (.ref R) (.type "type") "__init__" = some (.val (.builtin "ValueError.__init__"))
theorem pe_clsinit {R : Addr} {rn : Str} {e : Expr} {es : List Expr} {ta : TA} {p1 p2 pos : Pos} {pl : Sem Bool} (T0 : XIni X.K R) (hg : Gl X rn) (hm : X.mg rn = some (.ref R)) (ha : PA X (e :: es) ta)
    (hdb : (rn == ("__debug__" : Str)) = false := by decide)
    (hc : eval (.Call (.Attribute (.Name rn p1) "__init__" p2) (e :: es) [] pos) X.env = (do
      let ov ← eval (.Name rn p1) X.env
      standAt p2.atName
      let (f, first) ← holding [ov] (getMethod ov "__init__" pl)
      callWith pos f first (backTo pos (starEach (e :: es) X.env)) (backToKw pos (keywordEach [] X.env))) := by rfl)
    (he : starEach (e :: es) X.env = (false, eval e X.env) :: starEach es X.env := by rfl) (hpl : (backTo pos (starEach es X.env)).any (·.1) = false := by rfl) :
    PE X (.Call (.Attribute (.Name rn p1) "__init__" p2) (e :: es) [] pos) (tVeI X.K ta) := by
  refine ⟨fun pins s σ H Q I h => ?_⟩
  refine PySem.W.methodCall_KW (ld_glob I hg hm ?_ hdb) hc
  refine PySem.W.method_cls I.kIn T0.ga (PySem.W.cls_value I.kIn T0.rd T0.at_ rfl ?_)
  show wpAny _ _ (callWith pos (Value.builtin "ValueError.__init__") [] (backTo pos (starEach (e :: es) X.env)) []) _ _ _
  refine PyProof.Rows.callWith_method1 (thn (ha.run pos pins _ σ H _ (I.tok _) h) fun us s1 ⟨vs, H1, I1, r1, a, C, ws, ev, hl, T, ea, q⟩ => ?_) he hpl
  subst ev
  cases r1 with
  | @cons _ u0 _ ur ra rw' =>
    obtain rfl : u0 = Value.ref a := ra
    have hlen : ur.length ≤ sizeLine := by
      rw [← Paired.length rw', sizeLine_eq]
      omega
    exact oinit_ok T I1 ea hlen fun s' J => ⟨.non, H1, J, rfl, q⟩

/-! ### C(..) as a value -/
variable {CX : CXT} {C fI : Addr} {k : Nat} {fd : FuncData} {ps : List Str} {sp : Sp} {ds : List Value} {dvs : List V} {E : XK}
/-- the state with a new exception of C laid, its arguments at the heap's end -/
theorem Inv.xnew {pins : List (Addr × Obj)} {σ : St} {H : Hp} {hp : Heap} {gn : Array GenState} {dr : Drawn} {tk : Nat} {os : OsState} (C : Addr) (us : List Value) (I : Inv X pins σ H ⟨hp, gn, dr, tk, os⟩) :
    H (hp.objs.size + 1) = none ∧ Inv X pins σ (upd H (hp.objs.size + 1) (exo (hp.objs.size + 1) C none)) ⟨FX.withX hp C us, gn, dr, tk, os⟩ := by
  have le : hp.objs.size ≤ hp.objs.size + 1 := Nat.le_succ _
  have at_ : (FX.withX hp C us).get? (hp.objs.size + 1) = some (PySem.HandSPX.excO C hp.objs.size) := by heap_get
  exact ⟨I.hok.fresh le, I.laid (t' := tk) (h' := FX.withX hp C us) (fun _ _ z => Heap.get?_push_of_some _ (Heap.get?_push_of_some _ z)) le (exo_ok at_)⟩
/-- behind __init__: its answer is None, the call's answer the new object -/
theorem xback {pins : List (Addr × Obj)} {σ : St} {H : Hp} {s s' : Shared} {a : Addr} {Q : VK} {r : Result} (hx : Passes CX X E) (I : Inv X pins σ H s)
    (z : CR CX X.stack X.prog X.w H s (fun v H2 => v = .non ∧ Q (.ref a) H2) E r s') : PySem.W.InitBack a (fun r s' => match r with | .ok (.ret u) => EP X pins σ Q u s' | .ok _ => False | .error e => X.xe e s') r s' := by
  match r, z with
  | .error er, z => exact hx pins σ H s er s' I z
  | .ok (.ret u), z =>
    obtain ⟨v, H2, J, rv, ev, q⟩ := I.after z
    subst ev
    exact ⟨rv, .ref a, H2, J, rfl, q⟩
  | .ok .next, z => exact z.elim
  | .ok .brk, z => exact z.elim
  | .ok .cont, z => exact z.elim
theorem run_mkx {pins : List (Addr × Obj)} {σ : St} {H1 : Hp} {s : Shared} {Q : VK} {us : List Value} {vs : List V} (T : OexC X.K C) (iC : PySem.W.findIn X.K (.ref C) "__init__" = some (some (.ref fI))) (tI : PySem.W.typeIn X.K (.ref fI) = some (.type "function"))
    (F1 : FnOk X.prog X.w X.K X.mg X.base CX k fI fd ps sp) (hr : Room (k + 1) X.A) (hb : Binds X.K fd ps ds) (hd : Vals dvs ds) (hx : Passes CX X E) (I1 : Inv X pins σ H1 s) (r1 : Vals vs us) (hz : vs.length ≤ 1000)
    (q1 : ∀ a, H1 a = none → sp (.ref a :: (vs ++ dvs)) (upd H1 a (exo a C none)) (fun v H2 => v = .non ∧ Q (.ref a) H2) E) :
    wpAny (model X.prog X.w) X.A (call (.ref C) us) (EP X pins σ Q) X.xe s := by
  obtain ⟨_, _, _, _, bm, _, _, _, _, _, _, _, _, _, _, oC, tail⟩ := T.cls
  obtain ⟨hp, gn, dr, tk, os⟩ := s
  obtain ⟨new, J⟩ := Inv.xnew C us I1
  have want := q1 _ new
  have rel : Vals (V.ref (hp.objs.size + 1) :: (vs ++ dvs)) (Value.ref (hp.objs.size + 1) :: (us ++ ds)) := .cons rfl (r1.append hd)
  have len : (Value.ref (hp.objs.size + 1) :: us ++ ds).length = ps.length := rel.length.symm.trans (F1.len _ _ _ _ want)
  have few : us.length ≤ sizeLine := by
    have := r1.length
    rw [sizeLine_eq]; omega
  have go := F1.run _ X.stack _ _ ⟨Value.ref (hp.objs.size + 1) :: us, []⟩ (Value.ref (hp.objs.size + 1) :: (us ++ ds)) _ _ E (hr.make C us []) (J.env0.make C us []) (hb _ (Value.ref (hp.objs.size + 1) :: us) J.kIn len) rel want
  exact wpAny_call (PySem.HandSPX.call_own F.excBase_ValueError (fun Y => PySem.HandSPX.refsVE_contains Y bm tail) (I1.kIn _ _ oC) (PySem.W.looks_findIn I1.kIn iC) (fun me => PySem.W.bind_fn I1.kIn me tI) few (codeAny_mono go fun r z q => xback hx J q))
theorem run_mkxK {pins : List (Addr × Obj)} {σ : St} {H1 : Hp} {s : Shared} {Q : VK} {u : Value} {v : V} {kn : Str} {g : List Value → List Value → List Value} {gV : List V → List V → List V} (T : OexC X.K C) (iC : PySem.W.findIn X.K (.ref C) "__init__" = some (some (.ref fI))) (tI : PySem.W.typeIn X.K (.ref fI) = some (.type "function"))
    (F1 : FnOk X.prog X.w X.K X.mg X.base CX k fI fd ps sp) (hr : Room (k + 1) X.A) (hb : KBn X.K fd ps 1 [kn] g gV) (hx : Passes CX X E) (I1 : Inv X pins σ H1 s) (r1 : RelV v u)
    (q1 : ∀ a, H1 a = none → sp (gV [.ref a] [v]) (upd H1 a (exo a C none)) (fun v H2 => v = .non ∧ Q (.ref a) H2) E) :
    wpAny (model X.prog X.w) X.A (call (.ref C) [] [(kn, u)]) (EP X pins σ Q) X.xe s := by
  obtain ⟨_, _, _, _, bm, _, _, _, _, _, _, _, _, _, _, oC, tail⟩ := T.cls
  obtain ⟨hp, gn, dr, tk, os⟩ := s
  obtain ⟨new, J⟩ := Inv.xnew C [] I1
  have rel : Vals (gV [V.ref (hp.objs.size + 1)] [v]) (g [Value.ref (hp.objs.size + 1)] [u]) := hb.rel (.cons rfl .nil) (.cons r1 .nil)
  have go := F1.run _ X.stack _ _ ⟨[Value.ref (hp.objs.size + 1)], [(kn, u)]⟩ (g [Value.ref (hp.objs.size + 1)] [u]) _ _ E (hr.make C [] [(kn, u)]) (J.env0.make C [] [(kn, u)]) (hb.to _ [Value.ref (hp.objs.size + 1)] [u] J.kIn rfl rfl) rel (q1 _ new)
  exact wpAny_call (FX.call_kw F.excBase_ValueError (fun Y => PySem.HandSPX.refsVE_contains Y bm tail) (I1.kIn _ _ oC) (Nat.zero_le _) (PySem.W.looks_findIn I1.kIn iC) (fun me => PySem.W.bind_fn I1.kIn me tI) (codeAny_mono go fun r z q => xback hx J q))
/-- C(e, ..) as a value; C's own __init__ keeps sp -/
def tMkX (C : Addr) (sp : Sp) (dvs : List V) (E : XK) (ta : TA) : TE := fun σ H Q => ta σ H fun vs H1 => vs.length ≤ 1000 ∧ ∀ a, H1 a = none → sp (.ref a :: (vs ++ dvs)) (upd H1 a (exo a C none)) (fun v H2 => v = .non ∧ Q (.ref a) H2) E
def tMkXK (C : Addr) (sp : Sp) (gV : List V → List V → List V) (E : XK) (te : TE) : TE := fun σ H Q => te σ H fun v H1 => ∀ a, H1 a = none → sp (gV [.ref a] [v]) (upd H1 a (exo a C none)) (fun v H2 => v = .non ∧ Q (.ref a) H2) E
variable {x : Str} {e : Expr} {es : List Expr} {ta : TA} {te : TE} {p pos kpos : Pos}
theorem pe_mkx (T : XCls X.K C) (iC : PySem.W.findIn X.K (.ref C) "__init__" = some (some (.ref fI))) (tI : PySem.W.typeIn X.K (.ref fI) = some (.type "function"))
    (F1 : FnOk X.prog X.w X.K X.mg X.base CX k fI fd ps sp) (hr : Room (k + 1) X.A) (hg : Gl X x) (hm : X.mg x = some (.ref C)) (hb : Binds X.K fd ps ds) (hd : Vals dvs ds) (hx : Passes CX X E) (ha : PA X (e :: es) ta)
    (hdb : (x == ("__debug__" : Str)) = false := by decide) (he : starEach (e :: es) X.env = (false, eval e X.env) :: starEach es X.env := by rfl) (hpl : (backTo pos (starEach es X.env)).any (·.1) = false := by rfl) :
    PE X (.Call (.Name x p) (e :: es) [] pos) (tMkX C sp dvs E ta) := by
  refine ⟨fun pins s σ H Q I h => ?_⟩
  refine wpAny_Call_Name_kw (ld_glob I hg hm ?_ hdb)
  refine PySem.W.callWith_K (h₀ := X.base) I.ok.mod.kin T.kC (thn (ha.run pos pins s σ H _ I h) fun us s1 ⟨vs, H1, I1, r, hz, q⟩ => ⟨I1.kIn, ?_⟩) he hpl
  exact run_mkx T.oex iC tI F1 hr hb hd hx I1 r hz q
theorem pe_mkx0 (T : XCls X.K C) (iC : PySem.W.findIn X.K (.ref C) "__init__" = some (some (.ref fI))) (tI : PySem.W.typeIn X.K (.ref fI) = some (.type "function"))
    (F1 : FnOk X.prog X.w X.K X.mg X.base CX k fI fd ps sp) (hr : Room (k + 1) X.A) (hg : Gl X x) (hm : X.mg x = some (.ref C)) (hb : Binds X.K fd ps ds) (hd : Vals dvs ds) (hx : Passes CX X E)
    (hdb : (x == ("__debug__" : Str)) = false := by decide) : PE X (.Call (.Name x p) [] [] pos) (tMkX C sp dvs E tNil) := by
  refine ⟨fun pins s σ H Q I h => ?_⟩
  refine wpAny_Call_Name_kw (ld_glob I hg hm ?_ hdb)
  exact PySem.W.callWith_K0 I.kIn T.kC (run_mkx (us := []) T.oex iC tI F1 hr hb hd hx I .nil h.1 h.2)
theorem pe_mkxK {kn : Str} {g : List Value → List Value → List Value} {gV : List V → List V → List V} (T : XCls X.K C) (iC : PySem.W.findIn X.K (.ref C) "__init__" = some (some (.ref fI))) (tI : PySem.W.typeIn X.K (.ref fI) = some (.type "function"))
    (F1 : FnOk X.prog X.w X.K X.mg X.base CX k fI fd ps sp) (hr : Room (k + 1) X.A) (hg : Gl X x) (hm : X.mg x = some (.ref C)) (hb : KBn X.K fd ps 1 [kn] g gV) (hx : Passes CX X E) (he : PE X e te)
    (hall : (backToKw pos (keywordEach [⟨some kn, e, kpos⟩] X.env)).all (·.1.isSome) = true := by rfl) (hks : (backToKw pos (keywordEach [⟨some kn, e, kpos⟩] X.env)).filterMap (·.1) = [kn] := by rfl) (hdb : (x == ("__debug__" : Str)) = false := by decide)
    (hpl : ((backTo pos (starEach [] X.env)).any (·.1) || (backToKw pos (keywordEach [⟨some kn, e, kpos⟩] X.env)).any (·.1.isNone)) = false := by rfl) :
    PE X (.Call (.Name x p) [] [⟨some kn, e, kpos⟩] pos) (tMkXK C sp gV E te) := by
  refine ⟨fun pins s σ H Q I h => ?_⟩
  refine wpAny_Call_Name_kw (ld_glob I hg hm ?_ hdb)
  refine PySem.W.callWith_KW0 (h₀ := X.base) I.ok.mod.kin T.kC hall ?_ hpl
  refine wpAny_evalAll_cons (wpAny_bind (thn (he.run pins s σ H _ I h) fun u s1 ⟨v, H1, I1, r1, q1⟩ => wpAny_bind (wpAny_standAt (wpAny_pure (wpAny_evalAll_nil ⟨I1.kIn, ?_⟩)))))
  rw [hks]
  exact run_mkxK T.oex iC tI F1 hr hb hx I1 r1 q1
end
end L2


/-! Own: repr over the layer. repr asks what calls of repr are under way (A.guards), and the layer's contracts do not tell it: a contract FnG that tells it too, its rule for a def's body, its call, the end. -/
namespace L2
open PySem PySem.Spec PyProof.Rows
/-- no repr is under way -/
abbrev Clr (A : Around) : Prop := A.guards = some []
theorem Clr.deeper {A : Around} {env : Env} (h : Clr A) : Clr (A.deeper env) := by
  have h' : A.guards = some [] := h
  show (A.deeper env).guards = some []
  first
    | exact h'
    | (simp [Around.deeper, h', pushGuards, Code.guards, Code.isGuard])
structure FnG (P : Program) (w : World) (K : PySem.W.Frag) (mg : Str → Option Value) (base : Heap) (CX : CXT) (k : Nat) (f : Addr) (fd : FuncData) (ps : List Str) (sp : Sp) : Prop where
  len : ∀ vs H Q E, sp vs H Q E → vs.length = ps.length
  run : ∀ (A : Around) (outer : List Env) (s : Shared) (H : Hp) (args : Args) (us : List Value) (vs : List V) (Q : VK) (E : XK), Clr A → Room k A → Env0 P w K mg base A outer s H → BindsTo s fd args (ps.zip us) → Vals vs us → sp vs H Q E →
    codeAny (model P w) A (.call (.ref f) args) (CR CX outer P w H s Q E) s
theorem FnOk.g {P : Program} {w : World} {K : PySem.W.Frag} {mg : Str → Option Value} {base : Heap} {CX : CXT} {k : Nat} {f : Addr} {fd : FuncData} {ps : List Str} {sp : Sp} (F : FnOk P w K mg base CX k f fd ps sp) : FnG P w K mg base CX k f fd ps sp :=
  ⟨F.len, fun A outer s H args us vs Q E _ => F.run A outer s H args us vs Q E⟩
section
variable {P : Program} {w : World} {K : PySem.W.Frag} {mg : Str → Option Value} {base : Heap}
/-- a def by its body, where nothing is raised out of it -/
theorem Fun.okG {x qual : Str} {st : Stmt} {f : Addr} {fd : FuncData} {N ps : List Str} {k : Nat} {sp : Sp} (F : Fun K x qual st f fd) (S : FnScope N ps (defScope st)) (len : ∀ vs H Q E, sp vs H Q E → vs.length = ps.length)
    (body : ∀ (cdv : Value) (A : Around) (outer : List Env) (s : Shared) (H : Hp) (vs : List V) (Q : VK) (E : XK), Clr A → Room k (A.deeper (envOfC qual (defScope st) s.heap.objs.size f cdv)) → sp vs H Q E →
      ∃ t, PSs (cxOf CX0 P w K mg base N qual (defScope st) f cdv A outer s H E).nox (defBody st) t ∧ t { nx := fun _ H' => Q .non H', rt := Q } (start N vs) H) : FnG P w K mg base CX0 (k + 1) f fd ps sp := by
  obtain ⟨oc, od, kV, doc, pm, an, cdv, ct, osl, rfl, lk, code⟩ := F.ex
  refine ⟨len, fun A outer s H args us vs Q E clr room e0 binds rel want => ?_⟩
  have nps := len _ _ _ _ want
  have KX : K.In s.heap := e0.mod.kin.keeps fun b o e => (e0.bs b o e).1
  have lim : s.heap.NoLimit := e0.mod.nolimit.keeps fun b o e => (e0.bs b o e).1
  refine codeAny_call_function room.depth (KX _ _ lk) rfl S.co S.gen rfl (PySem.W.codeRec_of KX code) (binds _ _ _ _ (wpAny_newFunctionEnv_cells S.kind (fun y hy => ?_) fun env he s1 x => ?_))
  · obtain ⟨n, v⟩ := y
    exact (S.par n (List.of_mem_zip hy).1).elim .inl fun q => .inr ⟨q, PySem.W.cellsFrom_some _ _ _ (.inl q)⟩
  · subst he
    obtain ⟨t, term, q⟩ := body cdv A outer s H vs Q E clr (room.deeper _) want
    have I : Inv (cxOf CX0 P w K mg base N qual (defScope st) f cdv A outer s H E) [] (start N vs) H s1 := inv_start S room.hd e0 nps rel x
    refine ⟨lim.keeps x.toInCall.keep, codeAny_func (wpAny_mono (term.nox.run [] s1 (start N vs) H _ I q) (fun fl s' z => ?_) fun _ _ z => z)⟩
    match fl, z with
    | .ret u, ⟨v, _, H', J, rv, q⟩ => exact ⟨v, H', J.os, J.bare, J.base, J.hok, rv, q⟩
    | .next, ⟨_, H', J, q⟩ => exact ⟨.non, H', J.os, J.bare, J.base, J.hok, rfl, q⟩
    | .brk, ⟨_, _, _, q⟩ => exact q.elim
    | .cont, ⟨_, _, _, q⟩ => exact q.elim
end
section
variable {X : Cx} {CX : CXT} {k : Nat} {f : Addr} {fd : FuncData} {ps : List Str} {sp : Sp} {dvs : List V} {ds : List Value} {E : XK} {x : Str} {p pos : Pos} {e : Expr} {es : List Expr} {t : TA}
/-- f(e, ..), f of such a contract -/
theorem pe_callG (F : FnG X.prog X.w X.K X.mg X.base CX k f fd ps sp) (clr : Clr X.A) (hr : Room k X.A) (hg : Gl X x) (hm : X.mg x = some (.ref f)) (hk : PySem.W.keepIn X.K (.ref f) = true) (hb : Binds X.K fd ps ds) (hd : Vals dvs ds) (hx : Passes CX X E)
    (ha : PA X (e :: es) t) (dbg : (x == ("__debug__" : Str)) = false := by decide) (one : starEach (e :: es) X.env = (false, eval e X.env) :: starEach es X.env := by rfl) (plain : (backTo pos (starEach es X.env)).any (·.1) = false := by rfl) :
    PE X (.Call (.Name x p) (e :: es) [] pos) (tCall sp dvs E t) := by
  refine ⟨fun pins s σ H Q I h => wpAny_Call_Name_kw (ld_glob I hg hm ?_ dbg)⟩
  refine PySem.W.callWith_K (h₀ := X.base) I.ok.mod.kin hk (thn (ha.run pos pins s σ H _ I h) fun us s1 ⟨vs, H1, J, rel, want⟩ => ⟨J.kIn, ?_⟩) one plain
  have r2 : Vals (vs ++ dvs) (us ++ ds) := rel.append hd
  have len : (us ++ ds).length = ps.length := r2.length.symm.trans (F.len _ _ _ _ want)
  refine wpAny_call (codeAny_mono (F.run X.A X.stack s1 H1 ⟨us, []⟩ (us ++ ds) (vs ++ dvs) Q E clr hr J.env0 (hb s1 us J.kIn len) r2 want) fun r s' z => ?_)
  match r, z with
  | .error er, z => exact hx pins σ H1 s1 er s' J z
  | .ok (.ret u), z => exact J.after z
  | .ok .next, z => exact z.elim
  | .ok .brk, z => exact z.elim
  | .ok .cont, z => exact z.elim
/-! ### repr -/
/-- what is shown: data without dicts, or the empty dict -/
def Shw (K : PySem.W.Frag) (H : Hp) (x : V) (d : PyData) : Prop := (Dp K H x d ∧ d.hasDict = false) ∨ ∃ a, x = .ref a ∧ H a = some (.dK []) ∧ d = .dict []
def rRepr (K : PySem.W.Frag) : List V → Hp → VK → Prop := fun xs H Q => ∃ (x : V) (d : PyData), xs = [x] ∧ Shw K H x d ∧ d.showable = true ∧ d.depth ≤ 60 ∧ d.shown.length ≤ sizeLine ∧ Q (.str d.shown) H
theorem Shw.reads {pins : List (Addr × Obj)} {σ : St} {H : Hp} {s : Shared} {x : V} {u : Value} {d : PyData} (h : Shw X.K H x d) (I : Inv X pins σ H s) (r : RelV x u) : ∃ as, Reads s.heap u d as ∧ (d.hasDict = true → sysModules ∉ as) := by
  rcases h with ⟨h, nd⟩ | ⟨a, rfl, e, rfl⟩
  · obtain ⟨as, q⟩ := Dp.reads I d x u h r
    exact ⟨as, q, PyData.noDict_hsm nd⟩
  · obtain rfl : u = Value.ref a := r
    obtain ⟨_, ns, vs, kv, o, es, ep, h1, h2, h3, h4⟩ := (show ObjOk X.prog X.w H s.heap a (.dK []) from I.hok a _ e)
    cases kv
    have hes : es.toList = [] := by
      obtain ⟨_, h5, _⟩ := h4
      revert h5
      generalize es.toList = l
      intro h5
      cases h5
      rfl
    refine ⟨a :: [] ++ [], .dict h1 h2.1 h3 (by rw [hes]; exact .nil) (by rw [hes]; exact .nil), fun _ hm => ?_⟩
    have hm' : sysModules = a := by simpa using hm
    rw [hm'] at ns
    simp at ns
theorem call_repr (clr : Clr X.A) (hu : X.A.units + 64 < cLine) : CallR X (.builtin "repr") (rRepr X.K) := by
  intro pins s σ H xs us Q I r h
  obtain ⟨x, d, rfl, sh, ok, dep, few, q⟩ := h
  obtain ⟨u, rfl, ru⟩ := vals1 r
  obtain ⟨as, rd, sm⟩ := sh.reads I ru
  have fin : ∀ h' (t : Tok) tk, (∀ b o, s.heap.get? b = some o → h'.get? b = some o) → EP X pins σ Q (.str d.shown t) { s with heap := h', toks := tk } := fun h' t tk kp => ⟨.str d.shown, H, I.kept kp, ⟨t, rfl⟩, q⟩
  cases u with
  | ref a => exact repr_of_reads' rd ok sm clr (by omega) (fun _ _ z => z) fin few
  | none => cases rd; exact PySem.P.repr_of_none (fin _ _ _ fun _ _ z => z)
  | bool b => cases rd; exact PySem.P.repr_of_bool (fin _ _ _ fun _ _ z => z)
  | int i t => cases rd; exact PySem.P.repr_of_int (by simpa [PyData.showable] using ok) (fin _ _ _ fun _ _ z => z)
  | str y t => cases rd; exact PySem.P.repr_of_str (fin _ _ _ fun _ _ z => z) few
  | _ => cases rd
end
end L2


/-! Own: the end of a law's row from a contract FnG (the library's walk_of asks FnOk). -/
namespace L2
open PySem PySem.Spec PyProof.Rows
section
variable {P : Program} {w : World} {K : PySem.W.Frag} {mg mb : Str → Option Value} {k : Nat} {fa a : Addr} {fd : FuncData} {x : Str} {sp : Sp} {s : Shared} {vs : List Value} {ns : List Int}
/-- the abstract heap at the law's entry: the script alone, locked; or nothing, where the script is the module's own -/
abbrev Entry (K : PySem.W.Frag) (a : Addr) (H : Hp) : Prop := (∀ b, H b ≠ none → b = a) ∧ (H a ≠ none → K.lookup a = none)
theorem entry_run (KX : K.In s.heap) (hns : s.heap.Ns mainGlobals mg) (hb : s.heap.Ns builtinsNs mb) (hbb : ∀ y : Str, y ≠ "__name__" → mb y = bootBuiltins y) (lim : s.heap.NoLimit) (gens : s.gens = #[])
    (oa : s.heap.get? a = some { cls := .type "list", data := .seq vs.toArray }) (room : Room k callerA) (F : ∀ base : Heap, K.In base → base.Ns mainGlobals mg → FnG P w K mg base CX0 k fa fd [x] sp)
    (bind : ∀ (s : Shared) (u : Value), BindsTo s fd ⟨[u], []⟩ [(x, u)]) {H : Hp} (only : Only H) (ok : HOk P w H s.heap) (en : Entry K a H) (want : sp [.ref a] H (fun v _ => v = .bl true) fun _ _ _ => False) :
    codeAny (model P w) callerA (.call (.ref fa) ⟨[.ref a], []⟩) (fun r s' => r = .ok (.ret (.bool true)) ∧ OldK s.heap s'.heap ∧ s'.os = s.os ∧ AllBare s'.gens) s := by
  obtain ⟨e1, e2⟩ := en
  have isA : ∀ {b : Addr} {u : HO}, H b = some u → b = a := fun {b u} q => e1 b fun z => by
    rw [z] at q
    cases q
  -- an address at which another object stands is not tracked
  have out : ∀ {b : Addr}, b ≠ a → H b = none := fun {b} ne => by
    cases q : H b with
    | none => rfl
    | some u => exact absurd (isA q) ne
  have dictNe : ∀ {b : Addr} {o : Obj} {es : Array DictEntry} {ep : Nat}, s.heap.get? b = some o → o.data = .dict es ep → b ≠ a := fun {b o es ep} q d z => by
    subst z
    rw [oa] at q
    cases q
    cases (show Data.seq vs.toArray _ = Data.dict es ep from d)
  have seen : ∀ {b : Addr} {o : Obj}, s.heap.get? b = some o → H b = none → (hidT s.heap H).get? b = some o := fun q n => hidT_get q n
  have nsT : ∀ {b : Addr} {m : Str → Option Value}, s.heap.Ns b m → (hidT s.heap H).Ns b m := fun ⟨o, es, ep, q, d, r⟩ => ⟨o, es, ep, seen q (out (dictNe q d)), d, r⟩
  have KT : K.In (hidT s.heap H) := fun b o q => seen (KX b o q) (by
    by_cases z : b = a
    · subst z
      cases r : H b with
      | none => rfl
      | some u =>
        rw [e2 (by rw [r]; exact fun z => nomatch z)] at q
        cases q
    · exact out z)
  have e0 : Env0 P w K mg (hidT s.heap H) callerA [] s H :=
    ⟨rfl, ⟨KT, nsT hns, ⟨mb, nsT hb, hbb⟩, let ⟨m, z1, z2⟩ := lim; ⟨m, nsT z1, z2⟩⟩, fun b o q => of_hidT q, Nat.le_of_eq (hidT_size _ _), trivial, fun b z => absurd (show b ∈ ([] : List Addr) from z) (by simp), ok, .of_eq gens⟩
  refine codeAny_mono ((F _ KT (nsT hns)).run callerA [] s H ⟨[.ref a], []⟩ [.ref a] [.ref a] _ _ rfl room e0 (bind s (.ref a)) (.cons rfl .nil) want) fun r s' z => ?_
  match r, z with
  | .error _, z => exact z.elim
  | .ok .next, z => exact z.elim
  | .ok .brk, z => exact z.elim
  | .ok .cont, z => exact z.elim
  | .ok (.ret u), ⟨v, H', os, bare, un, ok', rv, q⟩ =>
    obtain rfl : v = .bl true := q
    obtain rfl : u = Value.bool true := rv
    refine ⟨rfl, .of_keep fun b o q => ?_, os, bare⟩
    rcases only b with n | ⟨o2, xs, n⟩
    · exact un.keep b o q n (fun z => absurd (show b ∈ ([] : List Addr) from z) (by simp)) (by simp)
    · have q1 := (ok b _ n).1
      rw [q] at q1
      cases q1
      exact (ok' b _ (un.frzs b o _ n)).1
theorem entry_call (KX : K.In s.heap) (hns : s.heap.Ns mainGlobals mg) (hb : s.heap.Ns builtinsNs mb) (hbb : ∀ y : Str, y ≠ "__name__" → mb y = bootBuiltins y) (lim : s.heap.NoLimit) (gens : s.gens = #[])
    (oa : s.heap.get? a = some { cls := .type "list", data := .seq vs.toArray }) (hi : IntsAre vs ns) (few : ns.length ≤ sizeLine) (room : Room k callerA) (F : ∀ base : Heap, K.In base → base.Ns mainGlobals mg → FnG P w K mg base CX0 k fa fd [x] sp)
    (bind : ∀ (s : Shared) (u : Value), BindsTo s fd ⟨[u], []⟩ [(x, u)]) (want : ∀ H : Hp, Only H → SqL K H a (ns.map V.int) → sp [.ref a] H (fun v _ => v = .bl true) fun _ _ _ => False) :
    codeAny (model P w) callerA (.call (.ref fa) ⟨[.ref a], []⟩) (fun r s' => r = .ok (.ret (.bool true)) ∧ OldK s.heap s'.heap ∧ s'.os = s.os ∧ AllBare s'.gens) s := by
  have rv := vals_ints hi
  have len := hi.length
  cases own : K.lookup a with
  | some o =>
    have q := KX a o own
    rw [oa] at q
    cases q
    have no : ∀ b, ¬ ((fun _ => none : Hp) b ≠ none) := fun b z => z rfl
    exact entry_run KX hns hb hbb lim gens oa room F bind (H := fun _ => none) (fun _ => .inl rfl) (fun b u z => nomatch (show (none : Option HO) = some u from z)) ⟨fun b z => (no b z).elim, fun z => (no a z).elim⟩
      (want _ (fun _ => .inl rfl) (.inr ⟨_, vs.toArray, _, own, rfl, rfl, rfl, by rw [List.size_toArray, len]; exact few, by simpa using rv⟩))
  | none =>
    obtain ⟨H, hH⟩ : ∃ H : Hp, H = fun b => if b = a then some (.frz { cls := .type "list", data := .seq vs.toArray } (.lst (ns.map V.int))) else none := ⟨_, rfl⟩
    have at_ : H a = some (.frz { cls := .type "list", data := .seq vs.toArray } (.lst (ns.map V.int))) := by rw [hH]; exact if_pos rfl
    have off : ∀ {b}, b ≠ a → H b = none := fun {b} z => by rw [hH]; exact if_neg z
    have only : Only H := fun b => (Decidable.em (b = a)).elim (fun z => .inr ⟨_, _, z ▸ at_⟩) fun z => .inl (off z)
    refine entry_run KX hns hb hbb lim gens oa room F bind only (fun b u z => ?_) ⟨fun b z => Decidable.byContradiction fun n => z (off n), fun _ => own⟩ (want _ only (.inl (.inr ⟨_, at_⟩)))
    by_cases n : b = a
    · subst n
      rw [at_] at z
      cases z
      exact ⟨oa, by rw [List.length_map]; exact few, vs, _, rv, oa⟩
    · rw [off n] at z
      cases z
end
/-- the goal behind the head, from the law's promise as an FnG -/
theorem walk_ofG {l : PySem.W.OpenLaw} {n k : Nat} {q : Program} {loose : List Str} {XP : (Str → Option Value) → Heap → Prop} {YP : World → Heap → Prop} {d : DefRec} {K : Params → PySem.W.Frag} {sp : World → Sp} {x : Str}
    (most : l.most = some n) (few : n ≤ sizeLine) (nodf : d.params.defaults = []) (room : Room k callerA) (hY : ∀ (w : World) (h : Heap), YP w h → (K w.params).In h)
    (F : ∀ (w : World) (mg : Str → Option Value) (fa : Addr) (h : Heap), (K w.params).In h → h.Ns mainGlobals mg → mg d.name = some (.ref fa) →
      ∃ fd : FuncData, (∀ (s : Shared) (u : Value), BindsTo s fd ⟨[u], []⟩ [(x, u)]) ∧ ∀ base : Heap, (K w.params).In base → base.Ns mainGlobals mg → FnG l.prog w (K w.params) mg base CX0 k fa fd [x] (sp w))
    (want : ∀ (w : World) (H : Hp) (a : Addr) (ns : List Int), ns.length ≤ n → Only H → SqL (K w.params) H a (ns.map V.int) → sp w [.ref a] H (fun v _ => v = .bl true) fun _ _ _ => False) :
    PySem.W.WalkO q loose XP YP l.row.toRowW d [] (fun f vs => PySem.call f vs) :=
  Att.attach_call most nodf fun w _ s mg mb fa _ _ _ _ a vs ns G Y _ _ _ hmg hobj hints hlen hg => by
    have KX := hY w _ Y
    obtain ⟨fd, bind, hF⟩ := F w mg fa _ KX G.T.g hmg
    exact entry_call KX G.T.g G.T.b G.T.builtins G.T.nolimit hg hobj hints (Nat.le_trans hlen few) room hF bind fun H only sq => want w H a ns hlen only sq
end L2


namespace K14
open PySem L2
def top (i : Nat) : Stmt := PySem.Challenge.pw_flagtrees_k14_errors.main.body.getD i (.Pass ⟨0, 0, 0, 0⟩)
/-- the base class: its name's value, its __init__ -/
structure Rt (K : PySem.W.Frag) (mg : Str → Option Value) (R : Addr) : Prop where
  gR : mg "RolloutError" = some (.ref R)
  ini : XIni K R
/-- __init__(self, v): self is a new exception; it gets the attribute f -/
def spI1 (f : Str) (C : Addr) : Sp := fun vs H Q _ => ∃ (a : Addr) (v : V), vs = [.ref a, v] ∧ H a = some (exo a C none) ∧ ∀ dx, H dx = none → dx ≠ a → Q .non (upd (upd H dx (exd dx [(f, v)])) a (exo a C (some dx)))
def spI0 (C : Addr) : Sp := fun vs H Q _ => ∃ a : Addr, vs = [.ref a] ∧ H a = some (exo a C none) ∧ Q .non H
section
variable {P : Program} {w : World} {K : PySem.W.Frag} {mg : Str → Option Value} {base : Heap}
abbrev sI0 : Stmt := inClass (top 2) 0
theorem scI0 : FnScope ["self", "name"] ["self", "name"] (defScope sI0) := ⟨rfl, rfl, rfl, by decide +kernel, rfl, by decide +kernel, by decide +kernel⟩
theorem ok_i0 {f C R : Addr} {fd : FuncData} (F : Fun K "__init__" "InvalidForest.__init__" sI0 f fd) (T : Rt K mg R) (X : XCls K C) (no : PySem.W.findIn K (.ref C) "name" = some none) : FnOk P w K mg base CX0 1 f fd ["self", "name"] (spI1 "name" C) := by
  refine F.ok scI0 (fun vs H Q E h => ?_) (fun cdv A outer s H vs Q E hr h => ?_)
  · obtain ⟨a, v, rfl, _⟩ := h
    rfl
  · obtain ⟨a, v, rfl, ea, k⟩ := h
    refine ⟨_, pss_cons (ps_expr (pe_clsinit T.ini rfl T.gR (pa_cons (pv 0) (pa_cons pe_str pa_nil)))) (pss_one (ps_ost (pv 0) (pv 1))), ?_⟩
    refine ⟨_, rfl, a, C, _, rfl, (by show 1 ≤ 1000; decide), X.oex, ea, ?_⟩
    exact ⟨_, rfl, _, rfl, a, C, rfl, X.oex, no, .inl ⟨ea, k⟩⟩
abbrev sI1 : Stmt := inClass (top 3) 0
theorem scI1 : FnScope ["self", "name"] ["self", "name"] (defScope sI1) := ⟨rfl, rfl, rfl, by decide +kernel, rfl, by decide +kernel, by decide +kernel⟩
theorem ok_i1 {f C R : Addr} {fd : FuncData} (F : Fun K "__init__" "UnknownName.__init__" sI1 f fd) (T : Rt K mg R) (X : XCls K C) (no : PySem.W.findIn K (.ref C) "name" = some none) : FnOk P w K mg base CX0 1 f fd ["self", "name"] (spI1 "name" C) := by
  refine F.ok scI1 (fun vs H Q E h => ?_) (fun cdv A outer s H vs Q E hr h => ?_)
  · obtain ⟨a, v, rfl, _⟩ := h
    rfl
  · obtain ⟨a, v, rfl, ea, k⟩ := h
    refine ⟨_, pss_cons (ps_expr (pe_clsinit T.ini rfl T.gR (pa_cons (pv 0) (pa_cons pe_str pa_nil)))) (pss_one (ps_ost (pv 0) (pv 1))), ?_⟩
    refine ⟨_, rfl, a, C, _, rfl, (by show 1 ≤ 1000; decide), X.oex, ea, ?_⟩
    exact ⟨_, rfl, _, rfl, a, C, rfl, X.oex, no, .inl ⟨ea, k⟩⟩
abbrev sI2 : Stmt := inClass (top 4) 0
theorem scI2 : FnScope ["self"] ["self"] (defScope sI2) := ⟨rfl, rfl, rfl, by decide +kernel, rfl, by decide +kernel, by decide +kernel⟩
theorem ok_i2 {f C R : Addr} {fd : FuncData} (F : Fun K "__init__" "InvalidUsers.__init__" sI2 f fd) (T : Rt K mg R) (X : XCls K C) : FnOk P w K mg base CX0 1 f fd ["self"] (spI0 C) := by
  refine F.ok scI2 (fun vs H Q E h => ?_) (fun cdv A outer s H vs Q E hr h => ?_)
  · obtain ⟨a, rfl, _⟩ := h
    rfl
  · obtain ⟨a, rfl, ea, k⟩ := h
    refine ⟨_, pss_one (ps_expr (pe_clsinit T.ini rfl T.gR (pa_cons (pv 0) (pa_cons pe_str pa_nil)))), ?_⟩
    exact ⟨_, rfl, a, C, _, rfl, (by show 1 ≤ 1000; decide), X.oex, ea, k⟩
abbrev sI3 : Stmt := inClass (top 5) 0
theorem scI3 : FnScope ["self", "place"] ["self", "place"] (defScope sI3) := ⟨rfl, rfl, rfl, by decide +kernel, rfl, by decide +kernel, by decide +kernel⟩
theorem ok_i3 {f C R : Addr} {fd : FuncData} (F : Fun K "__init__" "InvalidSizes.__init__" sI3 f fd) (T : Rt K mg R) (X : XCls K C) (no : PySem.W.findIn K (.ref C) "place" = some none) : FnOk P w K mg base CX0 1 f fd ["self", "place"] (spI1 "place" C) := by
  refine F.ok scI3 (fun vs H Q E h => ?_) (fun cdv A outer s H vs Q E hr h => ?_)
  · obtain ⟨a, v, rfl, _⟩ := h
    rfl
  · obtain ⟨a, v, rfl, ea, k⟩ := h
    refine ⟨_, pss_cons (ps_expr (pe_clsinit T.ini rfl T.gR (pa_cons (pv 0) (pa_cons pe_str pa_nil)))) (pss_one (ps_ost (pv 0) (pv 1))), ?_⟩
    refine ⟨_, rfl, a, C, _, rfl, (by show 1 ≤ 1000; decide), X.oex, ea, ?_⟩
    exact ⟨_, rfl, _, rfl, a, C, rfl, X.oex, no, .inl ⟨ea, k⟩⟩
abbrev sI4 : Stmt := inClass (top 6) 0
theorem scI4 : FnScope ["self", "user"] ["self", "user"] (defScope sI4) := ⟨rfl, rfl, rfl, by decide +kernel, rfl, by decide +kernel, by decide +kernel⟩
theorem ok_i4 {f C R : Addr} {fd : FuncData} (F : Fun K "__init__" "InvalidPlace.__init__" sI4 f fd) (T : Rt K mg R) (X : XCls K C) (no : PySem.W.findIn K (.ref C) "user" = some none) : FnOk P w K mg base CX0 1 f fd ["self", "user"] (spI1 "user" C) := by
  refine F.ok scI4 (fun vs H Q E h => ?_) (fun cdv A outer s H vs Q E hr h => ?_)
  · obtain ⟨a, v, rfl, _⟩ := h
    rfl
  · obtain ⟨a, v, rfl, ea, k⟩ := h
    refine ⟨_, pss_cons (ps_expr (pe_clsinit T.ini rfl T.gR (pa_cons (pv 0) (pa_cons pe_str pa_nil)))) (pss_one (ps_ost (pv 0) (pv 1))), ?_⟩
    refine ⟨_, rfl, a, C, _, rfl, (by show 1 ≤ 1000; decide), X.oex, ea, ?_⟩
    exact ⟨_, rfl, _, rfl, a, C, rfl, X.oex, no, .inl ⟨ea, k⟩⟩
abbrev sI5 : Stmt := inClass (top 7) 0
theorem scI5 : FnScope ["self", "user"] ["self", "user"] (defScope sI5) := ⟨rfl, rfl, rfl, by decide +kernel, rfl, by decide +kernel, by decide +kernel⟩
theorem ok_i5 {f C R : Addr} {fd : FuncData} (F : Fun K "__init__" "UnknownUser.__init__" sI5 f fd) (T : Rt K mg R) (X : XCls K C) (no : PySem.W.findIn K (.ref C) "user" = some none) : FnOk P w K mg base CX0 1 f fd ["self", "user"] (spI1 "user" C) := by
  refine F.ok scI5 (fun vs H Q E h => ?_) (fun cdv A outer s H vs Q E hr h => ?_)
  · obtain ⟨a, v, rfl, _⟩ := h
    rfl
  · obtain ⟨a, v, rfl, ea, k⟩ := h
    refine ⟨_, pss_cons (ps_expr (pe_clsinit T.ini rfl T.gR (pa_cons (pv 0) (pa_cons pe_str pa_nil)))) (pss_one (ps_ost (pv 0) (pv 1))), ?_⟩
    refine ⟨_, rfl, a, C, _, rfl, (by show 1 ≤ 1000; decide), X.oex, ea, ?_⟩
    exact ⟨_, rfl, _, rfl, a, C, rfl, X.oex, no, .inl ⟨ea, k⟩⟩
abbrev sI6 : Stmt := inClass (top 8) 0
theorem scI6 : FnScope ["self"] ["self"] (defScope sI6) := ⟨rfl, rfl, rfl, by decide +kernel, rfl, by decide +kernel, by decide +kernel⟩
theorem ok_i6 {f C R : Addr} {fd : FuncData} (F : Fun K "__init__" "Mismatch.__init__" sI6 f fd) (T : Rt K mg R) (X : XCls K C) : FnOk P w K mg base CX0 1 f fd ["self"] (spI0 C) := by
  refine F.ok scI6 (fun vs H Q E h => ?_) (fun cdv A outer s H vs Q E hr h => ?_)
  · obtain ⟨a, rfl, _⟩ := h
    rfl
  · obtain ⟨a, rfl, ea, k⟩ := h
    refine ⟨_, pss_one (ps_expr (pe_clsinit T.ini rfl T.gR (pa_cons (pv 0) (pa_cons pe_str pa_nil)))), ?_⟩
    exact ⟨_, rfl, a, C, _, rfl, (by show 1 ≤ 1000; decide), X.oex, ea, k⟩
abbrev sI7 : Stmt := inClass (top 9) 0
theorem scI7 : FnScope ["self"] ["self"] (defScope sI7) := ⟨rfl, rfl, rfl, by decide +kernel, rfl, by decide +kernel, by decide +kernel⟩
theorem ok_i7 {f C R : Addr} {fd : FuncData} (F : Fun K "__init__" "InvalidNumber.__init__" sI7 f fd) (T : Rt K mg R) (X : XCls K C) : FnOk P w K mg base CX0 1 f fd ["self"] (spI0 C) := by
  refine F.ok scI7 (fun vs H Q E h => ?_) (fun cdv A outer s H vs Q E hr h => ?_)
  · obtain ⟨a, rfl, _⟩ := h
    rfl
  · obtain ⟨a, rfl, ea, k⟩ := h
    refine ⟨_, pss_one (ps_expr (pe_clsinit T.ini rfl T.gR (pa_cons (pv 0) (pa_cons pe_str pa_nil)))), ?_⟩
    exact ⟨_, rfl, a, C, _, rfl, (by show 1 ≤ 1000; decide), X.oex, ea, k⟩
abbrev sI8 : Stmt := inClass (top 10) 0
theorem scI8 : FnScope ["self"] ["self"] (defScope sI8) := ⟨rfl, rfl, rfl, by decide +kernel, rfl, by decide +kernel, by decide +kernel⟩
theorem ok_i8 {f C R : Addr} {fd : FuncData} (F : Fun K "__init__" "NotBest.__init__" sI8 f fd) (T : Rt K mg R) (X : XCls K C) : FnOk P w K mg base CX0 1 f fd ["self"] (spI0 C) := by
  refine F.ok scI8 (fun vs H Q E h => ?_) (fun cdv A outer s H vs Q E hr h => ?_)
  · obtain ⟨a, rfl, _⟩ := h
    rfl
  · obtain ⟨a, rfl, ea, k⟩ := h
    refine ⟨_, pss_one (ps_expr (pe_clsinit T.ini rfl T.gR (pa_cons (pv 0) (pa_cons pe_str pa_nil)))), ?_⟩
    exact ⟨_, rfl, a, C, _, rfl, (by show 1 ≤ 1000; decide), X.oex, ea, k⟩
abbrev sI9 : Stmt := inClass (top 11) 0
theorem scI9 : FnScope ["self"] ["self"] (defScope sI9) := ⟨rfl, rfl, rfl, by decide +kernel, rfl, by decide +kernel, by decide +kernel⟩
theorem ok_i9 {f C R : Addr} {fd : FuncData} (F : Fun K "__init__" "InvalidLists.__init__" sI9 f fd) (T : Rt K mg R) (X : XCls K C) : FnOk P w K mg base CX0 1 f fd ["self"] (spI0 C) := by
  refine F.ok scI9 (fun vs H Q E h => ?_) (fun cdv A outer s H vs Q E hr h => ?_)
  · obtain ⟨a, rfl, _⟩ := h
    rfl
  · obtain ⟨a, rfl, ea, k⟩ := h
    refine ⟨_, pss_one (ps_expr (pe_clsinit T.ini rfl T.gR (pa_cons (pv 0) (pa_cons pe_str pa_nil)))), ?_⟩
    exact ⟨_, rfl, a, C, _, rfl, (by show 1 ≤ 1000; decide), X.oex, ea, k⟩
abbrev sI10 : Stmt := inClass (top 12) 0
theorem scI10 : FnScope ["self"] ["self"] (defScope sI10) := ⟨rfl, rfl, rfl, by decide +kernel, rfl, by decide +kernel, by decide +kernel⟩
theorem ok_i10 {f C R : Addr} {fd : FuncData} (F : Fun K "__init__" "NeedsMemory.__init__" sI10 f fd) (T : Rt K mg R) (X : XCls K C) : FnOk P w K mg base CX0 1 f fd ["self"] (spI0 C) := by
  refine F.ok scI10 (fun vs H Q E h => ?_) (fun cdv A outer s H vs Q E hr h => ?_)
  · obtain ⟨a, rfl, _⟩ := h
    rfl
  · obtain ⟨a, rfl, ea, k⟩ := h
    refine ⟨_, pss_one (ps_expr (pe_clsinit T.ini rfl T.gR (pa_cons (pv 0) (pa_cons pe_str pa_nil)))), ?_⟩
    exact ⟨_, rfl, a, C, _, rfl, (by show 1 ≤ 1000; decide), X.oex, ea, k⟩
abbrev sI11 : Stmt := inClass (top 13) 0
theorem scI11 : FnScope ["self", "name"] ["self", "name"] (defScope sI11) := ⟨rfl, rfl, rfl, by decide +kernel, rfl, by decide +kernel, by decide +kernel⟩
theorem ok_i11 {f C R : Addr} {fd : FuncData} (F : Fun K "__init__" "InvalidLimits.__init__" sI11 f fd) (T : Rt K mg R) (X : XCls K C) (no : PySem.W.findIn K (.ref C) "name" = some none) : FnOk P w K mg base CX0 1 f fd ["self", "name"] (spI1 "name" C) := by
  refine F.ok scI11 (fun vs H Q E h => ?_) (fun cdv A outer s H vs Q E hr h => ?_)
  · obtain ⟨a, v, rfl, _⟩ := h
    rfl
  · obtain ⟨a, v, rfl, ea, k⟩ := h
    refine ⟨_, pss_cons (ps_expr (pe_clsinit T.ini rfl T.gR (pa_cons (pv 0) (pa_cons pe_str pa_nil)))) (pss_one (ps_ost (pv 0) (pv 1))), ?_⟩
    refine ⟨_, rfl, a, C, _, rfl, (by show 1 ≤ 1000; decide), X.oex, ea, ?_⟩
    exact ⟨_, rfl, _, rfl, a, C, rfl, X.oex, no, .inl ⟨ea, k⟩⟩
abbrev sI12 : Stmt := inClass (top 14) 0
theorem scI12 : FnScope ["self", "most"] ["self", "most"] (defScope sI12) := ⟨rfl, rfl, rfl, by decide +kernel, rfl, by decide +kernel, by decide +kernel⟩
theorem ok_i12 {f C R : Addr} {fd : FuncData} (F : Fun K "__init__" "TooMany.__init__" sI12 f fd) (T : Rt K mg R) (X : XCls K C) (no : PySem.W.findIn K (.ref C) "most" = some none) : FnOk P w K mg base CX0 1 f fd ["self", "most"] (spI1 "most" C) := by
  refine F.ok scI12 (fun vs H Q E h => ?_) (fun cdv A outer s H vs Q E hr h => ?_)
  · obtain ⟨a, v, rfl, _⟩ := h
    rfl
  · obtain ⟨a, v, rfl, ea, k⟩ := h
    refine ⟨_, pss_cons (ps_expr (pe_clsinit T.ini rfl T.gR (pa_cons (pv 0) (pa_cons pe_str pa_nil)))) (pss_one (ps_ost (pv 0) (pv 1))), ?_⟩
    refine ⟨_, rfl, a, C, _, rfl, (by show 1 ≤ 1000; decide), X.oex, ea, ?_⟩
    exact ⟨_, rfl, _, rfl, a, C, rfl, X.oex, no, .inl ⟨ea, k⟩⟩
abbrev sI13 : Stmt := inClass (top 15) 0
theorem scI13 : FnScope ["self", "index"] ["self", "index"] (defScope sI13) := ⟨rfl, rfl, rfl, by decide +kernel, rfl, by decide +kernel, by decide +kernel⟩
theorem ok_i13 {f C R : Addr} {fd : FuncData} (F : Fun K "__init__" "InvalidPin.__init__" sI13 f fd) (T : Rt K mg R) (X : XCls K C) (no : PySem.W.findIn K (.ref C) "index" = some none) : FnOk P w K mg base CX0 1 f fd ["self", "index"] (spI1 "index" C) := by
  refine F.ok scI13 (fun vs H Q E h => ?_) (fun cdv A outer s H vs Q E hr h => ?_)
  · obtain ⟨a, v, rfl, _⟩ := h
    rfl
  · obtain ⟨a, v, rfl, ea, k⟩ := h
    refine ⟨_, pss_cons (ps_expr (pe_clsinit T.ini rfl T.gR (pa_cons (pv 0) (pa_cons pe_str pa_nil)))) (pss_one (ps_ost (pv 0) (pv 1))), ?_⟩
    refine ⟨_, rfl, a, C, _, rfl, (by show 1 ≤ 1000; decide), X.oex, ea, ?_⟩
    exact ⟨_, rfl, _, rfl, a, C, rfl, X.oex, no, .inl ⟨ea, k⟩⟩
abbrev sI14 : Stmt := inClass (top 16) 0
theorem scI14 : FnScope ["self", "users"] ["self", "users"] (defScope sI14) := ⟨rfl, rfl, rfl, by decide +kernel, rfl, by decide +kernel, by decide +kernel⟩
theorem ok_i14 {f C R : Addr} {fd : FuncData} (F : Fun K "__init__" "Crowded.__init__" sI14 f fd) (T : Rt K mg R) (X : XCls K C) (no : PySem.W.findIn K (.ref C) "users" = some none) : FnOk P w K mg base CX0 1 f fd ["self", "users"] (spI1 "users" C) := by
  refine F.ok scI14 (fun vs H Q E h => ?_) (fun cdv A outer s H vs Q E hr h => ?_)
  · obtain ⟨a, v, rfl, _⟩ := h
    rfl
  · obtain ⟨a, v, rfl, ea, k⟩ := h
    refine ⟨_, pss_cons (ps_expr (pe_clsinit T.ini rfl T.gR (pa_cons (pv 0) (pa_cons pe_str pa_nil)))) (pss_one (ps_ost (pv 0) (pv 1))), ?_⟩
    refine ⟨_, rfl, a, C, _, rfl, (by show 1 ≤ 1000; decide), X.oex, ea, ?_⟩
    exact ⟨_, rfl, _, rfl, a, C, rfl, X.oex, no, .inl ⟨ea, k⟩⟩
abbrev sI15 : Stmt := inClass (top 17) 0
theorem scI15 : FnScope ["self", "index"] ["self", "index"] (defScope sI15) := ⟨rfl, rfl, rfl, by decide +kernel, rfl, by decide +kernel, by decide +kernel⟩
theorem ok_i15 {f C R : Addr} {fd : FuncData} (F : Fun K "__init__" "InvalidCommand.__init__" sI15 f fd) (T : Rt K mg R) (X : XCls K C) (no : PySem.W.findIn K (.ref C) "index" = some none) : FnOk P w K mg base CX0 1 f fd ["self", "index"] (spI1 "index" C) := by
  refine F.ok scI15 (fun vs H Q E h => ?_) (fun cdv A outer s H vs Q E hr h => ?_)
  · obtain ⟨a, v, rfl, _⟩ := h
    rfl
  · obtain ⟨a, v, rfl, ea, k⟩ := h
    refine ⟨_, pss_cons (ps_expr (pe_clsinit T.ini rfl T.gR (pa_cons (pv 0) (pa_cons pe_str pa_nil)))) (pss_one (ps_ost (pv 0) (pv 1))), ?_⟩
    refine ⟨_, rfl, a, C, _, rfl, (by show 1 ≤ 1000; decide), X.oex, ea, ?_⟩
    exact ⟨_, rfl, _, rfl, a, C, rfl, X.oex, no, .inl ⟨ea, k⟩⟩
abbrev sI16 : Stmt := inClass (top 18) 0
theorem scI16 : FnScope ["self", "index"] ["self", "index"] (defScope sI16) := ⟨rfl, rfl, rfl, by decide +kernel, rfl, by decide +kernel, by decide +kernel⟩
theorem ok_i16 {f C R : Addr} {fd : FuncData} (F : Fun K "__init__" "InvalidJournal.__init__" sI16 f fd) (T : Rt K mg R) (X : XCls K C) (no : PySem.W.findIn K (.ref C) "index" = some none) : FnOk P w K mg base CX0 1 f fd ["self", "index"] (spI1 "index" C) := by
  refine F.ok scI16 (fun vs H Q E h => ?_) (fun cdv A outer s H vs Q E hr h => ?_)
  · obtain ⟨a, v, rfl, _⟩ := h
    rfl
  · obtain ⟨a, v, rfl, ea, k⟩ := h
    refine ⟨_, pss_cons (ps_expr (pe_clsinit T.ini rfl T.gR (pa_cons (pv 0) (pa_cons pe_str pa_nil)))) (pss_one (ps_ost (pv 0) (pv 1))), ?_⟩
    refine ⟨_, rfl, a, C, _, rfl, (by show 1 ≤ 1000; decide), X.oex, ea, ?_⟩
    exact ⟨_, rfl, _, rfl, a, C, rfl, X.oex, no, .inl ⟨ea, k⟩⟩
abbrev sI17 : Stmt := inClass (top 19) 0
theorem scI17 : FnScope ["self", "line"] ["self", "line"] (defScope sI17) := ⟨rfl, rfl, rfl, by decide +kernel, rfl, by decide +kernel, by decide +kernel⟩
theorem ok_i17 {f C R : Addr} {fd : FuncData} (F : Fun K "__init__" "InvalidText.__init__" sI17 f fd) (T : Rt K mg R) (X : XCls K C) (no : PySem.W.findIn K (.ref C) "line" = some none) : FnOk P w K mg base CX0 1 f fd ["self", "line"] (spI1 "line" C) := by
  refine F.ok scI17 (fun vs H Q E h => ?_) (fun cdv A outer s H vs Q E hr h => ?_)
  · obtain ⟨a, v, rfl, _⟩ := h
    rfl
  · obtain ⟨a, v, rfl, ea, k⟩ := h
    refine ⟨_, pss_cons (ps_expr (pe_clsinit T.ini rfl T.gR (pa_cons (pv 0) (pa_cons pe_str pa_nil)))) (pss_one (ps_ost (pv 0) (pv 1))), ?_⟩
    refine ⟨_, rfl, a, C, _, rfl, (by show 1 ≤ 1000; decide), X.oex, ea, ?_⟩
    exact ⟨_, rfl, _, rfl, a, C, rfl, X.oex, no, .inl ⟨ea, k⟩⟩
end
end K14


namespace K14
open PySem L2
/-- the drawing state: at d the list [cells, next, mixed, turns], the cells at c -/
def DrawAt (H : Hp) (d c : Addr) : Prop := ∃ (nx mx tn : Int) (cells : List Int), H d = some (.lst [.ref c, .int nx, .int mx, .int tn]) ∧ H c = some (.lst (cells.map V.int)) ∧ cells ≠ [] ∧ cells.length ≤ 63 ∧ (∀ z ∈ cells, 0 ≤ z) ∧ 0 ≤ nx ∧ 0 ≤ mx ∧ mx < 2147483647 ∧ 0 ≤ tn
/-- all but d and c is as it was, whether tracked or not -/
def Off (d c : Addr) (H H' : Hp) : Prop := ∀ b, b ≠ d → b ≠ c → H' b = H b
theorem Off.upd1 {d c : Addr} {H : Hp} {o : HO} : Off d c H (upd H d o) := fun b h _ => upd_ne h
theorem Off.refl {d c : Addr} {H : Hp} : Off d c H H := fun _ _ _ => rfl
theorem Off.trans {d c : Addr} {H H1 H2 : Hp} (a : Off d c H H1) (b : Off d c H1 H2) : Off d c H H2 := fun x h h' => (b x h h').trans (a x h h')
theorem ints_ne {ns : List Int} {c : Addr} {r : List V} : ns.map V.int ≠ V.ref c :: r := by
  cases ns with
  | nil => intro h; cases h
  | cons a t => intro h; cases h
theorem DrawAt.ne {H : Hp} {d c : Addr} (x : DrawAt H d c) : c ≠ d := by
  obtain ⟨_, _, _, _, h1, h2, _⟩ := x
  refine ne_of h2 h1 fun z => ?_
  have z' := HO.lst.inj z
  exact ints_ne z'
/-- what a def of the text finds among the module's names -/
structure Nm (mg : Str → Option Value) : Prop where
  abs : mg "abs" = none
  len : mg "len" = none
  min : mg "min" = none
  rng : mg "range" = none
  enu : mg "enumerate" = none
  zip : mg "zip" = none
  isi : mg "isinstance" = none
  rep : mg "repr" = none
  vE : mg "ValueError" = none
def spBegin (K : PySem.W.Frag) : Sp := fun vs H Q _ => ∃ (a : Addr) (ns : List Int), vs = [.ref a] ∧ SqL K H a (ns.map V.int) ∧ ns.length ≤ 63 ∧
  ∀ (H' : Hp) (d c : Addr), Same H H' → H d = none → H c = none → DrawAt H' d c → Q (.ref d) H'
def spTake : Sp := fun vs H Q _ => ∃ (d c : Addr) (n : Int), vs = [.ref d, .int n] ∧ DrawAt H d c ∧ 0 < n ∧ n < 1073741824 ∧
  ∀ (k : Int) (H' : Hp), 0 ≤ k → k < n → DrawAt H' d c → Off d c H H' → Q (.int k) H'
/-- an item of a list that stands apart from the state -/
def spPick (K : PySem.W.Frag) : Sp := fun vs H Q _ => ∃ (d c l : Addr) (xs : List V), vs = [.ref d, .ref l] ∧ DrawAt H d c ∧ H l = some (.lst xs) ∧ l ≠ d ∧ l ≠ c ∧ 0 < xs.length ∧ xs.length < 1000 ∧
  ∀ (i : Nat) (x : V) (H' : Hp), xs[i]? = some x → DrawAt H' d c → Off d c H H' → Q x H'
abbrev sBegin : Stmt := top 21
abbrev sTake : Stmt := top 22
abbrev sPick : Stmt := top 23
theorem cut_ints (ns : List Int) (lo hi : Option Int) : ∃ ms : List Int, cutV (ns.map V.int) lo hi = ms.map V.int ∧ ms.length ≤ ns.length := by
  unfold cutV
  generalize HT.sIx (ns.map V.int).length 0 lo = i
  generalize HT.sIx (ns.map V.int).length (ns.map V.int).length hi = j
  refine ⟨(ns.drop i).take (j - i), by rw [List.map_take, List.map_drop], ?_⟩
  rw [List.length_take, List.length_drop]
  omega
theorem take_more {α : Type} {l : List α} {i : Nat} {x : α} (h : l[i]? = some x) : l.take (i + 1) = l.take i ++ [x] := by
  have hi := (List.getElem?_eq_some_iff.mp h).1
  have hx := (List.getElem?_eq_some_iff.mp h).2
  rw [List.take_succ, h] <;> rfl
/-- the list of the magnitudes -/
def mags (ms : List Int) : List Int := ms.map fun i => if i < 0 then -i else i
theorem mags_nn (ms : List Int) : ∀ z ∈ mags ms, 0 ≤ z := fun z h => by
  obtain ⟨i, _, rfl⟩ := List.mem_map.mp h
  split <;> omega
section
variable {P : Program} {w : World} {K : PySem.W.Frag} {mg : Str → Option Value} {base : Heap}
theorem scBegin : FnScope ["_law_script", "_law_cell"] ["_law_script"] (defScope sBegin) := ⟨rfl, rfl, rfl, by decide +kernel, rfl, by decide +kernel, by decide +kernel⟩
theorem ok_begin {f : Addr} {fd : FuncData} (F : Fun K "_law_begin" "_law_begin" sBegin f fd) (T : Nm mg) : FnOk P w K mg base CX0 1 f fd ["_law_script"] (spBegin K) := by
  refine F.ok scBegin (fun vs H Q E h => ?_) (fun cdv A outer s H vs Q E hr h => ?_)
  · obtain ⟨a, ns, rfl, _⟩ := h
    rfl
  · obtain ⟨a, ns, rfl, hS, hlen, k⟩ := h
    refine ⟨_, pss_one (ps_ret (pe_lst (pa_cons (pe_orT (pe_lc (own := [("_law_cell", 1)]) (g := gName 1) (tt := tYes) rfl scBegin.nd (pi_list (pe_slice sl_list (pv 0) po_none (po_some pe_int))) (blkOk_by (N := ["_law_script", "_law_cell"]) (sc := defScope sBegin) (by decide +kernel))
      (fun _ _ _ _ _ => pg_name (i := 1) scBegin.nd rfl (Or.inl rfl)) (fun _ _ _ _ _ => pts_nil) (fun _ _ _ _ _ => pe_callB call_abs (by rfl) T.abs (by decide +kernel) (pa_cons (pv 1) pa_nil))) (pe_one (pe_lst (pa_cons pe_int pa_nil))))
      (pa_cons pe_int (pa_cons pe_int (pa_cons pe_int pa_nil)))))), ?_⟩
    obtain ⟨ms, em, lm⟩ := cut_ints ns none (some 63)
    -- the slice, a new list at p
    refine ⟨_, rfl, _, rfl, a, _, rfl, hS, fun p np => ?_⟩
    rw [em]
    have s1 : Same H (upd H p (.lst (ms.map V.int))) := fun b o e => by
      rw [upd_ne (ne_of_none e np)]
      exact e
    refine ⟨p, rfl, ⟨_, SqL.of upd_same⟩, fun D nD => lc_list (xs := ms.map V.int) (fun i H' => Same (upd H p (.lst (ms.map V.int))) H' ∧ H' D = some (.lst ((mags (ms.take i)).map V.int))) ?_ ?_ ?_ ?_⟩
    · exact ⟨fun b o e => by rw [upd_ne (ne_of_none e nD)]; exact e, by rw [upd_same, List.take_zero] <;> rfl⟩
    · exact fun i H' _ q => q.1.seq (SqL.of upd_same)
    · intro i x H' hx ⟨q1, q2⟩
      obtain ⟨z, hz, rfl⟩ : ∃ z, ms[i]? = some z ∧ x = V.int z := by
        rw [List.getElem?_map] at hx
        obtain ⟨z, hz, rfl⟩ := Option.map_eq_some_iff.mp hx
        exact ⟨z, hz, rfl⟩
      refine ⟨rfl, ?_⟩
      refine ⟨_, rfl, z, rfl, _, q2, ?_, ?_⟩
      · rw [List.length_map]
        unfold mags
        rw [List.length_map, List.length_take]
        exact Nat.lt_of_le_of_lt (Nat.min_le_right _ _) (Nat.lt_of_le_of_lt (Nat.le_trans lm hlen) (by decide))
      · refine ⟨fun b o e => ?_, ?_⟩
        · have nb : b ≠ D := ne_of_none e nD
          rw [upd_ne nb]
          exact q1 b o e
        · rw [upd_same, take_more hz]
          unfold mags
          rw [List.map_append, List.map_append] <;> rfl
    · intro H' ⟨q1, q2⟩
      rw [List.length_map, List.take_length] at q2
      have sH : Same H H' := s1.trans q1
      refine ⟨_, .inl ⟨_, SqL.of q2, rfl⟩, ?_⟩
      have hD : H D = none := s1.free nD
      refine ite2 (fun nz => ?_) (fun nz => ?_)
      · refine ⟨by show 4 ≤ sizeLine; decide, fun d nd => ?_⟩
        have ncd : D ≠ d := ne_of_none q2 nd
        refine k _ d D (fun b o e => ?_) (sH.free nd) hD ⟨0, 1, 0, mags ms, upd_same, by rw [upd_ne ncd]; exact q2, fun z => ?_, ?_, mags_nn ms, by omega, by omega, by omega, by omega⟩
        · rw [upd_ne (ne_of_none (sH b o e) nd)]
          exact sH b o e
        · rw [z] at nz
          cases nz
        · unfold mags
          rw [List.length_map]
          exact Nat.le_trans lm hlen
      · refine ⟨by show 1 ≤ sizeLine; decide, fun c nc => ?_⟩
        refine ⟨by show 4 ≤ sizeLine; decide, fun d nd => ?_⟩
        have ncd : c ≠ d := ne_of_none upd_same nd
        have nd' : H' d = none := by
          rw [upd_ne (Ne.symm ncd)] at nd
          exact nd
        refine k _ d c (fun b o e => ?_) (sH.free nd') (sH.free nc) ⟨0, 1, 0, [7], upd_same, by rw [upd_ne ncd, upd_same] <;> rfl, by simp, by decide, by simp, by omega, by omega, by omega, by omega⟩
        rw [upd_ne (ne_of_none (sH b o e) nd'), upd_ne (ne_of_none (sH b o e) nc)]
        exact sH b o e
end
end K14


namespace K14
open PySem L2
theorem at_mod {cells : List Int} {nx : Int} (ne : cells ≠ []) : ∃ (j : Nat) (z : Int), nx % ((cells.map V.int).length : Int) = (j : Int) ∧ j < cells.length ∧ cells[j]? = some z ∧ z ∈ cells := by
  have l0 : 0 < cells.length := List.length_pos_iff.mpr ne
  rw [List.length_map]
  have h1 : 0 ≤ nx % (cells.length : Int) := Int.emod_nonneg _ (by omega)
  have h2 : nx % (cells.length : Int) < (cells.length : Int) := Int.emod_lt_of_pos _ (by omega)
  refine ⟨(nx % (cells.length : Int)).toNat, cells[(nx % (cells.length : Int)).toNat]'(by omega), by omega, by omega, by simp, List.getElem_mem _⟩
theorem map_at {cells : List Int} {j : Nat} {z : Int} (h : cells[j]? = some z) : (cells.map V.int)[j]? = some (.int z) := by
  rw [List.getElem?_map, h] <;> rfl
theorem ixN_nat {n j : Nat} (h : j < n) : ixN n (j : Int) = some j := by
  unfold ixN
  rw [if_pos (by omega), if_pos (by omega)]
  simp
theorem set_ints {cells : List Int} {j : Nat} {z : Int} : (cells.map V.int).set j (.int z) = (cells.set j z).map V.int := by
  rw [List.map_set]
section
variable {P : Program} {w : World} {K : PySem.W.Frag} {mg : Str → Option Value} {base : Heap}
theorem scTake : FnScope ["_law_draw", "_law_size", "_law_cells", "_law_at", "_law_cell"] ["_law_draw", "_law_size"] (defScope sTake) := ⟨rfl, rfl, rfl, by decide +kernel, rfl, by decide +kernel, by decide +kernel⟩
theorem ok_take {f : Addr} {fd : FuncData} (F : Fun K "_law_take" "_law_take" sTake f fd) (T : Nm mg) : FnOk P w K mg base CX0 1 f fd ["_law_draw", "_law_size"] spTake := by
  refine F.ok scTake (fun vs H Q E h => ?_) (fun cdv A outer s H vs Q E hr h => ?_)
  · obtain ⟨d, c, n, rfl, _⟩ := h
    rfl
  · obtain ⟨d, c, n, rfl, hD, n0, n1, k⟩ := h
    have ncd := hD.ne
    obtain ⟨nx, mx, tn, cells, hd, hc, ne, len, nn, a0, m0, m1, t0⟩ := hD
    refine ⟨_, pss_cons (ps_set (i := 2) scTake.nd rfl (.inl rfl) (pe_ix ix_list (pv 0) pe_int (fun _ _ => rfl)))
      (pss_cons (ps_set (i := 3) scTake.nd rfl (.inl rfl) (pe_op op_mod (pe_ix ix_list (pv 0) pe_int (fun _ _ => rfl)) (pe_callB call_len_seq (by rfl) T.len PySem.boot_len (pa_cons (pv 2) pa_nil))))
      (pss_cons (ps_set (i := 4) scTake.nd rfl (.inl rfl) (pe_ix ix_list (pv 2) (pv 3) (fun _ _ => rfl)))
      (pss_cons (ps_if (pt_cmpR op_ge (pv 4) (pe_op op_pow pe_int pe_int) (nomark _))
        (pss_cons (ps_asg (pe_op op_fdiv (pv 4) (pv 1)) (pg_sub (pv 2) (pv 3) set_list)) (pss_one (ps_ret (pe_op op_mod (pv 4) (pv 1))))) pss_nil)
      (pss_cons (ps_asg (pe_op op_add (pe_ix ix_list (pv 0) pe_int (fun _ _ => rfl)) pe_int) (pg_sub (pv 0) pe_int set_list))
      (pss_cons (ps_asg (pe_op op_add (pe_ix ix_list (pv 0) pe_int (fun _ _ => rfl)) pe_int) (pg_sub (pv 0) pe_int set_list))
      (pss_cons (ps_asg (pe_op op_mod (pe_op op_add (pe_op op_add (pe_op op_add (pe_op op_mul (pe_ix ix_list (pv 0) pe_int (fun _ _ => rfl)) pe_int) (pv 4)) (pe_op op_mul pe_int (pe_ix ix_list (pv 0) pe_int (fun _ _ => rfl)))) pe_int) pe_int) (pg_sub (pv 0) pe_int set_list))
      (pss_one (ps_ret (pe_op op_mod (pe_op op_fdiv (pe_op op_mod (pe_op op_mul (pe_ix ix_list (pv 0) pe_int (fun _ _ => rfl)) (pe_ix ix_list (pv 0) pe_int (fun _ _ => rfl))) pe_int) pe_int) (pv 1)))))))))), ?_⟩
    obtain ⟨j, z, ej, jl, hz, zm⟩ := at_mod (nx := nx) ne
    have z0 := nn z zm
    have l0 : (0 : Int) < ((cells.map V.int).length : Int) := by
      have := List.length_pos_iff.mpr ne
      rw [List.length_map]
      omega
    refine ⟨_, rfl, d, _, 0, .ref c, rfl, rfl, SqL.of hd, rfl, ?_⟩
    refine ⟨_, rfl, d, _, 1, .int nx, rfl, rfl, SqL.of hd, rfl, _, rfl, c, _, rfl, .inl (SqL.of hc), _, _, rfl, rfl, l0, ?_⟩
    refine ⟨_, rfl, _, rfl, c, _, _, .int z, rfl, rfl, SqL.of hc, by rw [ej]; exact atI_nat (map_at hz), ?_⟩
    refine ⟨_, rfl, 10, 18, rfl, rfl, ⟨by decide, by decide, by decide⟩, _, _, rfl, rfl, _, rfl, ?_⟩
    refine ite2 (fun _ => ?_) (fun _ => ?_)
    · -- a digit of a large cell
      refine ⟨_, rfl, _, rfl, _, _, rfl, rfl, ⟨n0, n1⟩, _, rfl, _, rfl, c, _, _, j, rfl, rfl, hc, by rw [ej]; exact ixN_nat (by rw [List.length_map]; exact jl), ?_⟩
      rw [set_ints]
      refine ⟨_, rfl, _, rfl, _, _, rfl, rfl, n0, ?_⟩
      refine k _ _ (Int.emod_nonneg _ (by omega)) (Int.emod_lt_of_pos _ n0) ⟨nx, mx, tn, _, by rw [upd_ne ncd.symm]; exact hd, upd_same, ?_, by rw [List.length_set]; exact len, ?_, a0, m0, m1, t0⟩ (fun b _ h2 => upd_ne h2)
      · intro e
        have := congrArg List.length e
        rw [List.length_set] at this
        exact ne (List.length_eq_zero_iff.mp this)
      · intro y hy
        rcases List.mem_or_eq_of_mem_set hy with h | h
        · exact nn y h
        · rw [h]
          exact Int.ediv_nonneg z0 (by omega)
    · -- a mixed number
      refine ⟨_, rfl, d, _, 1, .int nx, rfl, rfl, SqL.of hd, rfl, _, _, rfl, rfl, _, rfl, d, _, 1, 1, rfl, rfl, hd, rfl, ?_⟩
      refine ⟨_, rfl, d, _, 3, .int tn, rfl, rfl, SqL.of upd_same, rfl, _, _, rfl, rfl, _, rfl, d, _, 3, 3, rfl, rfl, upd_same, rfl, ?_⟩
      rw [upd_upd]
      refine ⟨_, rfl, d, _, 2, .int mx, rfl, rfl, SqL.of upd_same, rfl, _, _, rfl, rfl, .inl ⟨by omega, by omega⟩, _, rfl, _, _, rfl, rfl, _, rfl, d, _, 3, .int (tn + 1), rfl, rfl, SqL.of upd_same, rfl, _, _, rfl, rfl, .inl ⟨by decide, by decide⟩,
        _, _, rfl, rfl, _, _, rfl, rfl, _, _, rfl, rfl, (by show (0 : Int) < 2147483647; decide), _, rfl, d, _, 2, 2, rfl, rfl, upd_same, rfl, ?_⟩
      rw [upd_upd]
      obtain ⟨m, em⟩ : ∃ m, m = (mx * 48271 + z + 7919 * (tn + 1) + 12345) % 2147483647 := ⟨_, rfl⟩
      have h0 : 0 ≤ m := by rw [em]; exact Int.emod_nonneg _ (by decide)
      have h1 : m < 2147483647 := by rw [em]; exact Int.emod_lt_of_pos _ (by decide)
      refine ⟨_, rfl, d, _, 2, .int m, rfl, rfl, SqL.of upd_same, by rw [em] <;> rfl, _, rfl, d, _, 2, .int m, rfl, rfl, SqL.of upd_same, by rw [em] <;> rfl, _, _, rfl, rfl, .inl ⟨by omega, by omega⟩, _, _, rfl, rfl, (by show (0 : Int) < 2147483629; decide), _, _, rfl, rfl, ⟨by decide, by decide⟩,
        _, rfl, _, _, rfl, rfl, n0, ?_⟩
      exact k _ _ (Int.emod_nonneg _ (by omega)) (Int.emod_lt_of_pos _ n0) ⟨nx + 1, m, tn + 1, cells, by rw [upd_same, em] <;> rfl, by rw [upd_ne ncd]; exact hc, ne, len, nn, by omega, h0, h1, by omega⟩ Off.upd1
theorem scPick : FnScope ["_law_draw", "_law_some"] ["_law_draw", "_law_some"] (defScope sPick) := ⟨rfl, rfl, rfl, by decide +kernel, rfl, by decide +kernel, by decide +kernel⟩
theorem ok_pick {f fT : Addr} {fd fdT : FuncData} (F : Fun K "_law_pick" "_law_pick" sPick f fd) (T : Nm mg) (FT : Fun K "_law_take" "_law_take" sTake fT fdT) (bT : Binds K fdT ["_law_draw", "_law_size"] []) (gT : mg "_law_take" = some (.ref fT)) :
    FnOk P w K mg base CX0 2 f fd ["_law_draw", "_law_some"] (spPick K) := by
  have GT : FnOk P w K mg base CX0 1 fT fdT ["_law_draw", "_law_size"] spTake := ok_take FT T
  refine F.ok scPick (fun vs H Q E h => ?_) (fun cdv A outer s H vs Q E hr h => ?_)
  · obtain ⟨d, c, l, xs, rfl, _⟩ := h
    rfl
  · obtain ⟨d, c, l, xs, rfl, hD, hl, nd, nc, x0, x1, k⟩ := h
    have hr1 : Room 1 _ := hr.mono (by decide)
    refine ⟨_, pss_one (ps_ret (pe_ix ix_list (pv 1) (pe_call GT hr1 rfl gT FT.kp bT .nil pass0 (pa_cons (pv 0) (pa_cons (pe_callB call_len_seq (by rfl) T.len PySem.boot_len (pa_cons (pv 1) pa_nil)) pa_nil))) (fun _ _ => rfl))), ?_⟩
    refine ⟨_, rfl, _, rfl, _, rfl, l, _, rfl, .inl (SqL.of hl), d, c, _, rfl, hD, by omega, by omega, fun i H' i0 i1 hD' off => ?_⟩
    have hi : i.toNat < xs.length := by omega
    have e : xs[i.toNat]? = some xs[i.toNat] := List.getElem?_eq_getElem hi
    refine ⟨l, xs, i, xs[i.toNat], rfl, rfl, SqL.of (by rw [off l nd nc]; exact hl), ?_, k i.toNat _ H' e hD' off⟩
    have e2 := atI_nat e
    rw [show ((i.toNat : Nat) : Int) = i by omega] at e2
    exact e2
end
end K14


namespace K14
open PySem L2
def cn (i : Nat) : Str := (["InvalidForest", "UnknownName", "InvalidUsers", "InvalidSizes", "InvalidPlace", "UnknownUser", "Mismatch", "InvalidNumber", "NotBest", "InvalidLists", "NeedsMemory", "InvalidLimits", "TooMany", "InvalidPin", "Crowded", "InvalidCommand", "InvalidJournal", "InvalidText"] : List Str).getD i ""
/-- the attribute's name, or the empty text -/
def wd (i : Nat) : Str := (["name", "name", "", "place", "user", "user", "", "", "", "", "", "name", "most", "index", "users", "index", "index", "line"] : List Str).getD i ""
/-- the classes with an attribute -/
def ix (j : Nat) : Nat := ([0, 1, 3, 4, 5, 11, 12, 13, 14, 15, 16, 17] : List Nat).getD j 0
/-- what the top has written of the classes: R the base, C i the i-th class, I i its __init__ -/
structure Cl (K : PySem.W.Frag) (mg : Str → Option Value) (R : Addr) (C I : Nat → Addr) : Prop where
  rt : Rt K mg R
  g : ∀ i, i < 18 → mg (cn i) = some (.ref (C i))
  x : ∀ i, i < 18 → XCls K (C i)
  no : ∀ i, i < 18 → wd i ≠ "" → PySem.W.findIn K (.ref (C i)) (wd i) = some none
  ini : ∀ i, i < 18 → PySem.W.findIn K (.ref (C i)) "__init__" = some (some (.ref (I i)))
  ity : ∀ i, i < 18 → PySem.W.typeIn K (.ref (I i)) = some (.type "function")
  kit : ∀ i j, i < 18 → j < 18 → PySem.W.kitOne K (.ref (C i)) (.ref (C j)) = some (decide (i = j))
  kitR : ∀ i, i < 18 → PySem.W.kitOne K (.ref (C i)) (.ref R) = some true
  kitV : ∀ i, i < 18 → PySem.W.kitOne K (.ref (C i)) (.type "ValueError") = some true
theorem XV.mono {H H' : Hp} {a C : Addr} {fs : List (Str × V)} (s : Same H H') (x : XV H a C fs) : XV H' a C fs := by
  rcases x with ⟨x, e⟩ | ⟨dx, x, y⟩
  · exact .inl ⟨x.elim (fun q => .inl (s _ _ q)) (fun q => .inr (s _ _ q)), e⟩
  · exact .inr ⟨dx, x.elim (fun q => .inl (s _ _ q)) (fun q => .inr (s _ _ q)), y.elim (fun q => .inl (s _ _ q)) (fun q => .inr (s _ _ q))⟩
theorem same_new {H : Hp} {p : Addr} {o : HO} (n : H p = none) : Same H (upd H p o) := fun b u e => by
  rw [upd_ne (ne_of_none e n)]
  exact e
/-- [..] + [..]: the second list new -/
theorem cat_seg {H : Hp} {l : Addr} {xs ys : List V} {Q : VK} (hl : H l = some (.lst xs)) (few : xs.length + ys.length ≤ 1000) (k : ∀ p H', Same H H' → H p = none → H' p = some (.lst (xs ++ ys)) → Q (.ref p) H') :
    ys.length ≤ sizeLine ∧ ∀ q, H q = none → rCat (.ref l) (.ref q) (upd H q (.lst ys)) Q := by
  have big : 1000 ≤ sizeLine := by decide
  refine ⟨by omega, fun q nq => ⟨l, q, xs, ys, rfl, rfl, by rw [upd_ne (ne_of_none hl nq)]; exact hl, upd_same, by omega, fun p np => ?_⟩⟩
  have s1 := same_new (o := .lst ys) nq
  exact k p _ (s1.trans (same_new np)) (s1.free np) upd_same
theorem isi_rd {K : PySem.W.Frag} {σ : St} {H : Hp} {a Ci D : Addr} {fs : List (Str × V)} {b : Bool} {Q : VK} (h0 : σ[0]? = some (some (.ref a))) (X : XCls K Ci) (xv : XV H a Ci fs) (kit : PySem.W.kitOne K (.ref Ci) (.ref D) = some b) (q : Q (.bl b) H) :
    tCB (rIsX K) (tCons (tVar 0) (tCons (tC (.ref D)) tNil)) σ H Q := ⟨_, h0, a, Ci, fs, .ref D, _, b, rfl, .own _, X, xv, kit, q⟩
def marksOf (i : Nat) : List V := (List.range 18).map fun j => .bl (decide (i = j))
def spMarks (C : Nat → Addr) : Sp := fun vs H Q _ => ∃ (a : Addr) (i : Nat) (fs : List (Str × V)), vs = [.ref a] ∧ i < 18 ∧ XV H a (C i) fs ∧ ∀ p H', Same H H' → H p = none → H' p = some (.lst (marksOf i)) → Q (.ref p) H'
abbrev sMarks : Stmt := top 24
abbrev sRows : Stmt := top 25
abbrev sWords : Stmt := top 26
section
variable {P : Program} {w : World} {K : PySem.W.Frag} {mg : Str → Option Value} {base : Heap}
theorem scMarks : FnScope ["_law_error", "_law_found"] ["_law_error"] (defScope sMarks) := ⟨rfl, rfl, rfl, by decide +kernel, rfl, by decide +kernel, by decide +kernel⟩
theorem ok_marks {f R : Addr} {C I : Nat → Addr} {fd : FuncData} (F : Fun K "_law_marks" "_law_marks" sMarks f fd) (N : Nm mg) (T : Cl K mg R C I) : FnOk P w K mg base CX0 1 f fd ["_law_error"] (spMarks C) := by
  refine F.ok scMarks (fun vs H Q E h => ?_) (fun cdv A outer s H vs Q E hr h => ?_)
  · obtain ⟨a, i, fs, rfl, _⟩ := h
    rfl
  · obtain ⟨a, i, fs, rfl, hi, xv, k⟩ := h
    refine ⟨_, pss_cons (ps_set (i := 1) scMarks.nd rfl (.inl rfl) (pe_lst (pa_cons (pe_callB call_isX (by rfl) N.isi (by decide +kernel) (pa_cons (pv 0) (pa_cons (pe_glob (v := .ref (C 0)) rfl (T.g 0 (by decide)) rfl) pa_nil))) (pa_cons (pe_callB call_isX (by rfl) N.isi (by decide +kernel) (pa_cons (pv 0) (pa_cons (pe_glob (v := .ref (C 1)) rfl (T.g 1 (by decide)) rfl) pa_nil))) (pa_cons (pe_callB call_isX (by rfl) N.isi (by decide +kernel) (pa_cons (pv 0) (pa_cons (pe_glob (v := .ref (C 2)) rfl (T.g 2 (by decide)) rfl) pa_nil))) (pa_nil))))))
      (pss_cons (ps_set (i := 1) scMarks.nd rfl (.inl rfl) (pe_op op_cat (pv 1) (pe_lst (pa_cons (pe_callB call_isX (by rfl) N.isi (by decide +kernel) (pa_cons (pv 0) (pa_cons (pe_glob (v := .ref (C 3)) rfl (T.g 3 (by decide)) rfl) pa_nil))) (pa_cons (pe_callB call_isX (by rfl) N.isi (by decide +kernel) (pa_cons (pv 0) (pa_cons (pe_glob (v := .ref (C 4)) rfl (T.g 4 (by decide)) rfl) pa_nil))) (pa_cons (pe_callB call_isX (by rfl) N.isi (by decide +kernel) (pa_cons (pv 0) (pa_cons (pe_glob (v := .ref (C 5)) rfl (T.g 5 (by decide)) rfl) pa_nil))) (pa_nil)))))))
      (pss_cons (ps_set (i := 1) scMarks.nd rfl (.inl rfl) (pe_op op_cat (pv 1) (pe_lst (pa_cons (pe_callB call_isX (by rfl) N.isi (by decide +kernel) (pa_cons (pv 0) (pa_cons (pe_glob (v := .ref (C 6)) rfl (T.g 6 (by decide)) rfl) pa_nil))) (pa_cons (pe_callB call_isX (by rfl) N.isi (by decide +kernel) (pa_cons (pv 0) (pa_cons (pe_glob (v := .ref (C 7)) rfl (T.g 7 (by decide)) rfl) pa_nil))) (pa_cons (pe_callB call_isX (by rfl) N.isi (by decide +kernel) (pa_cons (pv 0) (pa_cons (pe_glob (v := .ref (C 8)) rfl (T.g 8 (by decide)) rfl) pa_nil))) (pa_nil)))))))
      (pss_cons (ps_set (i := 1) scMarks.nd rfl (.inl rfl) (pe_op op_cat (pv 1) (pe_lst (pa_cons (pe_callB call_isX (by rfl) N.isi (by decide +kernel) (pa_cons (pv 0) (pa_cons (pe_glob (v := .ref (C 9)) rfl (T.g 9 (by decide)) rfl) pa_nil))) (pa_cons (pe_callB call_isX (by rfl) N.isi (by decide +kernel) (pa_cons (pv 0) (pa_cons (pe_glob (v := .ref (C 10)) rfl (T.g 10 (by decide)) rfl) pa_nil))) (pa_cons (pe_callB call_isX (by rfl) N.isi (by decide +kernel) (pa_cons (pv 0) (pa_cons (pe_glob (v := .ref (C 11)) rfl (T.g 11 (by decide)) rfl) pa_nil))) (pa_nil)))))))
      (pss_cons (ps_set (i := 1) scMarks.nd rfl (.inl rfl) (pe_op op_cat (pv 1) (pe_lst (pa_cons (pe_callB call_isX (by rfl) N.isi (by decide +kernel) (pa_cons (pv 0) (pa_cons (pe_glob (v := .ref (C 12)) rfl (T.g 12 (by decide)) rfl) pa_nil))) (pa_cons (pe_callB call_isX (by rfl) N.isi (by decide +kernel) (pa_cons (pv 0) (pa_cons (pe_glob (v := .ref (C 13)) rfl (T.g 13 (by decide)) rfl) pa_nil))) (pa_cons (pe_callB call_isX (by rfl) N.isi (by decide +kernel) (pa_cons (pv 0) (pa_cons (pe_glob (v := .ref (C 14)) rfl (T.g 14 (by decide)) rfl) pa_nil))) (pa_nil)))))))
      (pss_cons (ps_set (i := 1) scMarks.nd rfl (.inl rfl) (pe_op op_cat (pv 1) (pe_lst (pa_cons (pe_callB call_isX (by rfl) N.isi (by decide +kernel) (pa_cons (pv 0) (pa_cons (pe_glob (v := .ref (C 15)) rfl (T.g 15 (by decide)) rfl) pa_nil))) (pa_cons (pe_callB call_isX (by rfl) N.isi (by decide +kernel) (pa_cons (pv 0) (pa_cons (pe_glob (v := .ref (C 16)) rfl (T.g 16 (by decide)) rfl) pa_nil))) (pa_nil))))))
      (pss_one (ps_ret (pe_op op_cat (pv 1) (pe_lst (pa_cons (pe_callB call_isX (by rfl) N.isi (by decide +kernel) (pa_cons (pv 0) (pa_cons (pe_glob (v := .ref (C 17)) rfl (T.g 17 (by decide)) rfl) pa_nil))) (pa_nil))))))))))), ?_⟩
    have X := T.x i hi
    refine isi_rd rfl X xv (T.kit i 0 hi (by decide)) (isi_rd rfl X xv (T.kit i 1 hi (by decide)) (isi_rd rfl X xv (T.kit i 2 hi (by decide)) (⟨by show 3 ≤ sizeLine; decide, fun p0 n0 => ?_⟩)))
    have s0 : Same H (upd H p0 (.lst ([.bl (decide (i = 0)), .bl (decide (i = 1)), .bl (decide (i = 2))] : List V))) := same_new n0
    have e0 : upd H p0 (.lst ([.bl (decide (i = 0)), .bl (decide (i = 1)), .bl (decide (i = 2))] : List V)) p0 = some (.lst ([.bl (decide (i = 0)), .bl (decide (i = 1)), .bl (decide (i = 2))] : List V)) := upd_same
    have x1 := XV.mono s0 xv
    refine ⟨_, rfl, isi_rd rfl X x1 (T.kit i 3 hi (by decide)) (isi_rd rfl X x1 (T.kit i 4 hi (by decide)) (isi_rd rfl X x1 (T.kit i 5 hi (by decide)) (cat_seg e0 (by show 3 + 3 ≤ 1000; decide) fun p1 H1 z n1 e1 => ?_)))⟩
    have s1 := s0.trans z
    have x2 := XV.mono s1 xv
    refine ⟨_, rfl, isi_rd rfl X x2 (T.kit i 6 hi (by decide)) (isi_rd rfl X x2 (T.kit i 7 hi (by decide)) (isi_rd rfl X x2 (T.kit i 8 hi (by decide)) (cat_seg e1 (by show 6 + 3 ≤ 1000; decide) fun p2 H2 z n2 e2 => ?_)))⟩
    have s2 := s1.trans z
    have x3 := XV.mono s2 xv
    refine ⟨_, rfl, isi_rd rfl X x3 (T.kit i 9 hi (by decide)) (isi_rd rfl X x3 (T.kit i 10 hi (by decide)) (isi_rd rfl X x3 (T.kit i 11 hi (by decide)) (cat_seg e2 (by show 9 + 3 ≤ 1000; decide) fun p3 H3 z n3 e3 => ?_)))⟩
    have s3 := s2.trans z
    have x4 := XV.mono s3 xv
    refine ⟨_, rfl, isi_rd rfl X x4 (T.kit i 12 hi (by decide)) (isi_rd rfl X x4 (T.kit i 13 hi (by decide)) (isi_rd rfl X x4 (T.kit i 14 hi (by decide)) (cat_seg e3 (by show 12 + 3 ≤ 1000; decide) fun p4 H4 z n4 e4 => ?_)))⟩
    have s4 := s3.trans z
    have x5 := XV.mono s4 xv
    refine ⟨_, rfl, isi_rd rfl X x5 (T.kit i 15 hi (by decide)) (isi_rd rfl X x5 (T.kit i 16 hi (by decide)) (cat_seg e4 (by show 15 + 2 ≤ 1000; decide) fun p5 H5 z n5 e5 => ?_))⟩
    have s5 := s4.trans z
    have x6 := XV.mono s5 xv
    exact ⟨_, rfl, isi_rd rfl X x6 (T.kit i 17 hi (by decide)) (cat_seg e5 (by show 17 + 1 ≤ 1000; decide) fun p H' s n e => k p H' (s5.trans s) (s5.free n) e)⟩
/-- lists whose items stand for something each -/
def Each (Pd : Hp → Nat → Addr → Prop) (H : Hp) (n : Nat) (l : List V) : Prop := l.length = n ∧ ∀ j t, l[j]? = some t → ∃ b, t = .ref b ∧ Pd H j b
theorem Each.nil {Pd : Hp → Nat → Addr → Prop} {H : Hp} : Each Pd H 0 [] := ⟨rfl, fun j t h => by simp at h⟩
theorem Each.snoc {Pd : Hp → Nat → Addr → Prop} {H : Hp} {n : Nat} {l : List V} {b : Addr} (e : Each Pd H n l) (q : Pd H n b) : Each Pd H (n + 1) (l ++ [.ref b]) := by
  obtain ⟨e1, e2⟩ := e
  refine ⟨by rw [List.length_append, e1] <;> rfl, fun j t h => ?_⟩
  by_cases hj : j < n
  · rw [List.getElem?_append_left (by omega)] at h
    exact e2 j t h
  · have hl := (List.getElem?_eq_some_iff.mp h).1
    rw [List.length_append, e1] at hl
    have : j = n := by
      have : ([V.ref b] : List V).length = 1 := rfl
      omega
    subst this
    rw [List.getElem?_append_right (by omega), e1, Nat.sub_self] at h
    exact ⟨b, (Option.some.inj h).symm, q⟩
theorem Each.mono {Pd : Hp → Nat → Addr → Prop} {H H' : Hp} {n : Nat} {l : List V} (m : ∀ j b, Pd H j b → Pd H' j b) (e : Each Pd H n l) : Each Pd H' n l :=
  ⟨e.1, fun j t h => let ⟨b, q1, q2⟩ := e.2 j t h; ⟨b, q1, m j b q2⟩⟩
def fsF (f : Str) (v : V) : List (Str × V) := if f = "" then [] else [(f, v)]
/-- the pair of an error and its attribute's name -/
def RowF (H : Hp) (t C : Addr) (f : Str) (v : V) : Prop := ∃ a, H t = some (.tup [.ref a, .str f]) ∧ XV H a C (fsF f v)
theorem RowF.mono {H H' : Hp} {t C : Addr} {f : Str} {v : V} (s : Same H H') (x : RowF H t C f v) : RowF H' t C f v := let ⟨a, e, q⟩ := x; ⟨a, s _ _ e, XV.mono s q⟩
def RowP (C : Nat → Addr) (v : V) : Hp → Nat → Addr → Prop := fun H j b => RowF H b (C j) (wd j) v
def WordP (C : Nat → Addr) (v : V) : Hp → Nat → Addr → Prop := fun H j b => XV H b (C (ix j)) [(wd (ix j), v)]
theorem row1 {σ : St} {H : Hp} {v : V} {C : Addr} {f : Str} {Q : VK} (hf : ¬ f = "") (h0 : σ[0]? = some (some v)) (k : ∀ t H', Same H H' → RowF H' t C f v → Q (.ref t) H') :
    tTup (tCons (tMkX C (spI1 f C) [] E0 (tCons (tVar 0) tNil)) (tCons (tC (.str f)) tNil)) σ H Q := by
  refine ⟨v, h0, by show 1 ≤ 1000; decide, fun a na => ⟨a, v, rfl, upd_same, fun dx nd ne => ⟨rfl, by show 2 ≤ sizeLine; decide, fun t nt => k t _ ?_ ⟨a, upd_same, ?_⟩⟩⟩⟩
  · have nd' : H dx = none := by
      rw [upd_ne ne] at nd
      exact nd
    refine Same.trans (fun b o e => ?_) (same_new nt)
    rw [upd_ne (ne_of_none e na), upd_ne (ne_of_none e nd'), upd_ne (ne_of_none e na)]
    exact e
  · refine XV.mono (same_new nt) (.inr ⟨dx, .inl upd_same, .inl ?_⟩)
    rw [upd_ne ne, upd_same]
    unfold fsF
    rw [if_neg hf]
theorem row0 {σ : St} {H : Hp} {v : V} {C : Addr} {Q : VK} (k : ∀ t H', Same H H' → RowF H' t C "" v → Q (.ref t) H') : tTup (tCons (tMkX C (spI0 C) [] E0 tNil) (tCons (tC (.str "")) tNil)) σ H Q := by
  refine ⟨by show 0 ≤ 1000; decide, fun a na => ⟨a, rfl, upd_same, rfl, by show 2 ≤ sizeLine; decide, fun t nt => k t _ ((same_new na).trans (same_new nt)) ⟨a, upd_same, XV.mono (same_new nt) (.inl ⟨.inl upd_same, ?_⟩)⟩⟩⟩
  unfold fsF
  rw [if_pos rfl]
theorem word1 {σ : St} {H : Hp} {v : V} {C : Addr} {f : Str} {Q : VK} (h0 : σ[0]? = some (some v)) (k : ∀ a H', Same H H' → XV H' a C [(f, v)] → Q (.ref a) H') :
    tMkXK C (spI1 f C) (fun vs zs => vs ++ zs) E0 (tVar 0) σ H Q := by
  refine ⟨v, h0, fun a na => ⟨a, v, rfl, upd_same, fun dx nd ne => ⟨rfl, k a _ ?_ (.inr ⟨dx, .inl upd_same, .inl ?_⟩)⟩⟩⟩
  · have nd' : H dx = none := by
      rw [upd_ne ne] at nd
      exact nd
    intro b o e
    rw [upd_ne (ne_of_none e na), upd_ne (ne_of_none e nd'), upd_ne (ne_of_none e na)]
    exact e
  · rw [upd_ne ne, upd_same]
theorem consR {ta : TE} {tr : TA} {σ : St} {H : Hp} {Q : List V → Hp → Prop} (h : ta σ H fun x H1 => tr σ H1 fun xs H2 => Q (x :: xs) H2) : tCons ta tr σ H Q := h
def spRows (C : Nat → Addr) : Sp := fun vs H Q _ => ∃ v : V, vs = [v] ∧ ∀ p H' l, Same H H' → H p = none → H' p = some (.lst l) → Each (RowP C v) H' 18 l → Q (.ref p) H'
def spWords (C : Nat → Addr) : Sp := fun vs H Q _ => ∃ v : V, vs = [v] ∧ ∀ p H' l, Same H H' → H p = none → H' p = some (.lst l) → Each (WordP C v) H' 12 l → Q (.ref p) H'
theorem RowP.up {C : Nat → Addr} {v : V} {H H' : Hp} (s : Same H H') : ∀ j b, RowP C v H j b → RowP C v H' j b := fun _ _ q => RowF.mono s q
theorem WordP.up {C : Nat → Addr} {v : V} {H H' : Hp} (s : Same H H') : ∀ j b, WordP C v H j b → WordP C v H' j b := fun _ _ q => XV.mono s q
theorem scRows : FnScope ["_law_what", "_law_found"] ["_law_what"] (defScope sRows) := ⟨rfl, rfl, rfl, by decide +kernel, rfl, by decide +kernel, by decide +kernel⟩
theorem scWords : FnScope ["_law_what", "_law_found"] ["_law_what"] (defScope sWords) := ⟨rfl, rfl, rfl, by decide +kernel, rfl, by decide +kernel, by decide +kernel⟩
/-- each class's __init__ stands, called by place (b) and by name (q) -/
structure Inits (P : Program) (w : World) (K : PySem.W.Frag) (mg : Str → Option Value) (base : Heap) (C I : Nat → Addr) (D : Nat → FuncData) : Prop where
  g0 : FnOk P w K mg base CX0 1 (I 0) (D 0) ["self", "name"] (spI1 "name" (C 0))
  b0 : Binds K (D 0) ["self", "name"] []
  q0 : KBn K (D 0) ["self", "name"] 1 ["name"] (fun us ws => us ++ ws) (fun vs zs => vs ++ zs)
  g1 : FnOk P w K mg base CX0 1 (I 1) (D 1) ["self", "name"] (spI1 "name" (C 1))
  b1 : Binds K (D 1) ["self", "name"] []
  q1 : KBn K (D 1) ["self", "name"] 1 ["name"] (fun us ws => us ++ ws) (fun vs zs => vs ++ zs)
  g2 : FnOk P w K mg base CX0 1 (I 2) (D 2) ["self"] (spI0 (C 2))
  b2 : Binds K (D 2) ["self"] []
  g3 : FnOk P w K mg base CX0 1 (I 3) (D 3) ["self", "place"] (spI1 "place" (C 3))
  b3 : Binds K (D 3) ["self", "place"] []
  q3 : KBn K (D 3) ["self", "place"] 1 ["place"] (fun us ws => us ++ ws) (fun vs zs => vs ++ zs)
  g4 : FnOk P w K mg base CX0 1 (I 4) (D 4) ["self", "user"] (spI1 "user" (C 4))
  b4 : Binds K (D 4) ["self", "user"] []
  q4 : KBn K (D 4) ["self", "user"] 1 ["user"] (fun us ws => us ++ ws) (fun vs zs => vs ++ zs)
  g5 : FnOk P w K mg base CX0 1 (I 5) (D 5) ["self", "user"] (spI1 "user" (C 5))
  b5 : Binds K (D 5) ["self", "user"] []
  q5 : KBn K (D 5) ["self", "user"] 1 ["user"] (fun us ws => us ++ ws) (fun vs zs => vs ++ zs)
  g6 : FnOk P w K mg base CX0 1 (I 6) (D 6) ["self"] (spI0 (C 6))
  b6 : Binds K (D 6) ["self"] []
  g7 : FnOk P w K mg base CX0 1 (I 7) (D 7) ["self"] (spI0 (C 7))
  b7 : Binds K (D 7) ["self"] []
  g8 : FnOk P w K mg base CX0 1 (I 8) (D 8) ["self"] (spI0 (C 8))
  b8 : Binds K (D 8) ["self"] []
  g9 : FnOk P w K mg base CX0 1 (I 9) (D 9) ["self"] (spI0 (C 9))
  b9 : Binds K (D 9) ["self"] []
  g10 : FnOk P w K mg base CX0 1 (I 10) (D 10) ["self"] (spI0 (C 10))
  b10 : Binds K (D 10) ["self"] []
  g11 : FnOk P w K mg base CX0 1 (I 11) (D 11) ["self", "name"] (spI1 "name" (C 11))
  b11 : Binds K (D 11) ["self", "name"] []
  q11 : KBn K (D 11) ["self", "name"] 1 ["name"] (fun us ws => us ++ ws) (fun vs zs => vs ++ zs)
  g12 : FnOk P w K mg base CX0 1 (I 12) (D 12) ["self", "most"] (spI1 "most" (C 12))
  b12 : Binds K (D 12) ["self", "most"] []
  q12 : KBn K (D 12) ["self", "most"] 1 ["most"] (fun us ws => us ++ ws) (fun vs zs => vs ++ zs)
  g13 : FnOk P w K mg base CX0 1 (I 13) (D 13) ["self", "index"] (spI1 "index" (C 13))
  b13 : Binds K (D 13) ["self", "index"] []
  q13 : KBn K (D 13) ["self", "index"] 1 ["index"] (fun us ws => us ++ ws) (fun vs zs => vs ++ zs)
  g14 : FnOk P w K mg base CX0 1 (I 14) (D 14) ["self", "users"] (spI1 "users" (C 14))
  b14 : Binds K (D 14) ["self", "users"] []
  q14 : KBn K (D 14) ["self", "users"] 1 ["users"] (fun us ws => us ++ ws) (fun vs zs => vs ++ zs)
  g15 : FnOk P w K mg base CX0 1 (I 15) (D 15) ["self", "index"] (spI1 "index" (C 15))
  b15 : Binds K (D 15) ["self", "index"] []
  q15 : KBn K (D 15) ["self", "index"] 1 ["index"] (fun us ws => us ++ ws) (fun vs zs => vs ++ zs)
  g16 : FnOk P w K mg base CX0 1 (I 16) (D 16) ["self", "index"] (spI1 "index" (C 16))
  b16 : Binds K (D 16) ["self", "index"] []
  q16 : KBn K (D 16) ["self", "index"] 1 ["index"] (fun us ws => us ++ ws) (fun vs zs => vs ++ zs)
  g17 : FnOk P w K mg base CX0 1 (I 17) (D 17) ["self", "line"] (spI1 "line" (C 17))
  b17 : Binds K (D 17) ["self", "line"] []
  q17 : KBn K (D 17) ["self", "line"] 1 ["line"] (fun us ws => us ++ ws) (fun vs zs => vs ++ zs)
theorem ok_rows {f R : Addr} {C I : Nat → Addr} {D : Nat → FuncData} {fd : FuncData} (F : Fun K "_law_by_place" "_law_by_place" sRows f fd) (T : Cl K mg R C I) (J : Inits P w K mg base C I D) : FnOk P w K mg base CX0 3 f fd ["_law_what"] (spRows C) := by
  refine F.ok scRows (fun vs H Q E h => ?_) (fun cdv A outer s H vs Q E hr h => ?_)
  · obtain ⟨v, rfl, _⟩ := h
    rfl
  · obtain ⟨v, rfl, k⟩ := h
    have hr2 : Room (1 + 1) _ := hr.mono (by decide)
    refine ⟨_, pss_cons (ps_set (i := 1) scRows.nd rfl (.inl rfl) (pe_lst (pa_cons (pe_tup (pa_cons (pe_mkx (T.x 0 (by decide)) (T.ini 0 (by decide)) (T.ity 0 (by decide)) J.g0 hr2 rfl (T.g 0 (by decide)) J.b0 .nil pass0 (pa_cons (pv 0) pa_nil)) (pa_cons pe_str pa_nil))) (pa_cons (pe_tup (pa_cons (pe_mkx (T.x 1 (by decide)) (T.ini 1 (by decide)) (T.ity 1 (by decide)) J.g1 hr2 rfl (T.g 1 (by decide)) J.b1 .nil pass0 (pa_cons (pv 0) pa_nil)) (pa_cons pe_str pa_nil))) (pa_cons (pe_tup (pa_cons (pe_mkx0 (T.x 2 (by decide)) (T.ini 2 (by decide)) (T.ity 2 (by decide)) J.g2 hr2 rfl (T.g 2 (by decide)) J.b2 .nil pass0) (pa_cons pe_str pa_nil))) (pa_nil))))))
      (pss_cons (ps_set (i := 1) scRows.nd rfl (.inl rfl) (pe_op op_cat (pv 1) (pe_lst (pa_cons (pe_tup (pa_cons (pe_mkx (T.x 3 (by decide)) (T.ini 3 (by decide)) (T.ity 3 (by decide)) J.g3 hr2 rfl (T.g 3 (by decide)) J.b3 .nil pass0 (pa_cons (pv 0) pa_nil)) (pa_cons pe_str pa_nil))) (pa_cons (pe_tup (pa_cons (pe_mkx (T.x 4 (by decide)) (T.ini 4 (by decide)) (T.ity 4 (by decide)) J.g4 hr2 rfl (T.g 4 (by decide)) J.b4 .nil pass0 (pa_cons (pv 0) pa_nil)) (pa_cons pe_str pa_nil))) (pa_cons (pe_tup (pa_cons (pe_mkx (T.x 5 (by decide)) (T.ini 5 (by decide)) (T.ity 5 (by decide)) J.g5 hr2 rfl (T.g 5 (by decide)) J.b5 .nil pass0 (pa_cons (pv 0) pa_nil)) (pa_cons pe_str pa_nil))) (pa_nil)))))))
      (pss_cons (ps_set (i := 1) scRows.nd rfl (.inl rfl) (pe_op op_cat (pv 1) (pe_lst (pa_cons (pe_tup (pa_cons (pe_mkx0 (T.x 6 (by decide)) (T.ini 6 (by decide)) (T.ity 6 (by decide)) J.g6 hr2 rfl (T.g 6 (by decide)) J.b6 .nil pass0) (pa_cons pe_str pa_nil))) (pa_cons (pe_tup (pa_cons (pe_mkx0 (T.x 7 (by decide)) (T.ini 7 (by decide)) (T.ity 7 (by decide)) J.g7 hr2 rfl (T.g 7 (by decide)) J.b7 .nil pass0) (pa_cons pe_str pa_nil))) (pa_cons (pe_tup (pa_cons (pe_mkx0 (T.x 8 (by decide)) (T.ini 8 (by decide)) (T.ity 8 (by decide)) J.g8 hr2 rfl (T.g 8 (by decide)) J.b8 .nil pass0) (pa_cons pe_str pa_nil))) (pa_cons (pe_tup (pa_cons (pe_mkx0 (T.x 9 (by decide)) (T.ini 9 (by decide)) (T.ity 9 (by decide)) J.g9 hr2 rfl (T.g 9 (by decide)) J.b9 .nil pass0) (pa_cons pe_str pa_nil))) (pa_nil))))))))
      (pss_cons (ps_set (i := 1) scRows.nd rfl (.inl rfl) (pe_op op_cat (pv 1) (pe_lst (pa_cons (pe_tup (pa_cons (pe_mkx0 (T.x 10 (by decide)) (T.ini 10 (by decide)) (T.ity 10 (by decide)) J.g10 hr2 rfl (T.g 10 (by decide)) J.b10 .nil pass0) (pa_cons pe_str pa_nil))) (pa_cons (pe_tup (pa_cons (pe_mkx (T.x 11 (by decide)) (T.ini 11 (by decide)) (T.ity 11 (by decide)) J.g11 hr2 rfl (T.g 11 (by decide)) J.b11 .nil pass0 (pa_cons (pv 0) pa_nil)) (pa_cons pe_str pa_nil))) (pa_cons (pe_tup (pa_cons (pe_mkx (T.x 12 (by decide)) (T.ini 12 (by decide)) (T.ity 12 (by decide)) J.g12 hr2 rfl (T.g 12 (by decide)) J.b12 .nil pass0 (pa_cons (pv 0) pa_nil)) (pa_cons pe_str pa_nil))) (pa_nil)))))))
      (pss_cons (ps_set (i := 1) scRows.nd rfl (.inl rfl) (pe_op op_cat (pv 1) (pe_lst (pa_cons (pe_tup (pa_cons (pe_mkx (T.x 13 (by decide)) (T.ini 13 (by decide)) (T.ity 13 (by decide)) J.g13 hr2 rfl (T.g 13 (by decide)) J.b13 .nil pass0 (pa_cons (pv 0) pa_nil)) (pa_cons pe_str pa_nil))) (pa_cons (pe_tup (pa_cons (pe_mkx (T.x 14 (by decide)) (T.ini 14 (by decide)) (T.ity 14 (by decide)) J.g14 hr2 rfl (T.g 14 (by decide)) J.b14 .nil pass0 (pa_cons (pv 0) pa_nil)) (pa_cons pe_str pa_nil))) (pa_cons (pe_tup (pa_cons (pe_mkx (T.x 15 (by decide)) (T.ini 15 (by decide)) (T.ity 15 (by decide)) J.g15 hr2 rfl (T.g 15 (by decide)) J.b15 .nil pass0 (pa_cons (pv 0) pa_nil)) (pa_cons pe_str pa_nil))) (pa_nil)))))))
      (pss_one (ps_ret (pe_op op_cat (pv 1) (pe_lst (pa_cons (pe_tup (pa_cons (pe_mkx (T.x 16 (by decide)) (T.ini 16 (by decide)) (T.ity 16 (by decide)) J.g16 hr2 rfl (T.g 16 (by decide)) J.b16 .nil pass0 (pa_cons (pv 0) pa_nil)) (pa_cons pe_str pa_nil))) (pa_cons (pe_tup (pa_cons (pe_mkx (T.x 17 (by decide)) (T.ini 17 (by decide)) (T.ity 17 (by decide)) J.g17 hr2 rfl (T.g 17 (by decide)) J.b17 .nil pass0 (pa_cons (pv 0) pa_nil)) (pa_cons pe_str pa_nil))) (pa_nil))))))))))), ?_⟩
    dsimp only [tSeq, tAsg, tLst]
    refine consR (row1 (v := v) (C := C 0) (f := "name") (by decide) (by rfl) fun t0_0 G0_0 z0_0 r0_0 => ?_)
    refine consR (row1 (v := v) (C := C 1) (f := "name") (by decide) (by rfl) fun t0_1 G0_1 z0_1 r0_1 => ?_)
    refine consR (row0 (C := C 2) (v := v) fun t0_2 G0_2 z0_2 r0_2 => ?_)
    refine ⟨by show 3 ≤ sizeLine; decide, fun p0 n0 => ?_⟩
    have u0 : Same H G0_2 := ((z0_0).trans z0_1).trans z0_2
    obtain ⟨H0, eH0⟩ : ∃ X, X = upd G0_2 p0 (.lst ([.ref t0_0, .ref t0_1, .ref t0_2] : List V)) := ⟨_, rfl⟩
    have y0 : Same G0_2 H0 := eH0 ▸ same_new n0
    have e0 : H0 p0 = some (.lst ([.ref t0_0, .ref t0_1, .ref t0_2] : List V)) := eH0 ▸ upd_same
    rw [← eH0]
    have s0 : Same H H0 := u0.trans y0
    have m0 : H p0 = none := u0.free n0
    have R0 : Each (RowP C v) H0 3 ([.ref t0_0, .ref t0_1, .ref t0_2]) := (((Each.nil).snoc (RowP.up (((z0_1).trans z0_2).trans y0) _ _ r0_0)).snoc (RowP.up ((z0_2).trans y0) _ _ r0_1)).snoc (RowP.up (y0) _ _ r0_2)
    refine ⟨_, rfl, ?_⟩
    dsimp only [tLst]
    refine consR (row1 (v := v) (C := C 3) (f := "place") (by decide) (by rfl) fun t1_0 G1_0 z1_0 r1_0 => ?_)
    refine consR (row1 (v := v) (C := C 4) (f := "user") (by decide) (by rfl) fun t1_1 G1_1 z1_1 r1_1 => ?_)
    refine consR (row1 (v := v) (C := C 5) (f := "user") (by decide) (by rfl) fun t1_2 G1_2 z1_2 r1_2 => ?_)
    refine cat_seg (z1_2 _ _ ( z1_1 _ _ ( z1_0 _ _ (e0)))) (by rw [R0.1]; show 3 + 3 ≤ 1000; decide) fun p1 H1 y1 n1 e1 => ?_
    have u1 : Same H0 G1_2 := ((z1_0).trans z1_1).trans z1_2
    have s1 : Same H H1 := s0.trans (u1.trans y1)
    have m1 : H p1 = none := s0.free (u1.free n1)
    have R1 : Each (RowP C v) H1 6 ([.ref t0_0, .ref t0_1, .ref t0_2] ++ [.ref t1_0, .ref t1_1, .ref t1_2]) := by
      have q := ((((R0.mono (RowP.up (u1.trans y1)))).snoc (RowP.up (((z1_1).trans z1_2).trans y1) _ _ r1_0)).snoc (RowP.up ((z1_2).trans y1) _ _ r1_1)).snoc (RowP.up (y1) _ _ r1_2)
      simpa only [List.append_assoc, List.cons_append, List.nil_append] using q
    refine ⟨_, rfl, ?_⟩
    dsimp only [tLst]
    refine consR (row0 (C := C 6) (v := v) fun t2_0 G2_0 z2_0 r2_0 => ?_)
    refine consR (row0 (C := C 7) (v := v) fun t2_1 G2_1 z2_1 r2_1 => ?_)
    refine consR (row0 (C := C 8) (v := v) fun t2_2 G2_2 z2_2 r2_2 => ?_)
    refine consR (row0 (C := C 9) (v := v) fun t2_3 G2_3 z2_3 r2_3 => ?_)
    refine cat_seg (z2_3 _ _ ( z2_2 _ _ ( z2_1 _ _ ( z2_0 _ _ (e1))))) (by rw [R1.1]; show 6 + 4 ≤ 1000; decide) fun p2 H2 y2 n2 e2 => ?_
    have u2 : Same H1 G2_3 := (((z2_0).trans z2_1).trans z2_2).trans z2_3
    have s2 : Same H H2 := s1.trans (u2.trans y2)
    have m2 : H p2 = none := s1.free (u2.free n2)
    have R2 : Each (RowP C v) H2 10 ([.ref t0_0, .ref t0_1, .ref t0_2] ++ [.ref t1_0, .ref t1_1, .ref t1_2] ++ [.ref t2_0, .ref t2_1, .ref t2_2, .ref t2_3]) := by
      have q := (((((R1.mono (RowP.up (u2.trans y2)))).snoc (RowP.up ((((z2_1).trans z2_2).trans z2_3).trans y2) _ _ r2_0)).snoc (RowP.up (((z2_2).trans z2_3).trans y2) _ _ r2_1)).snoc (RowP.up ((z2_3).trans y2) _ _ r2_2)).snoc (RowP.up (y2) _ _ r2_3)
      simpa only [List.append_assoc, List.cons_append, List.nil_append] using q
    refine ⟨_, rfl, ?_⟩
    dsimp only [tLst]
    refine consR (row0 (C := C 10) (v := v) fun t3_0 G3_0 z3_0 r3_0 => ?_)
    refine consR (row1 (v := v) (C := C 11) (f := "name") (by decide) (by rfl) fun t3_1 G3_1 z3_1 r3_1 => ?_)
    refine consR (row1 (v := v) (C := C 12) (f := "most") (by decide) (by rfl) fun t3_2 G3_2 z3_2 r3_2 => ?_)
    refine cat_seg (z3_2 _ _ ( z3_1 _ _ ( z3_0 _ _ (e2)))) (by rw [R2.1]; show 10 + 3 ≤ 1000; decide) fun p3 H3 y3 n3 e3 => ?_
    have u3 : Same H2 G3_2 := ((z3_0).trans z3_1).trans z3_2
    have s3 : Same H H3 := s2.trans (u3.trans y3)
    have m3 : H p3 = none := s2.free (u3.free n3)
    have R3 : Each (RowP C v) H3 13 ([.ref t0_0, .ref t0_1, .ref t0_2] ++ [.ref t1_0, .ref t1_1, .ref t1_2] ++ [.ref t2_0, .ref t2_1, .ref t2_2, .ref t2_3] ++ [.ref t3_0, .ref t3_1, .ref t3_2]) := by
      have q := ((((R2.mono (RowP.up (u3.trans y3)))).snoc (RowP.up (((z3_1).trans z3_2).trans y3) _ _ r3_0)).snoc (RowP.up ((z3_2).trans y3) _ _ r3_1)).snoc (RowP.up (y3) _ _ r3_2)
      simpa only [List.append_assoc, List.cons_append, List.nil_append] using q
    refine ⟨_, rfl, ?_⟩
    dsimp only [tLst]
    refine consR (row1 (v := v) (C := C 13) (f := "index") (by decide) (by rfl) fun t4_0 G4_0 z4_0 r4_0 => ?_)
    refine consR (row1 (v := v) (C := C 14) (f := "users") (by decide) (by rfl) fun t4_1 G4_1 z4_1 r4_1 => ?_)
    refine consR (row1 (v := v) (C := C 15) (f := "index") (by decide) (by rfl) fun t4_2 G4_2 z4_2 r4_2 => ?_)
    refine cat_seg (z4_2 _ _ ( z4_1 _ _ ( z4_0 _ _ (e3)))) (by rw [R3.1]; show 13 + 3 ≤ 1000; decide) fun p4 H4 y4 n4 e4 => ?_
    have u4 : Same H3 G4_2 := ((z4_0).trans z4_1).trans z4_2
    have s4 : Same H H4 := s3.trans (u4.trans y4)
    have m4 : H p4 = none := s3.free (u4.free n4)
    have R4 : Each (RowP C v) H4 16 ([.ref t0_0, .ref t0_1, .ref t0_2] ++ [.ref t1_0, .ref t1_1, .ref t1_2] ++ [.ref t2_0, .ref t2_1, .ref t2_2, .ref t2_3] ++ [.ref t3_0, .ref t3_1, .ref t3_2] ++ [.ref t4_0, .ref t4_1, .ref t4_2]) := by
      have q := ((((R3.mono (RowP.up (u4.trans y4)))).snoc (RowP.up (((z4_1).trans z4_2).trans y4) _ _ r4_0)).snoc (RowP.up ((z4_2).trans y4) _ _ r4_1)).snoc (RowP.up (y4) _ _ r4_2)
      simpa only [List.append_assoc, List.cons_append, List.nil_append] using q
    refine ⟨_, rfl, ?_⟩
    dsimp only [tLst]
    refine consR (row1 (v := v) (C := C 16) (f := "index") (by decide) (by rfl) fun t5_0 G5_0 z5_0 r5_0 => ?_)
    refine consR (row1 (v := v) (C := C 17) (f := "line") (by decide) (by rfl) fun t5_1 G5_1 z5_1 r5_1 => ?_)
    refine cat_seg (z5_1 _ _ ( z5_0 _ _ (e4))) (by rw [R4.1]; show 16 + 2 ≤ 1000; decide) fun p5 H5 y5 n5 e5 => ?_
    have u5 : Same H4 G5_1 := (z5_0).trans z5_1
    have s5 : Same H H5 := s4.trans (u5.trans y5)
    have m5 : H p5 = none := s4.free (u5.free n5)
    have R5 : Each (RowP C v) H5 18 ([.ref t0_0, .ref t0_1, .ref t0_2] ++ [.ref t1_0, .ref t1_1, .ref t1_2] ++ [.ref t2_0, .ref t2_1, .ref t2_2, .ref t2_3] ++ [.ref t3_0, .ref t3_1, .ref t3_2] ++ [.ref t4_0, .ref t4_1, .ref t4_2] ++ [.ref t5_0, .ref t5_1]) := by
      have q := (((R4.mono (RowP.up (u5.trans y5)))).snoc (RowP.up ((z5_1).trans y5) _ _ r5_0)).snoc (RowP.up (y5) _ _ r5_1)
      simpa only [List.append_assoc, List.cons_append, List.nil_append] using q
    exact k _ _ _ s5 m5 e5 R5
theorem ok_words {f R : Addr} {C I : Nat → Addr} {D : Nat → FuncData} {fd : FuncData} (F : Fun K "_law_by_word" "_law_by_word" sWords f fd) (T : Cl K mg R C I) (J : Inits P w K mg base C I D) : FnOk P w K mg base CX0 3 f fd ["_law_what"] (spWords C) := by
  refine F.ok scWords (fun vs H Q E h => ?_) (fun cdv A outer s H vs Q E hr h => ?_)
  · obtain ⟨v, rfl, _⟩ := h
    rfl
  · obtain ⟨v, rfl, k⟩ := h
    have hr2 : Room (1 + 1) _ := hr.mono (by decide)
    refine ⟨_, pss_cons (ps_set (i := 1) scWords.nd rfl (.inl rfl) (pe_lst (pa_cons (pe_mkxK (T.x 0 (by decide)) (T.ini 0 (by decide)) (T.ity 0 (by decide)) J.g0 hr2 rfl (T.g 0 (by decide)) J.q0 pass0 (pv 0)) (pa_cons (pe_mkxK (T.x 1 (by decide)) (T.ini 1 (by decide)) (T.ity 1 (by decide)) J.g1 hr2 rfl (T.g 1 (by decide)) J.q1 pass0 (pv 0)) (pa_cons (pe_mkxK (T.x 3 (by decide)) (T.ini 3 (by decide)) (T.ity 3 (by decide)) J.g3 hr2 rfl (T.g 3 (by decide)) J.q3 pass0 (pv 0)) (pa_cons (pe_mkxK (T.x 4 (by decide)) (T.ini 4 (by decide)) (T.ity 4 (by decide)) J.g4 hr2 rfl (T.g 4 (by decide)) J.q4 pass0 (pv 0)) (pa_nil)))))))
      (pss_cons (ps_set (i := 1) scWords.nd rfl (.inl rfl) (pe_op op_cat (pv 1) (pe_lst (pa_cons (pe_mkxK (T.x 5 (by decide)) (T.ini 5 (by decide)) (T.ity 5 (by decide)) J.g5 hr2 rfl (T.g 5 (by decide)) J.q5 pass0 (pv 0)) (pa_cons (pe_mkxK (T.x 11 (by decide)) (T.ini 11 (by decide)) (T.ity 11 (by decide)) J.g11 hr2 rfl (T.g 11 (by decide)) J.q11 pass0 (pv 0)) (pa_cons (pe_mkxK (T.x 12 (by decide)) (T.ini 12 (by decide)) (T.ity 12 (by decide)) J.g12 hr2 rfl (T.g 12 (by decide)) J.q12 pass0 (pv 0)) (pa_cons (pe_mkxK (T.x 13 (by decide)) (T.ini 13 (by decide)) (T.ity 13 (by decide)) J.g13 hr2 rfl (T.g 13 (by decide)) J.q13 pass0 (pv 0)) (pa_nil))))))))
      (pss_cons (ps_set (i := 1) scWords.nd rfl (.inl rfl) (pe_op op_cat (pv 1) (pe_lst (pa_cons (pe_mkxK (T.x 14 (by decide)) (T.ini 14 (by decide)) (T.ity 14 (by decide)) J.g14 hr2 rfl (T.g 14 (by decide)) J.q14 pass0 (pv 0)) (pa_cons (pe_mkxK (T.x 15 (by decide)) (T.ini 15 (by decide)) (T.ity 15 (by decide)) J.g15 hr2 rfl (T.g 15 (by decide)) J.q15 pass0 (pv 0)) (pa_cons (pe_mkxK (T.x 16 (by decide)) (T.ini 16 (by decide)) (T.ity 16 (by decide)) J.g16 hr2 rfl (T.g 16 (by decide)) J.q16 pass0 (pv 0)) (pa_nil)))))))
      (pss_one (ps_ret (pe_op op_cat (pv 1) (pe_lst (pa_cons (pe_mkxK (T.x 17 (by decide)) (T.ini 17 (by decide)) (T.ity 17 (by decide)) J.g17 hr2 rfl (T.g 17 (by decide)) J.q17 pass0 (pv 0)) (pa_nil)))))))), ?_⟩
    dsimp only [tSeq, tAsg, tLst]
    refine consR (word1 (v := v) (C := C 0) (f := "name") (by rfl) fun t0_0 G0_0 z0_0 r0_0 => ?_)
    refine consR (word1 (v := v) (C := C 1) (f := "name") (by rfl) fun t0_1 G0_1 z0_1 r0_1 => ?_)
    refine consR (word1 (v := v) (C := C 3) (f := "place") (by rfl) fun t0_2 G0_2 z0_2 r0_2 => ?_)
    refine consR (word1 (v := v) (C := C 4) (f := "user") (by rfl) fun t0_3 G0_3 z0_3 r0_3 => ?_)
    refine ⟨by show 4 ≤ sizeLine; decide, fun p0 n0 => ?_⟩
    have u0 : Same H G0_3 := (((z0_0).trans z0_1).trans z0_2).trans z0_3
    obtain ⟨H0, eH0⟩ : ∃ X, X = upd G0_3 p0 (.lst ([.ref t0_0, .ref t0_1, .ref t0_2, .ref t0_3] : List V)) := ⟨_, rfl⟩
    have y0 : Same G0_3 H0 := eH0 ▸ same_new n0
    have e0 : H0 p0 = some (.lst ([.ref t0_0, .ref t0_1, .ref t0_2, .ref t0_3] : List V)) := eH0 ▸ upd_same
    rw [← eH0]
    have s0 : Same H H0 := u0.trans y0
    have m0 : H p0 = none := u0.free n0
    have R0 : Each (WordP C v) H0 4 ([.ref t0_0, .ref t0_1, .ref t0_2, .ref t0_3]) := ((((Each.nil).snoc (WordP.up ((((z0_1).trans z0_2).trans z0_3).trans y0) _ _ r0_0)).snoc (WordP.up (((z0_2).trans z0_3).trans y0) _ _ r0_1)).snoc (WordP.up ((z0_3).trans y0) _ _ r0_2)).snoc (WordP.up (y0) _ _ r0_3)
    refine ⟨_, rfl, ?_⟩
    dsimp only [tLst]
    refine consR (word1 (v := v) (C := C 5) (f := "user") (by rfl) fun t1_0 G1_0 z1_0 r1_0 => ?_)
    refine consR (word1 (v := v) (C := C 11) (f := "name") (by rfl) fun t1_1 G1_1 z1_1 r1_1 => ?_)
    refine consR (word1 (v := v) (C := C 12) (f := "most") (by rfl) fun t1_2 G1_2 z1_2 r1_2 => ?_)
    refine consR (word1 (v := v) (C := C 13) (f := "index") (by rfl) fun t1_3 G1_3 z1_3 r1_3 => ?_)
    refine cat_seg (z1_3 _ _ ( z1_2 _ _ ( z1_1 _ _ ( z1_0 _ _ (e0))))) (by rw [R0.1]; show 4 + 4 ≤ 1000; decide) fun p1 H1 y1 n1 e1 => ?_
    have u1 : Same H0 G1_3 := (((z1_0).trans z1_1).trans z1_2).trans z1_3
    have s1 : Same H H1 := s0.trans (u1.trans y1)
    have m1 : H p1 = none := s0.free (u1.free n1)
    have R1 : Each (WordP C v) H1 8 ([.ref t0_0, .ref t0_1, .ref t0_2, .ref t0_3] ++ [.ref t1_0, .ref t1_1, .ref t1_2, .ref t1_3]) := by
      have q := (((((R0.mono (WordP.up (u1.trans y1)))).snoc (WordP.up ((((z1_1).trans z1_2).trans z1_3).trans y1) _ _ r1_0)).snoc (WordP.up (((z1_2).trans z1_3).trans y1) _ _ r1_1)).snoc (WordP.up ((z1_3).trans y1) _ _ r1_2)).snoc (WordP.up (y1) _ _ r1_3)
      simpa only [List.append_assoc, List.cons_append, List.nil_append] using q
    refine ⟨_, rfl, ?_⟩
    dsimp only [tLst]
    refine consR (word1 (v := v) (C := C 14) (f := "users") (by rfl) fun t2_0 G2_0 z2_0 r2_0 => ?_)
    refine consR (word1 (v := v) (C := C 15) (f := "index") (by rfl) fun t2_1 G2_1 z2_1 r2_1 => ?_)
    refine consR (word1 (v := v) (C := C 16) (f := "index") (by rfl) fun t2_2 G2_2 z2_2 r2_2 => ?_)
    refine cat_seg (z2_2 _ _ ( z2_1 _ _ ( z2_0 _ _ (e1)))) (by rw [R1.1]; show 8 + 3 ≤ 1000; decide) fun p2 H2 y2 n2 e2 => ?_
    have u2 : Same H1 G2_2 := ((z2_0).trans z2_1).trans z2_2
    have s2 : Same H H2 := s1.trans (u2.trans y2)
    have m2 : H p2 = none := s1.free (u2.free n2)
    have R2 : Each (WordP C v) H2 11 ([.ref t0_0, .ref t0_1, .ref t0_2, .ref t0_3] ++ [.ref t1_0, .ref t1_1, .ref t1_2, .ref t1_3] ++ [.ref t2_0, .ref t2_1, .ref t2_2]) := by
      have q := ((((R1.mono (WordP.up (u2.trans y2)))).snoc (WordP.up (((z2_1).trans z2_2).trans y2) _ _ r2_0)).snoc (WordP.up ((z2_2).trans y2) _ _ r2_1)).snoc (WordP.up (y2) _ _ r2_2)
      simpa only [List.append_assoc, List.cons_append, List.nil_append] using q
    refine ⟨_, rfl, ?_⟩
    dsimp only [tLst]
    refine consR (word1 (v := v) (C := C 17) (f := "line") (by rfl) fun t3_0 G3_0 z3_0 r3_0 => ?_)
    refine cat_seg (z3_0 _ _ (e2)) (by rw [R2.1]; show 11 + 1 ≤ 1000; decide) fun p3 H3 y3 n3 e3 => ?_
    have u3 : Same H2 G3_0 := z3_0
    have s3 : Same H H3 := s2.trans (u3.trans y3)
    have m3 : H p3 = none := s2.free (u3.free n3)
    have R3 : Each (WordP C v) H3 12 ([.ref t0_0, .ref t0_1, .ref t0_2, .ref t0_3] ++ [.ref t1_0, .ref t1_1, .ref t1_2, .ref t1_3] ++ [.ref t2_0, .ref t2_1, .ref t2_2] ++ [.ref t3_0]) := by
      have q := ((R2.mono (WordP.up (u3.trans y3)))).snoc (WordP.up (y3) _ _ r3_0)
      simpa only [List.append_assoc, List.cons_append, List.nil_append] using q
    exact k _ _ _ s3 m3 e3 R3
end
end K14


namespace K14
open PySem L2
theorem Same.sqt {K : PySem.W.Frag} {H H' : Hp} {a : Addr} {xs : List V} (e : Same H H') (h : SqT K H a xs) : SqT K H' a xs := by
  rcases h with (h | ⟨o, h⟩) | h
  · exact .inl (.inl (e _ _ h))
  · exact .inl (.inr ⟨o, e _ _ h⟩)
  · exact .inr h
mutual
theorem dp_mono {K : PySem.W.Frag} {H H' : Hp} (s : Same H H') : ∀ (d : PyData) (v : V), Dp K H v d → Dp K H' v d
  | .none, _, .non => .non
  | .bool _, _, .bl b => .bl b
  | .int _, _, .int i => .int i
  | .str _, _, .str x => .str x
  | .list ds, _, .lst h q => .lst (s.seq h) (dps_mono s ds _ q)
  | .tuple ds, _, .tup h q => .tup (Same.sqt s h) (dps_mono s ds _ q)
theorem dps_mono {K : PySem.W.Frag} {H H' : Hp} (s : Same H H') : ∀ (ds : List PyData) (vs : List V), DpAll K H vs ds → DpAll K H' vs ds
  | [], _, .nil => .nil
  | d :: ds, _, .cons h q => .cons (dp_mono s d _ h) (dps_mono s ds _ q)
end
theorem shw_mono {K : PySem.W.Frag} {H H' : Hp} (s : Same H H') {x : V} {d : PyData} (h : Shw K H x d) : Shw K H' x d := by
  rcases h with ⟨h, n⟩ | ⟨a, e, q, e2⟩
  · exact .inl ⟨dp_mono s d x h, n⟩
  · exact .inr ⟨a, e, s _ _ q, e2⟩
/-- the names of attributes -/
def IsWd (f : Str) : Prop := f = "name" ∨ f = "place" ∨ f = "user" ∨ f = "most" ∨ f = "index" ∨ f = "users" ∨ f = "line"
theorem wd_is : ∀ i, i < 18 → wd i = "" ∨ IsWd (wd i) := by
  have h : ∀ i : Fin 18, wd i.1 = "" ∨ (wd i.1 = "name" ∨ wd i.1 = "place" ∨ wd i.1 = "user" ∨ wd i.1 = "most" ∨ wd i.1 = "index" ∨ wd i.1 = "users" ∨ wd i.1 = "line") := by decide +kernel
  exact fun i hi => h ⟨i, hi⟩
abbrev sHeld : Stmt := top 27
abbrev sRight : Stmt := top 28
abbrev sCaught : Stmt := top 29
/-- the attribute of an error -/
def spHeld (K : PySem.W.Frag) : Sp := fun vs H Q _ => ∃ (a D : Addr) (f : Str) (v : V), vs = [.ref a, .str f] ∧ XV H a D [(f, v)] ∧ XCls K D ∧ PySem.W.findIn K (.ref D) f = some none ∧ IsWd f ∧ Q v H
theorem str_no {x y : Str} {A B : Prop} (h : ¬ x = y) (b : B) : if decide (V.str x = V.str y) = true then A else B := by
  rw [if_neg (fun q => h (V.str.inj (of_decide_eq_true q)))]
  exact b
theorem str_yes {x : Str} {A B : Prop} (b : A) : if decide (V.str x = V.str x) = true then A else B := by
  rw [if_pos (decide_eq_true rfl)]
  exact b
section
variable {P : Program} {w : World} {K : PySem.W.Frag} {mg : Str → Option Value} {base : Heap}
theorem scHeld : FnScope ["_law_error", "_law_word"] ["_law_error", "_law_word"] (defScope sHeld) := ⟨rfl, rfl, rfl, by decide +kernel, rfl, by decide +kernel, by decide +kernel⟩
theorem ok_held {f : Addr} {fd : FuncData} (F : Fun K "_law_held" "_law_held" sHeld f fd) : FnOk P w K mg base CX0 1 f fd ["_law_error", "_law_word"] (spHeld K) := by
  refine F.ok scHeld (fun vs H Q E h => ?_) (fun cdv A outer s H vs Q E hr h => ?_)
  · obtain ⟨a, D, g, v, rfl, _⟩ := h
    rfl
  · obtain ⟨a, D, g, v, rfl, xv, X, no, isw, k⟩ := h
    refine ⟨_, pss_cons (ps_if (pt_cmpR op_eq (pv 1) pe_str (nomark _)) (pss_one (ps_ret (pe_xfld (pv 0)))) pss_nil)
      (pss_cons (ps_if (pt_cmpR op_eq (pv 1) pe_str (nomark _)) (pss_one (ps_ret (pe_xfld (pv 0)))) pss_nil)
      (pss_cons (ps_if (pt_cmpR op_eq (pv 1) pe_str (nomark _)) (pss_one (ps_ret (pe_xfld (pv 0)))) pss_nil)
      (pss_cons (ps_if (pt_cmpR op_eq (pv 1) pe_str (nomark _)) (pss_one (ps_ret (pe_xfld (pv 0)))) pss_nil)
      (pss_cons (ps_if (pt_cmpR op_eq (pv 1) pe_str (nomark _)) (pss_one (ps_ret (pe_xfld (pv 0)))) pss_nil)
      (pss_one (ps_ret (pe_ifExp (pt_cmpR op_eq (pv 1) pe_str (nomark _)) (pe_xfld (pv 0)) (pe_xfld (pv 0))))))))), ?_⟩
    have lk : ∀ f : Str, ([(f, v)] : List (Str × V)).lookup f = some v := fun f => by simp [List.lookup]
    rcases isw with rfl | rfl | rfl | rfl | rfl | rfl | rfl
    · exact ⟨_, rfl, rfl, _, rfl, str_yes ⟨_, rfl, a, D, _, v, rfl, xv, X, no, lk _, k⟩⟩
    · refine ⟨_, rfl, rfl, _, rfl, str_no (by decide +kernel) ?_⟩
      exact ⟨_, rfl, rfl, _, rfl, str_yes ⟨_, rfl, a, D, _, v, rfl, xv, X, no, lk _, k⟩⟩
    · refine ⟨_, rfl, rfl, _, rfl, str_no (by decide +kernel) ?_⟩
      refine ⟨_, rfl, rfl, _, rfl, str_no (by decide +kernel) ?_⟩
      exact ⟨_, rfl, rfl, _, rfl, str_yes ⟨_, rfl, a, D, _, v, rfl, xv, X, no, lk _, k⟩⟩
    · refine ⟨_, rfl, rfl, _, rfl, str_no (by decide +kernel) ?_⟩
      refine ⟨_, rfl, rfl, _, rfl, str_no (by decide +kernel) ?_⟩
      refine ⟨_, rfl, rfl, _, rfl, str_no (by decide +kernel) ?_⟩
      exact ⟨_, rfl, rfl, _, rfl, str_yes ⟨_, rfl, a, D, _, v, rfl, xv, X, no, lk _, k⟩⟩
    · refine ⟨_, rfl, rfl, _, rfl, str_no (by decide +kernel) ?_⟩
      refine ⟨_, rfl, rfl, _, rfl, str_no (by decide +kernel) ?_⟩
      refine ⟨_, rfl, rfl, _, rfl, str_no (by decide +kernel) ?_⟩
      refine ⟨_, rfl, rfl, _, rfl, str_no (by decide +kernel) ?_⟩
      exact ⟨_, rfl, rfl, _, rfl, str_yes ⟨_, rfl, a, D, _, v, rfl, xv, X, no, lk _, k⟩⟩
    · refine ⟨_, rfl, rfl, _, rfl, str_no (by decide +kernel) ?_⟩
      refine ⟨_, rfl, rfl, _, rfl, str_no (by decide +kernel) ?_⟩
      refine ⟨_, rfl, rfl, _, rfl, str_no (by decide +kernel) ?_⟩
      refine ⟨_, rfl, rfl, _, rfl, str_no (by decide +kernel) ?_⟩
      refine ⟨_, rfl, rfl, _, rfl, str_no (by decide +kernel) ?_⟩
      exact ⟨_, rfl, rfl, _, rfl, str_yes ⟨_, rfl, a, D, _, v, rfl, xv, X, no, lk _, k⟩⟩
    · refine ⟨_, rfl, rfl, _, rfl, str_no (by decide +kernel) ?_⟩
      refine ⟨_, rfl, rfl, _, rfl, str_no (by decide +kernel) ?_⟩
      refine ⟨_, rfl, rfl, _, rfl, str_no (by decide +kernel) ?_⟩
      refine ⟨_, rfl, rfl, _, rfl, str_no (by decide +kernel) ?_⟩
      refine ⟨_, rfl, rfl, _, rfl, str_no (by decide +kernel) ?_⟩
      exact ⟨_, rfl, rfl, _, rfl, str_no (by decide +kernel) ⟨_, rfl, a, D, _, v, rfl, xv, X, no, lk _, k⟩⟩
/-- an error of the i-th class with v, v shown as d, is right -/
def spRight (K : PySem.W.Frag) (C : Nat → Addr) : Sp := fun vs H Q _ => ∃ (a : Addr) (i : Nat) (v : V) (d : PyData), vs = [.ref a, .int (i : Int), .str (wd i), v] ∧ i < 18 ∧ XV H a (C i) (fsF (wd i) v) ∧
  Shw K H v d ∧ d.showable = true ∧ d.depth ≤ 60 ∧ d.shown.length ≤ sizeLine ∧ ∀ H', Same H H' → Q (.bl true) H'
def marksD (i : Nat) : List PyData := (List.range 18).map fun j => .bool (decide (i = j))
theorem bools_dp {K : PySem.W.Frag} {H : Hp} (f : Nat → Bool) : ∀ l : List Nat, DpAll K H (l.map fun j => V.bl (f j)) (l.map fun j => PyData.bool (f j))
  | [] => .nil
  | j :: l => .cons (.bl (f j)) (bools_dp f l)
theorem scRight : FnScope ["_law_error", "_law_spot", "_law_word", "_law_what", "_law_at"] ["_law_error", "_law_spot", "_law_word", "_law_what"] (defScope sRight) := ⟨rfl, rfl, rfl, by decide +kernel, rfl, by decide +kernel, by decide +kernel⟩
theorem ok_right {f R fM fH : Addr} {C I : Nat → Addr} {fd fdM fdH : FuncData} (F : Fun K "_law_right" "_law_right" sRight f fd) (N : Nm mg) (T : Cl K mg R C I)
    (FM : Fun K "_law_marks" "_law_marks" sMarks fM fdM) (bM : Binds K fdM ["_law_error"] []) (gM : mg "_law_marks" = some (.ref fM))
    (FH : Fun K "_law_held" "_law_held" sHeld fH fdH) (bH : Binds K fdH ["_law_error", "_law_word"] []) (gH : mg "_law_held" = some (.ref fH)) :
    FnG P w K mg base CX0 2 f fd ["_law_error", "_law_spot", "_law_word", "_law_what"] (spRight K C) := by
  have GM : FnOk P w K mg base CX0 1 fM fdM ["_law_error"] (spMarks C) := ok_marks FM N T
  have GH : FnOk P w K mg base CX0 1 fH fdH ["_law_error", "_law_word"] (spHeld K) := ok_held FH
  refine F.okG scRight (fun vs H Q E h => ?_) (fun cdv A outer s H vs Q E clr hr h => ?_)
  · obtain ⟨a, i, v, d, rfl, _⟩ := h
    rfl
  · obtain ⟨a, i, v, d, rfl, hi, xv, sh, d1, d2, d3, k⟩ := h
    have hr1 : Room 1 _ := hr.mono (by decide)
    refine ⟨_, pss_cons (ps_if (pt_cmpR (op_neD hr.units) (pe_call GM hr1 rfl gM FM.kp bM .nil pass0 (pa_cons (pv 0) pa_nil)) (pe_lc (own := [("_law_at", 4)]) (g := gName 4) (tt := tYes) rfl scRight.nd (pi_range1 rfl N.rng (pa_cons pe_int pa_nil))
        (blkOk_by (N := ["_law_error", "_law_spot", "_law_word", "_law_what", "_law_at"]) (sc := defScope sRight) (by decide +kernel)) (fun _ _ _ _ _ => pg_name (i := 4) scRight.nd rfl (Or.inl rfl)) (fun _ _ _ _ _ => pts_nil) (fun _ _ _ _ _ => pe_cmpR op_eq (pv 4) (pv 1) (nomark _))) (nomark _)) (pss_one (ps_ret pe_bl)) pss_nil)
      (pss_cons (ps_if (PW.pt (pw_or (pt_not (pt_val (pe_callB call_isX (by rfl) N.isi (by decide +kernel) (pa_cons (pv 0) (pa_cons (pe_glob (v := .ref R) rfl T.rt.gR rfl) pa_nil)))))
        (pw_or1 (pt_not (pt_val (pe_callB call_isX (by rfl) N.isi (by decide +kernel) (pa_cons (pv 0) (pa_cons (pe_bltn (v := .ty "ValueError") (by rfl) N.vE PyProof.Rows.Boot.«ValueError» rfl) pa_nil)))))))) (pss_one (ps_ret pe_bl)) pss_nil)
      (pss_one (ps_ret (pe_or (pe_cmpR op_eq (pv 2) pe_str (nomark _)) (pe_one (pe_cmpR op_eq (pe_callB (call_repr clr.deeper hr.units) (by rfl) N.rep (by decide +kernel) (pa_cons (pe_call GH hr1 rfl gH FH.kp bH .nil pass0 (pa_cons (pv 0) (pa_cons (pv 2) pa_nil))) pa_nil))
        (pe_callB (call_repr clr.deeper hr.units) (by rfl) N.rep (by decide +kernel) (pa_cons (pv 3) pa_nil)) (nomark _))))))), ?_⟩
    have X := T.x i hi
    -- the marks; the list that is due
    refine ⟨_, rfl, a, i, _, rfl, hi, xv, fun p H1 s1 n1 e1 => ?_⟩
    refine ⟨18, rfl, by decide, by decide, fun D nD => lc_it (walk_range (lo := 0) (n := 18)) (fun j H' => Same H1 H' ∧ H' D = some (.lst ((List.range j).map fun q => V.bl (decide (i = q))))) ?_ (fun _ _ _ _ => trivial) ?_ ?_⟩
    · exact ⟨same_new nD, upd_same⟩
    · intro j x Ha Hb hj ⟨q1, q2⟩ ⟨e, ex⟩
      subst e
      subst ex
      refine ⟨rfl, ?_⟩
      refine ⟨_, rfl, _, rfl, rfl, _, q2, ?_, ?_⟩
      · rw [List.length_map, List.length_range]
        exact Nat.lt_trans hj (by decide)
      · refine ⟨fun b o e => ?_, ?_⟩
        · rw [upd_ne (ne_of_none e nD)]
          exact q1 b o e
        · rw [upd_same, List.range_succ, List.map_append]
          have e2 : decide (V.int (0 + (j : Int)) = V.int (i : Int)) = decide (i = j) := by
            rw [Bool.eq_iff_iff]
            simp only [decide_eq_true_eq]
            constructor
            · intro q
              have := V.int.inj q
              omega
            · intro q
              rw [q, Int.zero_add]
          rw [e2] <;> rfl
    · intro H2 ⟨s2, e2⟩
      have s12 := s1.trans s2
      refine ⟨.list (marksD i), .list (marksD i), .lst (SqL.of (s2 _ _ e1)) (bools_dp _ _), .lst (SqL.of e2) (bools_dp _ _), ?_, ?_, _, rfl, ?_⟩
      · rfl
      · rfl
      · rw [SeqAt.eqv_refl _ rfl]
        refine iteF ?_
        have xv2 := XV.mono s12 xv
        refine ⟨_, rfl, a, _, _, .ref R, _, true, rfl, .own _, X, xv2, T.kitR i hi, true, rfl, ?_⟩
        refine iteF ?_
        refine ⟨_, rfl, a, _, _, .ty "ValueError", _, true, rfl, .ty _, X, xv2, T.kitV i hi, true, rfl, ?_⟩
        refine iteF ?_
        refine ⟨_, rfl, rfl, _, rfl, ?_⟩
        refine ite2 (fun _ => k _ s12) (fun q => ?_)
        have ne : ¬ wd i = "" := fun z => q (decide_eq_true (by rw [z]))
        have isw : IsWd (wd i) := (wd_is i hi).resolve_left ne
        have ef : fsF (wd i) v = [(wd i, v)] := if_neg ne
        rw [ef] at xv2
        have sh2 := shw_mono s12 sh
        refine ⟨_, rfl, _, rfl, a, _, _, v, rfl, xv2, X, T.no i hi ne, isw, v, d, rfl, sh2, d1, d2, d3, ?_⟩
        refine ⟨_, rfl, v, d, rfl, sh2, d1, d2, d3, ?_⟩
        refine ⟨rfl, ?_⟩
        rw [decide_eq_true rfl]
        exact k _ s12
end
end K14


namespace K14
open PySem L2
/-- what the two except clauses name -/
structure Ct (K : PySem.W.Frag) (R : Addr) (C : Nat → Addr) : Prop where
  e3 : PySem.W.exmOne K (.ref (C 3)) (.ref (C 3)) = some true
  e1 : PySem.W.exmOne K (.ref (C 1)) (.ref R) = some true
def spCaught : Sp := fun vs H Q _ => ∃ v : V, vs = [v] ∧ ∀ H', Same H H' → Q (.int 2) H'
theorem flown {H H2 : Hp} {a d C : Addr} {o : HO} {fs : List (Str × V)} (na : H a = none) (nd : H d = none) (e : H2 = upd (upd (upd H a o) d (exd d fs)) a (exo a C (some d))) : Same H (upd (del H2 a) d (.xd fs)) := by
  intro b u q
  have ba : b ≠ a := ne_of_none q na
  have bd : b ≠ d := ne_of_none q nd
  rw [upd_ne bd, del_ne ba, e, upd_ne ba, upd_ne bd, upd_ne ba]
  exact q
theorem never_out {X : Cx} : Takes X (fun _ _ _ _ => False) := fun u s' z => let ⟨_, _, _, _, _, _, _, _, _, _, _, _, _, _, _, _, no⟩ := z; no.elim
section
variable {P : Program} {w : World} {K : PySem.W.Frag} {mg : Str → Option Value} {base : Heap}
theorem mko {C : Addr} {f : Str} {v : V} {σ : St} {H : Hp} {Q : XK} (h0 : σ[0]? = some (some v)) (k : ∀ d H', Same H H' → Q (.ref C) (some d) H') : tMkO C (spI1 f C) [] (tCons (tVar 0) tNil) σ H Q := by
  refine ⟨v, h0, by show 1 ≤ 1000; decide, fun a na => ⟨a, v, rfl, upd_same, fun dx nd ne => ⟨rfl, dx, [(f, v)], upd_same, ?_, ?_, k dx _ ?_⟩⟩⟩
  · rw [upd_ne ne, upd_same]
  · rw [upd_ne ne] at nd
    exact nd
  · rw [upd_ne ne] at nd
    exact flown na nd rfl
theorem scCaught : FnScope ["_law_what", "_law_found"] ["_law_what"] (defScope sCaught) := ⟨rfl, rfl, rfl, by decide +kernel, rfl, by decide +kernel, by decide +kernel⟩
theorem ok_caught {f R : Addr} {C I : Nat → Addr} {D : Nat → FuncData} {fd : FuncData} (F : Fun K "_law_caught" "_law_caught" sCaught f fd) (T : Cl K mg R C I) (J : Inits P w K mg base C I D) (c : Ct K R C) : FnOk P w K mg base CX0 3 f fd ["_law_what"] spCaught := by
  refine F.ok scCaught (fun vs H Q E h => ?_) (fun cdv A outer s H vs Q E hr h => ?_)
  · obtain ⟨v, rfl, _⟩ := h
    rfl
  · obtain ⟨v, rfl, k⟩ := h
    have hr2 : Room (1 + 1) _ := hr.mono (by decide)
    refine ⟨_, pss_cons (ps_set (i := 1) scCaught.nd rfl (.inl rfl) pe_int)
      (pss_cons (ps_try_only (tb := fun W => tSeq (fun _ σ H => tMkO (C 3) (spI1 "place" (C 3)) [] (tCons (tVar 0) tNil) σ H fun cls d H' => W cls d σ H') tNext) (ts := fun _ _ _ => tAsg (tOp rAdd (tVar 1) (tC (.int 1))) (gName 1)) (Wout := fun _ _ _ _ => False) rfl rfl ⟨rfl, by decide, .inl (T.g 3 (by decide))⟩ never_out
        (fun W pn xe tk _ => pss_one (ps_raise rfl tk (pmk_oex (T.x 3 (by decide)).oex (T.ini 3 (by decide)) (T.ity 3 (by decide)) J.g3 hr2 J.b3 .nil pass0 rfl (T.g 3 (by decide)) (pa_cons (pv 0) pa_nil))))
        (fun a oe cls d pn _ _ => pss_one (ps_set (i := 1) scCaught.nd rfl (.inl rfl) (pe_op op_add (pv 1) pe_int))))
      (pss_cons (ps_try_only (tb := fun W => tSeq (fun _ σ H => tMkO (C 1) (spI1 "name" (C 1)) [] (tCons (tVar 0) tNil) σ H fun cls d H' => W cls d σ H') tNext) (ts := fun _ _ _ => tAsg (tOp rAdd (tVar 1) (tC (.int 1))) (gName 1)) (Wout := fun _ _ _ _ => False) rfl rfl ⟨rfl, by decide, .inl T.rt.gR⟩ never_out
        (fun W pn xe tk _ => pss_one (ps_raise rfl tk (pmk_oex (T.x 1 (by decide)).oex (T.ini 1 (by decide)) (T.ity 1 (by decide)) J.g1 hr2 J.b1 .nil pass0 rfl (T.g 1 (by decide)) (pa_cons (pv 0) pa_nil))))
        (fun a oe cls d pn _ _ => pss_one (ps_set (i := 1) scCaught.nd rfl (.inl rfl) (pe_op op_add (pv 1) pe_int))))
      (pss_one (ps_ret (pv 1))))), ?_⟩
    dsimp only [tSeq, tAsg, tC, gName]
    refine mko (v := v) (by rfl) fun d1 H1 s1 => ⟨true, c.e3, fun _ a1 n1 => ?_, fun z => nomatch z⟩
    refine ⟨_, rfl, _, _, rfl, rfl, ?_⟩
    dsimp only [tSeq, tAsg, tC, gName]
    refine mko (v := v) (by rfl) fun d2 H2 s2 => ⟨true, c.e1, fun _ a2 n2 => ?_, fun z => nomatch z⟩
    refine ⟨_, rfl, _, _, rfl, rfl, ?_⟩
    exact ⟨_, rfl, k _ (s1.trans s2)⟩
end
end K14


namespace K14
open PySem L2
abbrev sLaw : Stmt := top 30
theorem DrawAt.mono {H H' : Hp} {d c : Addr} (s : Same H H') (x : DrawAt H d c) : DrawAt H' d c := by
  obtain ⟨nx, mx, tn, cells, h1, h2, r⟩ := x
  exact ⟨nx, mx, tn, cells, s _ _ h1, s _ _ h2, r⟩
/-- a value that may be an error's attribute here -/
def OkW (K : PySem.W.Frag) (H : Hp) (x : V) : Prop := ∃ d : PyData, Shw K H x d ∧ d.showable = true ∧ d.depth ≤ 60 ∧ d.shown.length ≤ sizeLine
theorem OkW.mono {K : PySem.W.Frag} {H H' : Hp} {x : V} (s : Same H H') (h : OkW K H x) : OkW K H' x := let ⟨d, q, r⟩ := h; ⟨d, shw_mono s q, r⟩
theorem ok_int {K : PySem.W.Frag} {H : Hp} {k : Int} (h0 : 0 ≤ k) (h1 : k < 100) : OkW K H (.int k) := by
  have all : ∀ i : Fin 100, (PyData.int (i.1 : Int)).showable = true ∧ (PyData.int (i.1 : Int)).depth ≤ 60 ∧ (PyData.int (i.1 : Int)).shown.length ≤ sizeLine := by decide +kernel
  have e : ((k.toNat : Nat) : Int) = k := by omega
  have q := all ⟨k.toNat, by omega⟩
  rw [show (((⟨k.toNat, by omega⟩ : Fin 100).1 : Nat) : Int) = k from e] at q
  exact ⟨.int k, .inl ⟨.int k, rfl⟩, q⟩
/-- the number of named attributes among the first i classes -/
def cnt (i : Nat) : Nat := ((List.range i).filter fun k => decide (wd k ≠ "")).length
theorem cnt_step (i : Nat) (hi : i < 18) : (wd i ≠ "" → ix (cnt i) = i ∧ cnt (i + 1) = cnt i + 1) ∧ (wd i = "" → cnt (i + 1) = cnt i) := by
  have all : ∀ i : Fin 18, (wd i.1 ≠ "" → ix (cnt i.1) = i.1 ∧ cnt (i.1 + 1) = cnt i.1 + 1) ∧ (wd i.1 = "" → cnt (i.1 + 1) = cnt i.1) := by decide +kernel
  exact all ⟨i, hi⟩
theorem ix_ok (j : Nat) (hj : j < 12) : ix j < 18 ∧ wd (ix j) ≠ "" := by
  have all : ∀ j : Fin 12, ix j.1 < 18 ∧ wd (ix j.1) ≠ "" := by decide +kernel
  exact all ⟨j, hj⟩
theorem cnt_le (i : Nat) : cnt i ≤ i := by
  unfold cnt
  exact Nat.le_trans (List.length_filter_le _ _) (Nat.le_of_eq List.length_range)
/-- the pair (class's place, attribute's name) -/
def PrP : Hp → Nat → Addr → Prop := fun H j b => H b = some (.tup [.int (ix j : Int), .str (wd (ix j))])
theorem PrP.up {H H' : Hp} (s : Same H H') : ∀ j b, PrP H j b → PrP H' j b := fun _ _ q => s _ _ q
theorem Each.get {Pd : Hp → Nat → Addr → Prop} {H : Hp} {n j : Nat} {l : List V} (e : Each Pd H n l) (hj : j < n) : ∃ b, l[j]? = some (.ref b) ∧ Pd H j b := by
  have hl : j < l.length := by rw [e.1]; exact hj
  obtain ⟨b, q1, q2⟩ := e.2 j l[j] (List.getElem?_eq_getElem hl)
  exact ⟨b, by rw [List.getElem?_eq_getElem hl, q1], q2⟩
theorem PrP.push {H : Hp} {D : Addr} {m : List V} {o : HO} (e : H D = some (.lst m)) : ∀ j b, PrP H j b → PrP (upd H D o) j b := fun j b q => by
  have q' : H b = some (.tup [.int (ix j : Int), .str (wd (ix j))]) := q
  have ne : b ≠ D := fun z => by
    rw [z, e] at q'
    cases q'
  show upd H D o b = _
  rw [upd_ne ne]
  exact q'
def spLaw (K : PySem.W.Frag) : Sp := fun vs H Q _ => ∃ (a : Addr) (ns : List Int), vs = [.ref a] ∧ SqL K H a (ns.map V.int) ∧ ns.length ≤ 63 ∧ ∀ H', Q (.bl true) H'
/-- a new address is apart from the state -/
theorem DrawAt.apart {H : Hp} {d c p : Addr} (x : DrawAt H d c) (n : H p = none) : p ≠ d ∧ p ≠ c := by
  obtain ⟨nx, mx, tn, cells, h1, h2, r⟩ := x
  exact ⟨(ne_of_none h1 n).symm, (ne_of_none h2 n).symm⟩
def tChoice (K : PySem.W.Frag) : TE := tCall (spPick K) [] E0 (tCons (tVar 1) (tCons (tLst (tCons (tC (.str "a")) (tCons (tC (.str "")) (tCons (tC .non) (tCons (tC (.int 0)) (tCons (tCall spTake [] E0 (tCons (tVar 1) (tCons (tC (.int 100)) tNil)))
  (tCons (tC (.bl true)) (tCons (tTup (tCons (tC (.int 0)) (tCons (tC (.int 3)) tNil))) (tCons (tLst (tCons (tC (.int 1)) tNil)) (tCons tDNewK (tCons (tTup (tCons (tC (.str "a")) (tCons (tC .non) tNil))) (tCons (tUn (rU fun i => .int (-i)) (tC (.int 1))) tNil)))))))))))) tNil))
theorem choice_ok {K : PySem.W.Frag} {σ : St} {H : Hp} {d c : Addr} {Q : VK} (h1 : σ[1]? = some (some (.ref d))) (dr : DrawAt H d c) (k : ∀ x H', OkW K H' x → DrawAt H' d c → Q x H') : tChoice K σ H Q := by
  refine ⟨.ref d, h1, .ref d, h1, d, c, 100, rfl, dr, by decide, by decide, fun z H1 z0 z1 dr1 off => ?_⟩
  refine ⟨by show 2 ≤ sizeLine; decide, fun p1 n1 => ?_⟩
  obtain ⟨H2, e2⟩ : ∃ X, X = upd H1 p1 (.tup [.int 0, .int 3]) := ⟨_, rfl⟩
  rw [← e2]
  refine ⟨by show 1 ≤ sizeLine; decide, fun p2 n2 => ?_⟩
  obtain ⟨H3, e3⟩ : ∃ X, X = upd H2 p2 (.lst [.int 1]) := ⟨_, rfl⟩
  rw [← e3]
  intro p3 n3
  obtain ⟨H4, e4⟩ : ∃ X, X = upd H3 p3 (.dK []) := ⟨_, rfl⟩
  rw [← e4]
  refine ⟨by show 2 ≤ sizeLine; decide, fun p4 n4 => ?_⟩
  obtain ⟨H5, e5⟩ : ∃ X, X = upd H4 p4 (.tup [.str "a", .non]) := ⟨_, rfl⟩
  rw [← e5]
  refine ⟨1, rfl, by show 11 ≤ sizeLine; decide, fun l nl => ?_⟩
  obtain ⟨H6, e6⟩ : ∃ X, X = upd H5 l (.lst [.str "a", .str "", .non, .int 0, .int z, .bl true, .ref p1, .ref p2, .ref p3, .ref p4, .int (-1)]) := ⟨_, rfl⟩
  have s2 : Same H1 H2 := e2 ▸ same_new n1
  have s3 : Same H2 H3 := e3 ▸ same_new n2
  have s4 : Same H3 H4 := e4 ▸ same_new n3
  have s5 : Same H4 H5 := e5 ▸ same_new n4
  have s6 : Same H5 H6 := e6 ▸ same_new nl
  have dr2 := dr1.mono s2
  have dr3 := dr2.mono s3
  have dr4 := dr3.mono s4
  have dr5 := dr4.mono s5
  have dr6 := dr5.mono s6
  have at1 : H6 p1 = some (.tup [.int 0, .int 3]) := s6 _ _ (s5 _ _ (s4 _ _ (s3 _ _ (by rw [e2]; exact upd_same))))
  have at2 : H6 p2 = some (.lst [.int 1]) := s6 _ _ (s5 _ _ (s4 _ _ (by rw [e3]; exact upd_same)))
  have at3 : H6 p3 = some (.dK []) := s6 _ _ (s5 _ _ (by rw [e4]; exact upd_same))
  have at4 : H6 p4 = some (.tup [.str "a", .non]) := s6 _ _ (by rw [e5]; exact upd_same)
  obtain ⟨l1, l2⟩ := dr5.apart nl
  refine ⟨d, c, l, [.str "a", .str "", .non, .int 0, .int z, .bl true, .ref p1, .ref p2, .ref p3, .ref p4, .int (-1)], rfl, e6 ▸ dr6, upd_same, l1, l2, by show 0 < 11; decide, by show 11 < 1000; decide, fun i x H' hx dr' off' => k x H' ?_ dr'⟩
  rw [← e6] at off'
  have hm := List.mem_of_getElem? hx
  simp only [List.mem_cons, List.not_mem_nil, or_false] at hm
  rcases hm with rfl | rfl | rfl | rfl | rfl | rfl | rfl | rfl | rfl | rfl | rfl
  · exact ⟨.str "a", .inl ⟨.str _, rfl⟩, by decide +kernel⟩
  · exact ⟨.str "", .inl ⟨.str _, rfl⟩, by decide +kernel⟩
  · exact ⟨.none, .inl ⟨.non, rfl⟩, by decide +kernel⟩
  · exact ⟨.int 0, .inl ⟨.int _, rfl⟩, by decide +kernel⟩
  · exact ok_int z0 z1
  · exact ⟨.bool true, .inl ⟨.bl _, rfl⟩, by decide +kernel⟩
  · obtain ⟨a1, a2⟩ := dr1.apart n1
    exact ⟨.tuple [.int 0, .int 3], .inl ⟨.tup (.inl (.inl ((off' p1 a1 a2).trans at1))) (.cons (.int _) (.cons (.int _) .nil)), rfl⟩, by decide +kernel⟩
  · obtain ⟨a1, a2⟩ := dr2.apart n2
    exact ⟨.list [.int 1], .inl ⟨.lst (SqL.of ((off' p2 a1 a2).trans at2)) (.cons (.int _) .nil), rfl⟩, by decide +kernel⟩
  · obtain ⟨a1, a2⟩ := dr3.apart n3
    exact ⟨.dict [], .inr ⟨p3, rfl, (off' p3 a1 a2).trans at3, rfl⟩, by decide +kernel⟩
  · obtain ⟨a1, a2⟩ := dr4.apart n4
    exact ⟨.tuple [.str "a", .none], .inl ⟨.tup (.inl (.inl ((off' p4 a1 a2).trans at4))) (.cons (.str _) (.cons .non .nil)), rfl⟩, by decide +kernel⟩
  · exact ⟨.int (-1), .inl ⟨.int _, rfl⟩, by decide +kernel⟩
def tIx (K : PySem.W.Frag) (i : Nat) (n : Int) : TE := tOp (rIxT K) (tVar i) (tC (.int n))
def tIfRight (K : PySem.W.Frag) (C : Nat → Addr) (te ts tw : TE) : TS := tIfS (tNot (tB (tCall (spRight K C) [] E0 (tCons te (tCons ts (tCons tw (tCons (tVar 3) tNil))))))) (tRet (tC (.bl false))) tNext
def tRowsFor (K : PySem.W.Frag) (C : Nat → Addr) : TS := tFor (iEnum K (tCons (tVar 4) tNil)) (gTup K 2 (gCons (gName 5) (gCons (gName 6) gNil))) (tIfRight K C (tIx K 6 0) (tVar 5) (tIx K 6 1))
theorem rowsFor_ok {K : PySem.W.Frag} {C : Nat → Addr} {D : Ends} {H : Hp} {v0 v1 v2 v5 v6 v7 v8 v9 : Option V} {x : V} {pr : Addr} {l : List V} (hl : H pr = some (.lst l)) (R : Each (RowP C x) H 18 l) (ok : OkW K H x)
    (nx : ∀ v5 v6 H', Same H H' → D.nx [v0, v1, v2, some x, some (.ref pr), v5, v6, v7, v8, v9] H') : tRowsFor K C D [v0, v1, v2, some x, some (.ref pr), v5, v6, v7, v8, v9] H := by
  refine ⟨_, rfl, pr, l, rfl, SqL.of hl, ?_⟩
  refine for_it walk_enum (fun j σ' H' => (∃ u5 u6, σ' = [v0, v1, v2, some x, some (.ref pr), u5, u6, v7, v8, v9]) ∧ Same H H') ⟨⟨_, _, rfl⟩, fun _ _ e => e⟩ (fun j σ' H' _ q => q.2.seq (SqL.of hl)) ?_ ?_
  · intro j T σ' Ha Hb hj ⟨⟨u5, u6, e⟩, q⟩ ⟨T', y, z, eT, nT, eH, ey, ez⟩
    subst e
    subst eT
    subst eH
    cases ey
    rw [R.1] at hj
    obtain ⟨b, q1, a, ea, xv⟩ := R.get hj
    cases q1.symm.trans ez
    have sb : Same H (upd Ha T' (.tup [.int (j : Int), .ref b])) := q.trans (same_new nT)
    have tb : SqT K (upd Ha T' (.tup [.int (j : Int), .ref b])) b [.ref a, .str (wd j)] := .inl (.inl (sb _ _ ea))
    refine ⟨T', _, rfl, .inl (.inl upd_same), rfl, ?_⟩
    refine ⟨_, _, rfl, _, _, rfl, rfl, ?_⟩
    refine ⟨_, rfl, b, _, 0, .ref a, rfl, rfl, tb, rfl, ?_⟩
    refine ⟨_, rfl, ?_⟩
    refine ⟨_, rfl, b, _, 1, .str (wd j), rfl, rfl, tb, rfl, ?_⟩
    refine ⟨_, rfl, ?_⟩
    obtain ⟨dd, o1, o2, o3, o4⟩ := ok.mono sb
    refine ⟨a, j, x, dd, rfl, hj, XV.mono sb xv, o1, o2, o3, o4, fun H' s' => ?_⟩
    refine ⟨true, rfl, ?_⟩
    exact iteF ⟨⟨_, _, rfl⟩, sb.trans s'⟩
  · intro σ' H' ⟨⟨u5, u6, e⟩, q⟩
    subst e
    exact nx _ _ _ q
def tWordsLc (K : PySem.W.Frag) : TE := tLc (iEnum K (tCons (tVar 4) tNil)) (gTup K 2 (gCons (gName 5) (gCons (gName 6) gNil))) (tTest (tOp rNe (tIx K 6 1) (tC (.str "")))) (tTup (tCons (tVar 5) (tCons (tIx K 6 1) tNil))) [5, 6]
theorem wordsLc_ok {K : PySem.W.Frag} {C : Nat → Addr} {H : Hp} {v0 v1 v2 v3 v5 v6 v7 v8 v9 : Option V} {x : V} {pr : Addr} {l : List V} {Q : VK} (hl : H pr = some (.lst l)) (R : Each (RowP C x) H 18 l)
    (k : ∀ p H' m, Same H H' → H' p = some (.lst m) → Each PrP H' 12 m → Q (.ref p) H') : tWordsLc K [v0, v1, v2, v3, some (.ref pr), v5, v6, v7, v8, v9] H Q := by
  refine ⟨_, rfl, pr, l, rfl, SqL.of hl, fun D nD => lc_it walk_enum (fun i H' => Same H H' ∧ ∃ m, H' D = some (.lst m) ∧ Each PrP H' (cnt i) m) ⟨same_new nD, [], upd_same, Each.nil⟩ (fun i H' _ q => q.1.seq (SqL.of hl)) ?_ ?_⟩
  · intro j T Ha Hb hj ⟨q, m, em, pm⟩ ⟨T', y, z, eT, nT, eH, ey, ez⟩
    subst eT
    subst eH
    cases ey
    rw [R.1] at hj
    obtain ⟨b, q1, a, ea, xv⟩ := R.get hj
    cases q1.symm.trans ez
    have s1 : Same Ha (upd Ha T' (.tup [.int (j : Int), .ref b])) := same_new nT
    have sb := q.trans s1
    have tb : SqT K (upd Ha T' (.tup [.int (j : Int), .ref b])) b [.ref a, .str (wd j)] := .inl (.inl (sb _ _ ea))
    refine ⟨T', _, rfl, .inl (.inl upd_same), rfl, ?_⟩
    refine ⟨_, _, rfl, _, _, rfl, rfl, ?_⟩
    refine ⟨rfl, ?_⟩
    refine ⟨_, rfl, b, _, 1, .str (wd j), rfl, rfl, tb, rfl, rfl, _, rfl, ?_⟩
    obtain ⟨c1, c2⟩ := cnt_step j hj
    by_cases hw : wd j = ""
    · have e0 : (!decide (V.str (wd j) = V.str "")) = false := by rw [hw]; rfl
      rw [e0]
      refine iteF ⟨sb, m, s1 _ _ em, ?_⟩
      rw [c2 hw]
      exact pm.mono (PrP.up s1)
    · have e0 : (!decide (V.str (wd j) = V.str "")) = true := by
        rw [decide_eq_false (fun z => hw (V.str.inj z))] <;> rfl
      rw [e0]
      obtain ⟨c3, c4⟩ := c1 hw
      rw [if_pos rfl]
      refine ⟨_, rfl, _, rfl, b, _, 1, .str (wd j), rfl, rfl, tb, rfl, by show 2 ≤ sizeLine; decide, fun t nt => ?_⟩
      have s2 := same_new (o := .tup [.int (j : Int), .str (wd j)]) nt
      have s12 := s1.trans s2
      refine ⟨m, s12 _ _ em, ?_, ?_⟩
      · rw [pm.1]
        exact Nat.lt_of_le_of_lt (Nat.le_trans (cnt_le j) (Nat.le_of_lt hj)) (by decide)
      · have nD' : ∀ b o, H b = some o → b ≠ D := fun b o e => ne_of_none e nD
        refine ⟨fun b o e => ?_, m ++ [.ref t], upd_same, ?_⟩
        · rw [upd_ne (nD' b o e)]
          exact (q.trans s12) b o e
        · have eD := s12 _ _ em
          have tD : t ≠ D := (ne_of_none (s1 _ _ em) nt).symm
          have last : PrP (upd (upd (upd Ha T' (.tup [.int (j : Int), .ref b])) t (.tup [.int (j : Int), .str (wd j)])) D (.lst (m ++ [.ref t]))) (cnt j) t := by
            show upd _ D _ t = _
            rw [upd_ne tD, upd_same, c3]
          rw [c4]
          exact ((pm.mono (PrP.up s12)).mono (PrP.push eD)).snoc last
  · intro H' ⟨q, m, em, pm⟩
    rw [R.1] at pm
    exact k D H' m q em pm
def tWordsFor (K : PySem.W.Frag) (C : Nat → Addr) : TS := tFor (iZip K (tCons (tVar 7) (tCons (tCall (spWords C) [] E0 (tCons (tVar 3) tNil)) tNil))) (gTup K 2 (gCons (gName 8) (gCons (gName 9) gNil))) (tIfRight K C (tVar 9) (tIx K 8 0) (tIx K 8 1))
theorem wordsFor_ok {K : PySem.W.Frag} {C : Nat → Addr} {D : Ends} {H : Hp} {v0 v1 v2 v4 v5 v6 v8 v9 : Option V} {x : V} {pw : Addr} {m : List V} (hm : H pw = some (.lst m)) (R : Each PrP H 12 m) (ok : OkW K H x)
    (nx : ∀ v8 v9 H', Same H H' → D.nx [v0, v1, v2, some x, v4, v5, v6, some (.ref pw), v8, v9] H') : tWordsFor K C D [v0, v1, v2, some x, v4, v5, v6, some (.ref pw), v8, v9] H := by
  refine ⟨_, rfl, _, rfl, x, rfl, fun p Hw l sw nw ew Ew => ?_⟩
  refine ⟨pw, p, m, l, rfl, SqL.of (sw _ _ hm), SqL.of ew, ?_⟩
  refine for_it (walk_zip (n := 12) (by rw [R.1, Ew.1]; rfl)) (fun j σ' H' => (∃ u8 u9, σ' = [v0, v1, v2, some x, v4, v5, v6, some (.ref pw), u8, u9]) ∧ Same Hw H') ⟨⟨_, _, rfl⟩, fun _ _ e => e⟩
    (fun j σ' H' _ q => ⟨q.2.seq (SqL.of (sw _ _ hm)), q.2.seq (SqL.of ew)⟩) ?_ ?_
  · intro j T σ' Ha Hb hj ⟨⟨u8, u9, e⟩, q⟩ ⟨T', y, z, eT, nT, eH, ey, ez⟩
    subst e
    subst eT
    subst eH
    obtain ⟨b, q1, ea⟩ := R.get hj
    cases q1.symm.trans ey
    obtain ⟨a, q2, xv⟩ := Ew.get hj
    cases q2.symm.trans ez
    obtain ⟨i18, hw⟩ := ix_ok j hj
    have sb : Same Hw (upd Ha T' (.tup [.ref b, .ref a])) := q.trans (same_new nT)
    have ea' : H b = some (.tup [.int (ix j : Int), .str (wd (ix j))]) := ea
    have tb : SqT K (upd Ha T' (.tup [.ref b, .ref a])) b [.int (ix j : Int), .str (wd (ix j))] := .inl (.inl (sb _ _ (sw _ _ ea')))
    refine ⟨T', _, rfl, .inl (.inl upd_same), rfl, ?_⟩
    refine ⟨_, _, rfl, _, _, rfl, rfl, ?_⟩
    refine ⟨_, rfl, ?_⟩
    refine ⟨_, rfl, b, _, 0, .int (ix j : Int), rfl, rfl, tb, rfl, ?_⟩
    refine ⟨_, rfl, b, _, 1, .str (wd (ix j)), rfl, rfl, tb, rfl, ?_⟩
    refine ⟨_, rfl, ?_⟩
    obtain ⟨dd, o1, o2, o3, o4⟩ := ok.mono (sw.trans sb)
    have xv' : XV Hw a (C (ix j)) (fsF (wd (ix j)) x) := by
      unfold fsF
      rw [if_neg hw]
      exact xv
    refine ⟨a, ix j, x, dd, rfl, i18, XV.mono sb xv', o1, o2, o3, o4, fun H' s' => ?_⟩
    refine ⟨true, rfl, ?_⟩
    exact iteF ⟨⟨_, _, rfl⟩, sb.trans s'⟩
  · intro σ' H' ⟨⟨u8, u9, e⟩, q⟩
    subst e
    exact nx _ _ _ (sw.trans q)
/-- one turn -/
def tTurn (K : PySem.W.Frag) (C : Nat → Addr) : TS := tSeq (tAsg (tChoice K) (gName 3)) (tSeq (tAsg (tCall (spRows C) [] E0 (tCons (tVar 3) tNil)) (gName 4)) (tSeq (tRowsFor K C) (tSeq (tAsg (tWordsLc K) (gName 7)) (tSeq (tWordsFor K C)
  (tIfS (tTest (tOp rNe (tCall spCaught [] E0 (tCons (tVar 3) tNil)) (tC (.int 2)))) (tRet (tC (.bl false))) tNext)))))
theorem turn_ok {K : PySem.W.Frag} {C : Nat → Addr} {D : Ends} {H : Hp} {v0 v2 v3 v4 v5 v6 v7 v8 v9 : Option V} {d c : Addr} (dr : DrawAt H d c) (nx : ∀ v3 v4 v5 v6 v7 v8 v9 H', DrawAt H' d c → D.nx [v0, some (.ref d), v2, v3, v4, v5, v6, v7, v8, v9] H') :
    tTurn K C D [v0, some (.ref d), v2, v3, v4, v5, v6, v7, v8, v9] H := by
  dsimp only [tTurn, tSeq, tAsg]
  refine choice_ok (d := d) (c := c) (by rfl) dr fun x H1 ok1 dr1 => ?_
  refine ⟨_, rfl, x, rfl, fun pr H2 l s2 n2 e2 R2 => ?_⟩
  refine rowsFor_ok e2 R2 (ok1.mono s2) fun u5 u6 H3 s3 => ?_
  dsimp only [tSeq, tAsg]
  refine wordsLc_ok (s3 _ _ e2) (R2.mono (RowP.up s3)) fun pw H4 m s4 e4 R4 => ?_
  dsimp only [gName, tSeq]
  refine wordsFor_ok e4 R4 (ok1.mono (s2.trans (s3.trans s4))) fun u8 u9 H5 s5 => ?_
  refine ⟨_, rfl, x, rfl, fun H6 s6 => ?_⟩
  refine ⟨rfl, _, rfl, ?_⟩
  refine iteF ?_
  exact nx _ _ _ _ _ _ _ _ (dr1.mono (s2.trans (s3.trans (s4.trans (s5.trans s6)))))
def tLaw (K : PySem.W.Frag) (C : Nat → Addr) : TS := tSeq (tAsg (tCall (spBegin K) [] E0 (tCons (tVar 0) tNil)) (gName 1))
  (tSeq (tFor (iRng1 (tCons (tOp rAdd (tC (.int 3)) (tCB (fun xs H Q => ∃ i j, xs = [.int i, .int j] ∧ Q (.int (if j < i then j else i)) H) (tCons (tCB (fun xs H Q => ∃ p ys, xs = [.ref p] ∧ (SqL K H p ys ∨ SqT K H p ys) ∧ Q (.int ys.length) H) (tCons (tVar 0) tNil)) (tCons (tC (.int 10)) tNil)))) tNil)) (gName 2) (tTurn K C))
  (tRet (tC (.bl true))))
theorem law_ok {K : PySem.W.Frag} {C : Nat → Addr} {D : Ends} {H : Hp} {a : Addr} {ns : List Int} {v1 v2 v3 v4 v5 v6 v7 v8 v9 : Option V} (hS : SqL K H a (ns.map V.int)) (few : ns.length ≤ 63) (k : ∀ H', D.rt (.bl true) H') : tLaw K C D [some (.ref a), v1, v2, v3, v4, v5, v6, v7, v8, v9] H := by
  dsimp only [tLaw, tSeq, tAsg]
  refine ⟨_, rfl, a, ns, rfl, hS, few, fun H1 d c s1 nd nc dr => ?_⟩
  refine ⟨_, rfl, a, _, rfl, .inl (s1.seq hS), _, _, rfl, _, _, rfl, rfl, ?_⟩
  obtain ⟨n, hn⟩ : ∃ n : Int, n = 3 + (if (10 : Int) < ((ns.map V.int).length : Int) then 10 else ((ns.map V.int).length : Int)) := ⟨_, rfl⟩
  have b0 : 0 ≤ n ∧ n ≤ 100 := by
    rw [hn]
    split <;> omega
  refine ⟨n, by rw [hn] <;> rfl, by omega, by omega, ?_⟩
  refine for_it (walk_range (lo := 0) (n := n.toNat)) (fun j σ' H' => (∃ u2 u3 u4 u5 u6 u7 u8 u9, σ' = [some (.ref a), some (.ref d), u2, u3, u4, u5, u6, u7, u8, u9]) ∧ DrawAt H' d c) ⟨⟨_, _, _, _, _, _, _, _, rfl⟩, dr⟩ (fun _ _ _ _ _ => trivial) ?_ ?_
  · intro j x σ' Ha Hb hj ⟨⟨u2, u3, u4, u5, u6, u7, u8, u9, e⟩, q⟩ ⟨e1, e2⟩
    subst e
    subst e1
    subst e2
    exact turn_ok (c := c) q fun _ _ _ _ _ _ _ H' q' => ⟨⟨_, _, _, _, _, _, _, _, rfl⟩, q'⟩
  · intro σ' H' _
    exact k H'
section
variable {P : Program} {w : World} {K : PySem.W.Frag} {mg : Str → Option Value} {base : Heap}
theorem scLaw : FnScope ["_law_script", "_law_draw", "_law_turn", "_law_what", "_law_rows", "_law_spot", "_law_row", "_law_words", "_law_pair", "_law_error"] ["_law_script"] (defScope sLaw) := ⟨rfl, rfl, rfl, by decide +kernel, rfl, by decide +kernel, by decide +kernel⟩
/-- the law's helpers as they stand behind the top -/
structure Lw (P : Program) (w : World) (K : PySem.W.Frag) (mg : Str → Option Value) (base : Heap) (C : Nat → Addr) (F : Nat → Addr) (D : Nat → FuncData) : Prop where
  bg : FnOk P w K mg base CX0 1 (F 0) (D 0) ["_law_script"] (spBegin K)
  bgk : PySem.W.keepIn K (.ref (F 0)) = true
  bgb : Binds K (D 0) ["_law_script"] []
  bgm : mg "_law_begin" = some (.ref (F 0))
  tk : FnOk P w K mg base CX0 1 (F 1) (D 1) ["_law_draw", "_law_size"] spTake
  tkk : PySem.W.keepIn K (.ref (F 1)) = true
  tkb : Binds K (D 1) ["_law_draw", "_law_size"] []
  tkm : mg "_law_take" = some (.ref (F 1))
  pk : FnOk P w K mg base CX0 2 (F 2) (D 2) ["_law_draw", "_law_some"] (spPick K)
  pkk : PySem.W.keepIn K (.ref (F 2)) = true
  pkb : Binds K (D 2) ["_law_draw", "_law_some"] []
  pkm : mg "_law_pick" = some (.ref (F 2))
  rw_ : FnOk P w K mg base CX0 3 (F 3) (D 3) ["_law_what"] (spRows C)
  rwk : PySem.W.keepIn K (.ref (F 3)) = true
  rwb : Binds K (D 3) ["_law_what"] []
  rwm : mg "_law_by_place" = some (.ref (F 3))
  wo : FnOk P w K mg base CX0 3 (F 4) (D 4) ["_law_what"] (spWords C)
  wok : PySem.W.keepIn K (.ref (F 4)) = true
  wob : Binds K (D 4) ["_law_what"] []
  wom : mg "_law_by_word" = some (.ref (F 4))
  rt : FnG P w K mg base CX0 2 (F 5) (D 5) ["_law_error", "_law_spot", "_law_word", "_law_what"] (spRight K C)
  rtk : PySem.W.keepIn K (.ref (F 5)) = true
  rtb : Binds K (D 5) ["_law_error", "_law_spot", "_law_word", "_law_what"] []
  rtm : mg "_law_right" = some (.ref (F 5))
  ca : FnOk P w K mg base CX0 3 (F 6) (D 6) ["_law_what"] spCaught
  cak : PySem.W.keepIn K (.ref (F 6)) = true
  cab : Binds K (D 6) ["_law_what"] []
  cam : mg "_law_caught" = some (.ref (F 6))
theorem ok_law {f : Addr} {C F : Nat → Addr} {D : Nat → FuncData} {fd : FuncData} (FL : Fun K "law" "law" sLaw f fd) (N : Nm mg) (L : Lw P w K mg base C F D) : FnG P w K mg base CX0 4 f fd ["_law_script"] (spLaw K) := by
  refine FL.okG scLaw (fun vs H Q E h => ?_) (fun cdv A outer s H vs Q E clr hr h => ?_)
  · obtain ⟨a, ns, rfl, _⟩ := h
    rfl
  · obtain ⟨a, ns, rfl, hS, hlen, k⟩ := h
    have hr1 : Room 1 _ := hr.mono (by decide)
    have hr2 : Room 2 _ := hr.mono (by decide)
    refine ⟨tLaw K C, ?_, law_ok hS hlen k⟩
    exact pss_cons (ps_set (i := 1) scLaw.nd rfl (.inl rfl) (pe_call L.bg hr1 rfl L.bgm L.bgk L.bgb .nil pass0 (pa_cons (pv 0) pa_nil)))
      (pss_cons (ps_for PassesOwn.never rfl (pi_range1 rfl N.rng (pa_cons (pe_op op_add pe_int (pe_callB (call_min2 rfl) (by rfl) N.min (by decide +kernel) (pa_cons (pe_callB call_len_seq (by rfl) N.len PySem.boot_len (pa_cons (pv 0) pa_nil)) (pa_cons pe_int pa_nil)))) pa_nil)) (pg_name (i := 2) scLaw.nd rfl (.inl rfl))
        (pss_cons (ps_set (i := 3) scLaw.nd rfl (.inl rfl) (pe_call L.pk hr2 rfl L.pkm L.pkk L.pkb .nil pass0 (pa_cons (pv 1) (pa_cons (pe_lst (pa_cons pe_str (pa_cons pe_str (pa_cons pe_non (pa_cons pe_int
            (pa_cons (pe_call L.tk hr1 rfl L.tkm L.tkk L.tkb .nil pass0 (pa_cons (pv 1) (pa_cons pe_int pa_nil))) (pa_cons pe_bl (pa_cons (pe_tup (pa_cons pe_int (pa_cons pe_int pa_nil))) (pa_cons (pe_lst (pa_cons pe_int pa_nil)) (pa_cons pe_dnewK
            (pa_cons (pe_tup (pa_cons pe_str (pa_cons pe_non pa_nil))) (pa_cons (pe_un un_neg pe_int) pa_nil)))))))))))) pa_nil))))
        (pss_cons (ps_set (i := 4) scLaw.nd rfl (.inl rfl) (pe_call L.rw_ hr rfl L.rwm L.rwk L.rwb .nil pass0 (pa_cons (pv 3) pa_nil)))
        (pss_cons (ps_for PassesOwn.never rfl (pi_enum rfl N.enu (pa_cons (pv 4) pa_nil)) (pg_tup rfl (pgs_cons (pg_name (i := 5) scLaw.nd rfl (.inl rfl)) (pgs_cons (pg_name (i := 6) scLaw.nd rfl (.inl rfl)) pgs_nil)))
          (pss_one (ps_if (pt_not (pt_val (pe_callG L.rt clr.deeper hr2 rfl L.rtm L.rtk L.rtb .nil pass0 (pa_cons (pe_ix ix_tup (pv 6) pe_int (fun _ _ => rfl)) (pa_cons (pv 5) (pa_cons (pe_ix ix_tup (pv 6) pe_int (fun _ _ => rfl)) (pa_cons (pv 3) pa_nil))))))) (pss_one (ps_ret pe_bl)) pss_nil)))
        (pss_cons (ps_setLc (i := 7) (own := [("_law_spot", 5), ("_law_row", 6)]) (g := gTup K 2 (gCons (gName 5) (gCons (gName 6) gNil))) (tt := tTest (tOp rNe (tOp (rIxT K) (tVar 6) (tC (.int 1))) (tC (.str "")))) (te := tTup (tCons (tVar 5) (tCons (tOp (rIxT K) (tVar 6) (tC (.int 1))) tNil))) rfl scLaw.nd rfl rfl (sw_true rfl rfl rfl (by decide +kernel)) (pi_enum rfl N.enu (pa_cons (pv 4) pa_nil))
          (blkOk_by (N := ["_law_script", "_law_draw", "_law_turn", "_law_what", "_law_rows", "_law_spot", "_law_row", "_law_words", "_law_pair", "_law_error"]) (sc := defScope sLaw) (by decide +kernel))
          (fun _ _ _ _ _ => pg_tup rfl (pgs_cons (pg_name (i := 5) scLaw.nd rfl (Or.inl rfl)) (pgs_cons (pg_name (i := 6) scLaw.nd rfl (Or.inl rfl)) pgs_nil)))
          (fun _ _ _ _ _ => pts_one (pt_cmpR op_ne (pe_ix ix_tup (pv 6) pe_int (fun _ _ => rfl)) pe_str (nomark _)))
          (fun _ _ _ _ _ => pe_tup (pa_cons (pv 5) (pa_cons (pe_ix ix_tup (pv 6) pe_int (fun _ _ => rfl)) pa_nil))))
        (pss_cons (ps_for PassesOwn.never rfl (pi_zip rfl N.zip (pa_cons (pv 7) (pa_cons (pe_call L.wo hr rfl L.wom L.wok L.wob .nil pass0 (pa_cons (pv 3) pa_nil)) pa_nil))) (pg_tup rfl (pgs_cons (pg_name (i := 8) scLaw.nd rfl (.inl rfl)) (pgs_cons (pg_name (i := 9) scLaw.nd rfl (.inl rfl)) pgs_nil)))
          (pss_one (ps_if (pt_not (pt_val (pe_callG L.rt clr.deeper hr2 rfl L.rtm L.rtk L.rtb .nil pass0 (pa_cons (pv 9) (pa_cons (pe_ix ix_tup (pv 8) pe_int (fun _ _ => rfl)) (pa_cons (pe_ix ix_tup (pv 8) pe_int (fun _ _ => rfl)) (pa_cons (pv 3) pa_nil))))))) (pss_one (ps_ret pe_bl)) pss_nil)))
        (pss_one (ps_if (pt_cmpR op_ne (pe_call L.ca hr rfl L.cam L.cak L.cab .nil pass0 (pa_cons (pv 3) pa_nil)) pe_int (nomark _)) (pss_one (ps_ret pe_bl)) pss_nil))))))))
      (pss_one (ps_ret pe_bl)))
end
end K14


namespace K14
open PySem L2
abbrev exTail : List Value := [.type "ValueError", .type "Exception", .type "BaseException", .type "object"]
/-- an own class at C, its chain behind it -/
def ClsAt (K : PySem.W.Frag) (C : Addr) (bm : List Value) : Prop := ∃ nm q N bs sn sub ab col dd k0 k1 k2 k3 k5, K.lookup C = some (excClassObj nm q C N bs bm true sn sub ab col dd k0 k1 k2 k3 k5 "ValueError.__new__")
section
variable {K : PySem.W.Frag} {C : Addr} {bm : List Value}
theorem ClsAt.cls (h : ClsAt K C bm) : ∃ cd : ClassData, PySem.W.clsIn K C = some cd ∧ cd.mro = .ref C :: bm ∧ cd.hasDict = true := by
  obtain ⟨nm, q, N, bs, sn, sub, ab, col, dd, k0, k1, k2, k3, k5, e⟩ := h
  refine ⟨{ name := nm, bases := bs, mro := .ref C :: bm, ns := N, qualname := q, hasDict := true, slotNames := sn, subclasses := sub, abstract := ab, collection := col }, ?_, rfl, rfl⟩
  unfold PySem.W.clsIn
  rw [e]
theorem ClsAt.ty (h : ClsAt K C bm) : PySem.W.typeIn K (.ref C) = some (.type "type") := by
  obtain ⟨nm, q, N, bs, sn, sub, ab, col, dd, k0, k1, k2, k3, k5, e⟩ := h
  show (K.lookup C).map (·.cls) = _
  rw [e] <;> rfl
theorem ClsAt.mroIs (h : ClsAt K C bm) (b : Value) : PySem.W.mroIn K C b = some ((Value.ref C :: bm).contains b) := by
  obtain ⟨cd, e1, e2, _⟩ := h.cls
  unfold PySem.W.mroIn
  rw [e1]
  show (if cd.mro.isEmpty then none else some (cd.mro.contains b)) = _
  rw [e2] <;> rfl
theorem ClsAt.sub (h : ClsAt K C bm) (b : Value) : PySem.W.subIn K (.ref C) b = some ((Value.ref C :: bm).contains b) := h.mroIs b
theorem ClsAt.hd (h : ClsAt K C bm) : PySem.W.hasDictIn K C = true := by
  obtain ⟨cd, e1, _, e3⟩ := h.cls
  show (PySem.W.clsIn K C).any (·.hasDict) = true
  rw [e1]
  exact e3
theorem ClsAt.isC (h : ClsAt K C bm) : (PySem.W.clsIn K C).isSome = true := by
  obtain ⟨cd, e1, _⟩ := h.cls
  rw [e1] <;> rfl
/-- isinstance of the class at C against the class at D -/
theorem ClsAt.kit {D : Addr} {bn : List Value} (h : ClsAt K C bm) (g : ClsAt K D bn) : PySem.W.kitOne K (.ref C) (.ref D) = some ((Value.ref C :: bm).contains (.ref D)) := by
  unfold PySem.W.kitOne
  by_cases e : (Value.ref C == Value.ref D) = true
  · rw [if_pos e, beq_iff_eq.mp e, List.contains_cons, beq_self_eq_true] <;> rfl
  · rw [if_neg e]
    have e2 : ((PySem.W.clsIn K D).isSome && PySem.W.typeIn K (.ref D) == some (.type "type")) = true := by rw [g.isC, g.ty] <;> rfl
    show (if _ then PySem.W.subIn K (.ref C) (.ref D) else none) = _
    rw [if_pos e2, h.sub]
theorem ClsAt.exm {D : Addr} {bn : List Value} (h : ClsAt K C bm) (g : ClsAt K D bn) (eD : (Value.ref D :: bn).contains (.type "BaseException") = true) : PySem.W.exmOne K (.ref C) (.ref D) = some ((Value.ref C :: bm).contains (.ref D)) :=
  PySem.W.exm_ref (by rw [g.sub, eD]) g.hd g.ty (h.sub _)
end
/-- what the top says of one error class -/
structure ClsF (K : PySem.W.Frag) (nm f : Str) (C I R : Addr) : Prop where
  nsn : PySem.W.nsIn K mainGlobals nm = some (some (.ref C))
  at_ : ClsAt K C (.ref R :: exTail)
  sa : PySem.W.findIn K (.ref C) "__setattr__" = some (some (.builtin "object.__setattr__"))
  ga : PySem.W.findIn K (.ref C) "__getattribute__" = some (some (.builtin "BaseException.__getattribute__"))
  gg : PySem.W.findIn K (.ref C) "__getattr__" = some none
  ha : PySem.W.findIn K (.ref C) "__class__" = some (some (.builtin "object.__class__"))
  kC : PySem.W.keepIn K (.ref C) = true
  no : PySem.W.findIn K (.ref C) f = some none
  ini : PySem.W.findIn K (.ref C) "__init__" = some (some (.ref I))
  ity : PySem.W.typeIn K (.ref I) = some (.type "function")
/-- and of what they share -/
structure RootF (K : PySem.W.Frag) (R : Addr) : Prop where
  nsn : PySem.W.nsIn K mainGlobals "RolloutError" = some (some (.ref R))
  at_ : ClsAt K R exTail
  rd : PySem.W.readsIn K R (.type "type") = true
  ga : PySem.W.specialIn K (.ref R) "__getattribute__" = some (some (.builtin "type.__getattribute__"))
  ini : PySem.W.findCls K (.ref R) (.type "type") "__init__" = some (.val (.builtin "ValueError.__init__"))
  hn : PySem.W.specialIn K (.builtin "object.__class__") "__get__" = some (some (.builtin "getset_descriptor.__get__"))
  ht : PySem.W.takesIn K (.builtin "object.__class__") = some true
theorem ClsF.x {K : PySem.W.Frag} {nm f : Str} {C I R : Addr} (c : ClsF K nm f C I R) (r : RootF K R) : XCls K C where
  cls := by
    obtain ⟨nm, q, N, bs, sn, sub, ab, col, dd, k0, k1, k2, k3, k5, e⟩ := c.at_
    exact ⟨nm, q, N, bs, _, sn, sub, ab, col, dd, k0, k1, k2, k3, k5, e, rfl⟩
  sa := c.sa
  exC := by rw [c.at_.sub] <;> rfl
  tyC := c.at_.ty
  kC := c.kC
  ga := c.ga
  gg := c.gg
  hdC := c.at_.hd
  ha := c.ha
  hn := r.hn
  ht := r.ht
  hm := by rw [c.at_.mroIs] <;> rfl
theorem has_cls {C R D : Addr} {b : Bool} (h : decide (C = D) = b) (n : R ≠ D) : (Value.ref C :: Value.ref R :: exTail).contains (.ref D) = b := by
  subst h
  by_cases e : C = D
  · subst e
    rw [List.contains_cons, beq_self_eq_true, decide_eq_true rfl] <;> rfl
  · have e1 : (Value.ref D == Value.ref C) = false := beq_eq_false_iff_ne.mpr fun z => e (Value.ref.inj z).symm
    have e2 : (Value.ref D == Value.ref R) = false := beq_eq_false_iff_ne.mpr fun z => n (Value.ref.inj z).symm
    rw [decide_eq_false e, List.contains_cons, e1, List.contains_cons, e2] <;> rfl
theorem has_root {C R : Addr} : (Value.ref C :: Value.ref R :: exTail).contains (.ref R) = true := by
  rw [List.contains_cons, List.contains_cons, beq_self_eq_true, Bool.true_or, Bool.or_true]
theorem kit_bt {K : PySem.W.Frag} {C R : Addr} (c : ClsAt K C (.ref R :: exTail)) : PySem.W.kitOne K (.ref C) (.type "ValueError") = some true := by
  unfold PySem.W.kitOne
  rw [if_neg (show ¬ (Value.ref C == Value.type "ValueError") = true from fun z => nomatch (show false = true from z))]
  have e2 : PySem.W.kitMeta "ValueError" = true := by decide +kernel
  show (if PySem.W.kitMeta "ValueError" = true then PySem.W.subIn K (.ref C) (.type "ValueError") else none) = _
  rw [if_pos e2, c.sub] <;> rfl
theorem Fun.kw {K : PySem.W.Frag} {x qual : Str} {st : Stmt} {f : Addr} {fd : FuncData} {ps ks : List Str} {n : Nat} (F : L2.Fun K x qual st f fd)
    (h : ∀ (kV doc pm : Value) (an : Option Addr) (cdv ct : Value) (us ws : List Value), us.length = n → ws.length = ks.length → bindArgs (PySem.W.fnOf x qual (defArgs st) (defBody st) (defScope st) .none kV doc pm an cdv ct) ⟨us, ks.zip ws⟩ = pure (ps.zip (us ++ ws))) :
    KBn K fd ps n ks (fun us ws => us ++ ws) (fun vs zs => vs ++ zs) := by
  obtain ⟨oc, od, kV, doc, pm, an, cdv, ct, osl, rfl, lk, hcd⟩ := F.ex
  exact ⟨fun s us ws _ h1 h2 => .of_eq (h kV doc pm an cdv ct us ws h1 h2), fun a b => a.append b⟩

theorem upTo18 {Pr : Nat → Prop} : Pr 0 → Pr 1 → Pr 2 → Pr 3 → Pr 4 → Pr 5 → Pr 6 → Pr 7 → Pr 8 → Pr 9 → Pr 10 → Pr 11 → Pr 12 → Pr 13 → Pr 14 → Pr 15 → Pr 16 → Pr 17 → ∀ i, i < 18 → Pr i := by
  intro h0 h1 h2 h3 h4 h5 h6 h7 h8 h9 h10 h11 h12 h13 h14 h15 h16 h17 i hi
  match i, hi with
  | 0, _ => exact h0
  | 1, _ => exact h1
  | 2, _ => exact h2
  | 3, _ => exact h3
  | 4, _ => exact h4
  | 5, _ => exact h5
  | 6, _ => exact h6
  | 7, _ => exact h7
  | 8, _ => exact h8
  | 9, _ => exact h9
  | 10, _ => exact h10
  | 11, _ => exact h11
  | 12, _ => exact h12
  | 13, _ => exact h13
  | 14, _ => exact h14
  | 15, _ => exact h15
  | 16, _ => exact h16
  | 17, _ => exact h17
  | n + 18, h => exact absurd h (by omega)
def fromL (l : List Nat) (i : Nat) : Nat := l.getD i 0
section
variable {P : Program} {w : World} {K : PySem.W.Frag} {h : Heap} {mg : Str → Option Value} {fa : Addr}
theorem all_mk {R C0 C1 C2 C3 C4 C5 C6 C7 C8 C9 C10 C11 C12 C13 C14 C15 C16 C17 I0 I1 I2 I3 I4 I5 I6 I7 I8 I9 I10 I11 I12 I13 I14 I15 I16 I17 f0 f1 f2 f3 f4 f5 f6 f7 f8 f9 : Addr} {D0 D1 D2 D3 D4 D5 D6 D7 D8 D9 D10 D11 D12 D13 D14 D15 D16 D17 d0 d1 d2 d3 d4 d5 d6 d7 d8 d9 : FuncData} (X : K.In h) (G : h.Ns mainGlobals mg) (hfa : mg "law" = some (.ref fa))
    (r : RootF K R)
    (c0 : ClsF K "InvalidForest" "name" C0 I0 R) (i0 : L2.Fun K "__init__" "InvalidForest.__init__" sI0 I0 D0)
    (c1 : ClsF K "UnknownName" "name" C1 I1 R) (i1 : L2.Fun K "__init__" "UnknownName.__init__" sI1 I1 D1)
    (c2 : ClsF K "InvalidUsers" "" C2 I2 R) (i2 : L2.Fun K "__init__" "InvalidUsers.__init__" sI2 I2 D2)
    (c3 : ClsF K "InvalidSizes" "place" C3 I3 R) (i3 : L2.Fun K "__init__" "InvalidSizes.__init__" sI3 I3 D3)
    (c4 : ClsF K "InvalidPlace" "user" C4 I4 R) (i4 : L2.Fun K "__init__" "InvalidPlace.__init__" sI4 I4 D4)
    (c5 : ClsF K "UnknownUser" "user" C5 I5 R) (i5 : L2.Fun K "__init__" "UnknownUser.__init__" sI5 I5 D5)
    (c6 : ClsF K "Mismatch" "" C6 I6 R) (i6 : L2.Fun K "__init__" "Mismatch.__init__" sI6 I6 D6)
    (c7 : ClsF K "InvalidNumber" "" C7 I7 R) (i7 : L2.Fun K "__init__" "InvalidNumber.__init__" sI7 I7 D7)
    (c8 : ClsF K "NotBest" "" C8 I8 R) (i8 : L2.Fun K "__init__" "NotBest.__init__" sI8 I8 D8)
    (c9 : ClsF K "InvalidLists" "" C9 I9 R) (i9 : L2.Fun K "__init__" "InvalidLists.__init__" sI9 I9 D9)
    (c10 : ClsF K "NeedsMemory" "" C10 I10 R) (i10 : L2.Fun K "__init__" "NeedsMemory.__init__" sI10 I10 D10)
    (c11 : ClsF K "InvalidLimits" "name" C11 I11 R) (i11 : L2.Fun K "__init__" "InvalidLimits.__init__" sI11 I11 D11)
    (c12 : ClsF K "TooMany" "most" C12 I12 R) (i12 : L2.Fun K "__init__" "TooMany.__init__" sI12 I12 D12)
    (c13 : ClsF K "InvalidPin" "index" C13 I13 R) (i13 : L2.Fun K "__init__" "InvalidPin.__init__" sI13 I13 D13)
    (c14 : ClsF K "Crowded" "users" C14 I14 R) (i14 : L2.Fun K "__init__" "Crowded.__init__" sI14 I14 D14)
    (c15 : ClsF K "InvalidCommand" "index" C15 I15 R) (i15 : L2.Fun K "__init__" "InvalidCommand.__init__" sI15 I15 D15)
    (c16 : ClsF K "InvalidJournal" "index" C16 I16 R) (i16 : L2.Fun K "__init__" "InvalidJournal.__init__" sI16 I16 D16)
    (c17 : ClsF K "InvalidText" "line" C17 I17 R) (i17 : L2.Fun K "__init__" "InvalidText.__init__" sI17 I17 D17)
    (apart : ∀ i : Fin 18, R ≠ fromL [C0, C1, C2, C3, C4, C5, C6, C7, C8, C9, C10, C11, C12, C13, C14, C15, C16, C17] i.1) (dist : ∀ i j : Fin 18, decide (fromL [C0, C1, C2, C3, C4, C5, C6, C7, C8, C9, C10, C11, C12, C13, C14, C15, C16, C17] i.1 = fromL [C0, C1, C2, C3, C4, C5, C6, C7, C8, C9, C10, C11, C12, C13, C14, C15, C16, C17] j.1) = decide (i.1 = j.1))
    (n0 : PySem.W.nsIn K mainGlobals "_law_begin" = some (some (.ref f0))) (u0 : L2.Fun K "_law_begin" "_law_begin" sBegin f0 d0)
    (n1 : PySem.W.nsIn K mainGlobals "_law_take" = some (some (.ref f1))) (u1 : L2.Fun K "_law_take" "_law_take" sTake f1 d1)
    (n2 : PySem.W.nsIn K mainGlobals "_law_pick" = some (some (.ref f2))) (u2 : L2.Fun K "_law_pick" "_law_pick" sPick f2 d2)
    (n3 : PySem.W.nsIn K mainGlobals "_law_by_place" = some (some (.ref f3))) (u3 : L2.Fun K "_law_by_place" "_law_by_place" sRows f3 d3)
    (n4 : PySem.W.nsIn K mainGlobals "_law_by_word" = some (some (.ref f4))) (u4 : L2.Fun K "_law_by_word" "_law_by_word" sWords f4 d4)
    (n5 : PySem.W.nsIn K mainGlobals "_law_right" = some (some (.ref f5))) (u5 : L2.Fun K "_law_right" "_law_right" sRight f5 d5)
    (n6 : PySem.W.nsIn K mainGlobals "_law_caught" = some (some (.ref f6))) (u6 : L2.Fun K "_law_caught" "_law_caught" sCaught f6 d6)
    (n7 : PySem.W.nsIn K mainGlobals "_law_marks" = some (some (.ref f7))) (u7 : L2.Fun K "_law_marks" "_law_marks" sMarks f7 d7)
    (n8 : PySem.W.nsIn K mainGlobals "_law_held" = some (some (.ref f8))) (u8 : L2.Fun K "_law_held" "_law_held" sHeld f8 d8)
    (n9 : PySem.W.nsIn K mainGlobals "law" = some (some (.ref f9))) (u9 : L2.Fun K "law" "law" sLaw f9 d9)
    (z_abs : PySem.W.nsIn K mainGlobals "abs" = some none)
    (z_len : PySem.W.nsIn K mainGlobals "len" = some none)
    (z_min : PySem.W.nsIn K mainGlobals "min" = some none)
    (z_rng : PySem.W.nsIn K mainGlobals "range" = some none)
    (z_enu : PySem.W.nsIn K mainGlobals "enumerate" = some none)
    (z_zip : PySem.W.nsIn K mainGlobals "zip" = some none)
    (z_isi : PySem.W.nsIn K mainGlobals "isinstance" = some none)
    (z_rep : PySem.W.nsIn K mainGlobals "repr" = some none)
    (z_vE : PySem.W.nsIn K mainGlobals "ValueError" = some none)
    : ∃ fd : FuncData, (∀ (s : Shared) (u : Value), BindsTo s fd ⟨[u], []⟩ [("_law_script", u)]) ∧ ∀ base : Heap, K.In base → base.Ns mainGlobals mg → FnG P w K mg base CX0 4 fa fd ["_law_script"] (spLaw K) := by
  cases hfa.symm.trans (PySem.W.mg_of X G n9)
  have N : Nm mg := ⟨PySem.W.mg_none_of X G z_abs, PySem.W.mg_none_of X G z_len, PySem.W.mg_none_of X G z_min, PySem.W.mg_none_of X G z_rng, PySem.W.mg_none_of X G z_enu, PySem.W.mg_none_of X G z_zip, PySem.W.mg_none_of X G z_isi, PySem.W.mg_none_of X G z_rep, PySem.W.mg_none_of X G z_vE⟩
  have ns : ∀ i, i < 18 → R ≠ fromL [C0, C1, C2, C3, C4, C5, C6, C7, C8, C9, C10, C11, C12, C13, C14, C15, C16, C17] i := fun i hi => apart ⟨i, hi⟩
  have dist : ∀ i j, i < 18 → j < 18 → decide (fromL [C0, C1, C2, C3, C4, C5, C6, C7, C8, C9, C10, C11, C12, C13, C14, C15, C16, C17] i = fromL [C0, C1, C2, C3, C4, C5, C6, C7, C8, C9, C10, C11, C12, C13, C14, C15, C16, C17] j) = decide (i = j) := fun i j hi hj => dist ⟨i, hi⟩ ⟨j, hj⟩
  have at_ : ∀ i, i < 18 → ClsAt K (fromL [C0, C1, C2, C3, C4, C5, C6, C7, C8, C9, C10, C11, C12, C13, C14, C15, C16, C17] i) (.ref R :: exTail) := upTo18 c0.at_ c1.at_ c2.at_ c3.at_ c4.at_ c5.at_ c6.at_ c7.at_ c8.at_ c9.at_ c10.at_ c11.at_ c12.at_ c13.at_ c14.at_ c15.at_ c16.at_ c17.at_
  have T : Cl K mg R (fromL [C0, C1, C2, C3, C4, C5, C6, C7, C8, C9, C10, C11, C12, C13, C14, C15, C16, C17]) (fromL [I0, I1, I2, I3, I4, I5, I6, I7, I8, I9, I10, I11, I12, I13, I14, I15, I16, I17]) := {
    rt := ⟨PySem.W.mg_of X G r.nsn, r.rd, r.ga, r.ini⟩
    g := upTo18 (PySem.W.mg_of X G c0.nsn) (PySem.W.mg_of X G c1.nsn) (PySem.W.mg_of X G c2.nsn) (PySem.W.mg_of X G c3.nsn) (PySem.W.mg_of X G c4.nsn) (PySem.W.mg_of X G c5.nsn) (PySem.W.mg_of X G c6.nsn) (PySem.W.mg_of X G c7.nsn) (PySem.W.mg_of X G c8.nsn) (PySem.W.mg_of X G c9.nsn) (PySem.W.mg_of X G c10.nsn) (PySem.W.mg_of X G c11.nsn) (PySem.W.mg_of X G c12.nsn) (PySem.W.mg_of X G c13.nsn) (PySem.W.mg_of X G c14.nsn) (PySem.W.mg_of X G c15.nsn) (PySem.W.mg_of X G c16.nsn) (PySem.W.mg_of X G c17.nsn)
    x := upTo18 (c0.x r) (c1.x r) (c2.x r) (c3.x r) (c4.x r) (c5.x r) (c6.x r) (c7.x r) (c8.x r) (c9.x r) (c10.x r) (c11.x r) (c12.x r) (c13.x r) (c14.x r) (c15.x r) (c16.x r) (c17.x r)
    no := upTo18 (fun _ => c0.no) (fun _ => c1.no) (fun _ => c2.no) (fun _ => c3.no) (fun _ => c4.no) (fun _ => c5.no) (fun _ => c6.no) (fun _ => c7.no) (fun _ => c8.no) (fun _ => c9.no) (fun _ => c10.no) (fun _ => c11.no) (fun _ => c12.no) (fun _ => c13.no) (fun _ => c14.no) (fun _ => c15.no) (fun _ => c16.no) (fun _ => c17.no)
    ini := upTo18 c0.ini c1.ini c2.ini c3.ini c4.ini c5.ini c6.ini c7.ini c8.ini c9.ini c10.ini c11.ini c12.ini c13.ini c14.ini c15.ini c16.ini c17.ini
    ity := upTo18 c0.ity c1.ity c2.ity c3.ity c4.ity c5.ity c6.ity c7.ity c8.ity c9.ity c10.ity c11.ity c12.ity c13.ity c14.ity c15.ity c16.ity c17.ity
    kit := fun i j hi hj => by rw [(at_ i hi).kit (at_ j hj), has_cls (dist i j hi hj) (ns j hj)]
    kitR := fun i hi => by rw [(at_ i hi).kit r.at_, has_root]
    kitV := fun i hi => kit_bt (at_ i hi) }
  have Ct : Ct K R (fromL [C0, C1, C2, C3, C4, C5, C6, C7, C8, C9, C10, C11, C12, C13, C14, C15, C16, C17]) := ⟨by rw [(at_ 3 (by decide)).exm (at_ 3 (by decide)) rfl, has_cls (dist 3 3 (by decide) (by decide)) (ns 3 (by decide))] <;> rfl, by rw [(at_ 1 (by decide)).exm r.at_ rfl, has_root]⟩
  have b0 := u0.binds (ps := ["_law_script"]) fun _ _ _ _ _ _ us hl => match us, hl with | [_], _ => rfl
  have b1 := u1.binds (ps := ["_law_draw", "_law_size"]) fun _ _ _ _ _ _ us hl => match us, hl with | [_, _], _ => rfl
  have b2 := u2.binds (ps := ["_law_draw", "_law_some"]) fun _ _ _ _ _ _ us hl => match us, hl with | [_, _], _ => rfl
  have b3 := u3.binds (ps := ["_law_what"]) fun _ _ _ _ _ _ us hl => match us, hl with | [_], _ => rfl
  have b4 := u4.binds (ps := ["_law_what"]) fun _ _ _ _ _ _ us hl => match us, hl with | [_], _ => rfl
  have b5 := u5.binds (ps := ["_law_error", "_law_spot", "_law_word", "_law_what"]) fun _ _ _ _ _ _ us hl => match us, hl with | [_, _, _, _], _ => rfl
  have b6 := u6.binds (ps := ["_law_what"]) fun _ _ _ _ _ _ us hl => match us, hl with | [_], _ => rfl
  have b7 := u7.binds (ps := ["_law_error"]) fun _ _ _ _ _ _ us hl => match us, hl with | [_], _ => rfl
  have b8 := u8.binds (ps := ["_law_error", "_law_word"]) fun _ _ _ _ _ _ us hl => match us, hl with | [_, _], _ => rfl
  refine ⟨d9, fun s u => ?_, fun base KB GB => ?_⟩
  · obtain ⟨oc, od, kV, doc, pm, an, cdv, ct, osl, rfl, lk, hcd⟩ := u9.ex
    exact .of_eq rfl
  have J : Inits P w K mg base (fromL [C0, C1, C2, C3, C4, C5, C6, C7, C8, C9, C10, C11, C12, C13, C14, C15, C16, C17]) (fromL [I0, I1, I2, I3, I4, I5, I6, I7, I8, I9, I10, I11, I12, I13, I14, I15, I16, I17]) (fun i => ([D0, D1, D2, D3, D4, D5, D6, D7, D8, D9, D10, D11, D12, D13, D14, D15, D16, D17] : List FuncData).getD i d0) := {
    g0 := ok_i0 i0 T.rt (T.x 0 (by decide)) c0.no
    b0 := i0.binds (ps := ["self", "name"]) fun _ _ _ _ _ _ us hl => match us, hl with | [_, _], _ => rfl
    q0 := Fun.kw i0 fun _ _ _ _ _ _ us ws hl hk => match us, ws, hl, hk with | [_], [_], _, _ => rfl
    g1 := ok_i1 i1 T.rt (T.x 1 (by decide)) c1.no
    b1 := i1.binds (ps := ["self", "name"]) fun _ _ _ _ _ _ us hl => match us, hl with | [_, _], _ => rfl
    q1 := Fun.kw i1 fun _ _ _ _ _ _ us ws hl hk => match us, ws, hl, hk with | [_], [_], _, _ => rfl
    g2 := ok_i2 i2 T.rt (T.x 2 (by decide))
    b2 := i2.binds (ps := ["self"]) fun _ _ _ _ _ _ us hl => match us, hl with | [_], _ => rfl
    g3 := ok_i3 i3 T.rt (T.x 3 (by decide)) c3.no
    b3 := i3.binds (ps := ["self", "place"]) fun _ _ _ _ _ _ us hl => match us, hl with | [_, _], _ => rfl
    q3 := Fun.kw i3 fun _ _ _ _ _ _ us ws hl hk => match us, ws, hl, hk with | [_], [_], _, _ => rfl
    g4 := ok_i4 i4 T.rt (T.x 4 (by decide)) c4.no
    b4 := i4.binds (ps := ["self", "user"]) fun _ _ _ _ _ _ us hl => match us, hl with | [_, _], _ => rfl
    q4 := Fun.kw i4 fun _ _ _ _ _ _ us ws hl hk => match us, ws, hl, hk with | [_], [_], _, _ => rfl
    g5 := ok_i5 i5 T.rt (T.x 5 (by decide)) c5.no
    b5 := i5.binds (ps := ["self", "user"]) fun _ _ _ _ _ _ us hl => match us, hl with | [_, _], _ => rfl
    q5 := Fun.kw i5 fun _ _ _ _ _ _ us ws hl hk => match us, ws, hl, hk with | [_], [_], _, _ => rfl
    g6 := ok_i6 i6 T.rt (T.x 6 (by decide))
    b6 := i6.binds (ps := ["self"]) fun _ _ _ _ _ _ us hl => match us, hl with | [_], _ => rfl
    g7 := ok_i7 i7 T.rt (T.x 7 (by decide))
    b7 := i7.binds (ps := ["self"]) fun _ _ _ _ _ _ us hl => match us, hl with | [_], _ => rfl
    g8 := ok_i8 i8 T.rt (T.x 8 (by decide))
    b8 := i8.binds (ps := ["self"]) fun _ _ _ _ _ _ us hl => match us, hl with | [_], _ => rfl
    g9 := ok_i9 i9 T.rt (T.x 9 (by decide))
    b9 := i9.binds (ps := ["self"]) fun _ _ _ _ _ _ us hl => match us, hl with | [_], _ => rfl
    g10 := ok_i10 i10 T.rt (T.x 10 (by decide))
    b10 := i10.binds (ps := ["self"]) fun _ _ _ _ _ _ us hl => match us, hl with | [_], _ => rfl
    g11 := ok_i11 i11 T.rt (T.x 11 (by decide)) c11.no
    b11 := i11.binds (ps := ["self", "name"]) fun _ _ _ _ _ _ us hl => match us, hl with | [_, _], _ => rfl
    q11 := Fun.kw i11 fun _ _ _ _ _ _ us ws hl hk => match us, ws, hl, hk with | [_], [_], _, _ => rfl
    g12 := ok_i12 i12 T.rt (T.x 12 (by decide)) c12.no
    b12 := i12.binds (ps := ["self", "most"]) fun _ _ _ _ _ _ us hl => match us, hl with | [_, _], _ => rfl
    q12 := Fun.kw i12 fun _ _ _ _ _ _ us ws hl hk => match us, ws, hl, hk with | [_], [_], _, _ => rfl
    g13 := ok_i13 i13 T.rt (T.x 13 (by decide)) c13.no
    b13 := i13.binds (ps := ["self", "index"]) fun _ _ _ _ _ _ us hl => match us, hl with | [_, _], _ => rfl
    q13 := Fun.kw i13 fun _ _ _ _ _ _ us ws hl hk => match us, ws, hl, hk with | [_], [_], _, _ => rfl
    g14 := ok_i14 i14 T.rt (T.x 14 (by decide)) c14.no
    b14 := i14.binds (ps := ["self", "users"]) fun _ _ _ _ _ _ us hl => match us, hl with | [_, _], _ => rfl
    q14 := Fun.kw i14 fun _ _ _ _ _ _ us ws hl hk => match us, ws, hl, hk with | [_], [_], _, _ => rfl
    g15 := ok_i15 i15 T.rt (T.x 15 (by decide)) c15.no
    b15 := i15.binds (ps := ["self", "index"]) fun _ _ _ _ _ _ us hl => match us, hl with | [_, _], _ => rfl
    q15 := Fun.kw i15 fun _ _ _ _ _ _ us ws hl hk => match us, ws, hl, hk with | [_], [_], _, _ => rfl
    g16 := ok_i16 i16 T.rt (T.x 16 (by decide)) c16.no
    b16 := i16.binds (ps := ["self", "index"]) fun _ _ _ _ _ _ us hl => match us, hl with | [_, _], _ => rfl
    q16 := Fun.kw i16 fun _ _ _ _ _ _ us ws hl hk => match us, ws, hl, hk with | [_], [_], _, _ => rfl
    g17 := ok_i17 i17 T.rt (T.x 17 (by decide)) c17.no
    b17 := i17.binds (ps := ["self", "line"]) fun _ _ _ _ _ _ us hl => match us, hl with | [_, _], _ => rfl
    q17 := Fun.kw i17 fun _ _ _ _ _ _ us ws hl hk => match us, ws, hl, hk with | [_], [_], _, _ => rfl }
  have L : Lw P w K mg base (fromL [C0, C1, C2, C3, C4, C5, C6, C7, C8, C9, C10, C11, C12, C13, C14, C15, C16, C17]) (fromL [f0, f1, f2, f3, f4, f5, f6, f7, f8, fa]) (fun i => ([d0, d1, d2, d3, d4, d5, d6, d7, d8, d9] : List FuncData).getD i d0) := {
    bg := ok_begin u0 N
    bgk := u0.kp
    bgb := b0
    bgm := PySem.W.mg_of X G n0
    tk := ok_take u1 N
    tkk := u1.kp
    tkb := b1
    tkm := PySem.W.mg_of X G n1
    pk := ok_pick u2 N u1 b1 (PySem.W.mg_of X G n1)
    pkk := u2.kp
    pkb := b2
    pkm := PySem.W.mg_of X G n2
    rw_ := ok_rows u3 T J
    rwk := u3.kp
    rwb := b3
    rwm := PySem.W.mg_of X G n3
    wo := ok_words u4 T J
    wok := u4.kp
    wob := b4
    wom := PySem.W.mg_of X G n4
    rt := ok_right u5 N T u7 b7 (PySem.W.mg_of X G n7) u8 b8 (PySem.W.mg_of X G n8)
    rtk := u5.kp
    rtb := b5
    rtm := PySem.W.mg_of X G n5
    ca := ok_caught u6 T J Ct
    cak := u6.kp
    cab := b6
    cam := PySem.W.mg_of X G n6 }
  exact ok_law u9 N L
end
end K14


namespace K14
open PySem PySem.Spec PyProof.Rows L2
theorem walk {l : PySem.W.OpenLaw} {q : Program} {loose : List Str} {XP : (Str → Option Value) → Heap → Prop} {YP : World → Heap → Prop} {d : DefRec} {K : Params → PySem.W.Frag} (hn : l.most = some 63) (hdf : d.params.defaults = [])
    (hY : ∀ (w : World) (h : Heap), YP w h → (K w.params).In h)
    (F : ∀ (w : World) (mg : Str → Option Value) (fa : Addr) (h : Heap), (K w.params).In h → h.Ns mainGlobals mg → mg d.name = some (.ref fa) →
      ∃ fd : FuncData, (∀ (s : Shared) (u : Value), BindsTo s fd ⟨[u], []⟩ [("_law_script", u)]) ∧ ∀ base : Heap, (K w.params).In base → base.Ns mainGlobals mg → FnG l.prog w (K w.params) mg base CX0 4 fa fd ["_law_script"] (spLaw (K w.params))) :
    PySem.W.WalkO q loose XP YP l.row.toRowW d [] (fun f vs => PySem.call f vs) :=
  walk_ofG (n := 63) (k := 4) (x := "_law_script") (sp := fun w => spLaw (K w.params)) hn (by decide) hdf ⟨rfl, by decide, by decide⟩ hY F fun _ _ a ns hl _ hS => ⟨a, ns, rfl, hS, hl, fun _ => rfl⟩
end K14
open PySem PySem.W PyProof.Rows
set_option maxRecDepth 100000 in
set_option maxHeartbeats 0 in
theorem PySem.Challenge.cw_flagtrees_k14_errors_holds : PySem.Challenge.rw_flagtrees_k14_errors.Holds := by
  w_on; o_law; k_head; (case hw => w_witness2)
  k_fill
  refine K14.walk (l := PySem.Challenge.rw_flagtrees_k14_errors) rfl rfl (fun w h Y => PySem.W.kIn_of Y) ?F
  case F =>
    intro w mg fa h KX G hm
    have hmg : mg "law" = some (.ref fa) := hm
    clear hm
    refine' K14.all_mk KX G hmg ?r ?c0 ?i0 ?c1 ?i1 ?c2 ?i2 ?c3 ?i3 ?c4 ?i4 ?c5 ?i5 ?c6 ?i6 ?c7 ?i7 ?c8 ?i8 ?c9 ?i9 ?c10 ?i10 ?c11 ?i11 ?c12 ?i12 ?c13 ?i13 ?c14 ?i14 ?c15 ?i15 ?c16 ?i16 ?c17 ?i17 ?apart ?dist ?n0 ?u0 ?n1 ?u1 ?n2 ?u2 ?n3 ?u3 ?n4 ?u4 ?n5 ?u5 ?n6 ?u6 ?n7 ?u7 ?n8 ?u8 ?n9 ?u9 ?z_abs ?z_len ?z_min ?z_rng ?z_enu ?z_zip ?z_isi ?z_rep ?z_vE
    (case r => (refine' ⟨?nsn, ?at_, ?rd, ?ga, ?ini, ?hn, ?ht⟩; (case nsn => k_is); (case at_ => (refine' ⟨_, _, _, _, _, _, _, _, _, _, _, _, _, _, ?xl⟩; (case xl => rfl))); (case rd => k_is); (case ga => k_is); (case ini => k_is); (case hn => k_is); (case ht => k_is)))
    (case c0 => (refine' ⟨?nsn, ?at_, ?sa, ?ga, ?gg, ?ha, ?kC, ?no, ?ini, ?ity⟩; (case nsn => k_is); (case at_ => (refine' ⟨_, _, _, _, _, _, _, _, _, _, _, _, _, _, ?xl⟩; (case xl => rfl))); (case sa => k_is); (case ga => k_is); (case gg => k_is); (case ha => k_is); (case kC => k_is); (case no => k_is); (case ini => k_is); (case ity => k_is)))
    (case i0 => (refine' L2.fun_mk ?l ?c ?k; (case l => k_is); (case c => k_is); (case k => k_is)))
    (case c1 => (refine' ⟨?nsn, ?at_, ?sa, ?ga, ?gg, ?ha, ?kC, ?no, ?ini, ?ity⟩; (case nsn => k_is); (case at_ => (refine' ⟨_, _, _, _, _, _, _, _, _, _, _, _, _, _, ?xl⟩; (case xl => rfl))); (case sa => k_is); (case ga => k_is); (case gg => k_is); (case ha => k_is); (case kC => k_is); (case no => k_is); (case ini => k_is); (case ity => k_is)))
    (case i1 => (refine' L2.fun_mk ?l ?c ?k; (case l => k_is); (case c => k_is); (case k => k_is)))
    (case c2 => (refine' ⟨?nsn, ?at_, ?sa, ?ga, ?gg, ?ha, ?kC, ?no, ?ini, ?ity⟩; (case nsn => k_is); (case at_ => (refine' ⟨_, _, _, _, _, _, _, _, _, _, _, _, _, _, ?xl⟩; (case xl => rfl))); (case sa => k_is); (case ga => k_is); (case gg => k_is); (case ha => k_is); (case kC => k_is); (case no => k_is); (case ini => k_is); (case ity => k_is)))
    (case i2 => (refine' L2.fun_mk ?l ?c ?k; (case l => k_is); (case c => k_is); (case k => k_is)))
    (case c3 => (refine' ⟨?nsn, ?at_, ?sa, ?ga, ?gg, ?ha, ?kC, ?no, ?ini, ?ity⟩; (case nsn => k_is); (case at_ => (refine' ⟨_, _, _, _, _, _, _, _, _, _, _, _, _, _, ?xl⟩; (case xl => rfl))); (case sa => k_is); (case ga => k_is); (case gg => k_is); (case ha => k_is); (case kC => k_is); (case no => k_is); (case ini => k_is); (case ity => k_is)))
    (case i3 => (refine' L2.fun_mk ?l ?c ?k; (case l => k_is); (case c => k_is); (case k => k_is)))
    (case c4 => (refine' ⟨?nsn, ?at_, ?sa, ?ga, ?gg, ?ha, ?kC, ?no, ?ini, ?ity⟩; (case nsn => k_is); (case at_ => (refine' ⟨_, _, _, _, _, _, _, _, _, _, _, _, _, _, ?xl⟩; (case xl => rfl))); (case sa => k_is); (case ga => k_is); (case gg => k_is); (case ha => k_is); (case kC => k_is); (case no => k_is); (case ini => k_is); (case ity => k_is)))
    (case i4 => (refine' L2.fun_mk ?l ?c ?k; (case l => k_is); (case c => k_is); (case k => k_is)))
    (case c5 => (refine' ⟨?nsn, ?at_, ?sa, ?ga, ?gg, ?ha, ?kC, ?no, ?ini, ?ity⟩; (case nsn => k_is); (case at_ => (refine' ⟨_, _, _, _, _, _, _, _, _, _, _, _, _, _, ?xl⟩; (case xl => rfl))); (case sa => k_is); (case ga => k_is); (case gg => k_is); (case ha => k_is); (case kC => k_is); (case no => k_is); (case ini => k_is); (case ity => k_is)))
    (case i5 => (refine' L2.fun_mk ?l ?c ?k; (case l => k_is); (case c => k_is); (case k => k_is)))
    (case c6 => (refine' ⟨?nsn, ?at_, ?sa, ?ga, ?gg, ?ha, ?kC, ?no, ?ini, ?ity⟩; (case nsn => k_is); (case at_ => (refine' ⟨_, _, _, _, _, _, _, _, _, _, _, _, _, _, ?xl⟩; (case xl => rfl))); (case sa => k_is); (case ga => k_is); (case gg => k_is); (case ha => k_is); (case kC => k_is); (case no => k_is); (case ini => k_is); (case ity => k_is)))
    (case i6 => (refine' L2.fun_mk ?l ?c ?k; (case l => k_is); (case c => k_is); (case k => k_is)))
    (case c7 => (refine' ⟨?nsn, ?at_, ?sa, ?ga, ?gg, ?ha, ?kC, ?no, ?ini, ?ity⟩; (case nsn => k_is); (case at_ => (refine' ⟨_, _, _, _, _, _, _, _, _, _, _, _, _, _, ?xl⟩; (case xl => rfl))); (case sa => k_is); (case ga => k_is); (case gg => k_is); (case ha => k_is); (case kC => k_is); (case no => k_is); (case ini => k_is); (case ity => k_is)))
    (case i7 => (refine' L2.fun_mk ?l ?c ?k; (case l => k_is); (case c => k_is); (case k => k_is)))
    (case c8 => (refine' ⟨?nsn, ?at_, ?sa, ?ga, ?gg, ?ha, ?kC, ?no, ?ini, ?ity⟩; (case nsn => k_is); (case at_ => (refine' ⟨_, _, _, _, _, _, _, _, _, _, _, _, _, _, ?xl⟩; (case xl => rfl))); (case sa => k_is); (case ga => k_is); (case gg => k_is); (case ha => k_is); (case kC => k_is); (case no => k_is); (case ini => k_is); (case ity => k_is)))
    (case i8 => (refine' L2.fun_mk ?l ?c ?k; (case l => k_is); (case c => k_is); (case k => k_is)))
    (case c9 => (refine' ⟨?nsn, ?at_, ?sa, ?ga, ?gg, ?ha, ?kC, ?no, ?ini, ?ity⟩; (case nsn => k_is); (case at_ => (refine' ⟨_, _, _, _, _, _, _, _, _, _, _, _, _, _, ?xl⟩; (case xl => rfl))); (case sa => k_is); (case ga => k_is); (case gg => k_is); (case ha => k_is); (case kC => k_is); (case no => k_is); (case ini => k_is); (case ity => k_is)))
    (case i9 => (refine' L2.fun_mk ?l ?c ?k; (case l => k_is); (case c => k_is); (case k => k_is)))
    (case c10 => (refine' ⟨?nsn, ?at_, ?sa, ?ga, ?gg, ?ha, ?kC, ?no, ?ini, ?ity⟩; (case nsn => k_is); (case at_ => (refine' ⟨_, _, _, _, _, _, _, _, _, _, _, _, _, _, ?xl⟩; (case xl => rfl))); (case sa => k_is); (case ga => k_is); (case gg => k_is); (case ha => k_is); (case kC => k_is); (case no => k_is); (case ini => k_is); (case ity => k_is)))
    (case i10 => (refine' L2.fun_mk ?l ?c ?k; (case l => k_is); (case c => k_is); (case k => k_is)))
    (case c11 => (refine' ⟨?nsn, ?at_, ?sa, ?ga, ?gg, ?ha, ?kC, ?no, ?ini, ?ity⟩; (case nsn => k_is); (case at_ => (refine' ⟨_, _, _, _, _, _, _, _, _, _, _, _, _, _, ?xl⟩; (case xl => rfl))); (case sa => k_is); (case ga => k_is); (case gg => k_is); (case ha => k_is); (case kC => k_is); (case no => k_is); (case ini => k_is); (case ity => k_is)))
    (case i11 => (refine' L2.fun_mk ?l ?c ?k; (case l => k_is); (case c => k_is); (case k => k_is)))
    (case c12 => (refine' ⟨?nsn, ?at_, ?sa, ?ga, ?gg, ?ha, ?kC, ?no, ?ini, ?ity⟩; (case nsn => k_is); (case at_ => (refine' ⟨_, _, _, _, _, _, _, _, _, _, _, _, _, _, ?xl⟩; (case xl => rfl))); (case sa => k_is); (case ga => k_is); (case gg => k_is); (case ha => k_is); (case kC => k_is); (case no => k_is); (case ini => k_is); (case ity => k_is)))
    (case i12 => (refine' L2.fun_mk ?l ?c ?k; (case l => k_is); (case c => k_is); (case k => k_is)))
    (case c13 => (refine' ⟨?nsn, ?at_, ?sa, ?ga, ?gg, ?ha, ?kC, ?no, ?ini, ?ity⟩; (case nsn => k_is); (case at_ => (refine' ⟨_, _, _, _, _, _, _, _, _, _, _, _, _, _, ?xl⟩; (case xl => rfl))); (case sa => k_is); (case ga => k_is); (case gg => k_is); (case ha => k_is); (case kC => k_is); (case no => k_is); (case ini => k_is); (case ity => k_is)))
    (case i13 => (refine' L2.fun_mk ?l ?c ?k; (case l => k_is); (case c => k_is); (case k => k_is)))
    (case c14 => (refine' ⟨?nsn, ?at_, ?sa, ?ga, ?gg, ?ha, ?kC, ?no, ?ini, ?ity⟩; (case nsn => k_is); (case at_ => (refine' ⟨_, _, _, _, _, _, _, _, _, _, _, _, _, _, ?xl⟩; (case xl => rfl))); (case sa => k_is); (case ga => k_is); (case gg => k_is); (case ha => k_is); (case kC => k_is); (case no => k_is); (case ini => k_is); (case ity => k_is)))
    (case i14 => (refine' L2.fun_mk ?l ?c ?k; (case l => k_is); (case c => k_is); (case k => k_is)))
    (case c15 => (refine' ⟨?nsn, ?at_, ?sa, ?ga, ?gg, ?ha, ?kC, ?no, ?ini, ?ity⟩; (case nsn => k_is); (case at_ => (refine' ⟨_, _, _, _, _, _, _, _, _, _, _, _, _, _, ?xl⟩; (case xl => rfl))); (case sa => k_is); (case ga => k_is); (case gg => k_is); (case ha => k_is); (case kC => k_is); (case no => k_is); (case ini => k_is); (case ity => k_is)))
    (case i15 => (refine' L2.fun_mk ?l ?c ?k; (case l => k_is); (case c => k_is); (case k => k_is)))
    (case c16 => (refine' ⟨?nsn, ?at_, ?sa, ?ga, ?gg, ?ha, ?kC, ?no, ?ini, ?ity⟩; (case nsn => k_is); (case at_ => (refine' ⟨_, _, _, _, _, _, _, _, _, _, _, _, _, _, ?xl⟩; (case xl => rfl))); (case sa => k_is); (case ga => k_is); (case gg => k_is); (case ha => k_is); (case kC => k_is); (case no => k_is); (case ini => k_is); (case ity => k_is)))
    (case i16 => (refine' L2.fun_mk ?l ?c ?k; (case l => k_is); (case c => k_is); (case k => k_is)))
    (case c17 => (refine' ⟨?nsn, ?at_, ?sa, ?ga, ?gg, ?ha, ?kC, ?no, ?ini, ?ity⟩; (case nsn => k_is); (case at_ => (refine' ⟨_, _, _, _, _, _, _, _, _, _, _, _, _, _, ?xl⟩; (case xl => rfl))); (case sa => k_is); (case ga => k_is); (case gg => k_is); (case ha => k_is); (case kC => k_is); (case no => k_is); (case ini => k_is); (case ity => k_is)))
    (case i17 => (refine' L2.fun_mk ?l ?c ?k; (case l => k_is); (case c => k_is); (case k => k_is)))
    (case apart => decide +kernel)
    (case dist => decide +kernel)
    (case n0 => k_is)
    (case u0 => (refine' L2.fun_mk ?l ?c ?k; (case l => k_is); (case c => k_is); (case k => k_is)))
    (case n1 => k_is)
    (case u1 => (refine' L2.fun_mk ?l ?c ?k; (case l => k_is); (case c => k_is); (case k => k_is)))
    (case n2 => k_is)
    (case u2 => (refine' L2.fun_mk ?l ?c ?k; (case l => k_is); (case c => k_is); (case k => k_is)))
    (case n3 => k_is)
    (case u3 => (refine' L2.fun_mk ?l ?c ?k; (case l => k_is); (case c => k_is); (case k => k_is)))
    (case n4 => k_is)
    (case u4 => (refine' L2.fun_mk ?l ?c ?k; (case l => k_is); (case c => k_is); (case k => k_is)))
    (case n5 => k_is)
    (case u5 => (refine' L2.fun_mk ?l ?c ?k; (case l => k_is); (case c => k_is); (case k => k_is)))
    (case n6 => k_is)
    (case u6 => (refine' L2.fun_mk ?l ?c ?k; (case l => k_is); (case c => k_is); (case k => k_is)))
    (case n7 => k_is)
    (case u7 => (refine' L2.fun_mk ?l ?c ?k; (case l => k_is); (case c => k_is); (case k => k_is)))
    (case n8 => k_is)
    (case u8 => (refine' L2.fun_mk ?l ?c ?k; (case l => k_is); (case c => k_is); (case k => k_is)))
    (case n9 => k_is)
    (case u9 => (refine' L2.fun_mk ?l ?c ?k; (case l => k_is); (case c => k_is); (case k => k_is)))
    (case z_abs => k_is)
    (case z_len => k_is)
    (case z_min => k_is)
    (case z_rng => k_is)
    (case z_enu => k_is)
    (case z_zip => k_is)
    (case z_isi => k_is)
    (case z_rep => k_is)
    (case z_vE => k_is)
