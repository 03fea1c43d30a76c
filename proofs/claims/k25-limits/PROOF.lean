import PyProof.Rows.All
import Wide.All
import OpenK.AllK
import Wide.FinOn
import HandS.ForMost
import PyProof.EqAt
import PyProof.EqKinds
import PyProof.TupleCall
import KE.KFromBytes
import KE.KExcIs
import HandS.Exc
import HandS.TryOnly
import HandS.ExcInit
import HandS.ExcIs
import HandS.ExcField
import HandS.IsInst
import HandS.ClsMeth
import HandS.Defaults
import HandS.DictComp
import HandS.SortKw
import HandS.More
import HandS.Nested
import PyProof.Rows.StrRules
import PyProof.Rows.SortKeyStr
import KE.KUnpackStar
import HandS.Flow
import HandS.Walk
import HandS.Wide
import HandS.Text
import HandS.Style
import HandS.Property
import HandS.WordsDict
import HandS.ListItems
import HandS.Finally
import HandS.WordsExc
import HandS.Conv
import HandS.Iter
import HandS.TupLen
import KE.KeyNested
import KE.KDictCopyH
import HandS.Lambda
import HandS.EndBits
import KE.KNest
import HandS.ExcOwn
import HandS.Dict
import PyProof.ReprBulk
import HandS.SortInts
import HandS.Sort
import PyProof.PureStr
import HandS.List
import PyProof.MeetsIn
import PyProof.NeData
import KE.RegKIsAll
import Wide.Loose
import PySem.Challenge.RW_flagtrees_k25_plans_within_limits_of_fla
set_option Elab.async false
set_option linter.all false
set_option maxRecDepth 100000
set_option maxHeartbeats 8000000

namespace FT
open PySem L2
/-- the i-th statement of the row's text -/
def top (i : Nat) : Stmt := PySem.Challenge.pw_flagtrees_k25_plans_within_limits_of_fla.main.body.getD i (.Pass ⟨0, 0, 0, 0⟩)
abbrev s__wall : Stmt := top 0
abbrev s_InvalidForest___init__ : Stmt := inClass (top 3) 0
abbrev s_UnknownName___init__ : Stmt := inClass (top 4) 0
abbrev s_InvalidUsers___init__ : Stmt := inClass (top 5) 0
abbrev s_InvalidSizes___init__ : Stmt := inClass (top 6) 0
abbrev s_InvalidLists___init__ : Stmt := inClass (top 7) 0
abbrev s_NeedsMemory___init__ : Stmt := inClass (top 8) 0
abbrev s_InvalidLimits___init__ : Stmt := inClass (top 9) 0
abbrev s_TooMany___init__ : Stmt := inClass (top 10) 0
abbrev s_is_name : Stmt := top 14
abbrev s_is_ancestor : Stmt := top 15
abbrev s_need_parents : Stmt := top 16
abbrev s_Forest___init__ : Stmt := inClass (top 17) 2
abbrev s_Forest___eq__ : Stmt := inClass (top 17) 3
abbrev s_Forest_flags : Stmt := inClass (top 17) 4
abbrev s_Forest_parents : Stmt := inClass (top 17) 5
abbrev s_Forest_text : Stmt := inClass (top 17) 6
abbrev s_Forest_children : Stmt := inClass (top 17) 7
abbrev s_Forest_path : Stmt := inClass (top 17) 8
abbrev s_Forest_under : Stmt := inClass (top 17) 9
abbrev s_Forest_distance : Stmt := inClass (top 17) 10
abbrev s_Forest_walk : Stmt := inClass (top 17) 11
abbrev s_Forest_parse : Stmt := inClass (top 17) 12
abbrev s_places_of : Stmt := top 18
abbrev s_need_place : Stmt := top 19
abbrev s_is_integer : Stmt := top 22
abbrev s_need_users : Stmt := top 23
abbrev s_need_feasible : Stmt := top 24
abbrev s_need_sizes : Stmt := top 25
abbrev s_residents_of : Stmt := top 26
abbrev s_amounts_of : Stmt := top 28
abbrev s_amounts : Stmt := top 29
abbrev s_need_limits : Stmt := top 32
abbrev s_need_steps : Stmt := top 33
abbrev s_divided : Stmt := top 34
abbrev s_fewest_of : Stmt := top 35
abbrev s_fewest : Stmt := top 36
abbrev s_even_steps : Stmt := top 37
abbrev s_plan : Stmt := top 38
abbrev s__law_begin : Stmt := top 40
abbrev s__law_mixed : Stmt := top 41
abbrev s__law_take : Stmt := top 42
abbrev s__law_pick : Stmt := top 43
abbrev s__law_forest : Stmt := top 44
abbrev s__law_sizes : Stmt := top 45
abbrev s__law_fits : Stmt := top 46
abbrev s__law_caps : Stmt := top 47
abbrev s__law_caps_error : Stmt := top 48
abbrev s__law_bent_caps : Stmt := top 49
abbrev s__law_step_right : Stmt := top 50
abbrev s__law_plan_right : Stmt := top 51
abbrev s__law_result : Stmt := top 52
abbrev s__law_sizes_error : Stmt := top 53
abbrev s__law_bent_sizes : Stmt := top 54
abbrev s__law_distance : Stmt := top 55
abbrev s__law_refused_right : Stmt := top 56
abbrev s__law_flipped : Stmt := top 57
abbrev s__law_is_new : Stmt := top 58
abbrev s__law_caps_of : Stmt := top 59
abbrev s_law : Stmt := top 60
end FT


/-! Own: an exception class over ValueError called with one keyword, `C(name=value)`. The library's lemmas (HandSPX.call_own) say it for calls without keywords; these say it for one keyword. -/
namespace FX
open PySem PySem.W PySem.Calls PyProof.Rows PySem.HandSPX
section
variable {Mo : Model} {Ar : Around} {Er : Value → Shared → Prop} {he : Heap} {ge : Array GenState} {dr : Drawn} {tk : Nat} {os : OsState}
variable {nm qn : Str} {C N : Addr} {bs bm bmB : List Value} {hdct : Bool} {sn : List Str} {sub : List Value} {ab : Bool} {col : Option Bool} {dd : Option Addr} {k0 k1 k2 k3 k5 : Option Value} {B idN idI : String}
variable {kn : Str} {kv : Value} {more : List Value}
/-- the class object of an exception class, short -/
abbrev XO (nm qn : Str) (C N : Addr) (bs bm : List Value) (hdct : Bool) (sn : List Str) (sub : List Value) (ab : Bool) (col : Option Bool) (dd : Option Addr) (k0 k1 k2 k3 k5 : Option Value) (idN : String) : Obj :=
  excClassObj nm qn C N bs bm hdct sn sub ab col dd k0 k1 k2 k3 k5 idN
abbrev SameTy (bm bmB : List Value) : Prop := ∀ T : String, bm.contains (.type T) = bmB.contains (.type T)
end
section
variable {pg : Program} {w : World} {Ar : Around} {Er : Value → Shared → Prop} {Rs : Result → Shared → Prop} {he : Heap} {ge : Array GenState} {dr : Drawn} {tk : Nat} {os : OsState}
variable {nm qn : Str} {C N fI : Addr} {bs bm bmB : List Value} {hdct : Bool} {sn : List Str} {sub : List Value} {ab : Bool} {col : Option Bool} {dd : Option Addr} {k0 k1 k2 k3 k5 : Option Value} {B idN idI : String}
variable {kn : Str} {kv : Value} {more : List Value}
/-- the heap with the new exception -/
abbrev withX (he : Heap) (C : Addr) (more : List Value) : Heap := (he.push (W.kdv_tup more)).push (excO C he.objs.size)
end
end FX


namespace L2
open PySem PySem.Spec PyProof.Rows
/-- what the written part says of an own exception class over ValueError -/
structure XCls (K : PySem.W.Frag) (C : Addr) : Prop where
  cls : ∃ nm q N bs bm sn sub ab col dd k0 k1 k2 k3 k5, K.lookup C = some (excClassObj nm q C N bs bm true sn sub ab col dd k0 k1 k2 k3 k5 "ValueError.__new__") ∧ PySem.HandSPX.refsVE bm = true
  sa : PySem.W.findIn K (.ref C) "__setattr__" = some (some (.builtin "object.__setattr__"))
  exC : PySem.W.subIn K (.ref C) (.type "BaseException") = some true
  tyC : PySem.W.typeIn K (.ref C) = some (.type "type")
  kC : PySem.W.keepIn K (.ref C) = true
  ga : PySem.W.findIn K (.ref C) "__getattribute__" = some (some (.builtin "BaseException.__getattribute__"))
  gg : PySem.W.findIn K (.ref C) "__getattr__" = some none
  hdC : PySem.W.hasDictIn K C = true
  ha : PySem.W.findIn K (.ref C) "__class__" = some (some (.builtin "object.__class__"))
  hn : PySem.W.specialIn K (.builtin "object.__class__") "__get__" = some (some (.builtin "getset_descriptor.__get__"))
  ht : PySem.W.takesIn K (.builtin "object.__class__") = some true
  hm : PySem.W.mroIn K C (.type "object") = some true
theorem XCls.oex {K : PySem.W.Frag} {C : Addr} (c : XCls K C) : OexC K C := ⟨c.cls, c.sa, c.exC, c.tyC, c.kC⟩
/-- an exception object at a, by class and dict, its fields not told -/
def exg (a C : Addr) (d : Option Addr) : HO := .ext fun h => ∃ vs sl, h.get? a = some ({ cls := .ref C, dict := d, data := .fields vs, slots := sl } : Obj)
theorem exg_ok {P : Program} {w : World} {H : Hp} {h : Heap} {e C : Addr} {d : Option Addr} {vs : Array Value} {sl : Array (Option Value)} (he : h.get? e = some ({ cls := .ref C, dict := d, data := .fields vs, slots := sl } : Obj)) : ObjOk P w H h e (exg e C d) :=
  ⟨⟨vs, sl, he⟩, ⟨_, he⟩, fun h1 h2 z k => by
    obtain ⟨vs, sl, q⟩ := z
    exact ⟨vs, sl, k _ q⟩⟩
def XAt (H : Hp) (a C : Addr) (d : Option Addr) : Prop := H a = some (exo a C d) ∨ H a = some (exg a C d)
theorem XAt.obj {P : Program} {w : World} {H : Hp} {h : Heap} {a C : Addr} {d : Option Addr} (x : XAt H a C d) (hok : HOk P w H h) : ∃ ox vs, h.get? a = some ox ∧ ox.cls = .ref C ∧ ox.dict = d ∧ ox.data = .fields vs := by
  rcases x with e | e
  · obtain ⟨t1, q⟩ := exo_at hok e
    exact ⟨_, _, q, rfl, rfl, rfl⟩
  · have z : ObjOk P w H h a (.ext fun h => ∃ vs sl, h.get? a = some ({ cls := .ref C, dict := d, data := .fields vs, slots := sl } : Obj)) := hok a _ e
    obtain ⟨⟨vs, sl, q⟩, _⟩ := z
    exact ⟨_, vs, q, rfl, rfl, rfl⟩
def XD (H : Hp) (dx : Addr) (fs : List (Str × V)) : Prop := H dx = some (exd dx fs) ∨ H dx = some (.xd fs)
theorem XD.at {P : Program} {w : World} {H : Hp} {h : Heap} {dx : Addr} {fs : List (Str × V)} (x : XD H dx fs) (hok : HOk P w H h) : ∃ mA, h.Ns1 dx mA ∧ ∀ f, RelO (fs.lookup f) (mA f) := by
  rcases x with e | e
  · exact exd_at hok e
  · have z : ObjOk P w H h dx (.xd fs) := hok dx _ e
    exact z
/-- an exception of the class at C stands at a; its attributes are fs -/
def XV (H : Hp) (a C : Addr) (fs : List (Str × V)) : Prop := (XAt H a C none ∧ fs = []) ∨ ∃ dx, XAt H a C (some dx) ∧ XD H dx fs
theorem XV.inst {P : Program} {w : World} {H : Hp} {h : Heap} {a C : Addr} {fs : List (Str × V)} (x : XV H a C fs) (hok : HOk P w H h) : ∃ ox od, PySem.W.InstAt h a ox C od := by
  rcases x with ⟨x, _⟩ | ⟨dx, x, y⟩
  · obtain ⟨ox, vs, e1, e2, e3, e4⟩ := x.obj hok
    exact ⟨ox, none, e1, e2, by unfold PySem.W.notCls; rw [e4] <;> rfl, by rw [e3]; trivial⟩
  · obtain ⟨ox, vs, e1, e2, e3, e4⟩ := x.obj hok
    obtain ⟨mA, hn, hr⟩ := y.at hok
    obtain ⟨od, ho, hl⟩ := lookIn_ns hn
    exact ⟨ox, some od, e1, e2, by unfold PySem.W.notCls; rw [e4] <;> rfl, by rw [e3]; exact ho⟩
theorem XV.look {P : Program} {w : World} {H : Hp} {h : Heap} {a C : Addr} {fs : List (Str × V)} {f : Str} {v : V} (x : XV H a C fs) (hok : HOk P w H h) (hl : fs.lookup f = some v) :
    ∃ ox od u, PySem.W.InstAt h a ox C (some od) ∧ PySem.W.lookIn f od = some (some u) ∧ RelV v u := by
  rcases x with ⟨_, e⟩ | ⟨dx, x, y⟩
  · rw [e] at hl
    cases hl
  · obtain ⟨ox, vs, e1, e2, e3, e4⟩ := x.obj hok
    obtain ⟨mA, hn, hr⟩ := y.at hok
    obtain ⟨od, ho, hk⟩ := lookIn_ns hn
    obtain ⟨u, hu, ru⟩ := RelO.some_of (v := v) (o := mA f) (by rw [← hl]; exact hr f)
    exact ⟨ox, od, u, ⟨e1, e2, by unfold PySem.W.notCls; rw [e4] <;> rfl, by rw [e3]; exact ho⟩, by rw [hk, hu], ru⟩

section
variable {X : Cx}
/-- isinstance(e, c), e an exception of an own class -/
def rIsX (K : PySem.W.Frag) : List V → Hp → VK → Prop := fun xs H Q => ∃ (a C : Addr) (fs : List (Str × V)) (c : V) (u : Value) (b : Bool), xs = [.ref a, c] ∧ ClsV c u ∧ XCls K C ∧ XV H a C fs ∧ PySem.W.kitOne K (.ref C) u = some b ∧ Q (.bl b) H
theorem call_isX : CallR X (.builtin "isinstance") (rIsX X.K) := by
  intro pins s σ H xs us Q I r h
  obtain ⟨a, C, fs, c, u, b, rfl, k, T, xv, e, q⟩ := h
  obtain ⟨u1, u2, rfl, r1, r2⟩ := vals2 r
  have e2 := k.eq r2
  subst e2
  obtain rfl : u1 = Value.ref a := r1
  obtain ⟨ox, od, J⟩ := xv.inst I.hok
  have hcl : (PySem.W.clsIn X.K C).isSome = true := by
    obtain ⟨cd, hc, _⟩ := PySem.W.any_some T.hdC
    rw [hc] <;> rfl
  exact PySem.W.kia_one (PySem.W.kitx_exc hcl T.ga T.gg T.exC T.ha T.hn T.ht T.hm) I.kIn J e (fun z => nomatch z) fun tk => ⟨.bl b, H, I.tok tk, rfl, q⟩
/-- e.f -/
def tXFld (K : PySem.W.Frag) (te : TE) (f : Str) : TE := fun σ H Q => te σ H fun x H1 => ∃ (a C : Addr) (fs : List (Str × V)) (v : V), x = .ref a ∧ XV H1 a C fs ∧ XCls K C ∧ PySem.W.findIn K (.ref C) f = some none ∧ fs.lookup f = some v ∧ Q v H1
theorem pe_xfld {e : Expr} {te : TE} {pos : Pos} {n : Str} (he : PE X e te) (hb : attributeBase e n X.env (eval e X.env) = eval e X.env := by rfl) : PE X (.Attribute e n pos) (tXFld X.K te n) := by
  refine ⟨fun pins s σ H Q I h => ?_⟩
  refine attr_of hb (thn (he.run pins s σ H _ I h) fun u s1 hh => ?_)
  obtain ⟨x, H1, I1, rx, a, C, fs, v, ex, xv, T, hno, hl, q⟩ := hh
  subst ex
  obtain rfl : u = Value.ref a := rx
  obtain ⟨ox, od, u, J, hk, ru⟩ := xv.look I1.hok hl
  exact HandSPX.exc_get I1.kIn J T.ga T.gg T.exC (PySem.W.findObj_own T.hdC hno rfl hk) (handed_of ru) ⟨v, H1, I1.tok _, ru, q⟩
/-- R.__init__(self, ..), R an own class whose __init__ is ValueError's -/
structure XIni (K : PySem.W.Frag) (R : Addr) : Prop where
  rd : PySem.W.readsIn K R (.type "type") = true
  ga : PySem.W.specialIn K (.ref R) "__getattribute__" = some (some (.builtin "type.__getattribute__"))
  at_ : PySem.W.findCls K (.ref R) (.type "type") "__init__" = some (.val (.builtin "ValueError.__init__"))
theorem pe_clsinit {R : Addr} {rn : Str} {e : Expr} {es : List Expr} {ta : TA} {p1 p2 pos : Pos} {pl : Sem Bool} (T0 : XIni X.K R) (hg : Gl X rn) (hm : X.mg rn = some (.ref R)) (ha : PA X (e :: es) ta)
    (hdb : (rn == ("__debug__" : Str)) = false := by decide)
    (hc : eval (.Call (.Attribute (.Name rn p1) "__init__" p2) (e :: es) [] pos) X.env = (do
      let ov ← eval (.Name rn p1) X.env
      standAt p2.atName
      let (f, first) ← holding [ov] (getMethod ov "__init__" pl)
      callWith pos f first (backTo pos (starEach (e :: es) X.env)) (backToKw pos (keywordEach [] X.env))) := by rfl)
    (he : starEach (e :: es) X.env = (false, eval e X.env) :: starEach es X.env := by rfl) (hpl : (backTo pos (starEach es X.env)).any (·.1) = false := by rfl) :
    PE X (.Call (.Attribute (.Name rn p1) "__init__" p2) (e :: es) [] pos) (tVeI X.K ta) := by
  refine ⟨fun pins s σ H Q I h => ?_⟩
  refine PySem.W.methodCall_KW (ld_glob I hg hm ?_ hdb) hc
  refine PySem.W.method_cls I.kIn T0.ga (PySem.W.cls_value I.kIn T0.rd T0.at_ rfl ?_)
  show wpAny _ _ (callWith pos (Value.builtin "ValueError.__init__") [] (backTo pos (starEach (e :: es) X.env)) []) _ _ _
  refine PyProof.Rows.callWith_method1 (thn (ha.run pos pins _ σ H _ (I.tok _) h) fun us s1 ⟨vs, H1, I1, r1, a, C, ws, ev, hl, T, ea, q⟩ => ?_) he hpl
  subst ev
  cases r1 with
  | @cons _ u0 _ ur ra rw' =>
    obtain rfl : u0 = Value.ref a := ra
    have hlen : ur.length ≤ sizeLine := by
      rw [← Paired.length rw', sizeLine_eq]
      omega
    exact oinit_ok T I1 ea hlen fun s' J => ⟨.non, H1, J, rfl, q⟩

/-! ### C(..) as a value -/
variable {CX : CXT} {C fI : Addr} {k : Nat} {fd : FuncData} {ps : List Str} {sp : Sp} {ds : List Value} {dvs : List V} {E : XK}
/-- the state with a new exception of C laid, its arguments at the heap's end -/
theorem Inv.xnew {pins : List (Addr × Obj)} {σ : St} {H : Hp} {hp : Heap} {gn : Array GenState} {dr : Drawn} {tk : Nat} {os : OsState} (C : Addr) (us : List Value) (I : Inv X pins σ H ⟨hp, gn, dr, tk, os⟩) :
    H (hp.objs.size + 1) = none ∧ Inv X pins σ (upd H (hp.objs.size + 1) (exo (hp.objs.size + 1) C none)) ⟨FX.withX hp C us, gn, dr, tk, os⟩ := by
  have le : hp.objs.size ≤ hp.objs.size + 1 := Nat.le_succ _
  have at_ : (FX.withX hp C us).get? (hp.objs.size + 1) = some (PySem.HandSPX.excO C hp.objs.size) := by heap_get
  exact ⟨I.hok.fresh le, I.laid (t' := tk) (h' := FX.withX hp C us) (fun _ _ z => Heap.get?_push_of_some _ (Heap.get?_push_of_some _ z)) le (exo_ok at_)⟩
/-- C(e, ..) as a value; C's own __init__ keeps sp -/
def tMkX (C : Addr) (sp : Sp) (dvs : List V) (E : XK) (ta : TA) : TE := fun σ H Q => ta σ H fun vs H1 => vs.length ≤ 1000 ∧ ∀ a, H1 a = none → sp (.ref a :: (vs ++ dvs)) (upd H1 a (exo a C none)) (fun v H2 => v = .non ∧ Q (.ref a) H2) E
def tMkXK (C : Addr) (sp : Sp) (gV : List V → List V → List V) (E : XK) (te : TE) : TE := fun σ H Q => te σ H fun v H1 => ∀ a, H1 a = none → sp (gV [.ref a] [v]) (upd H1 a (exo a C none)) (fun v H2 => v = .non ∧ Q (.ref a) H2) E
variable {x : Str} {e : Expr} {es : List Expr} {ta : TA} {te : TE} {p pos kpos : Pos}
end
end L2


/-! y = {k: v for ..}, y a local; an expression whose answer is locked -/
namespace L2
open PySem PySem.Spec PyProof.Rows
section
variable {X : Cx} {i : Nat} {y : Str} {py : Pos} {kx vx tg iter : Expr} {ifs : List Expr} {scope : Scope} {own : List (Str × Nat)} {pos spos : Pos} {wi : TI} {g : TG} {tt : TT} {tk tv : TE}
theorem swd_true {gs : List Comprehension} {l : Nat} {env : Env} (kind : env.scope.kind = .function) (loc : env.scope.names.lookup y = some .local) (line : (py.line == pos.line) = true) (ap : (scope.names.any fun (n, k) => n == y && (k == .local || k == .cell)) = false) :
    swapsWith (.DictComp kx vx gs scope pos) (some (.Name y py)) l env = pure true := by
  have h1 : env.kindOf y = some .local := loc
  have h2 : env.blockKind = .function := by unfold Env.blockKind; rw [kind] <;> rfl
  unfold swapsWith
  simp only [h2, h1, ap, Expr.pos, line]
  rfl
theorem ps_setDc (hc : X.calm = true) (nd : X.N.Nodup) (hy : X.N[i]? = some y) (loc : X.env.scope.names.lookup y = some .local) (sw : swapsWith (.DictComp kx vx [⟨tg, iter, ifs, 0⟩] scope pos) (some (.Name y py)) spos.line X.env = pure true) (hi : PI X tg iter wi) (ok : BlkOk X.N X.env.scope scope own)
    (hg : ∀ (s : Shared) (H : Hp) (C : Addr) (cl : List (Str × Addr)) (fp : List Addr), PG (X.blk s H scope (compEnvC scope cl C X.env) fp) tg g) (ht : ∀ (s : Shared) (H : Hp) (C : Addr) (cl : List (Str × Addr)) (fp : List Addr), PTs (X.blk s H scope (compEnvC scope cl C X.env) fp) ifs tt)
    (hk : ∀ (s : Shared) (H : Hp) (C : Addr) (cl : List (Str × Addr)) (fp : List Addr), PE (X.blk s H scope (compEnvC scope cl C X.env) fp) kx tk)
    (hv : ∀ (s : Shared) (H : Hp) (C : Addr) (cl : List (Str × Addr)) (fp : List Addr), PE (X.blk s H scope (compEnvC scope cl C X.env) fp) vx tv) (hs : ∀ x, foldedSetIterable iter X.env x = pure x := by intro _; rfl) :
    PS X (.Assign [.Name y py] (.DictComp kx vx [⟨tg, iter, ifs, 0⟩] scope pos) spos) (tAsg (tDc wi g tt tk tv (own.map (·.2))) (gName i)) := by
  constructor
  intro pins s σ H D I h
  have want : tDc wi g tt tk tv (own.map (·.2)) σ H (fun x H1 => gName i x σ H1 D.nx) := h
  rw [exec_Assign_Name_used _ _ _ _ sw]
  refine wpAny_bind (wpAny_standAt (wpAny_bind ?_))
  show wpAny _ X.A (do let _ ← comprehension (.DictComp kx vx [⟨tg, iter, ifs, 0⟩] scope pos) scope X.env (firstIterPos [⟨tg, iter, ifs, 0⟩] pos) newDict false (eval iter X.env) (some (assign (.Name y py) X.env))) _ _ s
  refine wpAny_bind (thn (dc_core (Qf := fun _ s' => SP X pins D .next s') hc nd I hi ok hg ht hk hv hs want fun L C s' m H' J q hn f => ?_) fun _ _ z => wpAny_pure (wpAny_pure z))
  show wpAny _ _ (assign (.Name y py) X.env (.ref L)) _ _ _
  refine wpAny_assign_Name (store_ok2 (v := V.ref L) J nd hy (.inl loc) rfl (fun s2 J2 ⟨a, sb, ha⟩ => ?_) (.inr loc))
  obtain ⟨z0, z1, z2, z3, z4, z5⟩ := f
  have off : C ≠ a := ha.elim (fun e => e ▸ z1) fun e => (z4 y a e).symm
  exact ⟨m, hn.sameBut sb off, fun h3 sb3 => ⟨_, H', J2.turned (t' := s2.toks) (fun b o hb e => (sb3.2 b hb).trans e) z0 z1 z3 z4 z5, q⟩⟩
/-- e, its answer locked from then on -/
def tLk (te : TE) : TE := fun σ H Q => te σ H fun x H1 => ∃ d u, x = .ref d ∧ H1 d = some u ∧ Mut (some u) ∧ ∀ od, Q (.ref d) (upd H1 d (.frz od u))
end
end L2


/-! try: .. except C as n: .., the caught exception known behind the try -/
namespace L2
open PySem PySem.Spec PyProof.Rows
section
variable {X : Cx} {pins : List (Addr × Obj)} {σ : St} {H : Hp} {s : Shared}
/-- an object that stands there is known from now on; the entry had none at its place -/
theorem Inv.known {a : Addr} {o : HO} (I : Inv X pins σ H s) (hn : H a = none) (h0 : X.s_0.heap.get? a = none) (hL : a ≠ X.env.locals) (h2 : ∀ x c, X.env.cells.lookup x = some c → c ≠ a) (h3 : ∀ p ∈ X.pn ++ pins, p.1 ≠ a)
    (new : ObjOk X.prog X.w (upd H a o) s.heap a o) : Inv X pins σ (upd H a o) s := by
  have nit : ∀ b u, H b = some u → b ≠ a := fun b u e z => by rw [z, hn] at e; cases e
  refine ⟨I.ok, I.os, I.bare, ⟨I.base.keep, I.base.slot, fun b o e n hx => ?_, I.base.there, fun b xs e => ?_, fun b o xs e => ?_, fun b ps e => ?_⟩, I.loc, I.cell, ?_, fun x c e => ?_, fun p hp => ?_, fun b u e => ?_, I.len⟩
  · rw [upd_ne (fun z => by rw [z, h0] at e; cases e)]
    exact I.base.free b o e n hx
  · have q := I.base.tups b xs e
    rw [upd_ne (nit b _ q)]
    exact q
  · have q := I.base.frzs b o xs e
    rw [upd_ne (nit b _ q)]
    exact q
  · obtain ⟨m, q⟩ := I.base.tbls b ps e
    exact ⟨m, by rw [upd_ne (nit b _ q)]; exact q⟩
  · rw [upd_ne (Ne.symm hL)]
    exact I.free
  · rw [upd_ne (h2 x c e)]
    exact I.freeC x c e
  · obtain ⟨e, n, r⟩ := I.pin p hp
    exact ⟨e, by rw [upd_ne (h3 p hp)]; exact n, r⟩
  · by_cases hb : b = a
    · subst hb
      rw [upd_same] at e
      cases e
      exact new
    · rw [upd_ne hb] at e
      exact (I.hok b u e).stay (fun c v hc q => q) (fun c q => by rw [upd_ne (nit c _ q)]; exact q) fun c _ q => by rw [upd_ne (nit c _ q)]; exact q
end
/-- what a landed exception is: its object, where it does not lie -/
structure Landed (X : Cx) (pins : List (Addr × Obj)) (σ : St) (H : Hp) (a C : Addr) (d : Option Addr) (h : Heap) (s : Shared) : Prop where
  inv : Inv X pins σ H { s with heap := h }
  obj : ∃ vs sl, h.get? a = some ({ cls := .ref C, dict := d, data := .fields vs, slots := sl } : Obj)
  free : H a = none
  entry : X.s_0.heap.get? a = none
  loc : a ≠ X.env.locals
  fs : a ∉ X.fs
  pin : ∀ p ∈ X.pn ++ pins, p.1 ≠ a
theorem Landed.of {X : Cx} {pins : List (Addr × Obj)} {σ : St} {H : Hp} {a C : Addr} {d : Option Addr} {h B : Heap} {s sI : Shared} (hs : X.stack = X.env :: X.outer) (hf : X.env.frame = some X.env.locals) (hex : X.ex = []) (J : Inv X pins σ H sI) (na : H a = none)
    (nb : ∀ b o, sI.heap.get? b = some o → b ∉ frs X.stack → B.get? b = some o) (hB : B.get? a = none) (ff : h.FunFrames B (X.env :: X.outer)) (there : ∃ oe vs, h.get? a = some oe ∧ Zc (.ref C) d oe ∧ oe.data = .fields vs) (K : Inv X pins σ H { s with heap := h }) : Landed X pins σ H a C d h s := by
  obtain ⟨⟨oc, od, odt, osl⟩, ws, at_, ⟨z1, z2⟩, z3⟩ := there
  have off : a ∉ frs (X.env :: X.outer) := fun hm => by
    obtain ⟨_, u, hu, plain⟩ := ff.mem hm
    rw [at_] at hu
    exact plain ws (by rw [← Option.some.inj hu]; exact z3)
  have out : sI.heap.get? a = none := by
    cases q : sI.heap.get? a with
    | none => rfl
    | some o => exact absurd (nb a o q (by rw [hs]; exact off)) (by rw [hB]; simp)
  refine ⟨K, ⟨ws, osl, ?_⟩, na, ?_, fun z => off (List.mem_filterMap.mpr ⟨X.env, .head _, by rw [hf, z]⟩), fun hm => ?_, fun p hp z => ?_⟩
  · dsimp only at z1 z2 z3
    rw [at_, z1, z2, z3]
  · cases q : X.s_0.heap.get? a with
    | none => rfl
    | some o =>
      obtain ⟨_, q2⟩ := J.base.there a o q (by rw [hex]; simp)
      rw [out] at q2
      cases q2
  · obtain ⟨e, m, q⟩ := List.mem_filterMap.mp hm
    exact off (List.mem_filterMap.mpr ⟨e, .tail _ m, q⟩)
  · have q := (J.pin p hp).1
    rw [z, out] at q
    cases q
/-- what is wanted of an exception in the try: as wAs, but behind the suite the exception is known -/
def wAsK (K : PySem.W.Frag) (c : Value) (i : Nat) (ts : Addr → Value → Option Addr → TS) (Wout : WX) (D : Ends) : WX := fun cls d σ H => ∃ b C, cls = Value.ref C ∧ PySem.W.exmOne K cls c = some b ∧
  (b = true → ∀ a, H a = none → ts a cls d ⟨fun σ' H' => D.nx (σ'.set i none) (upd H' a (exg a C d)), D.rt, fun σ' H' => D.bk (σ'.set i none) H', fun σ' H' => D.ct (σ'.set i none) H'⟩ (σ.set i (some (.ref a))) H) ∧ (b = false → Wout cls d σ H)
section
variable {X : Cx} {x n : Str} {c : Value} {i : Nat} {body suite : List Stmt} {st : Stmt} {np pos hpos : Pos} {tb : WX → TS} {ts : Addr → Value → Option Addr → TS} {Wout : WX}
/-- the end of such a suite -/
theorem keep_end {pins : List (Addr × Obj)} {σ σ6 : St} {H H6 : Hp} {a C : Addr} {d : Option Addr} {h : Heap} {s s6 : Shared} {oe : Obj} {Q : Shared → Prop} (L : Landed X pins σ H a C d h s) (eo : h.get? a = some oe) (hN : X.N.Nodup) (hi : X.N[i]? = some n) (hln : X.env.kindOf n = some .local)
    (S : Inv (X.suite a ((a, oe) :: (X.pn ++ pins))) [] σ6 H6 s6) (q : ∀ s7, Inv X pins (σ6.set i none) (upd H6 a (exg a C d)) s7 → Q s7) : wpAny (model X.prog X.w) X.A (do bindName X.env n .none; unbindBehindTheSuite X.env n hpos) (fun _ s7 => Q s7) X.xe s6 := by
  obtain ⟨p1, p2, _⟩ := S.pin (a, oe) (List.mem_append_left _ (.head _))
  obtain ⟨ws, sl, e0⟩ := L.obj
  rw [eo] at e0
  have p3 : s6.heap.get? a = some oe := p1
  rw [Option.some.inj e0] at p3
  have U := S.unsuite L.inv.ok
  refine gone_ok (U.known (o := exg a C d) p2 L.entry L.loc (fun y k e z => ?_) L.pin (exg_ok p3)) hN hi hln q
  obtain ⟨_, _, w1, w2⟩ := U.cell y k e
  rw [z, p3] at w1
  rw [← Option.some.inj w1] at w2
  cases w2
/-- try: body / except x as n: suite -/
theorem ps_try_keep (hs : X.stack = X.env :: X.outer) (hf : X.env.frame = some X.env.locals) (hex : X.ex = []) (hN : X.N.Nodup) (hi : X.N[i]? = some n) (hln : X.env.kindOf n = some .local) (hc : Names X x c) (tk : Takes X Wout)
    (hb : ∀ (W : WX) (pn : List (Addr × Obj)) (xe : Value → Shared → Prop), Takes (X.tr pn xe) W → PassesOwn (model X.prog X.w) X.A X.env xe → PSs (X.tr pn xe) body (tb W))
    (hsu : ∀ (a : Addr) (oe : Obj) (cls : Value) (d : Option Addr) (pn : List (Addr × Obj)), Zc cls d oe → (∃ vs, oe.data = .fields vs) → PSs (X.suite a ((a, oe) :: pn)) (st :: suite) (ts a cls d)) :
    PS X (.Try body [.ExceptHandler (some (.Name x np)) (some n) (st :: suite) hpos] [] [] pos) (fun D σ H => tb (wAsK X.K c i ts Wout D) D σ H) := by
  constructor
  intro pins s σ H D I h
  refine wpAny_Try_except (wpAny_mono ((hb (wAsK X.K c i ts Wout D) (X.pn ++ pins) (fun e t1 => wpAny (model X.prog X.w) X.A (noteFrame e X.env) (fun _ t2 => wpAny (model X.prog X.w) X.A (setFlight e none) (fun _ t3 =>
    wpAny (model X.prog X.w) X.A (handleBy e X.env [.ExceptHandler (some (.Name x np)) (some n) (st :: suite) hpos]) (SP X pins D) X.xe t3) X.xe t2) X.xe t1) (fun u s' air => ?_) PassesOwn.looking).run [] s σ H D (I.toTry _) h) (fun f t1 ok => ?_) fun _ _ z => z)
  case refine_2 =>
    cases f with
    | next => exact let ⟨σ1, H1, K, q⟩ := ok; wpAny_execs_nil ⟨σ1, H1, K.ofTry I.ok, q⟩
    | brk => exact let ⟨σ1, H1, K, q⟩ := ok; ⟨σ1, H1, K.ofTry I.ok, q⟩
    | cont => exact let ⟨σ1, H1, K, q⟩ := ok; ⟨σ1, H1, K.ofTry I.ok, q⟩
    | ret u => exact let ⟨v, σ1, H1, K, rv, q⟩ := ok; ⟨v, σ1, H1, K.ofTry I.ok, rv, q⟩
  case refine_1 =>
    obtain ⟨a, B, sI, pins', σ', H', cls, d, rfl, J', nb, up, sky, na, os, ag, b, C, rfl, mb, yes, no⟩ := air
    have J := J'.ofTry I.ok
    rw [hs] at sky
    have hfr : X.A.frames = some (X.env :: X.outer) := I.ok.frames.trans (congrArg some hs)
    show wpAny (model X.prog X.w) X.A (noteFrame (.ref a) X.env) _ _ _
    refine Sky.land Zc.steady hfr hf sky fun hA flA upA => ?_
    have KA : Inv X pins σ' H' { s' with heap := hA } := J.landed nb flA.1 (up.trans upA) os ag
    obtain ⟨oA, wA, atA, zA, dA⟩ := flA.there
    have LA := Landed.of (s := s') hs hf hex J na nb flA.2.1 flA.2.2.1 ⟨oA, wA, atA, zA, dA⟩ KA
    have SA := KA.suite atA dA na LA.loc LA.fs
    refine wpAny_handleBy_cons (codeAny_handlers_test ?_) fun z => by cases z
    have ty : PySem.W.Looks (model X.prog X.w) hA (typeOf (.ref a)) (.ref C) := fun _ _ _ _ kk q => wpAny_typeOf_ref (kk _ _ atA) (by rw [zA.1]; exact q)
    have mk := PySem.W.exm_one (M := model X.prog X.w) KA.kIn ty mb
    have named : ∀ {Q E : Value → Shared → Prop}, Q c { s' with heap := hA } → wpAny (model X.prog X.w) (X.A.mark (some (.ref a))) (eval (.Name x np) X.env) Q E { s' with heap := hA } := fun q => by
      obtain ⟨g, gd, e | ⟨e, bt, nn⟩⟩ := hc
      · exact ld_glob SA g e q gd
      · exact ld_blt SA g e bt q nn gd
    refine named (mk.here ?_)
    match b, yes, no with
    | true, yes, _ =>
      refine codeAny_handlers_suite_as (HandSPX.lands_againZ flA fun hC flC upC => ?_)
      have KC : Inv X pins σ' H' { s' with heap := hC } := J.landed nb flC.1 ((up.trans upA).trans upC) os ag
      obtain ⟨oC, wC, atC, zC, dC⟩ := flC.there
      have LC := Landed.of (s := s') hs hf hex J na nb flC.2.1 flC.2.2.1 ⟨oC, wC, atC, zC, dC⟩ KC
      refine store_ok (X := X.suite a ((a, oC) :: (X.pn ++ pins))) (v := .ref a) (KC.suite atC dC na LC.loc LC.fs) hN hi (.inl hln) rfl (fun t5 S5 => ?_) (.inr hln)
      refine wpAny_mono ((hsu a oC _ d (X.pn ++ pins) zC ⟨_, dC⟩).run [] t5 _ H' _ S5 (yes rfl a na)) (fun f t6 e6 => ?_) fun _ _ z => z.elim
      have plain : ∀ {σ6 : St} {H6 : Hp} {Q : Shared → Prop}, Inv (X.suite a ((a, oC) :: (X.pn ++ pins))) [] σ6 H6 t6 → (∀ t7, Inv X pins (σ6.set i none) H6 t7 → Q t7) → wpAny (model X.prog X.w) X.A (do bindName X.env n .none; unbindBehindTheSuite X.env n hpos) (fun _ t7 => Q t7) X.xe t6 :=
        fun S q => gone_ok (S.unsuite I.ok) hN hi hln q
      cases f with
      | next => exact let ⟨σ6, H6, S6, q6⟩ := e6; keep_end LC atC hN hi hln S6 fun t7 K7 => ⟨_, _, K7, q6⟩
      | brk => exact let ⟨σ6, H6, S6, q6⟩ := e6; plain S6 fun t7 K7 => ⟨_, _, K7, q6⟩
      | cont => exact let ⟨σ6, H6, S6, q6⟩ := e6; plain S6 fun t7 K7 => ⟨_, _, K7, q6⟩
      | ret u => exact let ⟨v6, σ6, H6, S6, r6, q6⟩ := e6; plain S6 fun t7 K7 => ⟨_, _, _, K7, r6, q6⟩
    | false, _, no =>
      show wpAny _ X.A (handleBy (.ref a) X.env []) _ _ _
      refine wpAny_handleBy_nil ?_
      obtain ⟨oe, vs, tb1, _, _, e1, _, e2, e3, _⟩ := flA.2.2.2
      unfold PySem.passOn
      refine wpAny_bind (wpAny_field e1 e2 e3 ?_)
      rw [if_neg (by simp)]
      have fly : wpAny (model X.prog X.w) X.A (setFlight (.ref a) X.env.frame) (fun _ t4 => wpAny (model X.prog X.w) X.A (throw (.ref a) : Sem Flow) (SP X pins D) X.xe t4) X.xe { s' with heap := hA } := by
        rw [hf]
        exact HandSPX.setFlight_upZ flA fun hD held upD => wpAny_throw (tk _ _ ⟨a, B, sI, pins, σ', H', .ref C, d, rfl, J, nb, (up.trans upA).trans upD, .inr (.inr (by rw [hs]; exact held)), na, os, ag, no rfl⟩)
      first | exact wpAny_bind (wpAny_pure (wpAny_bind fly)) | exact wpAny_bind fly
end
end L2


/-! raise C(..) where C's own __init__ writes no attribute -/
namespace L2
open PySem PySem.Spec PyProof.Rows
section
variable {X : Cx} {o e : Expr} {es : List Expr} {to te : TE} {ta : TA} {f : Str} {p p' p1 p2 pos : Pos}
/-- C(e, ..), C's own __init__ keeping sp; no attribute is written -/
def tMkO0 (C : Addr) (sp : Sp) (dvs : List V) (ta : TA) : St → Hp → XK → Prop := fun σ H Q => ta σ H fun vs H1 => vs.length ≤ 1000 ∧ ∀ a, H1 a = none → sp (.ref a :: (vs ++ dvs)) (upd H1 a (exo a C none))
  (fun v H2 => v = .non ∧ H2 a = some (exo a C none) ∧ Q (.ref C) none (del H2 a)) (fun _ _ _ => False)
/-- the new exception is let go -/
theorem mk_gone {pins : List (Addr × Obj)} {σ : St} {H1 H2 : Hp} {hp hp2 h2 : Heap} {g1 g2 : Array GenState} {d1 d2 : Drawn} {t1 t2 : Nat} {os1 os2 : OsState} {a C : Addr} (I1 : Inv X pins σ H1 ⟨hp, g1, d1, t1, os1⟩) (young : hp.objs.size ≤ a)
    (k : ∀ b o, hp.get? b = some o → hp2.get? b = some o) (un : Un (frs X.stack) [] (upd H1 a (exo a C none)) H2 hp2 h2) (hok : HOk X.prog X.w H2 h2) (ho : os2 = os1) (hb : AllBare g2) (ea : H2 a = some (exo a C none)) :
    ∃ (t0 : Addr) (G : Heap), Inv X pins σ (del H2 a) ⟨G, g2, d2, t2, os2⟩ ∧ (∀ b o, G.get? b = some o → h2.get? b = some o) ∧ G.get? a = none ∧ h2.get? a = some ({ cls := .ref C, dict := none, data := .fields #[.ref t0, .none, .none, .none, .bool false, .none] } : Obj) ∧ del H2 a a = none := by
  obtain ⟨t0, at2⟩ := exo_at hok ea
  have n1 : H1 a = none := I1.hok.fresh young
  obtain ⟨G, in_, out⟩ := restrict h2 fun b => decide (b ≠ a)
  have other : ∀ b, b ≠ a → G.get? b = h2.get? b := fun b nb => in_ b (decide_eq_true nb)
  have gone : G.get? a = none := out a (by simp)
  have old : ∀ {b : Addr} {o : Obj}, hp.get? b = some o → b ≠ a := fun z => Nat.ne_of_lt (Nat.lt_of_lt_of_le (Heap.lt_size z) young)
  have low : ∀ {b : Addr}, b ≠ a → H1 b = none → upd H1 a (exo a C none) b = none := fun nb n => (upd_ne nb).trans n
  have high : ∀ {b : Addr} {u : HO}, H1 b = some u → upd H1 a (exo a C none) b = some u ∧ b ≠ a := fun z => ⟨(upd_ne (ne_of_none z n1)).trans z, ne_of_none z n1⟩
  have U : Un (frs X.stack) [] H1 (del H2 a) hp G := by
    refine ⟨fun b o z n hf hx => (other b (old z)).trans (un.keep b o (k b o z) (low (old z) n) hf hx), fun b o z n hf hx => ?_, fun b o z n hx => (del_ne (old z)).trans (un.free b o (k b o z) (low (old z) n) hx), fun b o z hx => ?_, fun b xs z => (del_ne (high z).2).trans (un.tups b xs (high z).1),
      fun b o v z => (del_ne (high z).2).trans (un.frzs b o v (high z).1), fun b ps z => ?_⟩
    · obtain ⟨sl, q⟩ := un.slot b o (k b o z) (low (old z) n) hf hx
      exact ⟨sl, (other b (old z)).trans q⟩
    · obtain ⟨o', q⟩ := un.there b o (k b o z) hx
      exact ⟨o', (other b (old z)).trans q⟩
    · obtain ⟨m, q⟩ := un.tbls b ps (high z).1
      exact ⟨m, (del_ne (high z).2).trans q⟩
  have held : HOk X.prog X.w (del H2 a) G := fun b o z => by
    have nb : b ≠ a := fun e => by
      rw [e, del_same] at z
      cases z
    rw [del_ne nb] at z
    refine (hok b o z).stay (fun c v hc y => ?_) (fun c hc => (del_ne (at_ne ea hc exo_own)).trans hc) fun c xs hc => (del_ne (at_ne ea hc exo_tup)).trans hc
    refine (other c ?_).trans y
    rcases hc with rfl | hc
    · exact nb
    · exact at_ne ea hc exo_own
  refine ⟨t0, G, I1.call' (ch := []) ho U held hb (fun b z => absurd z (by simp)), fun b o z => ?_, gone, at2, del_same⟩
  by_cases nb : b = a
  · rw [nb, gone] at z
    cases z
  · exact (other b nb).symm.trans z
variable {CX : CXT} {x : Str} {C fI : Addr} {k : Nat} {fd : FuncData} {ps : List Str} {sp : Sp} {ds : List Value} {dvs : List V}
theorem run_mk0 {pins : List (Addr × Obj)} {σ : St} {H1 : Hp} {s : Shared} {Q : XK} {us : List Value} {vs : List V} (T : OexC X.K C) (iC : PySem.W.findIn X.K (.ref C) "__init__" = some (some (.ref fI))) (tI : PySem.W.typeIn X.K (.ref fI) = some (.type "function"))
    (F1 : FnOk X.prog X.w X.K X.mg X.base CX k fI fd ps sp) (hr : Room (k + 1) X.A) (hb : Binds X.K fd ps ds) (hd : Vals dvs ds) (hx : Passes CX X (fun _ _ _ => False)) (I1 : Inv X pins σ H1 s) (r1 : Vals vs us) (hz : vs.length ≤ 1000)
    (q1 : ∀ a, H1 a = none → sp (.ref a :: (vs ++ dvs)) (upd H1 a (exo a C none)) (fun v H2 => v = .non ∧ H2 a = some (exo a C none) ∧ Q (.ref C) none (del H2 a)) (fun _ _ _ => False)) :
    wpAny (model X.prog X.w) X.A (call (.ref C) us) (MkP X pins σ Q) X.xe s := by
  obtain ⟨_, _, _, _, bm, _, _, _, _, _, _, _, _, _, _, oC, tail⟩ := T.cls
  obtain ⟨hp, gn, dr, tk, os⟩ := s
  obtain ⟨new, J⟩ := Inv.xnew C us I1
  have want := q1 _ new
  have rel : Vals (V.ref (hp.objs.size + 1) :: (vs ++ dvs)) (Value.ref (hp.objs.size + 1) :: (us ++ ds)) := .cons rfl (r1.append hd)
  have len : (Value.ref (hp.objs.size + 1) :: us ++ ds).length = ps.length := rel.length.symm.trans (F1.len _ _ _ _ want)
  have few : us.length ≤ sizeLine := by
    have := r1.length
    rw [sizeLine_eq]; omega
  have go := F1.run _ X.stack _ _ ⟨Value.ref (hp.objs.size + 1) :: us, []⟩ (Value.ref (hp.objs.size + 1) :: (us ++ ds)) _ _ (fun _ _ _ => False) (hr.make C us []) (J.env0.make C us []) (hb _ (Value.ref (hp.objs.size + 1) :: us) J.kIn len) rel want
  refine wpAny_call (PySem.HandSPX.call_own F.excBase_ValueError (fun Y => PySem.HandSPX.refsVE_contains Y bm tail) (I1.kIn _ _ oC) (PySem.W.looks_findIn I1.kIn iC) (fun me => PySem.W.bind_fn I1.kIn me tI) few (codeAny_mono go fun r z q => ?_))
  match r, q with
  | .error er, q => exact hx pins σ _ _ er z J q
  | .ok (.ret u), q =>
    obtain ⟨v, H2, os2, bare2, un2, hok2, rv, ev, ea, q2⟩ := q
    subst ev
    obtain ⟨h2, g2, d2, t2, os'⟩ := z
    have up : ∀ b o, hp.get? b = some o → (FX.withX hp C us).get? b = some o := fun b o e => Heap.get?_push_of_some _ (Heap.get?_push_of_some _ e)
    obtain ⟨t0, G, JG, kG, gG, oG, nG⟩ := mk_gone (d2 := d2) (t2 := t2) I1 (Nat.le_succ _) up un2 hok2 os2 bare2 ea
    exact ⟨rv, _, _, _, ⟨G, g2, d2, t2, os'⟩, _, .ref C, none, rfl, JG, kG, gG, oG, ⟨rfl, rfl⟩, rfl, rfl, nG, rfl, bare2, raises_own T.exC T.tyC, q2⟩
  | .ok .next, q => exact q.elim
  | .ok .brk, q => exact q.elim
  | .ok .cont, q => exact q.elim
/-- C() -/
theorem pmk_none (T : OexC X.K C) (iC : PySem.W.findIn X.K (.ref C) "__init__" = some (some (.ref fI))) (tI : PySem.W.typeIn X.K (.ref fI) = some (.type "function"))
    (F1 : FnOk X.prog X.w X.K X.mg X.base CX k fI fd ps sp) (hr : Room (k + 1) X.A) (hb : Binds X.K fd ps ds) (hd : Vals dvs ds) (hx : Passes CX X (fun _ _ _ => False)) (hg : Gl X x) (hm : X.mg x = some (.ref C)) (hdb : (x == ("__debug__" : Str)) = false := by decide) :
    PMk X (.Call (.Name x p) [] [] pos) (tMkO0 C sp dvs tNil) := by
  intro pins s σ H Q I h
  refine wpAny_Call_Name_kw (ld_glob I hg hm ?_ hdb)
  exact PySem.W.callWith_K0 I.kIn T.kC (run_mk0 (us := []) T iC tI F1 hr hb hd hx I .nil h.1 h.2)
end
end L2


/-! sorted(a dict of texts, key=a lambda of one parameter that gives (int, text)) -/
namespace SrtKy
open PySem PyProof.Rows Srt SrtO
/-- a tuple of a number and a text -/
def IsIS (h : Heap) (v : Value) (x : Int) (z : Str) : Prop := ∃ a o t u n, v = .ref a ∧ h.get? a = some o ∧ o.cls = .type "tuple" ∧ o.data = .seq #[.int x t, .str z u] n
theorem IsIS.keeps {h h' : Heap} {v : Value} {x : Int} {z : Str} (p : IsIS h v x z) (k : ∀ b o, h.get? b = some o → o.cls = .type "tuple" → h'.get? b = some o) : IsIS h' v x z := by
  obtain ⟨a, o, t, u, n, e, ho, hc, hd⟩ := p
  exact ⟨a, o, t, u, n, e, k _ _ ho hc, hc, hd⟩
def isLt (p q : Int × Str) : Bool := if p.1 = q.1 then decide (p.2.cps.toList < q.2.cps.toList) else decide (p.1 < q.1)
section
variable {prog : Program} {w : World} {s : Shared} {A : Around} {E : Value → Shared → Prop}
end
end SrtKy


namespace L2
open PySem PySem.Spec PyProof.Rows
section
variable {X : Cx} {pins : List (Addr × Obj)} {σ : St} {H : Hp} {s : Shared} {h' : Heap}
end
/-- what the keys of the first items are -/
def KysAt (H : Hp) (key : V → Int × Str) (xs : List V) (kA : List Value) : Prop := ∀ (j : Nat) (kv : Value), kA[j]? = some kv → ∃ (t : Addr) (x : V), kv = Value.ref t ∧ xs[j]? = some x ∧ H t = some (.tup [.int (key x).1, .str (key x).2])
theorem KysAt.up {H H' : Hp} {key : V → Int × Str} {xs : List V} {kA : List Value} (h : KysAt H key xs kA) (t : ∀ b ys, H b = some (.tup ys) → H' b = some (.tup ys)) : KysAt H' key xs kA := fun j kv e => by
  obtain ⟨a, x, e1, e2, e3⟩ := h j kv e
  exact ⟨a, x, e1, e2, t _ _ e3⟩
theorem KysAt.snoc {H : Hp} {key : V → Int × Str} {xs : List V} {kA : List Value} {t : Addr} {x : V} (h : KysAt H key xs kA) (hx : xs[kA.length]? = some x) (ht : H t = some (.tup [.int (key x).1, .str (key x).2])) : KysAt H key xs (kA ++ [.ref t]) := fun j kv e => by
  by_cases hj : j < kA.length
  · rw [List.getElem?_append_left hj] at e
    exact h j kv e
  · rw [List.getElem?_append_right (by omega)] at e
    have h0 : j - kA.length = 0 := by
      have := (List.getElem?_eq_some_iff.mp e).1
      rw [List.length_singleton] at this
      omega
    rw [h0] at e
    have e' : Value.ref t = kv := Option.some.inj e
    have : j = kA.length := by omega
    subst this
    exact ⟨t, x, e'.symm, hx, ht⟩
/-- the key that stands at an address -/
def keyOfL (H : Hp) : Value → Int × Str
  | .ref t => match H t with
    | some (.tup [.int n, .str z]) => (n, z)
    | _ => (0, "")
  | _ => (0, "")
theorem keyOfL_at {H : Hp} {t : Addr} {n : Int} {z : Str} (h : H t = some (.tup [.int n, .str z])) : keyOfL H (.ref t) = (n, z) := by
  show (match H t with
    | some (.tup [.int n, .str z]) => (n, z)
    | _ => ((0 : Int), ("" : Str))) = (n, z)
  rw [h]
theorem KysAt.is {X : Cx} {pins : List (Addr × Obj)} {σ : St} {H : Hp} {s : Shared} {key : V → Int × Str} {xs : List V} {kA : List Value} (I : Inv X pins σ H s) (h : KysAt H key xs kA) : ∀ v ∈ kA, SrtKy.IsIS s.heap v (keyOfL H v).1 (keyOfL H v).2 := fun v hv => by
  obtain ⟨j, hj⟩ := List.mem_iff_getElem?.mp hv
  obtain ⟨t, x, rfl, _, e⟩ := h j v hj
  rw [keyOfL_at e]
  obtain ⟨_, its, r, o, ho, hc, n, hd⟩ := I.hok _ _ e
  obtain ⟨u1, u2, rfl, ri, rj⟩ := vals2 r
  obtain ⟨t1, rfl⟩ := ri
  obtain ⟨t2, rfl⟩ := rj
  exact ⟨t, o, t1, t2, n, rfl, ho, hc, hd⟩
section
variable {X : Cx} {pins : List (Addr × Obj)} {σ : St} {H : Hp} {s : Shared}
end
end L2


namespace L2
open PySem PySem.Spec PyProof.Rows LamX NdefX
/-- all that was told stays -/
def HKeep (H H' : Hp) : Prop := ∀ b o, H b = some o → H' b = some o
/-- the lambda as a function of the layer (its body is an expression: none of the statements' field is read) -/
def lamF (X : Cx) (params : Arguments) (scope : Scope) (c' : Addr) : NF := ⟨"<lambda>", X.env.qual ++ "<lambda>", params, [], scope, cloFrom X.env.cells scope.names [], c'⟩
/-- sorted(e, key=lambda ..): js: where the captured names stand among ours -/
def tSortLam (T : List (Addr × Str)) (q : Str) (N : List Str) (js : List Nat) (ta : TA) (tb : TE) : TE := fun σ H Q => ta σ H fun vs H1 => ∃ x : V, vs = [x] ∧ Tabs T H1 ∧ ∀ (c' : Addr) (H2 : Hp), ExtN H1 H2 → Tabs T H2 → H2 c' = some (CodeO c' q) →
  ∃ (a : Addr) (kvs : List (Key × V)) (ks : List Str) (key : Str → Int × Str), x = .ref a ∧ Rd H2 a (.dK kvs) ∧ kvs.map (·.1) = ks.map Sum.inr ∧ ks.length ≤ sizeLine ∧
    (∀ k ∈ ks, ∀ H, HKeep H2 H → tb (startF N [.str k] (js.map (NdefX.slotAt σ))) H fun v H3 => HKeep H H3 ∧ ∃ t, v = .ref t ∧ H3 t = some (.tup [.int (key k).1, .str (key k).2])) ∧
    ∀ (ys : List Str) (H3 : Hp) (p : Addr), ys.Perm ks → ys.Pairwise (fun x y => SrtKy.isLt (key y) (key x) = false) → HKeep H2 H3 → H3 p = none → Q (.ref p) (upd H3 p (.lst (ys.map V.str)))
section
variable {X : Cx}
end
end L2


/-! heaps, lists, texts: what all the laws' proofs share. -/
namespace FT
open PySem L2 TL
abbrev Same (H H' : Hp) : Prop := ∀ b o, H b = some o → H' b = some o
theorem Same.refl {H : Hp} : Same H H := fun _ _ e => e
theorem Same.trans {H H1 H2 : Hp} (a : Same H H1) (b : Same H1 H2) : Same H H2 := fun x o e => b x o (a x o e)
theorem Same.free {H H' : Hp} {p : Addr} (s : Same H H') (n : H' p = none) : H p = none := by
  cases e : H p with
  | none => rfl
  | some o =>
    rw [s p o e] at n
    cases n
theorem Same.sql {K : PySem.W.Frag} {H H' : Hp} {a : Addr} {xs : List V} (e : Same H H') (h : SqL K H a xs) : SqL K H' a xs := by
  rcases h with (h | ⟨o, h⟩) | h
  · exact .inl (.inl (e _ _ h))
  · exact .inl (.inr ⟨o, e _ _ h⟩)
  · exact .inr h
theorem same_new {H : Hp} {p : Addr} {o : HO} (n : H p = none) : Same H (upd H p o) := fun b u e => by
  rw [upd_ne (ne_of_none e n)]
  exact e
theorem Same.put {H H' : Hp} {p : Addr} {o : HO} (s : Same H H') (n : H p = none) : Same H (upd H' p o) := fun b u e => by
  rw [upd_ne (ne_of_none e n)]
  exact s b u e
/-- what the text finds among the module's names -/
structure Nm (mg : Str → Option Value) : Prop where
  abs : mg "abs" = none
  len : mg "len" = none
  rng : mg "range" = none
  enu : mg "enumerate" = none
  zip : mg "zip" = none
  isi : mg "isinstance" = none
  all : mg "all" = none
  srt : mg "sorted" = none
  lst : mg "list" = none
  dct : mg "dict" = none
  str : mg "str" = none
  int : mg "int" = none
  tup : mg "tuple" = none
  sum : mg "sum" = none
  min : mg "min" = none
  max : mg "max" = none
  rep : mg "repr" = none
  bool : mg "bool" = none
  any : mg "any" = none
  vE : mg "ValueError" = none
theorem take_more {α : Type} {l : List α} {i : Nat} {x : α} (h : l[i]? = some x) : l.take (i + 1) = l.take i ++ [x] := by
  rw [List.take_succ, h] <;> rfl
theorem cut_ints (ns : List Int) (lo hi : Option Int) : ∃ ms : List Int, cutV (ns.map V.int) lo hi = ms.map V.int ∧ ms.length ≤ ns.length := by
  unfold cutV
  generalize HT.sIx (ns.map V.int).length 0 lo = i
  generalize HT.sIx (ns.map V.int).length (ns.map V.int).length hi = j
  refine ⟨(ns.drop i).take (j - i), by rw [List.map_take, List.map_drop], ?_⟩
  rw [List.length_take, List.length_drop]
  omega
theorem map_of {α : Type} {f : α → V} {l : List α} {j : Nat} {x : V} (h : (l.map f)[j]? = some x) : ∃ z, l[j]? = some z ∧ x = f z := by
  rw [List.getElem?_map] at h
  obtain ⟨z, hz, rfl⟩ := Option.map_eq_some_iff.mp h
  exact ⟨z, hz, rfl⟩
theorem ixN_nat {n j : Nat} (h : j < n) : ixN n (j : Int) = some j := by
  unfold ixN
  rw [if_pos (by omega), if_pos (by omega)]
  simp
theorem map_erase {α β : Type} (f : α → β) : ∀ (l : List α) (i : Nat), (l.map f).eraseIdx i = (l.eraseIdx i).map f
  | [], _ => rfl
  | _ :: _, 0 => rfl
  | a :: l, i + 1 => congrArg (List.cons (f a)) (map_erase f l i)
theorem erase_perm {α : Type} : ∀ (l : List α) (i : Nat) (h : i < l.length), (l[i] :: l.eraseIdx i).Perm l
  | [], _, h => absurd h (Nat.not_lt_zero _)
  | _ :: _, 0, _ => .refl _
  | a :: l, i + 1, h => (List.Perm.swap a _ _).trans ((erase_perm l i (Nat.lt_of_succ_lt_succ h)).cons a)
/-- how many items stand there -/
def many (H : Hp) (a : Addr) : Nat := match H a with
  | some (.lst xs) => xs.length
  | _ => 0
theorem inV_strs (x : Str) : ∀ fs : List Str, inV (.str x) (fs.map V.str) = decide (x ∈ fs)
  | [] => rfl
  | y :: fs => by
    show (eqV (.str y) (.str x) || inV (.str x) (fs.map V.str)) = _
    rw [inV_strs x fs]
    have e : eqV (.str y) (.str x) = decide (x = y) := by
      show (y == x) = decide (x = y)
      rw [Bool.eq_iff_iff, beq_iff_eq, decide_eq_true_eq]
      exact eq_comm
    rw [e, Bool.eq_iff_iff]
    simp only [Bool.or_eq_true, decide_eq_true_eq, List.mem_cons]
theorem flat_strs : ∀ fs : List Str, (fs.map V.str).all flatV = true
  | [] => rfl
  | _ :: fs => flat_strs fs
/-! ### texts -/
/-- a name: letters, one to eight, not self -/
def NameL (z : Str) : Prop := (∀ c ∈ tl z, 97 ≤ c ∧ c ≤ 122) ∧ 1 ≤ (tl z).length ∧ (tl z).length ≤ 8 ∧ z ≠ "self"
instance (z : Str) : Decidable (NameL z) := by unfold NameL; infer_instance
theorem NameL.len {z : Str} (h : NameL z) : 1 ≤ z.length ∧ z.length ≤ 8 := by
  rw [len_tl]
  exact ⟨h.2.1, h.2.2.1⟩
theorem NameL.self {z : Str} (h : NameL z) : z ≠ "self" := h.2.2.2
theorem NameL.ne {z : Str} (h : NameL z) : z ≠ "" := fun e => by
  subst e
  have := h.2.1
  revert this
  decide +kernel
theorem strOk_name {z : Str} (h : NameL z) : PyData.strOk z = true := by
  unfold PyData.strOk
  simp only [Bool.and_eq_true, decide_eq_true_eq, Array.all_eq_true_iff_forall_mem]
  intro c hc
  have := h.1 c (Array.mem_toList_iff.mpr hc)
  omega
/-! ### order -/
theorem rising_all : ∀ (l : List Str) (p : Str), PyProof.Rows.risingS p l = true → (∀ y ∈ l, tl p ≤ tl y) ∧ l.Pairwise (fun a b => tl a ≤ tl b)
  | [], p, _ => ⟨fun y h => (by cases h), List.Pairwise.nil⟩
  | x :: r, p, h => by
    have h' : (!PySem.Spec.ltCps x.cps.toList p.cps.toList && PyProof.Rows.risingS x r) = true := h
    rw [Bool.and_eq_true, PyProof.Rows.ltCps_eq] at h'
    obtain ⟨h1, h2⟩ := h'
    have px : tl p ≤ tl x := by
      show ¬ (tl x < tl p)
      intro z
      rw [decide_eq_true z] at h1
      cases h1
    obtain ⟨i1, i2⟩ := rising_all r x h2
    refine ⟨fun y hy => ?_, List.pairwise_cons.mpr ⟨i1, i2⟩⟩
    rcases List.mem_cons.mp hy with rfl | hy
    · exact px
    · exact List.le_trans px (i1 y hy)
theorem sorted_pw {l : List Str} (h : PyProof.Rows.sortedS l = true) : l.Pairwise (fun a b => tl a ≤ tl b) := by
  cases l with
  | nil => exact .nil
  | cons x r =>
    obtain ⟨i1, i2⟩ := rising_all r x h
    exact List.pairwise_cons.mpr ⟨i1, i2⟩
/-- one order of the same texts -/
theorem sorted_one {l m : List Str} (p : l.Perm m) (hl : PyProof.Rows.sortedS l = true) (hm : PyProof.Rows.sortedS m = true) : l = m :=
  List.Perm.eq_of_pairwise (le := fun a b => tl a ≤ tl b) (fun a b _ _ h1 h2 => ext_tl (List.le_antisymm h1 h2)) (sorted_pw hl) (sorted_pw hm) p
/-! ### comprehensions of dicts, locks -/
/-- a dict comprehension over a walk: Pv by the turn and the heap (the new dict at D within) -/
theorem dc_it {J : It} {n : Nat} {G : Hp → Prop} {Y : Nat → Hp → V → Hp → Prop} (w : Walk J n G Y) {g : TG} {tt : TT} {tk tv : TE} {vs : List Nat} {σ : St} {H1 : Hp} {D : Addr} {Qd : Hp → Prop} (Pv : Nat → Hp → Prop) (h0 : Pv 0 (upd H1 D (.dK []))) (hG : ∀ i H, i ≤ n → Pv i H → G H)
    (hs : ∀ i x H H', i < n → Pv i H → Y i H x H' → g x (wipe σ vs) H' fun σ2 H2 => wipe σ2 vs = wipe σ vs ∧ tt σ2 H2 fun b H3 =>
      if b = true then tk σ2 H3 fun y H4 => tv σ2 H4 fun z H5 => ∃ kvs k, y = kV k ∧ H5 D = some (.dK kvs) ∧ kvs.length < sizeLine ∧ Pv (i + 1) (upd H5 D (.dK (putK kvs k z))) else Pv (i + 1) H3) (hd : ∀ H, Pv n H → Qd H) :
    ∃ W : Nat → Nat → Hp → Prop, (∃ m, W 0 m (upd H1 D (.dK []))) ∧ ∀ i m H, W i m H →
      (J.stop i H ∧ Qd H) ∨ (J.go i H ∧ ∃ Nx : Hp → Prop, (∀ H', Nx H' → ∃ m', m' < m ∧ W (i + 1) m' H') ∧ ∀ x H', J.yld i H x H' → g x (wipe σ vs) H' fun σ2 H2 => wipe σ2 vs = wipe σ vs ∧ tt σ2 H2 fun b H3 =>
        if b = true then tk σ2 H3 fun y H4 => tv σ2 H4 fun z H5 => ∃ kvs k, y = kV k ∧ H5 D = some (.dK kvs) ∧ kvs.length < sizeLine ∧ Nx (upd H5 D (.dK (putK kvs k z))) else Nx H3) := by
  refine ⟨fun i m H => m = n - i ∧ i ≤ n ∧ Pv i H, ⟨n, by simp, Nat.zero_le _, h0⟩, fun i m H ⟨em, hi, p⟩ => ?_⟩
  have gh := hG i H hi p
  rcases Nat.lt_or_ge i n with lt | ge
  · exact .inr ⟨w.goes i H lt gh, Pv (i + 1), fun H' p' => ⟨n - (i + 1), by omega, rfl, lt, p'⟩, fun x H' y => hs i x H H' lt p (w.yields i H x H' lt gh y)⟩
  · have ei : i = n := by omega
    subst ei
    exact .inl ⟨w.stops H gh, hd H p⟩
theorem unlock_same {H H' : Hp} {q : Addr} {u : HO} {o : Obj} (e : H q = some u) (s : Same (upd H q (.frz o u)) H') : Same H (upd H' q u) := fun b x h => by
  by_cases z : b = q
  · subst z
    rw [upd_same]
    exact e.symm.trans h |>.symm ▸ rfl
  · rw [upd_ne z]
    exact s b x (by rw [upd_ne z]; exact h)
/-! ### dicts with text keys, by any values -/
/-- a dict of values by texts -/
def kvT (t : List (Str × V)) : List (Key × V) := t.map fun p => (Sum.inr p.1, p.2)
theorem kvT_len (t : List (Str × V)) : (kvT t).length = t.length := by unfold kvT; rw [List.length_map]
theorem kvT_app (t : List (Str × V)) (f : Str) (z : V) : kvT t ++ [(Sum.inr f, z)] = kvT (t ++ [(f, z)]) := by
  unfold kvT
  rw [List.map_append] <;> rfl
theorem kvT_any (t : List (Str × V)) (f : Str) : ((kvT t).any fun kv => decide (kv.1 = Sum.inr f)) = decide (f ∈ t.map Prod.fst) := by
  induction t with
  | nil => rfl
  | cons p t ih =>
    show (decide ((Sum.inr p.1 : Key) = Sum.inr f) || ((kvT t).any fun kv => decide (kv.1 = Sum.inr f))) = _
    rw [ih, Bool.eq_iff_iff]
    simp only [Bool.or_eq_true, decide_eq_true_eq, List.map_cons, List.mem_cons]
    constructor
    · rintro (h | h)
      · exact .inl (Sum.inr.inj h).symm
      · exact .inr h
    · rintro (h | h)
      · exact .inl (by rw [h])
      · exact .inr h
theorem kvT_put {t : List (Str × V)} {f : Str} {z : V} (n : f ∉ t.map Prod.fst) : putK (kvT t) (Sum.inr f) z = kvT (t ++ [(f, z)]) := by
  unfold putK
  rw [kvT_any, decide_eq_false n, if_neg (by decide), kvT_app]
/-- the value of a key -/
def look (t : List (Str × V)) (f : Str) : Option V := (t.find? fun p => decide (p.1 = f)).map Prod.snd
theorem look_cons (p : Str × V) (t : List (Str × V)) (f : Str) : look (p :: t) f = if p.1 = f then some p.2 else look t f := by
  unfold look
  rw [List.find?_cons]
  by_cases e : p.1 = f
  · rw [if_pos e, decide_eq_true e] <;> rfl
  · rw [if_neg e, decide_eq_false e]
theorem kvT_val : ∀ (t : List (Str × V)) (f : Str), valV (kvT t) (Sum.inr f) = look t f
  | [], f => rfl
  | p :: t, f => by
    rw [look_cons]
    by_cases e : p.1 = f
    · rw [if_pos e]
      exact valV_pos (by show (Sum.inr p.1 : Key) = Sum.inr f; rw [e])
    · rw [if_neg e]
      exact (valV_neg (p := (Sum.inr p.1, p.2)) (fun z => e (Sum.inr.inj z))).trans (kvT_val t f)
/-- a key's value, written anew -/
def putT (t : List (Str × V)) (f : Str) (z : V) : List (Str × V) := if f ∈ t.map Prod.fst then t.map fun p => if p.1 = f then (p.1, z) else p else t ++ [(f, z)]
theorem kvT_putT (t : List (Str × V)) (f : Str) (z : V) : putK (kvT t) (Sum.inr f) z = kvT (putT t f z) := by
  by_cases h : f ∈ t.map Prod.fst
  · unfold putK putT
    rw [kvT_any, decide_eq_true h, if_pos rfl, if_pos h]
    unfold kvT
    rw [List.map_map, List.map_map]
    refine List.map_congr_left fun p _ => ?_
    show (if (Sum.inr p.1 : Key) = Sum.inr f then ((Sum.inr p.1 : Key), z) else (Sum.inr p.1, p.2)) = (Sum.inr (if p.1 = f then (p.1, z) else p).1, (if p.1 = f then (p.1, z) else p).2)
    by_cases e : p.1 = f
    · rw [if_pos e, if_pos (by rw [e])]
    · rw [if_neg e, if_neg fun q => e (Sum.inr.inj q)]
  · rw [kvT_put h]
    unfold putT
    rw [if_neg h]
end FT


/-! forests as pairs of a flag and its parent, in any order. -/
namespace FT
open PySem L2 TL
/-- a dict of texts by texts -/
def prs (t : List (Str × Str)) : List (Key × V) := kvT (t.map fun p => (p.1, V.str p.2))
theorem prs_len (t : List (Str × Str)) : (prs t).length = t.length := by unfold prs; rw [kvT_len, List.length_map]
theorem prs_fst (t : List (Str × Str)) : (t.map fun p => (p.1, V.str p.2)).map Prod.fst = t.map Prod.fst := by rw [List.map_map] <;> rfl
theorem prs_keys (t : List (Str × Str)) : (prs t).map (·.1) = (t.map Prod.fst).map Sum.inr := by unfold prs kvT; rw [List.map_map, List.map_map, List.map_map] <;> rfl
theorem keys_prs (t : List (Str × Str)) : ((prs t).map fun kv => kV kv.1) = (t.map Prod.fst).map V.str := by
  unfold prs kvT
  rw [List.map_map, List.map_map, List.map_map] <;> rfl
theorem put_new {t : List (Str × Str)} {f z : Str} (n : f ∉ t.map Prod.fst) : putK (prs t) (Sum.inr f) (V.str z) = prs (t ++ [(f, z)]) := by
  unfold prs
  rw [kvT_put (by rw [prs_fst]; exact n), List.map_append] <;> rfl
/-- the parent of a flag -/
def par (t : List (Str × Str)) (a : Str) : Option Str := (t.find? fun p => decide (p.1 = a)).map Prod.snd
theorem par_cons (p : Str × Str) (t : List (Str × Str)) (a : Str) : par (p :: t) a = if p.1 = a then some p.2 else par t a := by
  unfold par
  rw [List.find?_cons]
  by_cases e : p.1 = a
  · rw [if_pos e, decide_eq_true e] <;> rfl
  · rw [if_neg e, decide_eq_false e]
theorem val_prs (a : Str) : ∀ t : List (Str × Str), valV (prs t) (Sum.inr a) = (par t a).map V.str
  | [] => rfl
  | p :: t => by
    have ih := val_prs a t
    unfold prs at ih ⊢
    rw [List.map_cons, kvT_val, look_cons, par_cons]
    rw [kvT_val] at ih
    by_cases e : p.1 = a
    · rw [if_pos e, if_pos e] <;> rfl
    · rw [if_neg e, if_neg e, ih]
theorem par_mem {t : List (Str × Str)} {a z : Str} (h : par t a = some z) : (a, z) ∈ t := by
  induction t with
  | nil => cases h
  | cons p t ih =>
    rw [par_cons] at h
    by_cases e : p.1 = a
    · rw [if_pos e] at h
      cases h
      exact List.mem_cons.mpr (.inl (by rw [← e]))
    · rw [if_neg e] at h
      exact List.mem_cons_of_mem _ (ih h)
theorem par_of {t : List (Str × Str)} {a z : Str} (nd : (t.map Prod.fst).Nodup) (h : (a, z) ∈ t) : par t a = some z := by
  induction t with
  | nil => cases h
  | cons p t ih =>
    obtain ⟨n1, n2⟩ := List.nodup_cons.mp nd
    rw [par_cons]
    rcases List.mem_cons.mp h with e | h
    · subst e
      exact if_pos rfl
    · rw [if_neg fun e => n1 (by rw [e]; exact List.mem_map.mpr ⟨_, h, rfl⟩)]
      exact ih n2 h
theorem par_none {t : List (Str × Str)} {a : Str} (n : a ∉ t.map Prod.fst) : par t a = none := by
  cases e : par t a with
  | none => rfl
  | some z => exact absurd (List.mem_map.mpr ⟨_, par_mem e, rfl⟩) n
theorem par_some {t : List (Str × Str)} {a : Str} (nd : (t.map Prod.fst).Nodup) (h : a ∈ t.map Prod.fst) : ∃ z, par t a = some z := by
  obtain ⟨p, hp, rfl⟩ := List.mem_map.mp h
  exact ⟨p.2, par_of nd hp⟩
/-- each parent has a lower rank -/
def Rk (t : List (Str × Str)) (rk : Str → Nat) : Prop := ∀ p ∈ t, rk p.1 < t.length ∧ (p.2 = "" ∨ (p.2 ∈ t.map Prod.fst ∧ rk p.2 < rk p.1))
/-- a forest of one to twelve flags -/
structure TreeOk (t : List (Str × Str)) : Prop where
  one : 1 ≤ t.length
  few : t.length ≤ 12
  nd : (t.map Prod.fst).Nodup
  nm : ∀ z ∈ t.map Prod.fst, NameL z
  up : ∃ rk : Str → Nat, Rk t rk
theorem TreeOk.perm {t u : List (Str × Str)} (p : t.Perm u) (o : TreeOk t) : TreeOk u := by
  obtain ⟨rk, hr⟩ := o.up
  have l := p.length_eq
  refine ⟨by have := o.one; omega, by have := o.few; omega, (p.map _).nodup_iff.mp o.nd, fun z h => o.nm z ((p.map _).mem_iff.mpr h), rk, fun q hq => ?_⟩
  obtain ⟨h1, h2⟩ := hr q (p.mem_iff.mpr hq)
  exact ⟨by omega, h2.imp id fun h => ⟨(p.map _).mem_iff.mp h.1, h.2⟩⟩
theorem TreeOk.root {t : List (Str × Str)} (o : TreeOk t) : ("" : Str) ∉ t.map Prod.fst := fun h => (o.nm _ h).ne rfl
/-- the step up -/
theorem TreeOk.step {t : List (Str × Str)} (o : TreeOk t) {rk : Str → Nat} (r : Rk t rk) {a : Str} (h : a ∈ t.map Prod.fst) : ∃ p : Str, par t a = some p ∧ (p = "" ∨ (p ∈ t.map Prod.fst ∧ rk p < rk a)) ∧ rk a < t.length := by
  obtain ⟨z, hz⟩ := par_some o.nd h
  obtain ⟨h1, h2⟩ := r _ (par_mem hz)
  exact ⟨z, hz, h2, h1⟩
/-! ### paths -/
/-- the flags from the top down to a place; n bounds the steps -/
def upN (t : List (Str × Str)) : Nat → Str → List Str
  | 0, _ => []
  | n + 1, a => if a = "" then [] else upN t n ((par t a).getD "") ++ [a]
def pathOf (t : List (Str × Str)) (a : Str) : List Str := upN t t.length a
/-- a place: the root or a flag -/
def Pl (t : List (Str × Str)) (a : Str) : Prop := a = "" ∨ a ∈ t.map Prod.fst
/-! ### sums over children -/
/-- the sum of sizes of the children of a place -/
def kids (t : List (Str × Str)) (p : Str) : List Str := (t.filter fun q => decide (q.2 = p)).map Prod.fst
def resid (t : List (Str × Str)) (n : Int) (sz : Str → Int) (p : Str) : Int := (if p = "" then n else sz p) - ((kids t p).map sz).sum
theorem kids_snoc (t : List (Str × Str)) (q : Str × Str) (p : Str) : kids (t ++ [q]) p = kids t p ++ (if q.2 = p then [q.1] else []) := by
  unfold kids
  rw [List.filter_append, List.map_append]
  by_cases e : q.2 = p
  · rw [if_pos e, List.filter_cons, decide_eq_true e, List.filter_nil] <;> rfl
  · rw [if_neg e, List.filter_cons, decide_eq_false e, List.filter_nil] <;> rfl
theorem kids_perm {t u : List (Str × Str)} (h : t.Perm u) (p : Str) : (kids t p).Perm (kids u p) := (h.filter _).map _
theorem sum_perm {l m : List Int} (h : l.Perm m) : l.sum = m.sum := by
  induction h with
  | nil => rfl
  | cons x _ ih => rw [List.sum_cons, List.sum_cons, ih]
  | swap x y l => rw [List.sum_cons, List.sum_cons, List.sum_cons, List.sum_cons]; omega
  | trans _ _ a b => rw [a, b]
theorem resid_perm {t u : List (Str × Str)} (h : t.Perm u) (n : Int) (sz : Str → Int) (p : Str) : resid t n sz p = resid u n sz p := by
  unfold resid
  rw [sum_perm ((kids_perm h p).map sz)]
theorem resid_snoc (t : List (Str × Str)) (q : Str × Str) (n : Int) (sz : Str → Int) (p : Str) : resid (t ++ [q]) n sz p = if q.2 = p then resid t n sz p - sz q.1 else resid t n sz p := by
  unfold resid
  rw [kids_snoc]
  by_cases e : q.2 = p
  · rw [if_pos e, if_pos e, List.map_append, List.sum_append]
    show _ - (_ + (sz q.1 + 0)) = _
    omega
  · rw [if_neg e, if_neg e, List.append_nil]
end FT


namespace FT
open PySem L2 TL ClX
def letters : Str := "abcdefghijklmnopqrstuvwxyz"
theorem in_letters {c : Nat} (h0 : 97 ≤ c) (h1 : c ≤ 122) : c ∈ letters.cps.toList := by
  have all : ∀ i : Fin 26, (97 + i.1) ∈ letters.cps.toList := by decide +kernel
  have q := all ⟨c - 97, by omega⟩
  rw [show 97 + (⟨c - 97, by omega⟩ : Fin 26).1 = c by show 97 + (c - 97) = c; omega] at q
  exact q
/-- the module's own constants -/
structure Cs (mg : Str → Option Value) : Prop where
  long : ∃ t, mg "LONGEST" = some (.int 8 t)
  lett : ∃ t, mg "LETTERS" = some (.str letters t)
/-- the class Forest: its two constants -/
structure Fc (K : PySem.W.Frag) (mg : Str → Option Value) (CF : Addr) (mc : Value) : Prop where
  gF : mg "Forest" = some (.ref CF)
  rd : CRead K CF mc
  most : ∃ u, CVal K CF mc "MOST" (.int 12) u
  root : ∃ u, CVal K CF mc "ROOT" (.str "") u
/-- one of the text's defs, called by place -/
structure Dn (P : Program) (w : World) (K : PySem.W.Frag) (mg : Str → Option Value) (base : Heap) (CX : CXT) (k : Nat) (x : Str) (ps : List Str) (sp : Sp) (f : Addr) (fd : FuncData) : Prop where
  ok : FnOk P w K mg base CX k f fd ps sp
  kp : PySem.W.keepIn K (.ref f) = true
  bn : Binds K fd ps []
  mgn : mg x = some (.ref f)
def spIsName : Sp := fun vs H Q _ => ∃ z : Str, vs = [.str z] ∧ NameL z ∧ ∀ H', Same H H' → Q (.bl true) H'
def spIsAnc : Sp := fun vs H Q _ => ∃ (q : Addr) (f : Str) (t : List (Str × Str)), vs = [.ref q, .str f] ∧ H q = some (.dK (prs t)) ∧ TreeOk t ∧ f ∈ t.map Prod.fst ∧ ∀ H', Same H H' → Q (.bl false) H'
def spNeed : Sp := fun vs H Q _ => ∃ (q : Addr) (t : List (Str × Str)), vs = [.ref q] ∧ H q = some (.dK (prs t)) ∧ TreeOk t ∧ ∀ H', Same H H' → Q .non H'
section
variable {P : Program} {w : World} {K : PySem.W.Frag} {mg : Str → Option Value} {base : Heap}
theorem scIsName : FnScope ["value", "letter"] ["value"] (defScope s_is_name) := ⟨rfl, rfl, rfl, by decide +kernel, rfl, by decide +kernel, by decide +kernel⟩
theorem ok_isName {f : Addr} {fd : FuncData} (F : Fun K "is_name" "is_name" s_is_name f fd) (T : Nm mg) (C : Cs mg) : FnOk P w K mg base CX0 1 f fd ["value"] spIsName := by
  obtain ⟨t1, g1⟩ := C.long
  obtain ⟨t2, g2⟩ := C.lett
  refine F.ok scIsName (fun vs H Q E h => ?_) (fun cdv A outer s H vs Q E hr h => ?_)
  · obtain ⟨z, rfl, _⟩ := h
    rfl
  · obtain ⟨z, rfl, nm, k⟩ := h
    refine ⟨_, pss_cons (ps_if (PW.pt (pw_or (pt_not (pt_val (pe_callB call_isi (by rfl) T.isi (by decide +kernel) (pa_cons (pv 0) (pa_cons (pe_bltn (v := .ty "str") (u := .type "str") (by rfl) T.str (by decide +kernel) rfl) pa_nil)))))
        (pw_or (pt_not (pt_chain op_le op_le pe_int (pe_callB call_len_str (by rfl) T.len PySem.boot_len (pa_cons (pv 0) pa_nil)) (pe_glob (v := .int 8) (by rfl) g1 ⟨_, rfl⟩))) (pw_or1 (pt_cmpR op_eq (pv 0) pe_str (nomark _))))))
        (pss_one (ps_ret pe_bl)) pss_nil)
      (pss_one (ps_ret (pe_callB (cr_all rfl) (by rfl) T.all (by decide +kernel) (pa_cons (pe_lc (own := [("letter", 1)]) (g := gName 1) (tt := tYes) (te := tOp (fun x y H Q => ∃ (c : Nat) (z : Str), x = .str ⟨#[c]⟩ ∧ y = .str z ∧ Q (.bl (decide (c ∈ z.cps.toList))) H) (tVar 1) (tC (.str letters))) rfl scIsName.nd (pi_str (pv 0))
        (blkOk_by (N := ["value", "letter"]) (sc := defScope s_is_name) (by decide +kernel))
        (fun _ _ _ _ _ => pg_name (i := 1) scIsName.nd rfl (Or.inl rfl)) (fun _ _ _ _ _ => pts_nil) (fun _ _ _ _ _ => pe_cmpR op_in_sign (pv 1) (pe_glob (v := .str letters) (by rfl) g2 ⟨_, rfl⟩) rfl)) pa_nil)))), ?_⟩
    have l := nm.len
    have big : 1000 ≤ sizeLine := by decide
    refine ⟨_, rfl, .str z, _, _, _, true, rfl, .ty _, .base (.str z), kit_ty (by decide +kernel), true, rfl, ?_⟩
    refine iteF ?_
    refine ⟨_, rfl, z, rfl, by omega, _, _, rfl, rfl, _, rfl, ?_⟩
    rw [if_pos (decide_eq_true (by omega))]
    refine ⟨_, _, rfl, rfl, _, rfl, ?_⟩
    rw [decide_eq_true (show (z.length : Int) ≤ 8 by omega)]
    refine iteF ?_
    refine ⟨_, rfl, rfl, _, rfl, ?_⟩
    rw [decide_eq_false (show ¬ V.str z = V.str "self" from fun e => nm.self (V.str.inj e))]
    refine iteF ?_
    refine ⟨_, rfl, z, rfl, fun D nD => lc_it walk_str (fun i H' => Same H H' ∧ H' D = some (.lst ((List.replicate i true).map V.bl))) ⟨same_new nD, upd_same⟩ (fun _ _ _ _ => trivial) ?_ ?_⟩
    · intro i x Ha Hb hi ⟨q1, q2⟩ ⟨e, ch, hc, ex⟩
      subst e
      subst ex
      have hm : ch ∈ letters.cps.toList := by
        have hz : ch ∈ tl z := by
          rw [← Array.getElem?_toList] at hc
          exact List.mem_of_getElem? hc
        exact in_letters (nm.1 ch hz).1 (nm.1 ch hz).2
      refine ⟨rfl, ?_⟩
      refine ⟨_, rfl, ch, letters, rfl, rfl, _, q2, ?_, ?_, ?_⟩
      · rw [List.length_map, List.length_replicate]
        have : z.cps.size = z.length := rfl
        omega
      · exact Same.put q1 nD
      · rw [upd_same, decide_eq_true hm, List.replicate_succ', List.map_append] <;> rfl
    · intro H' ⟨q1, q2⟩
      refine ⟨D, _, rfl, SqL.of q2, ?_⟩
      have e : (List.replicate z.cps.size true).all id = true := by simp
      rw [e]
      exact k H' q1
def rankS (t : List (Str × Str)) (rk : Str → Nat) (σ : St) : Nat := match σ[3]? with
  | some (some (V.str a)) => if a ∈ t.map Prod.fst then rk a + 1 else 0
  | _ => 0
theorem scIsAnc : FnScope ["parents", "name", "seen", "above"] ["parents", "name"] (defScope s_is_ancestor) := ⟨rfl, rfl, rfl, by decide +kernel, rfl, by decide +kernel, by decide +kernel⟩
theorem ok_isAnc {f : Addr} {fd : FuncData} (F : Fun K "is_ancestor" "is_ancestor" s_is_ancestor f fd) : FnOk P w K mg base CX0 1 f fd ["parents", "name"] spIsAnc := by
  refine F.ok scIsAnc (fun vs H Q E h => ?_) (fun cdv A outer s H vs Q E hr h => ?_)
  · obtain ⟨q, g, t, rfl, _⟩ := h
    rfl
  · obtain ⟨q, g, t, rfl, hq, o, hg, k⟩ := h
    have hu := hu_of hr
    obtain ⟨rk, r⟩ := o.up
    refine ⟨_, pss_cons (ps_set (i := 2) scIsAnc.nd rfl (.inl rfl) (pe_lst pa_nil))
      (pss_cons (ps_set (i := 3) scIsAnc.nd rfl (.inl rfl) (pe_dget hu (pv 0) (pv 1) (fun _ _ => rfl)))
      (pss_cons (ps_while PassesOwn.never (PW.pt (pw_and (pt_cmp (pc_din hu (pv 3) (pv 0))) (pw_and1 (pt_cmpR op_notIn_seq (pv 3) (pv 2) rfl))))
        (pss_cons (ps_if (pt_cmpR op_eq (pv 3) (pv 1) (nomark _)) (pss_one (ps_ret pe_bl)) pss_nil)
        (pss_cons (ps_expr (pe_bm PySem.F.plainAttrs_list PySem.F.slot_list_append PySem.F.type_list_append mt_append (pv 2) (pa_cons (pv 3) pa_nil)))
        (pss_one (ps_set (i := 3) scIsAnc.nd rfl (.inl rfl) (pe_dget hu (pv 0) (pv 3) (fun _ _ => rfl)))))))
      (pss_one (ps_ret pe_bl)))), ?_⟩
    obtain ⟨p0, v0, w0, i0⟩ := o.step r hg
    have few := o.few
    have big : 1000 ≤ sizeLine := by decide
    refine ⟨by show 0 ≤ sizeLine; omega, fun l nl => ?_⟩
    have hq1 : (upd H l (.lst [])) q = some (.dK (prs t)) := by rw [upd_ne (ne_of_none hq nl)]; exact hq
    have ql : q ≠ l := ne_of_none hq nl
    refine ⟨_, rfl, _, rfl, q, V.str p0, rfl, by have z := DGet.k (k := Sum.inr g) hq1; rw [val_prs, v0] at z; exact z, ?_⟩
    refine while_by (fun σ H' => ∃ (a : Str) (ws : List Str), σ = [some (.ref q), some (.str g), some (.ref l), some (.str a)] ∧ H' l = some (.lst (ws.map V.str)) ∧ (∀ b u, H b = some u → H' b = some u) ∧ (a = "" ∨ (a ∈ t.map Prod.fst ∧ rk a < rk g ∧ ws.length + rk a < t.length)))
      (fun σ _ => rankS t rk σ) ⟨p0, [], rfl, upd_same, same_new nl, w0.imp id fun z => ⟨z.1, z.2, by simp only [List.length_nil]; omega⟩⟩ ?_ ?_
    · rintro σ Hx ⟨a, ws, rfl, hl, sm, ha⟩
      have hqx := sm _ _ hq
      have dg := DGet.k (k := Sum.inr a) hqx
      rw [val_prs] at dg
      refine ⟨_, rfl, _, rfl, q, _, rfl, dg, _, rfl, ?_⟩
      rcases ha with rfl | ⟨ha, ia, la⟩
      · rw [par_none o.root]
        refine iteF ?_
        exact iteF (k Hx sm)
      · obtain ⟨p, hv, hp, il⟩ := o.step r ha
        rw [hv]
        show if true = true then _ else _
        rw [if_pos rfl]
        refine ⟨_, rfl, _, rfl, l, _, rfl, .inl (SqL.of hl), rfl, flat_strs ws, _, rfl, ?_⟩
        rw [inV_strs]
        by_cases hw : a ∈ ws
        · rw [decide_eq_true hw]
          exact iteF (k Hx sm)
        · rw [decide_eq_false hw]
          show if true = true then _ else _
          rw [if_pos rfl]
          refine ⟨_, rfl, _, rfl, rfl, _, rfl, ?_⟩
          rw [decide_eq_false (show ¬ V.str a = V.str g from fun e => by
            have := V.str.inj e
            subst this
            omega)]
          refine iteF ?_
          refine ⟨_, rfl, .inl ⟨rfl, _, SqL.of hl⟩, _, rfl, l, _, _, rfl, rfl, hl, by rw [List.length_map]; omega, ?_⟩
          have hq2 : (upd Hx l (.lst (ws.map V.str ++ [.str a]))) q = some (.dK (prs t)) := by rw [upd_ne ql]; exact hqx
          refine ⟨_, rfl, _, rfl, q, V.str p, rfl, by have z := DGet.k (k := Sum.inr a) hq2; rw [val_prs, hv] at z; exact z, ?_⟩
          refine ⟨⟨p, ws ++ [a], rfl, by rw [upd_same, List.map_append] <;> rfl, fun b u e => ?_, ?_⟩, ?_⟩
          · rw [upd_ne (ne_of_none e nl)]
            exact sm b u e
          · rcases hp with rfl | ⟨hp, ip⟩
            · exact .inl rfl
            · refine .inr ⟨hp, by omega, ?_⟩
              rw [List.length_append]
              show ws.length + 1 + rk p < t.length
              omega
          · show rankS t rk [some (.ref q), some (.str g), some (.ref l), some (.str p)] < rankS t rk [some (.ref q), some (.str g), some (.ref l), some (.str a)]
            have e1 : rankS t rk [some (.ref q), some (.str g), some (.ref l), some (.str a)] = rk a + 1 := if_pos ha
            rw [e1]
            rcases hp with rfl | ⟨hp, ip⟩
            · have e2 : rankS t rk [some (.ref q), some (.str g), some (.ref l), some (.str "")] = 0 := if_neg o.root
              rw [e2]
              omega
            · have e2 : rankS t rk [some (.ref q), some (.str g), some (.ref l), some (.str p)] = rk p + 1 := if_pos hp
              rw [e2]
              omega
    · intro σ Hx Qa Qb h
      rintro ⟨v, e1, w, e2, a, r, e3, g, d, e4, z⟩
      refine ⟨v, e1, w, e2, a, r, e3, g, d, e4, ?_⟩
      cases d with
      | false =>
        rw [if_neg (by decide)] at z ⊢
        exact h _ _ z
      | true =>
        rw [if_pos rfl] at z ⊢
        obtain ⟨v, e1, w, e2, p, xs, e3, e4, e5, e6, b, e7, z⟩ := z
        exact ⟨v, e1, w, e2, p, xs, e3, e4, e5, e6, b, e7, h _ _ z⟩
theorem scNeed : FnScope ["parents", "name", "above", "other"] ["parents"] (defScope s_need_parents) := ⟨rfl, rfl, rfl, by decide +kernel, rfl, by decide +kernel, by decide +kernel⟩
theorem ok_need {f fI fA CF : Addr} {mc : Value} {fd fdI fdA : FuncData} (F : Fun K "need_parents" "need_parents" s_need_parents f fd) (T : Nm mg) (C : Cs mg) (Z : Fc K mg CF mc)
    (FI : Dn P w K mg base CX0 1 "is_name" ["value"] spIsName fI fdI) (FA : Dn P w K mg base CX0 1 "is_ancestor" ["parents", "name"] spIsAnc fA fdA) : FnOk P w K mg base CX0 2 f fd ["parents"] spNeed := by
  obtain ⟨um, cm⟩ := Z.most
  obtain ⟨ur, cr⟩ := Z.root
  refine F.ok scNeed (fun vs H Q E h => ?_) (fun cdv A outer s H vs Q E hr h => ?_)
  · obtain ⟨q, t, rfl, _⟩ := h
    rfl
  · obtain ⟨q, t, rfl, hq, o, k⟩ := h
    have hu := hu_of hr
    obtain ⟨rk, r⟩ := o.up
    refine ⟨_, pss_cons (ps_if (PW.pt (pw_or (pt_not (pt_val (pe_callB call_isi (by rfl) T.isi (by decide +kernel) (pa_cons (pv 0) (pa_cons (pe_bltn (v := .ty "dict") (u := .type "dict") (by rfl) T.dct (by decide +kernel) rfl) pa_nil)))))
        (pw_or1 (pt_not (pt_chain op_le op_le pe_int (pe_callB call_lenD (by rfl) T.len PySem.boot_len (pa_cons (pv 0) pa_nil)) (pe_cval (pe_glob (v := .ref CF) (by rfl) Z.gF rfl))))))) pss_never pss_nil)
      (pss_cons (ps_if (pt_not (pt_val (pe_callB (cr_all rfl) (by rfl) T.all (by decide +kernel) (pa_cons (pe_lock (pe_lc (own := [("name", 1)]) (g := gName 1) (tt := tYes) rfl scNeed.nd (pi_keys (pv 0))
        (blkOk_by (N := ["parents", "name", "above", "other"]) (sc := defScope s_need_parents) (by decide +kernel))
        (fun _ _ _ _ _ => pg_name (i := 1) scNeed.nd rfl (Or.inl rfl)) (fun _ _ _ _ _ => pts_nil) (fun _ _ _ _ _ => pe_call FI.ok hr rfl FI.mgn FI.kp FI.bn .nil pass0 (pa_cons (pv 1) pa_nil)))) pa_nil)))) pss_never pss_nil)
      (pss_one (ps_for PassesOwn.never rfl (pi_list (pe_callB (call_sortedD rfl) (by rfl) T.srt (by decide +kernel) (pa_cons (pv 0) pa_nil))) (pg_name (i := 1) scNeed.nd rfl (.inl rfl))
        (pss_cons (ps_set (i := 2) scNeed.nd rfl (.inl rfl) (pe_dget hu (pv 0) (pv 1) (fun _ _ => rfl)))
        (pss_cons (ps_if (PW.pt (pw_or (pt_not (pt_val (pe_callB call_isi (by rfl) T.isi (by decide +kernel) (pa_cons (pv 2) (pa_cons (pe_bltn (v := .ty "str") (u := .type "str") (by rfl) T.str (by decide +kernel) rfl) pa_nil)))))
          (pw_or1 (PW.pt (pw_and (pt_cmpR op_ne (pv 2) (pe_cval (pe_glob (v := .ref CF) (by rfl) Z.gF rfl)) (nomark _)) (pw_and1 (pt_cmp (pc_dnotin hu (pv 2) (pv 0))))))))) pss_never pss_nil)
        (pss_one (ps_if (pt_val (pe_call FA.ok hr rfl FA.mgn FA.kp FA.bn .nil pass0 (pa_cons (pe_lock (pe_dc (own := [("other", 3)]) (g := gName 3) (tt := tB (tCB (rIsi K) (tCons (tDGet (tVar 0) (tVar 3)) (tCons (tC (.ty "str")) tNil)))) rfl scNeed.nd (pi_keys (pv 0))
          (blkOk_by (N := ["parents", "name", "above", "other"]) (sc := defScope s_need_parents) (by decide +kernel))
          (fun _ _ _ _ _ => pg_name (i := 3) scNeed.nd rfl (Or.inl rfl)) (fun _ _ _ _ _ => pts_one (pt_val (pe_callB call_isi (by rfl) T.isi (by decide +kernel) (pa_cons (pe_dget hu (pv 0) (pv 3) (fun _ _ => rfl)) (pa_cons (pe_bltn (v := .ty "str") (u := .type "str") (by rfl) T.str (by decide +kernel) rfl) pa_nil)))))
          (fun _ _ _ _ _ => pv 3) (fun _ _ _ _ _ => pe_dget hu (pv 0) (pv 3) (fun _ _ => rfl)))) (pa_cons (pv 1) pa_nil)))) pss_never pss_nil))))))), ?_⟩
    have few := o.few
    have one := o.one
    have big : 1000 ≤ sizeLine := by decide
    have lp := prs_len t
    -- a dict, of one to twelve
    refine ⟨_, rfl, .ref q, _, _, _, true, rfl, .ty _, .base (.dK hq), kit_ty (by decide +kernel), true, rfl, ?_⟩
    refine iteF ?_
    refine ⟨_, rfl, q, _, rfl, hq, _, _, rfl, rfl, _, rfl, ?_⟩
    rw [if_pos (decide_eq_true (by omega))]
    refine ⟨CF, mc, _, um, rfl, Z.rd, cm, _, _, rfl, rfl, _, rfl, ?_⟩
    rw [decide_eq_true (show ((prs t).length : Int) ≤ 12 by omega)]
    refine iteF ?_
    -- all are names
    refine ⟨q, .dK (prs t), hq, trivial, fun od => ⟨_, rfl, q, od, rfl, .inl ⟨prs t, upd_same, fun D nD => ?_⟩⟩⟩
    have Dq : D ≠ q := (ne_of_none upd_same nD).symm
    have key : ∀ {i : Nat} {k : Key} {v : V}, (prs t)[i]? = some (k, v) → ∃ a p : Str, k = Sum.inr a ∧ v = .str p ∧ t[i]? = some (a, p) := fun {i k v} h => by
      unfold prs kvT at h
      rw [List.map_map, List.getElem?_map] at h
      obtain ⟨⟨a, p⟩, hp, e⟩ := Option.map_eq_some_iff.mp h
      cases e
      exact ⟨a, p, rfl, rfl, hp⟩
    refine lc_it walk_keys (fun i H' => Same (upd H q (.frz od (.dK (prs t)))) H' ∧ H' D = some (.lst ((List.replicate i true).map V.bl))) ⟨same_new nD, upd_same⟩ (fun i H' _ z => z.1 q _ upd_same) ?_ ?_
    · intro i x Ha Hb hi ⟨q1, q2⟩ ⟨e, k', v, hk, ex⟩
      subst e
      subst ex
      obtain ⟨a, p, rfl, rfl, hp⟩ := key hk
      refine ⟨rfl, ?_⟩
      refine ⟨_, rfl, a, rfl, o.nm a (List.mem_map.mpr ⟨(a, p), List.mem_of_getElem? hp, rfl⟩), fun H' s' => ⟨_, s' D _ q2, ?_, ?_, ?_⟩⟩
      · rw [List.length_map, List.length_replicate]
        omega
      · intro b u e
        rw [upd_ne (ne_of_none e nD)]
        exact s' _ _ (q1 b u e)
      · rw [upd_same, List.replicate_succ', List.map_append] <;> rfl
    intro H1 ⟨q1, q2⟩
    refine ⟨q1 q _ upd_same, D, _, rfl, SqL.of (by rw [upd_ne Dq]; exact q2), true, by rw [show (List.replicate (prs t).length true).all id = true by simp], ?_⟩
    refine iteF ?_
    have s1 : Same H (upd H1 q (.dK (prs t))) := unlock_same hq q1
    -- one by one, in their order
    refine ⟨_, rfl, q, prs t, t.map Prod.fst, rfl, .inl upd_same, prs_keys t, by rw [List.length_map]; omega, fun ys p perm srt np => ⟨p, rfl, ⟨_, SqL.of upd_same⟩, ?_⟩⟩
    obtain ⟨H2, e2⟩ : ∃ X, X = upd (upd H1 q (.dK (prs t))) p (.lst (ys.map V.str)) := ⟨_, rfl⟩
    have s2 : Same H H2 := s1.trans (e2 ▸ same_new np)
    have at2 : H2 p = some (.lst (ys.map V.str)) := by rw [e2]; exact upd_same
    rw [← e2]
    refine for_it walk_list (fun j σ' H' => (∃ u1 u2 u3, σ' = [some (.ref q), u1, u2, u3]) ∧ Same H2 H') ⟨⟨_, _, _, rfl⟩, fun _ _ e => e⟩ (fun j σ' H' _ z => SqL.of (z.2 _ _ at2)) ?_ ?_
    · intro j x σ' Ha Hb hj ⟨⟨u1, u2, u3, e⟩, sa⟩ ⟨eb, ex⟩
      subst e
      subst eb
      rw [List.getElem?_map] at ex
      obtain ⟨a, ha, rfl⟩ := Option.map_eq_some_iff.mp ex
      have ma : a ∈ t.map Prod.fst := perm.mem_iff.mp (List.mem_of_getElem? ha)
      obtain ⟨pa, hv, hpa, ia⟩ := o.step r ma
      have s0a : Same H Hb := s2.trans sa
      have hqa := s0a _ _ hq
      refine ⟨_, rfl, _, rfl, q, V.str pa, rfl, by have z := DGet.k (k := Sum.inr a) hqa; rw [val_prs, hv] at z; exact z, ?_⟩
      refine ⟨_, rfl, .str pa, _, _, _, true, rfl, .ty _, .base (.str pa), kit_ty (by decide +kernel), true, rfl, ?_⟩
      refine iteF ?_
      have anc : tIfS (tB (tCall spIsAnc [] E0 (tCons (tLockE (tDc (iKeys (tVar 0)) (gName 3) (tB (tCB (rIsi K) (tCons (tDGet (tVar 0) (tVar 3)) (tCons (tC (.ty "str")) tNil)))) (tVar 3) (tDGet (tVar 0) (tVar 3)) [3])) (tCons (tVar 1) tNil)))) tNever tNext
          ⟨fun σ' H' => (∃ u1 u2 u3, σ' = [some (.ref q), u1, u2, u3]) ∧ Same H2 H', fun v H' => Q v H', fun σ' H' => Q .non H', fun σ' H' => (∃ u1 u2 u3, σ' = [some (.ref q), u1, u2, u3]) ∧ Same H2 H'⟩ [some (.ref q), some (.str a), some (.str pa), u3] Hb := by
        refine ⟨q, .dK (prs t), hqa, trivial, fun od => ⟨_, rfl, q, od, rfl, .inl ⟨prs t, upd_same, fun D nD => ?_⟩⟩⟩
        have Dq : D ≠ q := (ne_of_none upd_same nD).symm
        refine dc_it walk_keys (fun i H' => Same (upd Hb q (.frz od (.dK (prs t)))) H' ∧ H' D = some (.dK (prs (t.take i)))) ⟨same_new nD, upd_same⟩ (fun i H' _ z => z.1 q _ upd_same) ?_ ?_
        · intro i x Hc Hd hi ⟨q1, q2⟩ ⟨e, k', v, hk, ex⟩
          subst e
          subst ex
          obtain ⟨b, r', rfl, rfl, hp⟩ := key hk
          have fz := q1 q _ upd_same
          have dg : DGet Hd q (.str b) (some (.str r')) := .inl ⟨prs t, Sum.inr b, .inr ⟨od, fz⟩, rfl, by rw [val_prs, par_of o.nd (List.mem_of_getElem? hp)] <;> rfl⟩
          have nb : b ∉ (t.take i).map Prod.fst := fun hm => by
            rw [List.map_take] at hm
            obtain ⟨j, hj⟩ := List.mem_iff_getElem?.mp hm
            have jl := (List.getElem?_eq_some_iff.mp hj).1
            rw [List.length_take] at jl
            rw [List.getElem?_take, if_pos (by omega)] at hj
            have e0 : (t.map Prod.fst)[i]? = some b := by rw [List.getElem?_map, hp] <;> rfl
            have := (List.getElem?_inj (by omega) o.nd).mp (hj.trans e0.symm)
            omega
          refine ⟨rfl, ?_⟩
          refine ⟨_, rfl, _, rfl, q, _, rfl, dg, .str r', _, _, _, true, rfl, .ty _, .base (.str r'), kit_ty (by decide +kernel), true, rfl, ?_⟩
          show if true = true then _ else _
          rw [if_pos rfl]
          refine ⟨_, rfl, _, rfl, _, rfl, q, _, rfl, dg, prs (t.take i), Sum.inr b, rfl, q2, ?_, ?_, ?_⟩
          · rw [prs_len, List.length_take]
            omega
          · intro c u e
            rw [upd_ne (ne_of_none e nD)]
            exact q1 c u e
          · rw [upd_same, put_new nb, take_more hp]
        · intro Hc ⟨q1, q2⟩
          rw [lp, List.take_length] at q2
          refine ⟨q1 q _ upd_same, _, rfl, D, a, t, rfl, by rw [upd_ne Dq]; exact q2, o, ma, fun H' s' => ⟨false, rfl, iteF ⟨⟨_, _, _, rfl⟩, (sa.trans (unlock_same hqa q1)).trans s'⟩⟩⟩
      rcases hpa with rfl | ⟨hp, _⟩
      · refine ⟨_, rfl, CF, mc, _, ur, rfl, Z.rd, cr, rfl, _, rfl, ?_⟩
        rw [decide_eq_true rfl]
        refine iteF ?_
        exact iteF anc
      · obtain ⟨pp, hv2, _⟩ := o.step r hp
        refine ⟨_, rfl, CF, mc, _, ur, rfl, Z.rd, cr, rfl, _, rfl, ?_⟩
        have ne : ¬ V.str pa = V.str "" := fun e => o.root (by rw [← V.str.inj e]; exact hp)
        rw [decide_eq_false ne]
        show if true = true then _ else _
        rw [if_pos rfl]
        refine ⟨_, rfl, _, rfl, q, V.str pp, rfl, by have z := DGet.k (k := Sum.inr pa) hqa; rw [val_prs, hv2] at z; exact z, _, rfl, ?_⟩
        exact iteF anc
    · intro σ' H' ⟨_, sa⟩
      exact k H' (s2.trans sa)
/-! ### Forest -/
/-- a forest at x, its pairs ts -/
def FAt (CF : Addr) (H : Hp) (x : Addr) (ts : List (Str × Str)) : Prop := ∃ dx dq, H x = some (.ins CF dx [("above", .ref dq)]) ∧ H dq = some (.dK (prs ts))
theorem FAt.mono {CF x : Addr} {H H' : Hp} {ts : List (Str × Str)} (s : Same H H') (h : FAt CF H x ts) : FAt CF H' x ts := let ⟨dx, dq, e1, e2⟩ := h; ⟨dx, dq, s _ _ e1, s _ _ e2⟩
/-- in ascending order -/
def Asc (ts : List (Str × Str)) : Prop := PyProof.Rows.sortedS (ts.map Prod.fst) = true
/-- facts of a class of the text -/
structure FoC (K : PySem.W.Frag) (CF : Addr) : Prop where
  cl : Cls K CF
  nA : NoAttr K CF "above"
def spFInit (CF : Addr) : Sp := fun vs H Q _ => ∃ (x q dx : Addr) (t : List (Str × Str)), vs = [.ref x, .ref q] ∧ H x = some (.ins CF dx []) ∧ H q = some (.dK (prs t)) ∧ TreeOk t ∧
  ∀ (H' : Hp) (ts : List (Str × Str)), ts.Perm t → Asc ts → FAt CF H' x ts → (∀ b o, b ≠ x → H b = some o → H' b = some o) → Q .non H'
def spFFlags (CF : Addr) : Sp := fun vs H Q _ => ∃ (x : Addr) (ts : List (Str × Str)), vs = [.ref x] ∧ FAt CF H x ts ∧ ∀ p, H p = none → Q (.ref p) (upd H p (.lst ((ts.map Prod.fst).map V.str)))
def spFParents (CF : Addr) : Sp := fun vs H Q _ => ∃ (x : Addr) (ts : List (Str × Str)), vs = [.ref x] ∧ FAt CF H x ts ∧ ∀ p, H p = none → Q (.ref p) (upd H p (.dK (prs ts)))
theorem scFInit : FnScope ["self", "parents", "name"] ["self", "parents"] (defScope s_Forest___init__) := ⟨rfl, rfl, rfl, by decide +kernel, rfl, by decide +kernel, by decide +kernel⟩
theorem perm_pairs : ∀ {ts t : List (Str × Str)}, (t.map Prod.fst).Nodup → (ts.map Prod.fst).Perm (t.map Prod.fst) → (∀ p ∈ ts, p ∈ t) → ts.Perm t
  | [], t, _, pf, _ => by
    have := pf.length_eq
    rw [List.length_map, List.length_map] at this
    rw [List.length_eq_zero_iff.mp (this.symm : t.length = 0)]
  | p :: ts, t, nd, pf, h => by
    have mp := h p (List.mem_cons_self ..)
    have pe := List.perm_cons_erase mp
    have pk : (ts.map Prod.fst).Perm ((t.erase p).map Prod.fst) := (pf.trans (pe.map Prod.fst)).cons_inv
    have nk := (pe.map Prod.fst).nodup_iff.mp nd
    obtain ⟨n1, n2⟩ := List.nodup_cons.mp (show (p.1 :: (t.erase p).map Prod.fst).Nodup from nk)
    refine ((perm_pairs n2 pk fun q hq => ?_).cons p).trans pe.symm
    rcases List.mem_cons.mp (pe.mem_iff.mp (h q (List.mem_cons_of_mem _ hq))) with e | m
    · exfalso
      refine n1 (pk.mem_iff.mp (List.mem_map.mpr ⟨q, hq, ?_⟩))
      rw [e]
    · exact m
theorem ok_finit {f fN CF : Addr} {fd fdN : FuncData} (F : Fun K "__init__" "Forest.__init__" s_Forest___init__ f fd) (T : Nm mg) (O : FoC K CF) (GN : Dn P w K mg base CX0 2 "need_parents" ["parents"] spNeed fN fdN) :
    FnOk P w K mg base CX0 3 f fd ["self", "parents"] (spFInit CF) := by
  refine F.ok scFInit (fun vs H Q E h => ?_) (fun cdv A outer s H vs Q E hr h => ?_)
  · obtain ⟨x, q, dx, t, rfl, _⟩ := h
    rfl
  · obtain ⟨x, q, dx, t, rfl, hx, hq, o, k⟩ := h
    have hu := hu_of hr
    refine ⟨_, pss_cons (ps_expr (pe_call GN.ok hr rfl GN.mgn GN.kp GN.bn .nil pass0 (pa_cons (pv 1) pa_nil)))
      (pss_one (ps_fld (pv 0) (pe_dc (own := [("name", 2)]) (g := gName 2) (tt := tYes) rfl scFInit.nd (pi_list (pe_callB (call_sortedD rfl) (by rfl) T.srt (by decide +kernel) (pa_cons (pv 1) pa_nil)))
        (blkOk_by (N := ["self", "parents", "name"]) (sc := defScope s_Forest___init__) (by decide +kernel))
        (fun _ _ _ _ _ => pg_name (i := 2) scFInit.nd rfl (Or.inl rfl)) (fun _ _ _ _ _ => pts_nil) (fun _ _ _ _ _ => pv 2) (fun _ _ _ _ _ => pe_dget hu (pv 1) (pv 2) (fun _ _ => rfl))) rfl)), ?_⟩
    have few := o.few
    have big : 1000 ≤ sizeLine := by decide
    refine ⟨_, rfl, q, t, rfl, hq, o, fun H1 s1 => ?_⟩
    have hq1 := s1 _ _ hq
    refine ⟨_, rfl, q, prs t, t.map Prod.fst, rfl, .inl hq1, prs_keys t, by rw [List.length_map]; omega, fun ys p perm srt np => ⟨p, rfl, ⟨_, SqL.of upd_same⟩, fun D nD => ?_⟩⟩
    obtain ⟨H2, e2⟩ : ∃ X, X = upd H1 p (.lst (ys.map V.str)) := ⟨_, rfl⟩
    have s2 : Same H H2 := s1.trans (e2 ▸ same_new np)
    have at2 : H2 p = some (.lst (ys.map V.str)) := by rw [e2]; exact upd_same
    rw [← e2] at nD ⊢
    have ndy : ys.Nodup := perm.nodup_iff.mpr o.nd
    have ly := perm.length_eq
    rw [List.length_map] at ly
    refine dc_it walk_list (fun i H' => Same H2 H' ∧ ∃ ts : List (Str × Str), H' D = some (.dK (prs ts)) ∧ ts.map Prod.fst = ys.take i ∧ ∀ p ∈ ts, p ∈ t) ⟨same_new nD, [], upd_same, by rw [List.take_zero] <;> rfl, fun p h => by cases h⟩ (fun i H' _ z => SqL.of (z.1 _ _ at2)) ?_ ?_
    · intro i y Ha Hb hi ⟨q1, ts, hD, ets, hts⟩ ⟨eb, ex⟩
      subst eb
      rw [List.getElem?_map] at ex
      obtain ⟨a, ha, rfl⟩ := Option.map_eq_some_iff.mp ex
      have ma : a ∈ t.map Prod.fst := perm.mem_iff.mp (List.mem_of_getElem? ha)
      obtain ⟨pa, hv⟩ := par_some o.nd ma
      have hqa := q1 _ _ (s2 _ _ hq)
      have fresh : a ∉ ts.map Prod.fst := by
        rw [ets]
        intro hm
        obtain ⟨j, hj⟩ := List.mem_iff_getElem?.mp hm
        have jl := (List.getElem?_eq_some_iff.mp hj).1
        have il := (List.getElem?_eq_some_iff.mp ha).1
        rw [List.length_take] at jl
        rw [List.getElem?_take, if_pos (by omega)] at hj
        have := (List.getElem?_inj (by omega) ndy).mp (hj.trans ha.symm)
        omega
      have lt := congrArg List.length ets
      rw [List.length_map, List.length_take] at lt
      refine ⟨rfl, ?_⟩
      refine ⟨_, rfl, _, rfl, _, rfl, q, V.str pa, rfl, by have z := DGet.k (k := Sum.inr a) hqa; rw [val_prs, hv] at z; exact z, prs ts, Sum.inr a, rfl, hD, by rw [prs_len]; omega, ?_, ts ++ [(a, pa)], ?_, ?_, fun z hz => ?_⟩
      · intro b u e
        rw [upd_ne (ne_of_none e nD)]
        exact q1 b u e
      · rw [upd_same, put_new fresh]
      · rw [List.map_append, ets, take_more ha] <;> rfl
      · rcases List.mem_append.mp hz with h | h
        · exact hts z h
        · rw [List.mem_singleton.mp h]
          exact par_mem hv
    · intro H3 ⟨q1, ts, hD, ets, hts⟩
      rw [List.length_map, List.take_length] at ets
      have s3 : Same H H3 := s2.trans q1
      refine ⟨_, rfl, x, CF, dx, [], rfl, s3 _ _ hx, O.cl, O.nA, by show 0 < 1000; decide, ?_⟩
      have xD : D ≠ x := (ne_of_none (s2 _ _ hx) nD).symm
      refine k _ ts (perm_pairs o.nd (by rw [ets]; exact perm) hts) (by unfold Asc; rw [ets]; exact srt) ⟨dx, D, upd_same, by rw [upd_ne xD]; exact hD⟩ fun b u bx e => ?_
      rw [upd_ne bx]
      exact s3 b u e
theorem scFFlags : FnScope ["self"] ["self"] (defScope s_Forest_flags) := ⟨rfl, rfl, rfl, by decide +kernel, rfl, by decide +kernel, by decide +kernel⟩
theorem ok_fflags {f CF : Addr} {fd : FuncData} (F : Fun K "flags" "Forest.flags" s_Forest_flags f fd) (T : Nm mg) (O : FoC K CF) : FnOk P w K mg base CX0 1 f fd ["self"] (spFFlags CF) := by
  refine F.ok scFFlags (fun vs H Q E h => ?_) (fun cdv A outer s H vs Q E hr h => ?_)
  · obtain ⟨x, ts, rfl, _⟩ := h
    rfl
  · obtain ⟨x, ts, rfl, ⟨dx, dq, hx, hd⟩, k⟩ := h
    refine ⟨_, pss_one (ps_ret (pe_callTy (call_listD rfl) (by rfl) T.lst (by decide +kernel) (pa_cons (pe_fld (pv 0) rfl) pa_nil))), ?_⟩
    refine ⟨_, rfl, x, CF, dx, _, .ref dq, rfl, hx, O.cl, O.nA, rfl, dq, prs ts, rfl, .inl hd, fun p np => ?_⟩
    rw [keys_prs]
    exact k p np
theorem scFParents : FnScope ["self"] ["self"] (defScope s_Forest_parents) := ⟨rfl, rfl, rfl, by decide +kernel, rfl, by decide +kernel, by decide +kernel⟩
theorem ok_fparents {f CF : Addr} {fd : FuncData} (F : Fun K "parents" "Forest.parents" s_Forest_parents f fd) (T : Nm mg) (O : FoC K CF) : FnOk P w K mg base CX0 1 f fd ["self"] (spFParents CF) := by
  refine F.ok scFParents (fun vs H Q E h => ?_) (fun cdv A outer s H vs Q E hr h => ?_)
  · obtain ⟨x, ts, rfl, _⟩ := h
    rfl
  · obtain ⟨x, ts, rfl, ⟨dx, dq, hx, hd⟩, k⟩ := h
    refine ⟨_, pss_one (ps_ret (pe_callTy call_dictD (by rfl) T.dct (by decide +kernel) (pa_cons (pe_fld (pv 0) rfl) pa_nil))), ?_⟩
    exact ⟨_, rfl, x, CF, dx, _, .ref dq, rfl, hx, O.cl, O.nA, rfl, dq, prs ts, rfl, .inl hd, fun p np => k p np⟩
/-- a property of a class -/
structure Pr1 (P : Program) (w : World) (K : PySem.W.Frag) (mg : Str → Option Value) (base : Heap) (CF : Addr) (x : Str) (sp : Sp) (p g : Addr) (fd : FuncData) : Prop where
  pr : PropOf K CF x p g
  fn : FnOk P w K mg base CX0 1 g fd ["self"] sp
  bn : Binds K fd ["self"] []
def spPlacesOf (CF : Addr) : Sp := fun vs H Q _ => ∃ (x : Addr) (ts : List (Str × Str)), vs = [.ref x] ∧ FAt CF H x ts ∧ ts.length ≤ 12 ∧ ∀ p H', Same H H' → H p = none → H' p = some (.lst ((("" : Str) :: ts.map Prod.fst).map V.str)) → Q (.ref p) H'
end
end FT


/-! family B (laws k17 to k28, k55): the drawing state as a dict; begin. -/
namespace FT
open PySem L2 TL ClX
/-- the drawing state: at d the dict, its lists at l (large) and i (items) -/
def stB (l i : Addr) (lf tn : Int) : List (Key × V) := [(Sum.inr "large", .ref l), (Sum.inr "items", .ref i), (Sum.inr "left", .int lf), (Sum.inr "turn", .int tn)]
/-- b: a bound on the turns that were taken -/
def DrawB (H : Hp) (d l i : Addr) (b : Int) : Prop := ∃ (lf tn : Int) (lg it : List Int), H d = some (.dK (stB l i lf tn)) ∧ H l = some (.lst (lg.map V.int)) ∧ H i = some (.lst (it.map V.int)) ∧ l ≠ i ∧ (∀ z ∈ lg, 0 ≤ z) ∧ (∀ z ∈ it, 0 ≤ z) ∧ lg.length ≤ 63 ∧ it.length ≤ 63 ∧ 0 ≤ lf ∧ 0 ≤ tn ∧ tn ≤ b
/-- all that was tracked, but d and l, is as it was -/
def KeepB (d l : Addr) (H H' : Hp) : Prop := ∀ b o, b ≠ d → b ≠ l → H b = some o → H' b = some o
def spBeginB (K : PySem.W.Frag) : Sp := fun vs H Q _ => ∃ (a : Addr) (ns : List Int), vs = [.ref a] ∧ SqL K H a (ns.map V.int) ∧ ns.length ≤ 63 ∧
  ∀ (H' : Hp) (d l i : Addr), Same H H' → H d = none → H l = none → H i = none → DrawB H' d l i 0 → Q (.ref d) H'
theorem DrawB.more {H : Hp} {d l i : Addr} {b b' : Int} (x : DrawB H d l i b) (h : b ≤ b') : DrawB H d l i b' := by
  obtain ⟨lf, tn, lg, it, a1, a2, a3, a4, a5, a6, a7, a8, a9, a10, a11⟩ := x
  exact ⟨lf, tn, lg, it, a1, a2, a3, a4, a5, a6, a7, a8, a9, a10, by omega⟩
theorem DrawB.mono {H H' : Hp} {d l i : Addr} {b : Int} (s : Same H H') (x : DrawB H d l i b) : DrawB H' d l i b := by
  obtain ⟨lf, tn, lg, it, a1, a2, a3, r⟩ := x
  exact ⟨lf, tn, lg, it, s _ _ a1, s _ _ a2, s _ _ a3, r⟩
theorem DrawB.apart {H : Hp} {d l i p : Addr} {b : Int} (x : DrawB H d l i b) (n : H p = none) : p ≠ d ∧ p ≠ l ∧ p ≠ i := by
  obtain ⟨lf, tn, lg, it, a1, a2, a3, r⟩ := x
  exact ⟨(ne_of_none a1 n).symm, (ne_of_none a2 n).symm, (ne_of_none a3 n).symm⟩
def magsB (ms : List Int) : List Int := ms.map fun i => if i < 0 then -i else i
theorem magsB_nn (ms : List Int) : ∀ z ∈ magsB ms, 0 ≤ z := fun z h => by
  obtain ⟨i, _, rfl⟩ := List.mem_map.mp h
  split <;> omega
section
variable {P : Program} {w : World} {K : PySem.W.Frag} {mg : Str → Option Value} {base : Heap}
abbrev NBb : List Str := ["_law_script", "_law_items", "_law_item"]
theorem scBb : FnScope NBb ["_law_script"] (defScope s__law_begin) := ⟨rfl, rfl, rfl, by decide +kernel, rfl, by decide +kernel, by decide +kernel⟩
theorem ok_beginB {f : Addr} {fd : FuncData} (F : Fun K "_law_begin" "_law_begin" s__law_begin f fd) (T : Nm mg) : FnOk P w K mg base CX0 1 f fd ["_law_script"] (spBeginB K) := by
  refine F.ok scBb (fun vs H Q E h => ?_) (fun cdv A outer s H vs Q E hr h => ?_)
  · obtain ⟨a, ns, rfl, _⟩ := h
    rfl
  · obtain ⟨a, ns, rfl, hS, hlen, k⟩ := h
    have nd := scBb.nd
    have big : 1000 ≤ sizeLine := by decide
    refine ⟨_, pss_cons (ps_setLc (i := 1) (own := [("_law_item", 2)]) (g := gName 2) (tt := tYes) rfl nd rfl rfl (sw_true rfl rfl rfl (by decide +kernel)) (pi_list (pe_slice sl_list (pv 0) po_none (po_some pe_int)))
        (blkOk_by (N := NBb) (sc := defScope s__law_begin) (by decide +kernel)) (fun _ _ _ _ _ => pg_name (i := 2) nd rfl (Or.inl rfl)) (fun _ _ _ _ _ => pts_nil) (fun _ _ _ _ _ => pe_callB call_abs (by rfl) T.abs (by decide +kernel) (pa_cons (pv 2) pa_nil)))
      (pss_one (ps_ret (pe_disp (pps_cons pe_str (pe_lc (own := [("_law_item", 2)]) (g := gName 2) (tt := tTest (tOp (rI0 fun i j => .bl (decide (i ≥ j))) (tVar 2) (tOp (rI CPow fun i j => .int (i ^ j.toNat)) (tC (.int 10)) (tC (.int 18))))) (te := tVar 2) rfl nd (pi_list (pv 1))
        (blkOk_by (N := NBb) (sc := defScope s__law_begin) (by decide +kernel)) (fun _ _ _ _ _ => pg_name (i := 2) nd rfl (Or.inl rfl)) (fun _ _ _ _ _ => pts_one (pt_cmpR op_ge (pv 2) (pe_op op_pow pe_int pe_int) (nomark _))) (fun _ _ _ _ _ => pv 2))
        (pps_cons pe_str (pv 1) (pps_cons pe_str pe_int (pps_cons pe_str pe_int pps_nil)))) (by rfl) (by rfl) (fun z => by cases z) (by decide)))), ?_⟩
    obtain ⟨ms, em, lm⟩ := cut_ints ns none (some 63)
    refine ⟨_, rfl, _, rfl, a, _, rfl, hS, fun p np => ?_⟩
    rw [em]
    have s1 : Same H (upd H p (.lst (ms.map V.int))) := same_new np
    refine ⟨p, rfl, ⟨_, SqL.of upd_same⟩, fun D nD => lc_list (xs := ms.map V.int) (fun i H' => Same (upd H p (.lst (ms.map V.int))) H' ∧ H' D = some (.lst ((magsB (ms.take i)).map V.int))) ⟨same_new nD, by rw [upd_same, List.take_zero] <;> rfl⟩ (fun i H' _ q => Same.sql q.1 (SqL.of upd_same)) ?_ ?_⟩
    · intro i x H' hx ⟨q1, q2⟩
      obtain ⟨z, hz, rfl⟩ := map_of hx
      refine ⟨rfl, ?_⟩
      refine ⟨_, rfl, z, rfl, _, q2, ?_, Same.put q1 nD, ?_⟩
      · rw [List.length_map]
        unfold magsB
        rw [List.length_map, List.length_take]
        omega
      · rw [upd_same, take_more hz]
        unfold magsB
        rw [List.map_append, List.map_append] <;> rfl
    intro H2 ⟨q1, q2⟩
    rw [List.length_map, List.take_length] at q2
    have s2 : Same H H2 := s1.trans q1
    have nD0 : H D = none := s1.free nD
    obtain ⟨it, eit⟩ : ∃ it, it = magsB ms := ⟨_, rfl⟩
    rw [← eit] at q2
    have lit : it.length ≤ 63 := by
      rw [eit]
      unfold magsB
      rw [List.length_map]
      omega
    refine fun dq ndq => ?_
    have sd := same_new (o := .dK []) ndq
    refine ⟨_, rfl, D, rfl, ⟨_, SqL.of (sd _ _ q2)⟩, fun D2 nD2 => lc_list (xs := it.map V.int) (fun i H' => Same (upd H2 dq (.dK [])) H' ∧ H' D2 = some (.lst (((it.take i).filter fun z => decide (z ≥ 10 ^ 18)).map V.int))) ⟨same_new nD2, by rw [upd_same] <;> rfl⟩ (fun i H' _ q => Same.sql q.1 (SqL.of (sd _ _ q2))) ?_ ?_⟩
    · intro i x H' hx ⟨z1, z2⟩
      obtain ⟨z, hz, rfl⟩ := map_of hx
      refine ⟨rfl, ?_⟩
      refine ⟨_, rfl, _, _, rfl, rfl, ⟨by decide, by decide, by decide⟩, _, _, rfl, rfl, _, rfl, ?_⟩
      have lf : ((it.take i).filter fun z => decide (z ≥ 10 ^ 18)).length ≤ 63 := by
        have := List.length_filter_le (fun z : Int => decide (z ≥ 10 ^ 18)) (it.take i)
        rw [List.length_take] at this
        omega
      refine ite2 (fun yes => ?_) (fun no => ?_)
      · have yes : decide (z ≥ 10 ^ 18) = true := yes
        refine ⟨_, rfl, _, z2, by rw [List.length_map]; omega, Same.put z1 nD2, ?_⟩
        rw [upd_same, take_more hz, List.filter_append, List.filter_cons, if_pos yes, List.filter_nil, List.map_append] <;> rfl
      · have no : ¬ decide (z ≥ 10 ^ 18) = true := no
        refine ⟨z1, ?_⟩
        rw [z2, take_more hz, List.filter_append, List.filter_cons, if_neg no, List.filter_nil, List.append_nil]
    intro H3 ⟨z1, z2⟩
    rw [List.length_map, List.take_length] at z2
    have hdq : H3 dq = some (.dK []) := z1 _ _ upd_same
    have nD2' : H2 D2 = none := sd.free nD2
    refine ⟨_, rfl, hdq, stB D2 D 0 0, rfl, by show 4 ≤ 15; omega, ?_⟩
    have Dd : D ≠ dq := ne_of_none q2 ndq
    have D2d : D2 ≠ dq := (ne_of_none upd_same nD2).symm
    have DD2 : D2 ≠ D := (ne_of_none (sd _ _ q2) nD2).symm
    have s3 : Same H (upd H3 dq (.dK (stB D2 D 0 0))) := fun b u e => by
      have e2 := s2 b u e
      have nb : b ≠ dq := ne_of_none e2 ndq
      rw [upd_ne nb]
      exact z1 _ _ (by rw [upd_ne nb]; exact e2)
    refine k _ dq D2 D s3 (s2.free ndq) (s2.free nD2') nD0 ⟨0, 0, (it.filter fun z => decide (z ≥ 10 ^ 18)), it, upd_same, by rw [upd_ne D2d]; exact z2, by rw [upd_ne Dd]; exact z1 _ _ (sd _ _ q2), DD2, fun z hz => ?_, fun z hz => ?_, ?_, lit, by omega, by omega, by omega⟩
    · rw [eit] at hz
      exact magsB_nn ms z (List.mem_filter.mp hz).1
    · rw [eit] at hz
      exact magsB_nn ms z hz
    · have := List.length_filter_le (fun z : Int => decide (z ≥ 10 ^ 18)) it
      omega
end
end FT


/-! all objects but some are as they were -/
namespace FT
open PySem L2 TL ClX
/-- all but Ex is as it was -/
def KeepX (Ex : List Addr) (H H' : Hp) : Prop := ∀ b u, b ∉ Ex → H b = some u → H' b = some u
theorem KeepX.of_same {Ex : List Addr} {H H' : Hp} (s : Same H H') : KeepX Ex H H' := fun b u _ e => s b u e
theorem KeepX.trans {Ex : List Addr} {H H1 H2 : Hp} (a : KeepX Ex H H1) (b : KeepX Ex H1 H2) : KeepX Ex H H2 := fun x u n e => b x u n (a x u n e)
end FT


/-! the package's errors: their __init__, how they are raised. -/
namespace FT
open PySem L2 TL ClX
/-- what the top has written of an error class at C, its __init__ at I; f its attribute, or the empty text -/
structure Er (K : PySem.W.Frag) (mg : Str → Option Value) (nm f : Str) (C I : Addr) : Prop where
  g : mg nm = some (.ref C)
  x : XCls K C
  ini : PySem.W.findIn K (.ref C) "__init__" = some (some (.ref I))
  ity : PySem.W.typeIn K (.ref I) = some (.type "function")
  no : PySem.W.findIn K (.ref C) f = some none
/-- the base class -/
structure Rt (K : PySem.W.Frag) (mg : Str → Option Value) (R : Addr) : Prop where
  g : mg "RolloutError" = some (.ref R)
  ini : XIni K R
def spInit1 (C : Addr) (f : Str) : Sp := fun vs H Q _ => ∃ (a : Addr) (v : V), vs = [.ref a, v] ∧ H a = some (exo a C none) ∧ ∀ d, H d = none → d ≠ a → Q .non (upd (upd H d (exd d [(f, v)])) a (exo a C (some d)))
def spInit0 (C : Addr) : Sp := fun vs H Q _ => ∃ (a : Addr), vs = [.ref a] ∧ H a = some (exo a C none) ∧ Q .non H
/-- C(v): what is asked -/
theorem raise1 {C : Addr} {f : Str} {H1 : Hp} {Q : XK} {v : V} (k : ∀ d, H1 d = none → Q (.ref C) (some d) (upd H1 d (.xd [(f, v)]))) :
    [v].length ≤ 1000 ∧ ∀ a, H1 a = none → spInit1 C f (.ref a :: ([v] ++ [])) (upd H1 a (exo a C none))
      (fun w H2 => w = .non ∧ ∃ (d : Addr) (fs : List (Str × V)), H2 a = some (exo a C (some d)) ∧ H2 d = some (exd d fs) ∧ H1 d = none ∧ Q (.ref C) (some d) (upd (del H2 a) d (.xd fs))) (fun _ _ _ => False) := by
  refine ⟨by show 1 ≤ 1000; omega, fun a na => ⟨a, v, rfl, upd_same, fun d nd nda => ⟨rfl, d, [(f, v)], upd_same, by rw [upd_ne nda, upd_same], ?_, ?_⟩⟩⟩
  · rw [upd_ne nda] at nd
    exact nd
  · rw [upd_ne nda] at nd
    have e : upd (del (upd (upd (upd H1 a (exo a C none)) d (exd d [(f, v)])) a (exo a C (some d))) a) d (.xd [(f, v)]) = upd H1 d (.xd [(f, v)]) := by
      funext b
      by_cases h1 : b = d
      · subst h1
        rw [upd_same, upd_same]
      · rw [upd_ne h1, upd_ne h1]
        by_cases h2 : b = a
        · subst h2
          rw [del_same, na]
        · rw [del_ne h2, upd_ne h2, upd_ne h1, upd_ne h2]
    rw [e]
    exact k d nd
/-- C(): what is asked -/
theorem raise0 {C : Addr} {H1 : Hp} {Q : XK} (k : Q (.ref C) none H1) :
    ([] : List V).length ≤ 1000 ∧ ∀ a, H1 a = none → spInit0 C (.ref a :: ([] ++ [])) (upd H1 a (exo a C none)) (fun v H2 => v = .non ∧ H2 a = some (exo a C none) ∧ Q (.ref C) none (del H2 a)) (fun _ _ _ => False) := by
  refine ⟨Nat.zero_le _, fun a na => ⟨a, rfl, upd_same, rfl, upd_same, ?_⟩⟩
  have e : del (upd H1 a (exo a C none)) a = H1 := by
    funext b
    by_cases h : b = a
    · subst h
      rw [del_same, na]
    · rw [del_ne h, upd_ne h]
  rw [e]
  exact k
/-- an error class with its __init__, as a whole: with one value -/
structure Er1 (P : Program) (w : World) (K : PySem.W.Frag) (mg : Str → Option Value) (base : Heap) (nm f : Str) (C I : Addr) (fd : FuncData) : Prop where
  e : Er K mg nm f C I
  fn : FnOk P w K mg base CX0 1 I fd ["self", f] (spInit1 C f)
  bn : Binds K fd ["self", f] []
structure Er0 (P : Program) (w : World) (K : PySem.W.Frag) (mg : Str → Option Value) (base : Heap) (nm : Str) (C I : Addr) (fd : FuncData) : Prop where
  e : Er K mg nm "" C I
  fn : FnOk P w K mg base CX0 1 I fd ["self"] (spInit0 C)
  bn : Binds K fd ["self"] []
section
variable {X : Cx} {W : WX} {nm f : Str} {C I : Addr} {fd : FuncData} {ex : Expr} {te : TE} {p pos pos2 : Pos}
/-- raise C(e) -/
theorem ps_err1 (L : Er1 X.prog X.w X.K X.mg X.base nm f C I fd) (hc : X.calm = true) (tk : Takes X W) (hr : Room 2 X.A) (hg : Gl X nm) (he : PE X ex te) (hdb : (nm == ("__debug__" : Str)) = false := by decide)
    (hse : starEach (ex :: []) X.env = (false, eval ex X.env) :: starEach [] X.env := by rfl) (hpl : (backTo pos (starEach [] X.env)).any (·.1) = false := by rfl) :
    PS X (.Raise (some (.Call (.Name nm p) [ex] [] pos)) none pos2) (fun _ σ H => tMkO C (spInit1 C f) [] (tCons te tNil) σ H fun cls d H' => W cls d σ H') :=
  ps_raise hc tk (pmk_oex L.e.x.oex L.e.ini L.e.ity L.fn hr L.bn .nil (fun _ _ _ _ _ _ _ h => h.elim) hg L.e.g (pa_cons (hs := hse) he pa_nil) hdb hse hpl)
/-- raise C() -/
theorem ps_err0 (L : Er0 X.prog X.w X.K X.mg X.base nm C I fd) (hc : X.calm = true) (tk : Takes X W) (hr : Room 2 X.A) (hg : Gl X nm) (hdb : (nm == ("__debug__" : Str)) = false := by decide) :
    PS X (.Raise (some (.Call (.Name nm p) [] [] pos)) none pos2) (fun _ σ H => tMkO0 C (spInit0 C) [] tNil σ H fun cls d H' => W cls d σ H') :=
  ps_raise hc tk (pmk_none L.e.x.oex L.e.ini L.e.ity L.fn hr L.bn .nil (fun _ _ _ _ _ _ _ h => h.elim) hg L.e.g hdb)
end
end FT


namespace FT
open PySem L2 TL ClX
section
variable {P : Program} {w : World} {K : PySem.W.Frag} {mg : Str → Option Value} {base : Heap}
theorem sc_InvalidUsers : FnScope ["self"] ["self"] (defScope s_InvalidUsers___init__) := ⟨rfl, rfl, rfl, by decide +kernel, rfl, by decide +kernel, by decide +kernel⟩
theorem ok_InvalidUsers {f R C I : Addr} {fd : FuncData} (F : Fun K "__init__" "InvalidUsers.__init__" s_InvalidUsers___init__ f fd) (T : Rt K mg R) (L : Er K mg "InvalidUsers" "" C I) : FnOk P w K mg base CX0 1 f fd ["self"] (spInit0 C) := by
  refine F.ok sc_InvalidUsers (fun vs H Q E h => ?_) (fun cdv A outer s H vs Q E hr h => ?_)
  · obtain ⟨a, rfl, _⟩ := h
    rfl
  · obtain ⟨a, rfl, ha, k⟩ := h
    refine ⟨_, pss_one (ps_expr (pe_clsinit T.ini rfl T.g (pa_cons (pv 0) (pa_cons pe_str pa_nil)))), ?_⟩
    exact ⟨_, rfl, a, C, _, rfl, by show 1 ≤ 1000; omega, L.x.oex, ha, k⟩
theorem sc_InvalidSizes : FnScope ["self", "place"] ["self", "place"] (defScope s_InvalidSizes___init__) := ⟨rfl, rfl, rfl, by decide +kernel, rfl, by decide +kernel, by decide +kernel⟩
theorem ok_InvalidSizes {f R C I : Addr} {fd : FuncData} (F : Fun K "__init__" "InvalidSizes.__init__" s_InvalidSizes___init__ f fd) (T : Rt K mg R) (L : Er K mg "InvalidSizes" "place" C I) : FnOk P w K mg base CX0 1 f fd ["self", "place"] (spInit1 C "place") := by
  refine F.ok sc_InvalidSizes (fun vs H Q E h => ?_) (fun cdv A outer s H vs Q E hr h => ?_)
  · obtain ⟨a, v, rfl, _⟩ := h
    rfl
  · obtain ⟨a, v, rfl, ha, k⟩ := h
    refine ⟨_, pss_cons (ps_expr (pe_clsinit T.ini rfl T.g (pa_cons (pv 0) (pa_cons pe_str pa_nil)))) (pss_one (ps_ost (pv 0) (pv 1))), ?_⟩
    refine ⟨_, rfl, a, C, _, rfl, by show 1 ≤ 1000; omega, L.x.oex, ha, ?_⟩
    exact ⟨_, rfl, _, rfl, a, C, rfl, L.x.oex, L.no, .inl ⟨ha, fun d nd nda => k d nd nda⟩⟩
theorem sc_InvalidLimits : FnScope ["self", "name"] ["self", "name"] (defScope s_InvalidLimits___init__) := ⟨rfl, rfl, rfl, by decide +kernel, rfl, by decide +kernel, by decide +kernel⟩
theorem ok_InvalidLimits {f R C I : Addr} {fd : FuncData} (F : Fun K "__init__" "InvalidLimits.__init__" s_InvalidLimits___init__ f fd) (T : Rt K mg R) (L : Er K mg "InvalidLimits" "name" C I) : FnOk P w K mg base CX0 1 f fd ["self", "name"] (spInit1 C "name") := by
  refine F.ok sc_InvalidLimits (fun vs H Q E h => ?_) (fun cdv A outer s H vs Q E hr h => ?_)
  · obtain ⟨a, v, rfl, _⟩ := h
    rfl
  · obtain ⟨a, v, rfl, ha, k⟩ := h
    refine ⟨_, pss_cons (ps_expr (pe_clsinit T.ini rfl T.g (pa_cons (pv 0) (pa_cons pe_str pa_nil)))) (pss_one (ps_ost (pv 0) (pv 1))), ?_⟩
    refine ⟨_, rfl, a, C, _, rfl, by show 1 ≤ 1000; omega, L.x.oex, ha, ?_⟩
    exact ⟨_, rfl, _, rfl, a, C, rfl, L.x.oex, L.no, .inl ⟨ha, fun d nd nda => k d nd nda⟩⟩
theorem sc_TooMany : FnScope ["self", "most"] ["self", "most"] (defScope s_TooMany___init__) := ⟨rfl, rfl, rfl, by decide +kernel, rfl, by decide +kernel, by decide +kernel⟩
theorem ok_TooMany {f R C I : Addr} {fd : FuncData} (F : Fun K "__init__" "TooMany.__init__" s_TooMany___init__ f fd) (T : Rt K mg R) (L : Er K mg "TooMany" "most" C I) : FnOk P w K mg base CX0 1 f fd ["self", "most"] (spInit1 C "most") := by
  refine F.ok sc_TooMany (fun vs H Q E h => ?_) (fun cdv A outer s H vs Q E hr h => ?_)
  · obtain ⟨a, v, rfl, _⟩ := h
    rfl
  · obtain ⟨a, v, rfl, ha, k⟩ := h
    refine ⟨_, pss_cons (ps_expr (pe_clsinit T.ini rfl T.g (pa_cons (pv 0) (pa_cons pe_str pa_nil)))) (pss_one (ps_ost (pv 0) (pv 1))), ?_⟩
    refine ⟨_, rfl, a, C, _, rfl, by show 1 ≤ 1000; omega, L.x.oex, ha, ?_⟩
    exact ⟨_, rfl, _, rfl, a, C, rfl, L.x.oex, L.no, .inl ⟨ha, fun d nd nda => k d nd nda⟩⟩
end
end FT


/-! data of any kind; what is raised; numbers by places -/
namespace FT
open PySem L2 TL ClX
/-! ### data of any kind -/
inductive Dat (K : PySem.W.Frag) (H : Hp) : V → String → Prop where
  | non : Dat K H .non "NoneType"
  | bl (b : Bool) : Dat K H (.bl b) "bool"
  | int (i : Int) : Dat K H (.int i) "int"
  | str (z : Str) : Dat K H (.str z) "str"
  | lst {a : Addr} {xs : List V} (h : H a = some (.lst xs)) : Dat K H (.ref a) "list"
  | tup {a : Addr} {xs : List V} (h : H a = some (.tup xs)) : Dat K H (.ref a) "tuple"
  | dct {a : Addr} {kvs : List (Key × V)} (h : H a = some (.dK kvs)) : Dat K H (.ref a) "dict"
theorem Dat.ty {K : PySem.W.Frag} {H : Hp} {v : V} {T : String} (d : Dat K H v T) : TyX K H v (.type T) := by
  cases d with
  | non => exact .base .non
  | bl b => exact .base (.bl b)
  | int i => exact .base (.int i)
  | str z => exact .base (.str z)
  | lst h => exact .base (.lst h)
  | tup h => exact .base (.tup h)
  | dct h => exact .base (.dK h)
theorem Dat.mono {K : PySem.W.Frag} {H H' : Hp} {v : V} {T : String} (s : Same H H') (d : Dat K H v T) : Dat K H' v T := by
  cases d with
  | non => exact .non
  | bl b => exact .bl b
  | int i => exact .int i
  | str z => exact .str z
  | lst h => exact .lst (s _ _ h)
  | tup h => exact .tup (s _ _ h)
  | dct h => exact .dct (s _ _ h)
def IsDat (K : PySem.W.Frag) (H : Hp) (v : V) : Prop := ∃ T, Dat K H v T
theorem IsDat.mono {K : PySem.W.Frag} {H H' : Hp} {v : V} (s : Same H H') (d : IsDat K H v) : IsDat K H' v := let ⟨T, d⟩ := d; ⟨T, d.mono s⟩
/-- isinstance(v, int) -/
def isIntV : V → Bool
  | .int _ => true
  | .bl _ => true
  | _ => false
def isBlV : V → Bool
  | .bl _ => true
  | _ => false
def isDictV (H : Hp) (v : V) : Bool := match v with
  | .ref a => match H a with
    | some (.dK _) => true
    | _ => false
  | _ => false
theorem Dat.int_ {K : PySem.W.Frag} {H : Hp} {v : V} {T : String} (d : Dat K H v T) : PySem.W.kitOne K (.type T) (.type "int") = some (isIntV v) := by
  cases d with
  | non => exact kit_ty (r := false) (by decide +kernel)
  | bl b => exact kit_ty (r := true) (by decide +kernel)
  | int i => exact kit_ty (r := true) (by decide +kernel)
  | str z => exact kit_ty (r := false) (by decide +kernel)
  | lst h => exact kit_ty (r := false) (by decide +kernel)
  | tup h => exact kit_ty (r := false) (by decide +kernel)
  | dct h => exact kit_ty (r := false) (by decide +kernel)
theorem Dat.bool_ {K : PySem.W.Frag} {H : Hp} {v : V} {T : String} (d : Dat K H v T) : PySem.W.kitOne K (.type T) (.type "bool") = some (isBlV v) := by
  cases d with
  | non => exact kit_ty (r := false) (by decide +kernel)
  | bl b => exact kit_ty (r := true) (by decide +kernel)
  | int i => exact kit_ty (r := false) (by decide +kernel)
  | str z => exact kit_ty (r := false) (by decide +kernel)
  | lst h => exact kit_ty (r := false) (by decide +kernel)
  | tup h => exact kit_ty (r := false) (by decide +kernel)
  | dct h => exact kit_ty (r := false) (by decide +kernel)
theorem Dat.dict_ {K : PySem.W.Frag} {H : Hp} {v : V} {T : String} (d : Dat K H v T) : PySem.W.kitOne K (.type T) (.type "dict") = some (decide (T = "dict")) := by
  cases d with
  | non => exact kit_ty (r := false) (by decide +kernel)
  | bl b => exact kit_ty (r := false) (by decide +kernel)
  | int i => exact kit_ty (r := false) (by decide +kernel)
  | str z => exact kit_ty (r := false) (by decide +kernel)
  | lst h => exact kit_ty (r := false) (by decide +kernel)
  | tup h => exact kit_ty (r := false) (by decide +kernel)
  | dct h => exact kit_ty (r := true) (by decide +kernel)
/-- an integer, no bool, of at least l -/
def isGe (v : V) (l : Int) : Bool := match v with
  | .int i => decide (l ≤ i)
  | _ => false
/-! ### what is raised -/
inductive Err where
  | e0 (C : Addr)
  | e1 (C : Addr) (f : Str) (v : V)
/-- the way out of such an error, from the heap H -/
def Out (H : Hp) (E : XK) : Err → Prop
  | .e0 C => ∀ H', Same H H' → E (.ref C) none H'
  | .e1 C f v => ∀ d H', Same H H' → H d = none → H' d = some (.xd [(f, v)]) → E (.ref C) (some d) H'
theorem Out.mono {H H1 : Hp} {E : XK} {e : Err} (s : Same H H1) (o : Out H E e) : Out H1 E e := by
  cases e with
  | e0 C => exact fun H' s' => o H' (s.trans s')
  | e1 C f v => exact fun d H' s' n => o d H' (s.trans s') (s.free n)
/-- raise C(v) in a def that lets it out -/
theorem out1 {C : Addr} {f : Str} {v : V} {H H1 : Hp} {E : XK} (o : Out H E (.e1 C f v)) (s : Same H H1) :
    [v].length ≤ 1000 ∧ ∀ a, H1 a = none → spInit1 C f (.ref a :: ([v] ++ [])) (upd H1 a (exo a C none))
      (fun w H2 => w = .non ∧ ∃ (d : Addr) (fs : List (Str × V)), H2 a = some (exo a C (some d)) ∧ H2 d = some (exd d fs) ∧ H1 d = none ∧ E (.ref C) (some d) (upd (del H2 a) d (.xd fs))) (fun _ _ _ => False) :=
  raise1 (Q := fun cls d H' => E cls d H') fun d nd => o d _ (s.trans (same_new nd)) (s.free nd) upd_same
theorem out0 {C : Addr} {H H1 : Hp} {E : XK} (o : Out H E (.e0 C)) (s : Same H H1) :
    ([] : List V).length ≤ 1000 ∧ ∀ a, H1 a = none → spInit0 C (.ref a :: ([] ++ [])) (upd H1 a (exo a C none)) (fun v H2 => v = .non ∧ H2 a = some (exo a C none) ∧ E (.ref C) none (del H2 a)) (fun _ _ _ => False) :=
  raise0 (Q := fun cls d H' => E cls d H') (o _ s)
/-! ### numbers by places -/
def tblI (l : List Str) (g : Str → Int) : List (Key × V) := kvT (l.map fun a => (a, V.int (g a)))
theorem tblI_len (l : List Str) (g : Str → Int) : (tblI l g).length = l.length := by unfold tblI; rw [kvT_len, List.length_map]
theorem tblI_fst (l : List Str) (g : Str → Int) : (l.map fun a => (a, V.int (g a))).map Prod.fst = l := by rw [List.map_map]; exact List.map_id _
theorem tblI_keys (l : List Str) (g : Str → Int) : (tblI l g).map (·.1) = l.map Sum.inr := by unfold tblI kvT; rw [List.map_map, List.map_map] <;> rfl
theorem tblI_at {l : List Str} {g : Str → Int} {i : Nat} {k : Key} {v : V} (h : (tblI l g)[i]? = some (k, v)) : ∃ a, l[i]? = some a ∧ k = Sum.inr a ∧ v = .int (g a) := by
  unfold tblI kvT at h
  rw [List.map_map, List.getElem?_map] at h
  obtain ⟨a, ha, e⟩ := Option.map_eq_some_iff.mp h
  cases e
  exact ⟨a, ha, rfl, rfl⟩
theorem tblI_val {l : List Str} {g : Str → Int} {a : Str} (h : a ∈ l) : valV (tblI l g) (Sum.inr a) = some (.int (g a)) := by
  unfold tblI
  rw [kvT_val]
  induction l with
  | nil => cases h
  | cons b l ih =>
    rw [List.map_cons, look_cons]
    by_cases e : b = a
    · subst e
      exact if_pos rfl
    · rw [if_neg e]
      exact ih ((List.mem_cons.mp h).resolve_left fun z => e z.symm)
theorem tblI_put {l : List Str} {g : Str → Int} {a : Str} {z : Int} (h : a ∈ l) : putK (tblI l g) (Sum.inr a) (.int z) = tblI l (fun p => if p = a then z else g p) := by
  unfold tblI
  rw [kvT_putT]
  unfold putT
  rw [if_pos (by rw [tblI_fst]; exact h), List.map_map]
  congr 1
  refine List.map_congr_left fun p _ => ?_
  show (if p = a then (p, V.int z) else (p, V.int (g p))) = (p, V.int (if p = a then z else g p))
  by_cases e : p = a
  · rw [if_pos e, if_pos e]
  · rw [if_neg e, if_neg e]
theorem tblI_snoc {l : List Str} {g : Str → Int} {a : Str} {z : Int} (h : a ∉ l) (e : z = g a) : putK (tblI l g) (Sum.inr a) (.int z) = tblI (l ++ [a]) g := by
  unfold tblI
  rw [kvT_put (by rw [tblI_fst]; exact h), List.map_append, e] <;> rfl
theorem tblI_congr {l : List Str} {g g' : Str → Int} (h : ∀ a ∈ l, g a = g' a) : tblI l g = tblI l g' := by
  unfold tblI
  rw [List.map_congr_left fun a ha => by rw [h a ha]]
/-! ### feasible sizes -/
/-- sizes: a dict, its pairs told, or another value -/
def SzV (K : PySem.W.Frag) (H : Hp) (sv : V) : Option (List (Key × V)) → Prop
  | some kvs => ∃ q, sv = .ref q ∧ H q = some (.dK kvs) ∧ ∀ p ∈ kvs, IsDat K H p.2
  | none => ∃ T, Dat K H sv T ∧ T ≠ "dict"
theorem SzV.mono {K : PySem.W.Frag} {H H' : Hp} {sv : V} {o : Option (List (Key × V))} (s : Same H H') (h : SzV K H sv o) : SzV K H' sv o := by
  cases o with
  | none => exact let ⟨T, d, n⟩ := h; ⟨T, d.mono s, n⟩
  | some kvs => exact let ⟨q, e, h, a⟩ := h; ⟨q, e, s _ _ h, fun p hp => (a p hp).mono s⟩
def szOf (kvs : List (Key × V)) (a : Str) : Int := match valV kvs (Sum.inr a) with
  | some (.int i) => i
  | _ => 0
def badKey (kvs : List (Key × V)) (a : Str) : Bool := !isGe ((valV kvs (Sum.inr a)).getD .non) 0
/-- the place of the first fault, as the error tells it -/
def feas (ts : List (Str × Str)) (n : Int) : Option (List (Key × V)) → Option V
  | none => some .non
  | some kvs => if kvs.length ≠ ts.length then some .non else if (ts.map Prod.fst).all (fun a => (valV kvs (Sum.inr a)).isSome) = false then some .non else
    match (ts.map Prod.fst).find? (badKey kvs) with
    | some a => some (.str a)
    | none => ((("" : Str) :: ts.map Prod.fst).find? fun p => decide (resid ts n (szOf kvs) p < 0)).map V.str
def usersOk (v : V) (m : Int) : Bool := match v with
  | .int i => decide (1 ≤ i) && decide (i ≤ m)
  | _ => false
def feE (CS : Addr) (ts : List (Str × Str)) (n : Int) (o : Option (List (Key × V))) : Option Err := (feas ts n o).map fun v => .e1 CS "place" v
def szE (CU CS : Addr) (ts : List (Str × Str)) (uv : V) (o : Option (List (Key × V))) : Option Err := if usersOk uv (10 ^ 30) = true then feE CS ts (match uv with | .int n => n | _ => 0) o else some (.e0 CU)
/-- a def that hands back None, or raises -/
def Res (H : Hp) (Q : VK) (E : XK) : Option Err → Prop
  | none => ∀ H', Same H H' → Q .non H'
  | some e => Out H E e
theorem Res.mono {H H1 : Hp} {Q : VK} {E : XK} {o : Option Err} (s : Same H H1) (r : Res H Q E o) : Res H1 Q E o := by
  cases o with
  | none => exact fun H' s' => r H' (s.trans s')
  | some e => exact Out.mono s r
def spIsInt (K : PySem.W.Frag) : Sp := fun vs H Q _ => ∃ (v : V) (l : Int), vs = [v, .int l] ∧ IsDat K H v ∧ Q (.bl (isGe v l)) H
def spUsers (K : PySem.W.Frag) (CU : Addr) : Sp := fun vs H Q E => ∃ (v : V) (m : Int), vs = [v, .int m] ∧ IsDat K H v ∧ Res H Q E (if usersOk v m = true then none else some (.e0 CU))
def spResid (CF : Addr) : Sp := fun vs H Q _ => ∃ (x q : Addr) (n : Int) (ts : List (Str × Str)) (kvs : List (Key × V)), vs = [.ref x, .int n, .ref q] ∧ FAt CF H x ts ∧ TreeOk ts ∧ H q = some (.dK kvs) ∧ (∀ a ∈ ts.map Prod.fst, valV kvs (Sum.inr a) = some (.int (szOf kvs a))) ∧
  ∀ p H', Same H H' → H p = none → H' p = some (.dK (tblI ("" :: ts.map Prod.fst) (resid ts n (szOf kvs)))) → Q (.ref p) H'
def spFeas (K : PySem.W.Frag) (CF CS : Addr) : Sp := fun vs H Q E => ∃ (x : Addr) (n : Int) (sv : V) (ts : List (Str × Str)) (o : Option (List (Key × V))), vs = [.ref x, .int n, sv] ∧ FAt CF H x ts ∧ TreeOk ts ∧ SzV K H sv o ∧ Res H Q E (feE CS ts n o)
def spNSizes (K : PySem.W.Frag) (CF CU CS : Addr) : Sp := fun vs H Q E => ∃ (x : Addr) (uv sv : V) (ts : List (Str × Str)) (o : Option (List (Key × V))), vs = [.ref x, uv, sv] ∧ FAt CF H x ts ∧ TreeOk ts ∧ IsDat K H uv ∧ SzV K H sv o ∧ Res H Q E (szE CU CS ts uv o)
end FT


namespace FT
open PySem L2 TL ClX
theorem valV_mem {kvs : List (Key × V)} {k : Key} {v : V} (h : valV kvs k = some v) : (k, v) ∈ kvs := by
  unfold valV at h
  obtain ⟨p, hp, e⟩ := Option.map_eq_some_iff.mp h
  have m := List.mem_of_find?_eq_some hp
  have q : p.1 = k := of_decide_eq_true (List.find?_some (p := fun kv : Key × V => decide (kv.1 = k)) hp)
  obtain ⟨k', v'⟩ := p
  cases e
  cases (show k' = k from q)
  exact m
theorem feas_some (ts : List (Str × Str)) (n : Int) (kvs : List (Key × V)) : feas ts n (some kvs) = if kvs.length ≠ ts.length then some .non else if (ts.map Prod.fst).all (fun a => (valV kvs (Sum.inr a)).isSome) = false then some .non else
    match (ts.map Prod.fst).find? (badKey kvs) with
    | some a => some (.str a)
    | none => ((("" : Str) :: ts.map Prod.fst).find? fun p => decide (resid ts n (szOf kvs) p < 0)).map V.str := rfl
theorem find_at {α : Type} {p : α → Bool} : ∀ {l : List α} {j : Nat} {a : α}, l[j]? = some a → (l.take j).find? p = none → p a = true → l.find? p = some a
  | [], j, a, h, _, _ => by simp at h
  | x :: l, 0, a, h, _, hp => by
    have e : x = a := Option.some.inj h
    subst e
    rw [List.find?_cons, hp]
  | x :: l, j + 1, a, h, hn, hp => by
    have hn' : (x :: l.take j).find? p = none := hn
    rw [List.find?_cons] at hn' ⊢
    cases e : p x with
    | true =>
      rw [e] at hn'
      cases hn'
    | false =>
      rw [e] at hn'
      exact find_at h hn' hp
theorem find_more {α : Type} {p : α → Bool} {l : List α} {j : Nat} {a : α} (h : l[j]? = some a) (hn : (l.take j).find? p = none) (hp : p a = false) : (l.take (j + 1)).find? p = none := by
  rw [take_more h, List.find?_append, hn]
  show [a].find? p = none
  rw [List.find?_cons, hp] <;> rfl
theorem len_int {a b : Nat} : decide (V.int (a : Int) = V.int (b : Int)) = decide (a = b) := by
  rw [Bool.eq_iff_iff, decide_eq_true_eq, decide_eq_true_eq]
  constructor
  · intro h
    have := V.int.inj h
    omega
  · intro h
    rw [h]
end FT


namespace FT
open PySem L2 TL ClX
theorem feE_none {CS : Addr} {ts : List (Str × Str)} {n : Int} : feE CS ts n none ≠ none := fun h => nomatch h
theorem feE_ok {CS : Addr} {ts : List (Str × Str)} {n : Int} {kvs : List (Key × V)} (h : feE CS ts n (some kvs) = none) : kvs.length = ts.length ∧ (∀ a ∈ ts.map Prod.fst, valV kvs (Sum.inr a) = some (.int (szOf kvs a)) ∧ 0 ≤ szOf kvs a) ∧ ∀ p ∈ (("" : Str) :: ts.map Prod.fst), 0 ≤ resid ts n (szOf kvs) p := by
  unfold feE at h
  rw [feas_some] at h
  by_cases el : kvs.length = ts.length
  · rw [if_neg (fun z => z el)] at h
    cases ea : (ts.map Prod.fst).all fun a => (valV kvs (Sum.inr a)).isSome with
    | false =>
      rw [if_pos ea] at h
      cases h
    | true =>
      rw [if_neg (by rw [ea]; decide)] at h
      cases eb : (ts.map Prod.fst).find? (badKey kvs) with
      | some a =>
        rw [eb] at h
        cases h
      | none =>
        rw [eb] at h
        refine ⟨el, fun a ha => ?_, fun p hp => ?_⟩
        · obtain ⟨v, hv⟩ := Option.isSome_iff_exists.mp (List.all_eq_true.mp ea a ha)
          have g := List.find?_eq_none.mp eb a ha
          unfold badKey at g
          rw [hv] at g
          unfold szOf
          rw [hv]
          cases v with
          | int i =>
            refine ⟨rfl, ?_⟩
            show 0 ≤ i
            have g' : ¬ (!decide ((0 : Int) ≤ i)) = true := g
            by_cases z : (0 : Int) ≤ i
            · exact z
            · rw [decide_eq_false z] at g'
              exact absurd rfl g'
          | _ => exact absurd rfl g
        · cases ef : ((("" : Str) :: ts.map Prod.fst).find? fun p => decide (resid ts n (szOf kvs) p < 0)) with
          | some p =>
            rw [ef] at h
            cases h
          | none =>
            have z := List.find?_eq_none.mp ef p hp
            have z' : ¬ resid ts n (szOf kvs) p < 0 := fun q => z (decide_eq_true q)
            omega
  · rw [if_pos el] at h
    cases h
def kvsOf (o : Option (List (Key × V))) : List (Key × V) := o.getD []
def numV (v : V) : Int := match v with
  | .int n => n
  | _ => 0
/-- what amounts raises -/
def amE (CU CS : Addr) (ts : List (Str × Str)) (uv : V) (o1 o2 : Option (List (Key × V))) : Option Err := (szE CU CS ts uv o1).or (feE CS ts (numV uv) o2)
def amt (o1 o2 : Option (List (Key × V))) (a : Str) : Int := szOf (kvsOf o2) a - szOf (kvsOf o1) a
theorem szE_feE {CU CS : Addr} {ts : List (Str × Str)} {uv : V} {o : Option (List (Key × V))} (h : szE CU CS ts uv o = none) : ∃ n, uv = .int n ∧ 1 ≤ n ∧ n ≤ 10 ^ 30 ∧ feE CS ts n o = none := by
  unfold szE at h
  by_cases u : usersOk uv (10 ^ 30) = true
  · rw [if_pos u] at h
    cases uv with
    | int n =>
      have u' : (decide (1 ≤ n) && decide (n ≤ 10 ^ 30)) = true := u
      rw [Bool.and_eq_true, decide_eq_true_eq, decide_eq_true_eq] at u'
      exact ⟨n, rfl, u'.1, u'.2, h⟩
    | _ => cases u
  · rw [if_neg u] at h
    cases h
def absI (z : Int) : Int := if z < 0 then -z else z
def spAmtOf (CF : Addr) : Sp := fun vs H Q _ => ∃ (x q1 q2 : Addr) (ts : List (Str × Str)) (k1 k2 : List (Key × V)), vs = [.ref x, .ref q1, .ref q2] ∧ FAt CF H x ts ∧ TreeOk ts ∧ H q1 = some (.dK k1) ∧ H q2 = some (.dK k2) ∧
  (∀ a ∈ ts.map Prod.fst, valV k1 (Sum.inr a) = some (.int (szOf k1 a))) ∧ (∀ a ∈ ts.map Prod.fst, valV k2 (Sum.inr a) = some (.int (szOf k2 a))) ∧
  ∀ p H', Same H H' → H p = none → H' p = some (.dK (tblI (ts.map Prod.fst) fun a => szOf k2 a - szOf k1 a)) → Q (.ref p) H'
def spAmounts (K : PySem.W.Frag) (CF CU CS : Addr) : Sp := fun vs H Q E => ∃ (x : Addr) (uv sv nv : V) (ts : List (Str × Str)) (o1 o2 : Option (List (Key × V))), vs = [.ref x, uv, sv, nv] ∧ FAt CF H x ts ∧ TreeOk ts ∧ IsDat K H uv ∧ SzV K H sv o1 ∧ SzV K H nv o2 ∧
  match amE CU CS ts uv o1 o2 with
  | none => ∀ p H', Same H H' → H p = none → H' p = some (.dK (tblI (ts.map Prod.fst) (amt o1 o2))) → Q (.ref p) H'
  | some e => Out H E e
def spLeast (K : PySem.W.Frag) (CF CU CS : Addr) : Sp := fun vs H Q E => ∃ (x : Addr) (uv sv nv : V) (ts : List (Str × Str)) (o1 o2 : Option (List (Key × V))), vs = [.ref x, uv, sv, nv] ∧ FAt CF H x ts ∧ TreeOk ts ∧ IsDat K H uv ∧ SzV K H sv o1 ∧ SzV K H nv o2 ∧
  match amE CU CS ts uv o1 o2 with
  | none => ∀ H', Same H H' → Q (.int ((ts.map Prod.fst).map fun a => absI (amt o1 o2 a)).sum) H'
  | some e => Out H E e
end FT


namespace FT
open PySem L2 TL ClX LiI
/-! ### crossings -/
def crs (g : Str → Int) (ts : List (Str × Str)) : List (Str × Str × Int) := ts.flatMap fun p => if 0 < g p.1 then [(p.2, p.1, g p.1)] else if g p.1 < 0 then [(p.1, p.2, - g p.1)] else []
def EdG (H : Hp) (rs : List Addr) (es : List (Str × Str × Int)) : Prop := Paired (fun (r : Addr) (e : Str × Str × Int) => H r = some (.tup [.str e.1, .str e.2.1, .int e.2.2])) rs es
theorem EdG.mono {H H' : Hp} (s : Same H H') : ∀ {rs : List Addr} {es : List (Str × Str × Int)}, EdG H rs es → EdG H' rs es
  | _, _, .nil => .nil
  | _, _, .cons h t => .cons (s _ _ h) (EdG.mono s t)
theorem EdG.push {H : Hp} {D : Addr} {xs : List V} {o : HO} (e : H D = some (.lst xs)) : ∀ {rs : List Addr} {es : List (Str × Str × Int)}, EdG H rs es → EdG (upd H D o) rs es
  | _, _, .nil => .nil
  | _, _, .cons h t => .cons (by rw [upd_ne (ne_of h e (by intro z; cases z))]; exact h) (EdG.push e t)
theorem EdG.snoc {H : Hp} {r : Addr} {e : Str × Str × Int} (h : H r = some (.tup [.str e.1, .str e.2.1, .int e.2.2])) : ∀ {rs : List Addr} {es : List (Str × Str × Int)}, EdG H rs es → EdG H (rs ++ [r]) (es ++ [e])
  | _, _, .nil => .cons h .nil
  | _, _, .cons q t => .cons q (EdG.snoc h t)
theorem EdG.len {H : Hp} : ∀ {rs : List Addr} {es : List (Str × Str × Int)}, EdG H rs es → rs.length = es.length
  | _, _, .nil => rfl
  | _, _, .cons _ t => congrArg (· + 1) (EdG.len t)
theorem EdG.at_ {H : Hp} {rs : List Addr} {es : List (Str × Str × Int)} (p : EdG H rs es) {i : Nat} {r : Addr} (h : rs[i]? = some r) : ∃ e, es[i]? = some e ∧ H r = some (.tup [.str e.1, .str e.2.1, .int e.2.2]) := LiI.paired_get p h
def spCross (CF : Addr) : Sp := fun vs H Q _ => ∃ (x q : Addr) (ts : List (Str × Str)) (g : Str → Int), vs = [.ref x, .ref q] ∧ FAt CF H x ts ∧ TreeOk ts ∧ H q = some (.dK (tblI (ts.map Prod.fst) g)) ∧
  ∀ p rs H', Same H H' → H p = none → H' p = some (.lst (rs.map V.ref)) → EdG H' rs (crs g ts) → Q (.ref p) H'
end FT


/-! plain: lists of users by place, how a change of sizes moves them, that the way back restores them. No program here. -/
namespace FT
open PySem L2 TL
/-! ### sums -/
/-! ### places, neighbours -/
def pls (ts : List (Str × Str)) : List Str := "" :: ts.map Prod.fst
theorem mem_kids {ts : List (Str × Str)} {k p : Str} : k ∈ kids ts p ↔ (k, p) ∈ ts := by
  unfold kids
  constructor
  · intro h
    obtain ⟨q, hq, e⟩ := List.mem_map.mp h
    obtain ⟨h1, h2⟩ := List.mem_filter.mp hq
    rw [← e, ← of_decide_eq_true h2]
    exact h1
  · exact fun h => List.mem_map.mpr ⟨_, List.mem_filter.mpr ⟨h, decide_eq_true rfl⟩, rfl⟩
/-- the other ends of the edges of a place -/
def adj (ts : List (Str × Str)) (p : Str) : List Str := (if p = "" then [] else [(par ts p).getD ""]) ++ kids ts p
/-! ### how many users cross an edge -/
def lv (ts : List (Str × Str)) (c : Str → Int) (p o : Str) : Nat := if par ts o = some p ∧ 0 < c o then (c o).toNat else if par ts p = some o ∧ c p < 0 then (- c p).toNat else 0
/-! ### an order of the places that all moves follow -/
def sg (z : Int) : Int := if 0 < z then 1 else if z < 0 then -1 else 0
def phi (ts : List (Str × Str)) (c : Str → Int) (p : Str) : Int := ((pathOf ts p).map fun x => sg (c x)).sum
def lvl (ts : List (Str × Str)) (c : Str → Int) (p : Str) : Nat := (phi ts c p + 12).toNat
/-! ### a change moves the lists -/
/-- groups that come to a place, in the order in which they are put behind its list -/
def ins (ts : List (Str × Str)) (G : Str → Str → List Int) (p : Str) : List Int := ((adj ts p).reverse.map fun o => G o p).flatten
/-- groups that leave a place -/
def outs (ts : List (Str × Str)) (G : Str → Str → List Int) (p : Str) : List Int := ((adj ts p).reverse.map fun o => G p o).flatten
def Moved (ts : List (Str × Str)) (c : Str → Int) (L L' : Str → List Int) : Prop := ∃ G : Str → Str → List Int, (∀ p, Pl ts p → ∀ o ∈ adj ts p, (G p o).length = lv ts c p o) ∧ ∀ p, Pl ts p → L p ++ ins ts G p = L' p ++ outs ts G p
/-- the lengths are the residents -/
def Lens (ts : List (Str × Str)) (n : Int) (sz : Str → Int) (L : Str → List Int) : Prop := ∀ p, Pl ts p → ((L p).length : Int) = resid ts n sz p
end FT


/-! plain: sizes of lists; every user at one place; a user's way through the tree. -/
namespace FT
open PySem L2 TL
/-! ### sizes and lengths -/
def under (ts : List (Str × Str)) (a : Str) : List Str := (ts.map Prod.fst).filter fun b => decide (a ∈ pathOf ts b)
def lsz (ts : List (Str × Str)) (L : Str → List Int) (a : Str) : Int := ((under ts a).map fun b => ((L b).length : Int)).sum
def inP (ts : List (Str × Str)) (a x : Str) : Int := if a ∈ pathOf ts x then 1 else 0
/-! ### every user at one place -/
def usr (n : Nat) : List Int := (List.range n).map fun k : Nat => (k : Int)
def Val (ts : List (Str × Str)) (n : Nat) (L : Str → List Int) : Prop := ((pls ts).flatMap L).Perm (usr n)
/-- the place of a user -/
def plOf (ts : List (Str × Str)) (L : Str → List Int) (u : Int) : Str := ((pls ts).find? fun p => decide (u ∈ L p)).getD ""
/-! ### a user's way -/
inductive Rc (ts : List (Str × Str)) (c : Str → Int) (p : Str) : Str → Prop where
  | refl : Rc ts c p p
  | step {q x : Str} : Rc ts c p q → 0 < lv ts c q x → Rc ts c p x
end FT


/-! lists of pairs of a text and a value; dict(..) of them. -/
namespace FT
open PySem L2 TL ClX
/-- pairs (a, g a) at the addresses rs -/
def PrG (g : Str → V) (H : Hp) (rs : List Addr) (l : List Str) : Prop := Paired (fun (r : Addr) (a : Str) => H r = some (.tup [.str a, g a])) rs l
theorem PrG.imp {g : Str → V} {H H' : Hp} (m : ∀ r (a : Str), H r = some (.tup [.str a, g a]) → H' r = some (.tup [.str a, g a])) : ∀ {rs : List Addr} {l : List Str}, PrG g H rs l → PrG g H' rs l
  | _, _, .nil => .nil
  | _, _, .cons h t => .cons (m _ _ h) (PrG.imp m t)
theorem PrG.mono {g : Str → V} {H H' : Hp} {rs : List Addr} {l : List Str} (s : Same H H') (p : PrG g H rs l) : PrG g H' rs l := p.imp fun r a e => s _ _ e
theorem PrG.push {g : Str → V} {H : Hp} {rs : List Addr} {l : List Str} {D : Addr} {xs : List V} {o : HO} (e : H D = some (.lst xs)) (p : PrG g H rs l) : PrG g (upd H D o) rs l := p.imp fun r a q => by
  rw [upd_ne (ne_of q e (by intro z; cases z))]
  exact q
theorem PrG.snoc {g : Str → V} {H : Hp} {r : Addr} {a : Str} (h : H r = some (.tup [.str a, g a])) : ∀ {rs : List Addr} {l : List Str}, PrG g H rs l → PrG g H (rs ++ [r]) (l ++ [a])
  | _, _, .nil => .cons h .nil
  | _, _, .cons q t => .cons q (PrG.snoc h t)
theorem PrG.len {g : Str → V} {H : Hp} : ∀ {rs : List Addr} {l : List Str}, PrG g H rs l → rs.length = l.length
  | _, _, .nil => rfl
  | _, _, .cons _ t => congrArg (· + 1) (PrG.len t)
theorem PrG.at_ {g : Str → V} {H : Hp} {rs : List Addr} {l : List Str} (p : PrG g H rs l) {i : Nat} {r : Addr} (h : rs[i]? = some r) : ∃ a, l[i]? = some a ∧ H r = some (.tup [.str a, g a]) := LiI.paired_get p h
/-- as dict(..) asks it -/
theorem PrG.kvs {K : PySem.W.Frag} {g : Str → V} {H : Hp} : ∀ {rs : List Addr} {l : List Str}, PrG g H rs l → Paired (fun (p : Addr) (kv : Key × V) => SqT K H p [kV kv.1, kv.2]) rs (kvT (l.map fun a => (a, g a)))
  | _, _, .nil => .nil
  | _, _, .cons h t => .cons (.inl (.inl h)) (PrG.kvs t)
theorem merge_app : ∀ (more : List (Str × V)) (acc : List (Str × V)), ((acc ++ more).map Prod.fst).Nodup → mergeK (kvT acc) (kvT more) = kvT (acc ++ more)
  | [], acc, _ => by rw [List.append_nil] <;> rfl
  | p :: more, acc, nd => by
    have e : acc ++ p :: more = (acc ++ [p]) ++ more := by rw [List.append_assoc] <;> rfl
    have fresh : p.1 ∉ acc.map Prod.fst := fun h => by
      rw [List.map_append] at nd
      obtain ⟨_, _, d⟩ := List.nodup_append.mp nd
      exact d _ h _ (List.mem_cons_self ..) rfl
    show mergeK (putK (kvT acc) (Sum.inr p.1) p.2) (kvT more) = _
    rw [kvT_put fresh, e]
    rw [e] at nd
    exact merge_app more _ nd
theorem merge_nd {l : List (Str × V)} (nd : (l.map Prod.fst).Nodup) : mergeK [] (kvT l) = kvT l := merge_app l [] nd
theorem map_fst (l : List Str) (g : Str → V) : (l.map fun a => (a, g a)).map Prod.fst = l := by rw [List.map_map]; exact List.map_id _
/-- the place of an item -/
theorem idx_at {l : List Str} {i : Nat} {a : Str} (nd : l.Nodup) (h : l[i]? = some a) : l.idxOf a = i := by
  have m : a ∈ l := List.mem_of_getElem? h
  have lt := List.idxOf_lt_length_of_mem m
  have e : l[l.idxOf a]? = some a := by rw [List.getElem?_eq_getElem lt, List.getElem_idxOf lt]
  exact (List.getElem?_inj lt nd).mp (e.trans h.symm)
/-- a tree from the order of its making -/
theorem tree_of {t : List (Str × Str)} (h1 : 1 ≤ t.length) (h2 : t.length ≤ 12) (nd : (t.map Prod.fst).Nodup) (nm : ∀ z ∈ t.map Prod.fst, NameL z) (up : ∀ (i : Nat) (p : Str × Str), t[i]? = some p → p.2 = "" ∨ p.2 ∈ (t.map Prod.fst).take i) : TreeOk t := by
  refine ⟨h1, h2, nd, nm, fun a => (t.map Prod.fst).idxOf a, fun p hp => ?_⟩
  obtain ⟨i, hi⟩ := List.mem_iff_getElem?.mp hp
  have il := (List.getElem?_eq_some_iff.mp hi).1
  have hk : (t.map Prod.fst)[i]? = some p.1 := by rw [List.getElem?_map, hi] <;> rfl
  refine ⟨by show (t.map Prod.fst).idxOf p.1 < _; rw [idx_at nd hk]; exact il, (up i p hi).imp id fun m => ⟨List.mem_of_mem_take m, ?_⟩⟩
  show (t.map Prod.fst).idxOf p.2 < (t.map Prod.fst).idxOf p.1
  rw [idx_at nd hk]
  obtain ⟨j, hj⟩ := List.mem_iff_getElem?.mp m
  have jl := (List.getElem?_eq_some_iff.mp hj).1
  rw [List.length_take] at jl
  rw [List.getElem?_take, if_pos (by omega)] at hj
  rw [idx_at nd hj]
  omega
end FT


/-! dicts from texts to any values; lists by place in the heap. -/
namespace FT
open PySem L2 TL ClX
def tblV (l : List Str) (g : Str → V) : List (Key × V) := kvT (l.map fun a => (a, g a))
theorem tblV_int (l : List Str) (g : Str → Int) : tblI l g = tblV l fun a => .int (g a) := rfl
theorem tblV_val {l : List Str} {g : Str → V} {a : Str} (h : a ∈ l) : valV (tblV l g) (Sum.inr a) = some (g a) := by
  unfold tblV
  rw [kvT_val]
  induction l with
  | nil => cases h
  | cons b l ih =>
    rw [List.map_cons, look_cons]
    by_cases e : b = a
    · subst e
      exact if_pos rfl
    · rw [if_neg e]
      exact ih ((List.mem_cons.mp h).resolve_left fun z => e z.symm)
theorem nat_fresh {l : List Str} {i : Nat} {a : Str} (nd : l.Nodup) (h : l[i]? = some a) : a ∉ l.take i := fun hm => by
  obtain ⟨j, hj⟩ := List.mem_iff_getElem?.mp hm
  have jl := (List.getElem?_eq_some_iff.mp hj).1
  rw [List.length_take] at jl
  rw [List.getElem?_take, if_pos (by omega)] at hj
  have := (List.getElem?_inj (by omega) nd).mp (hj.trans h.symm)
  omega
/-- lists by place: the dict at q, the list of p at r p -/
def LsAt (H : Hp) (q : Addr) (l : List Str) (r : Str → Addr) (L : Str → List Int) : Prop := H q = some (.dK (tblV l fun p => .ref (r p))) ∧ ∀ p ∈ l, H (r p) = some (.lst ((L p).map V.int))
theorem LsAt.mono {H H' : Hp} {q : Addr} {l : List Str} {r : Str → Addr} {L : Str → List Int} (s : Same H H') (h : LsAt H q l r L) : LsAt H' q l r L := ⟨s _ _ h.1, fun p hp => s _ _ (h.2 p hp)⟩
theorem LsAt.congr {H : Hp} {q : Addr} {l : List Str} {r : Str → Addr} {L L' : Str → List Int} (h : LsAt H q l r L) (e : ∀ p ∈ l, L p = L' p) : LsAt H q l r L' := ⟨h.1, fun p hp => by rw [h.2 p hp, e p hp]⟩
theorem LsAt.get {H : Hp} {q : Addr} {l : List Str} {r : Str → Addr} {L : Str → List Int} (h : LsAt H q l r L) {p : Str} (hp : p ∈ l) : DGet H q (.str p) (some (.ref (r p))) := by
  have z := DGet.k (k := Sum.inr p) h.1
  rw [tblV_val hp] at z
  exact z
end FT


/-! sums -/
namespace FT
open PySem
theorem pair_lenZ {α β : Type} {F : α → β → Prop} : ∀ {xs : List α} {ys : List β}, Paired F xs ys → xs.length = ys.length
  | _, _, .nil => rfl
  | _, _, .cons _ t => congrArg (· + 1) (pair_lenZ t)
end FT


/-! a parent read from a forest's dict -/
namespace FT
open PySem L2 TL ClX
theorem Rd.same {H H' : Hp} {a : Addr} {u : HO} (s : Same H H') (h : Rd H a u) : Rd H' a u := h.imp (fun e => s _ _ e) fun ⟨o, e⟩ => ⟨o, s _ _ e⟩
theorem dget_prs {H : Hp} {q : Addr} {ts : List (Str × Str)} {a p : Str} (h : Rd H q (.dK (prs ts))) (e : par ts a = some p) : DGet H q (.str a) (some (.str p)) := .inl ⟨prs ts, Sum.inr a, h, rfl, by rw [val_prs, e] <;> rfl⟩
end FT


/-! path_in, need_place, Forest.under, edges_at -/
namespace FT
open PySem L2 TL ClX
def spPathIn : Sp := fun vs H Q _ => ∃ (q : Addr) (ts : List (Str × Str)) (a : Str), vs = [.ref q, .str a] ∧ Rd H q (.dK (prs ts)) ∧ TreeOk ts ∧ Pl ts a ∧ ∀ p H', Same H H' → H p = none → H' p = some (.tup ((pathOf ts a).map V.str)) → Q (.ref p) H'
def spNeedPl (CF : Addr) : Sp := fun vs H Q _ => ∃ (x : Addr) (ts : List (Str × Str)) (a : Str), vs = [.ref x, .str a] ∧ FAt CF H x ts ∧ TreeOk ts ∧ Pl ts a ∧ Q .non H
def spEdgesAt (CF : Addr) : Sp := fun vs H Q _ => ∃ (x : Addr) (ts : List (Str × Str)) (a : Str), vs = [.ref x, .str a] ∧ FAt CF H x ts ∧ TreeOk ts ∧ Pl ts a ∧ ∀ p H', Same H H' → H p = none → H' p = some (.lst ((adj ts a).map V.str)) → Q (.ref p) H'
def pathLen (ts : List (Str × Str)) (σ : St) : Nat := match σ[1]? with
  | some (some (V.str a)) => (pathOf ts a).length
  | _ => 0
section
variable {P : Program} {w : World} {K : PySem.W.Frag} {mg : Str → Option Value} {base : Heap}
abbrev NPi : List Str := ["above", "place", "path"]
abbrev NNp : List Str := ["forest", "place"]
end
end FT


/-! lists of numbers as data -/
namespace FT
open PySem L2 TL ClX LiI
theorem dp_ints {K : PySem.W.Frag} {H : Hp} : ∀ ns : List Int, DpAll K H (ns.map V.int) (ns.map PyData.int)
  | [] => .nil
  | n :: ns => .cons (.int n) (dp_ints ns)
theorem lay_ints : ∀ ns : List Int, PyData.canLayAll0 (ns.map PyData.int) = true ∧ PyData.depthAll (ns.map PyData.int) ≤ 0
  | [] => ⟨rfl, Nat.le_refl _⟩
  | n :: ns => by
    obtain ⟨h1, h2⟩ := lay_ints ns
    constructor
    · show (true && PyData.canLayAll0 (ns.map PyData.int)) = true
      rw [h1] <;> rfl
    · show max 0 (PyData.depthAll (ns.map PyData.int)) ≤ 0
      omega
theorem ints_shaped (ns : List Int) : (PyData.list (ns.map PyData.int)).canLay0 = true ∧ SeqAt.shaped (.list (ns.map PyData.int)) = true := by
  obtain ⟨h1, h2⟩ := lay_ints ns
  have c : (PyData.list (ns.map PyData.int)).canLay0 = true := h1
  refine ⟨c, ?_⟩
  unfold SeqAt.shaped
  rw [c]
  have d : (PyData.list (ns.map PyData.int)).depth ≤ 64 := by
    show PyData.depthAll (ns.map PyData.int) + 1 ≤ 64
    omega
  rw [decide_eq_true d] <;> rfl
end FT


/-! family B: mixed, take, pick -/
namespace FT
open PySem L2 TL ClX LiI
theorem stB_get {H : Hp} {d l i : Addr} {lf tn : Int} (h : H d = some (.dK (stB l i lf tn))) : DGet H d (.str "large") (some (.ref l)) ∧ DGet H d (.str "items") (some (.ref i)) ∧ DGet H d (.str "left") (some (.int lf)) ∧ DGet H d (.str "turn") (some (.int tn)) := by
  refine ⟨?_, ?_, ?_, ?_⟩
  · exact .inl ⟨_, Sum.inr "large", .inl h, rfl, rfl⟩
  · exact .inl ⟨_, Sum.inr "items", .inl h, rfl, rfl⟩
  · exact .inl ⟨_, Sum.inr "left", .inl h, rfl, rfl⟩
  · exact .inl ⟨_, Sum.inr "turn", .inl h, rfl, rfl⟩
theorem stB_left (l i : Addr) (lf tn z : Int) : putK (stB l i lf tn) (Sum.inr "left") (.int z) = stB l i z tn := rfl
theorem stB_turn (l i : Addr) (lf tn z : Int) : putK (stB l i lf tn) (Sum.inr "turn") (.int z) = stB l i lf z := rfl
theorem DrawB.ne {H : Hp} {d l i : Addr} {b : Int} (x : DrawB H d l i b) : l ≠ d ∧ i ≠ d ∧ l ≠ i := by
  obtain ⟨lf, tn, lg, it, a1, a2, a3, a4, _⟩ := x
  exact ⟨ne_of a2 a1 (by intro z; cases z), ne_of a3 a1 (by intro z; cases z), a4⟩
theorem DrawB.ex {H : Hp} {d l i : Addr} {b : Int} (x : DrawB H d l i b) : ∀ y ∈ [d, l], ∃ u, H y = some u := fun y hy => by
  obtain ⟨lf, tn, lg, it, a1, a2, a3, a4, _⟩ := x
  simp only [List.mem_cons, List.not_mem_nil, or_false] at hy
  rcases hy with rfl | rfl
  · exact ⟨_, a1⟩
  · exact ⟨_, a2⟩
/-- a store elsewhere -/
theorem DrawB.off {H : Hp} {d l i p : Addr} {b : Int} {o : HO} (x : DrawB H d l i b) (n1 : p ≠ d) (n2 : p ≠ l) (n3 : p ≠ i) : DrawB (upd H p o) d l i b := by
  obtain ⟨lf, tn, lg, it, a1, a2, a3, r⟩ := x
  exact ⟨lf, tn, lg, it, by rw [upd_ne n1.symm]; exact a1, by rw [upd_ne n2.symm]; exact a2, by rw [upd_ne n3.symm]; exact a3, r⟩
theorem kx_put {d l p : Addr} {H H' : Hp} {o : HO} (k : KeepX [d, l] H H') (n : H p = none) : KeepX [d, l] H (upd H' p o) := fun b u nb e => by
  rw [upd_ne (ne_of_none e n)]
  exact k b u nb e
def spMixedB : Sp := fun vs H Q _ => ∃ (d l i : Addr) (b : Int), vs = [.ref d] ∧ DrawB H d l i b ∧ b ≤ 10 ^ 12 ∧ ∀ (n : Int) (H' : Hp), 0 ≤ n → DrawB H' d l i (b + 1) → KeepX [d, l] H H' → Q (.int n) H'
def spTakeB : Sp := fun vs H Q _ => ∃ (d l i : Addr) (b n : Int), vs = [.ref d, .int n] ∧ DrawB H d l i b ∧ b ≤ 10 ^ 12 ∧ 0 < n ∧ n.natAbs < 2 ^ 200 ∧ ∀ (k : Int) (H' : Hp), 0 ≤ k → k < n → DrawB H' d l i (b + 1) → KeepX [d, l] H H' → Q (.int k) H'
def spPickB : Sp := fun vs H Q _ => ∃ (d l i a : Addr) (b : Int) (xs : List V), vs = [.ref d, .ref a] ∧ DrawB H d l i b ∧ b ≤ 10 ^ 12 ∧ H a = some (.lst xs) ∧ a ≠ l ∧ xs ≠ [] ∧ xs.length ≤ 1000 ∧ ∀ (x : V) (H' : Hp), x ∈ xs → DrawB H' d l i (b + 1) → KeepX [d, l] H H' → Q x H'
section
variable {P : Program} {w : World} {K : PySem.W.Frag} {mg : Str → Option Value} {base : Heap}
abbrev NMx : List Str := ["_law_draw", "_law_number", "_law_prime", "_law_part", "_law_item"]
theorem scMx : FnScope NMx ["_law_draw"] (defScope s__law_mixed) := ⟨rfl, rfl, rfl, by decide +kernel, rfl, by decide +kernel, by decide +kernel⟩
theorem ok_mixedB {f : Addr} {fd : FuncData} (F : Fun K "_law_mixed" "_law_mixed" s__law_mixed f fd) : FnOk P w K mg base CX0 1 f fd ["_law_draw"] spMixedB := by
  refine F.ok scMx (fun vs H Q E h => ?_) (fun cdv A outer s H vs Q E hr h => ?_)
  · obtain ⟨d, l, i, b, rfl, _⟩ := h
    rfl
  · obtain ⟨d, l, i, b, rfl, hD, bb, k⟩ := h
    have hu := hu_of hr
    have nd := scMx.nd
    have big : 1000 ≤ sizeLine := by decide
    refine ⟨_, pss_cons (ps_dput hu (pv 0) pe_str (pe_op op_add (pe_dget hu (pv 0) pe_str (fun _ _ => rfl)) pe_int) rfl)
      (pss_cons (ps_set (i := 1) nd rfl (.inl rfl) pe_int)
      (pss_cons (ps_for PassesOwn.never rfl (pi_list (pe_lst (pa_cons pe_int (pa_cons pe_int (pa_cons pe_int (pa_cons pe_int pa_nil)))))) (pg_name (i := 2) nd rfl (.inl rfl))
        (pss_cons (ps_set (i := 3) nd rfl (.inl rfl) (pe_op op_add (pe_op op_mul pe_int (pe_dget hu (pv 0) pe_str (fun _ _ => rfl))) (pe_op op_fdiv (pv 2) pe_int)))
        (pss_cons (ps_for PassesOwn.never rfl (pi_list (pe_dget hu (pv 0) pe_str (fun _ _ => rfl))) (pg_name (i := 4) nd rfl (.inl rfl))
          (pss_one (ps_set (i := 3) nd rfl (.inl rfl) (pe_op op_mod (pe_op op_add (pe_op op_mul (pv 3) pe_int) (pv 4)) (pv 2)))))
        (pss_one (ps_set (i := 1) nd rfl (.inl rfl) (pe_op op_add (pe_op op_mul (pv 1) pe_int) (pe_op op_mod (pe_op op_pow (pv 3) pe_int) (pv 2))))))))
      (pss_one (ps_ret (pv 1))))), ?_⟩
    have hdne := hD.ne
    obtain ⟨lf, tn, lg, it, a1, a2, a3, a4, lg0, it0, lgl, itl, lf0, tn0, tnb⟩ := hD
    obtain ⟨_, _, _, gt⟩ := stB_get a1
    refine ⟨_, rfl, d, _, rfl, gt, _, _, rfl, rfl, _, rfl, d, _, rfl, DPut.k (k := Sum.inr "turn") a1 (by show 4 < sizeLine; omega), ?_⟩
    rw [stB_turn]
    obtain ⟨H1, e1⟩ : ∃ X, X = upd H d (.dK (stB l i lf (tn + 1))) := ⟨_, rfl⟩
    have hd1 : H1 d = some (.dK (stB l i lf (tn + 1))) := by rw [e1]; exact upd_same
    have hl1 : H1 l = some (.lst (lg.map V.int)) := by rw [e1, upd_ne hdne.1]; exact a2
    have hi1 : H1 i = some (.lst (it.map V.int)) := by rw [e1, upd_ne hdne.2.1]; exact a3
    have k1 : KeepX [d, l] H H1 := fun b u nb e => by
      rw [e1, upd_ne fun z => nb (by rw [z]; exact List.mem_cons_self ..)]
      exact e
    obtain ⟨_, gi, _, gt1⟩ := stB_get hd1
    rw [← e1]
    refine ⟨by show 4 ≤ sizeLine; omega, fun pl npl => ⟨pl, rfl, ⟨_, SqL.of upd_same⟩, ?_⟩⟩
    obtain ⟨H2, e2⟩ : ∃ X, X = upd H1 pl (.lst [V.int 2147483629, V.int 2147483587, V.int 2147483579, V.int 2147483563]) := ⟨_, rfl⟩
    have s12 : Same H1 H2 := e2 ▸ same_new npl
    have hpl : H2 pl = some (.lst (([2147483629, 2147483587, 2147483579, 2147483563] : List Int).map V.int)) := by rw [e2]; exact upd_same
    rw [← e2]
    have prb : ∀ p ∈ ([2147483629, 2147483587, 2147483579, 2147483563] : List Int), 2147483563 ≤ p ∧ p ≤ 2147483629 := by decide
    refine for_it walk_list (fun j σ' H' => (∃ (n : Int) (u2 u3 u4 : Option V), σ' = [some (.ref d), some (.int n), u2, u3, u4] ∧ 0 ≤ n) ∧ H' = H2) ⟨⟨0, _, _, _, rfl, Int.le_refl _⟩, rfl⟩ (fun j σ' H' _ z => by rw [z.2]; exact SqL.of hpl) ?_ ?_
    · intro j y σ' Hz Ha hj ⟨⟨n, u2, u3, u4, eσ, n0⟩, eH⟩ ⟨eb, ey⟩
      subst eσ
      subst eb
      obtain ⟨p, hp, rfl⟩ := map_of ey
      obtain ⟨p0, p1⟩ := prb p (List.mem_of_getElem? hp)
      have gt2 : DGet Ha d (.str "turn") (some (.int (tn + 1))) := (stB_get (by rw [eH]; exact s12 _ _ hd1)).2.2.2
      have gi2 : DGet Ha d (.str "items") (some (.ref i)) := (stB_get (by rw [eH]; exact s12 _ _ hd1)).2.1
      have hi2 : Ha i = some (.lst (it.map V.int)) := by rw [eH]; exact s12 _ _ hi1
      have q0 : 0 ≤ p / 13 := Int.ediv_nonneg (by omega) (by decide)
      have q1 : p / 13 ≤ 2147483629 := by omega
      refine ⟨_, rfl, d, _, rfl, gt2, _, _, rfl, rfl, .inl ⟨by decide, by decide⟩, _, rfl, _, _, rfl, rfl, ⟨by decide, by decide⟩, _, _, rfl, rfl, ?_⟩
      obtain ⟨m0, em0⟩ : ∃ m0, m0 = 92821 * (tn + 1) + p / 13 := ⟨_, rfl⟩
      have b0 : 0 ≤ m0 ∧ m0 < 2 ^ 62 := by
        have : (10 : Int) ^ 12 = 1000000000000 := by decide
        have : (2 : Int) ^ 62 = 4611686018427387904 := by decide
        omega
      show gName 3 (V.int (92821 * (tn + 1) + p / 13)) _ _ _
      rw [← em0]
      refine ⟨_, rfl, d, _, rfl, gi2, i, rfl, ⟨_, SqL.of hi2⟩, ?_⟩
      refine for_it walk_list (fun j σ' H' => (∃ (m : Int) (u4 : Option V), σ' = [some (.ref d), some (.int n), some (.int p), some (.int m), u4] ∧ 0 ≤ m ∧ m < 2 ^ 62) ∧ H' = Ha) ⟨⟨m0, _, rfl, b0.1, b0.2⟩, rfl⟩ (fun j σ' H' _ z => by rw [z.2]; exact SqL.of hi2) ?_ ?_
      · intro j2 y2 σ2 Hz Hc hj2 ⟨⟨m, u4', eσ2, ma, mb⟩, eH2⟩ ⟨eb2, ey2⟩
        subst eσ2
        subst eb2
        obtain ⟨c, hc, rfl⟩ := map_of ey2
        refine ⟨_, rfl, _, _, rfl, rfl, .inr ⟨by decide, by decide⟩, _, rfl, _, _, rfl, rfl, _, rfl, _, _, rfl, rfl, (by show (0 : Int) < p; omega), ⟨⟨_, _, rfl, Int.emod_nonneg _ (by omega), ?_⟩, eH2⟩⟩
        have := Int.emod_lt_of_pos (m * 48271 + c) (show 0 < p by omega)
        have e62 : (2 : Int) ^ 62 = 4611686018427387904 := by decide
        omega
      · intro σ2 Hc ⟨⟨m, u4', eσ2, ma, mb⟩, eH2⟩
        subst eσ2
        subst eH2
        refine ⟨_, rfl, _, _, rfl, rfl, .inr ⟨by decide, by decide⟩, _, rfl, _, _, rfl, rfl, ⟨by decide, by decide, ?_⟩, _, rfl, _, _, rfl, rfl, (by show (0 : Int) < p; omega), _, _, rfl, rfl, ⟨⟨_, _, _, _, rfl, ?_⟩, eH⟩⟩
        · have e62 : (2 : Int) ^ 62 = 4611686018427387904 := by decide
          have e64 : (2 : Nat) ^ 64 = 18446744073709551616 := by decide
          omega
        · have := Int.emod_nonneg (m ^ Int.toNat 5) (show p ≠ 0 by omega)
          have : 0 ≤ n * 2147483647 := by omega
          show 0 ≤ n * 2147483647 + m ^ Int.toNat 5 % p
          omega
    · intro σ' H' ⟨⟨n, u2, u3, u4, eσ, n0⟩, eH⟩
      subst eσ
      subst eH
      refine ⟨_, rfl, k n H' n0 ⟨lf, tn + 1, lg, it, s12 _ _ hd1, s12 _ _ hl1, s12 _ _ hi1, a4, lg0, it0, lgl, itl, lf0, by omega, by omega⟩ (k1.trans (.of_same s12))⟩
abbrev NTk : List Str := ["_law_draw", "_law_size", "_law_digit"]
theorem scTk : FnScope NTk ["_law_draw", "_law_size"] (defScope s__law_take) := ⟨rfl, rfl, rfl, by decide +kernel, rfl, by decide +kernel, by decide +kernel⟩
theorem ok_takeB {f fM : Addr} {fd fdM : FuncData} (F : Fun K "_law_take" "_law_take" s__law_take f fd) (DM : Dn P w K mg base CX0 1 "_law_mixed" ["_law_draw"] spMixedB fM fdM) : FnOk P w K mg base CX0 2 f fd ["_law_draw", "_law_size"] spTakeB := by
  refine F.ok scTk (fun vs H Q E h => ?_) (fun cdv A outer s H vs Q E hr h => ?_)
  · obtain ⟨d, l, i, b, n, rfl, _⟩ := h
    rfl
  · obtain ⟨d, l, i, b, n, rfl, hD, bb, n0, n1, k⟩ := h
    have hu := hu_of hr
    have nd := scTk.nd
    have big : 1000 ≤ sizeLine := by decide
    refine ⟨_, pss_cons (ps_if (pt_cmpR op_eq (pe_dget hu (pv 0) pe_str (fun _ _ => rfl)) pe_int (nomark _))
        (pss_one (ps_dput hu (pv 0) pe_str (pe_ifExp (pt_cmpR (op_neD hr.units) (pe_dget hu (pv 0) pe_str (fun _ _ => rfl)) (pe_lst pa_nil) (nomark _)) (pe_bm PySem.F.plainAttrs_list PySem.F.slot_list_pop PySem.F.type_list_pop mt_popAt (pe_dget hu (pv 0) pe_str (fun _ _ => rfl)) (pa_cons pe_int pa_nil)) (pe_call DM.ok hr rfl DM.mgn DM.kp DM.bn .nil pass0 (pa_cons (pv 0) pa_nil))) rfl)) pss_nil)
      (pss_cons (ps_set (i := 2) nd rfl (.inl rfl) (pe_op op_mod (pe_dget hu (pv 0) pe_str (fun _ _ => rfl)) (pv 1)))
      (pss_cons (ps_dput hu (pv 0) pe_str (pe_op op_fdivW (pe_dget hu (pv 0) pe_str (fun _ _ => rfl)) (pv 1)) rfl)
      (pss_one (ps_ret (pv 2))))), ?_⟩
    have hD0 := hD
    have hdne := hD.ne
    obtain ⟨lf, tn, lg, it, a1, a2, a3, a4, lg0, it0, lgl, itl, lf0, tn0, tnb⟩ := hD
    -- from the left part on
    have rest : ∀ (H1 : Hp), DrawB H1 d l i (b + 1) → KeepX [d, l] H H1 → (tSeq (tAsg (tOp (rI (fun _ j => 0 < j) fun i j => .int (i % j)) (tDGet (tVar 0) (tC (.str "left"))) (tVar 1)) (gName 2)) (tSeq (sDPut (tVar 0) (tC (.str "left")) (tOp (rI CDivW fun i j => .int (i / j)) (tDGet (tVar 0) (tC (.str "left"))) (tVar 1))) (tRet (tVar 2)))) { nx := fun _ H' => Q .non H', rt := Q } [some (.ref d), some (.int n), none] H1 := by
      intro H1 hD1 k1
      obtain ⟨lf, tn, lg, it, a1, a2, a3, a4, lg0, it0, lgl, itl, lf0, tn0, tnb⟩ := hD1
      have gl := (stB_get a1).2.2.1
      refine ⟨_, rfl, d, _, rfl, gl, _, rfl, _, _, rfl, rfl, n0, ?_⟩
      refine ⟨_, rfl, d, _, rfl, gl, _, rfl, _, _, rfl, rfl, wide_div n0 n1 (by decide) (by decide), _, rfl, d, _, rfl, DPut.k (k := Sum.inr "left") a1 (by show 4 < sizeLine; omega), ?_⟩
      rw [stB_left]
      refine ⟨_, rfl, k (lf % n) _ (Int.emod_nonneg _ (by omega)) (Int.emod_lt_of_pos _ n0) ⟨lf / n, tn, lg, it, upd_same, by rw [upd_ne hdne.1]; exact a2, by rw [upd_ne hdne.2.1]; exact a3, a4, lg0, it0, lgl, itl, Int.ediv_nonneg lf0 (by omega), tn0, tnb⟩ fun b u nb e => ?_⟩
      rw [upd_ne fun z => nb (by rw [z]; exact List.mem_cons_self ..)]
      exact k1 b u nb e
    have g := stB_get a1
    refine ⟨_, rfl, d, _, rfl, g.2.2.1, rfl, _, rfl, ?_⟩
    refine ite2 (fun _ => ?_) (fun _ => rest H (hD0.more (by omega)) fun _ _ _ e => e)
    refine ⟨_, rfl, d, _, rfl, g.1, by show 0 ≤ sizeLine; omega, fun e ne => ⟨_, _, .lst (SqL.of (by rw [upd_ne (ne_of_none a2 ne)]; exact a2)) (dp_ints lg), .lst (SqL.of upd_same) .nil, (ints_shaped lg).2, rfl, ?_⟩⟩
    obtain ⟨H2, e2⟩ : ∃ X, X = upd H e (.lst []) := ⟨_, rfl⟩
    have s2 : Same H H2 := e2 ▸ same_new ne
    have kx2 : KeepX [d, l] H H2 := .of_same s2
    have g2 := stB_get (s2 _ _ a1)
    rw [← e2]
    refine ⟨_, rfl, ite2 (fun t => ?_) (fun t => ?_)⟩
    · cases lg with
      | nil => cases t
      | cons z lg =>
        obtain ⟨sx, _, _, _⟩ := ixN_seq (ixN_nat (n := ((z :: lg).map V.int).length) (j := 0) (by rw [List.length_map, List.length_cons]; omega))
        refine ⟨_, rfl, d, _, rfl, g2.1, .inl ⟨rfl, _, SqL.of (s2 _ _ a2)⟩, l, _, 0, 0, _, rfl, rfl, s2 _ _ a2, by decide, by decide, sx, rfl, ?_⟩
        have hd3 : (upd H2 l (.lst (((z :: lg).map V.int).eraseIdx 0))) d = some (.dK (stB l i lf tn)) := by rw [upd_ne hdne.1.symm]; exact s2 _ _ a1
        refine ⟨_, rfl, d, _, rfl, DPut.k (k := Sum.inr "left") hd3 (by show 4 < sizeLine; omega), ?_⟩
        rw [stB_left]
        refine rest _ ⟨z, tn, lg, it, upd_same, by rw [upd_ne hdne.1, upd_same] <;> rfl, by rw [upd_ne hdne.2.1, upd_ne a4.symm]; exact s2 _ _ a3, a4, fun y hy => lg0 y (List.mem_cons_of_mem _ hy), it0, by rw [List.length_cons] at lgl; omega, itl, lg0 z (List.mem_cons_self ..), tn0, by omega⟩ fun b u nb e => ?_
        rw [upd_ne fun w => nb (by rw [w]; exact List.mem_cons_self ..), upd_ne fun w => nb (by rw [w]; simp)]
        exact s2 _ _ e
    · refine ⟨_, rfl, d, l, i, b, rfl, hD0.mono s2, bb, fun n' H3 n0' hD3 k3 => ?_⟩
      have hD3' := hD3
      obtain ⟨lf', tn', lg', it', c1, c2, c3, c4, c5, c6, c7, c8, c9, c10, c11⟩ := hD3
      refine ⟨_, rfl, d, _, rfl, DPut.k (k := Sum.inr "left") c1 (by show 4 < sizeLine; omega), ?_⟩
      rw [stB_left]
      refine rest _ ⟨n', tn', lg', it', upd_same, by rw [upd_ne hdne.1]; exact c2, by rw [upd_ne hdne.2.1]; exact c3, c4, c5, c6, c7, c8, n0', c10, c11⟩ fun b u nb e => ?_
      rw [upd_ne fun w => nb (by rw [w]; exact List.mem_cons_self ..)]
      exact k3 b u nb (s2 _ _ e)
abbrev NPk : List Str := ["_law_draw", "_law_some"]
theorem scPk : FnScope NPk ["_law_draw", "_law_some"] (defScope s__law_pick) := ⟨rfl, rfl, rfl, by decide +kernel, rfl, by decide +kernel, by decide +kernel⟩
theorem ok_pickB {f fT : Addr} {fd fdT : FuncData} (F : Fun K "_law_pick" "_law_pick" s__law_pick f fd) (T : Nm mg) (DT : Dn P w K mg base CX0 2 "_law_take" ["_law_draw", "_law_size"] spTakeB fT fdT) : FnOk P w K mg base CX0 3 f fd ["_law_draw", "_law_some"] spPickB := by
  refine F.ok scPk (fun vs H Q E h => ?_) (fun cdv A outer s H vs Q E hr h => ?_)
  · obtain ⟨d, l, i, a, b, xs, rfl, _⟩ := h
    rfl
  · obtain ⟨d, l, i, a, b, xs, rfl, hD, bb, ha, al, ne, few, k⟩ := h
    refine ⟨_, pss_one (ps_ret (pe_ix ix_list (pv 1) (pe_call DT.ok hr rfl DT.mgn DT.kp DT.bn .nil pass0 (pa_cons (pv 0) (pa_cons (pe_callB call_len_seq (by rfl) T.len PySem.boot_len (pa_cons (pv 1) pa_nil)) pa_nil))) (fun _ _ => rfl))), ?_⟩
    have ad : a ≠ d := by
      obtain ⟨lf, tn, lg, it, a1, _⟩ := hD
      exact ne_of ha a1 (by intro z; cases z)
    have l0 := List.length_pos_iff.mpr ne
    refine ⟨_, rfl, _, rfl, _, rfl, a, _, rfl, .inl (SqL.of ha), d, l, i, b, _, rfl, hD, bb, by omega, ?_, fun j H' j0 j1 hD' kx => ?_⟩
    · rw [Int.natAbs_natCast]
      exact Nat.lt_of_le_of_lt few (by decide)
    · have hj : j.toNat < xs.length := by omega
      have e : xs[j.toNat]? = some xs[j.toNat] := List.getElem?_eq_getElem hj
      have e2 := atI_nat e
      rw [show ((j.toNat : Nat) : Int) = j by omega] at e2
      exact ⟨a, xs, j, _, rfl, rfl, SqL.of (kx a _ (by simp [ad, al]) ha), e2, k _ H' (List.getElem_mem hj) hD' kx⟩
end
end FT


/-! family B: the drawn forest -/
namespace FT
open PySem L2 TL ClX LiI
/-- parents stand ahead of their children -/
def Ahead (t : List (Str × Str)) : Prop := ∀ (i : Nat) (p : Str × Str), t[i]? = some p → p.2 = "" ∨ p.2 ∈ (t.map Prod.fst).take i
def poolB : List Str := ["a", "b", "c", "ab", "new", "old", "pay", "root", "none", "x", "zzzzzzzz", "mid", "aa"]
theorem poolB_ok : (∀ z ∈ poolB, NameL z) ∧ poolB.Nodup := by decide +kernel
theorem DrawB.own {H : Hp} {d l i p : Addr} {b : Int} {u : HO} (x : DrawB H d l i b) (n : H p = none) : p ≠ d ∧ p ≠ l ∧ p ≠ i := x.apart n
theorem kx_at {d l p : Addr} {H H' : Hp} {u : HO} (k : KeepX [d, l] H H') (e : H p = some u) (n1 : p ≠ d) (n2 : p ≠ l) : H' p = some u := k p u (by simp [n1, n2]) e
theorem KeepX.trans' {Ex : List Addr} {H H1 H2 : Hp} (a : KeepX Ex H H1) (b : KeepX Ex H1 H2) : KeepX Ex H H2 := fun x u n e => b x u n (a x u n e)
theorem rep_strs (n : Nat) (a : Str) : (List.replicate n [V.str a]).flatten = (List.replicate n a).map V.str := by
  rw [List.map_replicate]
  induction n with
  | zero => rfl
  | succ n ih => rw [List.replicate_succ, List.flatten_cons, ih, List.replicate_succ] <;> rfl
theorem prs_kV (t : List (Str × Str)) : (prs t).map (fun kv => kV kv.1) = (t.map Prod.fst).map V.str := by
  unfold prs kvT
  rw [List.map_map, List.map_map, List.map_map] <;> rfl
def spForB : Sp := fun vs H Q _ => ∃ (d l i : Addr) (b mo : Int), vs = [.ref d, .int mo] ∧ 1 ≤ mo ∧ mo ≤ 12 ∧ DrawB H d l i b ∧ b + 100 ≤ 10 ^ 12 ∧
  ∀ (q : Addr) (t : List (Str × Str)) (H' : Hp), TreeOk t → Ahead t → H q = none → H' q = some (.dK (prs t)) → DrawB H' d l i (b + 100) → KeepX [d, l] H H' → Q (.ref q) H'
section
variable {P : Program} {w : World} {K : PySem.W.Frag} {mg : Str → Option Value} {base : Heap}
abbrev NFo : List Str := ["_law_draw", "_law_most", "_law_pool", "_law_parents", "_law_k", "_law_name"]
theorem scFo : FnScope NFo ["_law_draw", "_law_most"] (defScope s__law_forest) := ⟨rfl, rfl, rfl, by decide +kernel, rfl, by decide +kernel, by decide +kernel⟩
end
end FT


/-! feasible sizes, dealt out name by name (plain maths) -/
namespace FT
open PySem L2 TL ClX
/-! ### sizes that are drawn -/
theorem szOf_tbl {l : List Str} {sz : Str → Int} {a : Str} (h : a ∈ l) : szOf (tblI l sz) a = sz a := by
  unfold szOf
  rw [tblI_val h]
theorem kids_sub {t : List (Str × Str)} {p a : Str} (h : a ∈ kids t p) : a ∈ t.map Prod.fst := by
  obtain ⟨q, hq, rfl⟩ := List.mem_map.mp h
  exact List.mem_map.mpr ⟨q, (List.mem_filter.mp hq).1, rfl⟩
theorem resid_congr {t : List (Str × Str)} {n : Int} {sz sz' : Str → Int} {p : Str} (h : ∀ a ∈ t.map Prod.fst, sz a = sz' a) (hp : p = "" ∨ sz p = sz' p) : resid t n sz p = resid t n sz' p := by
  unfold resid
  rw [List.map_congr_left fun a ha => h a (kids_sub ha)]
  by_cases e : p = ""
  · rw [if_pos e, if_pos e]
  · rw [if_neg e, if_neg e, hp.resolve_left e]
/-- feasible sizes for n users -/
structure Fea (t : List (Str × Str)) (n : Int) (sz : Str → Int) : Prop where
  nn : ∀ a ∈ t.map Prod.fst, 0 ≤ sz a
  res : ∀ p ∈ (("" : Str) :: t.map Prod.fst), 0 ≤ resid t n sz p
theorem Fea.perm {t u : List (Str × Str)} {n : Int} {sz : Str → Int} (p : t.Perm u) (f : Fea t n sz) : Fea u n sz :=
  ⟨fun a ha => f.nn a ((p.map _).mem_iff.mpr ha), fun q hq => by rw [← resid_perm p]; exact f.res q ((List.mem_cons.mp hq).elim (fun e => e ▸ List.mem_cons_self ..) fun m => List.mem_cons_of_mem _ ((p.map Prod.fst).mem_iff.mpr m))⟩
theorem Fea.ok {CS : Addr} {ts : List (Str × Str)} {n : Int} {sz : Str → Int} {l : List Str} (f : Fea ts n sz) (p : l.Perm (ts.map Prod.fst)) : feE CS ts n (some (tblI l sz)) = none := by
  have e1 : ∀ a ∈ ts.map Prod.fst, valV (tblI l sz) (Sum.inr a) = some (.int (sz a)) := fun a ha => tblI_val (p.mem_iff.mpr ha)
  have ll := p.length_eq
  rw [List.length_map] at ll
  unfold feE
  rw [feas_some, if_neg (by rw [tblI_len]; exact fun z => z ll), if_neg]
  · have e2 : (ts.map Prod.fst).find? (badKey (tblI l sz)) = none := List.find?_eq_none.mpr fun a ha z => by
      unfold badKey at z
      rw [e1 a ha] at z
      have z' : (!decide ((0 : Int) ≤ sz a)) = true := z
      rw [decide_eq_true (f.nn a ha)] at z'
      cases z'
    rw [e2]
    have e3 : ((("" : Str) :: ts.map Prod.fst).find? fun p => decide (resid ts n (szOf (tblI l sz)) p < 0)) = none := List.find?_eq_none.mpr fun q hq z => by
      have z' := of_decide_eq_true z
      rw [resid_congr (sz' := sz) (fun a ha => szOf_tbl (p.mem_iff.mpr ha)) ((List.mem_cons.mp hq).imp id fun h => szOf_tbl (p.mem_iff.mpr h))] at z'
      have := f.res q hq
      omega
    show Option.map _ (Option.map V.str (List.find? _ _)) = none
    rw [e3] <;> rfl
  · intro z
    have : ((ts.map Prod.fst).all fun a => (valV (tblI l sz) (Sum.inr a)).isSome) = true := List.all_eq_true.mpr fun a ha => by rw [e1 a ha] <;> rfl
    rw [this] at z
    cases z
/-- what has been dealt out -/
structure Dealt (t : List (Str × Str)) (n : Int) (l : List Str) (t' : List (Str × Str)) (sz : Str → Int) : Prop where
  keys : t'.map Prod.fst = l
  sub : ∀ p ∈ t', p ∈ t
  par_ : ∀ p ∈ t', p.2 = "" ∨ p.2 ∈ l
  nn : ∀ a ∈ l, 0 ≤ sz a
  res : ∀ p ∈ (("" : Str) :: l), 0 ≤ resid t' n sz p
  top_ : ∀ p ∈ (("" : Str) :: l), resid t' n sz p ≤ n
theorem Dealt.nil {t : List (Str × Str)} {n : Int} {sz : Str → Int} (n0 : 0 ≤ n) : Dealt t n [] [] sz := by
  refine ⟨rfl, fun p h => (by cases h), fun p h => (by cases h), fun a h => (by cases h), fun p h => ?_, fun p h => ?_⟩
  · rw [List.mem_singleton.mp h]
    show 0 ≤ n - 0
    omega
  · rw [List.mem_singleton.mp h]
    show n - 0 ≤ n
    omega
theorem Dealt.step {t t' : List (Str × Str)} {n : Int} {l : List Str} {sz : Str → Int} (d : Dealt t n l t' sz) {a pa : Str} {z : Int} (na : a ∉ l) (ne : a ≠ "") (mt : (a, pa) ∈ t) (mp : pa = "" ∨ pa ∈ l) (z0 : 0 ≤ z) (z1 : z ≤ resid t' n sz pa) :
    Dealt t n (l ++ [a]) (t' ++ [(a, pa)]) (fun x => if x = a then z else sz x) ∧
    (∀ p ∈ (("" : Str) :: (l ++ [a])), resid (t' ++ [(a, pa)]) n (fun x => if x = a then z else sz x) p = if p = pa then resid t' n sz pa - z else if p = a then z else resid t' n sz p) := by
  have kid : kids t' a = [] := by
    unfold kids
    rw [List.filter_eq_nil_iff.mpr fun q hq z => ?_] <;> try rfl
    have e := of_decide_eq_true z
    rcases d.par_ q hq with h | h
    · exact ne (e.symm.trans h)
    · exact na (by rw [← e]; exact h)
  have pne : pa ≠ a := fun e => mp.elim (fun h => ne (e.symm.trans h)) fun h => na (by rw [← e]; exact h)
  have old : ∀ p, p ≠ a → resid t' n (fun x => if x = a then z else sz x) p = resid t' n sz p := fun p hp =>
    resid_congr (fun x hx => if_neg fun e => na (by rw [← e, ← d.keys]; exact hx)) (.inr (if_neg hp))
  have eq : ∀ p ∈ (("" : Str) :: (l ++ [a])), resid (t' ++ [(a, pa)]) n (fun x => if x = a then z else sz x) p = if p = pa then resid t' n sz pa - z else if p = a then z else resid t' n sz p := fun p _ => by
    rw [resid_snoc]
    by_cases h1 : p = pa
    · rw [if_pos h1.symm, if_pos h1, old p (by rw [h1]; exact pne), h1]
      show _ - (if a = a then z else sz a) = _
      rw [if_pos rfl]
    · rw [if_neg (fun e => h1 e.symm), if_neg h1]
      by_cases h2 : p = a
      · rw [if_pos h2, h2]
        unfold resid
        rw [kid, if_neg ne]
        show (if a = a then z else sz a) - 0 = z
        rw [if_pos rfl]
        omega
      · rw [if_neg h2, old p h2]
  refine ⟨⟨by rw [List.map_append, d.keys] <;> rfl, fun p hp => ?_, fun p hp => ?_, fun x hx => ?_, fun p hp => ?_, fun p hp => ?_⟩, eq⟩
  · rcases List.mem_append.mp hp with h | h
    · exact d.sub p h
    · rw [List.mem_singleton.mp h]
      exact mt
  · rcases List.mem_append.mp hp with h | h
    · exact (d.par_ p h).imp id fun m => List.mem_append_left _ m
    · rw [List.mem_singleton.mp h]
      exact mp.imp id fun m => List.mem_append_left _ m
  · show 0 ≤ if x = a then z else sz x
    by_cases e : x = a
    · rw [if_pos e]
      exact z0
    · rw [if_neg e]
      exact d.nn x ((List.mem_append.mp hx).resolve_right fun m => e (List.mem_singleton.mp m))
  · rw [eq p hp]
    by_cases h1 : p = pa
    · rw [if_pos h1]
      omega
    · rw [if_neg h1]
      by_cases h2 : p = a
      · rw [if_pos h2]
        exact z0
      · rw [if_neg h2]
        refine d.res p ((List.mem_cons.mp hp).elim (fun e => e ▸ List.mem_cons_self ..) fun m => List.mem_cons_of_mem _ ?_)
        exact (List.mem_append.mp m).resolve_right fun m => h2 (List.mem_singleton.mp m)
  · rw [eq p hp]
    have tp := d.top_ pa (List.mem_cons.mpr mp)
    by_cases h1 : p = pa
    · rw [if_pos h1]
      omega
    · rw [if_neg h1]
      by_cases h2 : p = a
      · rw [if_pos h2]
        omega
      · rw [if_neg h2]
        refine d.top_ p ((List.mem_cons.mp hp).elim (fun e => e ▸ List.mem_cons_self ..) fun m => List.mem_cons_of_mem _ ?_)
        exact (List.mem_append.mp m).resolve_right fun m => h2 (List.mem_singleton.mp m)
end FT


/-! family B: sizes that are drawn -/
namespace FT
open PySem L2 TL ClX LiI
def spSizesB : Sp := fun vs H Q _ => ∃ (d l i q : Addr) (b n : Int) (t : List (Str × Str)), vs = [.ref d, .ref q, .int n] ∧ DrawB H d l i b ∧ b + 100 ≤ 10 ^ 12 ∧ H q = some (.dK (prs t)) ∧ TreeOk t ∧ Ahead t ∧ 0 ≤ n ∧ n ≤ 10 ^ 30 ∧
  ∀ (p : Addr) (sz : Str → Int) (H' : Hp), Fea t n sz → H p = none → H' p = some (.dK (tblI (t.map Prod.fst) sz)) → DrawB H' d l i (b + 100) → KeepX [d, l] H H' → Q (.ref p) H'
theorem DrawB.off_prs {H : Hp} {d l i q : Addr} {b : Int} {t : List (Str × Str)} (x : DrawB H d l i b) (hq : H q = some (.dK (prs t))) : q ≠ d ∧ q ≠ l ∧ q ≠ i := by
  obtain ⟨lf, tn, lg, it, a1, a2, a3, _⟩ := x
  refine ⟨ne_of hq a1 fun z => ?_, ne_of hq a2 (by intro z; cases z), ne_of hq a3 (by intro z; cases z)⟩
  have z := congrArg List.head? (HO.dK.inj z)
  cases t with
  | nil => cases z
  | cons y t =>
    have z := congrArg Prod.snd (Option.some.inj z)
    cases z
section
variable {P : Program} {w : World} {K : PySem.W.Frag} {mg : Str → Option Value} {base : Heap}
abbrev NSb : List Str := ["_law_draw", "_law_parents", "_law_folk", "_law_wide", "_law_left", "_law_name", "_law_above", "_law_size"]
theorem scSb : FnScope NSb ["_law_draw", "_law_parents", "_law_folk"] (defScope s__law_sizes) := ⟨rfl, rfl, rfl, by decide +kernel, rfl, by decide +kernel, by decide +kernel⟩
theorem ok_sizesB {f fT fP : Addr} {fd fdT fdP : FuncData} (F : Fun K "_law_sizes" "_law_sizes" s__law_sizes f fd) (T : Nm mg) (DT : Dn P w K mg base CX0 2 "_law_take" ["_law_draw", "_law_size"] spTakeB fT fdT) (DP : Dn P w K mg base CX0 3 "_law_pick" ["_law_draw", "_law_some"] spPickB fP fdP) : FnOk P w K mg base CX0 4 f fd ["_law_draw", "_law_parents", "_law_folk"] spSizesB := by
  refine F.ok scSb (fun vs H Q E h => ?_) (fun cdv A outer s H vs Q E hr h => ?_)
  · obtain ⟨d, l, i, q, b, n, t, rfl, _⟩ := h
    rfl
  · obtain ⟨d, l, i, q, b, n, t, rfl, hD, bb, hq, o, ah, n0, n60, k⟩ := h
    have hu := hu_of hr
    have hr2 : Room 2 _ := hr.mono (by decide)
    have nd := scSb.nd
    have big : 1000 ≤ sizeLine := by decide
    have few := o.few
    refine ⟨_, pss_cons (ps_par (i := 3) (j := 4) rfl nd rfl rfl (by decide) rfl rfl (pa_cons pe_dnewK (pa_cons (pe_disp (pps_cons pe_str (pv 2) pps_nil) (by rfl) (by rfl) (fun z => by cases z) (by decide)) pa_nil)) (by rfl))
      (pss_cons (ps_lock (ps_for PassesOwn.never rfl (pi_keys (pv 1)) (pg_name (i := 5) nd rfl (.inl rfl))
        (pss_cons (ps_set (i := 6) nd rfl (.inl rfl) (pe_dget hu (pv 1) (pv 5) (fun _ _ => rfl)))
        (pss_cons (ps_set (i := 7) nd rfl (.inl rfl) (pe_call DP.ok hr rfl DP.mgn DP.kp DP.bn .nil pass0 (pa_cons (pv 0) (pa_cons (pe_lst (pa_cons pe_int (pa_cons (pe_dget hu (pv 4) (pv 6) (fun _ _ => rfl))
          (pa_cons (pe_call DT.ok hr2 rfl DT.mgn DT.kp DT.bn .nil pass0 (pa_cons (pv 0) (pa_cons (pe_op op_add (pe_dget hu (pv 4) (pv 6) (fun _ _ => rfl)) pe_int) pa_nil)))
          (pa_cons (pe_call DT.ok hr2 rfl DT.mgn DT.kp DT.bn .nil pass0 (pa_cons (pv 0) (pa_cons (pe_op op_add (pe_dget hu (pv 4) (pv 6) (fun _ _ => rfl)) pe_int) pa_nil))) pa_nil))))) pa_nil))))
        (pss_cons (ps_dput hu (pv 3) (pv 5) (pv 7) rfl)
        (pss_cons (ps_dput hu (pv 4) (pv 6) (pe_op op_sub (pe_dget hu (pv 4) (pv 6) (fun _ _ => rfl)) (pv 7)) rfl)
        (pss_one (ps_dput hu (pv 4) (pv 5) (pv 7) rfl))))))))
      (pss_one (ps_ret (pv 3)))), ?_⟩
    refine fun qf nqf ql nql => ⟨_, rfl, upd_same, [(Sum.inr "", V.int n)], rfl, by show 1 ≤ 15; omega, _, _, rfl, ?_⟩
    have qfl : qf ≠ ql := ne_of_none upd_same nql
    obtain ⟨H3, e3⟩ : ∃ X, X = upd (upd (upd H qf (.dK [])) ql (.dK [])) ql (.dK (mergeK [] [(Sum.inr "", V.int n)])) := ⟨_, rfl⟩
    have nql0 : H ql = none := by rw [upd_ne qfl.symm] at nql; exact nql
    have s03 : Same H H3 := e3 ▸ ((same_new nqf).put nql0).put nql0
    have hf3 : H3 qf = some (.dK (tblI [] fun _ => 0)) := by
      rw [e3, upd_ne qfl, upd_ne qfl, upd_same] <;> rfl
    have hl3 : H3 ql = some (.dK (tblI [""] (resid [] n fun _ => 0))) := by
      rw [e3, upd_same]
      show some (HO.dK [(Sum.inr "", V.int n)]) = some (HO.dK [(Sum.inr "", V.int (n - 0))])
      rw [Int.sub_zero]
    have dr3 := hD.mono s03
    have qfd := hD.apart nqf
    have qld := hD.apart nql0
    have qqf : q ≠ qf := ne_of_none hq nqf
    have qql : q ≠ ql := ne_of_none hq nql0
    have qd := hD.off_prs hq
    have hq3 := s03 _ _ hq
    rw [← e3]
    refine ⟨q, _, hq3, trivial, fun od => ⟨_, rfl, q, od, rfl, .inl ⟨_, upd_same, ?_⟩⟩⟩
    obtain ⟨H4, e4⟩ : ∃ X, X = upd H3 q (.frz od (.dK (prs t))) := ⟨_, rfl⟩
    have hq4 : H4 q = some (.frz od (.dK (prs t))) := by rw [e4, upd_same]
    have hf4 : H4 qf = some (.dK (tblI [] fun _ => 0)) := by rw [e4, upd_ne qqf.symm]; exact hf3
    have hl4 : H4 ql = some (.dK (tblI [""] (resid [] n fun _ => 0))) := by rw [e4, upd_ne qql.symm]; exact hl3
    have dr4 : DrawB H4 d l i b := by rw [e4]; exact dr3.off qd.1 qd.2.1 qd.2.2
    have k4 : ∀ x u, x ≠ q → x ∉ [d, l] → H x = some u → H4 x = some u := fun x u nq _ e => by rw [e4, upd_ne nq]; exact s03 _ _ e
    rw [← e4]
    refine for_it walk_keys (fun j σ' H' => (∃ u5 u6 u7, σ' = [some (.ref d), some (.ref q), some (.int n), some (.ref qf), some (.ref ql), u5, u6, u7]) ∧ DrawB H' d l i (b + 3 * (j : Int)) ∧ H' q = some (.frz od (.dK (prs t))) ∧ (∀ x u, x ≠ q → x ∉ [d, l] → H x = some u → H' x = some u) ∧
      ∃ sz : Str → Int, Dealt t n ((t.map Prod.fst).take j) (t.take j) sz ∧ H' qf = some (.dK (tblI ((t.map Prod.fst).take j) sz)) ∧ H' ql = some (.dK (tblI ("" :: (t.map Prod.fst).take j) (resid (t.take j) n sz))))
      ⟨⟨_, _, _, rfl⟩, dr4.more (by omega), hq4, k4, (fun _ => 0), Dealt.nil n0, hf4, hl4⟩ (fun j σ' H' _ z => z.2.2.1) ?_ ?_
    · intro j y σ' Hz Hb hj ⟨⟨u5, u6, u7, e⟩, da, aqa, ka, sz, dl, hfa, hla⟩ ⟨eb, kk, vv, hk, ey⟩
      subst e
      subst eb
      subst ey
      obtain ⟨⟨a, pa⟩, hp, ee⟩ : ∃ x : Str × Str, t[j]? = some x ∧ (kk, vv) = (Sum.inr x.1, V.str x.2) := by
        unfold prs kvT at hk
        rw [List.map_map, List.getElem?_map] at hk
        obtain ⟨x, hx, z⟩ := Option.map_eq_some_iff.mp hk
        exact ⟨x, hx, z.symm⟩
      cases ee
      rw [show kV (Sum.inr a) = V.str a from rfl]
      have mp := List.mem_of_getElem? hp
      have ma : a ∈ t.map Prod.fst := List.mem_map.mpr ⟨_, mp, rfl⟩
      have hja : (t.map Prod.fst)[j]? = some a := by rw [List.getElem?_map, hp] <;> rfl
      have hpa := par_of o.nd mp
      have jl := (List.getElem?_eq_some_iff.mp hp).1
      have anr : a ≠ "" := fun z => o.root (by rw [← z]; exact ma)
      have fresh : a ∉ (t.map Prod.fst).take j := nat_fresh o.nd hja
      have mpa : pa = "" ∨ pa ∈ (t.map Prod.fst).take j := ah j _ hp
      have mpl : pa ∈ (("" : Str) :: (t.map Prod.fst).take j) := List.mem_cons.mpr mpa
      obtain ⟨m, em⟩ : ∃ m, m = resid (t.take j) n sz pa := ⟨_, rfl⟩
      have m0 : 0 ≤ m := by rw [em]; exact dl.res pa mpl
      have mn : m ≤ 10 ^ 30 := by
        have := dl.top_ pa mpl
        omega
      have lkeep : ((t.map Prod.fst).take j).length = j := by rw [List.length_take, List.length_map]; omega
      have dgp : DGet Hb q (.str a) (some (.str pa)) := .inl ⟨_, Sum.inr a, .inr ⟨od, aqa⟩, rfl, by rw [val_prs, hpa] <;> rfl⟩
      have gl : ∀ {H'}, H' ql = some (.dK (tblI ("" :: (t.map Prod.fst).take j) (resid (t.take j) n sz))) → DGet H' ql (.str pa) (some (.int m)) := fun {H'} h => by
        have z := DGet.k (k := Sum.inr pa) h
        rw [tblI_val mpl, ← em] at z
        exact z
      have bnd : (m + 1).natAbs < 2 ^ 200 := by omega
      refine ⟨_, rfl, _, rfl, q, .str pa, rfl, dgp, ?_⟩
      refine ⟨_, rfl, _, rfl, _, rfl, ql, _, rfl, gl hla, ?_⟩
      refine ⟨_, rfl, _, rfl, _, rfl, ql, _, rfl, gl hla, _, _, rfl, rfl, d, l, i, _, m + 1, rfl, da, by omega, by omega, bnd, fun k1 H7 k10 k11 d7 kp7 => ?_⟩
      have hf7 := kx_at kp7 hfa qfd.1 qfd.2.1
      have hl7 := kx_at kp7 hla qld.1 qld.2.1
      have hq7 := kx_at kp7 aqa qd.1 qd.2.1
      refine ⟨_, rfl, _, rfl, _, rfl, ql, _, rfl, gl hl7, _, _, rfl, rfl, d, l, i, _, m + 1, rfl, d7, by omega, by omega, bnd, fun k2 H8 k20 k21 d8 kp8 => ?_⟩
      have hf8 := kx_at kp8 hf7 qfd.1 qfd.2.1
      have hl8 := kx_at kp8 hl7 qld.1 qld.2.1
      have hq8 := kx_at kp8 hq7 qd.1 qd.2.1
      refine ⟨by show 4 ≤ sizeLine; omega, fun pl npl => ?_⟩
      have pld := d8.apart npl
      have s8 := same_new (o := .lst (([0, m, k1, k2] : List Int).map V.int)) npl
      refine ⟨d, l, i, pl, _, ([0, m, k1, k2] : List Int).map V.int, rfl, d8.mono s8, by omega, upd_same, pld.2.1, (fun z => by cases z), by show 4 ≤ 1000; decide, fun x H9 xm d9 k9 => ?_⟩
      obtain ⟨z, hz, rfl⟩ := List.mem_map.mp xm
      have zb : 0 ≤ z ∧ z ≤ m := by
        simp only [List.mem_cons, List.not_mem_nil, or_false] at hz
        rcases hz with rfl | rfl | rfl | rfl <;> omega
      obtain ⟨z0, z1⟩ := zb
      have hf9 := kx_at k9 (s8 _ _ hf8) qfd.1 qfd.2.1
      have hl9 := kx_at k9 (s8 _ _ hl8) qld.1 qld.2.1
      have hq9 := kx_at k9 (s8 _ _ hq8) qd.1 qd.2.1
      have ka9 : ∀ x u, x ≠ q → x ∉ [d, l] → H x = some u → H9 x = some u := fun x u nq nx e => k9 _ _ nx (s8 _ _ (kp8 _ _ nx (kp7 _ _ nx (ka x u nq nx e))))
      obtain ⟨dl', req⟩ := dl.step fresh anr mp mpa z0 (by rw [← em]; exact z1)
      refine ⟨_, rfl, _, rfl, _, rfl, qf, _, rfl, DPut.k (k := Sum.inr a) hf9 (by rw [tblI_len, lkeep]; omega), ?_⟩
      rw [tblI_congr (g' := fun x => if x = a then z else sz x) (fun b hb => (if_neg fun e => fresh (by rw [← e]; exact hb)).symm), tblI_snoc (g := fun x => if x = a then z else sz x) fresh (if_pos rfl).symm, ← take_more hja]
      obtain ⟨H10, e10⟩ : ∃ X, X = upd H9 qf (.dK (tblI ((t.map Prod.fst).take (j + 1)) fun x => if x = a then z else sz x)) := ⟨_, rfl⟩
      have hl10 : H10 ql = some (.dK (tblI ("" :: (t.map Prod.fst).take j) (resid (t.take j) n sz))) := by rw [e10, upd_ne qfl.symm]; exact hl9
      rw [← e10]
      refine ⟨_, rfl, _, rfl, ql, _, rfl, gl hl10, _, rfl, _, _, rfl, rfl, _, rfl, _, rfl, ql, _, rfl, DPut.k (k := Sum.inr pa) hl10 (by rw [tblI_len, List.length_cons, lkeep]; omega), ?_⟩
      rw [tblI_put mpl]
      refine ⟨_, rfl, _, rfl, _, rfl, ql, _, rfl, DPut.k (k := Sum.inr a) upd_same (by rw [tblI_len, List.length_cons, lkeep]; omega), ?_⟩
      rw [upd_upd]
      have nin : a ∉ (("" : Str) :: (t.map Prod.fst).take j) := fun h => (List.mem_cons.mp h).elim anr fresh
      obtain ⟨g, eg⟩ : ∃ g : Str → Int, g = fun p => if p = pa then m - z else if p = a then z else resid (t.take j) n sz p := ⟨_, rfl⟩
      have pne : a ≠ pa := fun e => nin (by rw [e]; exact mpl)
      rw [tblI_congr (l := "" :: (t.map Prod.fst).take j) (g' := g) (fun b hb => by
        rw [eg]
        show (if b = pa then _ else _) = if b = pa then _ else if b = a then _ else _
        rw [if_neg (show ¬ b = a from fun e => nin (by rw [← e]; exact hb))]), tblI_snoc (g := g) nin (by rw [eg]; show z = if a = pa then _ else if a = a then z else _; rw [if_neg pne, if_pos rfl]), List.cons_append, ← take_more hja]
      refine ⟨⟨_, _, _, rfl⟩, ?_, ?_, fun x u nq nx e => ?_, (fun x => if x = a then z else sz x), by rw [take_more hja, take_more hp]; exact dl', ?_, ?_⟩
      · rw [e10]
        exact ((d9.off qfd.1 qfd.2.1 qfd.2.2).off qld.1 qld.2.1 qld.2.2).more (by omega)
      · rw [upd_ne qql, e10, upd_ne qqf]
        exact hq9
      · rw [upd_ne (ne_of_none e nql0), e10, upd_ne (ne_of_none e nqf)]
        exact ka9 x u nq nx e
      · rw [upd_ne qfl, e10, upd_same]
      · rw [upd_same]
        congr 2
        refine tblI_congr fun b hb => ?_
        rw [take_more hja] at hb
        rw [take_more hp, req b hb, eg, em]
    · intro σ' H7 ⟨⟨u5, u6, u7, e⟩, da, aqa, ka, sz, dl, hfa, hla⟩
      subst e
      rw [prs_len] at da
      rw [show (prs t).length = (t.map Prod.fst).length by rw [prs_len, List.length_map], List.take_length, List.length_map, List.take_length] at dl
      rw [show (prs t).length = (t.map Prod.fst).length by rw [prs_len, List.length_map], List.take_length] at hfa
      have fe : Fea t n sz := ⟨fun a ha => dl.nn a ha, fun p hp => dl.res p hp⟩
      have nqq : H7 q = some (.frz od (.dK (prs t))) := aqa
      refine ⟨aqa, _, rfl, k qf sz _ fe nqf (by rw [upd_ne qqf.symm]; exact hfa) ((da.off qd.1 qd.2.1 qd.2.2).more (by omega)) fun x u nx e => ?_⟩
      by_cases z : x = q
      · subst z
        rw [hq] at e
        rw [upd_same]
        exact e
      · rw [upd_ne z]
        exact ka x u z nx e
end
end FT


/-! is_integer -/
namespace FT
open PySem L2 TL ClX
section
variable {P : Program} {w : World} {K : PySem.W.Frag} {mg : Str → Option Value} {base : Heap}
theorem scIsInt : FnScope ["value", "least"] ["value", "least"] (defScope s_is_integer) := ⟨rfl, rfl, rfl, by decide +kernel, rfl, by decide +kernel, by decide +kernel⟩
theorem ok_isInt {f : Addr} {fd : FuncData} (F : Fun K "is_integer" "is_integer" s_is_integer f fd) (T : Nm mg) : FnOk P w K mg base CX0 1 f fd ["value", "least"] (spIsInt K) := by
  refine F.ok scIsInt (fun vs H Q E h => ?_) (fun cdv A outer s H vs Q E hr h => ?_)
  · obtain ⟨v, l, rfl, _⟩ := h
    rfl
  · obtain ⟨v, l, rfl, ⟨t, d⟩, k⟩ := h
    refine ⟨_, pss_one (ps_ret (pe_and (pe_callB call_isi (by rfl) T.isi (by decide +kernel) (pa_cons (pv 0) (pa_cons (pe_bltn (v := .ty "int") (u := .type "int") (by rfl) T.int (by decide +kernel) rfl) pa_nil)))
      (pe_and (pe_not (pe_callB call_isi (by rfl) T.isi (by decide +kernel) (pa_cons (pv 0) (pa_cons (pe_bltn (v := .ty "bool") (u := .type "bool") (by rfl) T.bool (by decide +kernel) rfl) pa_nil)))) (pe_one (pe_cmpR op_ge (pv 0) (pv 1) (nomark _)))))), ?_⟩
    refine ⟨_, rfl, v, _, _, _, _, rfl, .ty _, d.ty, d.int_, _, rfl, ?_⟩
    refine ite2 (fun yes => ⟨_, rfl, v, _, _, _, _, rfl, .ty _, d.ty, d.bool_, _, rfl, _, rfl, ?_⟩) (fun no => ?_)
    · refine ite2 (fun yes2 => ?_) (fun no2 => ?_)
      · cases v with
        | int i => exact ⟨_, rfl, _, rfl, i, l, rfl, rfl, k⟩
        | bl b => cases yes2
        | _ => cases yes
      · cases v with
        | int i => exact absurd rfl no2
        | bl b => exact k
        | _ => cases yes
    · cases v with
      | int i => exact absurd rfl no
      | bl b => exact absurd rfl no
      | _ => exact k
end
end FT


namespace FT
open PySem L2 TL ClX
section
variable {P : Program} {w : World} {K : PySem.W.Frag} {mg : Str → Option Value} {base : Heap}
abbrev NRes : List Str := ["forest", "users", "sizes", "found", "parents", "name", "place"]
theorem scRes : FnScope NRes ["forest", "users", "sizes"] (defScope s_residents_of) := ⟨rfl, rfl, rfl, by decide +kernel, rfl, by decide +kernel, by decide +kernel⟩
theorem ok_resid {f fP CF p1 g1 p2 g2 : Addr} {mc : Value} {fd fdP fd1 fd2 : FuncData} (F : Fun K "residents_of" "residents_of" s_residents_of f fd) (T : Nm mg) (O : FoC K CF) (Z : Fc K mg CF mc)
    (G : Dn P w K mg base CX0 3 "places_of" ["forest"] (spPlacesOf CF) fP fdP) (L1 : Pr1 P w K mg base CF "flags" (spFFlags CF) p1 g1 fd1) (L2 : Pr1 P w K mg base CF "parents" (spFParents CF) p2 g2 fd2) :
    FnOk P w K mg base CX0 4 f fd ["forest", "users", "sizes"] (spResid CF) := by
  obtain ⟨ur, cr⟩ := Z.root
  refine F.ok scRes (fun vs H Q E h => ?_) (fun cdv A outer s H vs Q E hr h => ?_)
  · obtain ⟨x, q, n, ts, kvs, rfl, _⟩ := h
    rfl
  · obtain ⟨x, q, n, ts, kvs, rfl, fa, o, hq, hv, k⟩ := h
    have hu := hu_of hr
    have hr2 : Room 2 _ := hr.mono (by decide)
    have big : 1000 ≤ sizeLine := by decide
    have few := o.few
    refine ⟨_, pss_cons (ps_setDc (i := 3) (own := [("place", 6)]) (g := gName 6) (tt := tYes) (tv := tIf (tTest (tOp rEq (tVar 6) (tCVal K (tC (.ref CF)) "ROOT"))) (tVar 1) (tDGet (tVar 2) (tVar 6))) rfl scRes.nd rfl rfl (swd_true rfl rfl rfl (by decide +kernel)) (pi_list (pe_call G.ok (hr.mono (by decide)) rfl G.mgn G.kp G.bn .nil pass0 (pa_cons (pv 0) pa_nil)))
        (blkOk_by (N := NRes) (sc := defScope s_residents_of) (by decide +kernel))
        (fun _ _ _ _ _ => pg_name (i := 6) scRes.nd rfl (Or.inl rfl)) (fun _ _ _ _ _ => pts_nil) (fun _ _ _ _ _ => pv 6)
        (fun _ _ _ _ _ => pe_ifExp (pt_cmpR op_eq (pv 6) (pe_cval (pe_glob (v := .ref CF) (by rfl) Z.gF rfl)) (nomark _)) (pv 1) (pe_dget hu (pv 2) (pv 6) (fun _ _ => rfl))))
      (pss_cons (ps_set (i := 4) scRes.nd rfl (.inl rfl) (pe_prop (pv 0) O.cl L2.pr L2.fn hr2 L2.bn .nil pass0 (by rfl)))
      (pss_cons (ps_for PassesOwn.never rfl (pi_list (pe_prop (pv 0) O.cl L1.pr L1.fn hr2 L1.bn .nil pass0 (by rfl))) (pg_name (i := 5) scRes.nd rfl (.inl rfl))
        (pss_one (ps_dput hu (pv 3) (pe_dget hu (pv 4) (pv 5) (fun _ _ => rfl)) (pe_op op_sub (pe_dget hu (pv 3) (pe_dget hu (pv 4) (pv 5) (fun _ _ => rfl)) (fun _ _ => rfl)) (pe_dget hu (pv 2) (pv 5) (fun _ _ => rfl))) rfl)))
      (pss_one (ps_ret (pv 3))))), ?_⟩
    obtain ⟨pls, epl⟩ : ∃ l, l = (("" : Str) :: ts.map Prod.fst) := ⟨_, rfl⟩
    have ndp : pls.Nodup := by rw [epl]; exact List.nodup_cons.mpr ⟨o.root, o.nd⟩
    have lpl : pls.length = ts.length + 1 := by rw [epl, List.length_cons, List.length_map]
    rw [← epl] at k
    refine ⟨_, rfl, x, ts, rfl, fa, few, fun p0 H0 s0 n0 a0 => ⟨p0, rfl, ⟨_, SqL.of a0⟩, fun D nD => ?_⟩⟩
    rw [← epl] at a0
    refine dc_it walk_list (fun i H' => Same H0 H' ∧ H' D = some (.dK (tblI (pls.take i) (resid [] n (szOf kvs))))) ⟨same_new nD, upd_same⟩ (fun i H' _ z => SqL.of (z.1 _ _ a0)) ?_ ?_
    · intro i y Ha Hb hi ⟨q1, q2⟩ ⟨eb, ex⟩
      subst eb
      obtain ⟨a, ha, rfl⟩ := map_of ex
      have ma : a ∈ pls := List.mem_of_getElem? ha
      have fresh : a ∉ pls.take i := fun hm => by
        obtain ⟨j, hj⟩ := List.mem_iff_getElem?.mp hm
        have jl := (List.getElem?_eq_some_iff.mp hj).1
        rw [List.length_take] at jl
        rw [List.getElem?_take, if_pos (by omega)] at hj
        have := (List.getElem?_inj (by omega) ndp).mp (hj.trans ha.symm)
        omega
      have fin : ∀ z, z = resid [] n (szOf kvs) a → ∃ kvs1 k1, V.str a = kV k1 ∧ Hb D = some (.dK kvs1) ∧ kvs1.length < sizeLine ∧ (Same H0 (upd Hb D (.dK (putK kvs1 k1 (.int z)))) ∧ (upd Hb D (.dK (putK kvs1 k1 (.int z)))) D = some (.dK (tblI (pls.take (i + 1)) (resid [] n (szOf kvs))))) := fun z ez =>
        ⟨_, Sum.inr a, rfl, q2, by rw [tblI_len, List.length_take]; omega, Same.put q1 nD, by rw [upd_same, tblI_snoc fresh ez, take_more ha]⟩
      refine ⟨rfl, ?_⟩
      refine ⟨_, rfl, ?_⟩
      refine ⟨_, rfl, CF, mc, _, ur, rfl, Z.rd, cr, rfl, _, rfl, ?_⟩
      by_cases e : a = ""
      · rw [decide_eq_true (show V.str a = V.str "" by rw [e])]
        refine iteT ⟨_, rfl, fin n ?_⟩
        rw [e]
        show n = n - 0
        omega
      · rw [decide_eq_false (show ¬ V.str a = V.str "" from fun z => e (V.str.inj z))]
        have mk : a ∈ ts.map Prod.fst := by
          rw [epl] at ma
          exact (List.mem_cons.mp ma).resolve_left e
        refine iteF ⟨_, rfl, _, rfl, q, .int (szOf kvs a), rfl, ?_, fin _ ?_⟩
        · have z := DGet.k (k := Sum.inr a) (q1 _ _ (s0 _ _ hq))
          rw [hv a mk] at z
          exact z
        · show szOf kvs a = (if a = "" then n else szOf kvs a) - 0
          rw [if_neg e]
          omega
    · intro H1 ⟨q1, q2⟩
      have lp2 : (pls.map V.str).length = pls.length := List.length_map _
      rw [lp2, List.take_length] at q2
      have s1 : Same H H1 := s0.trans q1
      have nD0 : H D = none := s0.free nD
      obtain ⟨dx, dq, hx, hd⟩ := id fa
      refine ⟨_, rfl, x, dx, _, rfl, s1 _ _ hx, x, ts, rfl, fa.mono s1, fun pp npp => ?_⟩
      have pD : D ≠ pp := ne_of_none q2 npp
      obtain ⟨H2, e2⟩ : ∃ X, X = upd H1 pp (.dK (prs ts)) := ⟨_, rfl⟩
      have s12 : Same H1 H2 := e2 ▸ same_new npp
      have a2 : H2 pp = some (.dK (prs ts)) := by rw [e2]; exact upd_same
      rw [← e2]
      have s2 := s1.trans s12
      refine ⟨_, rfl, x, dx, _, rfl, s2 _ _ hx, x, ts, rfl, fa.mono s2, fun pf npf => ⟨pf, rfl, ⟨_, SqL.of upd_same⟩, ?_⟩⟩
      obtain ⟨H3, e3⟩ : ∃ X, X = upd H2 pf (.lst ((ts.map Prod.fst).map V.str)) := ⟨_, rfl⟩
      have s23 : Same H2 H3 := e3 ▸ same_new npf
      have a3 : H3 pf = some (.lst ((ts.map Prod.fst).map V.str)) := by rw [e3]; exact upd_same
      rw [← e3]
      have s3 := s2.trans s23
      have pfD : pf ≠ D := fun z => by rw [z, s23 _ _ (s12 _ _ q2)] at a3; cases a3
      refine for_it walk_list (fun j σ' H' => (∃ u5, σ' = [some (.ref x), some (.int n), some (.ref q), some (.ref D), some (.ref pp), u5, none]) ∧ Same H H' ∧ H' pp = some (.dK (prs ts)) ∧ H' pf = some (.lst ((ts.map Prod.fst).map V.str)) ∧ H' D = some (.dK (tblI pls (resid (ts.take j) n (szOf kvs)))))
        ⟨⟨none, rfl⟩, s3, s23 _ _ a2, a3, s23 _ _ (s12 _ _ q2)⟩ (fun j σ' H' _ z => SqL.of z.2.2.2.1) ?_ ?_
      · intro j y σ' Ha Hb hj ⟨⟨u5, e⟩, sa, app, apf, aD⟩ ⟨eb, ex⟩
        subst e
        subst eb
        obtain ⟨a, ha, rfl⟩ := map_of ex
        obtain ⟨⟨a', pa⟩, hp, rfl⟩ := Option.map_eq_some_iff.mp (show (ts[j]?).map Prod.fst = some a by rw [← List.getElem?_map]; exact ha)
        have mp := List.mem_of_getElem? hp
        have mk : a' ∈ ts.map Prod.fst := List.mem_map.mpr ⟨_, mp, rfl⟩
        have ep := par_of o.nd mp
        obtain ⟨rk, r⟩ := o.up
        have mpa : pa ∈ pls := by
          rw [epl]
          exact List.mem_cons.mpr ((r _ mp).2.imp id And.left)
        have dg : DGet Hb pp (.str a') (some (.str pa)) := by
          have z := DGet.k (k := Sum.inr a') app
          rw [val_prs, ep] at z
          exact z
        refine ⟨_, rfl, _, rfl, _, rfl, pp, _, rfl, dg, D, .int (resid (ts.take j) n (szOf kvs) pa), rfl, ?_, ?_⟩
        · have z := DGet.k (k := Sum.inr pa) aD
          rw [tblI_val mpa] at z
          exact z
        · refine ⟨_, rfl, _, rfl, q, .int (szOf kvs a'), rfl, ?_, _, _, rfl, rfl, ?_⟩
          · have z := DGet.k (k := Sum.inr a') (sa _ _ hq)
            rw [hv a' mk] at z
            exact z
          · refine ⟨_, rfl, _, rfl, _, rfl, pp, _, rfl, dg, D, _, rfl, DPut.k (k := Sum.inr pa) aD (by rw [tblI_len]; omega), ?_⟩
            refine ⟨⟨_, rfl⟩, fun b u e => ?_, ?_, ?_, ?_⟩
            · rw [upd_ne (ne_of_none e nD0)]
              exact sa b u e
            · rw [upd_ne pD.symm]
              exact app
            · rw [upd_ne pfD]
              exact apf
            · rw [upd_same, tblI_put mpa]
              congr 2
              refine tblI_congr fun b _ => ?_
              rw [take_more hp, resid_snoc]
              by_cases e : b = pa
              · rw [if_pos e, if_pos e.symm, e]
              · rw [if_neg e, if_neg fun z => e z.symm]
      · intro σ' H4 ⟨⟨u5, e⟩, sa, app, apf, aD⟩
        subst e
        rw [List.length_map, List.length_map, List.take_length] at aD
        exact ⟨_, rfl, k D H4 sa nD0 aD⟩
end
end FT


namespace FT
open PySem L2 TL ClX
section
variable {P : Program} {w : World} {K : PySem.W.Frag} {mg : Str → Option Value} {base : Heap}
abbrev NFe : List Str := ["forest", "users", "sizes", "name", "left", "place"]
theorem scFe : FnScope NFe ["forest", "users", "sizes"] (defScope s_need_feasible) := ⟨rfl, rfl, rfl, by decide +kernel, rfl, by decide +kernel, by decide +kernel⟩
theorem ok_feas {f fR fI CF CS IS p1 g1 : Addr} {fd fdR fdI dS fd1 : FuncData} (F : Fun K "need_feasible" "need_feasible" s_need_feasible f fd) (T : Nm mg) (O : FoC K CF) (S : Er1 P w K mg base "InvalidSizes" "place" CS IS dS)
    (R : Dn P w K mg base CX0 4 "residents_of" ["forest", "users", "sizes"] (spResid CF) fR fdR) (I : Dn P w K mg base CX0 1 "is_integer" ["value", "least"] (spIsInt K) fI fdI) (L1 : Pr1 P w K mg base CF "flags" (spFFlags CF) p1 g1 fd1) :
    FnOk P w K mg base (L2.CX P w) 5 f fd ["forest", "users", "sizes"] (spFeas K CF CS) := by
  refine F.okX scFe (fun vs H Q E h => ?_) (fun cdv A outer s H vs Q E hr h => ?_)
  · obtain ⟨x, n, sv, ts, o, rfl, _⟩ := h
    rfl
  · obtain ⟨x, n, sv, ts, so, rfl, fa, o, hz, k⟩ := h
    have hu := hu_of hr
    have hr2 : Room 2 _ := hr.mono (by decide)
    have big : 1000 ≤ sizeLine := by decide
    have few := o.few
    have flags : PE (cxOf (L2.CX P w) P w K mg base NFe "need_feasible" (defScope s_need_feasible) f cdv A outer s H E) (.Name "forest" ⟨0, 0, 0, 0⟩) (tVar 0) := pv 0
    refine ⟨_, pss_cons (ps_if (PW.pt (pw_or (pt_not (pt_val (pe_callB call_isi (by rfl) T.isi (by decide +kernel) (pa_cons (pv 2) (pa_cons (pe_bltn (v := .ty "dict") (u := .type "dict") (by rfl) T.dct (by decide +kernel) rfl) pa_nil)))))
        (pw_or1 (pt_cmpR op_ne (pe_callB call_lenD (by rfl) T.len PySem.boot_len (pa_cons (pv 2) pa_nil)) (pe_callB call_len_seq (by rfl) T.len PySem.boot_len (pa_cons (pe_prop (pv 0) O.cl L1.pr L1.fn hr2 L1.bn .nil pass0 (by rfl)) pa_nil)) (nomark _)))))
        (pss_one (ps_err1 S rfl (takes_of rfl rfl rfl rfl) hr2 rfl pe_non)) pss_nil)
      (pss_cons (ps_if (pt_not (pt_val (pe_callB (cr_all rfl) (by rfl) T.all (by decide +kernel) (pa_cons (pe_lc (own := [("name", 3)]) (g := gName 3) (tt := tYes) rfl scFe.nd (pi_list (pe_prop (pv 0) O.cl L1.pr L1.fn hr2 L1.bn .nil pass0 (by rfl)))
          (blkOk_by (N := NFe) (sc := defScope s_need_feasible) (by decide +kernel))
          (fun _ _ _ _ _ => pg_name (i := 3) scFe.nd rfl (Or.inl rfl)) (fun _ _ _ _ _ => pts_nil) (fun _ _ _ _ _ => pe_cmp (pc_din hu (pv 3) (pv 2)) rfl)) pa_nil))))
        (pss_one (ps_err1 S rfl (takes_of rfl rfl rfl rfl) hr2 rfl pe_non)) pss_nil)
      (pss_cons (ps_for (passes_of rfl) rfl (pi_list (pe_prop (pv 0) O.cl L1.pr L1.fn hr2 L1.bn .nil pass0 (by rfl))) (pg_name (i := 3) scFe.nd rfl (.inl rfl))
        (pss_one (ps_if (pt_not (pt_val (pe_call I.ok (hr.mono (by decide)) rfl I.mgn I.kp I.bn .nil pass0 (pa_cons (pe_dget hu (pv 2) (pv 3) (fun _ _ => rfl)) (pa_cons pe_int pa_nil))))) (pss_one (ps_err1 S rfl (takes_of rfl rfl rfl rfl) hr2 rfl (pv 3))) pss_nil)))
      (pss_cons (ps_set (i := 4) scFe.nd rfl (.inl rfl) (pe_call R.ok hr rfl R.mgn R.kp R.bn .nil pass0 (pa_cons (pv 0) (pa_cons (pv 1) (pa_cons (pv 2) pa_nil)))))
      (pss_one (ps_lock (ps_for (passes_of rfl) rfl (pi_keys (pv 4)) (pg_name (i := 5) scFe.nd rfl (.inl rfl))
        (pss_one (ps_if (pt_cmpR op_lt (pe_dget hu (pv 4) (pv 5) (fun _ _ => rfl)) pe_int (nomark _)) (pss_one (ps_err1 S rfl (takes_of rfl rfl rfl rfl) hr2 rfl (pv 5))) pss_nil)))))))), ?_⟩
    obtain ⟨dx, dq, hx, hd⟩ := id fa
    cases so with
    | none =>
      obtain ⟨t, d, nd⟩ := hz
      refine ⟨_, rfl, sv, _, _, _, _, rfl, .ty _, d.ty, d.dict_, _, rfl, ?_⟩
      rw [decide_eq_false nd]
      show if true = true then _ else _
      rw [if_pos rfl]
      exact iteT (out1 k Same.refl)
    | some kvs =>
      obtain ⟨q, rfl, hq, dat⟩ := hz
      refine ⟨_, rfl, .ref q, _, _, _, _, rfl, .ty _, (Dat.dct (K := K) hq).ty, (Dat.dct (K := K) hq).dict_, _, rfl, ?_⟩
      rw [decide_eq_true rfl]
      refine iteF ?_
      refine ⟨_, rfl, q, kvs, rfl, hq, ?_⟩
      refine ⟨_, rfl, x, dx, _, rfl, hx, x, ts, rfl, fa, fun pf nf => ⟨pf, _, rfl, .inl (SqL.of upd_same), rfl, _, rfl, ?_⟩⟩
      rw [List.length_map, List.length_map, len_int]
      have s1 := same_new (o := .lst ((ts.map Prod.fst).map V.str)) nf
      obtain ⟨H1, e1⟩ : ∃ X, X = upd H pf (.lst ((ts.map Prod.fst).map V.str)) := ⟨_, rfl⟩
      rw [← e1] at s1 ⊢
      by_cases el : kvs.length = ts.length
      · rw [decide_eq_true el]
        refine iteF ?_
        -- all there?
        refine ⟨_, rfl, x, dx, _, rfl, s1 _ _ hx, x, ts, rfl, fa.mono s1, fun pg ng => ⟨pg, rfl, ⟨_, SqL.of upd_same⟩, fun D nD => ?_⟩⟩
        obtain ⟨H2, e2⟩ : ∃ X, X = upd H1 pg (.lst ((ts.map Prod.fst).map V.str)) := ⟨_, rfl⟩
        have s12 : Same H1 H2 := e2 ▸ same_new ng
        have a2 : H2 pg = some (.lst ((ts.map Prod.fst).map V.str)) := by rw [e2]; exact upd_same
        have s2 := s1.trans s12
        rw [← e2] at nD ⊢
        refine lc_it walk_list (fun i H' => Same H2 H' ∧ H' D = some (.lst ((((ts.map Prod.fst).take i).map fun a => (valV kvs (Sum.inr a)).isSome).map V.bl))) ⟨same_new nD, upd_same⟩ (fun i H' _ z => SqL.of (z.1 _ _ a2)) ?_ ?_
        · intro i y Ha Hb hi ⟨q1, q2⟩ ⟨eb, ex⟩
          subst eb
          obtain ⟨a, ha, rfl⟩ := map_of ex
          refine ⟨rfl, ?_⟩
          refine ⟨_, rfl, _, rfl, q, _, rfl, DGet.k (k := Sum.inr a) (q1 _ _ (s2 _ _ hq)), _, q2, ?_, Same.put q1 nD, ?_⟩
          · rw [List.length_map, List.length_map, List.length_take, List.length_map]
            omega
          · rw [upd_same, take_more ha, List.map_append, List.map_append] <;> rfl
        · intro H3 ⟨q1, q2⟩
          have s3 := s2.trans q1
          rw [List.length_map, List.take_length] at q2
          refine ⟨D, _, rfl, SqL.of q2, _, rfl, ?_⟩
          have eall : (((ts.map Prod.fst).map fun a => (valV kvs (Sum.inr a)).isSome)).all id = (ts.map Prod.fst).all fun a => (valV kvs (Sum.inr a)).isSome := by rw [List.all_map] <;> rfl
          rw [eall]
          cases ea : (ts.map Prod.fst).all fun a => (valV kvs (Sum.inr a)).isSome with
          | false =>
            refine iteT (out1 (H := H) ?_ s3)
            have e : feE CS ts n (some kvs) = some (.e1 CS "place" .non) := by
              unfold feE
              rw [feas_some, if_neg (fun z => z el), if_pos ea] <;> rfl
            rw [e] at k
            exact k
          | true =>
            refine iteF ?_
            have there : ∀ a ∈ ts.map Prod.fst, ∃ v, valV kvs (Sum.inr a) = some v := fun a ha => Option.isSome_iff_exists.mp (List.all_eq_true.mp ea a ha)
            -- one by one
            refine ⟨_, rfl, x, dx, _, rfl, s3 _ _ hx, x, ts, rfl, fa.mono s3, fun ph nh => ⟨ph, rfl, ⟨_, SqL.of upd_same⟩, ?_⟩⟩
            obtain ⟨H4, e4⟩ : ∃ X, X = upd H3 ph (.lst ((ts.map Prod.fst).map V.str)) := ⟨_, rfl⟩
            have s4 : Same H H4 := s3.trans (e4 ▸ same_new nh)
            have a4 : H4 ph = some (.lst ((ts.map Prod.fst).map V.str)) := by rw [e4]; exact upd_same
            rw [← e4]
            refine for_it walk_list (fun j σ' H' => (∃ u3, σ' = [some (.ref x), some (.int n), some (.ref q), u3, none, none]) ∧ Same H4 H' ∧ ((ts.map Prod.fst).take j).find? (badKey kvs) = none)
              ⟨⟨none, rfl⟩, Same.refl, rfl⟩ (fun j σ' H' _ z => SqL.of (z.2.1 _ _ a4)) ?_ ?_
            · intro j y σ' Ha Hb hj ⟨⟨u3, e⟩, sa, good⟩ ⟨eb, ex⟩
              subst e
              subst eb
              obtain ⟨a, ha, rfl⟩ := map_of ex
              obtain ⟨v, hv⟩ := there a (List.mem_of_getElem? ha)
              have s0 := s4.trans sa
              refine ⟨_, rfl, _, rfl, q, v, rfl, by have z := DGet.k (k := Sum.inr a) (s0 _ _ hq); rw [hv] at z; exact z, v, 0, rfl, (dat _ (valV_mem hv)).mono s0, _, rfl, ?_⟩
              cases eg : isGe v 0 with
              | true => exact iteF ⟨⟨_, rfl⟩, sa, find_more ha good (by unfold badKey; rw [hv]; show (!isGe v 0) = false; rw [eg] <;> rfl)⟩
              | false =>
                refine iteT ⟨_, rfl, out1 (H := H) ?_ s0⟩
                have e : feE CS ts n (some kvs) = some (.e1 CS "place" (.str a)) := by
                  unfold feE
                  rw [feas_some, if_neg (fun z => z el), if_neg (by rw [ea]; decide), find_at ha good (by unfold badKey; rw [hv]; show (!isGe v 0) = true; rw [eg] <;> rfl)] <;> rfl
                rw [e] at k
                exact k
            · intro σ' H5 ⟨⟨u3, e⟩, sa, good⟩
              subst e
              rw [List.length_map, List.take_length] at good
              have s5 := s4.trans sa
              have nums : ∀ a ∈ ts.map Prod.fst, valV kvs (Sum.inr a) = some (.int (szOf kvs a)) := fun a ha => by
                obtain ⟨v, hv⟩ := there a ha
                have g := List.find?_eq_none.mp good a ha
                unfold badKey at g
                rw [hv] at g
                unfold szOf
                rw [hv]
                cases v with
                | int i => rfl
                | _ => exact absurd rfl g
              refine ⟨_, rfl, _, rfl, _, rfl, x, q, n, ts, kvs, rfl, fa.mono s5, o, s5 _ _ hq, nums, fun F H6 s56 nF aF => ?_⟩
              have s6 := s5.trans s56
              have nF0 := s5.free nF
              refine ⟨F, _, aF, trivial, fun od => ⟨_, rfl, F, od, rfl, .inl ⟨_, upd_same, ?_⟩⟩⟩
              obtain ⟨pls, epl⟩ : ∃ l, l = (("" : Str) :: ts.map Prod.fst) := ⟨_, rfl⟩
              rw [← epl] at aF ⊢
              have ek : feE CS ts n (some kvs) = ((pls.find? fun p => decide (resid ts n (szOf kvs) p < 0)).map V.str).map fun v => .e1 CS "place" v := by
                unfold feE
                rw [feas_some, if_neg (fun z => z el), if_neg (by rw [ea]; decide), good, epl]
              rw [ek] at k
              refine for_it walk_keys (fun j σ' H' => (∃ u5, σ' = [some (.ref x), some (.int n), some (.ref q), u3, some (.ref F), u5]) ∧ Same H H' ∧ H' F = some (.frz od (.dK (tblI pls (resid ts n (szOf kvs))))) ∧ (pls.take j).find? (fun p => decide (resid ts n (szOf kvs) p < 0)) = none)
                ⟨⟨none, rfl⟩, Same.put s6 nF0, upd_same, rfl⟩ (fun j σ' H' _ z => z.2.2.1) ?_ ?_
              · intro j y σ' Ha Hb hj ⟨⟨u5, e⟩, sa, aF', good'⟩ ⟨eb, kk, vv, hk, ey⟩
                subst e
                subst eb
                subst ey
                obtain ⟨a, ha, rfl, rfl⟩ := tblI_at hk
                refine ⟨_, rfl, _, rfl, F, .int (resid ts n (szOf kvs) a), rfl, .inl ⟨_, Sum.inr a, .inr ⟨od, aF'⟩, rfl, (tblI_val (List.mem_of_getElem? ha)).symm⟩, _, _, rfl, rfl, _, rfl, ?_⟩
                by_cases neg : resid ts n (szOf kvs) a < 0
                · rw [decide_eq_true neg]
                  refine iteT ⟨_, rfl, out1 (H := H) ?_ sa⟩
                  rw [find_at ha good' (decide_eq_true neg)] at k
                  exact k
                · rw [decide_eq_false neg]
                  exact iteF ⟨⟨_, rfl⟩, sa, aF', find_more ha good' (decide_eq_false neg)⟩
              · intro σ' H7 ⟨⟨u5, e⟩, sa, aF', good'⟩
                rw [tblI_len, List.take_length] at good'
                rw [good'] at k
                exact ⟨aF', k _ (Same.put sa nF0)⟩
      · rw [decide_eq_false el]
        show if true = true then _ else _
        rw [if_pos rfl]
        refine out1 (H := H) ?_ s1
        have e : feE CS ts n (some kvs) = some (.e1 CS "place" .non) := by
          unfold feE
          rw [feas_some, if_pos el] <;> rfl
        rw [e] at k
        exact k
end
end FT


/-! Own: repr over the layer. repr asks what calls of repr are under way (A.guards), and the layer's contracts do not tell it: a contract FnG that tells it too, its rule for a def's body, its call, the end. -/
namespace L2
open PySem PySem.Spec PyProof.Rows
/-- no repr is under way -/
abbrev Clr (A : Around) : Prop := A.guards = some []
theorem Clr.deeper {A : Around} {env : Env} (h : Clr A) : Clr (A.deeper env) := by
  have h' : A.guards = some [] := h
  show (A.deeper env).guards = some []
  first
    | exact h'
    | (simp [Around.deeper, h', pushGuards, Code.guards, Code.isGuard])
structure FnG (P : Program) (w : World) (K : PySem.W.Frag) (mg : Str → Option Value) (base : Heap) (CX : CXT) (k : Nat) (f : Addr) (fd : FuncData) (ps : List Str) (sp : Sp) : Prop where
  len : ∀ vs H Q E, sp vs H Q E → vs.length = ps.length
  run : ∀ (A : Around) (outer : List Env) (s : Shared) (H : Hp) (args : Args) (us : List Value) (vs : List V) (Q : VK) (E : XK), Clr A → Room k A → Env0 P w K mg base A outer s H → BindsTo s fd args (ps.zip us) → Vals vs us → sp vs H Q E →
    codeAny (model P w) A (.call (.ref f) args) (CR CX outer P w H s Q E) s
theorem FnOk.g {P : Program} {w : World} {K : PySem.W.Frag} {mg : Str → Option Value} {base : Heap} {CX : CXT} {k : Nat} {f : Addr} {fd : FuncData} {ps : List Str} {sp : Sp} (F : FnOk P w K mg base CX k f fd ps sp) : FnG P w K mg base CX k f fd ps sp :=
  ⟨F.len, fun A outer s H args us vs Q E _ => F.run A outer s H args us vs Q E⟩
section
variable {P : Program} {w : World} {K : PySem.W.Frag} {mg : Str → Option Value} {base : Heap}
/-- a def by its body, where nothing is raised out of it -/
theorem Fun.okG {x qual : Str} {st : Stmt} {f : Addr} {fd : FuncData} {N ps : List Str} {k : Nat} {sp : Sp} (F : Fun K x qual st f fd) (S : FnScope N ps (defScope st)) (len : ∀ vs H Q E, sp vs H Q E → vs.length = ps.length)
    (body : ∀ (cdv : Value) (A : Around) (outer : List Env) (s : Shared) (H : Hp) (vs : List V) (Q : VK) (E : XK), Clr A → Room k (A.deeper (envOfC qual (defScope st) s.heap.objs.size f cdv)) → sp vs H Q E →
      ∃ t, PSs (cxOf CX0 P w K mg base N qual (defScope st) f cdv A outer s H E).nox (defBody st) t ∧ t { nx := fun _ H' => Q .non H', rt := Q } (start N vs) H) : FnG P w K mg base CX0 (k + 1) f fd ps sp := by
  obtain ⟨oc, od, kV, doc, pm, an, cdv, ct, osl, rfl, lk, code⟩ := F.ex
  refine ⟨len, fun A outer s H args us vs Q E clr room e0 binds rel want => ?_⟩
  have nps := len _ _ _ _ want
  have KX : K.In s.heap := e0.mod.kin.keeps fun b o e => (e0.bs b o e).1
  have lim : s.heap.NoLimit := e0.mod.nolimit.keeps fun b o e => (e0.bs b o e).1
  refine codeAny_call_function room.depth (KX _ _ lk) rfl S.co S.gen rfl (PySem.W.codeRec_of KX code) (binds _ _ _ _ (wpAny_newFunctionEnv_cells S.kind (fun y hy => ?_) fun env he s1 x => ?_))
  · obtain ⟨n, v⟩ := y
    exact (S.par n (List.of_mem_zip hy).1).elim .inl fun q => .inr ⟨q, PySem.W.cellsFrom_some _ _ _ (.inl q)⟩
  · subst he
    obtain ⟨t, term, q⟩ := body cdv A outer s H vs Q E clr (room.deeper _) want
    have I : Inv (cxOf CX0 P w K mg base N qual (defScope st) f cdv A outer s H E) [] (start N vs) H s1 := inv_start S room.hd e0 nps rel x
    refine ⟨lim.keeps x.toInCall.keep, codeAny_func (wpAny_mono (term.nox.run [] s1 (start N vs) H _ I q) (fun fl s' z => ?_) fun _ _ z => z)⟩
    match fl, z with
    | .ret u, ⟨v, _, H', J, rv, q⟩ => exact ⟨v, H', J.os, J.bare, J.base, J.hok, rv, q⟩
    | .next, ⟨_, H', J, q⟩ => exact ⟨.non, H', J.os, J.bare, J.base, J.hok, rfl, q⟩
    | .brk, ⟨_, _, _, q⟩ => exact q.elim
    | .cont, ⟨_, _, _, q⟩ => exact q.elim
end
section
variable {X : Cx} {CX : CXT} {k : Nat} {f : Addr} {fd : FuncData} {ps : List Str} {sp : Sp} {dvs : List V} {ds : List Value} {E : XK} {x : Str} {p pos : Pos} {e : Expr} {es : List Expr} {t : TA}
/-- f(e, ..), f of such a contract -/
theorem pe_callG (F : FnG X.prog X.w X.K X.mg X.base CX k f fd ps sp) (clr : Clr X.A) (hr : Room k X.A) (hg : Gl X x) (hm : X.mg x = some (.ref f)) (hk : PySem.W.keepIn X.K (.ref f) = true) (hb : Binds X.K fd ps ds) (hd : Vals dvs ds) (hx : Passes CX X E)
    (ha : PA X (e :: es) t) (dbg : (x == ("__debug__" : Str)) = false := by decide) (one : starEach (e :: es) X.env = (false, eval e X.env) :: starEach es X.env := by rfl) (plain : (backTo pos (starEach es X.env)).any (·.1) = false := by rfl) :
    PE X (.Call (.Name x p) (e :: es) [] pos) (tCall sp dvs E t) := by
  refine ⟨fun pins s σ H Q I h => wpAny_Call_Name_kw (ld_glob I hg hm ?_ dbg)⟩
  refine PySem.W.callWith_K (h₀ := X.base) I.ok.mod.kin hk (thn (ha.run pos pins s σ H _ I h) fun us s1 ⟨vs, H1, J, rel, want⟩ => ⟨J.kIn, ?_⟩) one plain
  have r2 : Vals (vs ++ dvs) (us ++ ds) := rel.append hd
  have len : (us ++ ds).length = ps.length := r2.length.symm.trans (F.len _ _ _ _ want)
  refine wpAny_call (codeAny_mono (F.run X.A X.stack s1 H1 ⟨us, []⟩ (us ++ ds) (vs ++ dvs) Q E clr hr J.env0 (hb s1 us J.kIn len) r2 want) fun r s' z => ?_)
  match r, z with
  | .error er, z => exact hx pins σ H1 s1 er s' J z
  | .ok (.ret u), z => exact J.after z
  | .ok .next, z => exact z.elim
  | .ok .brk, z => exact z.elim
  | .ok .cont, z => exact z.elim
/-! ### repr -/
/-- what is shown: data without dicts, or the empty dict -/
def Shw (K : PySem.W.Frag) (H : Hp) (x : V) (d : PyData) : Prop := (Dp K H x d ∧ d.hasDict = false) ∨ ∃ a, x = .ref a ∧ H a = some (.dK []) ∧ d = .dict []
def rRepr (K : PySem.W.Frag) : List V → Hp → VK → Prop := fun xs H Q => ∃ (x : V) (d : PyData), xs = [x] ∧ Shw K H x d ∧ d.showable = true ∧ d.depth ≤ 60 ∧ d.shown.length ≤ sizeLine ∧ Q (.str d.shown) H
theorem Shw.reads {pins : List (Addr × Obj)} {σ : St} {H : Hp} {s : Shared} {x : V} {u : Value} {d : PyData} (h : Shw X.K H x d) (I : Inv X pins σ H s) (r : RelV x u) : ∃ as, Reads s.heap u d as ∧ (d.hasDict = true → sysModules ∉ as) := by
  rcases h with ⟨h, nd⟩ | ⟨a, rfl, e, rfl⟩
  · obtain ⟨as, q⟩ := Dp.reads I d x u h r
    exact ⟨as, q, PyData.noDict_hsm nd⟩
  · obtain rfl : u = Value.ref a := r
    obtain ⟨_, ns, vs, kv, o, es, ep, h1, h2, h3, h4⟩ := (show ObjOk X.prog X.w H s.heap a (.dK []) from I.hok a _ e)
    cases kv
    have hes : es.toList = [] := by
      obtain ⟨_, h5, _⟩ := h4
      revert h5
      generalize es.toList = l
      intro h5
      cases h5
      rfl
    refine ⟨a :: [] ++ [], .dict h1 h2.1 h3 (by rw [hes]; exact .nil) (by rw [hes]; exact .nil), fun _ hm => ?_⟩
    have hm' : sysModules = a := by simpa using hm
    rw [hm'] at ns
    simp at ns
theorem call_repr (clr : Clr X.A) (hu : X.A.units + 64 < cLine) : CallR X (.builtin "repr") (rRepr X.K) := by
  intro pins s σ H xs us Q I r h
  obtain ⟨x, d, rfl, sh, ok, dep, few, q⟩ := h
  obtain ⟨u, rfl, ru⟩ := vals1 r
  obtain ⟨as, rd, sm⟩ := sh.reads I ru
  have fin : ∀ h' (t : Tok) tk, (∀ b o, s.heap.get? b = some o → h'.get? b = some o) → EP X pins σ Q (.str d.shown t) { s with heap := h', toks := tk } := fun h' t tk kp => ⟨.str d.shown, H, I.kept kp, ⟨t, rfl⟩, q⟩
  cases u with
  | ref a => exact repr_of_reads' rd ok sm clr (by omega) (fun _ _ z => z) fin few
  | none => cases rd; exact PySem.P.repr_of_none (fin _ _ _ fun _ _ z => z)
  | bool b => cases rd; exact PySem.P.repr_of_bool (fin _ _ _ fun _ _ z => z)
  | int i t => cases rd; exact PySem.P.repr_of_int (by simpa [PyData.showable] using ok) (fin _ _ _ fun _ _ z => z)
  | str y t => cases rd; exact PySem.P.repr_of_str (fin _ _ _ fun _ _ z => z) few
  | _ => cases rd
end
end L2


/-! a dict with one key that is None or a tuple beside ints and texts: it is stored, counted, walked by keys, its class is asked -/
namespace PySem
open Sem (wp)
section
variable {prog : Program} {w : World} {A : Around} {E : Value → Shared → Prop} {s : Shared}
/-- no stored key is this one: what is stored is carried by value -/
structure Missed (s : Shared) (k : NestedKey) (es : Array DictEntry) : Prop where
  all : ∀ e ∈ es, carriedByValue e.key = true ∧ ∃ k', NestedIs s.heap k' e.key ∧ k'.depth = 0 ∧ NestedKey.beq k' k = false
theorem walk_missed {d : Addr} {o : Obj} {es : Array DictEntry} {ep : Nat} {key : Value} {k : NestedKey} {h : Int} (ho : s.heap.get? d = some o) (hd : o.data = .dict es ep) (hk : NestedIs s.heap k key) (m : Missed s k es) (hu : A.units < cLine)
    (places : List Nat) {Q : Option Nat → Shared → Prop} (q : Q none s) : wpAny (model prog w) A (dictWalkPlain d key h es places) Q E s := by
  unfold dictWalkPlain
  refine wpAny_bind ?_
  refine wpAny_forIn_list _ (fun rest b s' => s' = s ∧ b = (none, ())) _ ?_ ?_ _ _ ⟨rfl, rfl⟩
  · rintro x rest b s' ⟨rfl, rfl⟩
    cases hx : es[x]? with
    | none => exact wpAny_pure ⟨rfl, rfl⟩
    | some e =>
      dsimp only
      obtain ⟨_, k', hk', hd0, hb⟩ := m.all e (Array.mem_of_getElem? hx)
      by_cases hh : (e.hash == h) = true
      · rw [if_pos hh]
        have eq := (eqAt_key k' k A s' e.key key hk' hk (by rw [hd0]; omega))
        rw [hb] at eq
        refine wpAny_bind (wpAny_dictEpoch ho hd (wpAny_bind (eq _ _ _ _ (wpAny_bind (wpAny_dictEpoch ho hd ?_)))))
        show wpAny _ _ (if (ep != ep) = true then _ else _) _ E _
        rw [if_neg (by simp)]
        exact wpAny_bind (wpAny_rule (wpAny_pure ⟨rfl, rfl⟩))
      · rw [if_neg hh]
        exact wpAny_pure ⟨rfl, rfl⟩
  · rintro b s' ⟨rfl, rfl⟩
    exact wpAny_pure q
theorem find_none_missed {d : Addr} {o : Obj} {es : Array DictEntry} {ep : Nat} {h : Int} (ho : s.heap.get? d = some o) (hd : o.data = .dict es ep) (m : Missed s .none es) (hu : A.units < cLine) {Q : Option Nat → Shared → Prop} (q : Q none s) :
    wpAny (model prog w) A (dictFind d .none h) Q E s := by
  have hall : ((Value.none :: (placesWithHash es.size (fun i => es[i]?.map (·.hash)) h).filterMap fun i => es[i]?.map (·.key)).all carriedByValue) = true := by
    rw [List.all_cons, List.all_eq_true.mpr, Bool.and_true]
    · rfl
    · intro v hv
      obtain ⟨i, _, hi⟩ := List.mem_filterMap.mp hv
      cases he : es[i]? with
      | none => rw [he] at hi; cases hi
      | some e =>
        rw [he] at hi
        obtain rfl : e.key = v := by simpa using hi
        exact (m.all e (Array.mem_of_getElem? he)).1
  unfold dictFind
  try with_reducible refine wpAny_holding ?_
  refine wpAny_bind (wpAny_dictEntries ho hd ?_)
  dsimp only
  rw [if_pos hall]
  exact walk_missed ho hd .none m hu _ q
theorem find_ref_missed {d a : Addr} {o : Obj} {es : Array DictEntry} {ep : Nat} {k : NestedKey} {h : Int} (ho : s.heap.get? d = some o) (hd : o.data = .dict es ep) (hk : NestedIs s.heap k (.ref a)) (hdp : k.depth ≤ 8) (m : Missed s k es) (hu : A.units < cLine) {Q : Option Nat → Shared → Prop} (q : Q none s) :
    wpAny (model prog w) A (dictFind d (.ref a) h) Q E s := by
  have hany : ¬ (es.any fun e => e.key == Value.ref a && e.hash != h) = true := by
    rw [← Array.any_toList, List.any_eq_true]
    rintro ⟨e, hin, hc⟩
    have c := (m.all e (Array.mem_toList_iff.mp hin)).1
    simp only [Bool.and_eq_true, beq_iff_eq] at hc
    rw [hc.1] at c
    exact absurd c Bool.false_ne_true
  have hst : ∀ v ∈ (placesWithHash es.size (fun i => es[i]?.map (·.hash)) h).filterMap (fun i => es[i]?.map (·.key)), carriedByValue v = true := by
    intro v hv
    obtain ⟨i, _, hi⟩ := List.mem_filterMap.mp hv
    cases hei : es[i]? with
    | none => rw [hei] at hi; cases hi
    | some e =>
      rw [hei] at hi
      obtain rfl : e.key = v := by simpa using hi
      exact (m.all e (Array.mem_of_getElem? hei)).1
  have tell : ∀ Q' : Bool → Shared → Prop, Q' false s → wpAny (model prog w) A (tableMayTell (.ref a) ((placesWithHash es.size (fun i => es[i]?.map (·.hash)) h).filterMap (fun i => es[i]?.map (·.key)))) Q' E s := fun Q' q' => by
    unfold tableMayTell
    split
    · exact wpAny_pure q'
    · refine wpAny_bind (quiet_key k (.ref a) 8 s hk hdp A E _ ?_)
      simp only [Bool.not_true, Bool.false_eq_true, if_false]
      refine wpAny_bind ?_
      refine wpAny_forIn_list _ (fun rest r s' => s' = s ∧ r = (none, ()) ∧ ∀ v ∈ rest, carriedByValue v = true) _ ?_ ?_ _ _ ⟨rfl, rfl, hst⟩
      · rintro x rest r s' ⟨rfl, rfl, hr⟩
        refine wpAny_bind (QuietAt.byValue (n := 8) (hr x List.mem_cons_self) A E _ ?_)
        simp only [Bool.not_true, Bool.false_eq_true, if_false]
        exact wpAny_pure ⟨rfl, rfl, fun v hv => hr v (List.mem_cons_of_mem _ hv)⟩
      · rintro r s' ⟨rfl, rfl, _⟩
        exact wpAny_pure q'
  have notall : ¬ ((Value.ref a :: (placesWithHash es.size (fun i => es[i]?.map (·.hash)) h).filterMap (fun i => es[i]?.map (·.key))).all carriedByValue) = true := by simp [carriedByValue]
  unfold dictFind
  try with_reducible refine wpAny_holding ?_
  refine wpAny_bind (wpAny_dictEntries ho hd ?_)
  dsimp only
  rw [if_neg notall]
  rw [if_neg hany]
  by_cases hone : (((placesWithHash es.size (fun i => es[i]?.map (·.hash)) h).filterMap (fun i => es[i]?.map (·.key))) == [Value.ref a]) = true <;>
  (first | rw [if_pos hone] | rw [if_neg hone]) <;> (first | refine wpAny_bind (wpAny_pure ?_) | refine wpAny_bind (tell _ ?_)) <;> (
    rw [if_neg (by simp)]
    refine wpAny_bind ?_
    refine wpAny_forIn_list _ (fun rest b s' => s' = s ∧ b = (none, none)) _ ?_ ?_ _ _ ⟨rfl, rfl⟩
    · rintro x rest b s' ⟨rfl, rfl⟩
      cases hx : es[x]? with
      | none => exact wpAny_pure ⟨rfl, rfl⟩
      | some e =>
        dsimp only
        obtain ⟨_, k', hk', hd0, hb⟩ := m.all e (Array.mem_of_getElem? hx)
        by_cases hh : (e.hash == h) = true
        · rw [if_pos hh]
          have eq := (eqAt_key k' k A s' e.key (.ref a) hk' hk (by rw [hd0]; omega))
          rw [hb] at eq
          refine wpAny_bind (wpAny_dictEpoch ho hd (wpAny_bind (eq _ _ _ _ (wpAny_bind (wpAny_dictEpoch ho hd ?_)))))
          show wpAny _ _ (if (ep != ep) = true then _ else _) _ E _
          rw [if_neg (by simp)]
          simp only [Bool.false_eq_true, if_false]
          refine wpAny_bind (wpAny_rule ?_)
          first | rw [if_neg (by simp)] | skip
          first
            | exact wpAny_pure ⟨rfl, rfl⟩
            | exact wpAny_bind (wpAny_pure (wpAny_pure ⟨rfl, rfl⟩))
        · rw [if_neg hh]
          exact wpAny_pure ⟨rfl, rfl⟩
    · rintro b s' ⟨rfl, rfl⟩
      exact wpAny_pure q)
end
end PySem
namespace PySem
open Sem (wp)
section
variable {prog : Program} {w : World} {A : Around} {E : Value → Shared → Prop} {s : Shared}
/-- d[key] = v, where the key is none of those stored -/
theorem wpAny_setItem_missed {d : Addr} {o : Obj} {es : Array DictEntry} {ep : Nat} {key v : Value} {k : NestedKey} {Q : Unit → Shared → Prop} (ho : s.heap.get? d = some o) (hc : o.ExactDict) (hd : o.data = .dict es ep) (hk : NestedIs s.heap k key) (hu : A.in1.units + k.depth < cLine) (hz : es.size ≤ sizeLine)
    (fnd : ∀ (t : Nat) (h : Int) (Q' : Option Nat → Shared → Prop), Q' none { s with toks := t } → wpAny (model prog w) A.in1 (dictFind d key h) Q' E { s with toks := t })
    (q : ∀ h' hh, h'.DictRaw d (es.push ⟨hh, key, v⟩) (ep + 1) → Heap.SameBut d s.heap h' → Q () { s with heap := h', toks := s.toks + k.draws }) :
    wpAny (model prog w) A (setItem (.ref d) key v) Q E s := by
  have hT : s.TypeIs (.ref d) "dict" := ⟨o, ho, hc.1⟩
  unfold setItem
  try with_reducible refine wpAny_holding ?_
  refine wpAny_bind (wpAny_sequenceKey hT (by decide) ?_)
  refine wpAny_bind (wpAny_callSpecial?_slot (name := Str.ofString "__setitem__") hT F.slot_dict_setitem
    (wpAny_call_entry F.slot_dict_setitem hT F.entry_dict_setitem ?_ (F.args_dict_setitem_3 _ _ _)))
  show wpAny _ _ (Builtin.Dict.notOrdered "__setitem__" ⟨[.ref d, key, v], []⟩ >>= _) _ _ s
  refine wpAny_bind (wpAny_notOrdered_dict hT ?_)
  show wpAny _ _ (dictSet d key v >>= _) _ _ s
  refine wpAny_bind ?_
  unfold dictSet
  try with_reducible refine wpAny_holding ?_
  refine wpAny_bind (pyHash_key k key A.in1 s _ hk hu ?_)
  unfold dictSetHashed
  try with_reducible refine wpAny_holding ?_
  refine wpAny_bind (fnd _ _ _ ?_)
  refine wpAny_bind (wpAny_rule (wpAny_updateDictKeys (hz := hz) (s := { s with toks := s.toks + k.draws }) ho hd (wpAny_pure ⟨.none, rfl, wpAny_pure (q _ _ ⟨_, Heap.get?_update_self _ ho (Obj.isFreed_of_dict (Obj.data_mapDictKeys hd _)), hc.mapDictKeys _, Obj.data_mapDictKeys hd _⟩ (Heap.SameBut.update ..))⟩)))
end
end PySem
namespace L2
open PySem PySem.Spec PyProof.Rows
/-- a plain dict whose keys may be of any kind: what is stored, in order -/
def RawO (d : Addr) (rows : List (V × V)) : HO := .ext fun h => (d == sysModules) = false ∧ rows.length ≤ sizeLine ∧ ∃ es ep, h.DictRaw d es ep ∧ Paired (fun (r : V × V) (e : DictEntry) => RelV r.1 e.key ∧ RelV r.2 e.val) rows es.toList
def rowsK (kvs : List (Key × V)) : List (V × V) := kvs.map fun p => (kV p.1, p.2)
/-- None, or a tracked tuple of ints and texts -/
def OddK (H : Hp) (y : V) : Prop := y = .non ∨ ∃ (b : Addr) (ks : List Key), y = .ref b ∧ H b = some (.tup (ks.map kV))
def nkK : Key → NestedKey
  | .inl i => .num i
  | .inr x => .text x
theorem raw_ok {P : Program} {w : World} {H : Hp} {h : Heap} {d : Addr} {rows : List (V × V)} {es : Array DictEntry} {ep : Nat} (hs : (d == sysModules) = false) (z : rows.length ≤ sizeLine) (r : h.DictRaw d es ep) (p : Paired (fun (r : V × V) (e : DictEntry) => RelV r.1 e.key ∧ RelV r.2 e.val) rows es.toList) :
    ObjOk P w H h d (RawO d rows) :=
  ⟨⟨hs, z, es, ep, r, p⟩, let ⟨o, ho, _⟩ := r; ⟨o, ho⟩, fun h1 h2 q k => let ⟨hs, z, es, ep, r, p⟩ := q; ⟨hs, z, es, ep, r.at k, p⟩⟩
theorem raw_of {P : Program} {w : World} {H : Hp} {h : Heap} {d : Addr} {rows : List (V × V)} (x : ObjOk P w H h d (RawO d rows)) :
    (d == sysModules) = false ∧ rows.length ≤ sizeLine ∧ ∃ es ep, h.DictRaw d es ep ∧ Paired (fun (r : V × V) (e : DictEntry) => RelV r.1 e.key ∧ RelV r.2 e.val) rows es.toList := x.1
theorem nested_key {h : Heap} {k : Key} {u : Value} (r : keyIs k u = true) : NestedIs h (nkK k) u ∧ carriedByValue u = true := by
  rcases keyIs_shape r with ⟨i, t, rfl, rfl⟩ | ⟨x, t, rfl, rfl⟩
  · exact ⟨.int i t, rfl⟩
  · exact ⟨.text x t, rfl⟩
theorem kV_keyIs {k : Key} {u : Value} (r : RelV (kV k) u) : keyIs k u = true := by
  cases k with
  | inl i => obtain ⟨t, rfl⟩ := (show ∃ t, u = Value.int i t from r); exact decide_eq_true rfl
  | inr x => obtain ⟨t, rfl⟩ := (show ∃ t, u = Value.str x t from r); exact decide_eq_true rfl
theorem nested_keys {h : Heap} : ∀ {ks : List Key} {us : List Value}, Vals (ks.map kV) us → NestedAll h (ks.map nkK) us
  | [], us, r => by
    cases us with
    | nil => exact .nil
    | cons _ _ => cases r
  | k :: ks, us, r => by
    rw [List.map_cons] at r
    cases r with
    | cons r t => exact .cons (nested_key (kV_keyIs r)).1 (nested_keys t)
theorem nkK_depth : ∀ ks : List Key, NestedKey.depthAll (ks.map nkK) = 0
  | [] => rfl
  | k :: ks => by
    show max (nkK k).depth (NestedKey.depthAll (ks.map nkK)) = 0
    rw [nkK_depth ks]
    cases k <;> rfl
theorem raw_rows {P : Program} {w : World} : ∀ {kvs : List (Key × V)} {vs : List (Key × Value)} {es : List DictEntry}, KV kvs vs → Pairs (mixKind P w) es vs → Paired (fun (r : V × V) (e : DictEntry) => RelV r.1 e.key ∧ RelV r.2 e.val) (rowsK kvs) es
  | _, _, _, .nil, .nil => .nil
  | _, _, _, .cons h t, .cons k e r => .cons ⟨relV_key (h.1 ▸ k), e ▸ h.2⟩ (raw_rows t r)
/-- d[y] = v, y None or a tuple, d a dict of ints and texts -/
def RPut (H : Hp) (a : Addr) (y v : V) (H' : Hp) : Prop := ∃ kvs, H a = some (.dK kvs) ∧ OddK H y ∧ kvs.length < sizeLine ∧ H' = upd H a (RawO a (rowsK kvs ++ [(y, v)]))
section
variable {X : Cx} {pins : List (Addr × Obj)} {σ : St} {H : Hp} {s : Shared} {a : Addr} {y v : V} {u r : Value} {A : Around} {E : Value → Shared → Prop}
theorem d_setOdd {H' : Hp} {Q : Unit → Shared → Prop} (hu : A.units + 2 < cLine) (I : Inv X pins σ H s) (g : RPut H a y v H') (ry : RelV y u) (rv : RelV v r) (h : ∀ s', Inv X pins σ H' s' → Q () s') :
    wpAny (model X.prog X.w) A (setItem (.ref a) u r) Q E s := by
  obtain ⟨kvs, e, odd, l, rfl⟩ := g
  obtain ⟨z, hd, vs, rel, o, es, ep, ho, hx, hdt, hk, pr, nd⟩ := dk_of I.hok e
  have hu1 : A.in1.units + 1 < cLine := hu
  have hz : es.size ≤ sizeLine := by
    have l1 := pr.length
    have l2 : kvs.length = vs.length := Paired.length rel
    rw [Array.length_toList] at l1
    omega
  have rows := raw_rows rel pr
  have done : ∀ (k : NestedKey) h' hh, h'.DictRaw a (es.push ⟨hh, u, r⟩) (ep + 1) → Heap.SameBut a s.heap h' → Q () { s with heap := h', toks := s.toks + k.draws } := fun k h' hh dr sb => h _ (d_write I (by rw [e]; exact True.intro) sb (let ⟨o, ho, _⟩ := dr; ⟨o, ho⟩) (raw_ok hd (by rw [List.length_append]; unfold rowsK; rw [List.length_map]; show kvs.length + 1 ≤ _; omega) dr (by
    rw [Array.toList_push]
    exact Paired.snoc rows ⟨ry, rv⟩)))
  have all : ∀ en ∈ es, carriedByValue en.key = true ∧ ∃ k, NestedIs s.heap (nkK k) en.key := fun en hen => by
    obtain ⟨k, hk1, _⟩ := hk en hen
    obtain ⟨q1, q2⟩ := nested_key (h := s.heap) (show keyIs k en.key = true from hk1)
    exact ⟨q2, k, q1⟩
  rcases odd with rfl | ⟨b, ks, rfl, hb⟩
  · obtain rfl : u = Value.none := ry
    have m : Missed s .none es := ⟨fun en hen => by
      obtain ⟨q1, k, q2⟩ := all en hen
      refine ⟨q1, _, q2, ?_, ?_⟩ <;> cases k <;> rfl⟩
    exact wpAny_setItem_missed (k := .none) ho hx hdt .none (by show A.in1.units + 0 < cLine; omega) hz (fun t hh Q' q' => find_none_missed (s := { s with toks := t }) ho hdt ⟨m.all⟩ (by omega) q') (done .none)
  · obtain rfl : u = Value.ref b := ry
    obtain ⟨_, its, rr, ob, h1, h2, n, h3⟩ := (show ObjOk X.prog X.w H s.heap b (.tup (ks.map kV)) from I.hok b _ hb)
    have hn : NestedIs s.heap (.tup (ks.map nkK)) (.ref b) := .tup h1 h2 h3 (by simpa using nested_keys rr)
    have dp : NestedKey.depth (.tup (ks.map nkK)) = 1 := by
      show NestedKey.depthAll (ks.map nkK) + 1 = 1
      rw [nkK_depth]
    have m : Missed s (.tup (ks.map nkK)) es := ⟨fun en hen => by
      obtain ⟨q1, k, q2⟩ := all en hen
      refine ⟨q1, _, q2, ?_, ?_⟩ <;> cases k <;> rfl⟩
    exact wpAny_setItem_missed (k := .tup (ks.map nkK)) ho hx hdt hn (by rw [dp]; exact hu1) hz (fun t hh Q' q' => find_ref_missed (s := { s with toks := t }) ho hdt hn (by rw [dp]; omega) ⟨m.all⟩ (by omega) q') (done _)
end
end L2
namespace L2
open PySem PySem.Spec PyProof.Rows
/-- d[y] = v, y of any kind -/
def sRPut (td ty tv : TE) : TS := fun D σ H => tv σ H fun v H1 => td σ H1 fun x H2 => ty σ H2 fun y H3 => ∃ a H4, x = .ref a ∧ (DPut H3 a y v H4 ∨ RPut H3 a y v H4) ∧ D.nx σ H4
/-- the rows of a dict: of ints and texts, or of any keys -/
def RowsO (d : Addr) (u : HO) (rows : List (V × V)) : Prop := (∃ kvs, u = .dK kvs ∧ rows = rowsK kvs) ∨ u = RawO d rows
theorem RowsO.mut {d : Addr} {u : HO} {rows : List (V × V)} (h : RowsO d u rows) : Mut (some u) := by
  rcases h with ⟨kvs, rfl, _⟩ | rfl <;> exact True.intro
def Itkr (d : Addr) (o : Obj) (rows : List (V × V)) : It :=
  ⟨fun i H => H d = some (.frz o (RawO d rows)) ∧ i < rows.length, fun i H x H' => H' = H ∧ ∃ v, rows[i]? = some (x, v), fun i H => H d = some (.frz o (RawO d rows)) ∧ rows.length ≤ i⟩
section
variable {X : Cx} {pins : List (Addr × Obj)} {σ : St} {H : Hp} {s : Shared} {d : Addr} {o : Obj} {rows : List (V × V)}
theorem Inv.frzR (I : Inv X pins σ H s) (h : H d = some (.frz o (RawO d rows))) :
    (d == sysModules) = false ∧ s.heap.get? d = some o ∧ o.ExactDict ∧ ∃ (es : Array DictEntry) (ep : Nat), o.data = .dict es ep ∧ es.size = rows.length ∧ Paired (fun (r : V × V) (e : DictEntry) => RelV r.1 e.key ∧ RelV r.2 e.val) rows es.toList := by
  obtain ⟨hd, x⟩ := (show s.heap.get? d = some o ∧ ObjOk X.prog X.w H s.heap d (RawO d rows) from I.hok d _ h)
  obtain ⟨hs, z, es, ep, ⟨o', ho, hx, hdt⟩, p⟩ := raw_of x
  rw [hd] at ho
  cases ho
  exact ⟨hs, hd, hx, es, ep, hdt, ((Paired.length p).trans Array.length_toList).symm, p⟩
end
theorem paired_at {α β : Type} {F : α → β → Prop} : ∀ {l₁ : List α} {l₂ : List β} {i : Nat} {a : α}, Paired F l₁ l₂ → l₁[i]? = some a → ∃ b, l₂[i]? = some b ∧ F a b
  | _, _, 0, _, .cons h _, e => by cases e; exact ⟨_, rfl, h⟩
  | _, _, i + 1, _, .cons _ t, e => paired_at (i := i) t e
  | _, _, i, _, .nil, e => by cases i <;> cases e
section
variable {P : Program} {w : World} {K : PySem.W.Frag} {tg : Expr} {d : Addr} {o : Obj} {es : Array DictEntry} {ep : Nat}
theorem turn_keysR {rows : List (V × V)} (it : Addr) (hod : o.data = .dict es ep) : Turn P w K tg (Itkr d o rows) [it] it (fun i h => h.IsKeyIter it d i rows.length ep) where
  mem := by simp
  obj := fun i h st b hb => by
    have e : b = it := by simpa using hb
    subst e
    obtain ⟨oi, e, c, dd⟩ := st
    exact ⟨oi, e, fun v z => by rw [dd] at z; cases z⟩
  keep := fun i h h' st k => st.at fun oi e => k it (by simp) oi e
  item := by
    intro X hP hw hK hc i pins s σ H E I hf st hg
    subst hP hw hK
    obtain ⟨hd, hi⟩ := hg
    obtain ⟨f0, f1, f2, f3, f4, f5⟩ := hf it (by simp)
    obtain ⟨hs, hgd, hx, es', ep', hdt, hsz, ent⟩ := I.frzR hd
    obtain ⟨rfl, rfl⟩ := dict_ep hod hdt
    obtain ⟨⟨k, v⟩, hkv⟩ : ∃ p, rows[i]? = some p := ⟨rows[i], List.getElem?_eq_getElem hi⟩
    obtain ⟨en, hen, hkey, _⟩ := paired_at ent hkv
    refine next_key_item st hgd hdt hsz (by rw [← Array.getElem?_toList]; exact hen) fun h' st' sb => ?_
    have I1 : Inv X pins σ H { s with heap := h' } := I.turned (t' := s.toks) (fun b ob hb e => (sb.2 b hb).trans e) f0 f1 f3 f4 f5
    obtain ⟨oi, e, c, dd⟩ := id st'
    exact ⟨en.key, rfl, go_of (s := { s with heap := h' }) e c dd (by decide) ⟨k, H, I1, hkey, ⟨rfl, v, hkv⟩, st', fun b hb => (hf b hb).1⟩⟩
  done := by
    intro X hP hw hK hc i pins s σ H E I hf st hg
    subst hP hw hK
    obtain ⟨hd, hi⟩ := hg
    obtain ⟨f0, f1, f2, f3, f4, f5⟩ := hf it (by simp)
    obtain ⟨hs, hgd, hx, es', ep', hdt, hsz, ent⟩ := I.frzR hd
    obtain ⟨rfl, rfl⟩ := dict_ep hod hdt
    exact next_key_end (I.ok.hd hc) st hgd hdt hsz hi fun h' eb => ⟨rfl, I.turned (t' := s.toks) (fun b ob hb e => eb b ob hb e) f0 f1 f3 f4 f5⟩
  self := fun A i s Q E st h => by
    refine wpAny_pyIter_slot st.typeIs F.slot_dict_keyiterator_iter (wpAny_call_entry F.slot_dict_keyiterator_iter st.typeIs F.entry_dict_keyiterator_iter ?_ (F.args_dict_keyiterator_iter_1 _))
    show wpAny _ _ (ret (.ref it)) _ _ s
    exact wpAny_pure ⟨_, rfl, "dict_keyiterator", _, st.typeIs, F.slot_dict_keyiterator_next.lookup, h⟩
theorem walk_keysR {rows : List (V × V)} : Walk (Itkr d o rows) rows.length (fun H => H d = some (.frz o (RawO d rows))) (fun i H x H' => H' = H ∧ ∃ v, rows[i]? = some (x, v)) :=
  ⟨fun _ _ hi q => ⟨q, hi⟩, fun _ q => ⟨q, Nat.le_refl _⟩, fun _ _ _ _ _ _ y => y⟩
theorem rowsK_len (kvs : List (Key × V)) : (rowsK kvs).length = kvs.length := List.length_map _
theorem walk_keysK {kvs : List (Key × V)} : Walk (Itk d o kvs) (rowsK kvs).length (fun H => H d = some (.frz o (.dK kvs))) (fun i H x H' => H' = H ∧ ∃ v, (rowsK kvs)[i]? = some (x, v)) := by
  rw [rowsK_len]
  refine walk_keys.mono (fun _ h => h) fun i H x H' hi h y => ?_
  obtain ⟨rfl, k, v, hk, rfl⟩ := y
  refine ⟨rfl, v, ?_⟩
  unfold rowsK
  rw [List.getElem?_map, hk] <;> rfl
end
/-- for k in d: d of ints and texts, or of any keys (locked) -/
def iKeysO (td : TE) : TI := fun σ H R => td σ H fun x H1 => ∃ (d : Addr) (o : Obj) (u : HO) (rows : List (V × V)), x = .ref d ∧ H1 d = some (.frz o u) ∧ RowsO d u rows ∧
  ∀ J, Walk J rows.length (fun H => H d = some (.frz o u)) (fun i H x H' => H' = H ∧ ∃ v, rows[i]? = some (x, v)) → R J H1
section
variable {X : Cx} {tg e : Expr} {td : TE}
theorem pi_keysO (he : PE X e td) : PI X tg e (iKeysO td) := by
  refine ⟨fun pins s σ H R I h => ?_⟩
  refine thn (he.run pins s σ H _ I h) fun u s1 ⟨x, H1, I1, rx, d, o, ob, rows, ex, hd, ro, q⟩ => ?_
  subst ex
  obtain rfl : u = Value.ref d := rx
  rcases ro with ⟨kvs, rfl, rfl⟩ | rfl
  · obtain ⟨hs, hgd, hx, es, ep, vs, hdt, hsz, kv, hm⟩ := I1.frzK hd
    refine iter_keys hs hgd hx hdt (pi_one (tk := s1.toks) I1 _ (turn_keys _ hdt) ⟨_, Heap.get?_push_size _ rfl, rfl, ?_⟩ (q _ walk_keysK))
    rw [hsz] <;> rfl
  · obtain ⟨hs, hgd, hx, es, ep, hdt, hsz, ent⟩ := I1.frzR hd
    refine iter_keys hs hgd hx hdt (pi_one (tk := s1.toks) I1 _ (turn_keysR _ hdt) ⟨_, Heap.get?_push_size _ rfl, rfl, ?_⟩ (q _ walk_keysR))
    rw [hsz] <;> rfl
theorem ps_rput {i o value : Expr} {ty tv : TE} {pos pos' : Pos} (hu : X.A.units + 2 < cLine) (ho : PE X o td) (hi : PE X i ty) (hv : PE X value tv) (hs : swapsWith value (some (.Subscript o i pos')) pos.line X.env = pure false) :
    PS X (.Assign [.Subscript o i pos'] value pos) (sRPut td ty tv) := by
  refine ⟨fun pins s σ H D I h => ?_⟩
  refine wpAny_Assign_Subscript (thn (hv.run pins s σ H _ I h) fun r s1 ⟨v, H1, I1, rv, q1⟩ => thn (ho.run pins s1 σ H1 _ I1 q1) fun u s2 ⟨x, H2, I2, rx, q2⟩ => thn (hi.run pins s2 σ H2 _ I2 q2) fun iv s3 ⟨y, H3, I3, ry, a, H4, ex, g, q3⟩ => ?_) hs
  subst ex
  obtain rfl : u = Value.ref a := rx
  rcases g with g | g
  · exact d_setItem (by omega) I3 g ry rv fun s4 I4 => ⟨σ, H4, I4, q3⟩
  · exact d_setOdd hu I3 g ry rv fun s4 I4 => ⟨σ, H4, I4, q3⟩
/-- isinstance(d, dict), d of any keys -/
theorem call_isiR : CallR X (.builtin "isinstance") (fun xs H Q => ∃ (a : Addr) (rows : List (V × V)) (o : Option Obj), xs = [.ref a, .ty "dict"] ∧ (H a = some (RawO a rows) ∨ ∃ o, H a = some (.frz o (RawO a rows))) ∧ Q (.bl true) H) := by
  intro pins s σ H xs us Q I r h
  obtain ⟨a, rows, _, rfl, ha, q⟩ := h
  obtain ⟨u1, u2, rfl, r1, r2⟩ := vals2 r
  cases (show u1 = Value.ref a from r1)
  cases (show u2 = Value.type "dict" from r2)
  have ok : ObjOk X.prog X.w H s.heap a (RawO a rows) := by
    rcases ha with ha | ⟨o, ha⟩
    · exact I.hok a _ ha
    · exact (show s.heap.get? a = some o ∧ ObjOk X.prog X.w H s.heap a (RawO a rows) from I.hok a _ ha).2
  obtain ⟨_, _, es, ep, ⟨o, ho, hx, _⟩, _⟩ := raw_of ok
  exact PySem.W.kia_one PySem.W.kitx_dict I.kIn ⟨o, ho, hx.1⟩ (kit_ty (r := true) (by decide +kernel)) (fun z => nomatch z) fun tk => ⟨.bl true, H, I.tok tk, rfl, q⟩
theorem call_len_raw {pr : Program} {wd : World} {A : Around} {E : Value → Shared → Prop} {s : Shared} {d : Addr} {es : Array DictEntry} {ep : Nat} {Q : Value → Shared → Prop} (hd : (d == sysModules) = false) (hm : s.heap.DictRaw d es ep) (hfit : (es.size : Int) < 2 ^ 63)
    (h : Q (.int es.size (s.toks + 1)) { s with toks := s.toks + 1 + 1 }) : wpAny (model pr wd) A (call (.builtin "len") [.ref d]) Q E s := by
  refine Calls.call_function_entry kind_len plain_len entry_len (args_len1 _) ?_
  unfold Builtin.«len»
  refine wpAny_bind (m := oneArg "len" _) (wpAny_pure ?_)
  refine wpAny_bind (m := callSpecial? (.ref d) (Str.ofString "__len__")) (wpAny_callSpecial?_slot (name := Str.ofString "__len__") hm.typeIs F.slot_dict_len
    (call_meetsIn F.slot_dict_len hm.typeIs F.entry_dict_len (F.args_dict_len_1 _) (meets_dict_len_raw d hd) ⟨es, ep, hm, ?_⟩))
  show wpAny _ _ _ _ _ { s with toks := s.toks + 1 }
  refine wpAny_bind (wpAny_holding (wpAny_pure ?_))
  refine wpAny_bind (wpAny_letGo ?_)
  show wpAny _ _ (if ((es.size : Nat) : Int) < 0 then _ else _) _ _ _
  rw [if_neg (by omega)]
  show wpAny _ _ (if ((es.size : Nat) : Int) ≥ 2 ^ 63 then _ else _) _ _ _
  rw [if_neg (by omega)]
  exact wpAny_bind (wpAny_mkInt (wpAny_pure ⟨_, rfl, h⟩))
def rLenR : List V → Hp → VK → Prop := fun xs H Q => ∃ (a : Addr) (rows : List (V × V)), xs = [V.ref a] ∧ H a = some (RawO a rows) ∧ Q (.int ((rows.length : Nat) : Int)) H
theorem call_lenR : CallR X (.builtin "len") rLenR := by
  intro pins s σ H xs us Q I r h
  obtain ⟨a, rows, rfl, ha, q⟩ := h
  obtain ⟨u, rfl, ru⟩ := vals1 r
  obtain rfl : u = .ref a := ru
  obtain ⟨hs, z, es, ep, dr, p⟩ := raw_of (I.hok a _ ha)
  have hl : rows.length = es.size := by
    have l := Paired.length p
    rw [Array.length_toList] at l
    exact l
  refine call_len_raw hs dr (by rw [← hl]; rw [sizeLine_eq] at z; omega) ?_
  rw [← hl]
  exact ⟨.int ((rows.length : Nat) : Int), H, I.tok _, ⟨_, rfl⟩, q⟩
end
end L2


/-! need_feasible, where the sizes may be a dict with a key of another kind -/
namespace FT
open PySem L2 TL ClX
theorem FnOk.or {P : Program} {w : World} {K : PySem.W.Frag} {mg : Str → Option Value} {base : Heap} {CX : CXT} {k : Nat} {f : Addr} {fd : FuncData} {ps : List Str} {sp sp' : Sp} (h : FnOk P w K mg base CX k f fd ps sp) (h' : FnOk P w K mg base CX k f fd ps sp') :
    FnOk P w K mg base CX k f fd ps (fun vs H Q E => sp vs H Q E ∨ sp' vs H Q E) := by
  refine ⟨fun vs H Q E q => ?_, fun A outer s H args us vs Q E r e0 b v q => ?_⟩
  · rcases q with q | q
    · exact h.len _ _ _ _ q
    · exact h'.len _ _ _ _ q
  · rcases q with q | q
    · exact h.run A outer s H args us vs Q E r e0 b v q
    · exact h'.run A outer s H args us vs Q E r e0 b v q
def spFeasR (CF CS : Addr) : Sp := fun vs H _ E => ∃ (x b : Addr) (n : Int) (ts : List (Str × Str)) (rows : List (V × V)), vs = [.ref x, .int n, .ref b] ∧ FAt CF H x ts ∧ TreeOk ts ∧ H b = some (RawO b rows) ∧ rows.length ≠ ts.length ∧ Out H E (.e1 CS "place" .non)
def spFeasM (K : PySem.W.Frag) (CF CS : Addr) : Sp := fun vs H Q E => spFeas K CF CS vs H Q E ∨ spFeasR CF CS vs H Q E
section
variable {P : Program} {w : World} {K : PySem.W.Frag} {mg : Str → Option Value} {base : Heap}
theorem ok_feasM {f fR fI CF CS IS p1 g1 : Addr} {fd fdR fdI dS fd1 : FuncData} (F : Fun K "need_feasible" "need_feasible" s_need_feasible f fd) (T : Nm mg) (O : FoC K CF) (S : Er1 P w K mg base "InvalidSizes" "place" CS IS dS)
    (R : Dn P w K mg base CX0 4 "residents_of" ["forest", "users", "sizes"] (spResid CF) fR fdR) (I : Dn P w K mg base CX0 1 "is_integer" ["value", "least"] (spIsInt K) fI fdI) (L1 : Pr1 P w K mg base CF "flags" (spFFlags CF) p1 g1 fd1) :
    FnOk P w K mg base (L2.CX P w) 5 f fd ["forest", "users", "sizes"] (spFeasM K CF CS) := by
  refine FnOk.or (ok_feas F T O S R I L1) ?_
  refine F.okX scFe (fun vs H Q E h => ?_) (fun cdv A outer s H vs Q E hr h => ?_)
  · obtain ⟨x, b, n, ts, rows, rfl, _⟩ := h
    rfl
  · obtain ⟨x, b, n, ts, rows, rfl, fa, o, hb, ne, k⟩ := h
    have hu := hu_of hr
    have hr2 : Room 2 _ := hr.mono (by decide)
    have big : 1000 ≤ sizeLine := by decide
    have few := o.few
    refine ⟨_, pss_cons (ps_if (PW.pt (pw_or (pt_not (pt_val (pe_callB call_isiR (by rfl) T.isi (by decide +kernel) (pa_cons (pv 2) (pa_cons (pe_bltn (v := .ty "dict") (u := .type "dict") (by rfl) T.dct (by decide +kernel) rfl) pa_nil)))))
        (pw_or1 (pt_cmpR op_ne (pe_callB call_lenR (by rfl) T.len PySem.boot_len (pa_cons (pv 2) pa_nil)) (pe_callB call_len_seq (by rfl) T.len PySem.boot_len (pa_cons (pe_prop (pv 0) O.cl L1.pr L1.fn hr2 L1.bn .nil pass0 (by rfl)) pa_nil)) (nomark _)))))
        (pss_one (ps_err1 S rfl (takes_of rfl rfl rfl rfl) hr2 rfl pe_non)) pss_nil)
      (pss_cons (ps_if (pt_not (pt_val (pe_callB (cr_all rfl) (by rfl) T.all (by decide +kernel) (pa_cons (pe_lc (own := [("name", 3)]) (g := gName 3) (tt := tYes) rfl scFe.nd (pi_list (pe_prop (pv 0) O.cl L1.pr L1.fn hr2 L1.bn .nil pass0 (by rfl)))
          (blkOk_by (N := NFe) (sc := defScope s_need_feasible) (by decide +kernel))
          (fun _ _ _ _ _ => pg_name (i := 3) scFe.nd rfl (Or.inl rfl)) (fun _ _ _ _ _ => pts_nil) (fun _ _ _ _ _ => pe_cmp (pc_din hu (pv 3) (pv 2)) rfl)) pa_nil))))
        (pss_one (ps_err1 S rfl (takes_of rfl rfl rfl rfl) hr2 rfl pe_non)) pss_nil)
      (pss_cons (ps_for (passes_of rfl) rfl (pi_list (pe_prop (pv 0) O.cl L1.pr L1.fn hr2 L1.bn .nil pass0 (by rfl))) (pg_name (i := 3) scFe.nd rfl (.inl rfl))
        (pss_one (ps_if (pt_not (pt_val (pe_call I.ok (hr.mono (by decide)) rfl I.mgn I.kp I.bn .nil pass0 (pa_cons (pe_dget hu (pv 2) (pv 3) (fun _ _ => rfl)) (pa_cons pe_int pa_nil))))) (pss_one (ps_err1 S rfl (takes_of rfl rfl rfl rfl) hr2 rfl (pv 3))) pss_nil)))
      (pss_cons (ps_set (i := 4) scFe.nd rfl (.inl rfl) (pe_call R.ok hr rfl R.mgn R.kp R.bn .nil pass0 (pa_cons (pv 0) (pa_cons (pv 1) (pa_cons (pv 2) pa_nil)))))
      (pss_one (ps_lock (ps_for (passes_of rfl) rfl (pi_keys (pv 4)) (pg_name (i := 5) scFe.nd rfl (.inl rfl))
        (pss_one (ps_if (pt_cmpR op_lt (pe_dget hu (pv 4) (pv 5) (fun _ _ => rfl)) pe_int (nomark _)) (pss_one (ps_err1 S rfl (takes_of rfl rfl rfl rfl) hr2 rfl (pv 5))) pss_nil)))))))), ?_⟩
    obtain ⟨dx, dq, hx, hd⟩ := id fa
    refine ⟨_, rfl, b, rows, none, rfl, .inl hb, _, rfl, iteF ?_⟩
    refine ⟨_, rfl, b, rows, rfl, hb, ?_⟩
    refine ⟨_, rfl, x, dx, _, rfl, hx, x, ts, rfl, fa, fun pf nf => ⟨pf, _, rfl, .inl (SqL.of upd_same), rfl, _, rfl, ?_⟩⟩
    rw [List.length_map, List.length_map, len_int]
    have s1 := same_new (o := .lst ((ts.map Prod.fst).map V.str)) nf
    rw [decide_eq_false ne]
    exact iteT (out1 (H := H) k s1)
end
end FT


/-! sizes of any kind: data, or a dict with a key of another kind -/
namespace FT
open PySem L2 TL ClX
/-- a value for sizes of m flags: a dict with the entries o, or no dict of as many entries -/
def SzM (K : PySem.W.Frag) (H : Hp) (m : Nat) (sv : V) (o : Option (List (Key × V))) : Prop := SzV K H sv o ∨ (o = none ∧ ∃ b rows, sv = .ref b ∧ H b = some (RawO b rows) ∧ rows.length ≠ m)
theorem SzM.mono {K : PySem.W.Frag} {H H' : Hp} {m : Nat} {sv : V} {o : Option (List (Key × V))} (s : Same H H') (h : SzM K H m sv o) : SzM K H' m sv o := by
  rcases h with h | ⟨e, b, rows, e1, e2, e3⟩
  · exact .inl (h.mono s)
  · exact .inr ⟨e, b, rows, e1, s _ _ e2, e3⟩
theorem SzM.some {K : PySem.W.Frag} {H : Hp} {m : Nat} {sv : V} {kvs : List (Key × V)} (h : SzM K H m sv (some kvs)) : SzV K H sv (some kvs) := by
  rcases h with h | ⟨e, _⟩
  · exact h
  · cases e
def spFeasZ (K : PySem.W.Frag) (CF CS : Addr) : Sp := fun vs H Q E => ∃ (x : Addr) (n : Int) (sv : V) (ts : List (Str × Str)) (o : Option (List (Key × V))), vs = [.ref x, .int n, sv] ∧ FAt CF H x ts ∧ TreeOk ts ∧ SzM K H ts.length sv o ∧ Res H Q E (feE CS ts n o)
theorem spFeasZ_imp {K : PySem.W.Frag} {CF CS : Addr} : ∀ vs H Q E, spFeasZ K CF CS vs H Q E → spFeasM K CF CS vs H Q E := by
  rintro vs H Q E ⟨x, n, sv, ts, o, rfl, fa, to, hz, k⟩
  rcases hz with hz | ⟨rfl, b, rows, rfl, hb, ne⟩
  · exact .inl ⟨x, n, sv, ts, o, rfl, fa, to, hz, k⟩
  · exact .inr ⟨x, b, n, ts, rows, rfl, fa, to, hb, ne, k⟩
/-! ### sizes that a law has bent -/
def KeyB : Key → Prop
  | .inl i => i = 3
  | .inr z => NameL z ∨ z = ""
def RawK (H : Hp) (x : V) : Prop := x = .non ∨ (∃ z, x = .str z ∧ NameL z) ∨ ∃ c, x = .ref c ∧ H c = some (.tup [.str "a"])
def BentV (K : PySem.W.Frag) (H : Hp) (m : Nat) (sv : V) : Option (List (Key × V)) → Prop
  | some kvs => ∃ q, sv = .ref q ∧ H q = some (.dK kvs) ∧ (∀ p ∈ kvs, IsDat K H p.2) ∧ (kvs.map (·.1)).Nodup ∧ kvs.length ≤ 13 ∧ ∀ p ∈ kvs, KeyB p.1
  | none => (∃ T, Dat K H sv T ∧ T ≠ "dict") ∨ ∃ b rows, sv = .ref b ∧ H b = some (RawO b rows) ∧ rows.length = m + 1 ∧ rows.length ≤ 13 ∧ ∀ r ∈ rows, RawK H r.1
theorem BentV.mono {K : PySem.W.Frag} {H H' : Hp} {m : Nat} {sv : V} {o : Option (List (Key × V))} (s : Same H H') (h : BentV K H m sv o) : BentV K H' m sv o := by
  cases o with
  | some kvs =>
    obtain ⟨q, e, h1, h2, h3⟩ := h
    exact ⟨q, e, s _ _ h1, fun p hp => (h2 p hp).mono s, h3⟩
  | none =>
    rcases h with ⟨T, d, n⟩ | ⟨b, rows, e, h1, h2, h4, h3⟩
    · exact .inl ⟨T, d.mono s, n⟩
    · refine .inr ⟨b, rows, e, s _ _ h1, h2, h4, fun r hr => ?_⟩
      rcases h3 r hr with z | z | ⟨c, z, hc⟩
      · exact .inl z
      · exact .inr (.inl z)
      · exact .inr (.inr ⟨c, z, s _ _ hc⟩)
theorem BentV.szM {K : PySem.W.Frag} {H : Hp} {m : Nat} {sv : V} {o : Option (List (Key × V))} (h : BentV K H m sv o) : SzM K H m sv o := by
  cases o with
  | some kvs =>
    obtain ⟨q, e, h1, h2, _⟩ := h
    exact .inl ⟨q, e, h1, h2⟩
  | none =>
    rcases h with ⟨T, d, n⟩ | ⟨b, rows, e, h1, h2, _⟩
    · exact .inl ⟨T, d, n⟩
    · exact .inr ⟨rfl, b, rows, e, h1, by omega⟩
end FT


/-! methods and properties, as a whole -/
namespace FT
open PySem L2 TL ClX
/-- a method of a class, as a whole -/
structure Mt (P : Program) (w : World) (K : PySem.W.Frag) (mg : Str → Option Value) (base : Heap) (CX : CXT) (k : Nat) (C : Addr) (m : Str) (ps : List Str) (sp : Sp) (f : Addr) (fd : FuncData) : Prop where
  mt : Meth K C m f
  fn : FnOk P w K mg base CX k f fd ps sp
  bn : Binds K fd ps []
/-- a property, at any level -/
structure PrN (P : Program) (w : World) (K : PySem.W.Frag) (mg : Str → Option Value) (base : Heap) (k : Nat) (C : Addr) (x : Str) (sp : Sp) (p g : Addr) (fd : FuncData) : Prop where
  pr : PropOf K C x p g
  fn : FnOk P w K mg base CX0 k g fd ["self"] sp
  bn : Binds K fd ["self"] []
end FT


/-! Assignment: made of valid places; its places -/
namespace FT
open PySem L2 TL ClX
/-- the class Assignment -/
structure Ac (K : PySem.W.Frag) (mg : Str → Option Value) (CA : Addr) (mc : Value) : Prop where
  gA : mg "Assignment" = some (.ref CA)
  rd : CRead K CA mc
  most : ∃ u, CVal K CA mc "MOST" (.int 60) u
  cl : Cls K CA
  nF : NoAttr K CA "own_forest"
  nP : NoAttr K CA "own_places"
/-- an assignment at y: its forest, its places -/
def AAt (CA : Addr) (H : Hp) (y x : Addr) (zs : List Str) : Prop := ∃ dy p, H y = some (.ins CA dy [("own_forest", .ref x), ("own_places", .ref p)]) ∧ H p = some (.lst (zs.map V.str))
theorem AAt.mono {CA y x : Addr} {H H' : Hp} {zs : List Str} (s : Same H H') (h : AAt CA H y x zs) : AAt CA H' y x zs := let ⟨dy, p, e1, e2⟩ := h; ⟨dy, p, s _ _ e1, s _ _ e2⟩
def spAInit (CF CA : Addr) : Sp := fun vs H Q _ => ∃ (y x l dy : Addr) (ts : List (Str × Str)) (zs : List Str), vs = [.ref y, .ref x, .ref l] ∧ H y = some (.ins CA dy []) ∧ FAt CF H x ts ∧ TreeOk ts ∧ H l = some (.lst (zs.map V.str)) ∧ 1 ≤ zs.length ∧ zs.length ≤ 60 ∧ (∀ z ∈ zs, Pl ts z) ∧
  ∀ H', AAt CA H' y x zs → (∀ b o, b ≠ y → H b = some o → H' b = some o) → Q .non H'
def spAPlaces (CA : Addr) : Sp := fun vs H Q _ => ∃ (y x : Addr) (zs : List Str), vs = [.ref y] ∧ AAt CA H y x zs ∧ ∀ p, H p = none → Q (.ref p) (upd H p (.lst (zs.map V.str)))
section
variable {P : Program} {w : World} {K : PySem.W.Frag} {mg : Str → Option Value} {base : Heap}
end
end FT


/-! Own: the end of a law's row from a contract FnG (the library's walk_of asks FnOk). -/
namespace L2
open PySem PySem.Spec PyProof.Rows
section
variable {P : Program} {w : World} {K : PySem.W.Frag} {mg mb : Str → Option Value} {k : Nat} {fa a : Addr} {fd : FuncData} {x : Str} {sp : Sp} {s : Shared} {vs : List Value} {ns : List Int}
/-- the abstract heap at the law's entry: the script alone, locked; or nothing, where the script is the module's own -/
abbrev Entry (K : PySem.W.Frag) (a : Addr) (H : Hp) : Prop := (∀ b, H b ≠ none → b = a) ∧ (H a ≠ none → K.lookup a = none)
end
end L2


/-! Own: defs that make lambdas (their code object known), and the end of a law's row from a contract FnG with tables of code objects. -/
namespace L2
open PySem PySem.Spec PyProof.Rows LamX
/-- as Fun, the code object's place told -/
structure FunC (K : PySem.W.Frag) (x qual : Str) (st : Stmt) (f : Addr) (fd : FuncData) (c : Addr) : Prop where
  ex : ∃ (oc : Value) (od : Option Addr) (kV doc pm : Value) (an : Option Addr) (ct : Value) (osl : Array (Option Value)),
    fd = PySem.W.fnOf x qual (defArgs st) (defBody st) (defScope st) .none kV doc pm an (.ref c) ct ∧ K.lookup f = some ⟨oc, od, .func fd, osl⟩ ∧ PySem.W.codeIn K (.ref c) qual = true
  kp : PySem.W.keepIn K (.ref f) = true
theorem FunC.fun {K : PySem.W.Frag} {x qual : Str} {st : Stmt} {f c : Addr} {fd : FuncData} (F : FunC K x qual st f fd c) : Fun K x qual st f fd :=
  let ⟨oc, od, kV, doc, pm, an, ct, osl, e1, e2, e3⟩ := F.ex
  ⟨⟨oc, od, kV, doc, pm, an, .ref c, ct, osl, e1, e2, e3⟩, F.kp⟩
theorem funC_mk {K : PySem.W.Frag} {x qual : Str} {st : Stmt} {f c : Addr} {oc : Value} {od an : Option Addr} {osl : Array (Option Value)} {kV doc pm ct : Value} (l : K.lookup f = some ⟨oc, od, .func (PySem.W.fnOf x qual (defArgs st) (defBody st) (defScope st) .none kV doc pm an (.ref c) ct), osl⟩)
    (e : PySem.W.codeIn K (.ref c) qual = true) (k : PySem.W.keepIn K (.ref f) = true) : FunC K x qual st f (PySem.W.fnOf x qual (defArgs st) (defBody st) (defScope st) .none kV doc pm an (.ref c) ct) c := ⟨⟨oc, od, kV, doc, pm, an, ct, osl, rfl, l, e⟩, k⟩
section
variable {P : Program} {w : World} {K : PySem.W.Frag} {mg : Str → Option Value} {base : Heap}
theorem FunC.ok {x qual : Str} {st : Stmt} {f c : Addr} {fd : FuncData} {N ps : List Str} {k : Nat} {sp : Sp} (F : FunC K x qual st f fd c) (S : FnScope N ps (defScope st)) (len : ∀ vs H Q E, sp vs H Q E → vs.length = ps.length)
    (body : ∀ (A : Around) (outer : List Env) (s : Shared) (H : Hp) (vs : List V) (Q : VK) (E : XK), Room k (A.deeper (envOfC qual (defScope st) s.heap.objs.size f (.ref c))) → sp vs H Q E →
      ∃ t, PSs (cxOf CX0 P w K mg base N qual (defScope st) f (.ref c) A outer s H E).nox (defBody st) t ∧ t { nx := fun _ H' => Q .non H', rt := Q } (start N vs) H) : FnOk P w K mg base CX0 (k + 1) f fd ps sp := by
  obtain ⟨oc, od, kV, doc, pm, an, ct, osl, rfl, lk, code⟩ := F.ex
  refine fn_of lk code S len fun A outer s H vs Q E room want => ?_
  obtain ⟨t, h, q⟩ := body A outer s H vs Q E room want
  exact ⟨t, h.nox, q⟩
theorem FunC.okG {x qual : Str} {st : Stmt} {f c : Addr} {fd : FuncData} {N ps : List Str} {k : Nat} {sp : Sp} (F : FunC K x qual st f fd c) (S : FnScope N ps (defScope st)) (len : ∀ vs H Q E, sp vs H Q E → vs.length = ps.length)
    (body : ∀ (A : Around) (outer : List Env) (s : Shared) (H : Hp) (vs : List V) (Q : VK) (E : XK), Clr A → Room k (A.deeper (envOfC qual (defScope st) s.heap.objs.size f (.ref c))) → sp vs H Q E →
      ∃ t, PSs (cxOf CX0 P w K mg base N qual (defScope st) f (.ref c) A outer s H E).nox (defBody st) t ∧ t { nx := fun _ H' => Q .non H', rt := Q } (start N vs) H) : FnG P w K mg base CX0 (k + 1) f fd ps sp := by
  obtain ⟨oc, od, kV, doc, pm, an, ct, osl, rfl, lk, code⟩ := F.ex
  refine ⟨len, fun A outer s H args us vs Q E clr room e0 binds rel want => ?_⟩
  have nps := len _ _ _ _ want
  have KX : K.In s.heap := e0.mod.kin.keeps fun b o e => (e0.bs b o e).1
  have lim : s.heap.NoLimit := e0.mod.nolimit.keeps fun b o e => (e0.bs b o e).1
  refine codeAny_call_function room.depth (KX _ _ lk) rfl S.co S.gen rfl (PySem.W.codeRec_of KX code) (binds _ _ _ _ (wpAny_newFunctionEnv_cells S.kind (fun y hy => ?_) fun env he s1 x => ?_))
  · obtain ⟨n, v⟩ := y
    exact (S.par n (List.of_mem_zip hy).1).elim .inl fun q => .inr ⟨q, PySem.W.cellsFrom_some _ _ _ (.inl q)⟩
  · subst he
    obtain ⟨t, term, q⟩ := body A outer s H vs Q E clr (room.deeper _) want
    have I : Inv (cxOf CX0 P w K mg base N qual (defScope st) f (.ref c) A outer s H E) [] (start N vs) H s1 := inv_start S room.hd e0 nps rel x
    refine ⟨lim.keeps x.toInCall.keep, codeAny_func (wpAny_mono (term.nox.run [] s1 (start N vs) H _ I q) (fun fl s' z => ?_) fun _ _ z => z)⟩
    match fl, z with
    | .ret u, ⟨v, _, H', J, rv, q⟩ => exact ⟨v, H', J.os, J.bare, J.base, J.hok, rv, q⟩
    | .next, ⟨_, H', J, q⟩ => exact ⟨.non, H', J.os, J.bare, J.base, J.hok, rfl, q⟩
    | .brk, ⟨_, _, _, q⟩ => exact q.elim
    | .cont, ⟨_, _, _, q⟩ => exact q.elim
end
section
variable {P : Program} {w : World} {K : PySem.W.Frag} {mg mb : Str → Option Value} {k : Nat} {fa a : Addr} {fd : FuncData} {x : Str} {sp : Sp} {s : Shared} {vs : List Value} {ns : List Int} {cs : List (Addr × Addr)}
/-- the code objects and their tables: empty, not of the written part -/
abbrev TabsIn (K : PySem.W.Frag) (h : Heap) (cs : List (Addr × Addr)) : Prop := ∀ p ∈ cs, PySem.W.CodeHd h p.1 p.2 ∧ h.get? p.2 = some (PySem.W.tabObj #[]) ∧ K.lookup p.2 = none
/-- the abstract heap at the law's entry: the tables, and the script, locked, or where it is the module's own the tables alone -/
structure EntT (K : PySem.W.Frag) (cs : List (Addr × Addr)) (a : Addr) (vs : List Value) (ns : List Int) (H : Hp) : Prop where
  tab : ∀ p ∈ cs, H p.2 = some (.tbl #[])
  dom : ∀ b u, H b = some u → (b = a ∧ u = .frz { cls := .type "list", data := .seq vs.toArray } (.lst (ns.map V.int))) ∨ ∃ p ∈ cs, b = p.2
  own : H a ≠ none → K.lookup a = none
theorem entT_run (KX : K.In s.heap) (hns : s.heap.Ns mainGlobals mg) (hb : s.heap.Ns builtinsNs mb) (hbb : ∀ y : Str, y ≠ "__name__" → mb y = bootBuiltins y) (lim : s.heap.NoLimit) (gens : s.gens = #[]) (ti : TabsIn K s.heap cs)
    (bmain : ∃ (bm : Addr) (ob : Obj), mg "__builtins__" = some (.ref bm) ∧ bm ≠ builtinsNs ∧ s.heap.get? bm = some ob ∧ ob.cls = .type "module" ∧ ob.dict = some builtinsNs ∧ ob.data = .plain)
    (oa : s.heap.get? a = some { cls := .type "list", data := .seq vs.toArray }) (rv : Vals (ns.map V.int) vs) (few : ns.length ≤ sizeLine) (room : Room k callerA)
    (F : ∀ base : Heap, K.In base → base.Ns mainGlobals mg → (∀ p ∈ cs, TabB base mg p.1 p.2) → FnG P w K mg base CX0 k fa fd [x] sp)
    (bind : ∀ (s : Shared) (u : Value), BindsTo s fd ⟨[u], []⟩ [(x, u)]) {H : Hp} (en : EntT K cs a vs ns H) (want : sp [.ref a] H (fun v _ => v = .bl true) fun _ _ _ => False) :
    codeAny (model P w) callerA (.call (.ref fa) ⟨[.ref a], []⟩) (fun r s' => r = .ok (.ret (.bool true)) ∧ OldK s.heap s'.heap ∧ s'.os = s.os ∧ AllBare s'.gens) s := by
  -- what is tracked: a list or a table
  have kinds : ∀ {b : Addr} {o : Obj}, s.heap.get? b = some o → H b ≠ none → o = { cls := .type "list", data := .seq vs.toArray } ∨ o = PySem.W.tabObj #[] := fun {b o} q n => by
    cases r : H b with
    | none => exact absurd r n
    | some u =>
      rcases en.dom b u r with ⟨rfl, _⟩ | ⟨p, hp, rfl⟩
      · rw [oa] at q
        exact .inl (Option.some.inj q).symm
      · rw [(ti p hp).2.1] at q
        exact .inr (Option.some.inj q).symm
  have loose : ∀ {b : Addr} {o : Obj}, s.heap.get? b = some o → (∀ vs n, o.data ≠ .seq vs n) → (o.data = .fields #[] → False) → H b = none := fun {b o} q h1 h2 => by
    refine Decidable.byContradiction fun n => ?_
    rcases kinds q n with e | e
    · exact h1 _ _ (by rw [e])
    · exact h2 (by rw [e])
  have seen : ∀ {b : Addr} {o : Obj}, s.heap.get? b = some o → H b = none → (hidT s.heap H).get? b = some o := fun q n => hidT_get q n
  have dict : ∀ {b : Addr} {o : Obj} {es : Array DictEntry} {ep : Nat}, s.heap.get? b = some o → o.data = .dict es ep → (hidT s.heap H).get? b = some o := fun q d => seen q (loose q (fun vs n z => nomatch d.symm.trans z) fun z => nomatch d.symm.trans z)
  have nsT : ∀ {b : Addr} {m : Str → Option Value}, s.heap.Ns b m → (hidT s.heap H).Ns b m := fun ⟨o, es, ep, q, d, r⟩ => ⟨o, es, ep, dict q d, d, r⟩
  have KT : K.In (hidT s.heap H) := fun b o q => seen (KX b o q) (Decidable.byContradiction fun n => by
    cases r : H b with
    | none => exact n r
    | some u =>
      rcases en.dom b u r with ⟨rfl, _⟩ | ⟨p, hp, rfl⟩
      · rw [en.own n] at q
        cases q
      · rw [(ti p hp).2.2] at q
        cases q)
  have isTab : ∀ b u, H b = some u → ∀ q, u = .tbl q → s.heap.get? b = some (PySem.W.tabObj #[]) ∧ q = #[] := fun b u r q e => by
    rcases en.dom b u r with ⟨_, z⟩ | ⟨p, hp, rfl⟩
    · rw [e] at z
      cases z
    · refine ⟨(ti p hp).2.1, ?_⟩
      have z := en.tab p hp
      rw [r, e] at z
      cases z
      rfl
  have ok : HOk P w H s.heap := fun b u r => by
    rcases en.dom b u r with ⟨rfl, rfl⟩ | ⟨p, hp, rfl⟩
    · exact ⟨oa, by rw [List.length_map]; exact few, vs, _, rv, oa⟩
    · rw [en.tab p hp] at r
      cases r
      exact (ti p hp).2.1
  have TB : ∀ p ∈ cs, TabB (hidT s.heap H) mg p.1 p.2 := fun p hp => by
    obtain ⟨C, tp, _⟩ := ti p hp
    refine ⟨?_, ?_, fun z => ?_⟩
    · obtain ⟨o, us, file, tf, flags, tg, inF, text, tt, e1, r1, r2, r3, r⟩ := C
      refine ⟨o, us, file, tf, flags, tg, inF, text, tt, seen e1 (loose e1 (fun vs n z => nomatch r2.symm.trans z) fun z => ?_), r1, r2, r3, r⟩
      have e := r2.symm.trans z
      cases e
      simp at r3
    · obtain ⟨bm, ob, b1, b2, b3, b4, b5, b6⟩ := bmain
      refine ⟨bm, ob, b1, b2, fun q => ?_, fun q => ?_, seen b3 (loose b3 (fun vs n z => nomatch b6.symm.trans z) fun z => nomatch b6.symm.trans z), b4, b5, b6⟩
      · obtain ⟨o, es, ep, e, hd, _⟩ := hns
        rw [q, e] at b3
        cases b3
        cases hd.symm.trans b6
      · rw [q, tp] at b3
        cases b3
        cases b6
    · obtain ⟨o, es, ep, e, hd, _⟩ := hns
      rw [z, tp] at e
      cases e
      cases hd
  have e0 : Env0 P w K mg (hidT s.heap H) callerA [] s H :=
    ⟨rfl, ⟨KT, nsT hns, ⟨mb, nsT hb, hbb⟩, let ⟨m, z1, z2⟩ := lim; ⟨m, nsT z1, z2⟩⟩, fun b o q => of_hidT q, Nat.le_of_eq (hidT_size _ _), trivial, fun b z => absurd (show b ∈ ([] : List Addr) from z) (by simp), ok, .of_eq gens⟩
  refine codeAny_mono ((F _ KT (nsT hns) TB).run callerA [] s H ⟨[.ref a], []⟩ [.ref a] [.ref a] _ _ rfl room e0 (bind s (.ref a)) (.cons rfl .nil) want) fun r s' z => ?_
  match r, z with
  | .error _, z => exact z.elim
  | .ok .next, z => exact z.elim
  | .ok .brk, z => exact z.elim
  | .ok .cont, z => exact z.elim
  | .ok (.ret u), ⟨v, H', os, bare, un, ok', rv', q⟩ =>
    obtain rfl : v = .bl true := q
    obtain rfl : u = Value.bool true := rv'
    -- an object stays, or is a table that has grown
    have way : ∀ b o, s.heap.get? b = some o → s'.heap.get? b = some o ∨ ∃ p ∈ cs, b = p.2 ∧ ∃ more : Array Value, s'.heap.get? b = some (PySem.W.tabObj more) := fun b o q => by
      cases r : H b with
      | none => exact .inl (un.keep b o q r (fun z => absurd (show b ∈ ([] : List Addr) from z) (by simp)) (by simp))
      | some u =>
        rcases en.dom b u r with ⟨rfl, rfl⟩ | ⟨p, hp, rfl⟩
        · have q1 := (ok b _ r).1
          rw [q] at q1
          cases q1
          exact .inl (ok' b _ (un.frzs b _ _ r)).1
        · obtain ⟨more, z⟩ := un.tbls p.2 #[] (en.tab p hp)
          exact .inr ⟨p, hp, rfl, _, ok' p.2 _ z⟩
    refine ⟨rfl, ⟨fun b o q => ?_, fun b o q => ?_⟩, os, bare⟩
    · rcases way b o q with z | ⟨p, hp, rfl, more, z⟩
      · exact .inl z
      · obtain ⟨C, tp, _⟩ := ti p hp
        rw [tp] at q
        cases q
        exact .inr (.inl ⟨(C.tab tp).isCodeTable, rfl, #[], more, rfl, by rw [Array.empty_append]; exact z⟩)
    · rcases way b o q with z | ⟨_, _, _, more, z⟩
      · exact ⟨o, z⟩
      · exact ⟨_, z⟩
end
/-- the law's promise with its tables -/
def LawTG (l : PySem.W.OpenLaw) (w : World) (K : PySem.W.Frag) (k n : Nat) (x : Str) (mg : Str → Option Value) (fa : Addr) (h : Heap) : Prop :=
  ∃ (fd : FuncData) (cs : List (Addr × Addr)) (sp : Sp), TabsIn K h cs ∧ (∀ (s : Shared) (u : Value), BindsTo s fd ⟨[u], []⟩ [(x, u)]) ∧
    (∀ (H : Hp) (a : Addr) (ns : List Int), ns.length ≤ n → (∀ p ∈ cs, H p.2 = some (.tbl #[])) → SqL K H a (ns.map V.int) → sp [.ref a] H (fun v _ => v = .bl true) fun _ _ _ => False) ∧
    ∀ base : Heap, K.In base → base.Ns mainGlobals mg → (∀ p ∈ cs, TabB base mg p.1 p.2) → FnG l.prog w K mg base CX0 k fa fd [x] sp
/-- what the head tells of a def's table -/
abbrev TabsOf (q : Program) (K : PySem.W.Frag) (h : Heap) : Prop := ∀ (y : Str) (c P : Addr), ((recsOf q).find? (fun e => e.name == y)).isSome = true → PySem.W.tabIn K y = some (c, P) → PySem.W.CodeHd h c P ∧ h.get? P = some (PySem.W.tabObj #[])
/-- the goal behind the head, from such a promise -/
theorem walk_tabG {l : PySem.W.OpenLaw} {n k : Nat} {q : Program} {loose : List Str} {XP : (Str → Option Value) → Heap → Prop} {YP : World → Heap → Prop} {d : DefRec} {K : Params → PySem.W.Frag} {x : Str}
    (most : l.most = some n) (few : n ≤ sizeLine) (nodf : d.params.defaults = []) (room : Room k callerA) (hY : ∀ (w : World) (h : Heap), YP w h → (K w.params).In h)
    (F : ∀ (w : World) (mg : Str → Option Value) (fa : Addr) (h : Heap), (K w.params).In h → h.Ns mainGlobals mg → mg d.name = some (.ref fa) → TabsOf q (K w.params) h → XP mg h → LawTG l w (K w.params) k n x mg fa h) :
    PySem.W.WalkO q loose XP YP l.row.toRowW d [] (fun f vs => PySem.call f vs) :=
  Att.attach_call most nodf fun w _ s mg mb fa _ _ _ _ a vs ns G Y _ _ _ hmg hobj hints hlen hg => by
    have KX := hY w _ Y
    obtain ⟨fd, cs, sp, ti, bind, hsp, hF⟩ := F w mg fa _ KX G.T.g hmg (fun y c P hr ht => let ⟨d', hd⟩ := Option.isSome_iff_exists.mp hr; PySem.W.tab_of G.T KX hd ht) G.X
    have rv := vals_ints hints
    have len := hints.length
    have tne : ∀ p ∈ cs, p.2 ≠ a := fun p hp z => by
      have e := (ti p hp).2.1
      rw [z, hobj] at e
      cases e
    cases own : (K w.params).lookup a with
    | some o =>
      have e := KX a o own
      rw [hobj] at e
      cases e
      obtain ⟨H, eH⟩ : ∃ H : Hp, H = fun b => if b ∈ cs.map (·.2) then some (.tbl #[]) else none := ⟨_, rfl⟩
      have inT : ∀ p ∈ cs, H p.2 = some (.tbl #[]) := fun p hp => by
        rw [eH]
        exact if_pos (List.mem_map.mpr ⟨p, hp, rfl⟩)
      have outT : ∀ b, b ∉ cs.map (·.2) → H b = none := fun b n => by
        rw [eH]
        exact if_neg n
      have na : a ∉ cs.map (·.2) := fun m => by
        obtain ⟨p, hp, e⟩ := List.mem_map.mp m
        exact tne p hp e
      refine entT_run KX G.T.g G.T.b G.T.builtins G.T.nolimit hg ti G.T.bmain hobj rv (Nat.le_trans hlen few) room hF bind (H := H) ⟨inT, fun b u r => .inr ?_, fun z => absurd (outT a na) z⟩
        (hsp H a ns hlen inT (.inr ⟨_, vs.toArray, _, own, rfl, rfl, rfl, by rw [List.size_toArray, len]; exact Nat.le_trans hlen few, by simpa using rv⟩))
      refine Decidable.byContradiction fun n => ?_
      rw [outT b fun m => n (let ⟨p, hp, e⟩ := List.mem_map.mp m; ⟨p, hp, e.symm⟩)] at r
      cases r
    | none =>
      obtain ⟨H, eH⟩ : ∃ H : Hp, H = fun b => if b = a then some (.frz { cls := .type "list", data := .seq vs.toArray } (.lst (ns.map V.int))) else if b ∈ cs.map (·.2) then some (.tbl #[]) else none := ⟨_, rfl⟩
      have atA : H a = some (.frz { cls := .type "list", data := .seq vs.toArray } (.lst (ns.map V.int))) := by rw [eH]; exact if_pos rfl
      have inT : ∀ p ∈ cs, H p.2 = some (.tbl #[]) := fun p hp => by
        rw [eH]
        exact (if_neg (tne p hp)).trans (if_pos (List.mem_map.mpr ⟨p, hp, rfl⟩))
      refine entT_run KX G.T.g G.T.b G.T.builtins G.T.nolimit hg ti G.T.bmain hobj rv (Nat.le_trans hlen few) room hF bind (H := H) ⟨inT, fun b u r => ?_, fun _ => own⟩ (hsp H a ns hlen inT (.inl (.inr ⟨_, atA⟩)))
      by_cases n : b = a
      · subst n
        rw [atA] at r
        exact .inl ⟨rfl, (Option.some.inj r).symm⟩
      · refine .inr (Decidable.byContradiction fun m => ?_)
        rw [eH] at r
        have r' := (if_neg n).symm.trans r
        rw [if_neg fun z => m (let ⟨p, hp, e⟩ := List.mem_map.mp z; ⟨p, hp, e.symm⟩)] at r'
        cases r'
end L2


/-! Own: a lambda handed to a def that calls it in a try: what is raised is wished for at the caller's very slots (the library's rule asks it for all slots). -/
namespace L2
open PySem PySem.Spec PyProof.Rows LamX
section
variable {X : Cx} {pins : List (Addr × Obj)} {σ : St} {H : Hp} {s : Shared}
theorem pe_actS {CXg : CXT} {Eg : XK} {Ng : List Str} {qg : Str} {sg : Scope} {g f c' : Addr} {cdg pm ctv : Value} {params : Arguments} {body : Expr} {scope : Scope} {k i : Nat} {a : Str} {pn : List (Addr × Obj)} {xe : Value → Shared → Prop} {W : WX} {tb : XK → TE} {p1 p2 : Pos}
    (I : Inv X pins σ H s) (L : LamS X.env.scope scope) (here : s.heap.get? f = some (PySem.W.kla_obj "<lambda>" (X.env.qual ++ "<lambda>") params body scope (cloFrom X.env.cells scope.names []) pm c' ctv)) (fno : H f = none) (ffr : f ∉ frs X.stack)
    (bd : bindArgs (PySem.W.kla_fn "<lambda>" (X.env.qual ++ "<lambda>") params body scope (cloFrom X.env.cells scope.names []) pm (.ref c') ctv) ⟨[], []⟩ = pure []) (tk : Takes ((cxOf CXg X.prog X.w X.K X.mg X.base Ng qg sg g cdg X.A X.stack s H Eg).tr pn xe) W)
    (room : Room (k + 1) (X.A.deeper (envOfC qg sg s.heap.objs.size g cdg))) (walk : ∀ (A : Around) (outer : List Env) (s : Shared) (H : Hp) (E : XK), Room k (A.deeper (lamEnv X scope s.heap.objs.size f c')) → PE (lamCx X A outer s H E scope f c') body (tb E))
    (hN : Ng[i]? = some a) (hv : Vis sg a) (hd : (a == ("__debug__" : Str)) = false := by decide) (hcd : (a == ("__classdict__" : Str)) = false := by decide) :
    PE ((cxOf CXg X.prog X.w X.K X.mg X.base Ng qg sg g cdg X.A X.stack s H Eg).tr pn xe) (.Call (.Name a p1) [] [] p2)
      (fun τ HZ Q => ∃ (Ech : XK) (Qn : VK), (∀ cls d H', Ech cls d H' → W cls d τ H') ∧ (∀ v H', Qn v H' → Q v H') ∧ τ[i]? = some (some (.ref f)) ∧ HZ c' = some (CodeO c' (X.env.qual ++ "<lambda>")) ∧ tb Ech σ HZ Qn) := by
  constructor
  intro pz sz τ HZ Q IZ ⟨Ech, Qn, imp, impQ, slot, code, want⟩
  refine wpAny_Call_Name_kw (thn ((pe_var (pos := p1) (i := i) hN hv hd hcd).run pz sz τ HZ (fun v H1 => v = .ref f ∧ H1 = HZ) IZ ⟨.ref f, slot, rfl, rfl⟩) fun u s1 ⟨v, H1, I1, r1, ev, eH⟩ => ?_)
  subst ev
  subst eH
  cases (show u = Value.ref f from r1)
  have still : s1.heap.get? f = some (PySem.W.kla_obj "<lambda>" (X.env.qual ++ "<lambda>") params body scope (cloFrom X.env.cells scope.names []) pm c' ctv) := I1.base.keep f _ here fno ffr (by simp [cxOf, Cx.tr])
  have grown : Un (frs X.stack) [] H H1 s.heap s1.heap := I1.base
  obtain ⟨⟨oc, ws, t, e1, e2, e3⟩, _, _⟩ := I1.hok c' _ code
  refine PySem.W.callWith_F0 ⟨_, _, _, _, still⟩ (wpAny_call (codeAny_mono (R := CR (L2.CX X.prog X.w) (envOfC qg sg s.heap.objs.size g cdg :: X.stack) X.prog X.w H1 s1 Qn Ech) ?_ fun r s' z => ?_))
  · show codeAny _ _ (.call (.ref f) ⟨[], []⟩) _ s1
    refine PySem.W.kla_callFunE room.depth still rfl L.co L.gen rfl ⟨c', oc, ws, t, rfl, e1, e2, e3⟩ ?_
    rw [bd]
    refine wpAny_pure (wpAny_newFunctionEnv (fun y hy => (L.own y hy).2) (fun y hy => absurd hy (by simp)) (fun h₁ ns sb => ⟨I1.nolimit.fresh _ sb, ?_⟩) L.kind)
    have kp : ∀ b o, s1.heap.get? b = some o → h₁.get? b = some o := fun b o e => sb.extBut b o (Nat.ne_of_lt (Heap.lt_size e)) (Heap.get?_push_of_some _ e)
    have J : Inv (lamCx X (X.A.deeper (envOfC qg sg s.heap.objs.size g cdg)) (envOfC qg sg s.heap.objs.size g cdg :: X.stack) s1 H1 Ech scope f c') [] σ H1 { s1 with heap := h₁, toks := s1.toks + ([] : List (Str × Value)).length } := lam_start2 I L I1.env0 room.hd grown ns kp
    exact PySem.W.kla_codeExpr (wpAny_mono ((walk _ _ s1 H1 _ (room.deeper _)).run [] _ _ H1 Qn J want) (fun v s' ⟨w, H', J', rv, q⟩ => ⟨w, H', J'.os, J'.bare, J'.base, J'.hok, rv, q⟩) fun _ _ z => z)
  · match r, z with
    | .error e, z => exact tk e s' (XE.of_call I1 (fun cls d H' h => imp cls d H' h) z)
    | .ok (.ret u), z =>
      obtain ⟨v, H2, J2, rv, q⟩ := I1.after z
      exact ⟨v, H2, J2, rv, impQ v H2 q⟩
    | .ok .next, z => exact z.elim
    | .ok .brk, z => exact z.elim
    | .ok .cont, z => exact z.elim
end
/-- the def that calls what it got, in its slot 0 -/
def GivesS (X : Cx) (Ng : List Str) (x : Str) (sg : Scope) (g : Addr) (cdg : Value) (bg : List Stmt) (a : Str) (q : Str) (TT : (XK → Hp → VK → Prop) → Hp → VK → Prop) : Prop :=
  ∀ (f c' : Addr) (s : Shared) (H : Hp) (Q : VK) (tl : XK → Hp → VK → Prop),
    (∀ (W : WX) (pn : List (Addr × Obj)) (xe : Value → Shared → Prop) (p1 p2 : Pos), Takes ((cxOf C8.CX0 X.prog X.w X.K X.mg X.base Ng x sg g cdg X.A X.stack s H C8.E0).tr pn xe) W →
      PE ((cxOf C8.CX0 X.prog X.w X.K X.mg X.base Ng x sg g cdg X.A X.stack s H C8.E0).tr pn xe) (.Call (.Name a p1) [] [] p2) (fun τ HZ Q => ∃ (Ech : XK) (Qn : VK), (∀ cls d H', Ech cls d H' → W cls d τ H') ∧ (∀ v H', Qn v H' → Q v H') ∧ τ[0]? = some (some (.ref f)) ∧ HZ c' = some (CodeO c' q) ∧ tl Ech HZ Qn)) →
    H c' = some (CodeO c' q) → TT tl H Q → ∃ t, PSs (cxOf C8.CX0 X.prog X.w X.K X.mg X.base Ng x sg g cdg X.A X.stack s H C8.E0).nox bg t ∧ t { nx := fun _ H' => Q .non H', rt := Q } (L2.start Ng [.ref f]) H
/-- x(lambda: body), x such a def -/
theorem pe_lamS {X : Cx} {T : List (Addr × Str)} {TT : (XK → Hp → VK → Prop) → Hp → VK → Prop} {x a : Str} {g c P : Addr} {k : Nat} {st : Stmt} {fd : FuncData} {Ng : List Str} {params : Arguments} {body : Expr} {scope : Scope} {t : XK → TE} {p lpos pos : Pos} (hg : Gl X x) (hm : X.mg x = some (.ref g))
    (F : Fun X.K x x st g fd) (hb : Binds X.K fd [a] []) (Sg : FnScope Ng [a] (defScope st)) (hNg : Ng[0]? = some a) (hva : Vis (defScope st) a) (gives : ∀ cdg, GivesS X Ng x (defScope st) g cdg (defBody st) a (X.env.qual ++ "<lambda>") TT)
    (TB : TabB X.base X.mg c P) (code : X.env.code = .ref c) (mT : (P, X.env.qual ++ "<lambda>") ∈ T) (uT : ∀ p ∈ T, p.1 = P → p.2 = X.env.qual ++ "<lambda>") (room : Room (k + 2) X.A) (L : LamS X.env.scope scope) (dfl : defaultsOf params X.env = ([], []))
    (bd : ∀ (q : Str) (cl : List (Str × Addr)) (pm cv ctv : Value), bindArgs (PySem.W.kla_fn "<lambda>" q params body scope cl pm cv ctv) ⟨[], []⟩ = pure [])
    (walk : ∀ (A : Around) (outer : List Env) (s : Shared) (H : Hp) (E : XK) (f c' : Addr), Room k (A.deeper (lamEnv X scope s.heap.objs.size f c')) → PE (lamCx X A outer s H E scope f c') body (t E))
    (hdb : (x == ("__debug__" : Str)) = false := by decide) (hd : (a == ("__debug__" : Str)) = false := by decide) (hcd : (a == ("__classdict__" : Str)) = false := by decide) : PE X (.Call (.Name x p) [.Lambda params body scope lpos] [] pos) (tLam T TT t) := by
  constructor
  intro pins s σ H Q I ⟨hT, want⟩
  refine wpAny_Call_Name_kw (ld_glob I hg hm ?_ hdb)
  refine PySem.W.callWith_K (h₀ := X.base) I.ok.mod.kin F.kp (pos := pos) ?_ (by rfl) (by rfl)
  show wpAny _ _ (spliced ((false, eval (.Lambda params body scope lpos) X.env) :: backTo pos (starEach [] X.env))) _ _ s
  refine Calls.spliced_cons (lam_make2 I TB code mT uT hT dfl (L.has I.ok) fun f c' pm' ctv H1 s' I1 eN T1 of fn fr co => Calls.spliced_nil ⟨I1.kIn, wpAny_call (codeAny_mono (R := CR C8.CX0 X.stack X.prog X.w H1 s' Q C8.E0) ?_ fun r s2 z => ?_)⟩)
  · obtain ⟨oc, od, kV, doc, pm, an, cdv, ct, osl, rfl, lk, cin⟩ := F.ex
    refine run_ofS (N := Ng) (ps := [a]) (us := [.ref f]) (vs := [.ref f]) lk cin Sg room I1.env0 (hb s' [.ref f] I1.kIn rfl) (.cons rfl .nil) rfl fun room' => ?_
    obtain ⟨t', term, q⟩ := gives cdv f c' s' H1 Q (fun E H' Q' => t E σ H' Q') (fun W pn xe p1 p2 tk => pe_actS (i := 0) I1 L of fn fr (bd _ _ _ _ _) tk room' (fun A outer s H E hr2 => walk A outer s H E f c' hr2) hNg hva hd hcd) co (want H1 eN T1)
    exact ⟨t', term.nox, q⟩
  · match r, z with
    | .error e, z => exact (show False from z).elim
    | .ok (.ret u), z => exact I1.after z
    | .ok .next, z => exact z.elim
    | .ok .brk, z => exact z.elim
    | .ok .cont, z => exact z.elim
end L2


/-! what stands while a law with lambdas draws (cut from K18P) -/
namespace FT
open PySem L2 TL ClX LiI LamX
/-- an object that is no table and none of one's own kind -/
def Solid (H : Hp) (b : Addr) : Prop := ∃ u, H b = some u ∧ (∀ ps, u ≠ .tbl ps) ∧ ∀ φ, u ≠ .ext φ
theorem Tabs.kx {T : List (Addr × Str)} {Z : List Addr} {H H' : Hp} (k : KeepX Z H H') (hz : ∀ b ∈ Z, Solid H b) (tb : Tabs T H) : Tabs T H' := fun p hp => by
  obtain ⟨ps, e1, e2, e3⟩ := tb p hp
  have off : ∀ {b : Addr} {o : HO}, H b = some o → ((∃ ps, o = .tbl ps) ∨ ∃ φ, o = .ext φ) → H' b = some o := fun {b o} e n => k _ _ (fun m => by
    obtain ⟨u, h1, h2, h3⟩ := hz b m
    rw [e] at h1
    cases h1
    rcases n with ⟨ps, n⟩ | ⟨φ, n⟩
    · exact h2 ps n
    · exact h3 φ n) e
  refine ⟨ps, off e1 (.inl ⟨ps, rfl⟩), e2, fun pos cv hc => ?_⟩
  obtain ⟨c', q1, q2⟩ := e3 pos cv hc
  exact ⟨c', q1, off q2 (.inr ⟨_, rfl⟩)⟩
theorem DrawB.ext {H H' : Hp} {d l i : Addr} {b : Int} (k : ExtN H H') (x : DrawB H d l i b) : DrawB H' d l i b := by
  obtain ⟨lf, tn, lg, it, a1, a2, a3, r⟩ := x
  exact ⟨lf, tn, lg, it, k _ _ a1 (by intro _ z; cases z), k _ _ a2 (by intro _ z; cases z), k _ _ a3 (by intro _ z; cases z), r⟩
theorem DrawB.solid {H : Hp} {d l i : Addr} {b : Int} (x : DrawB H d l i b) : Solid H d ∧ Solid H l ∧ Solid H i := by
  obtain ⟨lf, tn, lg, it, a1, a2, a3, _⟩ := x
  exact ⟨⟨_, a1, (by intro _ z; cases z), (by intro _ z; cases z)⟩, ⟨_, a2, (by intro _ z; cases z), (by intro _ z; cases z)⟩, ⟨_, a3, (by intro _ z; cases z), (by intro _ z; cases z)⟩⟩
theorem Solid.some {H : Hp} {b : Addr} (h : Solid H b) : ∃ u, H b = some u := let ⟨u, e, _⟩ := h; ⟨u, e⟩
theorem IsDat.ext {K : PySem.W.Frag} {H H' : Hp} {v : V} {T : String} (k : ExtN H H') (d : Dat K H v T) : Dat K H' v T := by
  cases d with
  | non => exact .non
  | bl b => exact .bl b
  | int i => exact .int i
  | str z => exact .str z
  | lst h => exact .lst (k _ _ h (by intro _ z; cases z))
  | tup h => exact .tup (k _ _ h (by intro _ z; cases z))
  | dct h => exact .dct (k _ _ h (by intro _ z; cases z))
theorem SzM.ext {K : PySem.W.Frag} {H H' : Hp} {m : Nat} {sv : V} {o : Option (List (Key × V))} (k : ExtN H H') (h : SzM K H m sv o) : SzM K H' m sv o := by
  rcases h with h | ⟨e, b, rows, e1, e2, e3⟩
  · cases o with
    | none => exact let ⟨T, d, n⟩ := h; .inl ⟨T, IsDat.ext k d, n⟩
    | some kvs => exact let ⟨q, e, h, a⟩ := h; .inl ⟨q, e, k _ _ h (by intro _ z; cases z), fun p hp => let ⟨T, d⟩ := a p hp; ⟨T, IsDat.ext k d⟩⟩
  · exact .inr ⟨e, b, rows, e1, k _ _ e2 (by intro _ z; cases z), e3⟩
theorem FAt.extS {CF x : Addr} {H H' : Hp} {ts : List (Str × Str)} (k : ExtN H H') (h : FAt CF H x ts) : FAt CF H' x ts := let ⟨dx, dq, e1, e2⟩ := h; ⟨dx, dq, k _ _ e1 (by intro _ z; cases z), k _ _ e2 (by intro _ z; cases z)⟩
theorem FAt.drawS {CF : Addr} {H H' : Hp} {d l i x : Addr} {b : Int} {ts : List (Str × Str)} (w : DrawB H d l i b) (k : KeepX [d, l] H H') (h : FAt CF H x ts) : FAt CF H' x ts := by
  obtain ⟨dx, q, e1, e2⟩ := h
  have o2 := w.off_prs e2
  obtain ⟨lf, tn, lg, it, a1, a2, a3, _⟩ := w
  exact ⟨dx, q, kx_at k e1 (ne_of e1 a1 (by intro z; cases z)) (ne_of e1 a2 (by intro z; cases z)), kx_at k e2 o2.1 o2.2.1⟩
/-- the draws, the lambdas, the parents, the forest -/
structure S23 (T : List (Addr × Str)) (CF d l i q x : Addr) (t ts : List (Str × Str)) (b : Int) (H : Hp) : Prop where
  dr : DrawB H d l i b
  tb : Tabs T H
  hq : H q = some (.dK (prs t))
  fa : FAt CF H x ts
section
variable {T : List (Addr × Str)} {CF d l i q x : Addr} {t ts : List (Str × Str)} {b : Int} {H H' : Hp}
theorem S23.more {b' : Int} (s : S23 T CF d l i q x t ts b H) (h : b ≤ b') : S23 T CF d l i q x t ts b' H := ⟨s.dr.more h, s.tb, s.hq, s.fa⟩
theorem S23.same (s : S23 T CF d l i q x t ts b H) (k : Same H H') : S23 T CF d l i q x t ts b H' := ⟨s.dr.mono k, s.tb.ext k, k _ _ s.hq, s.fa.mono k⟩
theorem S23.ext (s : S23 T CF d l i q x t ts b H) (k : ExtN H H') (tb : Tabs T H') : S23 T CF d l i q x t ts b H' := ⟨s.dr.ext k, tb, k _ _ s.hq (by intro _ z; cases z), s.fa.extS k⟩
theorem S23.draw {b' : Int} (s : S23 T CF d l i q x t ts b H) (k : KeepX [d, l] H H') (dr : DrawB H' d l i b') : S23 T CF d l i q x t ts b' H' := by
  have qd := s.dr.off_prs s.hq
  have sd := s.dr.solid
  refine ⟨dr, Tabs.kx k (fun c hc => ?_) s.tb, k _ _ (by simp [qd.1, qd.2.1]) s.hq, s.fa.drawS s.dr k⟩
  simp only [List.mem_cons, List.not_mem_nil, or_false] at hc
  rcases hc with rfl | rfl
  · exact sd.1
  · exact sd.2.1
end
end FT


/-! objects that stand while a law goes on (cut from K28P) -/
namespace FT
open PySem L2 TL ClX LiI LamX
/-- objects that stand, off the state of drawing -/
structure Kept (T : List (Addr × Str)) (d l i : Addr) (L : List (Addr × HO)) (b : Int) (H : Hp) : Prop where
  dr : DrawB H d l i b
  tb : Tabs T H
  at_ : ∀ e ∈ L, H e.1 = some e.2
  off : ∀ e ∈ L, e.1 ≠ d ∧ e.1 ≠ l
  so : ∀ e ∈ L, ∀ ps, e.2 ≠ .tbl ps
section
variable {T : List (Addr × Str)} {d l i : Addr} {L : List (Addr × HO)} {b : Int} {H H' : Hp}
theorem Kept.more {b' : Int} (s : Kept T d l i L b H) (h : b ≤ b') : Kept T d l i L b' H := { s with dr := s.dr.more h }
theorem Kept.same (s : Kept T d l i L b H) (k : Same H H') : Kept T d l i L b H' := ⟨s.dr.mono k, s.tb.ext k, fun e he => k _ _ (s.at_ e he), s.off, s.so⟩
theorem Kept.ext (s : Kept T d l i L b H) (k : ExtN H H') (tb : Tabs T H') : Kept T d l i L b H' := ⟨s.dr.ext k, tb, fun e he => k _ _ (s.at_ e he) (s.so e he), s.off, s.so⟩
theorem Kept.draw {b' : Int} (s : Kept T d l i L b H) (k : KeepX [d, l] H H') (dr : DrawB H' d l i b') : Kept T d l i L b' H' := by
  have sd := s.dr.solid
  refine ⟨dr, Tabs.kx k (fun c hc => ?_) s.tb, fun e he => k _ _ (by simp [(s.off e he).1, (s.off e he).2]) (s.at_ e he), s.off, s.so⟩
  simp only [List.mem_cons, List.not_mem_nil, or_false] at hc
  rcases hc with rfl | rfl
  · exact sd.1
  · exact sd.2.1
/-- one object more, made anew -/
theorem Kept.add {a : Addr} {o : HO} (s : Kept T d l i L b H) (h : H a = some o) (n1 : a ≠ d) (n2 : a ≠ l) (ns : ∀ ps, o ≠ .tbl ps) : Kept T d l i ((a, o) :: L) b H :=
  ⟨s.dr, s.tb, fun e he => (List.mem_cons.mp he).elim (fun z => by rw [z]; exact h) (s.at_ e), fun e he => (List.mem_cons.mp he).elim (fun z => by rw [z]; exact ⟨n1, n2⟩) (s.off e), fun e he => (List.mem_cons.mp he).elim (fun z => by rw [z]; exact ns) (s.so e)⟩
end
theorem Kept.sub {T : List (Addr × Str)} {d l i : Addr} {L L' : List (Addr × HO)} {b : Int} {H : Hp} (s : Kept T d l i L b H) (h : ∀ e ∈ L', e ∈ L) : Kept T d l i L' b H := ⟨s.dr, s.tb, fun e he => s.at_ e (h e he), fun e he => s.off e (h e he), fun e he => s.so e (h e he)⟩
theorem DrawB.off_ins {H : Hp} {d l i p C dx : Addr} {b : Int} {fs : List (Str × V)} (x : DrawB H d l i b) (hp : H p = some (.ins C dx fs)) : p ≠ d ∧ p ≠ l := by
  obtain ⟨lf, tn, lg, it, a1, a2, _⟩ := x
  exact ⟨ne_of hp a1 (by intro z; cases z), ne_of hp a2 (by intro z; cases z)⟩
end FT


/-! Assignment: forest, total, sizes, users_of, at -/
namespace FT
open PySem L2 TL ClX LiI
/-- the numbers below n with a mark -/
def selU (n : Nat) (c : Nat → Bool) : List Int := ((List.range n).filter c).map fun i : Nat => (i : Int)
def atC (zs : List Str) (p : Str) (i : Nat) : Bool := decide (zs[i]? = some p)
def hasC (ts : List (Str × Str)) (zs : List Str) (a : Str) (i : Nat) : Bool := match zs[i]? with
  | some z => decide (a ∈ pathOf ts z)
  | none => false
/-- the users at a place; those that have a flag; how many -/
def atU (zs : List Str) (p : Str) : List Int := selU zs.length (atC zs p)
def hasU (ts : List (Str × Str)) (zs : List Str) (a : Str) : List Int := selU zs.length (hasC ts zs a)
def szZ (ts : List (Str × Str)) (zs : List Str) (a : Str) : Int := ((zs.filter fun z => decide (a ∈ pathOf ts z)).length : Int)
def spAForest (CA : Addr) : Sp := fun vs H Q _ => ∃ (y x : Addr) (zs : List Str), vs = [.ref y] ∧ AAt CA H y x zs ∧ Q (.ref x) H
def spATotal (CA : Addr) : Sp := fun vs H Q _ => ∃ (y x : Addr) (zs : List Str), vs = [.ref y] ∧ AAt CA H y x zs ∧ Q (.int (zs.length : Int)) H
def spSizesOf (CF : Addr) : Sp := fun vs H Q _ => ∃ (x l : Addr) (ts : List (Str × Str)) (zs : List Str), vs = [.ref x, .ref l] ∧ FAt CF H x ts ∧ TreeOk ts ∧ H l = some (.lst (zs.map V.str)) ∧ (∀ z ∈ zs, Pl ts z) ∧
  ∀ (p : Addr) (H' : Hp), Same H H' → H p = none → H' p = some (.dK (tblI (ts.map Prod.fst) (szZ ts zs))) → Q (.ref p) H'
def spASizes (CF CA : Addr) : Sp := fun vs H Q _ => ∃ (y x : Addr) (ts : List (Str × Str)) (zs : List Str), vs = [.ref y] ∧ AAt CA H y x zs ∧ FAt CF H x ts ∧ TreeOk ts ∧ (∀ z ∈ zs, Pl ts z) ∧
  ∀ (p : Addr) (H' : Hp), Same H H' → H p = none → H' p = some (.dK (tblI (ts.map Prod.fst) (szZ ts zs))) → Q (.ref p) H'
def spAAt (CF CA : Addr) : Sp := fun vs H Q _ => ∃ (y x : Addr) (ts : List (Str × Str)) (zs : List Str) (a : Str), vs = [.ref y, .str a] ∧ AAt CA H y x zs ∧ FAt CF H x ts ∧ TreeOk ts ∧ zs.length ≤ 1000 ∧ Pl ts a ∧
  ∀ (p : Addr) (H' : Hp), Same H H' → H p = none → H' p = some (.lst ((atU zs a).map V.int)) → Q (.ref p) H'
def spAUsers (CF CA : Addr) : Sp := fun vs H Q _ => ∃ (y x : Addr) (ts : List (Str × Str)) (zs : List Str) (a : Str), vs = [.ref y, .str a] ∧ AAt CA H y x zs ∧ FAt CF H x ts ∧ TreeOk ts ∧ (∀ z ∈ zs, Pl ts z) ∧ zs.length ≤ 1000 ∧ a ∈ ts.map Prod.fst ∧
  ∀ (p : Addr) (H' : Hp), Same H H' → H p = none → H' p = some (.lst ((hasU ts zs a).map V.int)) → Q (.ref p) H'
def spNeedFl (CF : Addr) : Sp := fun vs H Q _ => ∃ (x : Addr) (ts : List (Str × Str)) (a : Str), vs = [.ref x, .str a] ∧ FAt CF H x ts ∧ TreeOk ts ∧ a ∈ ts.map Prod.fst ∧ Q .non H
section
variable {P : Program} {w : World} {K : PySem.W.Frag} {mg : Str → Option Value} {base : Heap}
abbrev NSo : List Str := ["forest", "places", "name", "found", "place"]
end
end FT


/-! Assignment.at -/
namespace FT
open PySem L2 TL ClX LiI
section
variable {P : Program} {w : World} {K : PySem.W.Frag} {mg : Str → Option Value} {base : Heap}
abbrev NAt : List Str := ["self", "place", "user", "other"]
end
end FT


/-! lists of texts as data, for == and !=. -/
namespace FT
open PySem L2 TL
theorem dps_strs {K : PySem.W.Frag} {H : Hp} : ∀ ts : List Str, DpAll K H (ts.map V.str) (ts.map PyData.str)
  | [] => .nil
  | t :: ts => .cons (.str t) (dps_strs ts)
theorem strs_lay : ∀ {ts : List Str}, (∀ t ∈ ts, PyData.strOk t = true) → PyData.canLayAll0 (ts.map PyData.str) = true ∧ PyData.depthAll (ts.map PyData.str) ≤ 0
  | [], _ => ⟨rfl, Nat.le_refl _⟩
  | t :: ts, h => by
    obtain ⟨h1, h2⟩ := strs_lay (ts := ts) fun b hb => h b (List.mem_cons_of_mem _ hb)
    constructor
    · show (PyData.strOk t && PyData.canLayAll0 (ts.map PyData.str)) = true
      rw [h t (List.mem_cons_self ..), h1] <;> rfl
    · show max 0 (PyData.depthAll (ts.map PyData.str)) ≤ 0
      omega
theorem strs_shaped {ts : List Str} (h : ∀ t ∈ ts, PyData.strOk t = true) : SeqAt.shaped (.list (ts.map PyData.str)) = true := by
  obtain ⟨h1, h2⟩ := strs_lay h
  unfold SeqAt.shaped
  have c : (PyData.list (ts.map PyData.str)).canLay0 = true := h1
  rw [c]
  have d : (PyData.list (ts.map PyData.str)).depth ≤ 64 := by
    show PyData.depthAll (ts.map PyData.str) + 1 ≤ 64
    omega
  rw [decide_eq_true d] <;> rfl
end FT


/-! Own: repr of a dict whose values are data without dicts. -/
namespace L2
open PySem PySem.Spec PyProof.Rows
def kD : Key → PyData
  | .inl i => .int i
  | .inr x => .str x
/-- an entry: the key, the value, the value as data -/
abbrev EntD := Key × V × PyData
abbrev dcD (es : List EntD) : PyData := .dict (es.map fun e => (kD e.1, e.2.2))
def rReprD (K : PySem.W.Frag) : List V → Hp → VK → Prop := fun xs H Q => ∃ (a : Addr) (es : List EntD), xs = [.ref a] ∧ H a = some (.dK (es.map fun e => (e.1, e.2.1))) ∧ (∀ e ∈ es, Dp K H e.2.1 e.2.2 ∧ e.2.2.hasDict = false) ∧
  (dcD es).showable = true ∧ (dcD es).depth ≤ 60 ∧ (dcD es).shown.length ≤ sizeLine ∧ Q (.str (dcD es).shown) H
section
variable {X : Cx} {pins : List (Addr × Obj)} {σ : St} {H : Hp} {s : Shared}
end
end L2


/-! the text of a dict of sizes -/
namespace FT
open PySem L2 TL ClX LiI
def szEn (l : List Str) (s : Str → Int) : List EntD := l.map fun p => (Sum.inr p, V.int (s p), .int (s p))
def szKv (l : List Str) (s : Str → Int) : List (PyData × PyData) := l.map fun p => (PyData.str p, .int (s p))
theorem szEn_D (l : List Str) (s : Str → Int) : dcD (szEn l s) = .dict (szKv l s) := by
  unfold dcD szEn szKv
  rw [List.map_map] <;> rfl
theorem szEn_kv (l : List Str) (s : Str → Int) : ((szEn l s).map fun e => (e.1, e.2.1)) = tblI l s := by
  unfold szEn tblI kvT
  rw [List.map_map, List.map_map] <;> rfl
theorem str_leafI {z : Str} (h : PyData.strOk z = true) : PyData.leavesShort 8 (.str z) = true := by
  unfold PyData.leavesShort
  rw [List.all_eq_true]
  unfold PyData.strOk at h
  intro c hc
  have h := Array.all_eq_true_iff_forall_mem.mp h c (Array.mem_toList_iff.mp hc)
  have h := of_decide_eq_true h
  exact decide_eq_true (by omega)
end FT


/-! xs.count(y), flat items -/
namespace L2
open PySem PySem.Spec PyProof.Rows
theorem countP_eqU {x : V} : ∀ {xs : List V} {us : List Value}, Vals xs us → xs.all flatV = true → us.countP (eqU x) = xs.countP fun y => eqV y x
  | _, _, .nil, _ => rfl
  | y :: xs, u :: us, .cons r t, f => by
    rw [List.all_cons, Bool.and_eq_true] at f
    rw [List.countP_cons, List.countP_cons, countP_eqU t f.2, eqU_of r f.1]
def rCntF (K : PySem.W.Frag) : V → List V → Hp → VK → Prop := fun x xs H Q => ∃ (a : Addr) (ys : List V) (y : V), x = .ref a ∧ xs = [y] ∧ SqL K H a ys ∧ flatV y = true ∧ ys.all flatV = true ∧ Q (.int ((ys.countP fun z => eqV z y : Nat) : Int)) H
variable {X : Cx}
theorem mt_countF : MtR X "list.count" (rCntF X.K) := by
  intro pins s σ H x xs v us Q I rx rxs ⟨a, ys, y, ex, exs, hs, fy, fys, q⟩
  subst ex
  subst exs
  cases rx
  match us, rxs with
  | [uy], .cons ry .nil =>
    obtain ⟨its, rv, ⟨⟨cls, dd, data, sl⟩, n, ho, hc, hdn, hd⟩, hlen⟩ := I.list hs
    simp only at hc hd
    subst hc hd
    refine call_meets PySem.F.slot_list_count ⟨_, ho, rfl⟩ PySem.F.entry_list_count (PySem.F.args_list_count_2 _ _)
      (SeqAt.list_countAt a its.toArray n dd sl uy (eqU y)) ⟨ho, fun u hu => mem_eqAt ry fy rv fys u (by simpa using hu), ?_⟩
    refine ⟨.int ((ys.countP fun z => eqV z y : Nat) : Int), H, I.tok _, ⟨s.toks, ?_⟩, q⟩
    show Value.int ((its.toArray.toList.countP (eqU y) : Nat) : Int) s.toks = Value.int ((ys.countP fun z => eqV z y : Nat) : Int) s.toks
    rw [show its.toArray.toList = its from rfl, countP_eqU rv fys]
end L2


/-! _law_result: what it makes of a lambda -/
namespace FT
open PySem L2 TL ClX LamX NdefX
abbrev lamQ (x : Str) : Str := x ++ ".<locals>." ++ "<lambda>"
structure Ge (K : PySem.W.Frag) (mg : Str → Option Value) (x : Str) (st : Stmt) (f : Addr) (fd : FuncData) : Prop where
  fn : Fun K x x st f fd
  bn : Binds K fd ["_law_work"] []
  mgn : mg x = some (.ref f)
def cnR (i : Nat) : Str := (["InvalidSizes", "UnknownName", "InvalidUsers", "InvalidLists", "NeedsMemory", "InvalidLimits", "TooMany"] : List Str).getD i ""
def wdR (i : Nat) : Str := (["sizes", "name", "users", "lists", "memory", "limits", "many"] : List Str).getD i ""
def flR (i : Nat) : Option Str := ([some ("place" : Str), some ("name" : Str), none, none, none, some ("name" : Str), some ("most" : Str)] : List (Option Str)).getD i none
/-- the attribute that is told -/
def FldR (H : Hp) (d : Option Addr) (v : V) : Option Str → Prop
  | some f => ∃ dd, d = some dd ∧ H dd = some (.xd [(f, v)])
  | none => v = .non ∧ (d = none ∨ ∃ dd fs, d = some dd ∧ H dd = some (.xd fs))
def TRes (C : Nat → Addr) : (XK → Hp → VK → Prop) → Hp → VK → Prop := fun tl H Q =>
  ∀ H1, Same H H1 → tl (fun cls d H' => ∃ i v, i < 7 ∧ cls = .ref (C i) ∧ FldR H' d v (flR i) ∧ ∀ p H'', Same H' H'' → H' p = none → H'' p = some (.tup [.str (wdR i), v]) → Q (.ref p) H'') H1
    fun v H' => ∀ p H'', Same H' H'' → H' p = none → H'' p = some (.tup [.str "value", v]) → Q (.ref p) H''
structure Cl7 (K : PySem.W.Frag) (mg : Str → Option Value) (R : Addr) (C : Nat → Addr) : Prop where
  gR : mg "RolloutError" = some (.ref R)
  g : ∀ i, i < 7 → mg (cnR i) = some (.ref (C i))
  x : ∀ i, i < 7 → XCls K (C i)
  kit : ∀ i j, i < 7 → j < 7 → PySem.W.kitOne K (.ref (C i)) (.ref (C j)) = some (decide (i = j))
  kitV : ∀ i, i < 7 → PySem.W.kitOne K (.ref (C i)) (.type "ValueError") = some true
  te : ∀ i, i < 7 → PySem.W.exmOne K (.ref (C i)) (.ref R) = some true
  no : ∀ i f, i < 7 → flR i = some f → PySem.W.findIn K (.ref (C i)) f = some none
theorem XV_monoR {H H' : Hp} {a C : Addr} {fs : List (Str × V)} (s : Same H H') (x : XV H a C fs) : XV H' a C fs := by
  rcases x with ⟨x, e⟩ | ⟨dx, x, y⟩
  · exact .inl ⟨x.elim (fun q => .inl (s _ _ q)) (fun q => .inr (s _ _ q)), e⟩
  · exact .inr ⟨dx, x.elim (fun q => .inl (s _ _ q)) (fun q => .inr (s _ _ q)), y.elim (fun q => .inl (s _ _ q)) (fun q => .inr (s _ _ q))⟩
def marks7 (i : Nat) : List V := (List.range 7).map fun j => .bl (decide (i = j))
theorem upTo7 {Pr : Nat → Prop} (h0 : Pr 0) (h1 : Pr 1) (h2 : Pr 2) (h3 : Pr 3) (h4 : Pr 4) (h5 : Pr 5) (h6 : Pr 6) : ∀ i, i < 7 → Pr i := by
  intro i hi
  match i, hi with
  | 0, _ => exact h0
  | 1, _ => exact h1
  | 2, _ => exact h2
  | 3, _ => exact h3
  | 4, _ => exact h4
  | 5, _ => exact h5
  | 6, _ => exact h6
theorem marks7_flat (i : Nat) : (marks7 i).all flatV = true := rfl
theorem marks7_count : ∀ i, i < 7 → (marks7 i).countP (fun z => eqV z (.bl true)) = 1 := upTo7 rfl rfl rfl rfl rfl rfl rfl
theorem marks7_get (i : Nat) : ∀ m, m < 7 → (marks7 i)[m]? = some (.bl (decide (i = m))) := upTo7 rfl rfl rfl rfl rfl rfl rfl
theorem marks7_at : ∀ i, i < 7 → (marks7 i)[i]? = some (.bl true) ∧ ∀ (m : Nat) (z' : V), m < i → (marks7 i)[m]? = some z' → eqV z' (.bl true) = false := fun i hi => by
  refine ⟨by rw [marks7_get i i hi, decide_eq_true rfl], fun m z' lt h => ?_⟩
  rw [marks7_get i m (by omega), decide_eq_false (by omega)] at h
  cases h
  rfl
/-- [..] + [..]: the second list new -/
theorem cat_segR {H : Hp} {l : Addr} {xs ys : List V} {Q : VK} (hl : H l = some (.lst xs)) (few : xs.length + ys.length ≤ 1000) (k : ∀ p H', Same H H' → H p = none → H' p = some (.lst (xs ++ ys)) → Q (.ref p) H') :
    ys.length ≤ sizeLine ∧ ∀ q, H q = none → rCat (.ref l) (.ref q) (upd H q (.lst ys)) Q := by
  have big : 1000 ≤ sizeLine := by decide
  refine ⟨by omega, fun q nq => ⟨l, q, xs, ys, rfl, rfl, by rw [upd_ne (ne_of_none hl nq)]; exact hl, upd_same, by omega, fun p np => ?_⟩⟩
  have s1 := same_new (o := .lst ys) nq
  exact k p _ (s1.trans (same_new np)) (s1.free np) upd_same
abbrev NRs : List Str := ["_law_work", "_law_error", "_law_result_here", "e", "_law_marks"]
theorem scRs : FnScope NRs ["_law_work"] (defScope s__law_result) := ⟨rfl, rfl, rfl, by decide +kernel, rfl, by decide +kernel, by decide +kernel⟩
theorem isi_rdR {K : PySem.W.Frag} {σ : St} {H : Hp} {a Ci D : Addr} {fs : List (Str × V)} {b : Bool} {Q : VK} (h0 : σ[1]? = some (some (.ref a))) (X : XCls K Ci) (xv : XV H a Ci fs) (kit : PySem.W.kitOne K (.ref Ci) (.ref D) = some b) (q : Q (.bl b) H) :
    tCB (rIsX K) (tCons (tVar 1) (tCons (tC (.ref D)) tNil)) σ H Q := ⟨_, h0, a, Ci, fs, .ref D, _, b, rfl, .own _, X, xv, kit, q⟩
theorem result_gives {X : Cx} {g R : Addr} {C : Nat → Addr} {cdg : Value} {q : Str} (N : Nm X.mg) (L : Cl7 X.K X.mg R C) : GivesS X NRs "_law_result" (defScope s__law_result) g cdg (defBody s__law_result) "_law_work" q (TRes C) := by
  intro f c' s H Q tl act hc h
  refine ⟨_, pss_cons (ps_asg (pe_tup (pa_cons pe_non (pa_cons pe_non pa_nil))) (pg_tup rfl (pgs_cons (pg_name (i := 1) scRs.nd rfl (.inl rfl)) (pgs_cons (pg_name (i := 2) scRs.nd rfl (.inl rfl)) pgs_nil))))
    (pss_cons (ps_try_keep (X := (cxOf C8.CX0 X.prog X.w X.K X.mg X.base NRs "_law_result" (defScope s__law_result) g cdg X.A X.stack s H C8.E0).nox) (c := .ref R) (i := 3)
      rfl rfl rfl scRs.nd rfl rfl ⟨rfl, by decide, .inl L.gR⟩ LamX.takes0 (fun W pn xe tk _ => pss_one (ps_set (i := 2) scRs.nd rfl (.inl rfl) (act W pn xe _ _ tk))) (fun a oe cls d pn hz hf => pss_one (ps_set (i := 1) scRs.nd rfl (.inl rfl) (pv 3))))
    (pss_cons (ps_if (pt_cmpR op_isN (pv 1) pe_non (nomark _)) (pss_one (ps_ret (pe_tup (pa_cons pe_str (pa_cons (pv 2) pa_nil))))) pss_nil)
    (pss_cons (ps_set (i := 4) scRs.nd rfl (.inl rfl) (pe_lst (pa_cons (pe_callB call_isX (by rfl) N.isi (by decide +kernel) (pa_cons (pv 1) (pa_cons (pe_glob (v := .ref (C 0)) rfl (L.g 0 (by decide)) rfl) pa_nil))) (pa_cons (pe_callB call_isX (by rfl) N.isi (by decide +kernel) (pa_cons (pv 1) (pa_cons (pe_glob (v := .ref (C 1)) rfl (L.g 1 (by decide)) rfl) pa_nil)))
      (pa_cons (pe_callB call_isX (by rfl) N.isi (by decide +kernel) (pa_cons (pv 1) (pa_cons (pe_glob (v := .ref (C 2)) rfl (L.g 2 (by decide)) rfl) pa_nil))) pa_nil)))))
    (pss_cons (ps_set (i := 4) scRs.nd rfl (.inl rfl) (pe_op op_cat (pv 4) (pe_lst (pa_cons (pe_callB call_isX (by rfl) N.isi (by decide +kernel) (pa_cons (pv 1) (pa_cons (pe_glob (v := .ref (C 3)) rfl (L.g 3 (by decide)) rfl) pa_nil))) (pa_cons (pe_callB call_isX (by rfl) N.isi (by decide +kernel) (pa_cons (pv 1) (pa_cons (pe_glob (v := .ref (C 4)) rfl (L.g 4 (by decide)) rfl) pa_nil)))
      (pa_cons (pe_callB call_isX (by rfl) N.isi (by decide +kernel) (pa_cons (pv 1) (pa_cons (pe_glob (v := .ref (C 5)) rfl (L.g 5 (by decide)) rfl) pa_nil))) pa_nil))))))
    (pss_cons (ps_expr (pe_bm PySem.F.plainAttrs_list PySem.F.slot_list_append PySem.F.type_list_append mt_append (pv 4) (pa_cons (pe_callB call_isX (by rfl) N.isi (by decide +kernel) (pa_cons (pv 1) (pa_cons (pe_glob (v := .ref (C 6)) rfl (L.g 6 (by decide)) rfl) pa_nil))) pa_nil)))
    (pss_cons (ps_if (PW.pt (pw_or (pt_cmpR op_ne (pe_bm PySem.F.plainAttrs_list PySem.F.slot_list_count PySem.F.type_list_count mt_countF (pv 4) (pa_cons pe_bl pa_nil)) pe_int (nomark _)) (pw_or1 (pt_not (pt_val (pe_callB call_isX (by rfl) N.isi (by decide +kernel) (pa_cons (pv 1) (pa_cons (pe_bltn (v := .ty "ValueError") (u := .type "ValueError") (by rfl) N.vE (by decide +kernel) rfl) pa_nil)))))))) (pss_one (ps_ret (pe_tup (pa_cons pe_str (pa_cons pe_non pa_nil))))) pss_nil)
    (pss_cons (ps_if (pt_val (pe_ix ix_list (pv 4) pe_int (fun _ _ => rfl))) (pss_one (ps_ret (pe_tup (pa_cons pe_str (pa_cons (pe_xfld (pv 1)) pa_nil))))) pss_nil)
    (pss_cons (ps_if (pt_val (pe_ix ix_list (pv 4) pe_int (fun _ _ => rfl))) (pss_one (ps_ret (pe_tup (pa_cons pe_str (pa_cons (pe_xfld (pv 1)) pa_nil))))) pss_nil)
    (pss_cons (ps_if (pt_val (pe_ix ix_list (pv 4) pe_int (fun _ _ => rfl))) (pss_one (ps_ret (pe_tup (pa_cons pe_str (pa_cons (pe_xfld (pv 1)) pa_nil))))) pss_nil)
    (pss_cons (ps_if (pt_val (pe_ix ix_list (pv 4) pe_int (fun _ _ => rfl))) (pss_one (ps_ret (pe_tup (pa_cons pe_str (pa_cons (pe_xfld (pv 1)) pa_nil))))) pss_nil)
    (pss_one (ps_ret (pe_tup (pa_cons (pe_ix ix_list (pe_lst (pa_cons pe_str (pa_cons pe_str (pa_cons pe_str (pa_cons pe_str (pa_cons pe_str pa_nil)))))) (pe_bm PySem.F.plainAttrs_list PySem.F.slot_list_index PySem.F.type_list_index mt_index (pv 4) (pa_cons pe_bl pa_nil)) (fun _ _ => rfl)) (pa_cons pe_non pa_nil))))))))))))))), ?_⟩
  have big : 1000 ≤ sizeLine := by decide
  refine ⟨by show 2 ≤ sizeLine; omega, fun p0 np0 => ?_⟩
  have s0 := same_new (o := .tup [.non, .non]) np0
  refine ⟨p0, [.non, .non], rfl, .inl (.inl upd_same), rfl, _, _, rfl, _, _, rfl, rfl, ?_⟩
  refine ⟨_, _, fun cls d H' z => ?_, fun v H' z => ?_, rfl, s0 _ _ hc, h _ s0⟩
  · obtain ⟨i, v, hi, rfl, hd, k⟩ := z
    refine ⟨true, C i, rfl, L.te i hi, fun _ a ha => ⟨_, rfl, ?_⟩, fun z => nomatch z⟩
    obtain ⟨H2, e2⟩ : ∃ X, X = upd H' a (exg a (C i) d) := ⟨_, rfl⟩
    have s2 : Same H' H2 := e2 ▸ same_new ha
    obtain ⟨fs, xv, hfs⟩ : ∃ fs, XV H2 a (C i) fs ∧ ∀ f, flR i = some f → fs.lookup f = some v := by
      cases ef : flR i with
      | some f =>
        rw [ef] at hd
        obtain ⟨dd, rfl, hdd⟩ := hd
        refine ⟨[(f, v)], .inr ⟨dd, .inr (by rw [e2]; exact upd_same), .inr (s2 _ _ hdd)⟩, fun f' e => ?_⟩
        rw [← Option.some.inj e]
        simp [List.lookup]
      | none =>
        rw [ef] at hd
        obtain ⟨_, hd⟩ := hd
        rcases hd with rfl | ⟨dd, fs, rfl, hdd⟩
        · exact ⟨[], .inl ⟨.inr (by rw [e2]; exact upd_same), rfl⟩, fun f' e => by cases e⟩
        · exact ⟨fs, .inr ⟨dd, .inr (by rw [e2]; exact upd_same), .inr (s2 _ _ hdd)⟩, fun f' e => by cases e⟩
    subst e2
    have Xi := L.x i hi
    refine ⟨_, rfl, rfl, _, rfl, iteF ?_⟩
    refine isi_rdR rfl Xi xv (L.kit i 0 hi (by decide)) (isi_rdR rfl Xi xv (L.kit i 1 hi (by decide)) (isi_rdR rfl Xi xv (L.kit i 2 hi (by decide)) ⟨by show 3 ≤ sizeLine; omega, fun p1 n1 => ?_⟩))
    have s3 := same_new (o := .lst ([.bl (decide (i = 0)), .bl (decide (i = 1)), .bl (decide (i = 2))] : List V)) n1
    have a3 := upd_same (H := upd H' a (exg a (C i) d)) (a := p1) (o := .lst ([.bl (decide (i = 0)), .bl (decide (i = 1)), .bl (decide (i = 2))] : List V))
    have xv3 := XV_monoR s3 xv
    refine ⟨_, rfl, isi_rdR rfl Xi xv3 (L.kit i 3 hi (by decide)) (isi_rdR rfl Xi xv3 (L.kit i 4 hi (by decide)) (isi_rdR rfl Xi xv3 (L.kit i 5 hi (by decide)) (cat_segR a3 (by show 3 + 3 ≤ 1000; omega) fun p2 H4 s4 n2 a4 => ?_)))⟩
    have xv4 := XV_monoR s4 xv3
    have s04 : Same H' H4 := (s2.trans s3).trans s4
    refine ⟨_, rfl, .inl ⟨rfl, _, SqL.of a4⟩, isi_rdR rfl Xi xv4 (L.kit i 6 hi (by decide)) ⟨p2, _, _, rfl, rfl, a4, (by show 6 < sizeLine; omega), ?_⟩⟩
    obtain ⟨H5, e5⟩ : ∃ X, X = upd H4 p2 (.lst (marks7 i)) := ⟨_, rfl⟩
    have a5 : H5 p2 = some (.lst (marks7 i)) := by rw [e5]; exact upd_same
    have s05 : Same H' H5 := by
      rw [e5]
      exact s04.put ((s2.trans s3).free n2)
    have xv5 : XV H5 a (C i) fs := by
      have off : ∀ {b : Addr} {u : HO}, H4 b = some u → (∀ xs, u ≠ .lst xs) → H5 b = some u := fun {b u} e n => by
        rw [e5, upd_ne fun z => by rw [z, a4] at e; exact n _ (Option.some.inj e).symm]
        exact e
      rcases xv4 with ⟨x, e⟩ | ⟨dx, x, y⟩
      · exact .inl ⟨x.elim (fun q => .inl (off q fun xs z => by cases z)) (fun q => .inr (off q fun xs z => by cases z)), e⟩
      · exact .inr ⟨dx, x.elim (fun q => .inl (off q fun xs z => by cases z)) (fun q => .inr (off q fun xs z => by cases z)), y.elim (fun q => .inl (off q fun xs z => by cases z)) (fun q => .inr (off q fun xs z => by cases z))⟩
    show (_ : St → Hp → Prop) _ (upd H4 p2 (.lst (marks7 i)))
    rw [← e5]
    refine ⟨_, rfl, .inl ⟨rfl, _, SqL.of a5⟩, p2, marks7 i, .bl true, rfl, rfl, SqL.of a5, rfl, marks7_flat i, rfl, _, rfl, ?_⟩
    rw [marks7_count i hi]
    refine iteF ?_
    refine ⟨_, rfl, a, C i, fs, .ty "ValueError", .type "ValueError", true, rfl, .ty _, Xi, xv5, L.kitV i hi, true, rfl, iteF ?_⟩
    have tell : ∀ r, H5 r = none → Q (.ref r) (upd H5 r (.tup [.str (wdR i), v])) := fun r nr => k r _ (s05.trans (same_new nr)) (s05.free nr) upd_same
    by_cases i0 : i = 0
    · subst i0
      exact ⟨_, rfl, p2, marks7 0, 0, .bl true, rfl, rfl, SqL.of a5, atI_nat (j := 0) rfl, true, rfl, iteT ⟨_, rfl, a, C 0, fs, v, rfl, xv5, Xi, L.no 0 _ hi rfl, hfs _ rfl, by show 2 ≤ sizeLine; omega, tell⟩⟩
    refine ⟨_, rfl, p2, marks7 i, 0, .bl (decide (i = 0)), rfl, rfl, SqL.of a5, atI_nat (j := 0) (marks7_get i 0 (by decide)), _, rfl, ?_⟩
    rw [decide_eq_false i0]
    refine iteF ?_
    by_cases i1 : i = 1
    · subst i1
      exact ⟨_, rfl, p2, marks7 1, 1, .bl true, rfl, rfl, SqL.of a5, atI_nat (j := 1) rfl, true, rfl, iteT ⟨_, rfl, a, C 1, fs, v, rfl, xv5, Xi, L.no 1 _ hi rfl, hfs _ rfl, by show 2 ≤ sizeLine; omega, tell⟩⟩
    refine ⟨_, rfl, p2, marks7 i, 1, .bl (decide (i = 1)), rfl, rfl, SqL.of a5, atI_nat (j := 1) (marks7_get i 1 (by decide)), _, rfl, ?_⟩
    rw [decide_eq_false i1]
    refine iteF ?_
    by_cases i5 : i = 5
    · subst i5
      exact ⟨_, rfl, p2, marks7 5, 5, .bl true, rfl, rfl, SqL.of a5, atI_nat (j := 5) rfl, true, rfl, iteT ⟨_, rfl, a, C 5, fs, v, rfl, xv5, Xi, L.no 5 _ hi rfl, hfs _ rfl, by show 2 ≤ sizeLine; omega, tell⟩⟩
    refine ⟨_, rfl, p2, marks7 i, 5, .bl (decide (i = 5)), rfl, rfl, SqL.of a5, atI_nat (j := 5) (marks7_get i 5 (by decide)), _, rfl, ?_⟩
    rw [decide_eq_false i5]
    refine iteF ?_
    by_cases i6 : i = 6
    · subst i6
      exact ⟨_, rfl, p2, marks7 6, 6, .bl true, rfl, rfl, SqL.of a5, atI_nat (j := 6) rfl, true, rfl, iteT ⟨_, rfl, a, C 6, fs, v, rfl, xv5, Xi, L.no 6 _ hi rfl, hfs _ rfl, by show 2 ≤ sizeLine; omega, tell⟩⟩
    refine ⟨_, rfl, p2, marks7 i, 6, .bl (decide (i = 6)), rfl, rfl, SqL.of a5, atI_nat (j := 6) (marks7_get i 6 (by decide)), _, rfl, ?_⟩
    rw [decide_eq_false i6]
    refine iteF ?_
    refine ⟨by show 5 ≤ sizeLine; omega, fun pl npl => ?_⟩
    have s6 : Same H5 (upd H5 pl (.lst [.str "", .str "", .str "users", .str "lists", .str "memory"])) := same_new npl
    obtain ⟨m1, m2⟩ := marks7_at i hi
    have three : i = 2 ∨ i = 3 ∨ i = 4 := by omega
    have vn : v = .non := by
      rcases three with rfl | rfl | rfl <;> exact hd.1
    subst vn
    have wd : ([V.str "", .str "", .str "users", .str "lists", .str "memory"] : List V)[i]? = some (.str (wdR i)) := by
      rcases three with rfl | rfl | rfl <;> rfl
    refine ⟨_, rfl, .inl ⟨rfl, _, SqL.of (s6 _ _ a5)⟩, p2, marks7 i, .bl true, i, .bl true, rfl, rfl, SqL.of (s6 _ _ a5), rfl, marks7_flat i, m1, rfl, m2, ?_⟩
    refine ⟨pl, _, _, .str (wdR i), rfl, rfl, SqL.of upd_same, atI_nat wd, by show 2 ≤ sizeLine; omega, fun r nr => ?_⟩
    exact k r _ ((s05.trans s6).trans (same_new nr)) ((s05.trans s6).free nr) upd_same
  · refine ⟨_, rfl, rfl, _, rfl, iteT ⟨_, rfl, by show 2 ≤ sizeLine; omega, fun p np => z p _ (same_new np) np upd_same⟩⟩
end FT


/-! what is told of sizes (cut from K28Q) -/
namespace FT
open PySem L2 TL ClX LiI LamX
theorem feas_val28 {ts : List (Str × Str)} {n : Int} {o : Option (List (Key × V))} {v : V} (h : feas ts n o = some v) : v = .non ∨ ∃ a, Pl ts a ∧ v = .str a := by
  cases o with
  | none => exact .inl (Option.some.inj h).symm
  | some kvs =>
    rw [feas_some] at h
    by_cases c1 : kvs.length ≠ ts.length
    · rw [if_pos c1] at h
      exact .inl (Option.some.inj h).symm
    · rw [if_neg c1] at h
      by_cases c2 : (ts.map Prod.fst).all (fun a => (valV kvs (Sum.inr a)).isSome) = false
      · rw [if_pos c2] at h
        exact .inl (Option.some.inj h).symm
      · rw [if_neg c2] at h
        cases e : (ts.map Prod.fst).find? (badKey kvs) with
        | some a =>
          rw [e] at h
          exact .inr ⟨a, .inr (List.mem_of_find?_eq_some e), (Option.some.inj h).symm⟩
        | none =>
          rw [e] at h
          obtain ⟨a, ha, e2⟩ := Option.map_eq_some_iff.mp h
          exact .inr ⟨a, (List.mem_cons.mp (List.mem_of_find?_eq_some ha)), e2.symm⟩
/-- a told pair of a short word and a place, or None, has a repr -/
theorem told_shwW {K : PySem.W.Frag} {ts : List (Str × Str)} (o : TreeOk ts) {wd : Str} (w8 : wd.length ≤ 8) (wok : PyData.strOk wd = true) {v : V} (h : v = .non ∨ ∃ a, Pl ts a ∧ v = .str a) : ∃ dv : PyData, (∀ H r, H r = some (.tup [.str wd, v]) → Shw K H (.ref r) (.tuple [.str wd, dv])) ∧ (PyData.tuple [.str wd, dv]).showable = true ∧ (PyData.tuple [.str wd, dv]).depth ≤ 60 ∧ (PyData.tuple [.str wd, dv]).shown.length ≤ sizeLine := by
  have ew : wd.cps.size = wd.length := rfl
  rcases h with rfl | ⟨a, pa, rfl⟩
  · refine ⟨.none, fun H r e => .inl ⟨.tup (SqT.of e) (.cons (.str _) (.cons .non .nil)), rfl⟩, rfl, by show max 0 (max 0 0) + 1 ≤ 60; decide, ?_⟩
    refine PyData.shown_fits_bulk (B := 8) (by decide) (by decide) ?_ ?_
    · show (PyData.leavesShort 8 (.str wd) && (PyData.leavesShort 8 .none && true)) = true
      rw [str_leafI wok] <;> rfl
    · have c0 : PyData.bulk PyData.none ≤ 100 := by decide +kernel
      show (wd.cps.size + 1 + (_ + 0)) ≤ 2 ^ 20
      omega
  · refine ⟨.str a, fun H r e => .inl ⟨.tup (SqT.of e) (.cons (.str _) (.cons (.str _) .nil)), rfl⟩, rfl, by show max 0 (max 0 0) + 1 ≤ 60; decide, ?_⟩
    have so : PyData.strOk a = true := by
      rcases pa with e | m
      · rw [e]; decide +kernel
      · exact strOk_name (o.nm a m)
    have la : a.length ≤ 8 := by
      rcases pa with e | m
      · rw [e]; decide +kernel
      · exact (o.nm a m).len.2
    refine PyData.shown_fits_bulk (B := 8) (by decide) (by decide) ?_ ?_
    · show (PyData.leavesShort 8 (.str wd) && (PyData.leavesShort 8 (.str a) && true)) = true
      rw [str_leafI so, str_leafI wok] <;> rfl
    · show (wd.cps.size + 1 + (a.cps.size + 1 + 0)) ≤ 2 ^ 20
      have : a.cps.size = a.length := rfl
      omega
end FT


/-! need_limits -/
namespace FT
open PySem L2 TL ClX
def badLim (kvs : List (Key × V)) (a : Str) : Bool := match valV kvs (Sum.inr a) with
  | some v => !isGe v 1
  | none => true
/-- which error limits have: none, or what it names -/
def lims (ts : List (Str × Str)) : Option (List (Key × V)) → Option V
  | none => some .non
  | some kvs => if kvs.length ≠ ts.length then some .non else if (ts.map Prod.fst).all (fun a => (valV kvs (Sum.inr a)).isSome) = false then some .non else ((ts.map Prod.fst).find? (badLim kvs)).map V.str
theorem lims_some (ts : List (Str × Str)) (kvs : List (Key × V)) : lims ts (some kvs) = if kvs.length ≠ ts.length then some .non else if (ts.map Prod.fst).all (fun a => (valV kvs (Sum.inr a)).isSome) = false then some .non else ((ts.map Prod.fst).find? (badLim kvs)).map V.str := rfl
def liE (CL : Addr) (ts : List (Str × Str)) (o : Option (List (Key × V))) : Option Err := (lims ts o).map fun v => .e1 CL "name" v
def spLim0 (K : PySem.W.Frag) (CF CL : Addr) : Sp := fun vs H Q E => ∃ (x : Addr) (sv : V) (ts : List (Str × Str)) (o : Option (List (Key × V))), vs = [.ref x, sv] ∧ FAt CF H x ts ∧ TreeOk ts ∧ SzV K H sv o ∧ Res H Q E (liE CL ts o)
def spLimR (CF CL : Addr) : Sp := fun vs H _ E => ∃ (x b : Addr) (ts : List (Str × Str)) (rows : List (V × V)), vs = [.ref x, .ref b] ∧ FAt CF H x ts ∧ TreeOk ts ∧ H b = some (RawO b rows) ∧ rows.length ≠ ts.length ∧ Out H E (.e1 CL "name" .non)
def spLim (K : PySem.W.Frag) (CF CL : Addr) : Sp := fun vs H Q E => spLim0 K CF CL vs H Q E ∨ spLimR CF CL vs H Q E
def spLimZ (K : PySem.W.Frag) (CF CL : Addr) : Sp := fun vs H Q E => ∃ (x : Addr) (sv : V) (ts : List (Str × Str)) (o : Option (List (Key × V))), vs = [.ref x, sv] ∧ FAt CF H x ts ∧ TreeOk ts ∧ SzM K H ts.length sv o ∧ Res H Q E (liE CL ts o)
theorem spLimZ_imp {K : PySem.W.Frag} {CF CL : Addr} : ∀ vs H Q E, spLimZ K CF CL vs H Q E → spLim K CF CL vs H Q E := by
  rintro vs H Q E ⟨x, sv, ts, o, rfl, fa, to, hz, k⟩
  rcases hz with hz | ⟨rfl, b, rows, rfl, hb, ne⟩
  · exact .inl ⟨x, sv, ts, o, rfl, fa, to, hz, k⟩
  · exact .inr ⟨x, b, ts, rows, rfl, fa, to, hb, ne, k⟩
section
variable {P : Program} {w : World} {K : PySem.W.Frag} {mg : Str → Option Value} {base : Heap}
abbrev NLi2 : List Str := ["forest", "limits", "name"]
theorem scLi2 : FnScope NLi2 ["forest", "limits"] (defScope s_need_limits) := ⟨rfl, rfl, rfl, by decide +kernel, rfl, by decide +kernel, by decide +kernel⟩
theorem ok_lim0 {f fI CF CL IL p1 g1 : Addr} {fd fdI dL fd1 : FuncData} (F : Fun K "need_limits" "need_limits" s_need_limits f fd) (T : Nm mg) (O : FoC K CF) (S : Er1 P w K mg base "InvalidLimits" "name" CL IL dL)
    (I : Dn P w K mg base CX0 1 "is_integer" ["value", "least"] (spIsInt K) fI fdI) (L1 : Pr1 P w K mg base CF "flags" (spFFlags CF) p1 g1 fd1) :
    FnOk P w K mg base (L2.CX P w) 3 f fd ["forest", "limits"] (spLim0 K CF CL) := by
  refine F.okX scLi2 (fun vs H Q E h => ?_) (fun cdv A outer s H vs Q E hr h => ?_)
  · obtain ⟨x, sv, ts, o, rfl, _⟩ := h
    rfl
  · obtain ⟨x, sv, ts, so, rfl, fa, o, hz, k⟩ := h
    have hu := hu_of hr
    have hr2 : Room 2 _ := hr.mono (by decide)
    have big : 1000 ≤ sizeLine := by decide
    have few := o.few
    refine ⟨_, pss_cons (ps_if (PW.pt (pw_or (pt_not (pt_val (pe_callB call_isi (by rfl) T.isi (by decide +kernel) (pa_cons (pv 1) (pa_cons (pe_bltn (v := .ty "dict") (u := .type "dict") (by rfl) T.dct (by decide +kernel) rfl) pa_nil)))))
        (pw_or1 (pt_cmpR op_ne (pe_callB call_lenD (by rfl) T.len PySem.boot_len (pa_cons (pv 1) pa_nil)) (pe_callB call_len_seq (by rfl) T.len PySem.boot_len (pa_cons (pe_prop (pv 0) O.cl L1.pr L1.fn hr2 L1.bn .nil pass0 (by rfl)) pa_nil)) (nomark _)))))
        (pss_one (ps_err1 S rfl (takes_of rfl rfl rfl rfl) hr2 rfl pe_non)) pss_nil)
      (pss_cons (ps_if (pt_not (pt_val (pe_callB (cr_all rfl) (by rfl) T.all (by decide +kernel) (pa_cons (pe_lc (own := [("name", 2)]) (g := gName 2) (tt := tYes) rfl scLi2.nd (pi_list (pe_prop (pv 0) O.cl L1.pr L1.fn hr2 L1.bn .nil pass0 (by rfl)))
          (blkOk_by (N := NLi2) (sc := defScope s_need_limits) (by decide +kernel))
          (fun _ _ _ _ _ => pg_name (i := 2) scLi2.nd rfl (Or.inl rfl)) (fun _ _ _ _ _ => pts_nil) (fun _ _ _ _ _ => pe_cmp (pc_din hu (pv 2) (pv 1)) rfl)) pa_nil))))
        (pss_one (ps_err1 S rfl (takes_of rfl rfl rfl rfl) hr2 rfl pe_non)) pss_nil)
      (pss_one (ps_for (passes_of rfl) rfl (pi_list (pe_prop (pv 0) O.cl L1.pr L1.fn hr2 L1.bn .nil pass0 (by rfl))) (pg_name (i := 2) scLi2.nd rfl (.inl rfl))
        (pss_one (ps_if (pt_not (pt_val (pe_call I.ok (hr.mono (by decide)) rfl I.mgn I.kp I.bn .nil pass0 (pa_cons (pe_dget hu (pv 1) (pv 2) (fun _ _ => rfl)) (pa_cons pe_int pa_nil))))) (pss_one (ps_err1 S rfl (takes_of rfl rfl rfl rfl) hr2 rfl (pv 2))) pss_nil))))), ?_⟩
    obtain ⟨dx, dq, hx, hd⟩ := id fa
    cases so with
    | none =>
      obtain ⟨t, d, nd⟩ := hz
      refine ⟨_, rfl, sv, _, _, _, _, rfl, .ty _, d.ty, d.dict_, _, rfl, ?_⟩
      rw [decide_eq_false nd]
      show if true = true then _ else _
      rw [if_pos rfl]
      exact iteT (out1 k Same.refl)
    | some kvs =>
      obtain ⟨q, rfl, hq, dat⟩ := hz
      refine ⟨_, rfl, .ref q, _, _, _, _, rfl, .ty _, (Dat.dct (K := K) hq).ty, (Dat.dct (K := K) hq).dict_, _, rfl, ?_⟩
      rw [decide_eq_true rfl]
      refine iteF ?_
      refine ⟨_, rfl, q, kvs, rfl, hq, ?_⟩
      refine ⟨_, rfl, x, dx, _, rfl, hx, x, ts, rfl, fa, fun pf nf => ⟨pf, _, rfl, .inl (SqL.of upd_same), rfl, _, rfl, ?_⟩⟩
      rw [List.length_map, List.length_map, len_int]
      have s1 := same_new (o := .lst ((ts.map Prod.fst).map V.str)) nf
      obtain ⟨H1, e1⟩ : ∃ X, X = upd H pf (.lst ((ts.map Prod.fst).map V.str)) := ⟨_, rfl⟩
      rw [← e1] at s1 ⊢
      by_cases el : kvs.length = ts.length
      · rw [decide_eq_true el]
        refine iteF ?_
        -- all there?
        refine ⟨_, rfl, x, dx, _, rfl, s1 _ _ hx, x, ts, rfl, fa.mono s1, fun pg ng => ⟨pg, rfl, ⟨_, SqL.of upd_same⟩, fun D nD => ?_⟩⟩
        obtain ⟨H2, e2⟩ : ∃ X, X = upd H1 pg (.lst ((ts.map Prod.fst).map V.str)) := ⟨_, rfl⟩
        have s12 : Same H1 H2 := e2 ▸ same_new ng
        have a2 : H2 pg = some (.lst ((ts.map Prod.fst).map V.str)) := by rw [e2]; exact upd_same
        have s2 := s1.trans s12
        rw [← e2] at nD ⊢
        refine lc_it walk_list (fun i H' => Same H2 H' ∧ H' D = some (.lst ((((ts.map Prod.fst).take i).map fun a => (valV kvs (Sum.inr a)).isSome).map V.bl))) ⟨same_new nD, upd_same⟩ (fun i H' _ z => SqL.of (z.1 _ _ a2)) ?_ ?_
        · intro i y Ha Hb hi ⟨q1, q2⟩ ⟨eb, ex⟩
          subst eb
          obtain ⟨a, ha, rfl⟩ := map_of ex
          refine ⟨rfl, ?_⟩
          refine ⟨_, rfl, _, rfl, q, _, rfl, DGet.k (k := Sum.inr a) (q1 _ _ (s2 _ _ hq)), _, q2, ?_, Same.put q1 nD, ?_⟩
          · rw [List.length_map, List.length_map, List.length_take, List.length_map]
            omega
          · rw [upd_same, take_more ha, List.map_append, List.map_append] <;> rfl
        · intro H3 ⟨q1, q2⟩
          have s3 := s2.trans q1
          rw [List.length_map, List.take_length] at q2
          refine ⟨D, _, rfl, SqL.of q2, _, rfl, ?_⟩
          have eall : (((ts.map Prod.fst).map fun a => (valV kvs (Sum.inr a)).isSome)).all id = (ts.map Prod.fst).all fun a => (valV kvs (Sum.inr a)).isSome := by rw [List.all_map] <;> rfl
          rw [eall]
          cases ea : (ts.map Prod.fst).all fun a => (valV kvs (Sum.inr a)).isSome with
          | false =>
            refine iteT (out1 (H := H) ?_ s3)
            have e : liE CL ts (some kvs) = some (.e1 CL "name" .non) := by
              unfold liE
              rw [lims_some, if_neg (fun z => z el), if_pos ea] <;> rfl
            rw [e] at k
            exact k
          | true =>
            refine iteF ?_
            have there : ∀ a ∈ ts.map Prod.fst, ∃ v, valV kvs (Sum.inr a) = some v := fun a ha => Option.isSome_iff_exists.mp (List.all_eq_true.mp ea a ha)
            -- one by one
            refine ⟨_, rfl, x, dx, _, rfl, s3 _ _ hx, x, ts, rfl, fa.mono s3, fun ph nh => ⟨ph, rfl, ⟨_, SqL.of upd_same⟩, ?_⟩⟩
            obtain ⟨H4, e4⟩ : ∃ X, X = upd H3 ph (.lst ((ts.map Prod.fst).map V.str)) := ⟨_, rfl⟩
            have s4 : Same H H4 := s3.trans (e4 ▸ same_new nh)
            have a4 : H4 ph = some (.lst ((ts.map Prod.fst).map V.str)) := by rw [e4]; exact upd_same
            rw [← e4]
            refine for_it walk_list (fun j σ' H' => (∃ u3, σ' = [some (.ref x), some (.ref q), u3]) ∧ Same H4 H' ∧ ((ts.map Prod.fst).take j).find? (badLim kvs) = none)
              ⟨⟨none, rfl⟩, Same.refl, rfl⟩ (fun j σ' H' _ z => SqL.of (z.2.1 _ _ a4)) ?_ ?_
            · intro j y σ' Ha Hb hj ⟨⟨u3, e⟩, sa, good⟩ ⟨eb, ex⟩
              subst e
              subst eb
              obtain ⟨a, ha, rfl⟩ := map_of ex
              obtain ⟨v, hv⟩ := there a (List.mem_of_getElem? ha)
              have s0 := s4.trans sa
              refine ⟨_, rfl, _, rfl, q, v, rfl, by have z := DGet.k (k := Sum.inr a) (s0 _ _ hq); rw [hv] at z; exact z, v, 1, rfl, (dat _ (valV_mem hv)).mono s0, _, rfl, ?_⟩
              cases eg : isGe v 1 with
              | true => exact iteF ⟨⟨_, rfl⟩, sa, find_more ha good (by unfold badLim; rw [hv]; show (!isGe v 1) = false; rw [eg] <;> rfl)⟩
              | false =>
                refine iteT ⟨_, rfl, out1 (H := H) ?_ s0⟩
                have e : liE CL ts (some kvs) = some (.e1 CL "name" (.str a)) := by
                  unfold liE
                  rw [lims_some, if_neg (fun z => z el), if_neg (by rw [ea]; decide), find_at ha good (by unfold badLim; rw [hv]; show (!isGe v 1) = true; rw [eg] <;> rfl)] <;> rfl
                rw [e] at k
                exact k
            · intro σ' H5 ⟨⟨u3, e⟩, sa, good⟩
              subst e
              rw [List.length_map, List.take_length] at good
              have e : liE CL ts (some kvs) = none := by
                unfold liE
                rw [lims_some, if_neg (fun z => z el), if_neg (by rw [ea]; decide), good] <;> rfl
              rw [e] at k
              exact k _ (s4.trans sa)
      · rw [decide_eq_false el]
        show if true = true then _ else _
        rw [if_pos rfl]
        refine out1 (H := H) ?_ s1
        have e : liE CL ts (some kvs) = some (.e1 CL "name" .non) := by
          unfold liE
          rw [lims_some, if_pos el] <;> rfl
        rw [e] at k
        exact k
theorem ok_lim {f fI CF CL IL p1 g1 : Addr} {fd fdI dL fd1 : FuncData} (F : Fun K "need_limits" "need_limits" s_need_limits f fd) (T : Nm mg) (O : FoC K CF) (S : Er1 P w K mg base "InvalidLimits" "name" CL IL dL)
    (I : Dn P w K mg base CX0 1 "is_integer" ["value", "least"] (spIsInt K) fI fdI) (L1 : Pr1 P w K mg base CF "flags" (spFFlags CF) p1 g1 fd1) :
    FnOk P w K mg base (L2.CX P w) 3 f fd ["forest", "limits"] (spLim K CF CL) := by
  refine FnOk.or (ok_lim0 F T O S I L1) ?_
  refine F.okX scLi2 (fun vs H Q E h => ?_) (fun cdv A outer s H vs Q E hr h => ?_)
  · obtain ⟨x, b, ts, rows, rfl, _⟩ := h
    rfl
  · obtain ⟨x, b, ts, rows, rfl, fa, o, hb, ne, k⟩ := h
    have hu := hu_of hr
    have hr2 : Room 2 _ := hr.mono (by decide)
    have big : 1000 ≤ sizeLine := by decide
    have few := o.few
    refine ⟨_, pss_cons (ps_if (PW.pt (pw_or (pt_not (pt_val (pe_callB call_isiR (by rfl) T.isi (by decide +kernel) (pa_cons (pv 1) (pa_cons (pe_bltn (v := .ty "dict") (u := .type "dict") (by rfl) T.dct (by decide +kernel) rfl) pa_nil)))))
        (pw_or1 (pt_cmpR op_ne (pe_callB call_lenR (by rfl) T.len PySem.boot_len (pa_cons (pv 1) pa_nil)) (pe_callB call_len_seq (by rfl) T.len PySem.boot_len (pa_cons (pe_prop (pv 0) O.cl L1.pr L1.fn hr2 L1.bn .nil pass0 (by rfl)) pa_nil)) (nomark _)))))
        (pss_one (ps_err1 S rfl (takes_of rfl rfl rfl rfl) hr2 rfl pe_non)) pss_nil)
      (pss_cons (ps_if (pt_not (pt_val (pe_callB (cr_all rfl) (by rfl) T.all (by decide +kernel) (pa_cons (pe_lc (own := [("name", 2)]) (g := gName 2) (tt := tYes) rfl scLi2.nd (pi_list (pe_prop (pv 0) O.cl L1.pr L1.fn hr2 L1.bn .nil pass0 (by rfl)))
          (blkOk_by (N := NLi2) (sc := defScope s_need_limits) (by decide +kernel))
          (fun _ _ _ _ _ => pg_name (i := 2) scLi2.nd rfl (Or.inl rfl)) (fun _ _ _ _ _ => pts_nil) (fun _ _ _ _ _ => pe_cmp (pc_din hu (pv 2) (pv 1)) rfl)) pa_nil))))
        (pss_one (ps_err1 S rfl (takes_of rfl rfl rfl rfl) hr2 rfl pe_non)) pss_nil)
      (pss_one (ps_for (passes_of rfl) rfl (pi_list (pe_prop (pv 0) O.cl L1.pr L1.fn hr2 L1.bn .nil pass0 (by rfl))) (pg_name (i := 2) scLi2.nd rfl (.inl rfl))
        (pss_one (ps_if (pt_not (pt_val (pe_call I.ok (hr.mono (by decide)) rfl I.mgn I.kp I.bn .nil pass0 (pa_cons (pe_dget hu (pv 1) (pv 2) (fun _ _ => rfl)) (pa_cons pe_int pa_nil))))) (pss_one (ps_err1 S rfl (takes_of rfl rfl rfl rfl) hr2 rfl (pv 2))) pss_nil))))), ?_⟩
    obtain ⟨dx, dq, hx, hd⟩ := id fa
    refine ⟨_, rfl, b, rows, none, rfl, .inl hb, _, rfl, iteF ?_⟩
    refine ⟨_, rfl, b, rows, rfl, hb, ?_⟩
    refine ⟨_, rfl, x, dx, _, rfl, hx, x, ts, rfl, fa, fun pf nf => ⟨pf, _, rfl, .inl (SqL.of upd_same), rfl, _, rfl, ?_⟩⟩
    rw [List.length_map, List.length_map, len_int]
    have s1 := same_new (o := .lst ((ts.map Prod.fst).map V.str)) nf
    rw [decide_eq_false ne]
    exact iteT (out1 (H := H) k s1)
end
end FT


/-! divided, fewest_of -/
namespace FT
open PySem L2 TL ClX LiI
/-- rounded up -/
def cdv (a l : Int) : Int := -((-a) / l)
def Sml (z : Int) : Prop := z.natAbs < 2 ^ 200
def spDivd : Sp := fun vs H Q _ => ∃ a l : Int, vs = [.int a, .int l] ∧ 0 < l ∧ Sml l ∧ ∀ H', Same H H' → Q (.int (cdv a l)) H'
def IsMax (m : Int) (l : List Int) : Prop := m ∈ l ∧ ∀ y ∈ l, y ≤ m
def spFewOf : Sp := fun vs H Q _ => ∃ (qc ql : Addr) (L : List Str) (c l : Str → Int) (kvs : List (Key × V)), vs = [.ref qc, .ref ql] ∧ H qc = some (.dK (tblI L c)) ∧ H ql = some (.dK kvs) ∧ ql ≠ qc ∧ L ≠ [] ∧ L.length ≤ 100 ∧ L.Nodup ∧ (∀ a ∈ L, valV kvs (Sum.inr a) = some (.int (l a)) ∧ 0 < l a ∧ Sml (l a)) ∧
  ∀ (m : Int) (H' : Hp), IsMax m (L.map fun a => cdv (absI (c a)) (l a)) → Same H H' → Q (.int m) H'
section
variable {P : Program} {w : World} {K : PySem.W.Frag} {mg : Str → Option Value} {base : Heap}
theorem scDv : FnScope ["amount", "limit"] ["amount", "limit"] (defScope s_divided) := ⟨rfl, rfl, rfl, by decide +kernel, rfl, by decide +kernel, by decide +kernel⟩
theorem ok_divd {f : Addr} {fd : FuncData} (F : Fun K "divided" "divided" s_divided f fd) : FnOk P w K mg base CX0 1 f fd ["amount", "limit"] spDivd := by
  refine F.ok scDv (fun vs H Q E h => ?_) (fun cdv_ A outer s H vs Q E hr h => ?_)
  · obtain ⟨a, l, rfl, _⟩ := h
    rfl
  · obtain ⟨a, l, rfl, l0, sl, k⟩ := h
    refine ⟨_, pss_one (ps_ret (pe_un un_neg (pe_op op_fdivW (pe_un un_neg (pv 0)) (pv 1)))), ?_⟩
    refine ⟨_, rfl, _, rfl, _, rfl, _, _, rfl, rfl, wide_div l0 sl (by decide) (by decide), _, rfl, ?_⟩
    exact k H Same.refl
abbrev NFw : List Str := ["changed", "limits", "name"]
theorem scFw : FnScope NFw ["changed", "limits"] (defScope s_fewest_of) := ⟨rfl, rfl, rfl, by decide +kernel, rfl, by decide +kernel, by decide +kernel⟩
theorem ok_fewOf {f fD : Addr} {fd fdD : FuncData} (F : Fun K "fewest_of" "fewest_of" s_fewest_of f fd) (T : Nm mg) (DV : Dn P w K mg base CX0 1 "divided" ["amount", "limit"] spDivd fD fdD) : FnOk P w K mg base CX0 2 f fd ["changed", "limits"] spFewOf := by
  refine F.ok scFw (fun vs H Q E h => ?_) (fun cdv_ A outer s H vs Q E hr h => ?_)
  · obtain ⟨qc, ql, L, c, l, kvs, rfl, _⟩ := h
    rfl
  · obtain ⟨qc, ql, L, c, l, kvs, rfl, hc, hl, nq, ne, few, nd0, ok, k⟩ := h
    have hu := hu_of hr
    have nd := scFw.nd
    have big : 1000 ≤ sizeLine := by decide
    refine ⟨_, pss_one (ps_ret (pe_callB (cr_max rfl) (by rfl) T.max (by decide +kernel) (pa_cons (pe_lock (pe_lc (own := [("name", 2)]) (g := gName 2) (tt := tYes) rfl nd (pi_keys (pv 0)) (blkOk_by (N := NFw) (sc := defScope s_fewest_of) (by decide +kernel)) (fun _ _ _ _ _ => pg_name (i := 2) nd rfl (Or.inl rfl)) (fun _ _ _ _ _ => pts_nil)
      (fun _ _ _ _ _ => pe_call DV.ok hr rfl DV.mgn DV.kp DV.bn .nil pass0 (pa_cons (pe_callB call_abs (by rfl) T.abs (by decide +kernel) (pa_cons (pe_dget hu (pv 0) (pv 2) (fun _ _ => rfl)) pa_nil)) (pa_cons (pe_dget hu (pv 1) (pv 2) (fun _ _ => rfl)) pa_nil))))) pa_nil))), ?_⟩
    refine ⟨qc, _, hc, trivial, fun od => ⟨_, rfl, qc, od, rfl, .inl ⟨_, upd_same, fun D nD => ?_⟩⟩⟩
    obtain ⟨H1, e1⟩ : ∃ X, X = upd H qc (.frz od (.dK (tblI L c))) := ⟨_, rfl⟩
    have hc1 : H1 qc = some (.frz od (.dK (tblI L c))) := by rw [e1]; exact upd_same
    rw [← e1] at nD ⊢
    have hl1 : H1 ql = some (.dK kvs) := by rw [e1, upd_ne nq]; exact hl
    refine lc_it walk_keys (fun i H' => Same H1 H' ∧ H' D = some (.lst (((L.take i).map fun a => cdv (absI (c a)) (l a)).map V.int))) ⟨same_new nD, upd_same⟩ (fun i H' _ z => z.1 _ _ hc1) ?_ ?_
    · intro i y Ha Hb hi ⟨q1, hD⟩ ⟨eb, kk, vv, hk, ey⟩
      subst eb
      subst ey
      obtain ⟨a, ha, rfl, rfl⟩ := tblI_at hk
      have ma := List.mem_of_getElem? ha
      obtain ⟨o1, o2, o3⟩ := ok a ma
      rw [show kV (Sum.inr a) = V.str a from rfl]
      refine ⟨rfl, ?_⟩
      refine ⟨_, rfl, _, rfl, qc, .int (c a), rfl, .inl ⟨_, Sum.inr a, .inr ⟨od, q1 _ _ hc1⟩, rfl, (tblI_val ma).symm⟩, ?_⟩
      have dgl : DGet Hb ql (.str a) (some (.int (l a))) := .inl ⟨_, Sum.inr a, .inl (q1 _ _ hl1), rfl, o1.symm⟩
      refine ⟨_, rfl, _, rfl, _, rfl, ql, .int (l a), rfl, dgl, absI (c a), l a, rfl, o2, o3, fun H2 s2 => ?_⟩
      refine ⟨_, s2 _ _ hD, ?_, (q1.trans s2).put nD, ?_⟩
      · rw [List.length_map, List.length_map, List.length_take]
        omega
      · rw [upd_same, take_more ha, List.map_append, List.map_append] <;> rfl
    intro H2 ⟨q1, hD⟩
    rw [tblI_len, List.take_length] at hD
    refine ⟨q1 _ _ hc1, ?_⟩
    have sk := unlock_same hc (show Same (upd H qc (.frz od (.dK (tblI L c)))) H2 by rw [← e1]; exact q1)
    have Dq : D ≠ qc := (ne_of_none hc1 nD).symm
    refine ⟨D, _, rfl, SqL.of (by rw [upd_ne Dq]; exact hD), by rw [List.length_map]; exact List.length_pos_iff.mpr ne, fun m hm le => k m _ ⟨hm, le⟩ sk⟩
end
end FT


namespace FT
open PySem L2 TL ClX
section
variable {P : Program} {w : World} {K : PySem.W.Frag} {mg : Str → Option Value} {base : Heap}
theorem scAmtOf : FnScope ["forest", "sizes", "new", "name"] ["forest", "sizes", "new"] (defScope s_amounts_of) := ⟨rfl, rfl, rfl, by decide +kernel, rfl, by decide +kernel, by decide +kernel⟩
theorem ok_amtOf {f CF p1 g1 : Addr} {fd fd1 : FuncData} (F : Fun K "amounts_of" "amounts_of" s_amounts_of f fd) (O : FoC K CF) (L1 : Pr1 P w K mg base CF "flags" (spFFlags CF) p1 g1 fd1) :
    FnOk P w K mg base CX0 3 f fd ["forest", "sizes", "new"] (spAmtOf CF) := by
  refine F.ok scAmtOf (fun vs H Q E h => ?_) (fun cdv A outer s H vs Q E hr h => ?_)
  · obtain ⟨x, q1, q2, ts, k1, k2, rfl, _⟩ := h
    rfl
  · obtain ⟨x, q1, q2, ts, k1, k2, rfl, fa, o, h1, h2, n1, n2, k⟩ := h
    have hu := hu_of hr
    have big : 1000 ≤ sizeLine := by decide
    have few := o.few
    refine ⟨_, pss_one (ps_ret (pe_dc (own := [("name", 3)]) (g := gName 3) (tt := tYes) rfl scAmtOf.nd (pi_list (pe_prop (pv 0) O.cl L1.pr L1.fn hr L1.bn .nil pass0 (by rfl)))
        (blkOk_by (N := ["forest", "sizes", "new", "name"]) (sc := defScope s_amounts_of) (by decide +kernel))
        (fun _ _ _ _ _ => pg_name (i := 3) scAmtOf.nd rfl (Or.inl rfl)) (fun _ _ _ _ _ => pts_nil) (fun _ _ _ _ _ => pv 3)
        (fun _ _ _ _ _ => pe_op op_sub (pe_dget hu (pv 2) (pv 3) (fun _ _ => rfl)) (pe_dget hu (pv 1) (pv 3) (fun _ _ => rfl))))), ?_⟩
    obtain ⟨dx, dq, hx, hd⟩ := id fa
    refine ⟨_, rfl, x, dx, _, rfl, hx, x, ts, rfl, fa, fun pf nf => ⟨pf, rfl, ⟨_, SqL.of upd_same⟩, fun D nD => ?_⟩⟩
    obtain ⟨H1, e1⟩ : ∃ X, X = upd H pf (.lst ((ts.map Prod.fst).map V.str)) := ⟨_, rfl⟩
    have s1 : Same H H1 := e1 ▸ same_new nf
    have a1 : H1 pf = some (.lst ((ts.map Prod.fst).map V.str)) := by rw [e1]; exact upd_same
    rw [← e1] at nD ⊢
    refine dc_it walk_list (fun i H' => Same H1 H' ∧ H' D = some (.dK (tblI ((ts.map Prod.fst).take i) fun a => szOf k2 a - szOf k1 a))) ⟨same_new nD, upd_same⟩ (fun i H' _ z => SqL.of (z.1 _ _ a1)) ?_ ?_
    · intro i y Ha Hb hi ⟨z1, z2⟩ ⟨eb, ex⟩
      subst eb
      obtain ⟨a, ha, rfl⟩ := map_of ex
      have ma := List.mem_of_getElem? ha
      have fresh : a ∉ (ts.map Prod.fst).take i := fun hm => by
        obtain ⟨j, hj⟩ := List.mem_iff_getElem?.mp hm
        have jl := (List.getElem?_eq_some_iff.mp hj).1
        rw [List.length_take] at jl
        rw [List.getElem?_take, if_pos (by omega)] at hj
        have := (List.getElem?_inj (by omega) o.nd).mp (hj.trans ha.symm)
        omega
      refine ⟨rfl, ?_⟩
      refine ⟨_, rfl, _, rfl, _, rfl, q2, .int (szOf k2 a), rfl, ?_, _, rfl, _, rfl, q1, .int (szOf k1 a), rfl, ?_, _, _, rfl, rfl, _, Sum.inr a, rfl, z2, ?_, Same.put z1 nD, ?_⟩
      · have z := DGet.k (k := Sum.inr a) (z1 _ _ (s1 _ _ h2))
        rw [n2 a ma] at z
        exact z
      · have z := DGet.k (k := Sum.inr a) (z1 _ _ (s1 _ _ h1))
        rw [n1 a ma] at z
        exact z
      · rw [tblI_len, List.length_take, List.length_map]
        omega
      · rw [upd_same, tblI_snoc fresh rfl, take_more ha]
    · intro H3 ⟨z1, z2⟩
      rw [List.length_map, List.take_length] at z2
      exact k D H3 (s1.trans z1) (s1.free nD) z2
end
end FT


/-! need_users -/
namespace FT
open PySem L2 TL ClX
section
variable {P : Program} {w : World} {K : PySem.W.Frag} {mg : Str → Option Value} {base : Heap}
theorem scUsers : FnScope ["users", "most"] ["users", "most"] (defScope s_need_users) := ⟨rfl, rfl, rfl, by decide +kernel, rfl, by decide +kernel, by decide +kernel⟩
theorem ok_users {f fI CU IU : Addr} {fd fdI dU : FuncData} (F : Fun K "need_users" "need_users" s_need_users f fd) (T : Nm mg) (I : Dn P w K mg base CX0 1 "is_integer" ["value", "least"] (spIsInt K) fI fdI) (U : Er0 P w K mg base "InvalidUsers" CU IU dU) :
    FnOk P w K mg base (L2.CX P w) 3 f fd ["users", "most"] (spUsers K CU) := by
  refine F.okX scUsers (fun vs H Q E h => ?_) (fun cdv A outer s H vs Q E hr h => ?_)
  · obtain ⟨v, m, rfl, _⟩ := h
    rfl
  · obtain ⟨v, m, rfl, d, k⟩ := h
    refine ⟨_, pss_one (ps_if (PW.pt (pw_or (pt_not (pt_val (pe_call I.ok (hr.mono (by decide)) rfl I.mgn I.kp I.bn .nil pass0 (pa_cons (pv 0) (pa_cons pe_int pa_nil))))) (pw_or1 (pt_cmpR op_gt (pv 0) (pv 1) (nomark _))))) (pss_one (ps_err0 U rfl (takes_of rfl rfl rfl rfl) hr rfl)) pss_nil), ?_⟩
    refine ⟨_, rfl, v, 1, rfl, d, _, rfl, ?_⟩
    cases v with
    | int i =>
      by_cases h1 : 1 ≤ i
      · rw [show isGe (.int i) 1 = true from decide_eq_true h1]
        refine iteF ?_
        refine ⟨_, rfl, _, rfl, i, m, rfl, rfl, _, rfl, ?_⟩
        by_cases h2 : i ≤ m
        · rw [decide_eq_false (show ¬ m < i by omega)]
          rw [if_pos (show usersOk (.int i) m = true by show (decide (1 ≤ i) && decide (i ≤ m)) = true; rw [decide_eq_true h1, decide_eq_true h2] <;> rfl)] at k
          exact iteF (k H Same.refl)
        · rw [decide_eq_true (show m < i by omega)]
          rw [if_neg (show ¬ usersOk (.int i) m = true by show ¬ (decide (1 ≤ i) && decide (i ≤ m)) = true; rw [decide_eq_false h2, Bool.and_false]; decide)] at k
          exact iteT (out0 k Same.refl)
      · rw [show isGe (.int i) 1 = false from decide_eq_false h1]
        rw [if_neg (show ¬ usersOk (.int i) m = true by show ¬ (decide (1 ≤ i) && decide (i ≤ m)) = true; rw [decide_eq_false h1, Bool.false_and]; decide)] at k
        show if true = true then _ else _
        rw [if_pos rfl]
        exact iteT (out0 k Same.refl)
    | _ =>
      show if true = true then _ else _
      rw [if_pos rfl]
      exact iteT (out0 k Same.refl)
end
end FT


namespace FT
open PySem L2 TL ClX
section
variable {P : Program} {w : World} {K : PySem.W.Frag} {mg : Str → Option Value} {base : Heap}
end
end FT


namespace FT
open PySem L2 TL ClX
section
variable {P : Program} {w : World} {K : PySem.W.Frag} {mg : Str → Option Value} {base : Heap}
abbrev NLe : List Str := ["forest", "users", "sizes", "new", "amount"]
end
end FT


/-! fewest -/
namespace FT
open PySem L2 TL ClX LiI
theorem lims_ok {CL : Addr} {ts : List (Str × Str)} {o : Option (List (Key × V))} (h : liE CL ts o = none) : ∃ kvs, o = some kvs ∧ ∀ a ∈ ts.map Prod.fst, valV kvs (Sum.inr a) = some (.int (szOf kvs a)) ∧ 1 ≤ szOf kvs a := by
  unfold liE at h
  have h := Option.map_eq_none_iff.mp h
  cases o with
  | none => cases h
  | some kvs =>
    rw [lims_some] at h
    by_cases el : kvs.length ≠ ts.length
    · rw [if_pos el] at h
      cases h
    rw [if_neg el] at h
    cases ea : (ts.map Prod.fst).all fun a => (valV kvs (Sum.inr a)).isSome with
    | false =>
      rw [if_pos ea] at h
      cases h
    | true =>
      rw [if_neg (by rw [ea]; decide)] at h
      have good := Option.map_eq_none_iff.mp h
      refine ⟨kvs, rfl, fun a ha => ?_⟩
      obtain ⟨v, hv⟩ := Option.isSome_iff_exists.mp (List.all_eq_true.mp ea a ha)
      have g := List.find?_eq_none.mp good a ha
      unfold badLim at g
      rw [hv] at g
      unfold szOf
      rw [hv]
      have g2 : isGe v 1 = true := by
        cases q : isGe v 1 with
        | true => rfl
        | false =>
          have : (!isGe v 1) = true := by rw [q] <;> rfl
          exact absurd this g
      cases v with
      | int i => exact ⟨rfl, of_decide_eq_true g2⟩
      | _ => cases g2
def spFewest2 (K : PySem.W.Frag) (CF CU CS CL : Addr) : Sp := fun vs H Q E => ∃ (x : Addr) (uv sv nv lv : V) (ts : List (Str × Str)) (o1 o2 ol : Option (List (Key × V))), vs = [.ref x, uv, sv, nv, lv] ∧ FAt CF H x ts ∧ TreeOk ts ∧ IsDat K H uv ∧ SzV K H sv o1 ∧ SzV K H nv o2 ∧ SzM K H ts.length lv ol ∧
  (∀ a ∈ ts.map Prod.fst, Sml (szOf (kvsOf ol) a)) ∧ match amE CU CS ts uv o1 o2 with
  | some e => Out H E e
  | none => match liE CL ts ol with
    | some e => Out H E e
    | none => ∀ (m : Int) (H' : Hp), IsMax m ((ts.map Prod.fst).map fun a => cdv (absI (amt o1 o2 a)) (szOf (kvsOf ol) a)) → Same H H' → Q (.int m) H'
section
variable {P : Program} {w : World} {K : PySem.W.Frag} {mg : Str → Option Value} {base : Heap}
abbrev NFs2 : List Str := ["forest", "users", "sizes", "new", "limits", "changed"]
end
end FT


/-! even_steps -/
namespace FT
open PySem L2 TL ClX LiI
/-- the sizes after step k of m -/
def evS (s c : Str → Int) (m k : Int) : Str → Int := fun a => s a + k * c a / m
def DcL (H : Hp) (L : List Str) (r : Addr) (g : Str → Int) : Prop := H r = some (.dK (tblI L g))
def spEven : Sp := fun vs H Q _ => ∃ (qs qc : Addr) (m : Nat) (L : List Str) (s c : Str → Int) (kvs : List (Key × V)), vs = [.ref qs, .ref qc, .int (m : Int)] ∧ H qs = some (.dK kvs) ∧ (∀ a ∈ L, valV kvs (Sum.inr a) = some (.int (s a))) ∧ H qc = some (.dK (tblI L c)) ∧ qs ≠ qc ∧ L.length ≤ 100 ∧ L.Nodup ∧ m ≤ 1000 ∧ (∀ a ∈ L, Sml (c a)) ∧
  ∀ (p : Addr) (rs : List Addr) (H' : Hp), Same H H' → H p = none → H' p = some (.lst (rs.map V.ref)) → Paired (fun r (k : Nat) => DcL H' L r (evS s c m (k + 1))) rs (List.range m) → (∀ r ∈ rs, H r = none) → Q (.ref p) H'
theorem fresh_atE {l : List Str} {j : Nat} {a : Str} (nd : l.Nodup) (h : l[j]? = some a) : a ∉ l.take j := fun hm => by
  obtain ⟨i, hi⟩ := List.mem_iff_getElem?.mp hm
  have il := (List.getElem?_eq_some_iff.mp hi).1
  rw [List.length_take] at il
  rw [List.getElem?_take, if_pos (by omega)] at hi
  obtain ⟨l1, g1⟩ := List.getElem?_eq_some_iff.mp hi
  obtain ⟨l2, g2⟩ := List.getElem?_eq_some_iff.mp h
  exact List.pairwise_iff_getElem.mp (List.nodup_iff_pairwise_ne.mp nd) i j l1 l2 (by omega) (g1.trans g2.symm)
theorem pair_push {α β : Type} {F G : α → β → Prop} {x : α} {y : β} (m : ∀ a b, F a b → G a b) (h : G x y) : ∀ {xs : List α} {ys : List β}, Paired F xs ys → Paired G (xs ++ [x]) (ys ++ [y])
  | _, _, .nil => .cons h .nil
  | _, _, .cons p t => .cons (m _ _ p) (pair_push m h t)
section
variable {P : Program} {w : World} {K : PySem.W.Frag} {mg : Str → Option Value} {base : Heap}
abbrev scStep : Scope := { kind := .function, names := [(".0", .local), ("step", .cell), ("changed", .free), ("many", .free), ("sizes", .free)], isGenerator := false, isCoroutine := false }
abbrev NEv2 : List Str := ["sizes", "changed", "many", "step", "name"]
theorem scEv2 : FnScope NEv2 ["sizes", "changed", "many"] (defScope s_even_steps) := ⟨rfl, rfl, rfl, by decide +kernel, rfl, by decide +kernel, by decide +kernel⟩
theorem ok_even {f : Addr} {fd : FuncData} (F : Fun K "even_steps" "even_steps" s_even_steps f fd) (T : Nm mg) : FnOk P w K mg base CX0 1 f fd ["sizes", "changed", "many"] spEven := by
  refine F.ok scEv2 (fun vs H Q E h => ?_) (fun cdv_ A outer s0 H vs Q E hr h => ?_)
  · obtain ⟨qs, qc, m, L, s, c, kvs, rfl, _⟩ := h
    rfl
  · obtain ⟨qs, qc, m, L, s, c, kvs, rfl, hs, vals, hc, nq, few, nd0, m1, sm, k⟩ := h
    have hu := hu_of hr
    have nd := scEv2.nd
    have big : 2000 ≤ sizeLine := by decide
    refine ⟨_, pss_one (ps_ret (pe_lc (own := [("step", 3)]) (g := gName 3) (tt := tYes) rfl nd (pi_range2 rfl T.rng (pa_cons pe_int (pa_cons (pe_op op_add (pv 2) pe_int) pa_nil))) (blkOk_by (N := NEv2) (sc := defScope s_even_steps) (by decide +kernel)) (fun _ _ _ _ _ => pg_name (i := 3) nd rfl (Or.inr rfl)) (fun _ _ _ _ _ => pts_nil)
      (fun _ _ _ _ _ => pe_lock (pe_dc (own := [("name", 4)]) (g := gName 4) (tt := tYes) rfl nd (pi_keys (pv 1)) (by refine blkOk_by ?_; rfl) (fun _ _ _ _ _ => pg_name (i := 4) nd rfl (Or.inl rfl)) (fun _ _ _ _ _ => pts_nil)
        (fun _ _ _ _ _ => pv 4) (fun _ _ _ _ _ => pe_op op_add (pe_dget hu (pv 0) (pv 4) (fun _ _ => rfl)) (pe_op op_fdivW (pe_op op_mulW (pv 3) (pe_dget hu (pv 1) (pv 4) (fun _ _ => rfl))) (pv 2))))))), ?_⟩
    refine ⟨_, rfl, _, _, rfl, rfl, 1, (m : Int) + 1, rfl, ⟨by omega, by omega, by omega, by omega⟩, fun D nD => ?_⟩
    have em : ((m : Int) + 1 - 1).toNat = m := by omega
    rw [em]
    have sD := same_new (o := .lst []) nD
    refine lc_it (walk_range (lo := 1) (n := m)) (fun j H' => Same H H' ∧ ∃ rs : List Addr, H' D = some (.lst (rs.map V.ref)) ∧ Paired (fun r (k : Nat) => DcL H' L r (evS s c m (k + 1))) rs (List.range j) ∧ (∀ r ∈ rs, H r = none)) ⟨sD, [], upd_same, .nil, fun r hr => by cases hr⟩ (fun _ _ _ _ => trivial) ?_ ?_
    · intro j yv Hx Hy hj ⟨q1, rs, hDx, pr, new⟩ ⟨eb, ey⟩
      subst eb
      subst ey
      refine ⟨rfl, ?_⟩
      have hcx := q1 _ _ hc
      refine ⟨qc, _, hcx, trivial, fun od => ⟨_, rfl, qc, od, rfl, .inl ⟨_, upd_same, fun D2 nD2 => ?_⟩⟩⟩
      obtain ⟨H1, e1⟩ : ∃ X, X = upd Hy qc (.frz od (.dK (tblI L c))) := ⟨_, rfl⟩
      have hc1 : H1 qc = some (.frz od (.dK (tblI L c))) := by rw [e1]; exact upd_same
      have hs1 : H1 qs = some (.dK kvs) := by rw [e1, upd_ne nq]; exact q1 _ _ hs
      rw [← e1] at nD2 ⊢
      refine dc_it walk_keys (fun i H' => Same H1 H' ∧ H' D2 = some (.dK (tblI (L.take i) (evS s c m (j + 1))))) ⟨same_new nD2, upd_same⟩ (fun i H' _ z => z.1 _ _ hc1) ?_ ?_
      · intro i y Ha Hb hi ⟨q2, hD2⟩ ⟨eb, kk, vv, hk, ey⟩
        subst eb
        subst ey
        obtain ⟨a, ha, rfl, rfl⟩ := tblI_at hk
        have ma := List.mem_of_getElem? ha
        rw [show kV (Sum.inr a) = V.str a from rfl]
        have dgs : DGet Hb qs (.str a) (some (.int (s a))) := .inl ⟨_, Sum.inr a, .inl (q2 _ _ hs1), rfl, (vals a ma).symm⟩
        have dgc : DGet Hb qc (.str a) (some (.int (c a))) := .inl ⟨_, Sum.inr a, .inr ⟨od, q2 _ _ hc1⟩, rfl, (tblI_val ma).symm⟩
        have fresh : a ∉ L.take i := fresh_atE nd0 ha
        refine ⟨rfl, ?_⟩
        refine ⟨_, rfl, _, rfl, _, rfl, qs, .int (s a), rfl, dgs, _, rfl, _, rfl, _, rfl, qc, .int (c a), rfl, dgc, _, _, rfl, rfl, wide_mul (a := 20) (b := 200) (by omega) (sm a ma) (by decide) (by decide) (by decide), _, rfl, _, _, rfl, rfl, wide_div (b := 20) (by omega) (by omega) (by decide) (by decide), _, _, rfl, rfl, ?_⟩
        refine ⟨_, Sum.inr a, rfl, hD2, by rw [tblI_len, List.length_take]; omega, q2.put nD2, ?_⟩
        rw [upd_same, tblI_snoc fresh (by unfold evS; rw [show (1 : Int) + (j : Int) = (j : Int) + 1 by omega]), take_more ha] <;> rfl
      · intro H2 ⟨q2, hD2⟩
        rw [tblI_len, List.take_length] at hD2
        refine ⟨q2 _ _ hc1, ?_⟩
        have sk := unlock_same hcx (show Same (upd Hy qc (.frz od (.dK (tblI L c)))) H2 by rw [← e1]; exact q2)
        have Dq : D2 ≠ qc := (ne_of_none hc1 nD2).symm
        have lr := pr.length
        rw [List.length_range] at lr
        have DD : D2 ≠ D := fun z => by
          have : H1 D = some (.lst (rs.map V.ref)) := by
            rw [e1, upd_ne (ne_of hDx hcx (by intro z; cases z))]
            exact hDx
          rw [← z, nD2] at this
          cases this
        have hD2' : (upd H2 qc (.dK (tblI L c))) D2 = some (.dK (tblI L (evS s c m (j + 1)))) := by rw [upd_ne Dq]; exact hD2
        have n2 : H D2 = none := by
          cases z : H D2 with
          | none => rfl
          | some u =>
            have := q1 _ _ z
            rw [e1, upd_ne Dq] at nD2
            rw [nD2] at this
            cases this
        refine ⟨_, sk _ _ hDx, by rw [List.length_map]; omega, (q1.trans sk).put nD, rs ++ [D2], by rw [upd_same, List.map_append] <;> rfl, ?_, fun r hr => (List.mem_append.mp hr).elim (new r) fun h => by rw [List.mem_singleton.mp h]; exact n2⟩
        rw [List.range_succ]
        refine pair_push (fun r k' h => ?_) ?_ pr
        · show (upd (upd H2 qc (.dK (tblI L c))) D _) r = _
          rw [upd_ne (ne_of h hDx (by intro z; cases z))]
          exact sk _ _ h
        · show (upd (upd H2 qc (.dK (tblI L c))) D _) D2 = _
          rw [upd_ne DD]
          exact hD2'
    · intro H2 ⟨q1, rs, hD2, pr, new⟩
      exact k D rs H2 q1 nD hD2 pr new
end
end FT


/-! sorted(a list of texts, key=a lambda of one parameter that gives an int): the sort -/
namespace SrtKy
open PySem PyProof.Rows Srt SrtO L2
/-- less by a key -/
def ltK (key : Str → Int) (a b : Str) : Bool := decide (key a < key b)
/-- the keys of the first items -/
def KysI (key : Str → Int) (ks : List Str) (kA : List Value) : Prop := ∀ (j : Nat) (kv : Value), kA[j]? = some kv → ∃ (x : Str) (t : Tok), kv = Value.int (key x) t ∧ ks[j]? = some x
theorem KysI.nil {key : Str → Int} {ks : List Str} : KysI key ks [] := fun j kv e => by simp at e
theorem KysI.snoc {key : Str → Int} {ks : List Str} {kA : List Value} {x : Str} {t : Tok} (h : KysI key ks kA) (hx : ks[kA.length]? = some x) : KysI key ks (kA ++ [.int (key x) t]) := fun j kv e => by
  by_cases hj : j < kA.length
  · rw [List.getElem?_append_left hj] at e
    exact h j kv e
  · rw [List.getElem?_append_right (by omega)] at e
    have h0 : j - kA.length = 0 := by
      have := (List.getElem?_eq_some_iff.mp e).1
      rw [List.length_singleton] at this
      omega
    rw [h0] at e
    have e' : Value.int (key x) t = kv := Option.some.inj e
    have : j = kA.length := by omega
    subst this
    exact ⟨x, t, e'.symm, hx⟩
theorem KysI.ints {key : Str → Int} {ks : List Str} {kA : List Value} (h : KysI key ks kA) (l : kA.length = ks.length) : IntsAre kA (kA.map iv) := ints_iv fun v hv => by
  obtain ⟨j, hj⟩ := List.mem_iff_getElem?.mp hv
  obtain ⟨x, t, e, _⟩ := h j v hj
  exact ⟨_, t, e⟩
/-- the text of a value -/
def sv : Value → Str
  | .str x _ => x
  | _ => ""
def sndS (p : Value × Value) : Str := sv p.2
section
variable {prog : Program} {w : World} {s : Shared} {A : Around} {E : Value → Shared → Prop}
end
end SrtKy
namespace L2
open PySem PySem.Spec PyProof.Rows
section
variable {X : Cx} {pins : List (Addr × Obj)} {σ : St} {H : Hp} {s : Shared}
end
end L2


/-! sorted(a list of texts, key=a lambda of one parameter that gives an int): the rule -/
namespace L2
open PySem PySem.Spec PyProof.Rows LamX NdefX
/-- sorted(e, key=lambda ..), e a list of texts, the keys ints -/
def tSortLamI (K : PySem.W.Frag) (T : List (Addr × Str)) (q : Str) (N : List Str) (js : List Nat) (ta : TA) (tb : TE) : TE := fun σ H Q => ta σ H fun vs H1 => ∃ x : V, vs = [x] ∧ Tabs T H1 ∧ ∀ (c' : Addr) (H2 : Hp), ExtN H1 H2 → Tabs T H2 → H2 c' = some (CodeO c' q) →
  ∃ (a : Addr) (ks : List Str) (key : Str → Int), x = .ref a ∧ SqL K H2 a (ks.map V.str) ∧ ks.length ≤ sizeLine ∧
    (∀ k ∈ ks, ∀ H, HKeep H2 H → tb (startF N [.str k] (js.map (NdefX.slotAt σ))) H fun v H3 => HKeep H H3 ∧ v = .int (key k)) ∧
    ∀ (ys : List Str) (H3 : Hp) (p : Addr), SrtO.Srtd (SrtKy.ltK key) ys → SrtO.Stb (SrtKy.ltK key) ys ks → HKeep H2 H3 → H3 p = none → Q (.ref p) (upd H3 p (.lst (ys.map V.str)))
section
variable {X : Cx}
end
end L2


/-! toggle_order -/
namespace FT
open PySem L2 TL ClX LiI LamX NdefX
def rLenO (K : PySem.W.Frag) : List V → Hp → VK → Prop := fun xs H Q => ∃ p ys, xs = [.ref p] ∧ (SqL K H p ys ∨ SqT K H p ys) ∧ Q (.int ys.length) H
def dpt (ts : List (Str × Str)) (a : Str) : Int := ((pathOf ts a).length : Int)
/-- shrinking ones, the deepest first, then growing ones, the deepest last -/
def IsTord (ts : List (Str × Str)) (c : Str → Int) (ys : List Str) : Prop := ∃ A B, ys = A ++ B ∧ SrtO.Srtd (SrtKy.ltK fun a => - dpt ts a) A ∧ SrtO.Stb (SrtKy.ltK fun a => - dpt ts a) A ((ts.map Prod.fst).filter fun a => decide (c a < 0)) ∧
  SrtO.Srtd (SrtKy.ltK (dpt ts)) B ∧ SrtO.Stb (SrtKy.ltK (dpt ts)) B ((ts.map Prod.fst).filter fun a => decide (0 < c a))
/-- nothing stands there but at most a table -/
def NewN (H : Hp) (p : Addr) : Prop := ∀ u, H p = some u → ∃ ps, u = .tbl ps
theorem NewN.of {H H' : Hp} {p : Addr} (k : ExtN H H') (h : H' p = none) : NewN H p := fun u e => Classical.byContradiction fun n => by
  have z := k _ _ e fun ps z => n ⟨ps, z⟩
  rw [h] at z
  cases z
theorem NewN.back {H H' : Hp} {p : Addr} (k : ExtN H H') (h : NewN H' p) : NewN H p := fun u e => Classical.byContradiction fun n => by
  obtain ⟨ps, z⟩ := h u (k _ _ e fun ps z => n ⟨ps, z⟩)
  exact n ⟨ps, z⟩
theorem NewN.ne {H : Hp} {p b : Addr} {u : HO} (h : NewN H p) (e : H b = some u) (nt : ∀ ps, u ≠ .tbl ps) : b ≠ p := fun z => by
  subst z
  obtain ⟨ps, w⟩ := h u e
  exact nt ps w
theorem ExtN.put {H H' : Hp} {a : Addr} {o : HO} (k : ExtN H H') (n : NewN H a) : ExtN H (upd H' a o) := fun b u e nt => by
  rw [upd_ne (n.ne e nt)]
  exact k b u e nt
def spTord (T : List (Addr × Str)) (CF : Addr) : Sp := fun vs H Q _ => ∃ (x qc : Addr) (ts : List (Str × Str)) (c : Str → Int), vs = [.ref x, .ref qc] ∧ FAt CF H x ts ∧ TreeOk ts ∧ H qc = some (.dK (tblI (ts.map Prod.fst) c)) ∧ Tabs T H ∧
  ∀ (p : Addr) (ys : List Str) (H' : Hp), ExtN H H' → Tabs T H' → NewN H p → H' p = some (.lst (ys.map V.str)) → IsTord ts c ys → Q (.ref p) H'
section
variable {P : Program} {w : World} {K : PySem.W.Frag} {mg : Str → Option Value} {base : Heap}
abbrev NTo : List Str := ["forest", "changed", "shrinking", "depths", "name"]
end
end FT


/-! d.update(o) of a dict -/
namespace UpD
open PySem PySem.Spec PyProof.Rows L2
def rUpd : V → List V → Hp → VK → Prop := fun x vs H Q => ∃ (d o : Addr) (kd ko : List (Key × V)), x = .ref d ∧ vs = [.ref o] ∧ H d = some (.dK kd) ∧ Rd H o (.dK ko) ∧ d ≠ o ∧ kd.length + ko.length ≤ sizeLine ∧ Q .non (upd H d (.dK (mergeK kd ko)))
theorem mtd_update {X : Cx} : MtR X "dict.update" rUpd := by
  intro pins s σ H x vs v us Q I rx rv h
  obtain ⟨d, o, kd, ko, rfl, rfl, hd, ho, ne, fit, q⟩ := h
  cases rx
  rw [Vals.ref1 rv]
  obtain ⟨zd, sd, xs, rel, dd⟩ := dk_of I.hok hd
  obtain ⟨zo, so, ys, relo, doo⟩ := dk_rd I.hok ho
  have l1 := rel.length
  have l2 := relo.length
  have lm := length_mergeK ko kd
  refine call_meetsIn PySem.F.slot_dict_update dd.typeIs PySem.F.entry_dict_update (PySem.F.args_dict_update_2 _ _) (meets_dict_update (mixKind X.prog X.w) d o ne so) ⟨xs, ys, dd, doo, by omega, fun h' dd' _ same => ?_⟩
  have there : ∃ q, h'.get? d = some q := let ⟨q, _, _, hq, _⟩ := dd'; ⟨q, hq⟩
  exact ⟨.non, _, d_write (t' := s.toks) I (by rw [hd]; exact True.intro) same there (dk_new (by omega) sd (KV.merge relo rel) dd'), rfl, q⟩
end UpD


/-! _law_fits -/
namespace FT
open PySem L2 TL ClX LiI
def fitB (t : List (Str × Str)) (n : Int) (s : Str → Int) : Bool := ((t.map Prod.fst).all fun a => decide (0 ≤ s a)) && ((("" : Str) :: t.map Prod.fst).all fun p => decide (0 ≤ resid t n s p))
theorem fit_fea {t : List (Str × Str)} {n : Int} {s : Str → Int} : fitB t n s = true ↔ Fea t n s := by
  unfold fitB
  rw [Bool.and_eq_true, List.all_eq_true, List.all_eq_true]
  exact ⟨fun h => ⟨fun a ha => of_decide_eq_true (h.1 a ha), fun p hp => of_decide_eq_true (h.2 p hp)⟩, fun h => ⟨fun a ha => decide_eq_true (h.nn a ha), fun p hp => decide_eq_true (h.res p hp)⟩⟩
def spFits : Sp := fun vs H Q _ => ∃ (q qw : Addr) (n : Int) (t : List (Str × Str)) (lo : List Str) (s : Str → Int), vs = [.ref q, .int n, .ref qw] ∧ H q = some (.dK (prs t)) ∧ TreeOk t ∧ H qw = some (.dK (tblI lo s)) ∧ lo.Perm (t.map Prod.fst) ∧ ∀ H', Same H H' → Q (.bl (fitB t n s)) H'
theorem resid_nilF (n : Int) (s : Str → Int) (a : Str) : resid [] n s a = if a = "" then n else s a := by
  unfold resid
  show (if a = "" then n else s a) - 0 = _
  omega
theorem min_ge {is : List Int} {m : Int} (hm : m ∈ is) (low : ∀ j ∈ is, m ≤ j) : (0 ≤ m) ↔ ∀ j ∈ is, 0 ≤ j := ⟨fun h j hj => by have := low j hj; omega, fun h => h m hm⟩
section
variable {P : Program} {w : World} {K : PySem.W.Frag} {mg : Str → Option Value} {base : Heap}
abbrev NFt : List Str := ["_law_parents", "_law_folk", "_law_wide", "_law_left", "_law_name"]
theorem scFt : FnScope NFt ["_law_parents", "_law_folk", "_law_wide"] (defScope s__law_fits) := ⟨rfl, rfl, rfl, by decide +kernel, rfl, by decide +kernel, by decide +kernel⟩
theorem ok_fits {f : Addr} {fd : FuncData} (F : Fun K "_law_fits" "_law_fits" s__law_fits f fd) (N : Nm mg) : FnOk P w K mg base CX0 1 f fd ["_law_parents", "_law_folk", "_law_wide"] spFits := by
  refine F.ok scFt (fun vs H Q E h => ?_) (fun cdv_ A outer s0 H vs Q E hr h => ?_)
  · obtain ⟨q, qw, n, t, lo, s, rfl, _⟩ := h
    rfl
  · obtain ⟨q, qw, n, t, lo, s, rfl, hq, o, hw, plo, k⟩ := h
    have hu := hu_of hr
    have nd := scFt.nd
    have big : 1000 ≤ sizeLine := by decide
    have few := o.few
    refine ⟨_, pss_cons (ps_set (i := 3) nd rfl (.inl rfl) (pe_disp (pps_cons pe_str (pv 1) pps_nil) (by rfl) (by rfl) (fun z => by cases z) (by decide)))
      (pss_cons (ps_expr (pe_bm PySem.F.plainAttrs_dict PySem.F.slot_dict_update PySem.F.type_dict_update UpD.mtd_update (pv 3) (pa_cons (pv 2) pa_nil)))
      (pss_cons (ps_lock (ps_for PassesOwn.never rfl (pi_keys (pv 0)) (pg_name (i := 4) nd rfl (.inl rfl))
        (pss_one (ps_dput hu (pv 3) (pe_dget hu (pv 0) (pv 4) (fun _ _ => rfl)) (pe_op op_sub (pe_dget hu (pv 3) (pe_dget hu (pv 0) (pv 4) (fun _ _ => rfl)) (fun _ _ => rfl)) (pe_dget hu (pv 2) (pv 4) (fun _ _ => rfl))) rfl))))
      (pss_one (ps_ret (pe_and (pe_cmpR op_ge (pe_minVals rfl rfl N.min (pv 2)) pe_int (nomark _)) (pe_one (pe_cmpR op_ge (pe_minVals rfl rfl N.min (pv 3)) pe_int (nomark _)))))))), ?_⟩
    refine fun D nD => ⟨_, rfl, upd_same, [(Sum.inr "", V.int n)], rfl, by show 1 ≤ 15; omega, ?_⟩
    obtain ⟨H1, e1⟩ : ∃ X, X = upd (upd H D (.dK [])) D (.dK (mergeK [] [(Sum.inr "", V.int n)])) := ⟨_, rfl⟩
    have s1 : Same H H1 := e1 ▸ (same_new nD).put nD
    have a1 : H1 D = some (.dK [(Sum.inr "", V.int n)]) := by
      rw [e1, upd_same] <;> rfl
    rw [← e1]
    clear e1
    have Dq : D ≠ q := (ne_of_none hq nD).symm
    have Dw : D ≠ qw := (ne_of_none hw nD).symm
    have ll := plo.length_eq
    rw [List.length_map] at ll
    have nr : ("" : Str) ∉ lo := fun z => o.root (plo.mem_iff.mp z)
    have ndl : lo.Nodup := plo.nodup_iff.mpr o.nd
    refine ⟨_, rfl, .inr (.inr (.inl ⟨rfl, .inl ⟨_, a1⟩⟩)), _, rfl, D, qw, _, _, rfl, rfl, a1, .inl (s1 _ _ hw), Dw, by rw [tblI_len]; show 1 + _ ≤ sizeLine; omega, ?_⟩
    have em : mergeK [(Sum.inr "", V.int n)] (tblI lo s) = tblI ("" :: lo) (resid [] n s) := by
      have z := merge_app (lo.map fun a => (a, V.int (s a))) [("", V.int n)] (by
        rw [List.map_append, map_fst]
        exact List.nodup_cons.mpr ⟨nr, ndl⟩)
      have e1 : kvT [(("" : Str), V.int n)] = ([(Sum.inr ("" : Str), V.int n)] : List (Key × V)) := rfl
      rw [e1] at z
      have e2 : kvT (lo.map fun a => (a, V.int (s a))) = tblI lo s := rfl
      rw [e2] at z
      rw [z]
      unfold tblI
      rw [List.map_cons, resid_nilF, if_pos rfl]
      congr 1
      show ((("" : Str), V.int n) :: lo.map fun a => (a, V.int (s a))) = (("" : Str), V.int n) :: lo.map fun a => (a, V.int (resid [] n s a))
      congr 1
      exact List.map_congr_left fun a ha => by rw [resid_nilF, if_neg fun z => nr (by rw [← z]; exact ha)]
    rw [em]
    obtain ⟨H2, e2⟩ : ∃ X, X = upd H1 D (.dK (tblI ("" :: lo) (resid [] n s))) := ⟨_, rfl⟩
    have s2 : Same H H2 := by rw [e2]; exact s1.put nD
    have a2 : H2 D = some (.dK (tblI ("" :: lo) (resid [] n s))) := by rw [e2]; exact upd_same
    rw [← e2]
    clear e2
    have hq2 := s2 _ _ hq
    refine ⟨q, _, hq2, trivial, fun od => ⟨_, rfl, q, od, rfl, .inl ⟨_, upd_same, ?_⟩⟩⟩
    refine for_it walk_keys (fun j σ' H' => (∃ u4, σ' = [some (.ref q), some (.int n), some (.ref qw), some (.ref D), u4]) ∧ H' q = some (.frz od (.dK (prs t))) ∧ (∀ b u, b ≠ q → H b = some u → H' b = some u) ∧ H' D = some (.dK (tblI ("" :: lo) (resid (t.take j) n s))))
      ⟨⟨_, rfl⟩, upd_same, fun b u nb e => by rw [upd_ne nb]; exact s2 _ _ e, by rw [upd_ne Dq]; exact a2⟩ (fun j σ' H' _ z => z.2.1) ?_ ?_
    · intro j y σ' Ha Hb hj ⟨⟨u4, e⟩, aq, sb, aD⟩ ⟨eb, kk, vv, hk, ey⟩
      subst e
      subst eb
      subst ey
      obtain ⟨⟨a, pa⟩, hp, ee⟩ : ∃ x : Str × Str, t[j]? = some x ∧ (kk, vv) = (Sum.inr x.1, V.str x.2) := by
        unfold prs kvT at hk
        rw [List.map_map, List.getElem?_map] at hk
        obtain ⟨x, hx, z⟩ := Option.map_eq_some_iff.mp hk
        exact ⟨x, hx, z.symm⟩
      cases ee
      rw [show kV (Sum.inr a) = V.str a from rfl]
      have mp := List.mem_of_getElem? hp
      have mk : a ∈ t.map Prod.fst := List.mem_map.mpr ⟨_, mp, rfl⟩
      have ep := par_of o.nd mp
      obtain ⟨rk, r⟩ := o.up
      have mpa : pa ∈ ("" : Str) :: lo := List.mem_cons.mpr ((r _ mp).2.imp id fun z => plo.mem_iff.mpr z.1)
      have dg : DGet Hb q (.str a) (some (.str pa)) := .inl ⟨_, Sum.inr a, .inr ⟨od, aq⟩, rfl, by rw [val_prs, ep] <;> rfl⟩
      have nqh : qw ≠ q := ne_of hw hq (by
        intro z
        have := HO.dK.inj z
        have l1 := congrArg List.length this
        cases t with
        | nil => cases mp
        | cons x t =>
          cases lo with
          | nil => cases l1
          | cons y l => cases this)
      refine ⟨_, rfl, _, rfl, _, rfl, q, _, rfl, dg, D, .int (resid (t.take j) n s pa), rfl, ?_, ?_⟩
      · have z := DGet.k (k := Sum.inr pa) aD
        rw [tblI_val mpa] at z
        exact z
      · refine ⟨_, rfl, _, rfl, qw, .int (s a), rfl, ?_, _, _, rfl, rfl, ?_⟩
        · have z := DGet.k (k := Sum.inr a) (sb _ _ nqh hw)
          rw [tblI_val (plo.mem_iff.mpr mk)] at z
          exact z
        · refine ⟨_, rfl, _, rfl, _, rfl, q, _, rfl, dg, D, _, rfl, DPut.k (k := Sum.inr pa) aD (by rw [tblI_len, List.length_cons]; omega), ⟨_, rfl⟩, by rw [upd_ne Dq.symm]; exact aq, fun b u nb e => ?_, ?_⟩
          · rw [upd_ne (ne_of_none e nD)]
            exact sb b u nb e
          · rw [upd_same, tblI_put mpa, take_more hp]
            congr 2
            refine tblI_congr fun b hb => ?_
            rw [resid_snoc]
            show (if b = pa then _ else _) = if pa = b then _ else _
            by_cases e : b = pa
            · rw [if_pos e, if_pos e.symm, e]
            · rw [if_neg e, if_neg fun z => e z.symm]
    · intro σ' H4 ⟨⟨u4, e⟩, aq, sb, aD⟩
      subst e
      rw [show (prs t).length = t.length from prs_len t, List.take_length] at aD
      refine ⟨aq, ?_⟩
      have s4 : Same H (upd H4 q (.dK (prs t))) := fun b u e => by
        by_cases z : b = q
        · subst z
          rw [hq] at e
          rw [upd_same]
          exact e
        · rw [upd_ne z]
          exact sb b u z e
      have aD4 : (upd H4 q (.dK (prs t))) D = some (.dK (tblI ("" :: lo) (resid t n s))) := by rw [upd_ne Dq]; exact aD
      obtain ⟨H5, e5⟩ : ∃ X, X = upd H4 q (.dK (prs t)) := ⟨_, rfl⟩
      rw [← e5] at s4 aD4 ⊢
      clear e5
      have one := o.one
      have lne : lo ≠ [] := fun z => by
        rw [z] at ll
        have : (0 : Nat) = t.length := ll
        omega
      refine ⟨_, rfl, qw, _, lo.map s, rfl, s4 _ _ hw, (by unfold tblI kvT; rw [List.map_map, List.map_map, List.map_map] <;> rfl), (fun z => lne (List.map_eq_nil_iff.mp z)), fun m hm low => ?_⟩
      have eA : ((t.map Prod.fst).all fun a => decide (0 ≤ s a)) = decide (0 ≤ m) := by
        rw [Bool.eq_iff_iff, List.all_eq_true, decide_eq_true_eq, min_ge hm low]
        constructor
        · intro h j hj
          obtain ⟨a, ha, rfl⟩ := List.mem_map.mp hj
          exact of_decide_eq_true (h a (plo.mem_iff.mp ha))
        · intro h a ha
          exact decide_eq_true (h _ (List.mem_map.mpr ⟨a, plo.mem_iff.mpr ha, rfl⟩))
      refine ⟨_, _, rfl, rfl, _, rfl, ?_⟩
      refine ite2 (fun yes => ?_) fun no => ?_
      · refine ⟨_, rfl, D, _, (("" : Str) :: lo).map (resid t n s), rfl, aD4, (by unfold tblI kvT; rw [List.map_map, List.map_map, List.map_map] <;> rfl), (fun z => by cases z), fun m2 hm2 low2 => ?_⟩
        refine ⟨_, _, rfl, rfl, ?_⟩
        have eB : ((("" : Str) :: t.map Prod.fst).all fun p => decide (0 ≤ resid t n s p)) = decide (0 ≤ m2) := by
          rw [Bool.eq_iff_iff, List.all_eq_true, decide_eq_true_eq, min_ge hm2 low2]
          have pp : ∀ p, p ∈ ("" : Str) :: lo ↔ p ∈ ("" : Str) :: t.map Prod.fst := fun p => (plo.cons _).mem_iff
          constructor
          · intro h j hj
            obtain ⟨a, ha, rfl⟩ := List.mem_map.mp hj
            exact of_decide_eq_true (h a ((pp a).mp ha))
          · intro h a ha
            exact decide_eq_true (h _ (List.mem_map.mpr ⟨a, (pp a).mpr ha, rfl⟩))
        have e : fitB t n s = decide (m2 ≥ 0) := by
          unfold fitB
          rw [eA, eB, show decide (0 ≤ m) = true from yes, Bool.true_and]
        have z := k _ s4
        rw [e] at z
        exact z
      · have e : fitB t n s = false := by
          unfold fitB
          rw [eA, Bool.eq_false_iff.mpr no, Bool.false_and]
        have z := k _ s4
        rw [e] at z
        exact z
end
end FT


/-! _law_step_right -/
namespace FT
open PySem L2 TL ClX LiI
def capB (co : Option (Str → Int)) (x : Int) (a : Str) : Bool := match co with
  | none => true
  | some c => !decide (x > c a)
def kapB (ko : Option Int) (s : Int) : Bool := match ko with
  | none => true
  | some k => decide (s ≤ k)
def okS (h g f : Str → Int) (co : Option (Str → Int)) (a : Str) : Bool := !(decide ((g a - h a) * (f a - h a) < 0) || decide (absI (g a - h a) > absI (f a - h a))) && capB co (absI (g a - h a)) a
def stepR (t : List (Str × Str)) (n : Int) (h g f : Str → Int) (co : Option (Str → Int)) (ko : Option Int) : Bool := (fitB t n g && (t.map Prod.fst).all (okS h g f co)) && kapB ko ((t.map Prod.fst).map fun a => absI (g a - h a)).sum
/-- limits for each flag, or None -/
def CapV (H : Hp) (t : List (Str × Str)) (v : V) : Option (Str → Int) → Prop
  | none => v = .non
  | some c => ∃ q lc, v = .ref q ∧ H q = some (.dK (tblI lc c)) ∧ lc.Perm (t.map Prod.fst)
def KapV (v : V) : Option Int → Prop
  | none => v = .non
  | some k => v = .int k
theorem CapV.mono {H H' : Hp} {t : List (Str × Str)} {v : V} {co : Option (Str → Int)} (s : Same H H') (x : CapV H t v co) : CapV H' t v co := by
  cases co with
  | none => exact x
  | some c =>
    obtain ⟨q, lc, e, h, p⟩ := x
    exact ⟨q, lc, e, s _ _ h, p⟩
def Sm9 (z : Int) : Prop := z.natAbs < 2 ^ 199
def spStepR : Sp := fun vs H Q _ => ∃ (q qh qt qf : Addr) (n : Int) (cv kv : V) (t : List (Str × Str)) (lh lt lf : List Str) (h g f : Str → Int) (co : Option (Str → Int)) (ko : Option Int), vs = [.ref q, .int n, .ref qh, .ref qt, .ref qf, cv, kv] ∧ H q = some (.dK (prs t)) ∧ TreeOk t ∧
  H qh = some (.dK (tblI lh h)) ∧ H qt = some (.dK (tblI lt g)) ∧ H qf = some (.dK (tblI lf f)) ∧ lh.Perm (t.map Prod.fst) ∧ lt.Perm (t.map Prod.fst) ∧ lf.Perm (t.map Prod.fst) ∧ CapV H t cv co ∧ KapV kv ko ∧ (∀ a ∈ t.map Prod.fst, Sm9 (h a) ∧ Sm9 (g a) ∧ Sm9 (f a)) ∧
  ∀ H', Same H H' → Q (.bl (stepR t n h g f co ko)) H'
theorem sml_sub {a b : Int} (x : Sm9 a) (y : Sm9 b) : (a - b).natAbs < 2 ^ 200 := by
  have x : a.natAbs < 2 ^ 199 := x
  have y : b.natAbs < 2 ^ 199 := y
  omega
theorem tbl_prs {H : Hp} {q b : Addr} {t : List (Str × Str)} {l : List Str} {g : Str → Int} (o : TreeOk t) (h1 : H b = some (.dK (tblI l g))) (h2 : H q = some (.dK (prs t))) : b ≠ q := fun e => by
  rw [e, h2] at h1
  have h3 : prs t = tblI l g := by injection (Option.some.inj h1)
  have one := o.one
  cases t with
  | nil => exact absurd one (by decide)
  | cons x t' =>
    cases l with
    | nil => cases h3
    | cons y l'' => cases (Option.some.inj (congrArg List.head? h3 : some ((Sum.inr x.1 : Key), V.str x.2) = some (Sum.inr y, V.int (g y))))
theorem keys_at {t : List (Str × Str)} {i : Nat} {k : Key} {v : V} (h : (prs t)[i]? = some (k, v)) : ∃ a p : Str, k = Sum.inr a ∧ v = .str p ∧ t[i]? = some (a, p) := by
  unfold prs kvT at h
  rw [List.map_map, List.getElem?_map] at h
  obtain ⟨⟨a, p⟩, hp, e⟩ := Option.map_eq_some_iff.mp h
  cases e
  exact ⟨a, p, rfl, rfl, hp⟩
section
variable {P : Program} {w : World} {K : PySem.W.Frag} {mg : Str → Option Value} {base : Heap}
abbrev NSr : List Str := ["_law_parents", "_law_folk", "_law_here", "_law_there", "_law_fresh", "_law_caps_here", "_law_cap", "_law_total", "_law_name", "_law_step"]
theorem scSr : FnScope NSr ["_law_parents", "_law_folk", "_law_here", "_law_there", "_law_fresh", "_law_caps_here", "_law_cap"] (defScope s__law_step_right) := ⟨rfl, rfl, rfl, by decide +kernel, rfl, by decide +kernel, by decide +kernel⟩
theorem ok_stepR {f0 fF : Addr} {fd fdF : FuncData} (F : Fun K "_law_step_right" "_law_step_right" s__law_step_right f0 fd) (N : Nm mg) (FI : Dn P w K mg base CX0 1 "_law_fits" ["_law_parents", "_law_folk", "_law_wide"] spFits fF fdF) :
    FnOk P w K mg base CX0 2 f0 fd ["_law_parents", "_law_folk", "_law_here", "_law_there", "_law_fresh", "_law_caps_here", "_law_cap"] spStepR := by
  refine F.ok scSr (fun vs H Q E h => ?_) (fun cdv_ A outer s0 H vs Q E hr h => ?_)
  · obtain ⟨q, qh, qt, qf, n, cv, kv, t, lh, lt, lf, h, g, f, co, ko, rfl, _⟩ := h
    rfl
  · obtain ⟨q, qh, qt, qf, n, cv, kv, t, lh, lt, lf, h, g, f, co, ko, rfl, hq, o, hh, ht, hf, ph, pt, pf, hcv, hkv, sm, k⟩ := h
    have hu := hu_of hr
    have nd := scSr.nd
    have big : 1000 ≤ sizeLine := by decide
    have few := o.few
    refine ⟨_, pss_cons (ps_if (pt_not (pt_val (pe_call FI.ok hr rfl FI.mgn FI.kp FI.bn .nil pass0 (pa_cons (pv 0) (pa_cons (pv 1) (pa_cons (pv 3) pa_nil)))))) (pss_one (ps_ret pe_bl)) pss_nil)
      (pss_cons (ps_set (i := 7) nd rfl (.inl rfl) pe_int)
      (pss_cons (ps_lock (ps_for PassesOwn.never rfl (pi_keys (pv 0)) (pg_name (i := 8) nd rfl (.inl rfl))
        (pss_cons (ps_set (i := 9) nd rfl (.inl rfl) (pe_op op_sub (pe_dget hu (pv 3) (pv 8) (fun _ _ => rfl)) (pe_dget hu (pv 2) (pv 8) (fun _ _ => rfl))))
        (pss_cons (ps_if (PW.pt (pw_or (pt_cmpR op_lt (pe_op op_mulW (pv 9) (pe_op op_sub (pe_dget hu (pv 4) (pv 8) (fun _ _ => rfl)) (pe_dget hu (pv 2) (pv 8) (fun _ _ => rfl)))) pe_int (nomark _))
            (pw_or1 (pt_cmpR op_gt (pe_callB call_abs (by rfl) N.abs (by decide +kernel) (pa_cons (pv 9) pa_nil)) (pe_callB call_abs (by rfl) N.abs (by decide +kernel) (pa_cons (pe_op op_sub (pe_dget hu (pv 4) (pv 8) (fun _ _ => rfl)) (pe_dget hu (pv 2) (pv 8) (fun _ _ => rfl))) pa_nil)) (nomark _))))) (pss_one (ps_ret pe_bl)) pss_nil)
        (pss_cons (ps_if (PW.pt (pw_and (pt_cmpR op_notN (pv 5) pe_non (nomark _)) (pw_and1 (pt_cmpR op_gt (pe_callB call_abs (by rfl) N.abs (by decide +kernel) (pa_cons (pv 9) pa_nil)) (pe_dget hu (pv 5) (pv 8) (fun _ _ => rfl)) (nomark _))))) (pss_one (ps_ret pe_bl)) pss_nil)
        (pss_one (ps_set (i := 7) nd rfl (.inl rfl) (pe_op op_add (pv 7) (pe_callB call_abs (by rfl) N.abs (by decide +kernel) (pa_cons (pv 9) pa_nil))))))))))
      (pss_one (ps_ret (pe_or (pe_cmpR op_isN (pv 6) pe_non (nomark _)) (pe_one (pe_cmpR op_le (pv 7) (pv 6) (nomark _)))))))), ?_⟩
    refine ⟨_, rfl, _, rfl, _, rfl, q, qt, n, t, lt, g, rfl, hq, o, ht, pt, fun H1 s1 => ⟨_, rfl, ?_⟩⟩
    cases ef : fitB t n g with
    | false =>
      refine iteT ?_
      have z := k H1 s1
      have e : stepR t n h g f co ko = false := by
        unfold stepR
        rw [ef, Bool.false_and, Bool.false_and]
      rw [e] at z
      exact z
    | true =>
    refine iteF ?_
    have hq1 := s1 _ _ hq
    have nh := tbl_prs o hh hq
    have nt := tbl_prs o ht hq
    have nf := tbl_prs o hf hq
    refine ⟨q, _, hq1, trivial, fun od => ⟨_, rfl, q, od, rfl, .inl ⟨_, upd_same, ?_⟩⟩⟩
    have eR : stepR t n h g f co ko = ((t.map Prod.fst).all (okS h g f co) && kapB ko ((t.map Prod.fst).map fun a => absI (g a - h a)).sum) := by
      unfold stepR
      rw [ef, Bool.true_and]
    refine for_it walk_keys (fun j σ' H' => (∃ u8 u9, σ' = [some (.ref q), some (.int n), some (.ref qh), some (.ref qt), some (.ref qf), some cv, some kv, some (.int (((t.map Prod.fst).take j).map fun a => absI (g a - h a)).sum), u8, u9]) ∧ H' q = some (.frz od (.dK (prs t))) ∧ (∀ b u, b ≠ q → H b = some u → H' b = some u) ∧ ((t.map Prod.fst).take j).all (okS h g f co) = true)
      ⟨⟨_, _, rfl⟩, upd_same, fun b u nb e => by rw [upd_ne nb]; exact s1 _ _ e, rfl⟩ (fun j σ' H' _ z => z.2.1) ?_ ?_
    · intro j y σ' Ha Hb hj ⟨⟨u8, u9, e⟩, aq, sb, good⟩ ⟨eb, kk, vv, hk, ey⟩
      subst e
      subst eb
      subst ey
      obtain ⟨a, pa, rfl, rfl, hp⟩ := keys_at hk
      rw [show kV (Sum.inr a) = V.str a from rfl]
      have ha : (t.map Prod.fst)[j]? = some a := by rw [List.getElem?_map, hp] <;> rfl
      have ma := List.mem_of_getElem? ha
      obtain ⟨sh, sg, sf⟩ := sm a ma
      have get : ∀ {b : Addr} {l : List Str} {u : Str → Int}, b ≠ q → H b = some (.dK (tblI l u)) → l.Perm (t.map Prod.fst) → DGet Hb b (.str a) (some (.int (u a))) := fun {b l u} nb e p => by
        have z := DGet.k (k := Sum.inr a) (sb _ _ nb e)
        rw [tblI_val (p.mem_iff.mpr ma)] at z
        exact z
      have dgh := get nh hh ph
      have dgt := get nt ht pt
      have dgf := get nf hf pf
      have sHc : Same H (upd Hb q (.dK (prs t))) := fun b u e => by
        by_cases w : b = q
        · rw [w] at e ⊢
          rw [upd_same, ← e, hq]
        · rw [upd_ne w]
          exact sb b u w e
      have bad : okS h g f co a = false → Hb q = some (.frz od (.dK (prs t))) ∧ Q (.bl false) (upd Hb q (.dK (prs t))) := fun nok => by
        refine ⟨aq, ?_⟩
        have nal : (t.map Prod.fst).all (okS h g f co) = false := by
          rw [List.all_eq_false]
          exact ⟨a, ma, by rw [nok]; decide⟩
        have z := k _ sHc
        rw [eR, nal, Bool.false_and] at z
        exact z
      have sl1 := sml_sub sg sh
      have sl2 := sml_sub sf sh
      refine ⟨_, rfl, _, rfl, qt, .int (g a), rfl, dgt, _, rfl, _, rfl, qh, .int (h a), rfl, dgh, _, _, rfl, rfl, ?_⟩
      obtain ⟨z, ez⟩ : ∃ z, z = g a - h a := ⟨_, rfl⟩
      obtain ⟨w2, ew2⟩ : ∃ w2, w2 = f a - h a := ⟨_, rfl⟩
      show (_ : St → Hp → Prop) [some (.ref q), some (.int n), some (.ref qh), some (.ref qt), some (.ref qf), some cv, some kv, some (.int (((t.map Prod.fst).take j).map fun a => absI (g a - h a)).sum), some (.str a), some (.int (g a - h a))] Hb
      rw [← ez] at sl1 ⊢
      rw [← ew2] at sl2
      refine ⟨_, rfl, _, rfl, _, rfl, qf, .int (f a), rfl, dgf, _, rfl, _, rfl, qh, .int (h a), rfl, dgh, _, _, rfl, rfl, _, _, rfl, rfl, wide_mul sl1 (by rw [← ew2]; exact sl2) (by decide) (by decide) (by decide), _, _, rfl, rfl, _, rfl, ?_⟩
      have notok1 : (z * w2 < 0 ∨ absI z > absI w2) → okS h g f co a = false := fun c => by
        unfold okS
        rw [← ez, ← ew2]
        have : (decide (z * w2 < 0) || decide (absI z > absI w2)) = true := by
          rw [Bool.or_eq_true, decide_eq_true_eq, decide_eq_true_eq]
          exact c
        rw [this] <;> rfl
      rw [← ew2]
      by_cases b1 : z * w2 < 0
      · rw [decide_eq_true b1]
        exact iteT (iteT (bad (notok1 (.inl b1))))
      rw [decide_eq_false b1]
      refine iteF ⟨_, rfl, _, rfl, _, rfl, _, rfl, qf, .int (f a), rfl, dgf, _, rfl, _, rfl, qh, .int (h a), rfl, dgh, _, _, rfl, rfl, _, rfl, _, _, rfl, rfl, _, rfl, ?_⟩
      rw [← ew2]
      show if decide (absI z > absI w2) = true then _ else _
      by_cases b2 : absI z > absI w2
      · rw [decide_eq_true b2]
        exact iteT (bad (notok1 (.inr b2)))
      rw [decide_eq_false b2]
      refine iteF ⟨_, rfl, rfl, _, rfl, ?_⟩
      have eok : okS h g f co a = capB co (absI z) a := by
        unfold okS
        rw [← ez, ← ew2, decide_eq_false b1, decide_eq_false b2]
        show (true && _) = _
        rw [Bool.true_and]
      have fin : okS h g f co a = true → (∃ u8 u9, ([some (.ref q), some (.int n), some (.ref qh), some (.ref qt), some (.ref qf), some cv, some kv, some (.int ((((t.map Prod.fst).take j).map fun a => absI (g a - h a)).sum + (if z < 0 then -z else z))), some (.str a), some (.int z)] : St) = [some (.ref q), some (.int n), some (.ref qh), some (.ref qt), some (.ref qf), some cv, some kv, some (.int (((t.map Prod.fst).take (j + 1)).map fun a => absI (g a - h a)).sum), u8, u9]) ∧ Hb q = some (.frz od (.dK (prs t))) ∧ (∀ b u, b ≠ q → H b = some u → Hb b = some u) ∧ ((t.map Prod.fst).take (j + 1)).all (okS h g f co) = true := fun ok => by
        have esum : (((t.map Prod.fst).take (j + 1)).map fun a => absI (g a - h a)).sum = (((t.map Prod.fst).take j).map fun a => absI (g a - h a)).sum + (if z < 0 then -z else z) := by
          rw [take_more ha, List.map_append, List.sum_append]
          show _ + (absI (g a - h a) + 0) = _
          rw [← ez, Int.add_zero] <;> rfl
        rw [esum]
        refine ⟨⟨_, _, rfl⟩, aq, sb, ?_⟩
        rw [take_more ha, List.all_append, good, Bool.true_and]
        show (okS h g f co a && true) = true
        rw [ok] <;> rfl
      cases co with
      | none =>
        have ecv : cv = .non := hcv
        subst ecv
        rw [show decide (V.non = V.non) = true from decide_eq_true rfl]
        refine iteF ?_
        refine iteF ?_
        refine ⟨_, rfl, _, rfl, _, rfl, _, _, rfl, rfl, ?_⟩
        exact fin (by rw [eok] <;> rfl)
      | some cc =>
        obtain ⟨qk, lc, rfl, hck, pc⟩ := hcv
        have dgk := get (tbl_prs o hck hq) hck pc
        rw [show decide (V.ref qk = V.non) = false from decide_eq_false fun z => by cases z]
        refine iteT ⟨_, rfl, _, rfl, _, rfl, _, rfl, qk, .int (cc a), rfl, dgk, _, _, rfl, rfl, _, rfl, ?_⟩
        show if decide (absI z > cc a) = true then _ else _
        have e3 : okS h g f (some cc) a = !decide (absI z > cc a) := eok
        by_cases b3 : absI z > cc a
        · rw [decide_eq_true b3] at e3 ⊢
          exact iteT (bad e3)
        · rw [decide_eq_false b3] at e3 ⊢
          exact iteF ⟨_, rfl, _, rfl, _, rfl, _, _, rfl, rfl, fin e3⟩
    · intro σ' H9 ⟨⟨u8, u9, e⟩, aq, sb, good⟩
      subst e
      rw [show (prs t).length = (t.map Prod.fst).length by rw [prs_len, List.length_map], List.take_length] at good ⊢
      refine ⟨aq, ?_⟩
      have sHc : Same H (upd H9 q (.dK (prs t))) := fun b u e => by
        by_cases w : b = q
        · rw [w] at e ⊢
          rw [upd_same, ← e, hq]
        · rw [upd_ne w]
          exact sb b u w e
      have z := k _ sHc
      rw [eR, good, Bool.true_and] at z
      refine ⟨_, rfl, rfl, _, rfl, ?_⟩
      cases ko with
      | none =>
        rw [show kv = .non from hkv]
        rw [show decide (V.non = V.non) = true from decide_eq_true rfl]
        exact iteT z
      | some kk =>
        rw [show kv = .int kk from hkv]
        rw [show decide (V.int kk = V.non) = false from decide_eq_false fun z => by cases z]
        refine iteF ⟨_, rfl, _, rfl, _, _, rfl, rfl, ?_⟩
        exact z
end
end FT


/-! plan_total (plain): what a step does -/
namespace FT
open PySem L2 TL ClX LiI
def doneI (l c : Int) : Int := if absI c < l then absI c else l
def stp1 (c : Str → Int) (y : Str) (p : Int × (Str → Int)) : Int × (Str → Int) := (p.1 - doneI p.1 (c y), fun a => if a = y then p.2 y + (if 0 < c y then doneI p.1 (c y) else - doneI p.1 (c y)) else p.2 a)
def runT (c : Str → Int) (ys : List Str) (l : Int) (s : Str → Int) : Int × (Str → Int) := ys.foldl (fun p y => stp1 c y p) (l, s)
/-- as much as is left after k steps -/
def lefT (tot lim k : Int) : Int := if tot < k * lim then tot else k * lim
def ptS (c : Str → Int) (ys : List Str) (tot lim : Int) (s : Str → Int) (k : Int) : Str → Int := (runT c ys (lefT tot lim k) s).2
def totC (F : List Str) (c : Str → Int) : Int := (F.map fun a => absI (c a)).sum
def TotE (CU CS CL CT : Addr) (ts : List (Str × Str)) (uv : V) (o1 o2 : Option (List (Key × V))) (lv : V) : Option Err := (amE CU CS ts uv o1 o2).or (if isGe lv 1 = false then some (.e1 CL "name" .non) else if 200 < cdv (totC (ts.map Prod.fst) (amt o1 o2)) (numV lv) then some (.e1 CT "most" (.int 200)) else none)
end FT


/-! need_sizes, is_feasible, amounts, where sizes may be a dict with a key of another kind -/
namespace FT
open PySem L2 TL ClX
def spNSizesM (K : PySem.W.Frag) (CF CU CS : Addr) : Sp := fun vs H Q E => ∃ (x : Addr) (uv sv : V) (ts : List (Str × Str)) (o : Option (List (Key × V))), vs = [.ref x, uv, sv] ∧ FAt CF H x ts ∧ TreeOk ts ∧ IsDat K H uv ∧ SzM K H ts.length sv o ∧ Res H Q E (szE CU CS ts uv o)
def spIsFeaM (K : PySem.W.Frag) (CF CU : Addr) : Sp := fun vs H Q E => ∃ (x : Addr) (uv sv : V) (ts : List (Str × Str)) (o : Option (List (Key × V))), vs = [.ref x, uv, sv] ∧ FAt CF H x ts ∧ TreeOk ts ∧ IsDat K H uv ∧ SzM K H ts.length sv o ∧
  if usersOk uv (10 ^ 30) = true then ∃ n : Int, uv = .int n ∧ ∀ H', Same H H' → Q (.bl (feas ts n o).isNone) H' else Out H E (.e0 CU)
def spAmountsM (K : PySem.W.Frag) (CF CU CS : Addr) : Sp := fun vs H Q E => ∃ (x : Addr) (uv sv nv : V) (ts : List (Str × Str)) (o1 o2 : Option (List (Key × V))), vs = [.ref x, uv, sv, nv] ∧ FAt CF H x ts ∧ TreeOk ts ∧ IsDat K H uv ∧ SzM K H ts.length sv o1 ∧ SzM K H ts.length nv o2 ∧
  match amE CU CS ts uv o1 o2 with
  | none => ∀ p H', Same H H' → H p = none → H' p = some (.dK (tblI (ts.map Prod.fst) (amt o1 o2))) → Q (.ref p) H'
  | some e => Out H E e
section
variable {P : Program} {w : World} {K : PySem.W.Frag} {mg : Str → Option Value} {base : Heap}
theorem scNSzM : FnScope ["forest", "users", "sizes"] ["forest", "users", "sizes"] (defScope s_need_sizes) := ⟨rfl, rfl, rfl, by decide +kernel, rfl, by decide +kernel, by decide +kernel⟩
theorem ok_nsizesM {f fU fF CF CU CS : Addr} {fd fdU fdF : FuncData} {tm : Tok} (F : Fun K "need_sizes" "need_sizes" s_need_sizes f fd) (gM : mg "MOST_COUNTED" = some (.int (10 ^ 30) tm)) (U : Dn P w K mg base (L2.CX P w) 3 "need_users" ["users", "most"] (spUsers K CU) fU fdU)
    (G : Dn P w K mg base (L2.CX P w) 5 "need_feasible" ["forest", "users", "sizes"] (spFeasM K CF CS) fF fdF) : FnOk P w K mg base (L2.CX P w) 6 f fd ["forest", "users", "sizes"] (spNSizesM K CF CU CS) := by
  refine F.okX scNSzM (fun vs H Q E h => ?_) (fun cdv A outer s H vs Q E hr h => ?_)
  · obtain ⟨x, uv, sv, ts, o, rfl, _⟩ := h
    rfl
  · obtain ⟨x, uv, sv, ts, so, rfl, fa, o, du, hz, k⟩ := h
    refine ⟨_, pss_cons (ps_expr (pe_call U.ok (hr.mono (by decide)) rfl U.mgn U.kp U.bn .nil (passes_call (takes_of rfl rfl rfl rfl) (fun _ _ _ _ h => h)) (pa_cons (pv 1) (pa_cons (pe_glob (v := .int (10 ^ 30)) (by rfl) gM ⟨_, rfl⟩) pa_nil))))
      (pss_one (ps_expr (pe_call G.ok hr rfl G.mgn G.kp G.bn .nil (passes_call (takes_of rfl rfl rfl rfl) (fun _ _ _ _ h => h)) (pa_cons (pv 0) (pa_cons (pv 1) (pa_cons (pv 2) pa_nil)))))), ?_⟩
    refine ⟨_, rfl, uv, 10 ^ 30, rfl, du, ?_⟩
    unfold szE at k
    by_cases h : usersOk uv (10 ^ 30) = true
    · rw [if_pos h] at k ⊢
      intro H1 s1
      cases uv with
      | int n => exact ⟨_, rfl, _, rfl, _, rfl, spFeasZ_imp _ _ _ _ ⟨x, n, sv, ts, so, rfl, fa.mono s1, o, hz.mono s1, Res.mono s1 k⟩⟩
      | _ => cases h
    · rw [if_neg h] at k ⊢
      exact k
theorem scAmM : FnScope ["forest", "users", "sizes", "new"] ["forest", "users", "sizes", "new"] (defScope s_amounts) := ⟨rfl, rfl, rfl, by decide +kernel, rfl, by decide +kernel, by decide +kernel⟩
theorem ok_amountsM {f fN fF fA CF CU CS : Addr} {fd fdN fdF fdA : FuncData} (F : Fun K "amounts" "amounts" s_amounts f fd) (N : Dn P w K mg base (L2.CX P w) 6 "need_sizes" ["forest", "users", "sizes"] (spNSizesM K CF CU CS) fN fdN)
    (G : Dn P w K mg base (L2.CX P w) 5 "need_feasible" ["forest", "users", "sizes"] (spFeasM K CF CS) fF fdF) (M : Dn P w K mg base CX0 3 "amounts_of" ["forest", "sizes", "new"] (spAmtOf CF) fA fdA) :
    FnOk P w K mg base (L2.CX P w) 7 f fd ["forest", "users", "sizes", "new"] (spAmountsM K CF CU CS) := by
  refine F.okX scAmM (fun vs H Q E h => ?_) (fun cdv A outer s H vs Q E hr h => ?_)
  · obtain ⟨x, uv, sv, nv, ts, o1, o2, rfl, _⟩ := h
    rfl
  · obtain ⟨x, uv, sv, nv, ts, o1, o2, rfl, fa, o, du, z1, z2, k⟩ := h
    refine ⟨_, pss_cons (ps_expr (pe_call N.ok hr rfl N.mgn N.kp N.bn .nil (passes_call (takes_of rfl rfl rfl rfl) (fun _ _ _ _ h => h)) (pa_cons (pv 0) (pa_cons (pv 1) (pa_cons (pv 2) pa_nil)))))
      (pss_cons (ps_expr (pe_call G.ok (hr.mono (by decide)) rfl G.mgn G.kp G.bn .nil (passes_call (takes_of rfl rfl rfl rfl) (fun _ _ _ _ h => h)) (pa_cons (pv 0) (pa_cons (pv 1) (pa_cons (pv 3) pa_nil)))))
      (pss_one (ps_ret (pe_call M.ok (hr.mono (by decide)) rfl M.mgn M.kp M.bn .nil pass0 (pa_cons (pv 0) (pa_cons (pv 2) (pa_cons (pv 3) pa_nil))))))), ?_⟩
    refine ⟨_, rfl, _, rfl, _, rfl, x, uv, sv, ts, o1, rfl, fa, o, du, z1, ?_⟩
    unfold amE at k
    cases e1 : szE CU CS ts uv o1 with
    | some e =>
      rw [e1] at k
      exact k
    | none =>
      rw [e1] at k
      obtain ⟨n, rfl, n1, n2, f1⟩ := szE_feE e1
      intro H1 s1
      refine ⟨_, rfl, _, rfl, _, rfl, spFeasZ_imp _ _ _ _ ⟨x, n, nv, ts, o2, rfl, fa.mono s1, o, z2.mono s1, ?_⟩⟩
      have k : match feE CS ts n o2 with
        | none => ∀ p H', Same H H' → H p = none → H' p = some (.dK (tblI (ts.map Prod.fst) (amt o1 o2))) → Q (.ref p) H'
        | some e => Out H E e := k
      cases e2 : feE CS ts n o2 with
      | some e =>
        rw [e2] at k
        exact Out.mono s1 k
      | none =>
        rw [e2] at k
        intro H2 s2
        cases o1 with
        | none => exact absurd f1 feE_none
        | some k1 =>
          cases o2 with
          | none => exact absurd e2 feE_none
          | some k2 =>
            obtain ⟨q1, rfl, h1, _⟩ := z1.some
            obtain ⟨q2, rfl, h2, _⟩ := z2.some
            have s := s1.trans s2
            exact ⟨_, rfl, _, rfl, _, rfl, x, q1, q2, ts, k1, k2, rfl, fa.mono s, o, s _ _ h1, s _ _ h2, fun a ha => ((feE_ok f1).2.1 a ha).1, fun a ha => ((feE_ok e2).2.1 a ha).1, fun p H' s' np ap => k p H' (s.trans s') (s.free np) ap⟩
end
end FT


/-! need_limit, need_steps, plan_total -/
namespace FT
open PySem L2 TL ClX LiI LamX
def spNLim (K : PySem.W.Frag) (CL : Addr) : Sp := fun vs H Q E => ∃ lv : V, vs = [lv] ∧ IsDat K H lv ∧ if isGe lv 1 = true then Q .non H else Out H E (.e1 CL "name" .non)
def spNSt (CT : Addr) : Sp := fun vs H Q E => ∃ m : Int, vs = [.int m] ∧ if 200 < m then Out H E (.e1 CT "most" (.int 200)) else Q .non H
def spPlanT (T : List (Addr × Str)) (K : PySem.W.Frag) (CF CU CS CL CT : Addr) : Sp := fun vs H Q E => ∃ (x : Addr) (uv sv nv lv : V) (ts : List (Str × Str)) (o1 o2 : Option (List (Key × V))), vs = [.ref x, uv, sv, nv, lv] ∧ FAt CF H x ts ∧ TreeOk ts ∧ IsDat K H uv ∧ SzM K H ts.length sv o1 ∧ SzM K H ts.length nv o2 ∧ IsDat K H lv ∧ (∀ i, lv = .int i → Sml i) ∧ Tabs T H ∧
  match TotE CU CS CL CT ts uv o1 o2 lv with
  | some e => Out H E e
  | none => ∀ (p : Addr) (rs : List Addr) (ys : List Str) (H' : Hp), ExtN H H' → Tabs T H' → NewN H p → (∀ r ∈ rs, NewN H r) → H' p = some (.lst (rs.map V.ref)) → (0 < cdv (totC (ts.map Prod.fst) (amt o1 o2)) (numV lv) → IsTord ts (amt o1 o2) ys) →
      Paired (fun r (k : Nat) => DcL H' (ts.map Prod.fst) r (ptS (amt o1 o2) ys (totC (ts.map Prod.fst) (amt o1 o2)) (numV lv) (szOf (kvsOf o1)) (k + 1))) rs (List.range (cdv (totC (ts.map Prod.fst) (amt o1 o2)) (numV lv)).toNat) → Q (.ref p) H'
theorem cdv_nn {a l : Int} (h : 0 ≤ a) (l0 : 0 < l) : 0 ≤ cdv a l := by
  unfold cdv
  have h1 : (-a) / l * l ≤ -a := Int.ediv_mul_le _ (by omega)
  have h2 : ¬ 0 < (-a) / l := fun p => by
    have := Int.mul_pos p l0
    omega
  omega
section
variable {P : Program} {w : World} {K : PySem.W.Frag} {mg : Str → Option Value} {base : Heap}
theorem scNs : FnScope ["many"] ["many"] (defScope s_need_steps) := ⟨rfl, rfl, rfl, by decide +kernel, rfl, by decide +kernel, by decide +kernel⟩
theorem ok_nst {f CT IT : Addr} {fd dT : FuncData} {tm : Tok} (F : Fun K "need_steps" "need_steps" s_need_steps f fd) (gM : mg "MOST_STEPS" = some (.int 200 tm)) (S : Er1 P w K mg base "TooMany" "most" CT IT dT) :
    FnOk P w K mg base (L2.CX P w) 3 f fd ["many"] (spNSt CT) := by
  refine F.okX scNs (fun vs H Q E h => ?_) (fun cdv A outer s H vs Q E hr h => ?_)
  · obtain ⟨m, rfl, _⟩ := h
    rfl
  · obtain ⟨m, rfl, k⟩ := h
    refine ⟨_, pss_one (ps_if (pt_cmpR op_gt (pv 0) (pe_glob (v := .int 200) (by rfl) gM ⟨_, rfl⟩) (nomark _)) (pss_one (ps_err1 S rfl (takes_of rfl rfl rfl rfl) (hr.mono (by decide)) rfl (pe_glob (v := .int 200) (by rfl) gM ⟨_, rfl⟩))) pss_nil), ?_⟩
    refine ⟨_, rfl, _, _, rfl, rfl, _, rfl, ?_⟩
    by_cases e : 200 < m
    · rw [if_pos e] at k
      rw [decide_eq_true (show m > 200 from e)]
      exact iteT (out1 (H := H) k Same.refl)
    · rw [if_neg e] at k
      rw [decide_eq_false (show ¬ m > 200 from e)]
      exact iteF k
abbrev NPt : List Str := ["forest", "users", "sizes", "new", "limit", "changed", "total", "many", "found", "step", "left", "name", "here", "done", "amount"]
end
end FT


/-! feasible sizes are at most the users (plain maths) -/
namespace FT
open PySem L2 TL ClX
theorem sum_nnW {f : Str → Int} : ∀ {l : List Str}, (∀ a ∈ l, 0 ≤ f a) → 0 ≤ (l.map f).sum
  | [], _ => Int.le_refl _
  | a :: l, h => by
    rw [List.map_cons, List.sum_cons]
    have := h a (List.mem_cons_self ..)
    have := sum_nnW fun b hb => h b (List.mem_cons_of_mem a hb)
    omega
theorem le_sumW {f : Str → Int} {b : Str} : ∀ {l : List Str}, (∀ a ∈ l, 0 ≤ f a) → b ∈ l → f b ≤ (l.map f).sum
  | a :: l, h, m => by
    rw [List.map_cons, List.sum_cons]
    have h1 := h a (List.mem_cons_self ..)
    have h2 : ∀ c ∈ l, 0 ≤ f c := fun b hb => h b (List.mem_cons_of_mem a hb)
    rcases List.mem_cons.mp m with rfl | m
    · have := sum_nnW h2
      omega
    · have := le_sumW h2 m
      omega
theorem fea_leW {ts : List (Str × Str)} {n : Int} {s : Str → Int} (o : TreeOk ts) (f : Fea ts n s) : ∀ a ∈ ts.map Prod.fst, s a ≤ n := by
  obtain ⟨rk, r⟩ := o.up
  have key : ∀ (m : Nat) (a : Str), a ∈ ts.map Prod.fst → rk a ≤ m → s a ≤ n := by
    intro m
    induction m with
    | zero =>
      intro a ha hm
      obtain ⟨p, hp, h, _⟩ := o.step r ha
      rcases h with e | ⟨_, l⟩
      · have := f.res p (by rw [e]; exact List.mem_cons_self ..)
        have l1 := le_sumW (f := s) (fun c hc => f.nn c (kids_sub hc)) (mem_kids.mpr (par_mem hp))
        unfold resid at this
        rw [if_pos e] at this
        omega
      · omega
    | succ m ih =>
      intro a ha hm
      obtain ⟨p, hp, h, _⟩ := o.step r ha
      have l1 := le_sumW (f := s) (fun c hc => f.nn c (kids_sub hc)) (mem_kids.mpr (par_mem hp))
      rcases h with e | ⟨mp, l⟩
      · have := f.res p (by rw [e]; exact List.mem_cons_self ..)
        unfold resid at this
        rw [if_pos e] at this
        omega
      · have := f.res p (List.mem_cons_of_mem _ mp)
        have ne : p ≠ "" := fun z => o.root (by rw [← z]; exact mp)
        unfold resid at this
        rw [if_neg ne] at this
        have := ih p mp (by omega)
        omega
  exact fun a ha => key (rk a) a ha (Nat.le_refl _)
end FT


/-! fewest and plan, where sizes and limits may be a dict with a key of another kind -/
namespace FT
open PySem L2 TL ClX LiI
def spFewest3 (K : PySem.W.Frag) (CF CU CS CL : Addr) : Sp := fun vs H Q E => ∃ (x : Addr) (uv sv nv lv : V) (ts : List (Str × Str)) (o1 o2 ol : Option (List (Key × V))), vs = [.ref x, uv, sv, nv, lv] ∧ FAt CF H x ts ∧ TreeOk ts ∧ IsDat K H uv ∧ SzM K H ts.length sv o1 ∧ SzM K H ts.length nv o2 ∧ SzM K H ts.length lv ol ∧
  (∀ a ∈ ts.map Prod.fst, Sml (szOf (kvsOf ol) a)) ∧ match amE CU CS ts uv o1 o2 with
  | some e => Out H E e
  | none => match liE CL ts ol with
    | some e => Out H E e
    | none => ∀ (m : Int) (H' : Hp), IsMax m ((ts.map Prod.fst).map fun a => cdv (absI (amt o1 o2 a)) (szOf (kvsOf ol) a)) → Same H H' → Q (.int m) H'
section
variable {P : Program} {w : World} {K : PySem.W.Frag} {mg : Str → Option Value} {base : Heap}
abbrev NFs3 : List Str := ["forest", "users", "sizes", "new", "limits", "changed"]
theorem scFs3 : FnScope NFs3 ["forest", "users", "sizes", "new", "limits"] (defScope s_fewest) := ⟨rfl, rfl, rfl, by decide +kernel, rfl, by decide +kernel, by decide +kernel⟩
theorem ok_fewest3 {f fA fL fO CF CU CS CL : Addr} {fd fdA fdL fdO : FuncData} (F : Fun K "fewest" "fewest" s_fewest f fd) (AM : Dn P w K mg base (L2.CX P w) 7 "amounts" ["forest", "users", "sizes", "new"] (spAmountsM K CF CU CS) fA fdA) (LI : Dn P w K mg base (L2.CX P w) 3 "need_limits" ["forest", "limits"] (spLim K CF CL) fL fdL)
    (FO : Dn P w K mg base CX0 2 "fewest_of" ["changed", "limits"] spFewOf fO fdO) : FnOk P w K mg base (L2.CX P w) 8 f fd ["forest", "users", "sizes", "new", "limits"] (spFewest3 K CF CU CS CL) := by
  refine F.okX scFs3 (fun vs H Q E h => ?_) (fun cdv_ A outer s H vs Q E hr h => ?_)
  · obtain ⟨x, uv, sv, nv, lv, ts, o1, o2, ol, rfl, _⟩ := h
    rfl
  · obtain ⟨x, uv, sv, nv, lv, ts, o1, o2, ol, rfl, fa, o, du, z1, z2, zl, sm, k⟩ := h
    have nd := scFs3.nd
    refine ⟨_, pss_cons (ps_set (i := 5) nd rfl (.inl rfl) (pe_call AM.ok hr rfl AM.mgn AM.kp AM.bn .nil (passes_call (takes_of rfl rfl rfl rfl) (fun _ _ _ _ h => h)) (pa_cons (pv 0) (pa_cons (pv 1) (pa_cons (pv 2) (pa_cons (pv 3) pa_nil))))))
      (pss_cons (ps_expr (pe_call LI.ok (hr.mono (by decide)) rfl LI.mgn LI.kp LI.bn .nil (passes_call (takes_of rfl rfl rfl rfl) (fun _ _ _ _ h => h)) (pa_cons (pv 0) (pa_cons (pv 4) pa_nil))))
      (pss_one (ps_ret (pe_call FO.ok (hr.mono (by decide)) rfl FO.mgn FO.kp FO.bn .nil pass0 (pa_cons (pv 5) (pa_cons (pv 4) pa_nil)))))), ?_⟩
    refine ⟨_, rfl, _, rfl, _, rfl, _, rfl, x, uv, sv, nv, ts, o1, o2, rfl, fa, o, du, z1, z2, ?_⟩
    cases e1 : amE CU CS ts uv o1 o2 with
    | some e =>
      rw [e1] at k
      exact k
    | none =>
      rw [e1] at k
      intro p H1 s1 np hp
      refine ⟨_, rfl, _, rfl, spLimZ_imp _ _ _ _ ⟨x, lv, ts, ol, rfl, fa.mono s1, o, zl.mono s1, ?_⟩⟩
      cases e2 : liE CL ts ol with
      | some e =>
        rw [e2] at k
        exact Out.mono s1 k
      | none =>
        rw [e2] at k
        obtain ⟨kvs, rfl, good⟩ := lims_ok e2
        obtain ⟨ql, rfl, hl, _⟩ := zl.some
        intro H2 s2
        have s02 := s1.trans s2
        have ql_ne : ql ≠ p := fun z => by rw [z, np] at hl; cases hl
        have few := o.few
        have one := o.one
        exact ⟨_, rfl, _, rfl, p, ql, ts.map Prod.fst, amt o1 o2, szOf kvs, kvs, rfl, s2 _ _ hp, s02 _ _ hl, ql_ne, (fun z => by rw [List.map_eq_nil_iff.mp z] at one; cases one), by rw [List.length_map]; omega, o.nd, fun a ha => ⟨(good a ha).1, by have := (good a ha).2; omega, sm a ha⟩, fun m H' hm s' => k m H' hm (s02.trans s')⟩
end

/-! ### plan -/
def spPlan (K : PySem.W.Frag) (CF CU CS CL CT : Addr) : Sp := fun vs H Q E => ∃ (x : Addr) (uv sv nv lv : V) (ts : List (Str × Str)) (o1 o2 ol : Option (List (Key × V))), vs = [.ref x, uv, sv, nv, lv] ∧ FAt CF H x ts ∧ TreeOk ts ∧ IsDat K H uv ∧ SzM K H ts.length sv o1 ∧ SzM K H ts.length nv o2 ∧ SzM K H ts.length lv ol ∧
  (∀ a ∈ ts.map Prod.fst, Sml (szOf (kvsOf ol) a)) ∧ match amE CU CS ts uv o1 o2 with
  | some e => Out H E e
  | none => match liE CL ts ol with
    | some e => Out H E e
    | none => ∀ m : Int, IsMax m ((ts.map Prod.fst).map fun a => cdv (absI (amt o1 o2 a)) (szOf (kvsOf ol) a)) → 0 ≤ m → if 200 < m then Out H E (.e1 CT "most" (.int 200)) else
      ∀ (p : Addr) (rs : List Addr) (H' : Hp), Same H H' → H p = none → H' p = some (.lst (rs.map V.ref)) → Paired (fun r (k : Nat) => DcL H' (ts.map Prod.fst) r (evS (szOf (kvsOf o1)) (amt o1 o2) m (k + 1))) rs (List.range m.toNat) → (∀ r ∈ rs, H r = none) → Q (.ref p) H'
section
variable {P : Program} {w : World} {K : PySem.W.Frag} {mg : Str → Option Value} {base : Heap}
abbrev NPl3 : List Str := ["forest", "users", "sizes", "new", "limits", "many"]
theorem scPl3 : FnScope NPl3 ["forest", "users", "sizes", "new", "limits"] (defScope s_plan) := ⟨rfl, rfl, rfl, by decide +kernel, rfl, by decide +kernel, by decide +kernel⟩
theorem amE_fea {CU CS : Addr} {ts : List (Str × Str)} {uv : V} {o1 o2 : Option (List (Key × V))} (h : amE CU CS ts uv o1 o2 = none) : ∃ (n : Int) (k1 k2 : List (Key × V)), uv = .int n ∧ o1 = some k1 ∧ o2 = some k2 ∧ 1 ≤ n ∧ n ≤ 10 ^ 30 ∧ Fea ts n (szOf k1) ∧ Fea ts n (szOf k2) ∧
    (∀ a ∈ ts.map Prod.fst, valV k1 (Sum.inr a) = some (.int (szOf k1 a))) ∧ (∀ a ∈ ts.map Prod.fst, valV k2 (Sum.inr a) = some (.int (szOf k2 a))) := by
  unfold amE at h
  cases e1 : szE CU CS ts uv o1 with
  | some e => rw [e1] at h; cases h
  | none =>
    rw [e1] at h
    obtain ⟨n, rfl, n1, n2, f1⟩ := szE_feE e1
    have f2 : feE CS ts n o2 = none := h
    cases o1 with
    | none => exact absurd f1 feE_none
    | some k1 =>
      cases o2 with
      | none => exact absurd f2 feE_none
      | some k2 =>
        obtain ⟨_, a1, b1⟩ := feE_ok f1
        obtain ⟨_, a2, b2⟩ := feE_ok f2
        exact ⟨n, k1, k2, rfl, rfl, rfl, n1, n2, ⟨fun a ha => (a1 a ha).2, b1⟩, ⟨fun a ha => (a2 a ha).2, b2⟩, fun a ha => (a1 a ha).1, fun a ha => (a2 a ha).1⟩
theorem ok_plan {f fF fN fA fE CF CU CS CL CT : Addr} {fd fdF fdN fdA fdE : FuncData} (F : Fun K "plan" "plan" s_plan f fd) (FW : Dn P w K mg base (L2.CX P w) 8 "fewest" ["forest", "users", "sizes", "new", "limits"] (spFewest3 K CF CU CS CL) fF fdF)
    (NS : Dn P w K mg base (L2.CX P w) 3 "need_steps" ["many"] (spNSt CT) fN fdN) (AO : Dn P w K mg base CX0 3 "amounts_of" ["forest", "sizes", "new"] (spAmtOf CF) fA fdA) (EV : Dn P w K mg base CX0 1 "even_steps" ["sizes", "changed", "many"] spEven fE fdE) :
    FnOk P w K mg base (L2.CX P w) 9 f fd ["forest", "users", "sizes", "new", "limits"] (spPlan K CF CU CS CL CT) := by
  refine F.okX scPl3 (fun vs H Q E h => ?_) (fun cdv_ A outer s H vs Q E hr h => ?_)
  · obtain ⟨x, uv, sv, nv, lv, ts, o1, o2, ol, rfl, _⟩ := h
    rfl
  · obtain ⟨x, uv, sv, nv, lv, ts, o1, o2, ol, rfl, fa, o, du, z1, z2, zl, sm, k⟩ := h
    have nd := scPl3.nd
    refine ⟨_, pss_cons (ps_set (i := 5) nd rfl (.inl rfl) (pe_call FW.ok hr rfl FW.mgn FW.kp FW.bn .nil (passes_call (takes_of rfl rfl rfl rfl) (fun _ _ _ _ h => h)) (pa_cons (pv 0) (pa_cons (pv 1) (pa_cons (pv 2) (pa_cons (pv 3) (pa_cons (pv 4) pa_nil)))))))
      (pss_cons (ps_expr (pe_call NS.ok (hr.mono (by decide)) rfl NS.mgn NS.kp NS.bn .nil (passes_call (takes_of rfl rfl rfl rfl) (fun _ _ _ _ h => h)) (pa_cons (pv 5) pa_nil)))
      (pss_one (ps_ret (pe_call EV.ok (hr.mono (by decide)) rfl EV.mgn EV.kp EV.bn .nil pass0 (pa_cons (pv 2) (pa_cons (pe_call AO.ok (hr.mono (by decide)) rfl AO.mgn AO.kp AO.bn .nil pass0 (pa_cons (pv 0) (pa_cons (pv 2) (pa_cons (pv 3) pa_nil)))) (pa_cons (pv 5) pa_nil))))))), ?_⟩
    refine ⟨_, rfl, _, rfl, _, rfl, _, rfl, _, rfl, x, uv, sv, nv, lv, ts, o1, o2, ol, rfl, fa, o, du, z1, z2, zl, sm, ?_⟩
    cases e1 : amE CU CS ts uv o1 o2 with
    | some e =>
      rw [e1] at k
      exact k
    | none =>
      rw [e1] at k
      cases e2 : liE CL ts ol with
      | some e =>
        rw [e2] at k
        exact k
      | none =>
        rw [e2] at k
        intro m H1 hm s1
        obtain ⟨n, k1, k2, rfl, rfl, rfl, n1, n30, f1, f2, v1, v2⟩ := amE_fea e1
        obtain ⟨kvs, rfl, good⟩ := lims_ok e2
        have m0 : 0 ≤ m := by
          obtain ⟨a, ha, e⟩ := List.mem_map.mp hm.1
          rw [← e]
          refine cdv_nn ?_ (show 0 < szOf kvs a by have := (good a ha).2; omega)
          unfold absI
          split <;> omega
        have k := k m hm m0
        refine ⟨_, rfl, m, rfl, ?_⟩
        by_cases e200 : 200 < m
        · rw [if_pos e200] at k ⊢
          exact Out.mono s1 k
        rw [if_neg e200] at k ⊢
        obtain ⟨q1, rfl, h1, _⟩ := z1.some
        obtain ⟨q2, rfl, h2, _⟩ := z2.some
        refine ⟨_, rfl, _, rfl, _, rfl, _, rfl, x, q1, q2, ts, k1, k2, rfl, fa.mono s1, o, s1 _ _ h1, s1 _ _ h2, v1, v2, fun p H2 s2 np hp => ⟨_, rfl, ?_⟩⟩
        have few := o.few
        have sml : ∀ a ∈ ts.map Prod.fst, Sml (szOf k2 a - szOf k1 a) := fun a ha => by
          have := fea_leW o f1 a ha
          have := fea_leW o f2 a ha
          have := f1.nn a ha
          have := f2.nn a ha
          show (szOf k2 a - szOf k1 a).natAbs < 2 ^ 200
          omega
        have em : (m.toNat : Int) = m := by omega
        refine ⟨q1, p, m.toNat, ts.map Prod.fst, szOf k1, fun a => szOf k2 a - szOf k1 a, k1, (by rw [em] <;> rfl), s2 _ _ (s1 _ _ h1), v1, hp, (fun z => by rw [← z, s1 _ _ h1] at np; cases np), by rw [List.length_map]; omega, o.nd, by omega, sml, fun p' rs H3 s3 np' hp' pr nr => ?_⟩
        have s13 := s1.trans (s2.trans s3)
        refine k p' rs H3 s13 ((s1.trans s2).free np') hp' ?_ fun r hr => (s1.trans s2).free (nr r hr)
        rw [em] at pr
        exact pr
end
end FT


/-! plain: pairs in order and turned about -/
namespace FT
open PySem L2 TL ClX LiI
theorem pair_app {α β : Type} {F : α → β → Prop} : ∀ {xs xs' : List α} {ys ys' : List β}, Paired F xs ys → Paired F xs' ys' → Paired F (xs ++ xs') (ys ++ ys')
  | _, _, _, _, .nil, q => q
  | _, _, _, _, .cons h t, q => .cons h (pair_app t q)
theorem pair_rev {α β : Type} {F : α → β → Prop} : ∀ {xs : List α} {ys : List β}, Paired F xs ys → Paired F xs.reverse ys.reverse
  | _, _, .nil => .nil
  | _, _, .cons h t => by
    rw [List.reverse_cons, List.reverse_cons]
    exact pair_app (pair_rev t) (.cons h .nil)
theorem pair_imp {α β : Type} {F G : α → β → Prop} (m : ∀ x y, F x y → G x y) : ∀ {xs : List α} {ys : List β}, Paired F xs ys → Paired G xs ys
  | _, _, .nil => .nil
  | _, _, .cons h t => .cons (m _ _ h) (pair_imp m t)
theorem tblI_rev (l : List Str) (s : Str → Int) : (tblI l s).reverse = tblI l.reverse s := by
  rw [tblV_int, tblV_int]
  unfold tblV kvT
  rw [← List.map_reverse, ← List.map_reverse]
def spFlip : Sp := fun vs H Q _ => ∃ (q : Addr) (l : List Str) (s : Str → Int), vs = [.ref q] ∧ H q = some (.dK (tblI l s)) ∧ l.Nodup ∧ l.length ≤ 64 ∧ ∀ (p : Addr) (H' : Hp), Same H H' → H p = none → H' p = some (.dK (tblI l.reverse s)) → Q (.ref p) H'
end FT


/-! _law_bent_sizes -/
namespace FT
open PySem L2 TL ClX LiI
def spBentB (K : PySem.W.Frag) : Sp := fun vs H Q _ => ∃ (d l i q qw : Addr) (b : Int) (t : List (Str × Str)) (lo : List Str) (s : Str → Int), vs = [.ref d, .ref q, .ref qw] ∧ DrawB H d l i b ∧ b + 10 ≤ 10 ^ 12 ∧ H q = some (.dK (prs t)) ∧ TreeOk t ∧ H qw = some (.dK (tblI lo s)) ∧ lo.Perm (t.map Prod.fst) ∧
  ∀ (sv : V) (o : Option (List (Key × V))) (H' : Hp), (∀ H'', KeepX [d, l] H' H'' → BentV K H'' t.length sv o) → DrawB H' d l i (b + 10) → KeepX [d, l] H H' → Q sv H'
theorem putK_mem {kvs : List (Key × V)} {k : Key} {v : V} {p : Key × V} (h : p ∈ putK kvs k v) : (p.1 = k ∧ p.2 = v) ∨ p ∈ kvs := by
  unfold putK at h
  split at h
  · obtain ⟨c, hc, e⟩ := List.mem_map.mp h
    by_cases z : c.1 = k
    · rw [if_pos z] at e
      exact .inl ⟨by rw [← e]; exact z, by rw [← e]⟩
    · rw [if_neg z] at e
      exact .inr (e ▸ hc)
  · rcases List.mem_append.mp h with h | h
    · exact .inr h
    · rw [List.mem_singleton.mp h]
      exact .inl ⟨rfl, rfl⟩
theorem putK_keys {kvs : List (Key × V)} {k : Key} {v : V} (h : k ∈ kvs.map (·.1)) : (putK kvs k v).map (·.1) = kvs.map (·.1) := by
  unfold putK
  have a : (kvs.any fun kv => decide (kv.1 = k)) = true := by
    obtain ⟨c, hc, e⟩ := List.mem_map.mp h
    exact List.any_eq_true.mpr ⟨c, hc, decide_eq_true e⟩
  rw [if_pos a, List.map_map]
  refine List.map_congr_left fun c _ => ?_
  show (if c.1 = k then (c.1, v) else c).1 = c.1
  split <;> rfl
theorem tblI_mem {l : List Str} {s : Str → Int} {p : Key × V} (h : p ∈ tblI l s) : ∃ a, a ∈ l ∧ p = (Sum.inr a, V.int (s a)) := by
  unfold tblI kvT at h
  rw [List.map_map] at h
  obtain ⟨a, ha, e⟩ := List.mem_map.mp h
  exact ⟨a, ha, e.symm⟩
theorem tblI_nd {l : List Str} {s : Str → Int} (h : l.Nodup) : ((tblI l s).map (·.1)).Nodup := by
  rw [tblI_keys]
  exact List.Pairwise.map _ (fun a b n e => n (Sum.inr.inj e)) h
abbrev NBeB : List Str := ["_law_draw", "_law_parents", "_law_wide", "_law_bent", "_law_way", "_law_name", "_law_size"]
section
variable {P : Program} {w : World} {K : PySem.W.Frag} {mg : Str → Option Value} {base : Heap}
theorem scBeB : FnScope NBeB ["_law_draw", "_law_parents", "_law_wide"] (defScope s__law_bent_sizes) := ⟨rfl, rfl, rfl, by decide +kernel, rfl, by decide +kernel, by decide +kernel⟩
theorem ok_bentB {f fT fP : Addr} {fd fdT fdP : FuncData} (F : Fun K "_law_bent_sizes" "_law_bent_sizes" s__law_bent_sizes f fd) (T : Nm mg) (DT : Dn P w K mg base CX0 2 "_law_take" ["_law_draw", "_law_size"] spTakeB fT fdT) (DP : Dn P w K mg base CX0 3 "_law_pick" ["_law_draw", "_law_some"] spPickB fP fdP) : FnOk P w K mg base CX0 4 f fd ["_law_draw", "_law_parents", "_law_wide"] (spBentB K) := by
  refine F.ok scBeB (fun vs H Q E h => ?_) (fun cdv A outer s H vs Q E hr h => ?_)
  · obtain ⟨d, l, i, q, qw, b, t, lo, sz, rfl, _⟩ := h
    rfl
  · obtain ⟨d, l, i, q, qw, b, t, lo, sz, rfl, hD, bb, hq, o, hw, pm, k⟩ := h
    have hu := hu_of hr
    have hu3 := Nat.lt_of_le_of_lt (Nat.add_le_add_left (show 2 ≤ 64 by decide) _) hr.units
    have hr2 : Room 2 _ := hr.mono (by decide)
    have nd := scBeB.nd
    have big : 1000 ≤ sizeLine := by decide
    have few := o.few
    refine ⟨_, pss_cons (ps_par (i := 3) (j := 4) rfl nd rfl rfl (by decide) rfl rfl (pa_cons (pe_callTy call_dictD (by rfl) T.dct (by decide +kernel) (pa_cons (pv 2) pa_nil)) (pa_cons (pe_call DT.ok hr2 rfl DT.mgn DT.kp DT.bn .nil pass0 (pa_cons (pv 0) (pa_cons pe_int pa_nil))) pa_nil)) (by rfl))
      (pss_cons (ps_set (i := 5) nd rfl (.inl rfl) (pe_call DP.ok hr rfl DP.mgn DP.kp DP.bn .nil pass0 (pa_cons (pv 0) (pa_cons (pe_callB (call_sortedD rfl) (by rfl) T.srt (by decide +kernel) (pa_cons (pv 1) pa_nil)) pa_nil))))
      (pss_cons (ps_set (i := 6) nd rfl (.inl rfl) (pe_dget2 hu (pv 3) (pv 5) pe_int ⟨rfl, rfl, rfl, rfl⟩))
      (pss_cons (ps_if (PW.pt (pw_and (pt_val (pe_callB call_isi (by rfl) T.isi (by decide +kernel) (pa_cons (pv 6) (pa_cons (pe_bltn (v := .ty "int") (u := .type "int") (by rfl) T.int (by decide +kernel) rfl) pa_nil)))) (pw_and1 (pt_cmpR op_lt (pv 4) pe_int (nomark _)))))
          (pss_one (ps_dput hu (pv 3) (pv 5) (pe_call DP.ok hr rfl DP.mgn DP.kp DP.bn .nil pass0 (pa_cons (pv 0) (pa_cons (pe_lst (pa_cons (pe_op op_add (pv 6) pe_int) (pa_cons (pe_op op_sub (pv 6) pe_int) (pa_cons (pe_un un_neg pe_int) (pa_cons pe_bl (pa_cons pe_non (pa_cons pe_str (pa_cons (pe_lst (pa_cons pe_int pa_nil)) (pa_cons (pe_op op_pow pe_int pe_int) (pa_cons pe_int (pa_cons pe_int pa_nil))))))))))) pa_nil))) rfl)) pss_nil)
      (pss_cons (ps_if (pt_cmpR op_eq (pv 4) pe_int (nomark _)) (pss_one (ps_expr (pe_dpop2 (pv 3) (pv 5) pe_non ⟨rfl, rfl, rfl, rfl⟩))) pss_nil)
      (pss_cons (ps_if (pt_cmpR op_eq (pv 4) pe_int (nomark _)) (pss_one (ps_rput hu3 (pv 3) (pe_call DP.ok hr rfl DP.mgn DP.kp DP.bn .nil pass0 (pa_cons (pv 0) (pa_cons (pe_lst (pa_cons pe_str (pa_cons pe_str (pa_cons pe_int (pa_cons pe_non (pa_cons (pe_tup (pa_cons pe_str pa_nil)) pa_nil)))))) pa_nil))) pe_int rfl)) pss_nil)
      (pss_one (ps_ret (pe_ifExp (pt_cmpR op_lt (pv 4) pe_int (nomark _)) (pv 3) (pe_call DP.ok hr rfl DP.mgn DP.kp DP.bn .nil pass0 (pa_cons (pv 0) (pa_cons (pe_lst (pa_cons pe_non (pa_cons pe_int (pa_cons pe_str (pa_cons (pe_lst pa_nil) (pa_cons pe_dnewK (pa_cons (pe_listItems rfl (pv 2) (by rfl) T.lst (by decide +kernel)) (pa_cons pe_bl pa_nil)))))))) pa_nil))))))))))), ?_⟩
    refine ⟨_, rfl, qw, _, rfl, .inl hw, fun pf npf => ?_⟩
    have s1 := same_new (o := .dK (tblI lo sz)) npf
    refine ⟨_, rfl, d, l, i, b, 6, rfl, hD.mono s1, by omega, by decide, by decide, fun wy H2 w0 w6 dr2 k2 => ⟨_, _, rfl, ?_⟩⟩
    have pfd := hD.apart npf
    have qwd : qw ≠ d ∧ qw ≠ l := by
      obtain ⟨lf, tn, lg, it, a1, a2, a3, _⟩ := hD
      refine ⟨ne_of hw a1 fun z => ?_, ne_of hw a2 (by intro z; cases z)⟩
      have z := congrArg (fun kvs => (List.head? kvs).map Prod.snd) (HO.dK.inj z)
      cases lo with
      | nil => cases z
      | cons _ _ => cases z
    have qd := hD.off_prs hq
    have hq2 := kx_at k2 (s1 _ _ hq) qd.1 qd.2.1
    have hf2 := kx_at k2 (show (upd H pf (.dK (tblI lo sz))) pf = _ from upd_same) pfd.1 pfd.2.1
    refine ⟨_, rfl, _, rfl, q, prs t, t.map Prod.fst, rfl, .inl hq2, prs_keys t, by rw [List.length_map]; omega, fun ks pn pks srt npn => ?_⟩
    have s2 := same_new (o := .lst (ks.map V.str)) npn
    have pnd := dr2.apart npn
    have lks := pks.length_eq
    rw [List.length_map] at lks
    refine ⟨d, l, i, pn, _, ks.map V.str, rfl, dr2.mono s2, by omega, upd_same, pnd.2.1, (fun z => by have := List.map_eq_nil_iff.mp z; have one := o.one; rw [this, List.length_nil] at lks; omega), by rw [List.length_map]; omega, fun x H3 xm dr3 k3 => ?_⟩
    obtain ⟨a, ma, rfl⟩ := List.mem_map.mp xm
    have hf3 := kx_at k3 (s2 _ _ hf2) pfd.1 pfd.2.1
    have mlo : a ∈ lo := pm.mem_iff.mpr (pks.mem_iff.mp ma)
    refine ⟨_, rfl, pf, rfl, .inl ⟨_, .inl hf3⟩, _, rfl, some (.int (sz a)), by have z := DGet.k (k := Sum.inr a) hf3; rw [tblI_val mlo] at z; exact z, ?_⟩
    have k03 : KeepX [d, l] H H3 := ((KeepX.of_same s1).trans k2).trans ((KeepX.of_same s2).trans k3)
    have llo : lo.length = t.length := by rw [pm.length_eq, List.length_map]
    have lnd : lo.Nodup := pm.nodup_iff.mpr o.nd
    have nmlo : ∀ a ∈ lo, NameL a := fun a ha => o.nm a (pm.mem_iff.mp ha)
    have done : ∀ (kvs : List (Key × V)) (H' : Hp), H' pf = some (.dK kvs) → (∀ H'', KeepX [d, l] H' H'' → ∀ p ∈ kvs, IsDat K H'' p.2) → (kvs.map (·.1)).Nodup → kvs.length ≤ 13 → (∀ p ∈ kvs, KeyB p.1) → DrawB H' d l i (b + 10) → KeepX [d, l] H H' → Q (.ref pf) H' :=
      fun kvs H' h1 h2 h3 h4 h5 h6 h7 => k (.ref pf) (some kvs) H' (fun H'' kx => ⟨pf, rfl, kx_at kx h1 pfd.1 pfd.2.1, h2 H'' kx, h3, h4, h5⟩) h6 h7
    have tdat : ∀ (H' : Hp), ∀ p ∈ tblI lo sz, IsDat K H' p.2 := fun H' p hp => by
      obtain ⟨a, _, rfl⟩ := tblI_mem hp
      exact ⟨_, .int _⟩
    have tkey : ∀ p ∈ tblI lo sz, KeyB p.1 := fun p hp => by
      obtain ⟨a, ha, rfl⟩ := tblI_mem hp
      exact .inl (nmlo a ha)
    refine ⟨_, rfl, .int (sz a), _, _, _, _, rfl, .ty _, .base (.int _), kit_ty (r := true) (by decide +kernel), _, rfl, ?_⟩
    show if true = true then _ else _
    rw [if_pos rfl]
    refine ⟨_, rfl, wy, 3, rfl, rfl, _, rfl, ?_⟩
    by_cases c3 : wy < 3
    · rw [decide_eq_true c3]
      refine iteT ?_
      refine ⟨_, rfl, _, rfl, _, _, rfl, rfl, _, rfl, _, _, rfl, rfl, 1, rfl, by show 1 ≤ sizeLine; omega, fun p1 np1 => ?_⟩
      have s4 := same_new (o := .lst [.int 1]) np1
      refine ⟨_, _, rfl, rfl, ⟨by decide, by decide, by decide⟩, by show 10 ≤ sizeLine; omega, fun pl npl => ?_⟩
      obtain ⟨xs, exs⟩ : ∃ xs : List V, xs = [.int (sz a + 1), .int (sz a - 1), .int (-1), .bl true, .non, .str "1", .ref p1, .int (10 ^ (30 : Int).toNat), .int 0, .int 61] := ⟨_, rfl⟩
      have s5 : Same (upd H3 p1 (.lst [.int 1])) (upd (upd H3 p1 (.lst [.int 1])) pl (.lst xs)) := same_new npl
      obtain ⟨H5, e5⟩ : ∃ X, X = upd (upd H3 p1 (.lst [.int 1])) pl (.lst xs) := ⟨_, rfl⟩
      have s35 : Same H3 H5 := e5 ▸ s4.trans s5
      have h1 : H5 p1 = some (.lst [.int 1]) := by rw [e5]; exact s5 _ _ upd_same
      have hl5 : H5 pl = some (.lst xs) := by rw [e5]; exact upd_same
      have dr5 := dr3.mono s35
      have pld := (dr3.mono s4).apart npl
      have p1d := dr3.apart np1
      subst exs
      rw [← e5]
      refine ⟨d, l, i, pl, _, _, rfl, dr5, by omega, hl5, pld.2.1, List.cons_ne_nil _ _, (by show 10 ≤ 1000; omega), fun x H6 xm dr6 k6 => ?_⟩
      have hf6 := kx_at k6 (s35 _ _ hf3) pfd.1 pfd.2.1
      have h16 := kx_at k6 h1 p1d.1 p1d.2.1
      have mk : (Sum.inr a : Key) ∈ (tblI lo sz).map (·.1) := by rw [tblI_keys]; exact List.mem_map.mpr ⟨a, mlo, rfl⟩
      have kk := putK_keys (v := x) mk
      have kl : (putK (tblI lo sz) (Sum.inr a) x).length = lo.length := by
        have e := congrArg List.length kk
        rw [List.length_map, List.length_map, tblI_len] at e
        exact e
      refine ⟨_, rfl, _, rfl, pf, _, rfl, DPut.k (k := Sum.inr a) hf6 (by rw [tblI_len]; omega), ?_⟩
      refine ⟨_, rfl, rfl, _, rfl, ?_⟩
      rw [decide_eq_false (show ¬ V.int wy = V.int 3 from fun z => by have := V.int.inj z; omega)]
      refine iteF ?_
      refine ⟨_, rfl, rfl, _, rfl, ?_⟩
      rw [decide_eq_false (show ¬ V.int wy = V.int 4 from fun z => by have := V.int.inj z; omega)]
      refine iteF ?_
      refine ⟨_, rfl, wy, 5, rfl, rfl, _, rfl, ?_⟩
      rw [decide_eq_true (show wy < 5 by omega)]
      refine iteT ⟨_, rfl, done (putK (tblI lo sz) (Sum.inr a) x) _ upd_same (fun H'' kx p hp => ?_) ?_ (by omega) (fun p hp => ?_) (dr6.more (by omega) |>.off pfd.1 pfd.2.1 pfd.2.2) (fun b' u nb e => ?_)⟩
      · have h1u : (upd H6 pf (.dK (putK (tblI lo sz) (Sum.inr a) x))) p1 = some (.lst [.int 1]) := by
          rw [upd_ne (ne_of h16 hf6 (by intro z; cases z))]
          exact h16
        have xd' : IsDat K H'' x := by
          simp only [List.mem_cons, List.not_mem_nil, or_false] at xm
          rcases xm with rfl | rfl | rfl | rfl | rfl | rfl | rfl | rfl | rfl | rfl
          all_goals first | exact ⟨_, .int _⟩ | exact ⟨_, .bl _⟩ | exact ⟨_, .non⟩ | exact ⟨_, .str _⟩ | exact ⟨_, .lst (kx_at kx h1u p1d.1 p1d.2.1)⟩
        rcases putK_mem hp with ⟨_, e⟩ | hp
        · rw [e]
          exact xd'
        · exact tdat _ p hp
      · rw [kk]
        exact tblI_nd lnd
      · rcases putK_mem hp with ⟨e, _⟩ | hp
        · rw [e]
          exact .inl (nmlo a mlo)
        · exact tkey p hp
      · have z := k6 _ _ nb (s35 _ _ (k03 _ _ nb e))
        rw [upd_ne (ne_of_none e npf)]
        exact z
    rw [decide_eq_false c3]
    refine iteF ?_
    by_cases e3 : wy = 3
    · subst e3
      refine ⟨_, rfl, rfl, _, rfl, ?_⟩
      rw [decide_eq_true (rfl : V.int 3 = V.int 3)]
      refine iteT ?_
      refine ⟨_, rfl, pf, rfl, .inl ⟨_, .inl hf3⟩, _, rfl, _, Sum.inr a, hf3, rfl, fun v hv => ?_, fun hn => by rw [tblI_val mlo] at hn; cases hn⟩
      refine ⟨_, rfl, rfl, _, rfl, ?_⟩
      rw [decide_eq_false (show ¬ V.int 3 = V.int 4 from fun z => by have := V.int.inj z; omega)]
      refine iteF ?_
      refine ⟨_, rfl, 3, 5, rfl, rfl, _, rfl, ?_⟩
      rw [decide_eq_true (show (3 : Int) < 5 by omega)]
      refine iteT ⟨_, rfl, done (dropK (tblI lo sz) (Sum.inr a)) _ upd_same (fun H'' kx p hp => tdat _ p (dropK_mem hp)) (nd_dropK (tblI_nd lnd)) (Nat.le_trans (dropK_le _ _) (by rw [tblI_len]; omega)) (fun p hp => tkey p (dropK_mem hp)) (dr3.more (by omega) |>.off pfd.1 pfd.2.1 pfd.2.2) (fun b' u nb e => ?_)⟩
      rw [upd_ne (ne_of_none e npf)]
      exact k03 _ _ nb e
    refine ⟨_, rfl, rfl, _, rfl, ?_⟩
    rw [decide_eq_false (show ¬ V.int wy = V.int 3 from fun z => e3 (V.int.inj z))]
    refine iteF ?_
    refine ⟨_, rfl, rfl, _, rfl, ?_⟩
    by_cases e4 : wy = 4
    · subst e4
      rw [decide_eq_true (rfl : V.int 4 = V.int 4)]
      refine iteT ?_
      refine ⟨_, rfl, _, rfl, by show 1 ≤ sizeLine; omega, fun tp ntp => ⟨by show 5 ≤ sizeLine; omega, fun pl npl => ?_⟩⟩
      have s4 := same_new (o := .tup [.str "a"]) ntp
      have s5 : Same (upd H3 tp (.tup [.str "a"])) (upd (upd H3 tp (.tup [.str "a"])) pl (.lst [.str "other", .str "", .int 3, .non, .ref tp])) := same_new npl
      obtain ⟨H5, e5⟩ : ∃ X, X = upd (upd H3 tp (.tup [.str "a"])) pl (.lst [.str "other", .str "", .int 3, .non, .ref tp]) := ⟨_, rfl⟩
      have s35 : Same H3 H5 := e5 ▸ s4.trans s5
      have h1 : H5 tp = some (.tup [.str "a"]) := by rw [e5]; exact s5 _ _ upd_same
      have hl5 : H5 pl = some (.lst [.str "other", .str "", .int 3, .non, .ref tp]) := by rw [e5]; exact upd_same
      have pld := (dr3.mono s4).apart npl
      have tpd := dr3.apart ntp
      rw [← e5]
      refine ⟨d, l, i, pl, _, _, rfl, dr3.mono s35, by omega, hl5, pld.2.1, List.cons_ne_nil _ _, (by show 5 ≤ 1000; omega), fun y H6 ym dr6 k6 => ?_⟩
      have hf6 := kx_at k6 (s35 _ _ hf3) pfd.1 pfd.2.1
      have h16 := kx_at k6 h1 tpd.1 tpd.2.1
      have kx : ∀ (u' : HO), KeepX [d, l] H (upd H6 pf u') := fun u' b' u nb e => by
        rw [upd_ne (ne_of_none e npf)]
        exact k6 _ _ nb (s35 _ _ (k03 _ _ nb e))
      have drx : ∀ (u' : HO), DrawB (upd H6 pf u') d l i (b + 10) := fun u' => dr6.more (by omega) |>.off pfd.1 pfd.2.1 pfd.2.2
      have finK : ∀ (kk : Key), KeyB kk → Q (.ref pf) (upd H6 pf (.dK (putK (tblI lo sz) kk (.int 0)))) := fun kk kb => by
        refine done _ _ upd_same (fun H'' kx'' p hp => ?_) ?_ (Nat.le_trans (length_putK _ _ _) (by rw [tblI_len]; omega)) (fun p hp => ?_) (drx _) (kx _)
        · rcases putK_mem hp with ⟨_, e⟩ | hp
          · rw [e]
            exact ⟨_, .int _⟩
          · exact tdat _ p hp
        · by_cases mk : kk ∈ (tblI lo sz).map (·.1)
          · rw [putK_keys mk]
            exact tblI_nd lnd
          · refine nd_putK _ (tblI_nd lnd) ?_
            cases e : valV (tblI lo sz) kk with
            | none => rfl
            | some v => exact absurd (valV_in e) mk
        · rcases putK_mem hp with ⟨e, _⟩ | hp
          · rw [e]
            exact kb
          · exact tkey p hp
      have finR : OddK H6 y → (∀ H'', KeepX [d, l] (upd H6 pf (RawO pf (rowsK (tblI lo sz) ++ [(y, V.int 0)]))) H'' → RawK H'' y) → Q (.ref pf) (upd H6 pf (RawO pf (rowsK (tblI lo sz) ++ [(y, V.int 0)]))) := fun _ ry => by
        have ll : (rowsK (tblI lo sz) ++ [(y, V.int 0)]).length = t.length + 1 := by rw [List.length_append, rowsK_len, tblI_len, llo] <;> rfl
        refine k (.ref pf) none _ (fun H'' kx'' => .inr ⟨pf, _, rfl, kx_at kx'' upd_same pfd.1 pfd.2.1, ll, by omega, fun r hr => ?_⟩) (drx _) (kx _)
        rcases List.mem_append.mp hr with hr | hr
        · obtain ⟨p, hp, e⟩ := List.mem_map.mp hr
          obtain ⟨a', ha, rfl⟩ := tblI_mem hp
          exact .inr (.inl ⟨a', by rw [← e] <;> rfl, nmlo a' ha⟩)
        · rw [List.mem_singleton.mp hr]
          exact ry H'' kx''
      have odd : y = .non ∨ y = .ref tp → (OddK H6 y ∧ ∀ H'', KeepX [d, l] (upd H6 pf (RawO pf (rowsK (tblI lo sz) ++ [(y, V.int 0)]))) H'' → RawK H'' y) := fun z => by
        rcases z with rfl | rfl
        · exact ⟨.inl rfl, fun _ _ => .inl rfl⟩
        · have h1u : (upd H6 pf (RawO pf (rowsK (tblI lo sz) ++ [(V.ref tp, V.int 0)]))) tp = some (.tup [.str "a"]) := by
            rw [upd_ne (ne_of h16 hf6 (by intro z; cases z))]
            exact h16
          exact ⟨.inr ⟨tp, [Sum.inr "a"], rfl, h16⟩, fun H'' kx'' => .inr (.inr ⟨tp, rfl, kx_at kx'' h1u tpd.1 tpd.2.1⟩)⟩
      have l15 : (tblI lo sz).length < sizeLine := by rw [tblI_len]; omega
      have four5 : decide ((4 : Int) < 5) = true := by decide
      simp only [List.mem_cons, List.not_mem_nil, or_false] at ym
      rcases ym with rfl | rfl | rfl | rfl | rfl
      · exact ⟨pf, _, rfl, .inl (DPut.k (k := Sum.inr "other") hf6 l15), _, rfl, 4, 5, rfl, rfl, _, rfl, iteT ⟨_, rfl, finK (Sum.inr "other") (.inl (by decide +kernel))⟩⟩
      · exact ⟨pf, _, rfl, .inl (DPut.k (k := Sum.inr "") hf6 l15), _, rfl, 4, 5, rfl, rfl, _, rfl, iteT ⟨_, rfl, finK (Sum.inr "") (.inr rfl)⟩⟩
      · exact ⟨pf, _, rfl, .inl (DPut.k (k := Sum.inl 3) hf6 l15), _, rfl, 4, 5, rfl, rfl, _, rfl, iteT ⟨_, rfl, finK (Sum.inl 3) rfl⟩⟩
      · obtain ⟨o1, o2⟩ := odd (.inl rfl)
        exact ⟨pf, _, rfl, .inr ⟨_, hf6, o1, l15, rfl⟩, _, rfl, 4, 5, rfl, rfl, _, rfl, iteT ⟨_, rfl, finR o1 o2⟩⟩
      · obtain ⟨o1, o2⟩ := odd (.inr rfl)
        exact ⟨pf, _, rfl, .inr ⟨_, hf6, o1, l15, rfl⟩, _, rfl, 4, 5, rfl, rfl, _, rfl, iteT ⟨_, rfl, finR o1 o2⟩⟩
    rw [decide_eq_false (show ¬ V.int wy = V.int 4 from fun z => e4 (V.int.inj z))]
    refine iteF ?_
    refine ⟨_, rfl, wy, 5, rfl, rfl, _, rfl, ?_⟩
    rw [decide_eq_false (show ¬ wy < 5 by omega)]
    refine iteF ?_
    have hw3 : H3 qw = some (.dK (tblI lo sz)) := k03 _ _ (by simp [qwd.1, qwd.2]) hw
    refine ⟨_, rfl, by show 0 ≤ sizeLine; omega, fun pa npa pb npb => ?_⟩
    have sa := same_new (o := .lst []) npa
    have sb : Same (upd H3 pa (.lst [])) (upd (upd H3 pa (.lst [])) pb (.dK [])) := same_new npb
    have s34 := sa.trans sb
    refine ⟨_, rfl, qw, _, rfl, s34 _ _ hw3, fun H5 p1 ts s5 np1 nts pts hp1 prd => ⟨by show 7 ≤ sizeLine; omega, fun pl npl => ?_⟩⟩
    have s35 : Same H3 H5 := Same.trans s34 (fun b o e => s5 b o e)
    have s6 : Same H5 (upd H5 pl (.lst [.non, .int 5, .str "a=1", .ref pa, .ref pb, .ref p1, .bl true])) := same_new npl
    have s36 := s35.trans s6
    have pld := (dr3.mono s35).apart npl
    have pad := dr3.apart npa
    have pbd := (dr3.mono sa).apart npb
    have p1d := (dr3.mono s34).apart np1
    refine ⟨d, l, i, pl, _, _, rfl, dr3.mono s36, by omega, upd_same, pld.2.1, List.cons_ne_nil _ _, (by show 7 ≤ 1000; omega), fun x H6 xm dr6 k6 => ?_⟩
    have kf : KeepX [d, l] H H6 := (k03.trans (KeepX.of_same s36)).trans k6
    have a6 := kx_at k6 (s6 _ _ (s5 _ _ (sb _ _ upd_same))) pad.1 pad.2.1
    have b6 := kx_at k6 (s6 _ _ (s5 _ _ upd_same)) pbd.1 pbd.2.1
    have p6 := kx_at k6 (s6 _ _ hp1) p1d.1 p1d.2.1
    have oth : ∀ (T : String), (∀ H'', KeepX [d, l] H6 H'' → Dat K H'' x T) → T ≠ "dict" → Q x H6 := fun T dd n => k x none H6 (fun H'' kx => .inl ⟨T, dd H'' kx, n⟩) (dr6.more (by omega)) kf
    simp only [List.mem_cons, List.not_mem_nil, or_false] at xm
    rcases xm with rfl | rfl | rfl | rfl | rfl | rfl | rfl
    · exact oth _ (fun _ _ => .non) (by decide)
    · exact oth _ (fun _ _ => .int _) (by decide)
    · exact oth _ (fun _ _ => .str _) (by decide)
    · exact oth _ (fun _ kx => .lst (kx_at kx a6 pad.1 pad.2.1)) (by decide)
    · exact k (.ref pb) (some []) H6 (fun _ kx => ⟨pb, rfl, kx_at kx b6 pbd.1 pbd.2.1, (fun p hp => by cases hp), List.nodup_nil, by show 0 ≤ 13; omega, fun p hp => by cases hp⟩) (dr6.more (by omega)) kf
    · exact oth _ (fun _ kx => .lst (kx_at kx p6 p1d.1 p1d.2.1)) (by decide)
    · exact oth _ (fun _ _ => .bl _) (by decide)
end
end FT


/-! _law_bent_caps -/
namespace FT
open PySem L2 TL ClX LiI
def SmlV (v : V) : Prop := ∀ i : Int, v = .int i → i.natAbs < 2 ^ 200
def spBentCap (K : PySem.W.Frag) : Sp := fun vs H Q _ => ∃ (d l i q qw : Addr) (b : Int) (t : List (Str × Str)) (lo : List Str) (s : Str → Int), vs = [.ref d, .ref q, .ref qw] ∧ DrawB H d l i b ∧ b + 20 ≤ 10 ^ 12 ∧ H q = some (.dK (prs t)) ∧ TreeOk t ∧ H qw = some (.dK (tblI lo s)) ∧ lo.Perm (t.map Prod.fst) ∧ (∀ a ∈ lo, (s a).natAbs < 2 ^ 200) ∧
  ∀ (sv : V) (o : Option (List (Key × V))) (H' : Hp), (∀ H'', KeepX [d, l] H' H'' → BentV K H'' t.length sv o) → (∀ kvs, o = some kvs → ∀ p ∈ kvs, SmlV p.2) → DrawB H' d l i (b + 20) → KeepX [d, l] H H' → Q sv H'
/-- a value that a limit may have -/
def VOk (d l : Addr) (H : Hp) (v : V) : Prop := (∃ i : Int, v = .int i ∧ i.natAbs < 2 ^ 200) ∨ (∃ b, v = .bl b) ∨ v = .non ∨ v = .str "1" ∨ ∃ c, v = .ref c ∧ c ≠ d ∧ c ≠ l ∧ H c = some (.lst [.int 1])
theorem VOk.keep {d l : Addr} {H H' : Hp} {v : V} (k : KeepX [d, l] H H') (h : VOk d l H v) : VOk d l H' v := by
  rcases h with h | h | h | h | ⟨c, e, n1, n2, hc⟩
  · exact .inl h
  · exact .inr (.inl h)
  · exact .inr (.inr (.inl h))
  · exact .inr (.inr (.inr (.inl h)))
  · exact .inr (.inr (.inr (.inr ⟨c, e, n1, n2, kx_at k hc n1 n2⟩)))
theorem VOk.put {d l pf : Addr} {H : Hp} {v : V} {o : HO} {kd : List (Key × V)} (hp : H pf = some (.dK kd)) (h : VOk d l H v) : VOk d l (upd H pf o) v := by
  rcases h with h | h | h | h | ⟨c, e, n1, n2, hc⟩
  · exact .inl h
  · exact .inr (.inl h)
  · exact .inr (.inr (.inl h))
  · exact .inr (.inr (.inr (.inl h)))
  · exact .inr (.inr (.inr (.inr ⟨c, e, n1, n2, by rw [upd_ne (ne_of hc hp (by intro z; cases z))]; exact hc⟩)))
theorem VOk.dat {K : PySem.W.Frag} {d l : Addr} {H : Hp} {v : V} (h : VOk d l H v) : IsDat K H v ∧ SmlV v := by
  rcases h with ⟨i, rfl, sm⟩ | ⟨b, rfl⟩ | rfl | rfl | ⟨c, rfl, n1, n2, hc⟩
  · exact ⟨⟨_, .int _⟩, fun j e => by cases (V.int.inj e); exact sm⟩
  · exact ⟨⟨_, .bl _⟩, fun j e => by cases e⟩
  · exact ⟨⟨_, .non⟩, fun j e => by cases e⟩
  · exact ⟨⟨_, .str _⟩, fun j e => by cases e⟩
  · exact ⟨⟨_, .lst hc⟩, fun j e => by cases e⟩
theorem keys_atC {t : List (Str × Str)} {i : Nat} {k : Key} {v : V} (h : (prs t)[i]? = some (k, v)) : ∃ a p : Str, k = Sum.inr a ∧ v = .str p ∧ t[i]? = some (a, p) := by
  unfold prs kvT at h
  rw [List.map_map, List.getElem?_map] at h
  obtain ⟨⟨a, p⟩, hp, e⟩ := Option.map_eq_some_iff.mp h
  cases e
  exact ⟨a, p, rfl, rfl, hp⟩
abbrev NBc : List Str := ["_law_draw", "_law_parents", "_law_caps_here", "_law_bent", "_law_way", "_law_k"]
section
variable {P : Program} {w : World} {K : PySem.W.Frag} {mg : Str → Option Value} {base : Heap}
theorem scBc : FnScope NBc ["_law_draw", "_law_parents", "_law_caps_here"] (defScope s__law_bent_caps) := ⟨rfl, rfl, rfl, by decide +kernel, rfl, by decide +kernel, by decide +kernel⟩
theorem ok_bentCap {f fT fP : Addr} {fd fdT fdP : FuncData} (F : Fun K "_law_bent_caps" "_law_bent_caps" s__law_bent_caps f fd) (T : Nm mg) (DT : Dn P w K mg base CX0 2 "_law_take" ["_law_draw", "_law_size"] spTakeB fT fdT) (DP : Dn P w K mg base CX0 3 "_law_pick" ["_law_draw", "_law_some"] spPickB fP fdP) : FnOk P w K mg base CX0 4 f fd ["_law_draw", "_law_parents", "_law_caps_here"] (spBentCap K) := by
  refine F.ok scBc (fun vs H Q E h => ?_) (fun cdv A outer s H vs Q E hr h => ?_)
  · obtain ⟨d, l, i, q, qw, b, t, lo, sz, rfl, _⟩ := h
    rfl
  · obtain ⟨d, l, i, q, qw, b, t, lo, sz, rfl, hD, bb, hq, o, hw, pm, sml, k⟩ := h
    have hu := hu_of hr
    have hu3 := Nat.lt_of_le_of_lt (Nat.add_le_add_left (show 2 ≤ 64 by decide) _) hr.units
    have hr2 : Room 2 _ := hr.mono (by decide)
    have nd := scBc.nd
    have big : 1000 ≤ sizeLine := by decide
    have few := o.few
    refine ⟨_, pss_cons (ps_par (i := 3) (j := 4) rfl nd rfl rfl (by decide) rfl rfl (pa_cons (pe_callTy call_dictD (by rfl) T.dct (by decide +kernel) (pa_cons (pv 2) pa_nil)) (pa_cons (pe_call DT.ok hr2 rfl DT.mgn DT.kp DT.bn .nil pass0 (pa_cons (pv 0) (pa_cons pe_int pa_nil))) pa_nil)) (by rfl))
      (pss_cons (ps_for PassesOwn.never rfl (pi_range1 rfl T.rng (pa_cons (pe_op op_mul (pe_op op_add pe_int (pe_call DT.ok hr2 rfl DT.mgn DT.kp DT.bn .nil pass0 (pa_cons (pv 0) (pa_cons pe_int pa_nil)))) (pe_callTy call_int1 (by rfl) T.int (by decide +kernel) (pa_cons (pe_cmpR op_lt (pv 4) pe_int (nomark _)) pa_nil))) pa_nil)) (pg_name (i := 5) nd rfl (.inl rfl))
          (pss_one (ps_dput hu (pv 3) (pe_call DP.ok hr rfl DP.mgn DP.kp DP.bn .nil pass0 (pa_cons (pv 0) (pa_cons (pe_callTy (call_listD rfl) (by rfl) T.lst (by decide +kernel) (pa_cons (pv 1) pa_nil)) pa_nil)))
            (pe_call DP.ok hr rfl DP.mgn DP.kp DP.bn .nil pass0 (pa_cons (pv 0) (pa_cons (pe_lst (pa_cons pe_int (pa_cons (pe_un un_neg pe_int) (pa_cons pe_bl (pa_cons pe_non (pa_cons pe_str (pa_cons (pe_lst (pa_cons pe_int pa_nil)) (pa_cons (pe_op op_pow pe_int pe_int) pa_nil)))))))) pa_nil))) rfl)))
      (pss_cons (ps_if (pt_cmpR op_eq (pv 4) pe_int (nomark _)) (pss_one (ps_expr (pe_dpop1 (pv 3) (pe_call DP.ok hr rfl DP.mgn DP.kp DP.bn .nil pass0 (pa_cons (pv 0) (pa_cons (pe_callB (call_sortedD rfl) (by rfl) T.srt (by decide +kernel) (pa_cons (pv 1) pa_nil)) pa_nil))) ⟨rfl, rfl, rfl, rfl⟩))) pss_nil)
      (pss_cons (ps_if (pt_cmpR op_eq (pv 4) pe_int (nomark _)) (pss_one (ps_rput hu3 (pv 3) (pe_call DP.ok hr rfl DP.mgn DP.kp DP.bn .nil pass0 (pa_cons (pv 0) (pa_cons (pe_lst (pa_cons pe_str (pa_cons pe_str (pa_cons pe_int (pa_cons pe_non pa_nil))))) pa_nil))) pe_int rfl)) pss_nil)
      (pss_one (ps_ret (pe_ifExp (pt_cmpR op_lt (pv 4) pe_int (nomark _)) (pv 3) (pe_call DP.ok hr rfl DP.mgn DP.kp DP.bn .nil pass0 (pa_cons (pv 0) (pa_cons (pe_lst (pa_cons pe_non (pa_cons pe_int (pa_cons (pe_lst pa_nil) (pa_cons pe_dnewK (pa_cons pe_str (pa_cons pe_bl pa_nil))))))) pa_nil))))))))), ?_⟩
    refine ⟨_, rfl, qw, _, rfl, .inl hw, fun pf npf => ?_⟩
    have s1 := same_new (o := .dK (tblI lo sz)) npf
    refine ⟨_, rfl, d, l, i, b, 5, rfl, hD.mono s1, by omega, by decide, by decide, fun wy H2 w0 w5 dr2 k2 => ⟨_, _, rfl, ?_⟩⟩
    have pfd := hD.apart npf
    have qd := hD.off_prs hq
    have hq2 := kx_at k2 (s1 _ _ hq) qd.1 qd.2.1
    have hf2 := kx_at k2 (show (upd H pf (.dK (tblI lo sz))) pf = _ from upd_same) pfd.1 pfd.2.1
    have kx2 : KeepX [d, l] H H2 := (KeepX.of_same s1).trans k2
    refine ⟨_, rfl, d, l, i, _, 2, rfl, dr2, by omega, by decide, by decide, fun k1 H3 k10 k12 dr3 k3 => ?_⟩
    have hf3 := kx_at k3 hf2 pfd.1 pfd.2.1
    have kx3 := kx2.trans k3
    refine ⟨_, _, rfl, rfl, ?_⟩
    refine ⟨_, rfl, wy, 2, rfl, rfl, .inr ⟨_, rfl, ?_⟩⟩
    refine ⟨_, _, rfl, rfl, .inl ⟨by omega, by omega⟩, ?_⟩
    obtain ⟨m, em⟩ : ∃ m : Int, m = (1 + k1) * (if decide (wy < 2) = true then 1 else 0) := ⟨_, rfl⟩
    have lm : 0 ≤ m ∧ m ≤ 2 := by
      rw [em]
      split <;> omega
    refine ⟨m, by rw [em] <;> rfl, by omega, by omega, ?_⟩
    have llo : lo.length = t.length := by rw [pm.length_eq, List.length_map]
    have lnd : lo.Nodup := pm.nodup_iff.mpr o.nd
    have nmlo : ∀ a ∈ lo, NameL a := fun a ha => o.nm a (pm.mem_iff.mp ha)
    have pown := (by decide : (10 : Int) ^ 30 < 2 ^ 200)
    refine for_it (walk_range (lo := 0) (n := m.toNat)) (fun j σ' H' => (∃ u5, σ' = [some (.ref d), some (.ref q), some (.ref qw), some (.ref pf), some (.int wy), u5]) ∧ DrawB H' d l i (b + 3 + 2 * (j : Int)) ∧ KeepX [d, l] H H' ∧ ∃ kvs : List (Key × V), H' pf = some (.dK kvs) ∧ kvs.map (·.1) = lo.map Sum.inr ∧ ∀ p ∈ kvs, VOk d l H' p.2)
      ⟨⟨_, rfl⟩, dr3.more (by omega), kx3, tblI lo sz, hf3, tblI_keys lo sz, fun p hp => ?_⟩ (fun _ _ _ _ _ => trivial) ?_ ?_
    · obtain ⟨a, ha, rfl⟩ := tblI_mem hp
      exact .inl ⟨_, rfl, sml a ha⟩
    · intro j y σ' Ha Hb hj ⟨⟨u5, e⟩, da, kxa, kvs, hfa, kk, dat⟩ ⟨eb, ey⟩
      subst e
      subst eb
      subst ey
      have jm : j < 2 := by omega
      refine ⟨_, rfl, 1, rfl, by show 1 ≤ sizeLine; omega, fun p1 np1 => ?_⟩
      have s4 := same_new (o := .lst [.int 1]) np1
      refine ⟨_, _, rfl, rfl, ⟨by decide, by decide, by decide⟩, by show 7 ≤ sizeLine; omega, fun pl npl => ?_⟩
      obtain ⟨xs, exs⟩ : ∃ xs : List V, xs = [.int 0, .int (-1), .bl true, .non, .str "1", .ref p1, .int (10 ^ (30 : Int).toNat)] := ⟨_, rfl⟩
      have s5 : Same (upd Hb p1 (.lst [.int 1])) (upd (upd Hb p1 (.lst [.int 1])) pl (.lst xs)) := same_new npl
      obtain ⟨H5, e5⟩ : ∃ X, X = upd (upd Hb p1 (.lst [.int 1])) pl (.lst xs) := ⟨_, rfl⟩
      have s35 : Same Hb H5 := e5 ▸ s4.trans s5
      have h1 : H5 p1 = some (.lst [.int 1]) := by rw [e5]; exact s5 _ _ upd_same
      have hl5 : H5 pl = some (.lst xs) := by rw [e5]; exact upd_same
      have dr5 := da.mono s35
      have pld := (da.mono s4).apart npl
      have p1d := da.apart np1
      subst exs
      rw [← e5]
      clear e5
      refine ⟨d, l, i, pl, _, _, rfl, dr5, by omega, hl5, pld.2.1, List.cons_ne_nil _ _, (by show 7 ≤ 1000; omega), fun x H6 xm dr6 k6 => ?_⟩
      have hf6 := kx_at k6 (s35 _ _ hfa) pfd.1 pfd.2.1
      have h16 := kx_at k6 h1 p1d.1 p1d.2.1
      have k36 : KeepX [d, l] Hb H6 := (KeepX.of_same s35).trans k6
      have hq6 := kx_at k36 (kx_at kxa hq qd.1 qd.2.1) qd.1 qd.2.1
      have xok : VOk d l H6 x := by
        simp only [List.mem_cons, List.not_mem_nil, or_false] at xm
        rcases xm with rfl | rfl | rfl | rfl | rfl | rfl | rfl
        · exact .inl ⟨0, rfl, by decide⟩
        · exact .inl ⟨-1, rfl, by decide⟩
        · exact .inr (.inl ⟨_, rfl⟩)
        · exact .inr (.inr (.inl rfl))
        · exact .inr (.inr (.inr (.inl rfl)))
        · exact .inr (.inr (.inr (.inr ⟨p1, rfl, p1d.1, p1d.2.1, h16⟩)))
        · exact .inl ⟨_, rfl, by decide⟩
      refine ⟨_, rfl, _, rfl, _, rfl, q, prs t, rfl, .inl hq6, fun pn npn => ?_⟩
      have s7 := same_new (o := .lst ((prs t).map fun kv => kV kv.1)) npn
      have pnd := dr6.apart npn
      have one := o.one
      refine ⟨d, l, i, pn, _, _, rfl, dr6.mono s7, by omega, upd_same, pnd.2.1, (fun z => by have w := congrArg List.length z; rw [List.length_map, prs_len] at w; have w : t.length = 0 := w; omega), by rw [List.length_map, prs_len]; omega, fun x2 H7 xm2 dr7 k7 => ?_⟩
      obtain ⟨⟨kk2, vv2⟩, mkv, rfl⟩ := List.mem_map.mp xm2
      obtain ⟨i2, hi2⟩ := List.mem_iff_getElem?.mp mkv
      obtain ⟨a, pa, rfl, rfl, hpt⟩ := keys_atC hi2
      have mlo : a ∈ lo := pm.mem_iff.mpr (List.mem_map.mpr ⟨_, List.mem_of_getElem? hpt, rfl⟩)
      have k67 : KeepX [d, l] H6 H7 := (KeepX.of_same s7).trans k7
      have hf7 := kx_at k67 hf6 pfd.1 pfd.2.1
      have mk : (Sum.inr a : Key) ∈ kvs.map (·.1) := by rw [kk]; exact List.mem_map.mpr ⟨a, mlo, rfl⟩
      have lk : kvs.length = lo.length := by
        have e := congrArg List.length kk
        rwa [List.length_map, List.length_map] at e
      refine ⟨pf, _, rfl, DPut.k (k := Sum.inr a) hf7 (by omega), ⟨_, rfl⟩, (dr7.more (by omega)).off pfd.1 pfd.2.1 pfd.2.2, fun b' u nb e => ?_, putK kvs (Sum.inr a) x, upd_same, (putK_keys mk).trans kk, fun p hp => ?_⟩
      · rw [upd_ne (ne_of_none e npf)]
        exact k67 _ _ nb (k36 _ _ nb (kxa _ _ nb e))
      · refine VOk.put hf7 ?_
        rcases putK_mem hp with ⟨_, e⟩ | hp
        · rw [e]
          exact xok.keep k67
        · exact ((dat p hp).keep k36).keep k67
    · intro σ' H4 ⟨⟨u5, e⟩, da, kxa, kvs, hfa, kk, dat⟩
      subst e
      have da : DrawB H4 d l i (b + 8) := da.more (by omega)
      have lk : kvs.length = lo.length := by
        have e := congrArg List.length kk
        rwa [List.length_map, List.length_map] at e
      have ndk : (kvs.map (·.1)).Nodup := by
        rw [kk]
        exact List.Pairwise.map _ (fun a b n e => n (Sum.inr.inj e)) lnd
      have kb : ∀ p ∈ kvs, KeyB p.1 := fun p hp => by
        have m : p.1 ∈ kvs.map (·.1) := List.mem_map.mpr ⟨p, hp, rfl⟩
        rw [kk] at m
        obtain ⟨a, ha, e⟩ := List.mem_map.mp m
        rw [← e]
        exact .inl (nmlo a ha)
      have done : ∀ (kvs' : List (Key × V)) (H' : Hp), H' pf = some (.dK kvs') → (∀ p ∈ kvs', VOk d l H' p.2) → (kvs'.map (·.1)).Nodup → kvs'.length ≤ 13 → (∀ p ∈ kvs', KeyB p.1) → DrawB H' d l i (b + 20) → KeepX [d, l] H H' → Q (.ref pf) H' :=
        fun kvs' H' h1 h2 h3 h4 h5 h6 h7 => k (.ref pf) (some kvs') H' (fun H'' kx => ⟨pf, rfl, kx_at kx h1 pfd.1 pfd.2.1, fun p hp => ((h2 p hp).keep kx).dat.1, h3, h4, h5⟩) (fun kvs2 e p hp => by cases e; exact ((h2 p hp).dat (K := K)).2) h6 h7
      have hq4 := kx_at kxa hq qd.1 qd.2.1
      refine ⟨_, rfl, rfl, _, rfl, ?_⟩
      by_cases e2 : wy = 2
      · subst e2
        rw [decide_eq_true (rfl : V.int 2 = V.int 2)]
        refine iteT ?_
        refine ⟨_, rfl, pf, rfl, .inl ⟨_, .inl hfa⟩, _, rfl, _, rfl, q, prs t, t.map Prod.fst, rfl, .inl hq4, prs_keys t, by rw [List.length_map]; omega, fun ks pn pks srt npn => ?_⟩
        have s2 := same_new (o := .lst (ks.map V.str)) npn
        have pnd := da.apart npn
        have lks := pks.length_eq
        rw [List.length_map] at lks
        refine ⟨d, l, i, pn, _, ks.map V.str, rfl, da.mono s2, by omega, upd_same, pnd.2.1, (fun z => by have := List.map_eq_nil_iff.mp z; have one := o.one; rw [this, List.length_nil] at lks; omega), by rw [List.length_map]; omega, fun x H5 xm dr5 k5 => ?_⟩
        obtain ⟨a, ma, rfl⟩ := List.mem_map.mp xm
        have k45 : KeepX [d, l] H4 H5 := (KeepX.of_same s2).trans k5
        have hf5 := kx_at k45 hfa pfd.1 pfd.2.1
        have mk : (Sum.inr a : Key) ∈ kvs.map (·.1) := by rw [kk]; exact List.mem_map.mpr ⟨a, pm.mem_iff.mpr (pks.mem_iff.mp ma), rfl⟩
        obtain ⟨v, hv⟩ : ∃ v, valV kvs (Sum.inr a) = some v := by
          cases e : valV kvs (Sum.inr a) with
          | some v => exact ⟨v, rfl⟩
          | none => exact absurd mk (valV_not e)
        refine ⟨kvs, Sum.inr a, v, hf5, rfl, hv, ?_⟩
        refine ⟨_, rfl, rfl, _, rfl, ?_⟩
        rw [decide_eq_false (show ¬ V.int 2 = V.int 3 from fun z => by have := V.int.inj z; omega)]
        refine iteF ?_
        refine ⟨_, rfl, 2, 4, rfl, rfl, _, rfl, ?_⟩
        rw [decide_eq_true (show (2 : Int) < 4 by omega)]
        refine iteT ⟨_, rfl, done (dropK kvs (Sum.inr a)) _ upd_same (fun p hp => VOk.put hf5 ((dat p (dropK_mem hp)).keep k45)) (nd_dropK ndk) (Nat.le_trans (dropK_le _ _) (by omega)) (fun p hp => kb p (dropK_mem hp)) ((dr5.more (by omega)).off pfd.1 pfd.2.1 pfd.2.2) fun b' u nb e => ?_⟩
        rw [upd_ne (ne_of_none e npf)]
        exact k45 _ _ nb (kxa _ _ nb e)
      rw [decide_eq_false (show ¬ V.int wy = V.int 2 from fun z => e2 (V.int.inj z))]
      refine iteF ?_
      refine ⟨_, rfl, rfl, _, rfl, ?_⟩
      by_cases e3 : wy = 3
      · subst e3
        rw [decide_eq_true (rfl : V.int 3 = V.int 3)]
        refine iteT ?_
        refine ⟨_, rfl, _, rfl, by show 4 ≤ sizeLine; omega, fun pl npl => ?_⟩
        have s35 := same_new (o := .lst [.str "other", .str "", .int 3, .non]) npl
        have pld := da.apart npl
        refine ⟨d, l, i, pl, _, _, rfl, da.mono s35, by omega, upd_same, pld.2.1, List.cons_ne_nil _ _, (by show 4 ≤ 1000; omega), fun y H6 ym dr6 k6 => ?_⟩
        have k46 : KeepX [d, l] H4 H6 := (KeepX.of_same s35).trans k6
        have hf6 := kx_at k46 hfa pfd.1 pfd.2.1
        have kx : ∀ (u' : HO), KeepX [d, l] H (upd H6 pf u') := fun u' b' u nb e => by
          rw [upd_ne (ne_of_none e npf)]
          exact k46 _ _ nb (kxa _ _ nb e)
        have drx : ∀ (u' : HO), DrawB (upd H6 pf u') d l i (b + 20) := fun u' => dr6.more (by omega) |>.off pfd.1 pfd.2.1 pfd.2.2
        have finK : ∀ (kk2 : Key), KeyB kk2 → Q (.ref pf) (upd H6 pf (.dK (putK kvs kk2 (.int 1)))) := fun kk2 kb2 => by
          refine done _ _ upd_same (fun p hp => ?_) ?_ (Nat.le_trans (length_putK _ _ _) (by omega)) (fun p hp => ?_) (drx _) (kx _)
          · rcases putK_mem hp with ⟨_, e⟩ | hp
            · rw [e]
              exact .inl ⟨1, rfl, by decide⟩
            · exact VOk.put hf6 ((dat p hp).keep k46)
          · by_cases mk : kk2 ∈ kvs.map (·.1)
            · rw [putK_keys mk]
              exact ndk
            · refine nd_putK _ ndk ?_
              cases e : valV kvs kk2 with
              | none => rfl
              | some v => exact absurd (valV_in e) mk
          · rcases putK_mem hp with ⟨e, _⟩ | hp
            · rw [e]
              exact kb2
            · exact kb p hp
        have l15 : kvs.length < sizeLine := by omega
        simp only [List.mem_cons, List.not_mem_nil, or_false] at ym
        rcases ym with rfl | rfl | rfl | rfl
        · exact ⟨pf, _, rfl, .inl (DPut.k (k := Sum.inr "other") hf6 l15), _, rfl, 3, 4, rfl, rfl, _, rfl, iteT ⟨_, rfl, finK (Sum.inr "other") (.inl (by decide +kernel))⟩⟩
        · exact ⟨pf, _, rfl, .inl (DPut.k (k := Sum.inr "") hf6 l15), _, rfl, 3, 4, rfl, rfl, _, rfl, iteT ⟨_, rfl, finK (Sum.inr "") (.inr rfl)⟩⟩
        · exact ⟨pf, _, rfl, .inl (DPut.k (k := Sum.inl 3) hf6 l15), _, rfl, 3, 4, rfl, rfl, _, rfl, iteT ⟨_, rfl, finK (Sum.inl 3) rfl⟩⟩
        · refine ⟨pf, _, rfl, .inr ⟨_, hf6, .inl rfl, l15, rfl⟩, _, rfl, 3, 4, rfl, rfl, _, rfl, iteT ⟨_, rfl, ?_⟩⟩
          have ll : (rowsK kvs ++ [(V.non, V.int 1)]).length = t.length + 1 := by rw [List.length_append, rowsK_len, lk, llo] <;> rfl
          refine k (.ref pf) none _ (fun H'' kx'' => .inr ⟨pf, _, rfl, kx_at kx'' upd_same pfd.1 pfd.2.1, ll, by omega, fun r hr => ?_⟩) (fun _ e => by cases e) (drx _) (kx _)
          rcases List.mem_append.mp hr with hr | hr
          · obtain ⟨p, hp, e⟩ := List.mem_map.mp hr
            have m : p.1 ∈ kvs.map (·.1) := List.mem_map.mpr ⟨p, hp, rfl⟩
            rw [kk] at m
            obtain ⟨a', ha, e'⟩ := List.mem_map.mp m
            exact .inr (.inl ⟨a', by rw [← e, ← e'] <;> rfl, nmlo a' ha⟩)
          · rw [List.mem_singleton.mp hr]
            exact .inl rfl
      rw [decide_eq_false (show ¬ V.int wy = V.int 3 from fun z => e3 (V.int.inj z))]
      refine iteF ?_
      refine ⟨_, rfl, wy, 4, rfl, rfl, _, rfl, ?_⟩
      by_cases c4 : wy < 4
      · rw [decide_eq_true c4]
        exact iteT ⟨_, rfl, done kvs _ hfa dat ndk (by omega) kb (da.more (by omega)) kxa⟩
      rw [decide_eq_false c4]
      refine iteF ?_
      refine ⟨_, rfl, by show 0 ≤ sizeLine; omega, fun pa npa pb npb => ?_⟩
      have sa := same_new (o := .lst []) npa
      have sb : Same (upd H4 pa (.lst [])) (upd (upd H4 pa (.lst [])) pb (.dK [])) := same_new npb
      have s34 := sa.trans sb
      refine ⟨by show 6 ≤ sizeLine; omega, fun pl npl => ?_⟩
      have s6 : Same (upd (upd H4 pa (.lst [])) pb (.dK [])) (upd (upd (upd H4 pa (.lst [])) pb (.dK [])) pl (.lst [.non, .int 5, .ref pa, .ref pb, .str "limits", .bl true])) := same_new npl
      have s36 := s34.trans s6
      have pld := (da.mono s34).apart npl
      have pad := da.apart npa
      have pbd := (da.mono sa).apart npb
      refine ⟨d, l, i, pl, _, _, rfl, da.mono s36, by omega, upd_same, pld.2.1, List.cons_ne_nil _ _, (by show 6 ≤ 1000; omega), fun x H6 xm dr6 k6 => ?_⟩
      have kf : KeepX [d, l] H H6 := (kxa.trans (KeepX.of_same s36)).trans k6
      have a6 := kx_at k6 (s6 _ _ (sb _ _ upd_same)) pad.1 pad.2.1
      have b6 := kx_at k6 (s6 _ _ upd_same) pbd.1 pbd.2.1
      have oth : ∀ (T : String), (∀ H'', KeepX [d, l] H6 H'' → Dat K H'' x T) → T ≠ "dict" → Q x H6 := fun T dd n => k x none H6 (fun H'' kx => .inl ⟨T, dd H'' kx, n⟩) (fun _ e => by cases e) (dr6.more (by omega)) kf
      simp only [List.mem_cons, List.not_mem_nil, or_false] at xm
      rcases xm with rfl | rfl | rfl | rfl | rfl | rfl
      · exact oth _ (fun _ _ => .non) (by decide)
      · exact oth _ (fun _ _ => .int _) (by decide)
      · exact oth _ (fun _ kx => .lst (kx_at kx a6 pad.1 pad.2.1)) (by decide)
      · exact k (.ref pb) (some []) H6 (fun _ kx => ⟨pb, rfl, kx_at kx b6 pbd.1 pbd.2.1, (fun p hp => by cases hp), List.nodup_nil, by show 0 ≤ 13; omega, fun p hp => by cases hp⟩) (fun kvs2 e p hp => by cases e; cases hp) (dr6.more (by omega)) kf
      · exact oth _ (fun _ _ => .str _) (by decide)
      · exact oth _ (fun _ _ => .bl _) (by decide)
end
end FT


/-! what repr shows of a key: different keys, different texts -/
namespace FT
open PySem L2 TL ClX
theorem subset_perm {α : Type} [DecidableEq α] : ∀ {a b : List α}, a.Nodup → (∀ x ∈ a, x ∈ b) → b.length ≤ a.length → a.Perm b
  | [], b, _, _, h => by
    have : b = [] := List.length_eq_zero_iff.mp (Nat.le_zero.mp h)
    rw [this]
  | x :: a, b, nd, sub, h => by
    obtain ⟨h1, h2⟩ := List.nodup_cons.mp nd
    have hx := sub x List.mem_cons_self
    have p := List.perm_cons_erase hx
    refine List.Perm.trans (.cons x (subset_perm h2 (fun y hy => ?_) ?_)) p.symm
    · exact (List.mem_erase_of_ne fun e => h1 (by rw [← e]; exact hy)).mpr (sub y (List.mem_cons_of_mem _ hy))
    · rw [List.length_erase_of_mem hx]
      rw [List.length_cons] at h
      omega
def Low (z : Str) : Prop := ∀ c ∈ tl z, 97 ≤ c ∧ c ≤ 122
theorem low_char {c : Nat} (h0 : 97 ≤ c) (h1 : c ≤ 122) : Builtin.Str.reprChar 39 c = [c] := by
  have all : ∀ i : Fin 26, Builtin.Str.reprChar 39 (97 + i.1) = [97 + i.1] := by decide +kernel
  have z := all ⟨c - 97, by omega⟩
  have e : 97 + (⟨c - 97, by omega⟩ : Fin 26).1 = c := by show 97 + (c - 97) = c; omega
  rw [e] at z
  exact z
theorem low_fold : ∀ (l : List Nat) (acc : Array Nat), (∀ c ∈ l, 97 ≤ c ∧ c ≤ 122) → l.foldl (fun out c => out ++ (Builtin.Str.reprChar 39 c).toArray) acc = acc ++ l.toArray
  | [], acc, _ => by simp
  | c :: l, acc, h => by
    obtain ⟨h0, h1⟩ := h c List.mem_cons_self
    rw [List.foldl_cons, low_fold l _ fun d hd => h d (List.mem_cons_of_mem _ hd), low_char h0 h1]
    simp
theorem low_repr {z : Str} (h : Low z) : tl (reprText z) = 39 :: (tl z ++ [39]) := by
  have q : reprQuote z = 39 := by
    unfold reprQuote
    have no : z.cps.contains 39 = false := by
      cases e : z.cps.contains 39 with
      | false => rfl
      | true =>
        have m := Array.contains_iff_mem.mp e
        have := h 39 (Array.mem_toList_iff.mpr m)
        omega
    rw [no] <;> rfl
  unfold reprText
  rw [q, ← Array.foldl_toList, low_fold z.cps.toList #[39] h]
  show (((#[39] ++ z.cps.toList.toArray).push 39).toList) = _
  simp [tl]
theorem low_inj {a b : Str} (ha : Low a) (hb : Low b) (e : reprText a = reprText b) : a = b := by
  have z := congrArg tl e
  rw [low_repr ha, low_repr hb] at z
  have z := (List.cons.inj z).2
  exact ext_tl ((List.append_left_inj _).mp z)
theorem NameL.low {z : Str} (h : NameL z ∨ z = "") : Low z := by
  rcases h with h | rfl
  · exact h.1
  · intro c hc
    cases hc
/-- what is shown of a key -/
def keyD : Key → PyData
  | .inl i => .int i
  | .inr z => .str z
def shK (k : Key) : Str := (keyD k).shown
theorem shK_str (z : Str) : shK (Sum.inr z) = reprText z := by
  unfold shK keyD
  simp only [PyData.shown]
theorem three_ne {z : Str} (h : Low z) : shK (Sum.inl 3) ≠ reprText z := fun e => by
  have e3 : tl (shK (Sum.inl 3)) = [51] := by decide +kernel
  have z := congrArg tl e
  rw [low_repr h, e3] at z
  cases z
theorem shK_inj {k k' : Key} (h : KeyB k) (h' : KeyB k') (e : shK k = shK k') : k = k' := by
  cases k with
  | inl i =>
    obtain rfl : i = 3 := h
    cases k' with
    | inl j => rw [show j = 3 from h']
    | inr z =>
      rw [shK_str] at e
      exact absurd e (three_ne (NameL.low h'))
  | inr z =>
    cases k' with
    | inl j =>
      obtain rfl : j = 3 := h'
      rw [shK_str] at e
      exact absurd e.symm (three_ne (NameL.low h))
    | inr z' =>
      rw [shK_str, shK_str] at e
      rw [low_inj (NameL.low h) (NameL.low h') e]
/-- the same texts: as many keys, and all names are there -/
theorem shown_perm {ks : List Key} {ns : List Str} (nd : ks.Nodup) (kb : ∀ k ∈ ks, KeyB k) (nn : ns.Nodup) (hn : ∀ z ∈ ns, NameL z) : (ks.map shK).Perm (ns.map fun z => shK (Sum.inr z)) ↔ ks.length = ns.length ∧ ∀ a ∈ ns, Sum.inr a ∈ ks := by
  constructor
  · intro p
    refine ⟨by have := p.length_eq; rw [List.length_map, List.length_map] at this; exact this, fun a ha => ?_⟩
    obtain ⟨k, hk, e⟩ := List.mem_map.mp (p.mem_iff.mpr (List.mem_map.mpr ⟨a, ha, rfl⟩))
    rw [← shK_inj (kb k hk) (k' := Sum.inr a) (.inl (hn a ha)) e]
    exact hk
  · rintro ⟨hl, h⟩
    have p : (ns.map (Sum.inr (α := Int))).Perm ks := subset_perm (List.Pairwise.map _ (fun a b n e => n (Sum.inr.inj e)) nn) (fun k hk => by
      obtain ⟨a, ha, rfl⟩ := List.mem_map.mp hk
      exact h a ha) (by rw [List.length_map]; omega)
    have q := p.map shK
    rw [List.map_map] at q
    exact q.symm
end FT


/-! [repr(k) for k in d] -/
namespace FT
open PySem L2 TL ClX
/-- a key and what is shown of it -/
def ShT (H : Hp) (x : V) (w : Str) : Prop := ∃ d : PyData, d.shown = w ∧ ((x = .non ∧ d = .none) ∨ (∃ z, x = .str z ∧ (NameL z ∨ z = "") ∧ d = .str z) ∨ (x = .int 3 ∧ d = .int 3) ∨ ∃ c, x = .ref c ∧ H c = some (.tup [.str "a"]) ∧ d = .tuple [.str "a"])
theorem low_len {z : Str} (h : Low z) : (reprText z).length = z.length + 2 := by
  rw [len_tl, low_repr h, len_tl, List.length_cons, List.length_append] <;> rfl
theorem low_ok {z : Str} (h : Low z) : PyData.strOk (reprText z) = true := by
  unfold PyData.strOk
  simp only [Bool.and_eq_true, decide_eq_true_eq, Array.all_eq_true_iff_forall_mem]
  intro c hc
  have m : c ∈ tl (reprText z) := Array.mem_toList_iff.mpr hc
  rw [low_repr h] at m
  simp only [List.mem_cons, List.mem_append, List.not_mem_nil, or_false] at m
  rcases m with rfl | m | rfl
  · omega
  · have := h c m
    omega
  · omega
theorem ShT.facts {K : PySem.W.Frag} {H : Hp} {x : V} {w : Str} (h : ShT H x w) : PyData.strOk w = true ∧ ∃ d, Shw K H x d ∧ d.showable = true ∧ d.depth ≤ 60 ∧ d.shown = w ∧ w.length ≤ 20 := by
  obtain ⟨d, e, h⟩ := h
  rcases h with ⟨rfl, rfl⟩ | ⟨z, rfl, hz, rfl⟩ | ⟨rfl, rfl⟩ | ⟨c, rfl, hc, rfl⟩
  · refine ⟨by rw [← e]; decide +kernel, .none, .inl ⟨.non, rfl⟩, by decide +kernel, by decide +kernel, e, by rw [← e]; decide +kernel⟩
  · have lw := NameL.low hz
    have e' : w = reprText z := by rw [← e]; simp only [PyData.shown]
    refine ⟨by rw [e']; exact low_ok lw, .str z, .inl ⟨.str z, rfl⟩, rfl, by show 0 ≤ 60; omega, e, ?_⟩
    rw [e', low_len lw]
    rcases hz with hz | rfl
    · have := hz.len
      omega
    · show 0 + 2 ≤ 20
      omega
  · refine ⟨by rw [← e]; decide +kernel, .int 3, .inl ⟨.int 3, rfl⟩, by decide +kernel, by decide +kernel, e, by rw [← e]; decide +kernel⟩
  · refine ⟨by rw [← e]; decide +kernel, .tuple [.str "a"], .inl ⟨.tup (.inl (.inl hc)) (.cons (.str _) .nil), rfl⟩, by decide +kernel, by decide +kernel, e, by rw [← e]; decide +kernel⟩
theorem ShT.mono {H H' : Hp} {x : V} {w : Str} (k : ∀ c xs, H c = some (.tup xs) → H' c = some (.tup xs)) (h : ShT H x w) : ShT H' x w := by
  obtain ⟨d, e, h⟩ := h
  refine ⟨d, e, ?_⟩
  rcases h with h | h | h | ⟨c, h1, h2, h3⟩
  · exact .inl h
  · exact .inr (.inl h)
  · exact .inr (.inr (.inl h))
  · exact .inr (.inr (.inr ⟨c, h1, k _ _ h2, h3⟩))
theorem eqv_txt (a b : Str) : PyData.eqv (.str a) (.str b) = decide (a = b) := by
  simp only [PyData.eqv]
  rw [Bool.eq_iff_iff, beq_iff_eq, decide_eq_true_iff]
theorem eqv_txts : ∀ a b : List Str, PyData.eqvAll (a.map .str) (b.map .str) = decide (a = b)
  | [], [] => by simp [PyData.eqvAll]
  | [], _ :: _ => by simp [PyData.eqvAll]
  | _ :: _, [] => by simp [PyData.eqvAll]
  | x :: a, y :: b => by
    simp only [List.map_cons, PyData.eqvAll]
    rw [eqv_txt, eqv_txts a b, Bool.eq_iff_iff, Bool.and_eq_true]
    simp only [decide_eq_true_iff, List.cons.injEq]
theorem eqv_txtL (a b : List Str) : PyData.eqv (.list (a.map .str)) (.list (b.map .str)) = decide (a = b) := by
  simp only [PyData.eqv]
  exact eqv_txts a b
/-- the list of what is shown of a dict's keys -/
theorem shown_list {K : PySem.W.Frag} {σ : St} {H : Hp} {q : Addr} {u : HO} {rows : List (V × V)} {ws : List Str} {i j : Nat} {Q : VK} (hσ : σ[i]? = some (some (.ref q))) (hj : j < σ.length) (hq : H q = some u) (ro : RowsO q u rows) (few : rows.length ≤ 13) (pw : Paired (fun (r : V × V) w => ShT H r.1 w) rows ws)
    (k : ∀ D H', Same H H' → H D = none → H' D = some (.lst (ws.map V.str)) → Q (.ref D) H') : tLockE (tLc (iKeysO (tVar i)) (gName j) tYes (tCB (rRepr K) (tCons (tVar j) tNil)) [j]) σ H Q := by
  have big : 1000 ≤ sizeLine := by decide
  have lw := Paired.length pw
  have nt : ∀ xs, u ≠ .tup xs := fun xs e => by
    rcases ro with ⟨_, rfl, _⟩ | rfl <;> cases e
  refine ⟨q, u, hq, ro.mut, fun od => ⟨_, hσ, q, od, u, rows, rfl, upd_same, ro, fun J wk D nD => ?_⟩⟩
  obtain ⟨H0, e0⟩ : ∃ X, X = upd H q (.frz od u) := ⟨_, rfl⟩
  have hq0 : H0 q = some (.frz od u) := by rw [e0]; exact upd_same
  have pw0 : Paired (fun (r : V × V) w => ShT H0 r.1 w) rows ws := Paired.mapP pw fun r w h => h.mono fun c xs e => by
    rw [e0, upd_ne (ne_of e hq fun z => nt _ z.symm)]
    exact e
  have Dq : D ≠ q := (ne_of_none upd_same nD).symm
  have nDH : H D = none := by rw [upd_ne Dq] at nD; exact nD
  rw [← e0] at nD ⊢
  refine lc_it wk (fun m H' => Same H0 H' ∧ H' D = some (.lst ((ws.take m).map V.str))) ⟨same_new nD, upd_same⟩ (fun m H' _ z => z.1 _ _ hq0) ?_ ?_
  · intro m x Ha Hb hm ⟨q1, q2⟩ ⟨eb, v, hv⟩
    subst eb
    obtain ⟨w, hw, sh⟩ := paired_at pw0 hv
    obtain ⟨ok, d, s1, s2, s3, s4, s5⟩ := (sh.mono (H' := Hb) fun c xs e => q1 _ _ e).facts (K := K)
    refine ⟨by show (((σ.set j none).set j (some x)).set j none) = σ.set j none; rw [List.set_set, List.set_set], ?_⟩
    have hs : ((σ.set j none).set j (some x))[j]? = some (some x) := by
      exact List.getElem?_set_self (by rw [List.length_set]; exact hj)
    have sl : d.shown.length ≤ sizeLine := by rw [s4]; omega
    refine ⟨x, hs, x, d, rfl, s1, s2, s3, sl, _, q2, ?_, Same.put q1 nD, ?_⟩
    · rw [List.length_map, List.length_take]
      omega
    · rw [upd_same, s4, take_more hw, List.map_append] <;> rfl
  · intro H3 ⟨q1, q2⟩
    rw [lw, List.take_length] at q2
    refine ⟨q1 _ _ hq0, ?_⟩
    refine k D _ (fun b o e => ?_) nDH (by rw [upd_ne Dq]; exact q2)
    by_cases eb : b = q
    · rw [eb] at e ⊢
      rw [upd_same, ← hq, e]
    · rw [upd_ne eb]
      exact q1 _ _ (by rw [e0, upd_ne eb]; exact e)
end FT


/-! _law_sizes_error -/
namespace FT
open PySem L2 TL ClX LiI
/-- what is wrong, told as a pair of a word and a place -/
def TellK (w : Str) (H : Hp) (Q : VK) : Option V → Prop
  | none => ∀ H', Same H H' → Q .non H'
  | some v => ∀ p H', Same H H' → H p = none → H' p = some (.tup [.str w, v]) → Q (.ref p) H'
def spSzErr (K : PySem.W.Frag) : Sp := fun vs H Q _ => ∃ (q : Addr) (n : Int) (sv : V) (t ts : List (Str × Str)) (o : Option (List (Key × V))), vs = [.ref q, .int n, sv] ∧ H q = some (.dK (prs t)) ∧ TreeOk t ∧ ts.Perm t ∧ Asc ts ∧ BentV K H t.length sv o ∧ TellK "sizes" H Q (feas ts n o)
theorem raw_ws {H : Hp} : ∀ {rows : List (V × V)}, (∀ r ∈ rows, RawK H r.1) → ∃ ws, Paired (fun (r : V × V) w => ShT H r.1 w) rows ws
  | [], _ => ⟨[], .nil⟩
  | r :: rows, h => by
    obtain ⟨ws, p⟩ := raw_ws (rows := rows) fun x hx => h x (List.mem_cons_of_mem _ hx)
    rcases h r List.mem_cons_self with z | ⟨y, z, hy⟩ | ⟨c, z, hc⟩
    · exact ⟨_, .cons ⟨.none, rfl, .inl ⟨z, rfl⟩⟩ p⟩
    · exact ⟨_, .cons ⟨.str y, rfl, .inr (.inl ⟨y, z, .inl hy, rfl⟩)⟩ p⟩
    · exact ⟨_, .cons ⟨.tuple [.str "a"], rfl, .inr (.inr (.inr ⟨c, z, hc, rfl⟩))⟩ p⟩
theorem dK_ws {H : Hp} : ∀ {kvs : List (Key × V)}, (∀ p ∈ kvs, KeyB p.1) → Paired (fun (r : V × V) w => ShT H r.1 w) (rowsK kvs) (kvs.map fun p => shK p.1)
  | [], _ => .nil
  | (k, v) :: kvs, h => by
    have p := dK_ws (H := H) (kvs := kvs) fun x hx => h x (List.mem_cons_of_mem _ hx)
    have kb : KeyB k := h _ List.mem_cons_self
    refine .cons ?_ p
    cases k with
    | inl i =>
      obtain rfl : i = 3 := kb
      exact ⟨.int 3, rfl, .inr (.inr (.inl ⟨rfl, rfl⟩))⟩
    | inr z => exact ⟨.str z, rfl, .inr (.inl ⟨z, rfl, kb, rfl⟩)⟩
theorem prs_ws (t : List (Str × Str)) : ((prs t).map fun p => shK p.1) = (t.map Prod.fst).map fun z => shK (Sum.inr z) := by
  unfold prs kvT
  rw [List.map_map, List.map_map, List.map_map] <;> rfl
theorem paired_ok {H : Hp} : ∀ {rows : List (V × V)} {ws : List Str}, Paired (fun (r : V × V) w => ShT H r.1 w) rows ws → ∀ w ∈ ws, PyData.strOk w = true
  | _, _, .nil, _, h => by cases h
  | _, _, .cons sh t, w, h => by
    rcases List.mem_cons.mp h with rfl | h
    · exact (sh.facts (K := default)).1
    · exact paired_ok t w h
abbrev NSe : List Str := ["_law_parents", "_law_folk", "_law_wide", "_law_key", "_law_name", "_law_place", "_law_total"]
section
variable {P : Program} {w : World} {K : PySem.W.Frag} {mg : Str → Option Value} {base : Heap}
theorem scSe : FnScope NSe ["_law_parents", "_law_folk", "_law_wide"] (defScope s__law_sizes_error) := ⟨rfl, rfl, rfl, by decide +kernel, rfl, by decide +kernel, by decide +kernel⟩
theorem ok_szErr {f : Addr} {fd : FuncData} (F : Fun K "_law_sizes_error" "_law_sizes_error" s__law_sizes_error f fd) (T : Nm mg) : FnG P w K mg base CX0 1 f fd ["_law_parents", "_law_folk", "_law_wide"] (spSzErr K) := by
  refine F.okG scSe (fun vs H Q E h => ?_) (fun cdv A outer s H vs Q E clr hr h => ?_)
  · obtain ⟨q, n, sv, t, ts, o, rfl, _⟩ := h
    rfl
  · obtain ⟨q, n, sv, t, ts, o, rfl, hq, to, pm, asc, bv, k⟩ := h
    have hu := hu_of hr
    have nd := scSe.nd
    have big : 1000 ≤ sizeLine := by decide
    have few := to.few
    refine ⟨_, pss_cons (ps_if (pt_not (pt_val (pe_callB (CallR.or call_isi call_isiR) (by rfl) T.isi (by decide +kernel) (pa_cons (pv 2) (pa_cons (pe_bltn (v := .ty "dict") (u := .type "dict") (by rfl) T.dct (by decide +kernel) rfl) pa_nil))))) (pss_one (ps_ret (pe_tup (pa_cons pe_str (pa_cons pe_non pa_nil))))) pss_nil)
      (pss_cons (ps_if (pt_cmpR (op_neD hr.units) (pe_callB cr_sortedS (by rfl) T.srt (by decide +kernel) (pa_cons (pe_lock (pe_lc (own := [("_law_key", 3)]) (g := gName 3) (tt := tYes) (te := tCB (rRepr K) (tCons (tVar 3) tNil)) rfl nd (pi_keysO (pv 2)) (blkOk_by (N := NSe) (sc := defScope s__law_sizes_error) (by decide +kernel))
            (fun _ _ _ _ _ => pg_name (i := 3) nd rfl (Or.inl rfl)) (fun _ _ _ _ _ => pts_nil) (fun _ _ _ _ _ => pe_callB (call_repr clr.deeper hr.units) (by rfl) T.rep (by decide +kernel) (pa_cons (pv 3) pa_nil)))) pa_nil))
          (pe_callB cr_sortedS (by rfl) T.srt (by decide +kernel) (pa_cons (pe_lock (pe_lc (own := [("_law_key", 3)]) (g := gName 3) (tt := tYes) (te := tCB (rRepr K) (tCons (tVar 3) tNil)) rfl nd (pi_keysO (pv 0)) (blkOk_by (N := NSe) (sc := defScope s__law_sizes_error) (by decide +kernel))
            (fun _ _ _ _ _ => pg_name (i := 3) nd rfl (Or.inl rfl)) (fun _ _ _ _ _ => pts_nil) (fun _ _ _ _ _ => pe_callB (call_repr clr.deeper hr.units) (by rfl) T.rep (by decide +kernel) (pa_cons (pv 3) pa_nil)))) pa_nil)) (nomark _)) (pss_one (ps_ret (pe_tup (pa_cons pe_str (pa_cons pe_non pa_nil))))) pss_nil)
      (pss_cons (ps_for PassesOwn.never rfl (pi_list (pe_callB (call_sortedD rfl) (by rfl) T.srt (by decide +kernel) (pa_cons (pv 0) pa_nil))) (pg_name (i := 4) nd rfl (.inl rfl))
        (pss_one (ps_if (PW.pt (pw_or (pt_not (pt_val (pe_callB call_isi (by rfl) T.isi (by decide +kernel) (pa_cons (pe_dget hu (pv 2) (pv 4) (fun _ _ => rfl)) (pa_cons (pe_bltn (v := .ty "int") (u := .type "int") (by rfl) T.int (by decide +kernel) rfl) pa_nil)))))
            (pw_or (pt_val (pe_callB call_isi (by rfl) T.isi (by decide +kernel) (pa_cons (pe_dget hu (pv 2) (pv 4) (fun _ _ => rfl)) (pa_cons (pe_bltn (v := .ty "bool") (u := .type "bool") (by rfl) T.bool (by decide +kernel) rfl) pa_nil))))
            (pw_or1 (pt_cmpR op_lt (pe_dget hu (pv 2) (pv 4) (fun _ _ => rfl)) pe_int (nomark _)))))) (pss_one (ps_ret (pe_tup (pa_cons pe_str (pa_cons (pv 4) pa_nil))))) pss_nil)))
      (pss_cons (ps_for PassesOwn.never rfl (pi_list (pe_op op_cat (pe_lst (pa_cons pe_str pa_nil)) (pe_callB (call_sortedD rfl) (by rfl) T.srt (by decide +kernel) (pa_cons (pv 0) pa_nil)))) (pg_name (i := 5) nd rfl (.inr rfl))
        (pss_cons (ps_set (i := 6) nd rfl (.inl rfl) (pe_callB (cr_sum rfl) (by rfl) T.sum (by decide +kernel) (pa_cons (pe_lock (pe_lc (own := [("_law_name", 4)]) (g := gName 4) (tt := tTest (tOp rEq (tDGet (tVar 0) (tVar 4)) (tVar 5))) (te := tDGet (tVar 2) (tVar 4)) rfl nd (pi_keys (pv 0)) (blkOk_by (N := NSe) (sc := defScope s__law_sizes_error) (by decide +kernel))
            (fun _ _ _ _ _ => pg_name (i := 4) nd rfl (Or.inl rfl)) (fun _ _ _ _ _ => pts_one (pt_cmpR op_eq (pe_dget hu (pv 0) (pv 4) (fun _ _ => rfl)) (pv 5) (nomark _))) (fun _ _ _ _ _ => pe_dget hu (pv 2) (pv 4) (fun _ _ => rfl)))) pa_nil)))
        (pss_one (ps_if (pt_cmpR op_gt (pv 6) (pe_ifExp (pt_cmpR op_eq (pv 5) pe_str (nomark _)) (pv 1) (pe_dget hu (pv 2) (pv 5) (fun _ _ => rfl))) (nomark _)) (pss_one (ps_ret (pe_tup (pa_cons pe_str (pa_cons (pv 5) pa_nil))))) pss_nil))))
      (pss_one (ps_ret pe_non))))), ?_⟩
    have olen : ts.length = t.length := pm.length_eq
    have tsn : (ts.map Prod.fst).Nodup := (pm.map _).nodup_iff.mpr to.nd
    have tsm : ∀ z ∈ ts.map Prod.fst, NameL z := fun z hz => to.nm z ((pm.map _).mem_iff.mp hz)
    have bad : feas ts n o = some .non → ∀ H1 p, Same H H1 → H1 p = none → Q (.ref p) (upd H1 p (.tup [.str "sizes", .non])) := fun e H1 p s1 np => by
      rw [e] at k
      exact k p _ (s1.trans (same_new np)) (s1.free np) upd_same
    have cls : (∃ T, Dat K H sv T ∧ T ≠ "dict" ∧ o = none) ∨ ∃ (b : Addr) (u : HO) (rows : List (V × V)) (ws : List Str), sv = .ref b ∧ H b = some u ∧ RowsO b u rows ∧ rows.length ≤ 13 ∧ Paired (fun (r : V × V) w => ShT H r.1 w) rows ws ∧
        (∀ Q' : VK, Q' (.bl true) H → (rIsi K [sv, .ty "dict"] H Q' ∨ ∃ (a : Addr) (rows : List (V × V)) (_ : Option Obj), [sv, .ty "dict"] = [V.ref a, .ty "dict"] ∧ (H a = some (RawO a rows) ∨ ∃ o, H a = some (.frz o (RawO a rows))) ∧ Q' (.bl true) H)) ∧
        (¬ ws.Perm ((t.map Prod.fst).map fun z => shK (Sum.inr z)) → feas ts n o = some .non) ∧
        (ws.Perm ((t.map Prod.fst).map fun z => shK (Sum.inr z)) → ∃ kvs, o = some kvs ∧ u = .dK kvs ∧ (∀ p ∈ kvs, IsDat K H p.2) ∧ kvs.length = ts.length ∧ ∀ a ∈ ts.map Prod.fst, ∃ v, valV kvs (Sum.inr a) = some v) := by
      cases o with
      | none =>
        rcases bv with ⟨T, d, ne⟩ | ⟨b, rows, rfl, hb, lr, l13, rk⟩
        · exact .inl ⟨T, d, ne, rfl⟩
        · obtain ⟨ws, pw⟩ := raw_ws rk
          refine .inr ⟨b, _, rows, ws, rfl, hb, .inr rfl, l13, pw, fun Q' q => .inr ⟨b, rows, none, rfl, .inl hb, q⟩, fun _ => rfl, fun p => ?_⟩
          have l1 := p.length_eq
          have l2 := Paired.length pw
          rw [List.length_map, List.length_map] at l1
          omega
      | some kvs =>
        obtain ⟨b, rfl, hb, dat, knd, l13, kb⟩ := bv
        have kbk : ∀ k ∈ kvs.map (·.1), KeyB k := fun k hk => by
          obtain ⟨p, hp, rfl⟩ := List.mem_map.mp hk
          exact kb p hp
        have sp := shown_perm (ns := t.map Prod.fst) knd kbk to.nd to.nm
        have em : (kvs.map (·.1)).map shK = kvs.map fun p => shK p.1 := by rw [List.map_map] <;> rfl
        rw [em, List.length_map, List.length_map] at sp
        refine .inr ⟨b, _, rowsK kvs, kvs.map fun p => shK p.1, rfl, hb, .inl ⟨kvs, rfl, rfl⟩, by rw [rowsK_len]; exact l13, dK_ws kb, fun Q' q => .inl ⟨.ref b, _, _, _, _, rfl, .ty _, (Dat.dct (K := K) hb).ty, (Dat.dct (K := K) hb).dict_, q⟩, fun np => ?_, fun p => ?_⟩
        · rw [feas_some]
          by_cases e1 : kvs.length = ts.length
          · rw [if_neg fun z => z e1]
            refine if_pos ?_
            cases e2 : (ts.map Prod.fst).all fun a => (valV kvs (Sum.inr a)).isSome with
            | false => rfl
            | true =>
              exfalso
              refine np (sp.mpr ⟨by omega, fun a ha => ?_⟩)
              have z := List.all_eq_true.mp e2 a ((pm.map _).mem_iff.mpr ha)
              obtain ⟨v, hv⟩ := Option.isSome_iff_exists.mp z
              exact valV_in hv
          · exact if_pos e1
        · obtain ⟨h1, h2⟩ := sp.mp p
          refine ⟨kvs, rfl, rfl, dat, by omega, fun a ha => ?_⟩
          have m := h2 a ((pm.map _).mem_iff.mp ha)
          cases e : valV kvs (Sum.inr a) with
          | some v => exact ⟨v, rfl⟩
          | none => exact absurd m (valV_not e)
    rcases cls with ⟨T, d, ne, rfl⟩ | ⟨b, u, rows, ws, rfl, hb, ro, l13, pw, isi, hno, hyes⟩
    · refine ⟨_, rfl, .inl ⟨sv, _, _, _, _, rfl, .ty _, d.ty, d.dict_, _, rfl, ?_⟩⟩
      rw [decide_eq_false ne]
      exact iteT ⟨by show 2 ≤ sizeLine; omega, fun p np => bad rfl H p Same.refl np⟩
    refine ⟨_, rfl, isi _ ⟨_, rfl, iteF ?_⟩⟩
    refine shown_list (i := 2) (j := 3) rfl (by show 3 < 7; omega) hb ro l13 pw fun D H1 s1 nD hD => ?_
    have lws := Paired.length pw
    refine ⟨D, ws, rfl, SqL.of hD, by omega, fun ys py yp ysr npy => ?_⟩
    have s2 := same_new (o := .lst (ys.map V.str)) npy
    have hq2 := s2 _ _ (s1 _ _ hq)
    refine shown_list (i := 0) (j := 3) (ws := (prs t).map fun p => shK p.1) rfl (by show 3 < 7; omega) hq2 (.inl ⟨prs t, rfl, rfl⟩) (by rw [rowsK_len]; unfold prs kvT; rw [List.length_map, List.length_map]; omega) (dK_ws fun p hp => ?_) fun D2 H3 s3 nD2 hD2 => ?_
    · unfold prs kvT at hp
      rw [List.map_map] at hp
      obtain ⟨x, hx, rfl⟩ := List.mem_map.mp hp
      exact .inl (to.nm _ (List.mem_map.mpr ⟨x, hx, rfl⟩))
    rw [prs_ws] at hD2
    refine ⟨D2, _, rfl, SqL.of hD2, by rw [List.length_map, List.length_map]; omega, fun zs pz zp zsr npz => ?_⟩
    have s4 := same_new (o := .lst (zs.map V.str)) npz
    obtain ⟨H4, e4⟩ : ∃ X, X = upd H3 pz (.lst (zs.map V.str)) := ⟨_, rfl⟩
    have hy4 : H4 py = some (.lst (ys.map V.str)) := by rw [e4]; exact s4 _ _ (s3 _ _ upd_same)
    have hz4 : H4 pz = some (.lst (zs.map V.str)) := by rw [e4]; exact upd_same
    have s04 : Same H H4 := by rw [e4]; exact ((s1.trans s2).trans s3).trans s4
    rw [← e4]
    clear e4 s4
    refine ⟨.list (ys.map .str), .list (zs.map .str), .lst (SqL.of hy4) (dps_strs _), .lst (SqL.of hz4) (dps_strs _), strs_shaped (fun z hz => paired_ok pw z (yp.mem_iff.mp hz)), strs_shaped (fun z hz => ?_), _, rfl, ?_⟩
    · obtain ⟨y, hy, rfl⟩ := List.mem_map.mp (zp.mem_iff.mp hz)
      rw [shK_str]
      exact low_ok (to.nm y hy).1
    rw [eqv_txtL]
    by_cases e : ys = zs
    case neg =>
      rw [decide_eq_false e]
      refine iteT ⟨by show 2 ≤ sizeLine; omega, fun p np => bad (hno fun h => e (sorted_one (yp.trans (h.trans zp.symm)) ysr zsr)) H4 p s04 np⟩
    rw [decide_eq_true e]
    refine iteF ?_
    obtain ⟨kvs, rfl, rfl, dat, kl, there⟩ := hyes (by rw [e] at yp; exact yp.symm.trans zp)
    have hb4 := s04 _ _ hb
    have hq4 := s04 _ _ hq
    have one_asc : ∀ {ks : List Str}, ks.Perm (t.map Prod.fst) → PyProof.Rows.sortedS ks = true → ks = ts.map Prod.fst := fun pk sk => sorted_one (pk.trans (pm.map _).symm) sk asc
    -- the numbers
    refine ⟨_, rfl, q, prs t, t.map Prod.fst, rfl, .inl hq4, prs_keys t, by rw [List.length_map]; omega, fun ks pn pks srt npn => ?_⟩
    obtain rfl := one_asc pks srt
    have s5 := same_new (o := .lst ((ts.map Prod.fst).map V.str)) npn
    obtain ⟨H5, e5⟩ : ∃ X, X = upd H4 pn (.lst ((ts.map Prod.fst).map V.str)) := ⟨_, rfl⟩
    have hn5 : H5 pn = some (.lst ((ts.map Prod.fst).map V.str)) := by rw [e5]; exact upd_same
    have s05 : Same H H5 := by rw [e5]; exact s04.trans s5
    rw [← e5]
    clear e5 s5
    have all2 : (ts.map Prod.fst).all (fun a => (valV kvs (Sum.inr a)).isSome) = true := List.all_eq_true.mpr fun a ha => by
      obtain ⟨v, hv⟩ := there a ha
      rw [hv] <;> rfl
    refine ⟨pn, rfl, ⟨_, SqL.of hn5⟩, ?_⟩
    refine for_it walk_list (fun j σ' H' => (∃ u4, σ' = [some (.ref q), some (.int n), some (.ref b), none, u4, none, none]) ∧ Same H5 H' ∧ ((ts.map Prod.fst).take j).find? (badKey kvs) = none)
      ⟨⟨none, rfl⟩, Same.refl, rfl⟩ (fun j σ' H' _ z => SqL.of (z.2.1 _ _ hn5)) ?_ ?_
    · intro j y σ' Ha Hb hj ⟨⟨u4, e⟩, sa, good⟩ ⟨eb, ex⟩
      subst e
      subst eb
      obtain ⟨a, ha, rfl⟩ := map_of ex
      have s0 := s05.trans sa
      obtain ⟨v, hv⟩ := there a (List.mem_of_getElem? ha)
      obtain ⟨T', dv⟩ := (dat _ (valV_mem hv)).mono s0
      have dg : DGet Hb b (.str a) (some v) := by
        have z := DGet.k (k := Sum.inr a) (s0 _ _ hb)
        rw [hv] at z
        exact z
      have fail : isGe v 0 = false → ∀ p, Hb p = none → Q (.ref p) (upd Hb p (.tup [.str "sizes", .str a])) := fun eg p np => by
        have e : feas ts n (some kvs) = some (.str a) := by
          rw [feas_some, if_neg (fun z => z kl), if_neg (by rw [all2]; decide), find_at ha good (by unfold badKey; rw [hv]; show (!isGe v 0) = true; rw [eg] <;> rfl)] <;> rfl
        rw [e] at k
        exact k p _ (s0.trans (same_new np)) (s0.free np) upd_same
      have pass : isGe v 0 = true → ((ts.map Prod.fst).take (j + 1)).find? (badKey kvs) = none := fun eg => find_more ha good (by unfold badKey; rw [hv]; show (!isGe v 0) = false; rw [eg] <;> rfl)
      refine ⟨_, rfl, _, rfl, b, v, rfl, dg, v, _, _, _, _, rfl, .ty _, dv.ty, dv.int_, _, rfl, ?_⟩
      cases v with
      | int z =>
        refine iteF ⟨_, rfl, _, rfl, b, _, rfl, dg, .int z, _, _, _, _, rfl, .ty _, dv.ty, dv.bool_, _, rfl, ?_⟩
        refine iteF ⟨_, rfl, _, rfl, b, _, rfl, dg, z, 0, rfl, rfl, _, rfl, ?_⟩
        by_cases neg : z < 0
        · rw [decide_eq_true neg]
          exact iteT ⟨_, rfl, by show 2 ≤ sizeLine; omega, fail (decide_eq_false (by omega))⟩
        · rw [decide_eq_false neg]
          exact iteF ⟨⟨_, rfl⟩, sa, pass (decide_eq_true (by omega))⟩
      | bl z =>
        refine iteF ⟨_, rfl, _, rfl, b, _, rfl, dg, .bl z, _, _, _, _, rfl, .ty _, dv.ty, dv.bool_, _, rfl, ?_⟩
        exact iteT ⟨_, rfl, by show 2 ≤ sizeLine; omega, fail rfl⟩
      | _ => exact iteT ⟨_, rfl, by show 2 ≤ sizeLine; omega, fail rfl⟩
    · intro σ' H6 ⟨⟨u4, e⟩, sa, good⟩
      subst e
      rw [List.length_map, List.take_length] at good
      have s06 := s05.trans sa
      have nums : ∀ a ∈ ts.map Prod.fst, valV kvs (Sum.inr a) = some (.int (szOf kvs a)) := fun a ha => by
        obtain ⟨v, hv⟩ := there a ha
        have g := List.find?_eq_none.mp good a ha
        unfold badKey at g
        rw [hv] at g
        unfold szOf
        rw [hv]
        cases v with
        | int i => rfl
        | _ => exact absurd rfl g
      obtain ⟨pls, epl⟩ : ∃ l, l = (("" : Str) :: ts.map Prod.fst) := ⟨_, rfl⟩
      have ek : feas ts n (some kvs) = (pls.find? fun p => decide (resid ts n (szOf kvs) p < 0)).map V.str := by
        rw [feas_some, if_neg (fun z => z kl), if_neg (by rw [all2]; decide), good, epl]
      rw [ek] at k
      have hq6 := s06 _ _ hq
      refine ⟨by show 1 ≤ sizeLine; omega, fun pe npe => ?_⟩
      have s7 := same_new (o := .lst [.str ""]) npe
      refine ⟨_, rfl, q, prs t, t.map Prod.fst, rfl, .inl (s7 _ _ hq6), prs_keys t, by rw [List.length_map]; omega, fun ks pn2 pks srt npn2 => ?_⟩
      obtain rfl := one_asc pks srt
      have s8 : Same (upd H6 pe (.lst [.str ""])) (upd (upd H6 pe (.lst [.str ""])) pn2 (.lst ((ts.map Prod.fst).map V.str))) := same_new npn2
      refine ⟨pe, pn2, _, _, rfl, rfl, s8 _ _ upd_same, upd_same, by rw [List.length_map, List.length_map]; show 1 + ts.length ≤ _; omega, fun pc npc => ⟨pc, rfl, ⟨_, SqL.of upd_same⟩, ?_⟩⟩
      obtain ⟨H9, e9⟩ : ∃ X, X = upd (upd (upd H6 pe (.lst [.str ""])) pn2 (.lst ((ts.map Prod.fst).map V.str))) pc (.lst ([V.str ""] ++ (ts.map Prod.fst).map V.str)) := ⟨_, rfl⟩
      have hc9 : H9 pc = some (.lst (pls.map V.str)) := by rw [e9, upd_same, epl] <;> rfl
      have s09 : Same H H9 := by
        rw [e9]
        exact s06.trans ((s7.trans s8).trans (same_new npc))
      have ex : [V.str ""] ++ (ts.map Prod.fst).map V.str = pls.map V.str := by rw [epl] <;> rfl
      rw [ex] at e9 ⊢
      rw [← e9]
      clear e9
      refine for_it walk_list (fun j σ' H' => (∃ u4 u5 u6, σ' = [some (.ref q), some (.int n), some (.ref b), none, u4, u5, u6]) ∧ Same H9 H' ∧ (pls.take j).find? (fun p => decide (resid ts n (szOf kvs) p < 0)) = none)
        ⟨⟨_, _, _, rfl⟩, Same.refl, rfl⟩ (fun j σ' H' _ z => SqL.of (z.2.1 _ _ hc9)) ?_ ?_
      · intro j y σ' Ha Hb hj ⟨⟨u4, u5, u6, e⟩, sa, good'⟩ ⟨eb, exx⟩
        subst e
        subst eb
        obtain ⟨p, hp, rfl⟩ := map_of exx
        have s0 := s09.trans sa
        have hq0 := s0 _ _ hq
        have bq : b ≠ q := fun e => by
          have z := s0 _ _ hb
          rw [e, hq0] at z
          have z := HO.dK.inj (Option.some.inj z)
          obtain ⟨x, hx⟩ : ∃ x, x ∈ ts.map Prod.fst := by
            have := to.one
            cases h : ts with
            | nil => rw [h, List.length_nil] at olen; omega
            | cons y ys => exact ⟨y.1, List.mem_cons_self⟩
          have z1 := nums x hx
          rw [← z, val_prs] at z1
          obtain ⟨_, _, z1⟩ := Option.map_eq_some_iff.mp z1
          cases z1
        refine ⟨q, _, hq0, trivial, fun od => ⟨_, rfl, q, od, rfl, .inl ⟨_, upd_same, fun D nD => ?_⟩⟩⟩
        obtain ⟨H0, e0⟩ : ∃ X, X = upd Hb q (.frz od (.dK (prs t))) := ⟨_, rfl⟩
        have hqf : H0 q = some (.frz od (.dK (prs t))) := by rw [e0]; exact upd_same
        have hb0 : H0 b = some (.dK kvs) := by rw [e0, upd_ne bq]; exact s0 _ _ hb
        have Dq : D ≠ q := (ne_of_none upd_same nD).symm
        have nDb : Hb D = none := by rw [upd_ne Dq] at nD; exact nD
        rw [← e0] at nD ⊢
        refine lc_it walk_keys (fun m H' => Same H0 H' ∧ H' D = some (.lst (((kids (t.take m) p).map (szOf kvs)).map V.int))) ⟨same_new nD, upd_same⟩ (fun m H' _ z => z.1 _ _ hqf) ?_ ?_
        · intro m x Hx Hy hm ⟨q1, q2⟩ ⟨eb, kk, vv, hk, ey⟩
          subst eb
          subst ey
          obtain ⟨⟨a, pa⟩, hpt, ee⟩ : ∃ x : Str × Str, t[m]? = some x ∧ (kk, vv) = (Sum.inr x.1, V.str x.2) := by
            unfold prs kvT at hk
            rw [List.map_map, List.getElem?_map] at hk
            obtain ⟨x, hx, z⟩ := Option.map_eq_some_iff.mp hk
            exact ⟨x, hx, z.symm⟩
          cases ee
          rw [show kV (Sum.inr a) = V.str a from rfl]
          have mp := List.mem_of_getElem? hpt
          have ma : a ∈ t.map Prod.fst := List.mem_map.mpr ⟨_, mp, rfl⟩
          have hpa := par_of to.nd mp
          have ml := (List.getElem?_eq_some_iff.mp hpt).1
          refine ⟨rfl, ?_⟩
          refine ⟨_, rfl, _, rfl, q, .str pa, rfl, dget_prs (.inr ⟨od, q1 _ _ hqf⟩) hpa, _, rfl, rfl, _, rfl, ?_⟩
          by_cases e : pa = p
          · rw [decide_eq_true (show V.str pa = V.str p by rw [e])]
            refine iteT ⟨_, rfl, _, rfl, b, .int (szOf kvs a), rfl, ?_, _, q2, ?_, q1.put nD, ?_⟩
            · have z := DGet.k (k := Sum.inr a) (q1 _ _ hb0)
              rw [nums a ((pm.map _).mem_iff.mpr ma)] at z
              exact z
            · rw [List.length_map, List.length_map]
              unfold kids
              rw [List.length_map]
              have := List.length_filter_le (fun q : Str × Str => decide (q.2 = p)) (t.take m)
              rw [List.length_take] at this
              omega
            · rw [upd_same, take_more hpt, kids_snoc, if_pos e, List.map_append, List.map_append] <;> rfl
          · rw [decide_eq_false (show ¬ V.str pa = V.str p from fun z => e (V.str.inj z))]
            refine iteF ⟨q1, ?_⟩
            rw [q2, take_more hpt, kids_snoc, if_neg e, List.append_nil]
        intro Hz ⟨q1, q2⟩
        have lt : (prs t).length = t.length := by unfold prs kvT; rw [List.length_map, List.length_map]
        rw [lt, List.take_length] at q2
        refine ⟨q1 _ _ hqf, D, _, rfl, SqL.of (by rw [upd_ne Dq]; exact q2), ?_⟩
        have sz : Same Hb (upd Hz q (.dK (prs t))) := unlock_same hq0 (by rw [← e0]; exact q1)
        obtain ⟨Hw, ew⟩ : ∃ X, X = upd Hz q (.dK (prs t)) := ⟨_, rfl⟩
        rw [← ew] at sz ⊢
        have sw := s0.trans sz
        have sk : ((kids t p).map (szOf kvs)).sum = ((kids ts p).map (szOf kvs)).sum := (sum_perm ((kids_perm pm p).map _)).symm
        rw [sk]
        obtain ⟨S, eS⟩ : ∃ S, S = ((kids ts p).map (szOf kvs)).sum := ⟨_, rfl⟩
        rw [← eS]
        have er : resid ts n (szOf kvs) p = (if p = "" then n else szOf kvs p) - S := by rw [eS] <;> rfl
        have fail : resid ts n (szOf kvs) p < 0 → ∀ r, Hw r = none → Q (.ref r) (upd Hw r (.tup [.str "sizes", .str p])) := fun neg r nr => by
          rw [find_at hp good' (decide_eq_true neg)] at k
          exact k r _ (sw.trans (same_new nr)) (sw.free nr) upd_same
        have pass : ¬ resid ts n (szOf kvs) p < 0 → (pls.take (j + 1)).find? (fun p => decide (resid ts n (szOf kvs) p < 0)) = none := fun nn => find_more hp good' (decide_eq_false nn)
        refine ⟨_, rfl, _, rfl, rfl, _, rfl, ?_⟩
        by_cases e : p = ""
        · rw [decide_eq_true (show V.str p = V.str "" by rw [e])]
          rw [if_pos e] at er
          refine iteT ⟨_, rfl, S, n, rfl, rfl, _, rfl, ?_⟩
          by_cases neg : S > n
          · rw [decide_eq_true neg]
            exact iteT ⟨_, rfl, by show 2 ≤ sizeLine; omega, fail (by omega)⟩
          · rw [decide_eq_false neg]
            exact iteF ⟨⟨_, _, _, rfl⟩, sa.trans sz, pass (by omega)⟩
        · rw [decide_eq_false (show ¬ V.str p = V.str "" from fun z => e (V.str.inj z))]
          rw [if_neg e] at er
          have mp : p ∈ ts.map Prod.fst := by
            have z := List.mem_of_getElem? hp
            rw [epl] at z
            exact (List.mem_cons.mp z).resolve_left e
          have dg : DGet Hw b (.str p) (some (.int (szOf kvs p))) := by
            have z := DGet.k (k := Sum.inr p) (sw _ _ hb)
            rw [nums p mp] at z
            exact z
          refine iteF ⟨_, rfl, _, rfl, b, _, rfl, dg, S, szOf kvs p, rfl, rfl, _, rfl, ?_⟩
          by_cases neg : S > szOf kvs p
          · rw [decide_eq_true neg]
            exact iteT ⟨_, rfl, by show 2 ≤ sizeLine; omega, fail (by omega)⟩
          · rw [decide_eq_false neg]
            exact iteF ⟨⟨_, _, _, rfl⟩, sa.trans sz, pass (by omega)⟩
      · intro σ' H6 ⟨⟨u4, u5, u6, e⟩, sa, good'⟩
        subst e
        rw [List.length_map, List.take_length] at good'
        rw [good'] at k
        exact k _ (s09.trans sa)
end
end FT


/-! _law_caps_error -/
namespace FT
open PySem L2 TL ClX LiI
def spCapErr (K : PySem.W.Frag) : Sp := fun vs H Q _ => ∃ (q : Addr) (sv : V) (t ts : List (Str × Str)) (o : Option (List (Key × V))), vs = [.ref q, sv] ∧ H q = some (.dK (prs t)) ∧ TreeOk t ∧ ts.Perm t ∧ Asc ts ∧ BentV K H t.length sv o ∧ TellK "limits" H Q (lims ts o)
abbrev NCe : List Str := ["_law_parents", "_law_caps_here", "_law_key", "_law_name"]
section
variable {P : Program} {w : World} {K : PySem.W.Frag} {mg : Str → Option Value} {base : Heap}
theorem scCe : FnScope NCe ["_law_parents", "_law_caps_here"] (defScope s__law_caps_error) := ⟨rfl, rfl, rfl, by decide +kernel, rfl, by decide +kernel, by decide +kernel⟩
theorem ok_capErr {f : Addr} {fd : FuncData} (F : Fun K "_law_caps_error" "_law_caps_error" s__law_caps_error f fd) (T : Nm mg) : FnG P w K mg base CX0 1 f fd ["_law_parents", "_law_caps_here"] (spCapErr K) := by
  refine F.okG scCe (fun vs H Q E h => ?_) (fun cdv A outer s H vs Q E clr hr h => ?_)
  · obtain ⟨q, sv, t, ts, o, rfl, _⟩ := h
    rfl
  · obtain ⟨q, sv, t, ts, o, rfl, hq, to, pm, asc, bv, k⟩ := h
    have hu := hu_of hr
    have nd := scCe.nd
    have big : 1000 ≤ sizeLine := by decide
    have few := to.few
    refine ⟨_, pss_cons (ps_if (pt_not (pt_val (pe_callB (CallR.or call_isi call_isiR) (by rfl) T.isi (by decide +kernel) (pa_cons (pv 1) (pa_cons (pe_bltn (v := .ty "dict") (u := .type "dict") (by rfl) T.dct (by decide +kernel) rfl) pa_nil))))) (pss_one (ps_ret (pe_tup (pa_cons pe_str (pa_cons pe_non pa_nil))))) pss_nil)
      (pss_cons (ps_if (pt_cmpR (op_neD hr.units) (pe_callB cr_sortedS (by rfl) T.srt (by decide +kernel) (pa_cons (pe_lock (pe_lc (own := [("_law_key", 2)]) (g := gName 2) (tt := tYes) (te := tCB (rRepr K) (tCons (tVar 2) tNil)) rfl nd (pi_keysO (pv 1)) (blkOk_by (N := NCe) (sc := defScope s__law_caps_error) (by decide +kernel))
            (fun _ _ _ _ _ => pg_name (i := 2) nd rfl (Or.inl rfl)) (fun _ _ _ _ _ => pts_nil) (fun _ _ _ _ _ => pe_callB (call_repr clr.deeper hr.units) (by rfl) T.rep (by decide +kernel) (pa_cons (pv 2) pa_nil)))) pa_nil))
          (pe_callB cr_sortedS (by rfl) T.srt (by decide +kernel) (pa_cons (pe_lock (pe_lc (own := [("_law_key", 2)]) (g := gName 2) (tt := tYes) (te := tCB (rRepr K) (tCons (tVar 2) tNil)) rfl nd (pi_keysO (pv 0)) (blkOk_by (N := NCe) (sc := defScope s__law_caps_error) (by decide +kernel))
            (fun _ _ _ _ _ => pg_name (i := 2) nd rfl (Or.inl rfl)) (fun _ _ _ _ _ => pts_nil) (fun _ _ _ _ _ => pe_callB (call_repr clr.deeper hr.units) (by rfl) T.rep (by decide +kernel) (pa_cons (pv 2) pa_nil)))) pa_nil)) (nomark _)) (pss_one (ps_ret (pe_tup (pa_cons pe_str (pa_cons pe_non pa_nil))))) pss_nil)
      (pss_cons (ps_for PassesOwn.never rfl (pi_list (pe_callB (call_sortedD rfl) (by rfl) T.srt (by decide +kernel) (pa_cons (pv 0) pa_nil))) (pg_name (i := 3) nd rfl (.inl rfl))
        (pss_one (ps_if (PW.pt (pw_or (pt_not (pt_val (pe_callB call_isi (by rfl) T.isi (by decide +kernel) (pa_cons (pe_dget hu (pv 1) (pv 3) (fun _ _ => rfl)) (pa_cons (pe_bltn (v := .ty "int") (u := .type "int") (by rfl) T.int (by decide +kernel) rfl) pa_nil)))))
            (pw_or (pt_val (pe_callB call_isi (by rfl) T.isi (by decide +kernel) (pa_cons (pe_dget hu (pv 1) (pv 3) (fun _ _ => rfl)) (pa_cons (pe_bltn (v := .ty "bool") (u := .type "bool") (by rfl) T.bool (by decide +kernel) rfl) pa_nil))))
            (pw_or1 (pt_cmpR op_lt (pe_dget hu (pv 1) (pv 3) (fun _ _ => rfl)) pe_int (nomark _)))))) (pss_one (ps_ret (pe_tup (pa_cons pe_str (pa_cons (pv 3) pa_nil))))) pss_nil)))
      (pss_one (ps_ret pe_non)))), ?_⟩
    have olen : ts.length = t.length := pm.length_eq
    have tsn : (ts.map Prod.fst).Nodup := (pm.map _).nodup_iff.mpr to.nd
    have tsm : ∀ z ∈ ts.map Prod.fst, NameL z := fun z hz => to.nm z ((pm.map _).mem_iff.mp hz)
    have bad : lims ts o = some .non → ∀ H1 p, Same H H1 → H1 p = none → Q (.ref p) (upd H1 p (.tup [.str "limits", .non])) := fun e H1 p s1 np => by
      rw [e] at k
      exact k p _ (s1.trans (same_new np)) (s1.free np) upd_same
    have cls : (∃ T, Dat K H sv T ∧ T ≠ "dict" ∧ o = none) ∨ ∃ (b : Addr) (u : HO) (rows : List (V × V)) (ws : List Str), sv = .ref b ∧ H b = some u ∧ RowsO b u rows ∧ rows.length ≤ 13 ∧ Paired (fun (r : V × V) w => ShT H r.1 w) rows ws ∧
        (∀ Q' : VK, Q' (.bl true) H → (rIsi K [sv, .ty "dict"] H Q' ∨ ∃ (a : Addr) (rows : List (V × V)) (_ : Option Obj), [sv, .ty "dict"] = [V.ref a, .ty "dict"] ∧ (H a = some (RawO a rows) ∨ ∃ o, H a = some (.frz o (RawO a rows))) ∧ Q' (.bl true) H)) ∧
        (¬ ws.Perm ((t.map Prod.fst).map fun z => shK (Sum.inr z)) → lims ts o = some .non) ∧
        (ws.Perm ((t.map Prod.fst).map fun z => shK (Sum.inr z)) → ∃ kvs, o = some kvs ∧ u = .dK kvs ∧ (∀ p ∈ kvs, IsDat K H p.2) ∧ kvs.length = ts.length ∧ ∀ a ∈ ts.map Prod.fst, ∃ v, valV kvs (Sum.inr a) = some v) := by
      cases o with
      | none =>
        rcases bv with ⟨T, d, ne⟩ | ⟨b, rows, rfl, hb, lr, l13, rk⟩
        · exact .inl ⟨T, d, ne, rfl⟩
        · obtain ⟨ws, pw⟩ := raw_ws rk
          refine .inr ⟨b, _, rows, ws, rfl, hb, .inr rfl, l13, pw, fun Q' q => .inr ⟨b, rows, none, rfl, .inl hb, q⟩, fun _ => rfl, fun p => ?_⟩
          have l1 := p.length_eq
          have l2 := Paired.length pw
          rw [List.length_map, List.length_map] at l1
          omega
      | some kvs =>
        obtain ⟨b, rfl, hb, dat, knd, l13, kb⟩ := bv
        have kbk : ∀ k ∈ kvs.map (·.1), KeyB k := fun k hk => by
          obtain ⟨p, hp, rfl⟩ := List.mem_map.mp hk
          exact kb p hp
        have sp := shown_perm (ns := t.map Prod.fst) knd kbk to.nd to.nm
        have em : (kvs.map (·.1)).map shK = kvs.map fun p => shK p.1 := by rw [List.map_map] <;> rfl
        rw [em, List.length_map, List.length_map] at sp
        refine .inr ⟨b, _, rowsK kvs, kvs.map fun p => shK p.1, rfl, hb, .inl ⟨kvs, rfl, rfl⟩, by rw [rowsK_len]; exact l13, dK_ws kb, fun Q' q => .inl ⟨.ref b, _, _, _, _, rfl, .ty _, (Dat.dct (K := K) hb).ty, (Dat.dct (K := K) hb).dict_, q⟩, fun np => ?_, fun p => ?_⟩
        · rw [lims_some]
          by_cases e1 : kvs.length = ts.length
          · rw [if_neg fun z => z e1]
            refine if_pos ?_
            cases e2 : (ts.map Prod.fst).all fun a => (valV kvs (Sum.inr a)).isSome with
            | false => rfl
            | true =>
              exfalso
              refine np (sp.mpr ⟨by omega, fun a ha => ?_⟩)
              have z := List.all_eq_true.mp e2 a ((pm.map _).mem_iff.mpr ha)
              obtain ⟨v, hv⟩ := Option.isSome_iff_exists.mp z
              exact valV_in hv
          · exact if_pos e1
        · obtain ⟨h1, h2⟩ := sp.mp p
          refine ⟨kvs, rfl, rfl, dat, by omega, fun a ha => ?_⟩
          have m := h2 a ((pm.map _).mem_iff.mp ha)
          cases e : valV kvs (Sum.inr a) with
          | some v => exact ⟨v, rfl⟩
          | none => exact absurd m (valV_not e)
    rcases cls with ⟨T, d, ne, rfl⟩ | ⟨b, u, rows, ws, rfl, hb, ro, l13, pw, isi, hno, hyes⟩
    · refine ⟨_, rfl, .inl ⟨sv, _, _, _, _, rfl, .ty _, d.ty, d.dict_, _, rfl, ?_⟩⟩
      rw [decide_eq_false ne]
      exact iteT ⟨by show 2 ≤ sizeLine; omega, fun p np => bad rfl H p Same.refl np⟩
    refine ⟨_, rfl, isi _ ⟨_, rfl, iteF ?_⟩⟩
    refine shown_list (i := 1) (j := 2) rfl (by show 2 < 4; omega) hb ro l13 pw fun D H1 s1 nD hD => ?_
    have lws := Paired.length pw
    refine ⟨D, ws, rfl, SqL.of hD, by omega, fun ys py yp ysr npy => ?_⟩
    have s2 := same_new (o := .lst (ys.map V.str)) npy
    have hq2 := s2 _ _ (s1 _ _ hq)
    refine shown_list (i := 0) (j := 2) (ws := (prs t).map fun p => shK p.1) rfl (by show 2 < 4; omega) hq2 (.inl ⟨prs t, rfl, rfl⟩) (by rw [rowsK_len]; unfold prs kvT; rw [List.length_map, List.length_map]; omega) (dK_ws fun p hp => ?_) fun D2 H3 s3 nD2 hD2 => ?_
    · unfold prs kvT at hp
      rw [List.map_map] at hp
      obtain ⟨x, hx, rfl⟩ := List.mem_map.mp hp
      exact .inl (to.nm _ (List.mem_map.mpr ⟨x, hx, rfl⟩))
    rw [prs_ws] at hD2
    refine ⟨D2, _, rfl, SqL.of hD2, by rw [List.length_map, List.length_map]; omega, fun zs pz zp zsr npz => ?_⟩
    have s4 := same_new (o := .lst (zs.map V.str)) npz
    obtain ⟨H4, e4⟩ : ∃ X, X = upd H3 pz (.lst (zs.map V.str)) := ⟨_, rfl⟩
    have hy4 : H4 py = some (.lst (ys.map V.str)) := by rw [e4]; exact s4 _ _ (s3 _ _ upd_same)
    have hz4 : H4 pz = some (.lst (zs.map V.str)) := by rw [e4]; exact upd_same
    have s04 : Same H H4 := by rw [e4]; exact ((s1.trans s2).trans s3).trans s4
    rw [← e4]
    clear e4 s4
    refine ⟨.list (ys.map .str), .list (zs.map .str), .lst (SqL.of hy4) (dps_strs _), .lst (SqL.of hz4) (dps_strs _), strs_shaped (fun z hz => paired_ok pw z (yp.mem_iff.mp hz)), strs_shaped (fun z hz => ?_), _, rfl, ?_⟩
    · obtain ⟨y, hy, rfl⟩ := List.mem_map.mp (zp.mem_iff.mp hz)
      rw [shK_str]
      exact low_ok (to.nm y hy).1
    rw [eqv_txtL]
    by_cases e : ys = zs
    case neg =>
      rw [decide_eq_false e]
      refine iteT ⟨by show 2 ≤ sizeLine; omega, fun p np => bad (hno fun h => e (sorted_one (yp.trans (h.trans zp.symm)) ysr zsr)) H4 p s04 np⟩
    rw [decide_eq_true e]
    refine iteF ?_
    obtain ⟨kvs, rfl, rfl, dat, kl, there⟩ := hyes (by rw [e] at yp; exact yp.symm.trans zp)
    have hb4 := s04 _ _ hb
    have hq4 := s04 _ _ hq
    have one_asc : ∀ {ks : List Str}, ks.Perm (t.map Prod.fst) → PyProof.Rows.sortedS ks = true → ks = ts.map Prod.fst := fun pk sk => sorted_one (pk.trans (pm.map _).symm) sk asc
    -- the numbers
    refine ⟨_, rfl, q, prs t, t.map Prod.fst, rfl, .inl hq4, prs_keys t, by rw [List.length_map]; omega, fun ks pn pks srt npn => ?_⟩
    obtain rfl := one_asc pks srt
    have s5 := same_new (o := .lst ((ts.map Prod.fst).map V.str)) npn
    obtain ⟨H5, e5⟩ : ∃ X, X = upd H4 pn (.lst ((ts.map Prod.fst).map V.str)) := ⟨_, rfl⟩
    have hn5 : H5 pn = some (.lst ((ts.map Prod.fst).map V.str)) := by rw [e5]; exact upd_same
    have s05 : Same H H5 := by rw [e5]; exact s04.trans s5
    rw [← e5]
    clear e5 s5
    have all2 : (ts.map Prod.fst).all (fun a => (valV kvs (Sum.inr a)).isSome) = true := List.all_eq_true.mpr fun a ha => by
      obtain ⟨v, hv⟩ := there a ha
      rw [hv] <;> rfl
    refine ⟨pn, rfl, ⟨_, SqL.of hn5⟩, ?_⟩
    refine for_it walk_list (fun j σ' H' => (∃ u4, σ' = [some (.ref q), some (.ref b), none, u4]) ∧ Same H5 H' ∧ ((ts.map Prod.fst).take j).find? (badLim kvs) = none)
      ⟨⟨none, rfl⟩, Same.refl, rfl⟩ (fun j σ' H' _ z => SqL.of (z.2.1 _ _ hn5)) ?_ ?_
    · intro j y σ' Ha Hb hj ⟨⟨u4, e⟩, sa, good⟩ ⟨eb, ex⟩
      subst e
      subst eb
      obtain ⟨a, ha, rfl⟩ := map_of ex
      have s0 := s05.trans sa
      obtain ⟨v, hv⟩ := there a (List.mem_of_getElem? ha)
      obtain ⟨T', dv⟩ := (dat _ (valV_mem hv)).mono s0
      have dg : DGet Hb b (.str a) (some v) := by
        have z := DGet.k (k := Sum.inr a) (s0 _ _ hb)
        rw [hv] at z
        exact z
      have fail : isGe v 1 = false → ∀ p, Hb p = none → Q (.ref p) (upd Hb p (.tup [.str "limits", .str a])) := fun eg p np => by
        have e : lims ts (some kvs) = some (.str a) := by
          rw [lims_some, if_neg (fun z => z kl), if_neg (by rw [all2]; decide), find_at ha good (by unfold badLim; rw [hv]; show (!isGe v 1) = true; rw [eg] <;> rfl)] <;> rfl
        rw [e] at k
        exact k p _ (s0.trans (same_new np)) (s0.free np) upd_same
      have pass : isGe v 1 = true → ((ts.map Prod.fst).take (j + 1)).find? (badLim kvs) = none := fun eg => find_more ha good (by unfold badLim; rw [hv]; show (!isGe v 1) = false; rw [eg] <;> rfl)
      refine ⟨_, rfl, _, rfl, b, v, rfl, dg, v, _, _, _, _, rfl, .ty _, dv.ty, dv.int_, _, rfl, ?_⟩
      cases v with
      | int z =>
        refine iteF ⟨_, rfl, _, rfl, b, _, rfl, dg, .int z, _, _, _, _, rfl, .ty _, dv.ty, dv.bool_, _, rfl, ?_⟩
        refine iteF ⟨_, rfl, _, rfl, b, _, rfl, dg, z, 1, rfl, rfl, _, rfl, ?_⟩
        by_cases neg : z < 1
        · rw [decide_eq_true neg]
          exact iteT ⟨_, rfl, by show 2 ≤ sizeLine; omega, fail (decide_eq_false (by omega))⟩
        · rw [decide_eq_false neg]
          exact iteF ⟨⟨_, rfl⟩, sa, pass (decide_eq_true (by omega))⟩
      | bl z =>
        refine iteF ⟨_, rfl, _, rfl, b, _, rfl, dg, .bl z, _, _, _, _, rfl, .ty _, dv.ty, dv.bool_, _, rfl, ?_⟩
        exact iteT ⟨_, rfl, by show 2 ≤ sizeLine; omega, fail rfl⟩
      | _ => exact iteT ⟨_, rfl, by show 2 ≤ sizeLine; omega, fail rfl⟩
    · intro σ' H6 ⟨⟨u4, e⟩, sa, good⟩
      subst e
      rw [List.length_map, List.take_length] at good
      have e : lims ts (some kvs) = none := by
        rw [lims_some, if_neg (fun z => z kl), if_neg (by rw [all2]; decide), good] <;> rfl
      rw [e] at k
      exact k _ (s05.trans sa)
end
end FT


/-! Own: repr of data with dicts anywhere (lists of dicts, dicts of lists) -/
namespace L2
open PySem PySem.Spec PyProof.Rows
mutual
/-- data, dicts among it -/
inductive DR (K : PySem.W.Frag) (H : Hp) : V → PyData → Prop
  | dat {x : V} {d : PyData} : Dp K H x d → d.hasDict = false → DR K H x d
  | dict {a : Addr} {es : List EntD} : H a = some (.dK (es.map fun e => (e.1, e.2.1))) → DRE K H es → DR K H (.ref a) (dcD es)
  | list {a : Addr} {xs : List V} {ds : List PyData} : SqL K H a xs → DRA K H xs ds → DR K H (.ref a) (.list ds)
  | tup {a : Addr} {xs : List V} {ds : List PyData} : SqT K H a xs → DRA K H xs ds → DR K H (.ref a) (.tuple ds)
inductive DRA (K : PySem.W.Frag) (H : Hp) : List V → List PyData → Prop
  | nil : DRA K H [] []
  | cons {x : V} {d : PyData} {xs : List V} {ds : List PyData} : DR K H x d → DRA K H xs ds → DRA K H (x :: xs) (d :: ds)
inductive DRE (K : PySem.W.Frag) (H : Hp) : List EntD → Prop
  | nil : DRE K H []
  | cons {k : Key} {v : V} {d : PyData} {es : List EntD} : DR K H v d → DRE K H es → DRE K H ((k, v, d) :: es)
end
section
variable {X : Cx} {pins : List (Addr × Obj)} {σ : St} {H : Hp} {s : Shared}
theorem keys_rd : ∀ {es : List EntD} {ds : List DictEntry} {vs : List (Key × Value)}, Pairs (mixKind X.prog X.w) ds vs → KV (es.map fun e => (e.1, e.2.1)) vs → (∃ as, ReadsAll s.heap (ds.map (·.key)) ((es.map fun e => (kD e.1, e.2.2)).map (·.1)) as) ∧ PyData.hasDictAll ((es.map fun e => (kD e.1, e.2.2)).map (·.1)) = false
  | [], ds, vs, p, kv => by
    cases kv
    cases p
    exact ⟨⟨_, .nil⟩, rfl⟩
  | e :: es, ds, vs, p, kv => by
    cases kv with
    | cons hq kv =>
      cases p with
      | cons pk pv p =>
        obtain ⟨⟨as, r1⟩, n1⟩ := keys_rd p kv
        obtain ⟨k, v, d⟩ := e
        obtain ⟨e1, _⟩ := hq
        have e1 : k = _ := e1
        subst e1
        rcases keyIs_shape pk with ⟨i, t, ek, ev⟩ | ⟨x, t, ek, ev⟩
        · refine ⟨?_, ?_⟩
          · rw [List.map_cons, ev]
            exact ⟨_, .cons (by show Reads _ _ (kD _) _; rw [ek]; exact .int i t) r1⟩
          · show (PyData.hasDict (kD _) || PyData.hasDictAll _) = false
            rw [n1, ek] <;> rfl
        · refine ⟨?_, ?_⟩
          · rw [List.map_cons, ev]
            exact ⟨_, .cons (by show Reads _ _ (kD _) _; rw [ek]; exact .str x t) r1⟩
          · show (PyData.hasDict (kD _) || PyData.hasDictAll _) = false
            rw [n1, ek] <;> rfl
mutual
theorem DR.rk (I : Inv X pins σ H s) : ∀ {x : V} {d : PyData}, DR X.K H x d → ∀ {u : Value}, RelV x u → d.showable = true → d.shown.length ≤ sizeLine →
    ∃ as bs, Reads s.heap u d as ∧ ReadAtMost s.heap d.depth bs ∧ ReprK X.prog X.w bs s.heap d.depth u d.shown
  | _, d, .dat h nd, u, r, ok, few => by
    obtain ⟨as, q⟩ := Dp.reads I d _ u h r
    obtain ⟨bs, h1, h2⟩ := ReprK.of_reads (prog := X.prog) (w := X.w) q ok (PyData.noDict_hsm nd) few
    exact ⟨as, bs, q, h1, h2⟩
  | _, _, .dict (a := a) (es := es) ha he, u, r, ok, few => by
    obtain rfl : u = Value.ref a := r
    obtain ⟨_, ns, vs, kv, o, ds, ep, h1, h2, h3, _, h4, _⟩ := (show ObjOk X.prog X.w H s.heap a (.dK (es.map fun e => (e.1, e.2.1))) from I.hok a _ ha)
    have few' : (dictText (PyData.shownKv (es.map fun e => (kD e.1, e.2.2)))).length ≤ sizeLine := by simpa only [PyData.shown] using few
    obtain ⟨ok1, ok2⟩ := PyData.showableKv_split (es.map fun e => (kD e.1, e.2.2)) (by simpa [PyData.showable] using ok)
    obtain ⟨⟨as, r1⟩, n1⟩ := keys_rd (s := s) h4 kv
    obtain ⟨b1, m1, k1⟩ := ReprAllK.of_readsAll (prog := X.prog) (w := X.w) r1 ok1 (fun z => by rw [n1] at z; cases z) fun t ht => let ⟨p, hp, hl⟩ := PyData.shownKv_key_le _ t ht; Nat.le_trans hl (Nat.le_trans (dictText_mem_le hp) few')
    obtain ⟨cs, b2, r2, m2, k2⟩ := DRE.rk I he h4 kv ok2 fun t ht => let ⟨p, hp, hl⟩ := PyData.shownKv_val_le _ t ht; Nat.le_trans hl (Nat.le_trans (dictText_mem_le hp) few')
    have rd : Reads s.heap (.ref a) (dcD es) _ := .dict h1 h2.1 h3 r1 r2
    have hb : ReadAtMost s.heap (PyData.depthKv (es.map fun e => (kD e.1, e.2.2))) (b1 ++ b2) := (m1.mono (PyData.depthAll_keys_le _)).append (m2.mono (PyData.depthAll_vals_le _))
    have hna : a ∉ b1 ++ b2 := not_mem_of_deeper rd (by simp only [PyData.depth]; omega) hb
    refine ⟨_, a :: (b1 ++ b2), rd, ReadAtMost.cons rd (by simp only [PyData.depth]; omega) hb, ?_⟩
    simp only [PyData.depth, PyData.shown, PyData.shownKv_eq]
    exact ReprK.dict h1 h2.1 h3 ns hna (ReprEntriesK.of_two ds.toList _ _ (k1.more_le (fun b hb => List.mem_append_left _ hb) (PyData.depthAll_keys_le _)) (k2.more_le (fun b hb => List.mem_append_right _ hb) (PyData.depthAll_vals_le _)))
  | _, _, .list (a := a) (xs := xs) (ds := ds) hx h, u, r, ok, few => by
    obtain rfl : u = Value.ref a := r
    obtain ⟨its, rv, pl, hz⟩ := I.list hx
    obtain ⟨o, n, ho, hc, hd, hdat⟩ := pl
    have few' : (listText (PyData.shownAll ds)).length ≤ sizeLine := by simpa only [PyData.shown] using few
    obtain ⟨as, bs, r1, m1, k1⟩ := DRA.rk I h rv (by simpa [PyData.showable] using ok) fun t ht => Nat.le_trans (listText_mem_le ht) few'
    have rd : Reads s.heap (.ref a) (.list ds) _ := .list ho hc hdat (by simpa using r1)
    have hna : a ∉ bs := not_mem_of_deeper rd (by simp only [PyData.depth]; omega) m1
    refine ⟨_, a :: bs, rd, ReadAtMost.cons rd (by simp only [PyData.depth]; omega) m1, ?_⟩
    simp only [PyData.depth, PyData.shown]
    cases its with
    | nil =>
      cases r1
      simp only [PyData.shownAll, listText_nil]
      exact ReprK.listEmpty ho hc hdat
    | cons x l => exact ReprK.list ho hc hdat hna (by simpa using k1.length_eq) (fun i y e => k1.item i y (by simpa using e))
  | _, _, .tup (a := a) (xs := xs) (ds := ds) hx h, u, r, ok, few => by
    obtain rfl : u = Value.ref a := r
    obtain ⟨its, rv, ⟨o, ho, hc, n, hdat⟩, hz⟩ := I.tuple hx
    have few' : (tupleText (PyData.shownAll ds)).length ≤ sizeLine := by simpa only [PyData.shown] using few
    obtain ⟨as, bs, r1, m1, k1⟩ := DRA.rk I h rv (by simpa [PyData.showable] using ok) fun t ht => Nat.le_trans (tupleText_mem_le ht) few'
    have rd : Reads s.heap (.ref a) (.tuple ds) _ := .tuple ho hc hdat (by simpa using r1)
    have hna : a ∉ bs := not_mem_of_deeper rd (by simp only [PyData.depth]; omega) m1
    refine ⟨_, a :: bs, rd, ReadAtMost.cons rd (by simp only [PyData.depth]; omega) m1, ?_⟩
    simp only [PyData.depth, PyData.shown]
    exact ReprK.tuple ho hc hdat hna (by simpa using k1)
theorem DRA.rk (I : Inv X pins σ H s) : ∀ {xs : List V} {ds : List PyData}, DRA X.K H xs ds → ∀ {us : List Value}, Vals xs us → PyData.showableAll ds = true → (∀ t ∈ PyData.shownAll ds, t.length ≤ sizeLine) →
    ∃ as bs, ReadsAll s.heap us ds as ∧ ReadAtMost s.heap (PyData.depthAll ds) bs ∧ ReprAllK X.prog X.w bs s.heap (PyData.depthAll ds) us (PyData.shownAll ds)
  | _, _, .nil, _, .nil, _, _ => ⟨[], [], .nil, (fun _ h => nomatch h), by simp only [PyData.shownAll]; exact .nil⟩
  | _, _, .cons (d := d) (ds := ds) h hs, _, .cons r rs, ok, few => by
    have ok' : d.showable = true ∧ PyData.showableAll ds = true := by simpa [PyData.showableAll] using ok
    obtain ⟨a1, b1, r1, m1, k1⟩ := DR.rk I h r ok'.1 (few _ (by simp only [PyData.shownAll]; exact List.mem_cons_self ..))
    obtain ⟨a2, b2, r2, m2, k2⟩ := DRA.rk I hs rs ok'.2 (fun t ht => few t (by simp only [PyData.shownAll]; exact List.mem_cons_of_mem _ ht))
    refine ⟨_, b1 ++ b2, .cons r1 r2, ?_, ?_⟩
    · intro b hm
      simp only [PyData.depthAll]
      rcases List.mem_append.mp hm with hm | hm
      · obtain ⟨d', as', r', hd'⟩ := m1 b hm
        exact ⟨d', as', r', Nat.le_trans hd' (Nat.le_max_left _ _)⟩
      · obtain ⟨d', as', r', hd'⟩ := m2 b hm
        exact ⟨d', as', r', Nat.le_trans hd' (Nat.le_max_right _ _)⟩
    · simp only [PyData.depthAll, PyData.shownAll]
      exact .cons ((k1.more fun b hb => List.mem_append_left _ hb).level_le (Nat.le_max_left _ _)) (k2.more_le (fun b hb => List.mem_append_right _ hb) (Nat.le_max_right _ _))
theorem DRE.rk (I : Inv X pins σ H s) : ∀ {es : List EntD}, DRE X.K H es → ∀ {ds : List DictEntry} {vs : List (Key × Value)}, Pairs (mixKind X.prog X.w) ds vs → KV (es.map fun e => (e.1, e.2.1)) vs → PyData.showableAll ((es.map fun e => (kD e.1, e.2.2)).map (·.2)) = true → (∀ t ∈ PyData.shownAll ((es.map fun e => (kD e.1, e.2.2)).map (·.2)), t.length ≤ sizeLine) →
    ∃ as bs, ReadsAll s.heap (ds.map (·.val)) ((es.map fun e => (kD e.1, e.2.2)).map (·.2)) as ∧ ReadAtMost s.heap (PyData.depthAll ((es.map fun e => (kD e.1, e.2.2)).map (·.2))) bs ∧ ReprAllK X.prog X.w bs s.heap (PyData.depthAll ((es.map fun e => (kD e.1, e.2.2)).map (·.2))) (ds.map (·.val)) (PyData.shownAll ((es.map fun e => (kD e.1, e.2.2)).map (·.2)))
  | _, .nil, ds, vs, p, kv, _, _ => by
    cases kv
    cases p
    exact ⟨[], [], .nil, (fun _ h => nomatch h), by simp only [List.map_nil, PyData.shownAll]; exact .nil⟩
  | _, .cons (d := d) (es := es) h hs, ds, vs, p, kv, ok, few => by
    cases kv with
    | cons hq kv =>
      cases p with
      | cons pk pv p =>
        obtain ⟨e1, rv⟩ := hq
        rw [← pv] at rv
        have ok' : d.showable = true ∧ PyData.showableAll ((es.map fun e => (kD e.1, e.2.2)).map (·.2)) = true := by simpa [PyData.showableAll] using ok
        obtain ⟨a1, b1, r1, m1, k1⟩ := DR.rk I h rv ok'.1 (few _ (by simp only [List.map_cons, PyData.shownAll]; exact List.mem_cons_self ..))
        obtain ⟨a2, b2, r2, m2, k2⟩ := DRE.rk I hs p kv ok'.2 (fun t ht => few t (by simp only [List.map_cons, PyData.shownAll]; exact List.mem_cons_of_mem _ ht))
        refine ⟨_, b1 ++ b2, .cons r1 r2, ?_, ?_⟩
        · intro b hm
          simp only [List.map_cons, PyData.depthAll]
          rcases List.mem_append.mp hm with hm | hm
          · obtain ⟨d', as', r', hd'⟩ := m1 b hm
            exact ⟨d', as', r', Nat.le_trans hd' (Nat.le_max_left _ _)⟩
          · obtain ⟨d', as', r', hd'⟩ := m2 b hm
            exact ⟨d', as', r', Nat.le_trans hd' (Nat.le_max_right _ _)⟩
        · simp only [List.map_cons, PyData.depthAll, PyData.shownAll]
          exact .cons ((k1.more fun b hb => List.mem_append_left _ hb).level_le (Nat.le_max_left _ _)) (k2.more_le (fun b hb => List.mem_append_right _ hb) (Nat.le_max_right _ _))
end
def rReprR (K : PySem.W.Frag) : List V → Hp → VK → Prop := fun xs H Q => ∃ (x : V) (d : PyData), xs = [x] ∧ DR K H x d ∧ d.showable = true ∧ d.depth ≤ 60 ∧ d.shown.length ≤ sizeLine ∧ Q (.str d.shown) H
theorem call_reprR (clr : Clr X.A) (hu : X.A.units + 64 < cLine) : CallR X (.builtin "repr") (rReprR X.K) := by
  intro pins s σ H xs us Q I r h
  obtain ⟨x, d, rfl, sh, ok, dep, few, q⟩ := h
  cases sh with
  | dat h nd => exact call_repr clr hu pins s σ H _ us Q I r ⟨x, d, rfl, .inl ⟨h, nd⟩, ok, dep, few, q⟩
  | dict ha he =>
    rename_i a es
    obtain ⟨u, rfl, ru⟩ := vals1 r
    obtain rfl : u = Value.ref a := ru
    obtain ⟨_, ns, vs, kv, o, ds, ep, h1, h2, h3, _, h4, _⟩ := (show ObjOk X.prog X.w H s.heap a (.dK (es.map fun e => (e.1, e.2.1))) from I.hok a _ ha)
    have few' : (dictText (PyData.shownKv (es.map fun e => (kD e.1, e.2.2)))).length ≤ sizeLine := by simpa only [PyData.shown] using few
    obtain ⟨ok1, ok2⟩ := PyData.showableKv_split (es.map fun e => (kD e.1, e.2.2)) (by simpa [PyData.showable] using ok)
    obtain ⟨⟨as, r1⟩, n1⟩ := keys_rd (s := s) h4 kv
    obtain ⟨b1, m1, k1⟩ := ReprAllK.of_readsAll (prog := X.prog) (w := X.w) r1 ok1 (fun z => by rw [n1] at z; cases z) fun t ht => let ⟨p, hp, hl⟩ := PyData.shownKv_key_le _ t ht; Nat.le_trans hl (Nat.le_trans (dictText_mem_le hp) few')
    obtain ⟨cs, b2, r2, m2, k2⟩ := DRE.rk I he h4 kv ok2 fun t ht => let ⟨p, hp, hl⟩ := PyData.shownKv_val_le _ t ht; Nat.le_trans hl (Nat.le_trans (dictText_mem_le hp) few')
    have rd : Reads s.heap (.ref a) (dcD es) _ := .dict h1 h2.1 h3 r1 r2
    have hb : ReadAtMost s.heap (PyData.depthKv (es.map fun e => (kD e.1, e.2.2))) (b1 ++ b2) := (m1.mono (PyData.depthAll_keys_le _)).append (m2.mono (PyData.depthAll_vals_le _))
    have hna : a ∉ b1 ++ b2 := not_mem_of_deeper rd (by simp only [PyData.depth]; omega) hb
    have dep' : PyData.depthKv (es.map fun e => (kD e.1, e.2.2)) + 1 ≤ 60 := by simpa only [PyData.depth] using dep
    refine call_repr_slot (by omega) ⟨o, h1, h2.1⟩ PySem.F.slot_dict_repr (call_dict_reprK h1 h2.1 h3 ns hna (ReprEntriesK.of_two ds.toList _ _ (k1.more_le (fun b hb => List.mem_append_left _ hb) (PyData.depthAll_keys_le _)) (k2.more_le (fun b hb => List.mem_append_right _ hb) (PyData.depthAll_vals_le _)))
      (g := []) clr (fun b _ => Clear.nil b) (by show X.A.units + 1 + _ < cLine; omega) (fun _ _ z => z) (fun h' t tk kp => ⟨_, _, rfl, ?_⟩) (by rw [← PyData.shownKv_eq]; exact few'))
    refine ⟨.str (dcD es).shown, H, I.kept kp, ?_, q⟩
    exact ⟨t, by rw [show (dcD es).shown = dictText (PyData.shownKv (es.map fun e => (kD e.1, e.2.2))) by simp only [PyData.shown], PyData.shownKv_eq]⟩
  | list hx h =>
    rename_i a xs ds
    have r0 := r
    obtain ⟨u, rfl, ru⟩ := vals1 r
    obtain rfl : u = Value.ref a := ru
    obtain ⟨its, rv, pl, hz⟩ := I.list hx
    obtain ⟨o, n, ho, hc, hd, hdat⟩ := pl
    have few' : (listText (PyData.shownAll ds)).length ≤ sizeLine := by simpa only [PyData.shown] using few
    obtain ⟨as, bs, r1, m1, k1⟩ := DRA.rk I h rv (by simpa [PyData.showable] using ok) fun t ht => Nat.le_trans (listText_mem_le ht) few'
    have rd : Reads s.heap (.ref a) (.list ds) _ := .list ho hc hdat (by simpa using r1)
    have hna : a ∉ bs := not_mem_of_deeper rd (by simp only [PyData.depth]; omega) m1
    have dep' : PyData.depthAll ds + 1 ≤ 60 := by simpa only [PyData.depth] using dep
    cases its with
    | nil =>
      cases rv
      cases h
      exact call_repr clr hu pins s σ H _ _ Q I r0 ⟨.ref a, .list [], rfl, .inl ⟨.lst hx .nil, rfl⟩, ok, dep, few, q⟩
    | cons y l =>
      refine call_repr_slot (by omega) ⟨o, ho, hc⟩ PySem.F.slot_list_repr.toG (call_list_reprK ho hc hdat hna (by simpa using k1.length_eq) (fun i y e => k1.item i y (by simpa using e)) (g := []) clr (fun b _ => Clear.nil b) (by show X.A.units + 1 + _ < cLine; omega) (fun _ _ z => z) (fun h' t tk kp => ⟨_, _, rfl, ?_⟩) few')
      exact ⟨.str (PyData.list ds).shown, H, I.kept kp, ⟨t, by simp only [PyData.shown]⟩, q⟩
  | tup hx h =>
    rename_i a xs ds
    obtain ⟨u, rfl, ru⟩ := vals1 r
    obtain rfl : u = Value.ref a := ru
    obtain ⟨its, rv, ⟨o, ho, hc, n, hdat⟩, hz⟩ := I.tuple hx
    have few' : (tupleText (PyData.shownAll ds)).length ≤ sizeLine := by simpa only [PyData.shown] using few
    obtain ⟨as, bs, r1, m1, k1⟩ := DRA.rk I h rv (by simpa [PyData.showable] using ok) fun t ht => Nat.le_trans (tupleText_mem_le ht) few'
    have rd : Reads s.heap (.ref a) (.tuple ds) _ := .tuple ho hc hdat (by simpa using r1)
    have hna : a ∉ bs := not_mem_of_deeper rd (by simp only [PyData.depth]; omega) m1
    have dep' : PyData.depthAll ds + 1 ≤ 60 := by simpa only [PyData.depth] using dep
    refine call_repr_slot (by omega) ⟨o, ho, hc⟩ PySem.F.slot_tuple_repr (call_tuple_reprK ho hc hdat hna (by simpa using k1) (g := []) clr (fun b _ => Clear.nil b) (by show X.A.units + 1 + _ < cLine; omega) (fun _ _ z => z) (fun h' t tk kp => ⟨_, _, rfl, ?_⟩) few')
    exact ⟨.str (PyData.tuple ds).shown, H, I.kept kp, ⟨t, by simp only [PyData.shown]⟩, q⟩
end
end L2


/-! the text of a list of sizes of many users -/
namespace FT
open PySem L2 TL ClX LiI
theorem int_bigL {u : Int} (h0 : 0 ≤ u) (h1 : u ≤ 10 ^ 30) : (PyData.shown (.int u)).length ≤ 40 ∧ PyData.showable (.int u) = true := by
  obtain ⟨n, rfl⟩ := Int.eq_ofNat_of_zero_le h0
  have lt : n < 10 ^ 31 := by omega
  refine ⟨?_, ?_⟩
  · have e : PyData.shown (.int (n : Int)) = Str.ofString (toString ((n : Nat) : Int)) := by
      simp only [PyData.shown]
    rw [e, len_tl, tl_num]
    exact Nat.le_trans (numL_len (by decide) lt) (by decide)
  · simp only [PyData.showable, decide_eq_true_eq]
    refine PySem.Spec.log2_small ?_
    rw [Int.natAbs_natCast]
    refine Nat.lt_of_lt_of_le lt ?_
    exact Nat.le_trans (show 10 ^ 31 ≤ 2 ^ 200 by decide) (Nat.pow_le_pow_right (by decide) (by decide))
theorem str_leafL {z : Str} (h : PyData.strOk z = true) : PyData.leavesShort 40 (.str z) = true := by
  unfold PyData.leavesShort
  rw [List.all_eq_true]
  unfold PyData.strOk at h
  intro c hc
  have h := Array.all_eq_true_iff_forall_mem.mp h c (Array.mem_toList_iff.mp hc)
  have h := of_decide_eq_true h
  exact decide_eq_true (by omega)
theorem szKv_showL : ∀ {l : List Str} {s : Str → Int}, (∀ p ∈ l, PyData.strOk p = true ∧ p.length ≤ 8 ∧ 0 ≤ s p ∧ s p ≤ 10 ^ 30) → PyData.showableKv (szKv l s) = true ∧ PyData.leavesShortKv 40 (szKv l s) = true ∧ PyData.depthKv (szKv l s) ≤ 1 ∧ PyData.bulkKv (szKv l s) ≤ 10 * l.length
  | [], _, _ => ⟨rfl, rfl, Nat.zero_le _, Nat.zero_le _⟩
  | p :: l, s, h => by
    obtain ⟨h1, h2, h3, h4⟩ := szKv_showL (l := l) (s := s) fun v hv => h v (List.mem_cons_of_mem _ hv)
    obtain ⟨p1, p2, p3, p4⟩ := h p (List.mem_cons_self ..)
    obtain ⟨q1, q2⟩ := int_bigL p3 p4
    refine ⟨?_, ?_, ?_, ?_⟩
    · show (true && PyData.showable (.int (s p)) && PyData.showableKv (szKv l s)) = true
      rw [q2, h1] <;> rfl
    · show (PyData.leavesShort 40 (.str p) && decide ((PyData.shown (.int (s p))).length ≤ 40) && PyData.leavesShortKv 40 (szKv l s)) = true
      rw [str_leafL p1, decide_eq_true q1, h2] <;> rfl
    · show max (max 0 0) (PyData.depthKv (szKv l s)) ≤ 1
      omega
    · show p.cps.size + 0 + 2 + PyData.bulkKv (szKv l s) ≤ 10 * (p :: l).length
      rw [List.length_cons]
      have : p.cps.size = p.length := rfl
      omega
def szD (l : List Str) (gs : List (Str → Int)) : List PyData := gs.map fun g => PyData.dict (szKv l g)
theorem szD_show {l : List Str} (nm : ∀ a ∈ l, NameL a) : ∀ {gs : List (Str → Int)}, (∀ g ∈ gs, ∀ a ∈ l, 0 ≤ g a ∧ g a ≤ 10 ^ 30) → PyData.showableAll (szD l gs) = true ∧ PyData.leavesShortAll 40 (szD l gs) = true ∧ PyData.depthAll (szD l gs) ≤ 2 ∧ PyData.bulkAll (szD l gs) ≤ (10 * l.length + 3) * gs.length
  | [], _ => ⟨rfl, rfl, Nat.zero_le _, Nat.zero_le _⟩
  | g :: gs, h => by
    obtain ⟨h1, h2, h3, h4⟩ := szD_show nm (gs := gs) fun v hv => h v (List.mem_cons_of_mem _ hv)
    obtain ⟨q1, q2, q3, q4⟩ := szKv_showL (l := l) (s := g) fun a ha => ⟨strOk_name (nm a ha), (nm a ha).len.2, h g (List.mem_cons_self ..) a ha⟩
    refine ⟨?_, ?_, ?_, ?_⟩
    · show (PyData.showableKv (szKv l g) && PyData.showableAll (szD l gs)) = true
      rw [q1, h1] <;> rfl
    · show (PyData.leavesShortKv 40 (szKv l g) && PyData.leavesShortAll 40 (szD l gs)) = true
      rw [q2, h2] <;> rfl
    · show max (PyData.depthKv (szKv l g) + 1) (PyData.depthAll (szD l gs)) ≤ 2
      omega
    · have eb : PyData.bulkAll (szD l (g :: gs)) ≤ PyData.bulkKv (szKv l g) + 3 + PyData.bulkAll (szD l gs) := by
        show PyData.bulkAll (PyData.dict (szKv l g) :: szD l gs) ≤ _
        simp only [PyData.bulk, PyData.bulkAll]
        omega
      rw [List.length_cons, Nat.mul_add]
      omega
theorem dre_ofL {K : PySem.W.Frag} {H : Hp} : ∀ {es : List EntD}, (∀ e ∈ es, DR K H e.2.1 e.2.2) → DRE K H es
  | [], _ => .nil
  | (k, v, d) :: es, h => .cons (h _ (List.mem_cons_self ..)) (dre_ofL fun e he => h e (List.mem_cons_of_mem _ he))
theorem dra_of {K : PySem.W.Frag} {H : Hp} {l : List Str} : ∀ {rs : List Addr} {gs : List (Str → Int)}, Paired (fun r g => H r = some (.dK (tblI l g))) rs gs → DRA K H (rs.map V.ref) (szD l gs)
  | _, _, .nil => .nil
  | _, _, .cons (a := r) (b := g) e t => by
    refine .cons ?_ (dra_of t)
    show DR K H (.ref r) (PyData.dict (szKv l g))
    rw [← szEn_D]
    refine .dict (by rw [szEn_kv]; exact e) (dre_ofL fun e he => ?_)
    obtain ⟨a, ha, rfl⟩ := List.mem_map.mp he
    exact .dat (.int _) rfl
theorem lst_reprL {K : PySem.W.Frag} {H : Hp} {p : Addr} {l : List Str} {rs : List Addr} {gs : List (Str → Int)} (nm : ∀ a ∈ l, NameL a) (few : l.length ≤ 12) (len : gs.length ≤ 200) (b : ∀ g ∈ gs, ∀ a ∈ l, 0 ≤ g a ∧ g a ≤ 10 ^ 30) (hp : H p = some (.lst (rs.map V.ref))) (pr : Paired (fun r g => H r = some (.dK (tblI l g))) rs gs) :
    DR K H (.ref p) (.list (szD l gs)) ∧ (PyData.list (szD l gs)).showable = true ∧ (PyData.list (szD l gs)).depth ≤ 60 ∧ (PyData.list (szD l gs)).shown.length ≤ sizeLine := by
  obtain ⟨h1, h2, h3, h4⟩ := szD_show nm b
  refine ⟨.list (SqL.of hp) (dra_of pr), h1, by show PyData.depthAll (szD l gs) + 1 ≤ 60; omega, ?_⟩
  have z := PyData.shown_le_bulk 40 (by decide) (.list (szD l gs)) h2
  have hb : PyData.bulk (.list (szD l gs)) ≤ 123 * 200 + 3 := by
    have e : PyData.bulk (.list (szD l gs)) ≤ PyData.bulkAll (szD l gs) + 3 := by
      simp only [PyData.bulk]
      omega
    have m := Nat.mul_le_mul (show 10 * l.length + 3 ≤ 123 by omega) len
    omega
  have big : 42 * (123 * 200 + 3) + 40 ≤ sizeLine := by rw [sizeLine_eq]; decide
  have m := Nat.mul_le_mul_left 42 hb
  omega
end FT


/-! _law_refused_right of k25 -/
namespace FT
open PySem L2 TL ClX LiI LamX
structure W25R (P : Program) (w : World) (K : PySem.W.Frag) (mg : Str → Option Value) (base : Heap) (CF CU CS CL CT : Addr) (mc : Value) (f : Nat → Addr) (fd : Nat → FuncData) : Prop where
  Z : Fc K mg CF mc
  dp : Dn P w K mg base CX0 3 "_law_pick" ["_law_draw", "_law_some"] spPickB (f 0) (fd 0)
  fi : FnOk P w K mg base CX0 3 (f 1) (fd 1) ["self", "parents"] (spFInit CF)
  fim : Mk K CF (f 1)
  fib : Binds K (fd 1) ["self", "parents"] []
  be : Dn P w K mg base CX0 4 "_law_bent_sizes" ["_law_draw", "_law_parents", "_law_wide"] (spBentB K) (f 2) (fd 2)
  bc : Dn P w K mg base CX0 4 "_law_bent_caps" ["_law_draw", "_law_parents", "_law_caps_here"] (spBentCap K) (f 3) (fd 3)
  se : FnG P w K mg base CX0 1 (f 4) (fd 4) ["_law_parents", "_law_folk", "_law_wide"] (spSzErr K)
  sem : mg "_law_sizes_error" = some (.ref (f 4))
  sek : PySem.W.keepIn K (.ref (f 4)) = true
  seb : Binds K (fd 4) ["_law_parents", "_law_folk", "_law_wide"] []
  ce : FnG P w K mg base CX0 1 (f 5) (fd 5) ["_law_parents", "_law_caps_here"] (spCapErr K)
  cem : mg "_law_caps_error" = some (.ref (f 5))
  cek : PySem.W.keepIn K (.ref (f 5)) = true
  ceb : Binds K (fd 5) ["_law_parents", "_law_caps_here"] []
  fw : Dn P w K mg base (L2.CX P w) 8 "fewest" ["forest", "users", "sizes", "new", "limits"] (spFewest3 K CF CU CS CL) (f 6) (fd 6)
  pl : Dn P w K mg base (L2.CX P w) 9 "plan" ["forest", "users", "sizes", "new", "limits"] (spPlan K CF CU CS CL CT) (f 7) (fd 7)
def obj4 (q w1 w2 cc : Addr) (t : List (Str × Str)) (s f c : Str → Int) : List (Addr × HO) := [(q, .dK (prs t)), (w1, .dK (tblI (t.map Prod.fst) s)), (w2, .dK (tblI (t.map Prod.fst) f)), (cc, .dK (tblI (t.map Prod.fst) c))]
def spRef25 (T : List (Addr × Str)) : Sp := fun vs H Q _ => ∃ (d l i q w1 w2 cc : Addr) (b n : Int) (t : List (Str × Str)) (s f c : Str → Int) (L : List (Addr × HO)), vs = [.ref d, .ref q, .int n, .ref w1, .ref w2, .ref cc] ∧ Kept T d l i L b H ∧ (∀ e ∈ obj4 q w1 w2 cc t s f c, e ∈ L) ∧ b + 200 ≤ 10 ^ 12 ∧ TreeOk t ∧ 1 ≤ n ∧ n ≤ 10 ^ 30 ∧ (∀ a ∈ t.map Prod.fst, Sml (c a)) ∧
  ∀ H', Kept T d l i L (b + 200) H' → Q (.bl true) H'
abbrev NR5 : List Str := ["_law_draw", "_law_parents", "_law_folk", "_law_wide", "_law_fresh", "_law_caps_here", "_law_due", "_law_bent", "_law_odd", "_law_one", "_law_other", "_law_wood"]
theorem pss_impQ {X : Cx} {ss : List Stmt} {t t' : TS} (h : PSs X ss t) (m : ∀ D σ H, t' D σ H → t D σ H) : PSs X ss t' := ⟨fun pins s σ H D I q => h.run pins s σ H D I (m _ _ _ q)⟩
/-! ### plain -/
theorem shown_inj25 {a b : Int} (a0 : 0 ≤ a) (b0 : 0 ≤ b) (a1 : a < 10 ^ 31) (b1 : b < 10 ^ 31) (e : (PyData.int a).shown = (PyData.int b).shown) : a = b := by
  obtain ⟨x, rfl⟩ := Int.eq_ofNat_of_zero_le a0
  obtain ⟨y, rfl⟩ := Int.eq_ofNat_of_zero_le b0
  rw [PyData.shown_int, PyData.shown_int] at e
  have h1 := int_num (n := x) (Nat.le_trans (numL_len (k := 31) (by decide) (by omega)) (by decide))
  have h2 := int_num (n := y) (Nat.le_trans (numL_len (k := 31) (by decide) (by omega)) (by decide))
  rw [e, h2] at h1
  exact (Option.some.inj h1).symm
def oddL (n : Int) : List V := (List.replicate 5 (V.int n)) ++ [.int 0, .non, .bl true, .int (10 ^ 30 + 1), .str "1"]
theorem shown_ne25 {n : Int} {d : PyData} {k : Nat} (hk : k ≠ 45 ∧ (k < 48 ∨ 57 < k)) (m : k ∈ d.shown.cps.toList) : d.shown ≠ (PyData.int n).shown := fun e => by
  rw [e] at m
  exact PyProof.Rows.shown_int_free' hk n m
theorem odd_shw {K : PySem.W.Frag} {n : Int} {odd : V} (n1 : 1 ≤ n) (n30 : n ≤ 10 ^ 30) (m : odd ∈ oddL n) : (∀ H, IsDat K H odd) ∧ ∃ d : PyData, (∀ H, Shw K H odd d) ∧ d.showable = true ∧ d.depth ≤ 60 ∧ d.shown.length ≤ sizeLine ∧ ((odd = .int n ∧ d = .int n) ∨ (usersOk odd (10 ^ 30) = false ∧ d.shown ≠ (PyData.int n).shown)) := by
  have big : 1000 ≤ sizeLine := by decide
  have good : ∀ u : Int, 0 ≤ u → u ≤ 10 ^ 30 + 1 → (PyData.int u).showable = true ∧ (PyData.int u).shown.length ≤ sizeLine := fun u u0 u1 => by
    obtain ⟨x, rfl⟩ := Int.eq_ofNat_of_zero_le u0
    have lt : x < 10 ^ 31 := by omega
    refine ⟨?_, ?_⟩
    · simp only [PyData.showable, decide_eq_true_eq]
      refine PySem.Spec.log2_small ?_
      rw [Int.natAbs_natCast]
      exact Nat.lt_of_lt_of_le lt (Nat.le_trans (show 10 ^ 31 ≤ 2 ^ 200 by decide) (Nat.pow_le_pow_right (by decide) (by decide)))
    · have e : PyData.shown (.int (x : Int)) = Str.ofString (toString ((x : Nat) : Int)) := by simp only [PyData.shown]
      rw [e, len_tl, tl_num]
      exact Nat.le_trans (numL_len (by decide) lt) (Nat.le_trans (show 31 ≤ 1000 by decide) big)
  unfold oddL at m
  rcases List.mem_append.mp m with m | m
  · obtain rfl := List.eq_of_mem_replicate m
    exact ⟨fun H => ⟨_, .int n⟩, .int n, fun H => .inl ⟨.int n, rfl⟩, (good n (by omega) (by omega)).1, (by simp [PyData.depth]), (good n (by omega) (by omega)).2, .inl ⟨rfl, rfl⟩⟩
  · simp only [List.mem_cons, List.not_mem_nil, or_false] at m
    rcases m with rfl | rfl | rfl | rfl | rfl
    · exact ⟨fun H => ⟨_, .int 0⟩, .int 0, fun H => .inl ⟨.int 0, rfl⟩, (good 0 (by omega) (by omega)).1, by decide, (good 0 (by omega) (by omega)).2, .inr ⟨by decide, fun e => by have := shown_inj25 (a := 0) (by omega) (by omega) (by omega) (by omega) e; omega⟩⟩
    · exact ⟨fun H => ⟨_, .non⟩, .none, fun H => .inl ⟨.non, rfl⟩, rfl, by decide, by decide +kernel, .inr ⟨rfl, shown_ne25 (k := 78) (by decide) (by decide +kernel)⟩⟩
    · exact ⟨fun H => ⟨_, .bl true⟩, .bool true, fun H => .inl ⟨.bl true, rfl⟩, rfl, by decide, by decide +kernel, .inr ⟨rfl, shown_ne25 (k := 84) (by decide) (by decide +kernel)⟩⟩
    · exact ⟨fun H => ⟨_, .int _⟩, .int (10 ^ 30 + 1), fun H => .inl ⟨.int _, rfl⟩, (good _ (by omega) (by omega)).1, by decide, (good _ (by omega) (by omega)).2, .inr ⟨by decide +kernel, fun e => by have := shown_inj25 (a := 10 ^ 30 + 1) (by omega) (by omega) (by omega) (by omega) e; omega⟩⟩
    · exact ⟨fun H => ⟨_, .str _⟩, .str "1", fun H => .inl ⟨.str _, rfl⟩, by decide +kernel, by decide, by decide +kernel, .inr ⟨rfl, shown_ne25 (k := 39) (by decide) (by decide +kernel)⟩⟩
theorem lims_val25 {ts : List (Str × Str)} {o : Option (List (Key × V))} {v : V} (h : lims ts o = some v) : v = .non ∨ ∃ a, Pl ts a ∧ v = .str a := by
  cases o with
  | none => exact .inl (Option.some.inj h).symm
  | some kvs =>
    rw [lims_some] at h
    by_cases c1 : kvs.length ≠ ts.length
    · rw [if_pos c1] at h
      exact .inl (Option.some.inj h).symm
    · rw [if_neg c1] at h
      by_cases c2 : (ts.map Prod.fst).all (fun a => (valV kvs (Sum.inr a)).isSome) = false
      · rw [if_pos c2] at h
        exact .inl (Option.some.inj h).symm
      · rw [if_neg c2] at h
        obtain ⟨a, ha, e2⟩ := Option.map_eq_some_iff.mp h
        exact .inr ⟨a, .inr (List.mem_of_find?_eq_some ha), e2.symm⟩
theorem sml_of25 {kvs : List (Key × V)} (h : ∀ p ∈ kvs, SmlV p.2) (a : Str) : Sml (szOf kvs a) := by
  unfold Sml szOf
  cases e : valV kvs (Sum.inr a) with
  | none => show (0 : Int).natAbs < _; decide
  | some v =>
    cases v with
    | int i =>
      have := h _ (FT.valV_mem e)
      exact this i rfl
    | _ => show (0 : Int).natAbs < _; decide
/-- which of the errors is due -/
def due25 (ts : List (Str × Str)) (uv : V) (o1 o2 ol : Option (List (Key × V))) : Option (Nat × V) := if usersOk uv (10 ^ 30) = true then (match feas ts (numV uv) o1 with
  | some v => some (0, v)
  | none => match feas ts (numV uv) o2 with
    | some v => some (0, v)
    | none => (lims ts ol).map fun v => (5, v)) else some (2, .non)
def DueV5 (H : Hp) (dv : V) : Option (Nat × V) → Prop
  | none => dv = .non
  | some (j, v) => ∃ p, dv = .ref p ∧ H p = some (.tup [.str (wdR j), v])
/-- the error that is raised -/
def errO (CU CS CL : Addr) (ts : List (Str × Str)) (uv : V) (o1 o2 ol : Option (List (Key × V))) : Option Err := (amE CU CS ts uv o1 o2).or (liE CL ts ol)
def errJ (CU CS CL : Addr) (j : Nat) (v : V) : Err := if j = 2 then .e0 CU else .e1 (if j = 0 then CS else CL) (if j = 0 then "place" else "name") v
theorem due_err {CU CS CL : Addr} {ts : List (Str × Str)} {uv : V} {o1 o2 ol : Option (List (Key × V))} {j : Nat} {v : V} (h : due25 ts uv o1 o2 ol = some (j, v)) : errO CU CS CL ts uv o1 o2 ol = some (errJ CU CS CL j v) ∧ (j = 0 ∨ j = 5 ∨ j = 2) ∧ (v = .non ∨ ∃ a, Pl ts a ∧ v = .str a) ∧ (j = 2 → v = .non) := by
  unfold due25 at h
  unfold errO amE szE
  by_cases u : usersOk uv (10 ^ 30) = true
  · rw [if_pos u] at h ⊢
    show ((feE CS ts (numV uv) o1).or (feE CS ts (numV uv) o2)).or (liE CL ts ol) = _ ∧ _
    cases e1 : feas ts (numV uv) o1 with
    | some v1 =>
      rw [e1] at h
      cases h
      exact ⟨by unfold feE; rw [e1] <;> rfl, .inl rfl, feas_val28 e1, fun z => by cases z⟩
    | none =>
      rw [e1] at h
      cases e2 : feas ts (numV uv) o2 with
      | some v2 =>
        rw [e2] at h
        cases h
        exact ⟨by unfold feE; rw [e1, e2] <;> rfl, .inl rfl, feas_val28 e2, fun z => by cases z⟩
      | none =>
        rw [e2] at h
        obtain ⟨v', h1, h2⟩ := Option.map_eq_some_iff.mp h
        cases h2
        exact ⟨by unfold feE liE; rw [e1, e2, h1] <;> rfl, .inr (.inl rfl), lims_val25 h1, fun z => by cases z⟩
  · rw [if_neg u] at h ⊢
    cases h
    exact ⟨rfl, .inr (.inr rfl), .inl rfl, fun _ => rfl⟩
theorem out_all {CU CS CL : Addr} {ts : List (Str × Str)} {uv : V} {o1 o2 ol : Option (List (Key × V))} {e : Err} (h : errO CU CS CL ts uv o1 o2 ol = some e) {R : Prop} {H : Hp} {E : XK} (o : Out H E e) : (match amE CU CS ts uv o1 o2 with
    | some e => Out H E e
    | none => match liE CL ts ol with
      | some e => Out H E e
      | none => R) := by
  unfold errO at h
  cases e1 : amE CU CS ts uv o1 o2 with
  | some x =>
    rw [e1] at h
    cases h
    exact o
  | none =>
    rw [e1] at h
    cases e2 : liE CL ts ol with
    | some x =>
      rw [e2] at h
      cases h
      exact o
    | none =>
      rw [e2] at h
      cases h
/-- what the law's helper makes of the error -/
theorem out_res {CU CS CL : Addr} {CC : Nat → Addr} (eS : CC 0 = CS) (eU : CC 2 = CU) (eL : CC 5 = CL) {j : Nat} {v : V} (hj : j = 0 ∨ j = 5 ∨ j = 2) (hv : j = 2 → v = .non) {H : Hp} {R : Addr → Hp → Prop} (k : ∀ p H', Same H H' → H' p = some (.tup [.str (wdR j), v]) → R p H') :
    Out H (fun cls d H' => ∃ i v, i < 7 ∧ cls = .ref (CC i) ∧ FldR H' d v (flR i) ∧ ∀ p H'', Same H' H'' → H' p = none → H'' p = some (.tup [.str (wdR i), v]) → R p H'') (errJ CU CS CL j v) := by
  rcases hj with rfl | rfl | rfl
  · show Out H _ (.e1 CS "place" v)
    exact fun d H1 s1 nd hd => ⟨0, v, by decide, by rw [eS], ⟨d, rfl, hd⟩, fun p H2 s2 np hp => k p H2 (s1.trans s2) hp⟩
  · show Out H _ (.e1 CL "name" v)
    exact fun d H1 s1 nd hd => ⟨5, v, by decide, by rw [eL], ⟨d, rfl, hd⟩, fun p H2 s2 np hp => k p H2 (s1.trans s2) hp⟩
  · cases hv rfl
    show Out H _ (.e0 CU)
    exact fun H1 s1 => ⟨2, .non, by decide, by rw [eU], ⟨rfl, .inl rfl⟩, fun p H2 s2 np hp => k p H2 (s1.trans s2) hp⟩
theorem tbl_bent {K : PySem.W.Frag} {H : Hp} {t : List (Str × Str)} {w : Addr} {s : Str → Int} (o : TreeOk t) (h : H w = some (.dK (tblI (t.map Prod.fst) s))) : BentV K H t.length (.ref w) (some (tblI (t.map Prod.fst) s)) := by
  have few := o.few
  refine ⟨w, rfl, h, fun p hp => ?_, tblI_nd o.nd, by rw [tblI_len, List.length_map]; omega, fun p hp => ?_⟩
  · obtain ⟨a, _, rfl⟩ := tblI_mem hp
    exact ⟨_, .int _⟩
  · obtain ⟨a, ha, rfl⟩ := tblI_mem hp
    exact .inl (o.nm a ha)
theorem pick_bent5 {K : PySem.W.Frag} {d l w : Addr} {H : Hp} {t : List (Str × Str)} {s : Str → Int} {sv ov : V} {ob : Option (List (Key × V))} (o : TreeOk t) (hw : H w = some (.dK (tblI (t.map Prod.fst) s))) (wd : w ≠ d ∧ w ≠ l) (bv : ∀ H'', KeepX [d, l] H H'' → BentV K H'' t.length sv ob) (om : ov ∈ [V.ref w, .ref w, sv]) :
    ∃ oo, ∀ H'', KeepX [d, l] H H'' → BentV K H'' t.length ov oo := by
  simp only [List.mem_cons, List.not_mem_nil, or_false] at om
  have one : ∃ oo, ∀ H'', KeepX [d, l] H H'' → BentV K H'' t.length (.ref w) oo := ⟨_, fun H'' kx => tbl_bent o (kx_at kx hw wd.1 wd.2)⟩
  rcases om with rfl | rfl | rfl
  · exact one
  · exact one
  · exact ⟨ob, bv⟩
theorem pick_cap5 {K : PySem.W.Frag} {d l w : Addr} {H : Hp} {t : List (Str × Str)} {s : Str → Int} {sv ov : V} {ob : Option (List (Key × V))} (o : TreeOk t) (hw : H w = some (.dK (tblI (t.map Prod.fst) s))) (wd : w ≠ d ∧ w ≠ l) (sm : ∀ a ∈ t.map Prod.fst, Sml (s a)) (bv : ∀ H'', KeepX [d, l] H H'' → BentV K H'' t.length sv ob) (sb : ∀ kvs, ob = some kvs → ∀ p ∈ kvs, SmlV p.2) (om : ov ∈ [V.ref w, sv]) :
    ∃ oo, (∀ H'', KeepX [d, l] H H'' → BentV K H'' t.length ov oo) ∧ ∀ kvs, oo = some kvs → ∀ p ∈ kvs, SmlV p.2 := by
  simp only [List.mem_cons, List.not_mem_nil, or_false] at om
  rcases om with rfl | rfl
  · refine ⟨_, fun H'' kx => tbl_bent o (kx_at kx hw wd.1 wd.2), fun kvs e p hp i ei => ?_⟩
    cases e
    obtain ⟨a, ha, rfl⟩ := tblI_mem hp
    cases ei
    exact sm a ha
  · exact ⟨ob, bv, sb⟩
/-- the arguments stand; what is due is asked -/
def tQ1 (T : List (Addr × Str)) (K : PySem.W.Frag) (CF : Addr) : TS := fun D σ H => ∃ (d l i q w1 w2 cc x dx dq : Addr) (b n : Int) (t ts : List (Str × Str)) (ov1 ov2 odd bn : V) (oo1 oo2 ob : Option (List (Key × V))) (LL : List (Addr × HO)) (u6 : Option V),
  σ = [some (.ref d), some (.ref q), some (.int n), some (.ref w1), some (.ref w2), some (.ref cc), u6, some bn, some odd, some ov1, some ov2, some (.ref x)] ∧ Kept T d l i ((dq, .dK (prs ts)) :: (x, .ins CF dx [("above", .ref dq)]) :: LL) b H ∧ H q = some (.dK (prs t)) ∧ TreeOk t ∧ ts.Perm t ∧ Asc ts ∧
  BentV K H t.length ov1 oo1 ∧ BentV K H t.length ov2 oo2 ∧ BentV K H t.length bn ob ∧ (∀ kvs, ob = some kvs → ∀ p ∈ kvs, SmlV p.2) ∧ odd ∈ oddL n ∧ b + 10 ≤ 10 ^ 12 ∧ 1 ≤ n ∧ n ≤ 10 ^ 30 ∧ ∀ H', Kept T d l i LL (b + 10) H' → D.rt (.bl true) H'
/-- what is due stands -/
def tQ2 (T : List (Addr × Str)) (K : PySem.W.Frag) (CF : Addr) : TS := fun D σ H => ∃ (d l i q w1 w2 cc x dx dq : Addr) (b n : Int) (ts : List (Str × Str)) (ov1 ov2 odd bn dv : V) (oo1 oo2 ob : Option (List (Key × V))) (LL : List (Addr × HO)),
  σ = [some (.ref d), some (.ref q), some (.int n), some (.ref w1), some (.ref w2), some (.ref cc), some dv, some bn, some odd, some ov1, some ov2, some (.ref x)] ∧ Kept T d l i ((dq, .dK (prs ts)) :: (x, .ins CF dx [("above", .ref dq)]) :: LL) b H ∧ TreeOk ts ∧
  SzM K H ts.length ov1 oo1 ∧ SzM K H ts.length ov2 oo2 ∧ SzM K H ts.length bn ob ∧ (∀ a ∈ ts.map Prod.fst, Sml (szOf (kvsOf ob) a)) ∧ (∀ H, IsDat K H odd) ∧ DueV5 H dv (due25 ts odd oo1 oo2 ob) ∧ ∀ H', Kept T d l i LL b H' → D.rt (.bl true) H'
section
variable {P : Program} {w : World} {K : PySem.W.Frag} {mg : Str → Option Value} {base : Heap}
theorem scR5 : FnScope NR5 ["_law_draw", "_law_parents", "_law_folk", "_law_wide", "_law_fresh", "_law_caps_here"] (defScope s__law_refused_right) := ⟨rfl, rfl, rfl, by decide +kernel, rfl, by decide +kernel, by decide +kernel⟩
theorem ok_ref25 {f0 fRs CF CU CS CL CT R0 co ta : Addr} {mc : Value} {CC : Nat → Addr} {T : List (Addr × Str)} {f : Nat → Addr} {fd : Nat → FuncData} {fd0 fdRs : FuncData} (F : FunC K "_law_refused_right" "_law_refused_right" s__law_refused_right f0 fd0 co) (N : Nm mg) (L : W25R P w K mg base CF CU CS CL CT mc f fd)
    (GE : Ge K mg "_law_result" s__law_result fRs fdRs) (C : Cl7 K mg R0 CC) (eS : CC 0 = CS) (eU : CC 2 = CU) (eL : CC 5 = CL) (TB : TabB base mg co ta) (hmT : (ta, lamQ "_law_refused_right") ∈ T) (hut : ∀ p ∈ T, p.1 = ta → p.2 = lamQ "_law_refused_right") :
    FnG P w K mg base CX0 12 f0 fd0 ["_law_draw", "_law_parents", "_law_folk", "_law_wide", "_law_fresh", "_law_caps_here"] (spRef25 T) := by
  refine F.okG scR5 (fun vs H Q E h => ?_) (fun A outer s H vs Q E clr hr h => ?_)
  · obtain ⟨d, l, i, q, w1, w2, cc, b, n, t, s, f, c, L, rfl, _⟩ := h
    rfl
  · obtain ⟨d, l, i, q, w1, w2, cc, b, n, t, s, f', c, LL, rfl, S, sub, bb, o, n1, n30, smc, k⟩ := h
    have hu := hu_of hr
    have nd := scR5.nd
    have hr1 : Room 1 _ := hr.mono (by decide)
    have hr3 : Room 3 _ := hr.mono (by decide)
    have hr4 : Room 4 _ := hr.mono (by decide)
    have big : 1000 ≤ sizeLine := by decide
    refine ⟨_, pss_cons (ps_set (i := 11) nd rfl (.inr rfl) (pe_make L.fim L.fi hr4 (by rfl) L.Z.gF L.fib .nil pass0 (pa_cons (pv 1) pa_nil)))
      (pss_cons (ps_set (i := 9) nd rfl (.inr rfl) (pe_call L.dp.ok hr3 rfl L.dp.mgn L.dp.kp L.dp.bn .nil pass0 (pa_cons (pv 0) (pa_cons (pe_lst (pa_cons (pv 3) (pa_cons (pv 3) (pa_cons (pe_call L.be.ok hr4 rfl L.be.mgn L.be.kp L.be.bn .nil pass0 (pa_cons (pv 0) (pa_cons (pv 1) (pa_cons (pv 3) pa_nil)))) pa_nil)))) pa_nil))))
      (pss_cons (ps_set (i := 10) nd rfl (.inr rfl) (pe_call L.dp.ok hr3 rfl L.dp.mgn L.dp.kp L.dp.bn .nil pass0 (pa_cons (pv 0) (pa_cons (pe_lst (pa_cons (pv 4) (pa_cons (pv 4) (pa_cons (pe_call L.be.ok hr4 rfl L.be.mgn L.be.kp L.be.bn .nil pass0 (pa_cons (pv 0) (pa_cons (pv 1) (pa_cons (pv 4) pa_nil)))) pa_nil)))) pa_nil))))
      (pss_cons (ps_set (i := 7) nd rfl (.inr rfl) (pe_call L.dp.ok hr3 rfl L.dp.mgn L.dp.kp L.dp.bn .nil pass0 (pa_cons (pv 0) (pa_cons (pe_lst (pa_cons (pv 5) (pa_cons (pe_call L.bc.ok hr4 rfl L.bc.mgn L.bc.kp L.bc.bn .nil pass0 (pa_cons (pv 0) (pa_cons (pv 1) (pa_cons (pv 5) pa_nil)))) pa_nil))) pa_nil))))
      (pss_cons (ps_set (i := 8) nd rfl (.inr rfl) (pe_call L.dp.ok hr3 rfl L.dp.mgn L.dp.kp L.dp.bn .nil pass0 (pa_cons (pv 0) (pa_cons (pe_op op_cat (pe_op op_rep (pe_lst (pa_cons (pv 2) pa_nil)) pe_int) (pe_lst (pa_cons pe_int (pa_cons pe_non (pa_cons pe_bl (pa_cons (pe_op op_add (pe_op op_pow pe_int pe_int) pe_int) (pa_cons pe_str pa_nil))))))) pa_nil))))
      (pss_impQ (t' := tQ1 T K CF) (pss_cons (ps_set (i := 6) nd rfl (.inl rfl) (pe_ifExp (pt_cmpR op_eq (pe_callB (call_repr clr.deeper hr.units) (by rfl) N.rep (by decide +kernel) (pa_cons (pv 8) pa_nil)) (pe_callB (call_repr clr.deeper hr.units) (by rfl) N.rep (by decide +kernel) (pa_cons (pv 2) pa_nil)) (nomark _)) pe_non (pe_tup (pa_cons pe_str (pa_cons pe_non pa_nil)))))
      (pss_cons (ps_set (i := 6) nd rfl (.inl rfl) (pe_orT (pv 6) (pe_orT (pe_callG L.se clr.deeper hr1 rfl L.sem L.sek L.seb .nil pass0 (pa_cons (pv 1) (pa_cons (pv 2) (pa_cons (pv 9) pa_nil)))) (pe_one (pe_callG L.se clr.deeper hr1 rfl L.sem L.sek L.seb .nil pass0 (pa_cons (pv 1) (pa_cons (pv 2) (pa_cons (pv 10) pa_nil))))))))
      (pss_cons (ps_set (i := 6) nd rfl (.inl rfl) (pe_orT (pv 6) (pe_one (pe_callG L.ce clr.deeper hr1 rfl L.cem L.cek L.ceb .nil pass0 (pa_cons (pv 1) (pa_cons (pv 7) pa_nil))))))
      (pss_impQ (t' := tQ2 T K CF) (pss_cons (ps_if (pt_cmpR op_isN (pv 6) pe_non (nomark _)) (pss_one (ps_ret pe_bl)) pss_nil)
      (pss_cons (ps_if (pt_cmpR op_ne (pe_callB (call_repr clr.deeper hr.units) (by rfl) N.rep (by decide +kernel) (pa_cons (pe_lamS (T := T) (k := 9) (t := fun E => tCall (spFewest3 K CF CU CS CL) [] E (tCons (tVar 11) (tCons (tVar 8) (tCons (tVar 9) (tCons (tVar 10) (tCons (tVar 7) tNil)))))) rfl GE.mgn GE.fn GE.bn scRs rfl (.inl rfl) (fun cdg => result_gives N C) TB rfl hmT hut hr (lamS_by (sc := defScope s__law_refused_right) (by decide +kernel)) rfl (fun _ _ _ _ _ => rfl)
            (fun A outer s H E f c' hr2 => pe_call L.fw.ok (hr2.mono (by decide)) rfl L.fw.mgn L.fw.kp L.fw.bn .nil (passes_call (takes_of rfl rfl rfl rfl) (fun _ _ _ _ h => h)) (pa_cons (pv 11) (pa_cons (pv 8) (pa_cons (pv 9) (pa_cons (pv 10) (pa_cons (pv 7) pa_nil))))))) pa_nil)) (pe_callB (call_repr clr.deeper hr.units) (by rfl) N.rep (by decide +kernel) (pa_cons (pv 6) pa_nil)) (nomark _)) (pss_one (ps_ret pe_bl)) pss_nil)
      (pss_one (ps_ret (pe_cmpR op_eq (pe_callB (call_repr clr.deeper hr.units) (by rfl) N.rep (by decide +kernel) (pa_cons (pe_lamS (T := T) (k := 9) (t := fun E => tCall (spPlan K CF CU CS CL CT) [] E (tCons (tVar 11) (tCons (tVar 8) (tCons (tVar 9) (tCons (tVar 10) (tCons (tVar 7) tNil)))))) rfl GE.mgn GE.fn GE.bn scRs rfl (.inl rfl) (fun cdg => result_gives N C) TB rfl hmT hut hr (lamS_by (sc := defScope s__law_refused_right) (by decide +kernel)) rfl (fun _ _ _ _ _ => rfl)
            (fun A outer s H E f c' hr2 => pe_call L.pl.ok hr2 rfl L.pl.mgn L.pl.kp L.pl.bn .nil (passes_call (takes_of rfl rfl rfl rfl) (fun _ _ _ _ h => h)) (pa_cons (pv 11) (pa_cons (pv 8) (pa_cons (pv 9) (pa_cons (pv 10) (pa_cons (pv 7) pa_nil))))))) pa_nil)) (pe_callB (call_repr clr.deeper hr.units) (by rfl) N.rep (by decide +kernel) (pa_cons (pv 6) pa_nil)) (nomark _)))))) ?_)))) ?_))))), ?_⟩
    · -- what is due is told
      intro D0 σ H1 ⟨d, l, i, q, w1, w2, cc, x, dx, dq, b, n, ts, ov1, ov2, odd, bn, dv, oo1, oo2, ob, LL, eσ, S, ot, z1, z2, zb, smb, od, dv5, kk⟩
      subst eσ
      obtain ⟨du, edu⟩ : ∃ du, du = due25 ts odd oo1 oo2 ob := ⟨_, rfl⟩
      rw [← edu] at dv5
      cases du with
      | none =>
        have e : dv = .non := dv5
        subst e
        refine ⟨_, rfl, rfl, _, rfl, ?_⟩
        rw [show decide (V.non = V.non) = true from decide_eq_true rfl]
        exact iteT (kk _ (S.sub fun e he => by simp [he]))
      | some jv =>
        obtain ⟨j, v⟩ := jv
        obtain ⟨pd, rfl, hpd⟩ := dv5
        obtain ⟨ee, hj, hv, h2⟩ := due_err (CU := CU) (CS := CS) (CL := CL) edu.symm
        refine ⟨_, rfl, rfl, _, rfl, ?_⟩
        rw [show decide (V.ref pd = V.non) = false from decide_eq_false fun z => by cases z]
        refine iteF ?_
        have wok : (wdR j).length ≤ 8 ∧ PyData.strOk (wdR j) = true := by
          rcases hj with rfl | rfl | rfl <;> exact ⟨by decide +kernel, by decide +kernel⟩
        obtain ⟨dd0, shw, sh1, sh2, sh3⟩ := told_shwW (K := K) ot wok.1 wok.2 hv
        -- fewest
        refine ⟨S.tb, fun H2 e2 t2 H3 s3 => ?_⟩
        have S3 := (S.ext e2 t2).same s3
        have fa3 : FAt CF H3 x ts := ⟨dx, dq, S3.at_ (x, _) (by simp), S3.at_ (dq, _) (by simp)⟩
        have z13 := (z1.ext e2).mono s3
        have z23 := (z2.ext e2).mono s3
        have zb3 := (zb.ext e2).mono s3
        have hpd3 := s3 _ _ (e2 _ _ hpd (by intro _ z; cases z))
        refine ⟨_, rfl, _, rfl, _, rfl, _, rfl, _, rfl, x, odd, ov1, ov2, bn, ts, oo1, oo2, ob, rfl, fa3, ot, od _, z13, z23, zb3, smb, ?_⟩
        refine out_all ee (out_res eS eU eL hj h2 fun rf H5 s5 hrf => ?_)
        have S5 := S3.same s5
        refine ⟨.ref rf, _, rfl, shw _ _ hrf, sh1, sh2, sh3, _, rfl, .ref pd, _, rfl, shw _ _ (s5 _ _ hpd3), sh1, sh2, sh3, rfl, _, rfl, ?_⟩
        rw [decide_eq_true rfl]
        refine iteF ?_
        -- plan
        refine ⟨S5.tb, fun H6 e6 t6 H7 s7 => ?_⟩
        have S7 := (S5.ext e6 t6).same s7
        have fa7 : FAt CF H7 x ts := ⟨dx, dq, S7.at_ (x, _) (by simp), S7.at_ (dq, _) (by simp)⟩
        have hpd7 := s7 _ _ (e6 _ _ (s5 _ _ hpd3) (by intro _ z; cases z))
        refine ⟨_, rfl, _, rfl, _, rfl, _, rfl, _, rfl, x, odd, ov1, ov2, bn, ts, oo1, oo2, ob, rfl, fa7, ot, od _, ((z13.mono s5).ext e6).mono s7, ((z23.mono s5).ext e6).mono s7, ((zb3.mono s5).ext e6).mono s7, smb, ?_⟩
        refine out_all ee (out_res eS eU eL hj h2 fun rf H9 s9 hrf => ?_)
        have S9 := S7.same s9
        refine ⟨.ref rf, _, rfl, shw _ _ hrf, sh1, sh2, sh3, _, rfl, .ref pd, _, rfl, shw _ _ (s9 _ _ hpd7), sh1, sh2, sh3, rfl, ?_⟩
        rw [decide_eq_true rfl]
        exact kk _ (S9.sub fun e he => by simp [he])
    · -- what is due
      intro D0 σ H1 ⟨d, l, i, q, w1, w2, cc, x, dx, dq, b, n, t, ts, ov1, ov2, odd, bn, oo1, oo2, ob, LL, u6, eσ, S, hq, o, pts, asc, b1, b2, b3, sb, om, bb, n1, n30, kk⟩
      subst eσ
      have tl := pts.length_eq
      have ot : TreeOk ts := o.perm pts.symm
      obtain ⟨od, dd, shw, g1, g2, g3, cs⟩ := odd_shw (K := K) n1 n30 om
      obtain ⟨_, dn, shn, h1, h2, h3, csn⟩ := odd_shw (K := K) (odd := .int n) n1 n30 (List.mem_append_left _ (List.mem_replicate.mpr ⟨by decide, rfl⟩))
      have un : usersOk (.int n) (10 ^ 30) = true := by
        show (decide (1 ≤ n) && decide (n ≤ 10 ^ 30)) = true
        rw [decide_eq_true n1, decide_eq_true n30] <;> rfl
      rcases csn with ⟨_, rfl⟩ | ⟨z, _⟩
      case inr => rw [un] at z; cases z
      have smb : ∀ a ∈ ts.map Prod.fst, Sml (szOf (kvsOf ob) a) := fun a _ => by
        cases ob with
        | none => show (0 : Int).natAbs < 2 ^ 200; decide
        | some kvs => exact sml_of25 (sb kvs rfl) a
      have fin : ∀ (dv : V) (H2 : Hp), Same H1 H2 → DueV5 H2 dv (due25 ts odd oo1 oo2 ob) → tQ2 T K CF D0 [some (.ref d), some (.ref q), some (.int n), some (.ref w1), some (.ref w2), some (.ref cc), some dv, some bn, some odd, some ov1, some ov2, some (.ref x)] H2 := fun dv H2 s2 hd => by
        have y1 := (b1.mono s2).szM
        have y2 := (b2.mono s2).szM
        have y3 := (b3.mono s2).szM
        rw [← tl] at y1 y2 y3
        exact ⟨d, l, i, q, w1, w2, cc, x, dx, dq, b, n, ts, ov1, ov2, odd, bn, dv, oo1, oo2, ob, LL, rfl, S.same s2, ot, y1, y2, y3, smb, od, hd, fun H' S' => kk H' (S'.more (by omega))⟩
      refine ⟨_, rfl, odd, dd, rfl, shw _, g1, g2, g3, _, rfl, .int n, .int n, rfl, shn _, h1, h2, h3, rfl, _, rfl, ?_⟩
      rcases cs with ⟨rfl, rfl⟩ | ⟨ub, ne⟩
      · rw [decide_eq_true rfl]
        refine iteT ?_
        refine ⟨_, rfl, false, rfl, iteF ⟨_, rfl, _, rfl, _, rfl, q, n, ov1, t, ts, oo1, rfl, hq, o, pts, asc, b1, ?_⟩⟩
        cases ef1 : feas ts n oo1 with
        | some v =>
          intro p' H2 s2 np hp
          refine ⟨true, .inr (.inl ⟨_, SqT.of hp, rfl⟩), iteT ⟨_, rfl, true, .inr (.inl ⟨_, SqT.of hp, rfl⟩), iteT (fin _ H2 s2 ?_)⟩⟩
          unfold due25
          rw [if_pos un, show numV (.int n) = n from rfl, ef1]
          exact ⟨p', rfl, hp⟩
        | none =>
          intro H2 s2
          refine ⟨false, rfl, iteF ⟨_, rfl, _, rfl, _, rfl, q, n, ov2, t, ts, oo2, rfl, s2 _ _ hq, o, pts, asc, b2.mono s2, ?_⟩⟩
          cases ef2 : feas ts n oo2 with
          | some v =>
            intro p' H3 s3 np hp
            refine ⟨_, rfl, true, .inr (.inl ⟨_, SqT.of hp, rfl⟩), iteT (fin _ H3 (s2.trans s3) ?_)⟩
            unfold due25
            rw [if_pos un, show numV (.int n) = n from rfl, ef1, ef2]
            exact ⟨p', rfl, hp⟩
          | none =>
            intro H3 s3
            have s23 := s2.trans s3
            refine ⟨_, rfl, false, rfl, iteF ⟨_, rfl, _, rfl, q, bn, t, ts, ob, rfl, s23 _ _ hq, o, pts, asc, b3.mono s23, ?_⟩⟩
            cases ef3 : lims ts ob with
            | some v =>
              intro p' H4 s4 np hp
              refine fin _ H4 (s23.trans s4) ?_
              unfold due25
              rw [if_pos un, show numV (.int n) = n from rfl, ef1, ef2, ef3]
              exact ⟨p', rfl, hp⟩
            | none =>
              intro H4 s4
              refine fin _ H4 (s23.trans s4) ?_
              unfold due25
              rw [if_pos un, show numV (.int n) = n from rfl, ef1, ef2, ef3]
              exact rfl
      · rw [decide_eq_false (fun z => ne (V.str.inj z))]
        refine iteF ⟨by show 2 ≤ sizeLine; omega, fun tp ntp => ?_⟩
        have hp : (upd H1 tp (.tup [.str "users", .non])) tp = some (.tup [.str "users", .non]) := upd_same
        refine ⟨_, rfl, true, .inr (.inl ⟨_, SqT.of hp, rfl⟩), iteT ⟨_, rfl, true, .inr (.inl ⟨_, SqT.of hp, rfl⟩), iteT (fin _ _ (same_new ntp) ?_)⟩⟩
        unfold due25
        rw [if_neg (by rw [ub]; decide)]
        exact ⟨tp, rfl, hp⟩
    · have mq := sub (q, .dK (prs t)) (by simp [obj4])
      have m1 := sub (w1, .dK (tblI (t.map Prod.fst) s)) (by simp [obj4])
      have m2 := sub (w2, .dK (tblI (t.map Prod.fst) f')) (by simp [obj4])
      have mc := sub (cc, .dK (tblI (t.map Prod.fst) c)) (by simp [obj4])
      have hq := S.at_ _ mq
      have wd1 := S.off _ m1
      have wd2 := S.off _ m2
      have wdc := S.off _ mc
      -- the forest
      refine ⟨_, rfl, fun x dx nx ndx nxd => ?_⟩
      have sM : Same H (upd (upd H dx (.own x)) x (.ins CF dx [])) := fun b u e => by
        rw [upd_ne (ne_of_none e nx), upd_ne (ne_of_none e ndx)]
        exact e
      refine ⟨x, q, dx, t, rfl, upd_same, sM _ _ hq, o, fun H5 ts pts asc fx5 oth5 => ⟨rfl, ?_⟩⟩
      have s05 : Same H H5 := fun b u e => oth5 b u (ne_of_none e nx) (sM _ _ e)
      obtain ⟨dx', dq, f1, f2⟩ := id fx5
      have S5a := S.same s05
      have S5 := (S5a.add f1 (S5a.dr.off_ins f1).1 (S5a.dr.off_ins f1).2 (by intro ps z; cases z)).add f2 (S5a.dr.off_prs f2).1 (S5a.dr.off_prs f2).2.1 (by intro ps z; cases z)
      -- the old sizes
      refine ⟨_, rfl, _, rfl, _, rfl, _, rfl, _, rfl, _, rfl, d, l, i, q, w1, _, t, t.map Prod.fst, s, rfl, S5.dr, by omega, s05 _ _ hq, o, s05 _ _ (S.at_ _ m1), .refl _, fun sv ob1 H6 bv dr6 k6 => ?_⟩
      have S6 := S5.draw k6 dr6
      refine ⟨by show 3 ≤ sizeLine; omega, fun pl npl => ?_⟩
      have s67 := same_new (o := .lst [.ref w1, .ref w1, sv]) npl
      have pld := S6.dr.apart npl
      refine ⟨d, l, i, pl, _, _, rfl, S6.dr.mono s67, by omega, upd_same, pld.2.1, List.cons_ne_nil _ _, (by show 3 ≤ 1000; omega), fun ov1 H8 om1 dr8 k8 => ?_⟩
      have S8 := (S6.same s67).draw k8 dr8
      have k68 : KeepX [d, l] H6 H8 := (KeepX.of_same s67).trans k8
      obtain ⟨oo1, bo1⟩ := pick_bent5 (H := H8) o (S8.at_ _ (List.mem_cons_of_mem _ (List.mem_cons_of_mem _ m1))) wd1 (fun H'' kx => bv H'' (k68.trans kx)) om1
      -- the new ones
      refine ⟨_, rfl, _, rfl, _, rfl, _, rfl, _, rfl, _, rfl, d, l, i, q, w2, _, t, t.map Prod.fst, f', rfl, S8.dr, by omega, S8.at_ _ (List.mem_cons_of_mem _ (List.mem_cons_of_mem _ mq)), o, S8.at_ _ (List.mem_cons_of_mem _ (List.mem_cons_of_mem _ m2)), .refl _, fun sv2 ob2 H9 bv2 dr9 k9 => ?_⟩
      have S9 := S8.draw k9 dr9
      refine ⟨by show 3 ≤ sizeLine; omega, fun pl2 npl2 => ?_⟩
      have s910 := same_new (o := .lst [.ref w2, .ref w2, sv2]) npl2
      have pld2 := S9.dr.apart npl2
      refine ⟨d, l, i, pl2, _, _, rfl, S9.dr.mono s910, by omega, upd_same, pld2.2.1, List.cons_ne_nil _ _, (by show 3 ≤ 1000; omega), fun ov2 H11 om2 dr11 k11 => ?_⟩
      have S11 := (S9.same s910).draw k11 dr11
      have k911 : KeepX [d, l] H9 H11 := (KeepX.of_same s910).trans k11
      have k811 := k9.trans k911
      obtain ⟨oo2, bo2⟩ := pick_bent5 (H := H11) o (S11.at_ _ (List.mem_cons_of_mem _ (List.mem_cons_of_mem _ m2))) wd2 (fun H'' kx => bv2 H'' (k911.trans kx)) om2
      -- the limits
      refine ⟨_, rfl, _, rfl, _, rfl, _, rfl, _, rfl, d, l, i, q, cc, _, t, t.map Prod.fst, c, rfl, S11.dr, by omega, S11.at_ _ (List.mem_cons_of_mem _ (List.mem_cons_of_mem _ mq)), o, S11.at_ _ (List.mem_cons_of_mem _ (List.mem_cons_of_mem _ mc)), .refl _, smc, fun sv3 ob3 H12 bv3 sb3 dr12 k12 => ?_⟩
      have S12 := S11.draw k12 dr12
      refine ⟨by show 2 ≤ sizeLine; omega, fun pl3 npl3 => ?_⟩
      have s1213 := same_new (o := .lst [.ref cc, sv3]) npl3
      have pld3 := S12.dr.apart npl3
      refine ⟨d, l, i, pl3, _, _, rfl, S12.dr.mono s1213, by omega, upd_same, pld3.2.1, List.cons_ne_nil _ _, (by show 2 ≤ 1000; omega), fun bn H14 om3 dr14 k14 => ?_⟩
      have S14 := (S12.same s1213).draw k14 dr14
      have k1214 : KeepX [d, l] H12 H14 := (KeepX.of_same s1213).trans k14
      have k1114 := k12.trans k1214
      obtain ⟨ob, bo3, sb⟩ := pick_cap5 (H := H14) o (S14.at_ _ (List.mem_cons_of_mem _ (List.mem_cons_of_mem _ mc))) wdc smc (fun H'' kx => bv3 H'' (k1214.trans kx)) sb3 om3
      -- the users
      refine ⟨_, rfl, _, rfl, by show 1 ≤ sizeLine; omega, fun p1 np1 => ?_⟩
      have a1 := same_new (o := .lst [V.int n]) np1
      refine ⟨p1, 5, _, rfl, rfl, upd_same, by omega, by omega, by show 1 * 5 ≤ sizeLine; omega, fun p2 np2 => ?_⟩
      have a2 := same_new (o := .lst (List.replicate (5 : Int).toNat [V.int n]).flatten) np2
      refine ⟨_, _, rfl, rfl, ⟨by decide, by decide, by decide⟩, _, _, rfl, rfl, by show 5 ≤ sizeLine; omega, fun p3 np3 => ?_⟩
      have a3 := same_new (o := .lst [V.int 0, .non, .bl true, .int (10 ^ (30 : Int).toNat + 1), .str "1"]) np3
      refine ⟨p2, p3, _, _, rfl, rfl, a3 _ _ upd_same, upd_same, by show 10 ≤ sizeLine; omega, fun p4 np4 => ?_⟩
      have a4 := same_new (o := .lst (oddL n)) np4
      have a14 := a1.trans (a2.trans (a3.trans a4))
      have S15 := S14.same a14
      have p4d := (S14.same (a1.trans (a2.trans a3))).dr.apart np4
      refine ⟨d, l, i, p4, _, oddL n, rfl, S15.dr, by omega, upd_same, p4d.2.1, List.cons_ne_nil _ _, (by show 10 ≤ 1000; omega), fun odd H16 om dr16 k16 => ?_⟩
      have S16 := S15.draw k16 dr16
      have k1416 : KeepX [d, l] H14 H16 := (KeepX.of_same a14).trans k16
      exact ⟨d, l, i, q, w1, w2, cc, x, dx', dq, _, n, t, ts, ov1, ov2, odd, bn, oo1, oo2, ob, LL, _, rfl, S16, S16.at_ _ (List.mem_cons_of_mem _ (List.mem_cons_of_mem _ mq)), o, pts, asc, bo1 H16 (k811.trans (k1114.trans k1416)), bo2 H16 (k1114.trans k1416), bo3 H16 k1416, sb, om, by omega, n1, n30, fun H' S' => k H' (S'.more (by omega))⟩
end
end FT


/-! _law_plan_right, of a right plan -/
namespace FT
open PySem L2 TL ClX LiI
/-- each step is right -/
def chainR (t : List (Str × Str)) (n : Int) (f : Str → Int) (co : Option (Str → Int)) (ko : Option Int) : (Str → Int) → List (Str → Int) → Prop
  | _, [] => True
  | h, g :: gs => stepR t n h g f co ko = true ∧ chainR t n f co ko g gs
def lastR (h : Str → Int) (gs : List (Str → Int)) : Str → Int := gs.getLastD h
theorem chain_at {t : List (Str × Str)} {n : Int} {f : Str → Int} {co : Option (Str → Int)} {ko : Option Int} : ∀ {gs : List (Str → Int)} {h : Str → Int}, chainR t n f co ko h gs → ∀ {j : Nat} {g : Str → Int}, gs[j]? = some g → stepR t n (lastR h (gs.take j)) g f co ko = true
  | [], _, _, j, g, e => by cases e
  | g0 :: gs, h, c, 0, g, e => by
    cases (Option.some.inj e)
    exact c.1
  | g0 :: gs, h, c, j + 1, g, e => by
    have z := chain_at c.2 (j := j) e
    have e2 : lastR h ((g0 :: gs).take (j + 1)) = lastR g0 (gs.take j) := by
      unfold lastR
      rw [List.take_succ_cons]
      cases gs.take j <;> rfl
    rw [e2]
    exact z
theorem last_more {h : Str → Int} {gs : List (Str → Int)} {j : Nat} {g : Str → Int} (e : gs[j]? = some g) : lastR h (gs.take (j + 1)) = g := by
  unfold lastR
  rw [take_more e, List.getLastD_concat]
def DcP (H : Hp) (t : List (Str × Str)) (r : Addr) (g : Str → Int) : Prop := ∃ l : List Str, H r = some (.dK (tblI l g)) ∧ l.Perm (t.map Prod.fst)
theorem DcP.mono {H H' : Hp} {t : List (Str × Str)} {r : Addr} {g : Str → Int} (s : Same H H') (x : DcP H t r g) : DcP H' t r g := let ⟨l, h, p⟩ := x; ⟨l, s _ _ h, p⟩
def spPlanR (K : PySem.W.Frag) : Sp := fun vs H Q _ => ∃ (q qh qf p : Addr) (n : Int) (cv kv : V) (t : List (Str × Str)) (rs : List Addr) (gs : List (Str → Int)) (h f : Str → Int) (co : Option (Str → Int)) (ko : Option Int), vs = [.ref q, .int n, .ref qh, .ref qf, .ref p, cv, kv] ∧ H q = some (.dK (prs t)) ∧ TreeOk t ∧ DcP H t qh h ∧ DcP H t qf f ∧
  H p = some (.lst (rs.map V.ref)) ∧ Paired (DcP H t) rs gs ∧ CapV H t cv co ∧ KapV kv ko ∧ (∀ a ∈ t.map Prod.fst, Sm9 (h a) ∧ Sm9 (f a) ∧ ∀ g ∈ gs, Sm9 (g a)) ∧ chainR t n f co ko h gs ∧ (∀ a ∈ t.map Prod.fst, lastR h gs a = f a) ∧
  ∀ H', Same H H' → Q (.bl true) H'
section
variable {P : Program} {w : World} {K : PySem.W.Frag} {mg : Str → Option Value} {base : Heap}
abbrev NPr : List Str := ["_law_parents", "_law_folk", "_law_wide", "_law_fresh", "_law_told", "_law_caps_here", "_law_cap", "_law_here", "_law_there"]
theorem scPr : FnScope NPr ["_law_parents", "_law_folk", "_law_wide", "_law_fresh", "_law_told", "_law_caps_here", "_law_cap"] (defScope s__law_plan_right) := ⟨rfl, rfl, rfl, by decide +kernel, rfl, by decide +kernel, by decide +kernel⟩
theorem ok_planR {f0 fS : Addr} {fd fdS : FuncData} (F : Fun K "_law_plan_right" "_law_plan_right" s__law_plan_right f0 fd) (N : Nm mg) (ST : Dn P w K mg base CX0 2 "_law_step_right" ["_law_parents", "_law_folk", "_law_here", "_law_there", "_law_fresh", "_law_caps_here", "_law_cap"] spStepR fS fdS) :
    FnOk P w K mg base CX0 3 f0 fd ["_law_parents", "_law_folk", "_law_wide", "_law_fresh", "_law_told", "_law_caps_here", "_law_cap"] (spPlanR K) := by
  refine F.ok scPr (fun vs H Q E h => ?_) (fun cdv_ A outer s0 H vs Q E hr h => ?_)
  · obtain ⟨q, qh, qf, p, n, cv, kv, t, rs, gs, h, f, co, ko, rfl, _⟩ := h
    rfl
  · obtain ⟨q, qh, qf, p, n, cv, kv, t, rs, gs, h, f, co, ko, rfl, hq, o, hh, hf, hp, pr, hcv, hkv, sm, ch, fin, k⟩ := h
    have hu := hu_of hr
    have nd := scPr.nd
    have big : 1000 ≤ sizeLine := by decide
    have few := o.few
    refine ⟨_, pss_cons (ps_set (i := 7) nd rfl (.inl rfl) (pv 2))
      (pss_cons (ps_for PassesOwn.never rfl (pi_list (pv 4)) (pg_name (i := 8) nd rfl (.inl rfl))
        (pss_cons (ps_if (pt_cmpR (op_neD hr.units) (pe_callB (call_sortedD rfl) (by rfl) N.srt (by decide +kernel) (pa_cons (pv 8) pa_nil)) (pe_callB (call_sortedD rfl) (by rfl) N.srt (by decide +kernel) (pa_cons (pv 0) pa_nil)) (nomark _)) (pss_one (ps_ret pe_bl)) pss_nil)
        (pss_cons (ps_if (pt_not (pt_val (pe_call ST.ok hr rfl ST.mgn ST.kp ST.bn .nil pass0 (pa_cons (pv 0) (pa_cons (pv 1) (pa_cons (pv 7) (pa_cons (pv 8) (pa_cons (pv 3) (pa_cons (pv 5) (pa_cons (pv 6) pa_nil)))))))))) (pss_one (ps_ret pe_bl)) pss_nil)
        (pss_one (ps_set (i := 7) nd rfl (.inl rfl) (pv 8))))))
      (pss_one (ps_ret (pe_cmpR (op_eq_dictA (Nat.lt_of_succ_lt hu)) (pv 7) (pv 3) (nomark _))))), ?_⟩
    refine ⟨_, rfl, ?_⟩
    refine ⟨_, rfl, p, rfl, ⟨_, SqL.of hp⟩, ?_⟩
    have lrs := pr.length
    refine for_it walk_list (fun j σ' H' => (∃ r8 u8, σ' = [some (.ref q), some (.int n), some (.ref qh), some (.ref qf), some (.ref p), some cv, some kv, some (.ref r8), u8] ∧ DcP H' t r8 (lastR h (gs.take j)) ∧ ∀ a ∈ t.map Prod.fst, Sm9 (lastR h (gs.take j) a)) ∧ Same H H')
      ⟨⟨qh, _, rfl, hh, fun a ha => (sm a ha).1⟩, Same.refl⟩ (fun j σ' H' _ z => SqL.of (z.2 _ _ hp)) ?_ ?_
    · intro j y σ' Ha Hb hj ⟨⟨r8, u8, e, hr8, sm8⟩, sa⟩ ⟨eb, ey⟩
      subst e
      subst eb
      obtain ⟨r, hr', rfl⟩ := map_of (f := V.ref) (l := rs) ey
      obtain ⟨g, hg, l, hrl, pl⟩ := LiI.paired_get pr hr'
      have mg' := List.mem_of_getElem? hg
      have ll := pl.length_eq
      rw [List.length_map] at ll
      -- the flags
      refine ⟨_, rfl, r, tblI l g, l, rfl, .inl (sa _ _ hrl), tblI_keys l g, by omega, fun k1 p1 pk1 st1 m1 => ?_⟩
      have t1 := same_new (o := .lst (k1.map V.str)) m1
      refine ⟨_, rfl, q, prs t, t.map Prod.fst, rfl, .inl (t1 _ _ (sa _ _ hq)), prs_keys t, by rw [List.length_map]; omega, fun k2 p2 pk2 st2 m2 => ?_⟩
      have t2 := same_new (o := .lst (k2.map V.str)) m2
      have ek : k1 = k2 := sorted_one ((pk1.trans pl).trans pk2.symm) st1 st2
      subst ek
      have nm : ∀ z ∈ k1, NameL z := fun z hz => o.nm z (pk2.mem_iff.mp hz)
      have shp : SeqAt.shaped (.list (k1.map PyData.str)) = true := strs_shaped fun z hz => strOk_name (nm z hz)
      refine ⟨_, _, .lst (SqL.of (t2 _ _ upd_same)) (dps_strs _), .lst (SqL.of upd_same) (dps_strs _), shp, shp, _, rfl, ?_⟩
      rw [SeqAt.eqv_refl _ (SeqAt.canLay_of_shaped shp)]
      refine iteF ?_
      obtain ⟨H3, e3⟩ : ∃ X, X = upd (upd Hb p1 (.lst (k1.map V.str))) p2 (.lst (k1.map V.str)) := ⟨_, rfl⟩
      have s3 : Same Hb H3 := by rw [e3]; exact t1.trans t2
      rw [← e3]
      clear e3
      have s03 := sa.trans s3
      obtain ⟨l8, h8, p8⟩ := hr8.mono s3
      obtain ⟨lf, hf3, pf⟩ := hf.mono s03
      have smG : ∀ a ∈ t.map Prod.fst, Sm9 (g a) := fun a ha => (sm a ha).2.2 g mg'
      -- the step
      refine ⟨_, rfl, _, rfl, _, rfl, _, rfl, _, rfl, _, rfl, _, rfl, q, r8, r, qf, n, cv, kv, t, l8, l, lf, lastR h (gs.take j), g, f, co, ko, rfl, s03 _ _ hq, o, h8, s03 _ _ hrl, hf3, p8, pl, pf, hcv.mono s03, hkv, fun a ha => ⟨sm8 a ha, smG a ha, (sm a ha).2.1⟩, fun H4 s4 => ⟨_, rfl, ?_⟩⟩
      rw [chain_at ch hg]
      refine iteF ?_
      refine ⟨_, rfl, ?_⟩
      refine ⟨⟨r, _, rfl, ?_, ?_⟩, s03.trans s4⟩
      · rw [last_more hg]
        exact ⟨l, s4 _ _ (s03 _ _ hrl), pl⟩
      · rw [last_more hg]
        exact smG
    · intro σ' H2 ⟨⟨r8, u8, e, hr8, sm8⟩, s2⟩
      subst e
      rw [List.length_map, lrs, List.take_length] at hr8
      obtain ⟨l8, h8, p8⟩ := hr8
      obtain ⟨lf, hf2, pf⟩ := hf.mono s2
      refine ⟨_, rfl, _, rfl, r8, qf, _, _, rfl, rfl, h8, hf2, by rw [tblI_len, tblI_len, p8.length_eq, pf.length_eq], fun x hx => ?_, k _ s2⟩
      obtain ⟨i, hi⟩ := List.mem_iff_getElem?.mp hx
      obtain ⟨kk, vv⟩ := x
      obtain ⟨b, hb, rfl, rfl⟩ := tblI_at hi
      have mb := p8.mem_iff.mp (List.mem_of_getElem? hb)
      exact ⟨by rw [tblI_val (pf.mem_iff.mpr mb), fin b mb], rfl⟩
end
end FT


/-! plain: the even steps are a right plan -/
namespace FT
open PySem L2 TL
/-- between x and y, k of m steps done, rounded down -/
def lin (m k x y : Int) : Int := ((m - k) * x + k * y) / m
theorem ev_lin {s f : Str → Int} {m k : Int} (h : 0 < m) (a : Str) : evS s (fun a => f a - s a) m k a = lin m k (s a) (f a) := by
  unfold evS lin
  have e : (m - k) * s a + k * f a = k * (f a - s a) + m * s a := by
    rw [Int.sub_mul, Int.mul_sub]
    omega
  rw [e, Int.add_mul_ediv_left _ _ (by omega)]
  show s a + k * (f a - s a) / m = _
  omega
theorem lin_mono {m k x y x' y' : Int} (h : 0 < m) (k0 : 0 ≤ k) (km : k ≤ m) (hx : x ≤ x') (hy : y ≤ y') : lin m k x y ≤ lin m k x' y' := by
  unfold lin
  refine Int.ediv_le_ediv h ?_
  have h1 := Int.mul_le_mul_of_nonneg_left hx (show 0 ≤ m - k by omega)
  have h2 := Int.mul_le_mul_of_nonneg_left hy k0
  omega
theorem lin_add {m k x y x' y' : Int} (h : 0 < m) : lin m k x y + lin m k x' y' ≤ lin m k (x + x') (y + y') := by
  unfold lin
  have e : (m - k) * (x + x') + k * (y + y') = ((m - k) * x + k * y) + ((m - k) * x' + k * y') := by
    rw [Int.mul_add, Int.mul_add]
    omega
  rw [e]
  generalize (m - k) * x + k * y = u
  generalize (m - k) * x' + k * y' = v
  have h1 := Int.ediv_mul_le u (show m ≠ 0 by omega)
  have h2 := Int.ediv_mul_le v (show m ≠ 0 by omega)
  refine Int.le_ediv_of_mul_le h ?_
  rw [Int.add_mul]
  omega
theorem lin_same {m k x : Int} (h : 0 < m) : lin m k x x = x := by
  unfold lin
  rw [← Int.add_mul, show m - k + k = m by omega, Int.mul_ediv_cancel_left _ (by omega)]
theorem lin_sum {m k : Int} (h : 0 < m) {s f : Str → Int} : ∀ l : List Str, (l.map fun a => lin m k (s a) (f a)).sum ≤ lin m k (l.map s).sum (l.map f).sum
  | [] => by
    show (0 : Int) ≤ lin m k 0 0
    rw [lin_same h]
    exact Int.le_refl _
  | a :: l => by
    rw [List.map_cons, List.sum_cons, List.map_cons, List.sum_cons, List.map_cons, List.sum_cons]
    have := lin_sum h (s := s) (f := f) l (k := k)
    have := lin_add (k := k) (x := s a) (y := f a) (x' := (l.map s).sum) (y' := (l.map f).sum) h
    omega
theorem lin_end {m x y : Int} (h : 0 < m) : lin m m x y = y := by
  unfold lin
  rw [Int.sub_self, Int.zero_mul, Int.zero_add, Int.mul_ediv_cancel_left _ (by omega)]
theorem lin_fea {t : List (Str × Str)} {n m k : Int} {s f : Str → Int} (h : 0 < m) (k0 : 0 ≤ k) (km : k ≤ m) (fs : Fea t n s) (ff : Fea t n f) : Fea t n fun a => lin m k (s a) (f a) := by
  refine ⟨fun a ha => ?_, fun p hp => ?_⟩
  · have := lin_mono h k0 km (fs.nn a ha) (ff.nn a ha)
    rw [lin_same h] at this
    exact this
  · have r1 := fs.res p hp
    have r2 := ff.res p hp
    unfold resid at r1 r2 ⊢
    have sm := lin_sum (k := k) h (s := s) (f := f) (kids t p)
    show 0 ≤ (if p = "" then n else lin m k (s p) (f p)) - ((kids t p).map fun a => lin m k (s a) (f a)).sum
    by_cases e : p = ""
    · rw [if_pos e] at r1 r2 ⊢
      have mo := lin_mono h k0 km (show ((kids t p).map s).sum ≤ n by omega) (show ((kids t p).map f).sum ≤ n by omega)
      rw [lin_same h] at mo
      omega
    · rw [if_neg e] at r1 r2 ⊢
      have mo := lin_mono h k0 km (show ((kids t p).map s).sum ≤ s p by omega) (show ((kids t p).map f).sum ≤ f p by omega)
      omega
/-- one step: towards the goal, not beyond it, within the limit -/
theorem lin_step {m k x y l : Int} (h : 0 < m) (k0 : 0 ≤ k) (km : k + 1 ≤ m) (hl : absI (y - x) ≤ m * l) :
    (x ≤ y → 0 ≤ lin m (k + 1) x y - lin m k x y ∧ lin m (k + 1) x y ≤ y ∧ lin m (k + 1) x y - lin m k x y ≤ l) ∧ (y ≤ x → lin m (k + 1) x y - lin m k x y ≤ 0 ∧ y ≤ lin m (k + 1) x y ∧ -l ≤ lin m (k + 1) x y - lin m k x y) := by
  have e : (m - (k + 1)) * x + (k + 1) * y = ((m - k) * x + k * y) + (y - x) := by
    rw [Int.sub_mul, Int.sub_mul, Int.add_mul, Int.add_mul]
    omega
  have ye := lin_end (x := x) (y := y) h
  refine ⟨fun le => ⟨?_, ?_, ?_⟩, fun le => ⟨?_, ?_, ?_⟩⟩
  · have : lin m k x y ≤ lin m (k + 1) x y := by
      unfold lin
      exact Int.ediv_le_ediv h (by rw [e]; omega)
    omega
  · have := lin_mono h (show 0 ≤ k + 1 by omega) km le (Int.le_refl y)
    rw [lin_same h] at this
    exact this
  · have : lin m (k + 1) x y ≤ lin m k x y + l := by
      unfold lin
      rw [← Int.add_mul_ediv_left _ _ (show m ≠ 0 by omega)]
      refine Int.ediv_le_ediv h ?_
      rw [e]
      have : y - x ≤ m * l := by
        unfold absI at hl
        split at hl <;> omega
      omega
    omega
  · have : lin m (k + 1) x y ≤ lin m k x y := by
      unfold lin
      exact Int.ediv_le_ediv h (by rw [e]; omega)
    omega
  · have := lin_mono h (show 0 ≤ k + 1 by omega) km le (Int.le_refl y)
    rw [lin_same h] at this
    exact this
  · have : lin m k x y + (-l) ≤ lin m (k + 1) x y := by
      unfold lin
      rw [← Int.add_mul_ediv_left _ _ (show m ≠ 0 by omega)]
      refine Int.ediv_le_ediv h ?_
      rw [e]
      have : x - y ≤ m * l := by
        unfold absI at hl
        split at hl <;> omega
      have e2 : m * -l = -(m * l) := Int.mul_neg ..
      omega
    omega
theorem cdv_mul {a l m : Int} (l0 : 0 < l) (h : cdv a l ≤ m) : a ≤ m * l := by
  unfold cdv at h
  have h1 : -m ≤ (-a) / l := by omega
  have h2 := (Int.le_ediv_iff_mul_le l0).mp h1
  rw [Int.neg_mul] at h2
  omega
theorem even_ok {t : List (Str × Str)} {n m k : Int} {s f l : Str → Int} (h : 0 < m) (k0 : 0 ≤ k) (km : k + 1 ≤ m) (fs : Fea t n s) (ff : Fea t n f) (hl : ∀ a ∈ t.map Prod.fst, 0 < l a ∧ cdv (absI (f a - s a)) (l a) ≤ m) :
    stepR t n (evS s (fun a => f a - s a) m k) (evS s (fun a => f a - s a) m (k + 1)) f (some l) none = true := by
  have e1 : evS s (fun a => f a - s a) m k = fun a => lin m k (s a) (f a) := funext fun a => ev_lin h a
  have e2 : evS s (fun a => f a - s a) m (k + 1) = fun a => lin m (k + 1) (s a) (f a) := funext fun a => ev_lin h a
  rw [e1, e2]
  unfold stepR
  rw [fit_fea.mpr (lin_fea h (by omega) km fs ff), Bool.true_and]
  show ((t.map Prod.fst).all _ && true) = true
  rw [Bool.and_true, List.all_eq_true]
  intro a ha
  obtain ⟨l0, hc⟩ := hl a ha
  have q := cdv_mul l0 hc
  obtain ⟨up, dn⟩ := lin_step (x := s a) (y := f a) h k0 km q
  unfold okS capB
  show (!(decide ((lin m (k + 1) (s a) (f a) - lin m k (s a) (f a)) * (f a - lin m k (s a) (f a)) < 0) || decide (absI (lin m (k + 1) (s a) (f a) - lin m k (s a) (f a)) > absI (f a - lin m k (s a) (f a)))) && !decide (absI (lin m (k + 1) (s a) (f a) - lin m k (s a) (f a)) > l a)) = true
  generalize lin m (k + 1) (s a) (f a) = g at up dn ⊢
  generalize lin m k (s a) (f a) = h0 at up dn ⊢
  have fin : ¬ (g - h0) * (f a - h0) < 0 ∧ ¬ absI (g - h0) > absI (f a - h0) ∧ ¬ absI (g - h0) > l a := by
    rcases Int.le_total (s a) (f a) with c | c
    · obtain ⟨u1, u2, u3⟩ := up c
      have := Int.mul_nonneg u1 (show 0 ≤ f a - h0 by omega)
      refine ⟨by omega, ?_, ?_⟩
      · unfold absI
        split <;> split <;> omega
      · unfold absI
        split <;> omega
    · obtain ⟨u1, u2, u3⟩ := dn c
      have := Int.mul_nonneg_of_nonpos_of_nonpos u1 (show f a - h0 ≤ 0 by omega)
      refine ⟨by omega, ?_, ?_⟩
      · unfold absI
        split <;> split <;> omega
      · unfold absI
        split <;> omega
  rw [decide_eq_false fin.1, decide_eq_false fin.2.1, decide_eq_false fin.2.2] <;> rfl
end FT


/-! amounts and errors of tables (plain part of FtAm) -/
namespace FT
open PySem L2 TL ClX LamX NdefX LiI
theorem am_none {CU CS : Addr} {ts : List (Str × Str)} {n : Int} {l1 l2 : List Str} {s1 s2 : Str → Int} (n1 : 1 ≤ n) (n2 : n ≤ 10 ^ 30) (f1 : Fea ts n s1) (f2 : Fea ts n s2) (p1 : l1.Perm (ts.map Prod.fst)) (p2 : l2.Perm (ts.map Prod.fst)) :
    amE CU CS ts (.int n) (some (tblI l1 s1)) (some (tblI l2 s2)) = none := by
  have u : usersOk (.int n) (10 ^ 30) = true := by
    show (decide (1 ≤ n) && decide (n ≤ 10 ^ 30)) = true
    rw [decide_eq_true n1, decide_eq_true n2] <;> rfl
  unfold amE szE
  rw [if_pos u]
  show (feE CS ts n _).or (feE CS ts n _) = none
  rw [f1.ok p1, f2.ok p2] <;> rfl
end FT


/-! two dicts of flat values compared, equal or not -/
namespace L2
open PySem PySem.Spec PyProof.Rows
def rowEq (ls : List (Key × V)) (p : Key × V) : Bool := match valV ls p.1 with
  | some u => eqV p.2 u
  | none => false
def eqDK (ks ls : List (Key × V)) : Bool := ks.length == ls.length && ks.all (rowEq ls)
theorem valV_mem {ls : List (Key × V)} {k : Key} {u : V} (h : valV ls k = some u) : ∃ p ∈ ls, p.2 = u := by
  induction ls with
  | nil => cases h
  | cons p ls ih =>
    by_cases e : p.1 = k
    · rw [valV_pos e] at h
      exact ⟨p, List.mem_cons_self .., Option.some.inj h⟩
    · rw [valV_neg e] at h
      obtain ⟨q, hq, eq⟩ := ih h
      exact ⟨q, List.mem_cons_of_mem _ hq, eq⟩
theorem hits_any {A : Around} {s : Shared} {ls : List (Key × V)} {vb : List (Key × Value)} (rb : KV ls vb) (fl : ∀ p ∈ ls, flatV p.2 = true) {ks : List (Key × V)} {va : List (Key × Value)} (ra : KV ks va) : (∀ p ∈ ks, flatV p.2 = true) → PySem.W.KeqHits A s vb va (ks.all (rowEq ls)) := by
  unfold KV at ra
  induction ra with
  | nil => intro _; exact .nil
  | @cons p q ps qs h t ih =>
    intro fk
    obtain ⟨h1, h2⟩ := h
    have ih := ih fun p' hm => fk p' (List.mem_cons_of_mem _ hm)
    obtain ⟨k, v⟩ := q
    have h1' : p.1 = k := h1
    have rr := rb.val p.1
    rw [List.all_cons]
    cases e : valV ls p.1 with
    | none =>
      rw [e] at rr
      have z := rr.none_of
      rw [h1'] at z
      rw [show rowEq ls p = false by unfold rowEq; rw [e]]
      exact .miss z
    | some u =>
      rw [e] at rr
      obtain ⟨y, hy, ry⟩ := rr.some_of
      rw [h1'] at hy
      obtain ⟨p', hp', e'⟩ := valV_mem e
      have fu : flatV u = true := by rw [← e']; exact fl p' hp'
      rw [show rowEq ls p = eqV p.2 u by unfold rowEq; rw [e]]
      exact .hit hy (eqAt_V h2 ry (fk p (List.mem_cons_self ..)) fu) ih
section
variable {X : Cx}
def rEqDC : R2 := fun x y H Q => ∃ a b ks ls, x = .ref a ∧ y = .ref b ∧ H a = some (.dK ks) ∧ H b = some (.dK ls) ∧ (∀ p ∈ ks, flatV p.2 = true) ∧ (∀ p ∈ ls, flatV p.2 = true) ∧ Q (.bl (eqDK ks ls)) H
def rNeDC : R2 := fun x y H Q => ∃ a b ks ls, x = .ref a ∧ y = .ref b ∧ H a = some (.dK ks) ∧ H b = some (.dK ls) ∧ (∀ p ∈ ks, flatV p.2 = true) ∧ (∀ p ∈ ls, flatV p.2 = true) ∧ Q (.bl (!eqDK ks ls)) H
end
end L2


/-! plain: all steps from a point, turn by turn -/
namespace FT
open PySem L2 TL
def upA (g : Str → Int) (a : Str) (v : Int) : Str → Int := fun x => if x = a then v else g x
def addS (h c : Str → Int) (a : Str) (g : Str → Int) : List (Str → Int) := (List.range (c a + 1 - -(c a)).toNat).map fun i : Nat => upA g a (h a + (-(c a) + (i : Int)))
def foldS (h c : Str → Int) (gs : List (Str → Int)) (L : List Str) : List (Str → Int) := L.foldl (fun gs a => gs.flatMap (addS h c a)) gs
abbrev prodS (h c : Str → Int) (L : List Str) : List (Str → Int) := foldS h c [fun _ => 0] L
def EqL (L : List Str) (g g' : Str → Int) : Prop := ∀ a ∈ L, g a = g' a
def InL (L : List Str) (gs : List (Str → Int)) (g : Str → Int) : Prop := ∃ g' ∈ gs, EqL L g' g
theorem foldS_snoc {h c : Str → Int} {gs : List (Str → Int)} {L : List Str} {a : Str} : foldS h c gs (L ++ [a]) = (foldS h c gs L).flatMap (addS h c a) := by
  unfold foldS
  rw [List.foldl_append] <;> rfl
theorem fold_in {h c : Str → Int} : ∀ {L : List Str} {gs : List (Str → Int)} {g : Str → Int}, L.Nodup → g ∈ foldS h c gs L → ∃ g0 ∈ gs, (∀ b, b ∉ L → g b = g0 b) ∧ ∀ a ∈ L, -(c a) ≤ g a - h a ∧ g a - h a ≤ c a
  | [], gs, g, _, hg => ⟨g, hg, fun _ _ => rfl, fun a h => nomatch h⟩
  | a :: L, gs, g, nd, hg => by
    obtain ⟨na, nd'⟩ := List.nodup_cons.mp nd
    obtain ⟨g1, h1, e1, w1⟩ := fold_in nd' (show g ∈ foldS h c (gs.flatMap (addS h c a)) L from hg)
    obtain ⟨g0, h0, hm⟩ := List.mem_flatMap.mp h1
    obtain ⟨i, hi, rfl⟩ := List.mem_map.mp hm
    have hi := List.mem_range.mp hi
    refine ⟨g0, h0, fun b hb => ?_, fun x hx => ?_⟩
    · rw [e1 b (fun z => hb (List.mem_cons_of_mem _ z))]
      show (if b = a then _ else g0 b) = _
      rw [if_neg (fun e => hb (by rw [e]; exact List.mem_cons_self ..))]
    · rcases List.mem_cons.mp hx with rfl | hx
      · rw [e1 x na]
        show -(c x) ≤ (if x = x then _ else _) - _ ∧ (if x = x then _ else _) - _ ≤ _
        rw [if_pos rfl]
        omega
      · exact w1 x hx
theorem fold_all {h c e : Str → Int} : ∀ {L : List Str} {gs : List (Str → Int)}, L.Nodup → (∀ a ∈ L, -(c a) ≤ e a - h a ∧ e a - h a ≤ c a) → ∀ g0 ∈ gs, ∃ g ∈ foldS h c gs L, (∀ a ∈ L, g a = e a) ∧ ∀ b, b ∉ L → g b = g0 b
  | [], gs, _, _, g0, h0 => ⟨g0, h0, (fun a h => nomatch h), fun _ _ => rfl⟩
  | a :: L, gs, nd, he, g0, h0 => by
    obtain ⟨na, nd'⟩ := List.nodup_cons.mp nd
    have ha := he a (List.mem_cons_self ..)
    have m1 : upA g0 a (e a) ∈ gs.flatMap (addS h c a) := by
      refine List.mem_flatMap.mpr ⟨g0, h0, List.mem_map.mpr ⟨(e a - h a + c a).toNat, List.mem_range.mpr (by omega), ?_⟩⟩
      have : h a + (-(c a) + (((e a - h a + c a).toNat : Nat) : Int)) = e a := by omega
      rw [this]
    obtain ⟨g, hg, e1, e2⟩ := fold_all nd' (fun x hx => he x (List.mem_cons_of_mem _ hx)) _ m1
    refine ⟨g, hg, fun x hx => ?_, fun b hb => ?_⟩
    · rcases List.mem_cons.mp hx with rfl | hx
      · rw [e2 x na]
        show (if x = x then _ else _) = _
        rw [if_pos rfl]
      · exact e1 x hx
    · rw [e2 b (fun z => hb (List.mem_cons_of_mem _ z))]
      show (if b = a then _ else g0 b) = _
      rw [if_neg (fun e => hb (by rw [e]; exact List.mem_cons_self ..))]
theorem flat_len25 {α β : Type} {f : α → List β} {k : Nat} : ∀ {l : List α}, (∀ a ∈ l, (f a).length ≤ k) → (l.flatMap f).length ≤ l.length * k
  | [], _ => Nat.zero_le _
  | a :: l, h => by
    rw [List.flatMap_cons, List.length_append, List.length_cons, Nat.add_mul]
    have := h a (List.mem_cons_self ..)
    have := flat_len25 (l := l) fun b hb => h b (List.mem_cons_of_mem _ hb)
    omega
theorem addS_len {h c : Str → Int} {a : Str} {g : Str → Int} (l : c a ≤ 6) : (addS h c a g).length ≤ 13 := by
  unfold addS
  rw [List.length_map, List.length_range]
  omega
theorem fold_len {h c : Str → Int} : ∀ {L : List Str} {gs : List (Str → Int)}, (∀ a ∈ L, c a ≤ 6) → (foldS h c gs L).length ≤ gs.length * 13 ^ L.length
  | [], gs, _ => by
    show gs.length ≤ gs.length * 13 ^ 0
    omega
  | a :: L, gs, l => by
    have h1 := fold_len (h := h) (L := L) (gs := gs.flatMap (addS h c a)) fun x hx => l x (List.mem_cons_of_mem _ hx)
    have h2 := flat_len25 (l := gs) (f := addS h c a) (k := 13) fun g _ => addS_len (l a (List.mem_cons_self ..))
    have h3 := Nat.mul_le_mul_right (13 ^ L.length) h2
    have e : gs.length * 13 ^ (a :: L).length = gs.length * 13 * 13 ^ L.length := by
      rw [List.length_cons, Nat.pow_succ, Nat.mul_assoc, Nat.mul_comm (13 ^ L.length) 13]
    rw [e]
    exact Nat.le_trans h1 h3
theorem rowEq_tbl {L : List Str} {g g' : Str → Int} : eqDK (tblI L g') (tblI L g) = true ↔ EqL L g' g := by
  unfold eqDK
  rw [Bool.and_eq_true, beq_iff_eq, List.all_eq_true, tblI_len, tblI_len]
  refine ⟨fun h a ha => ?_, fun h => ⟨rfl, fun p hp => ?_⟩⟩
  · obtain ⟨i, hi⟩ := List.mem_iff_getElem?.mp ha
    have z := h.2 (Sum.inr a, V.int (g' a)) (by
      unfold tblI kvT
      rw [List.map_map]
      exact List.mem_map.mpr ⟨a, ha, rfl⟩)
    unfold rowEq at z
    rw [show valV (tblI L g) (Sum.inr a) = some (V.int (g a)) from tblI_val ha] at z
    exact eq_of_beq (show (g' a == g a) = true from z)
  · obtain ⟨i, hi⟩ := List.mem_iff_getElem?.mp hp
    obtain ⟨k, v⟩ := p
    obtain ⟨a, ha, rfl, rfl⟩ := tblI_at hi
    have ma := List.mem_of_getElem? ha
    unfold rowEq
    rw [tblI_val ma]
    show (g' a == g a) = true
    rw [h a ma, beq_self_eq_true]
theorem any_tbl {L : List Str} {g : Str → Int} {gs : List (Str → Int)} : ((gs.map (tblI L)).any fun ls => eqDK ls (tblI L g)) = true ↔ InL L gs g := by
  rw [List.any_map, List.any_eq_true]
  exact ⟨fun ⟨g', h, e⟩ => ⟨g', h, rowEq_tbl.mp e⟩, fun ⟨g', h, e⟩ => ⟨g', h, rowEq_tbl.mpr e⟩⟩
/-! ### at most so many -/
theorem nodup_le25 {α : Type} [DecidableEq α] : ∀ {a b : List α}, a.Nodup → (∀ x ∈ a, x ∈ b) → a.length ≤ b.length
  | [], b, _, _ => Nat.zero_le _
  | x :: a, b, nd, sub => by
    obtain ⟨h1, h2⟩ := List.nodup_cons.mp nd
    have hx := sub x List.mem_cons_self
    have := nodup_le25 (b := b.erase x) h2 fun y hy => (List.mem_erase_of_ne fun e => h1 (by rw [← e]; exact hy)).mpr (sub y (List.mem_cons_of_mem _ hy))
    rw [List.length_erase_of_mem hx] at this
    have pos := List.length_pos_of_mem hx
    rw [List.length_cons]
    omega
def codeL (g : Str → Int) : List Str → Nat
  | [] => 0
  | a :: L => (g a).toNat + 5 * codeL g L
theorem code_lt {g : Str → Int} : ∀ {L : List Str}, (∀ a ∈ L, 0 ≤ g a ∧ g a ≤ 4) → codeL g L < 5 ^ L.length
  | [], _ => Nat.one_pos
  | a :: L, h => by
    have := code_lt (L := L) fun x hx => h x (List.mem_cons_of_mem _ hx)
    have := h a (List.mem_cons_self ..)
    rw [List.length_cons, Nat.pow_succ]
    show (g a).toNat + 5 * codeL g L < _
    omega
theorem code_eq {g g' : Str → Int} : ∀ {L : List Str}, (∀ a ∈ L, 0 ≤ g a ∧ g a ≤ 4) → (∀ a ∈ L, 0 ≤ g' a ∧ g' a ≤ 4) → codeL g L = codeL g' L → EqL L g g'
  | [], _, _, _ => fun a h => nomatch h
  | a :: L, h, h', e => by
    have e : (g a).toNat + 5 * codeL g L = (g' a).toNat + 5 * codeL g' L := e
    have h1 := h a (List.mem_cons_self ..)
    have h2 := h' a (List.mem_cons_self ..)
    have ih := code_eq (L := L) (fun x hx => h x (List.mem_cons_of_mem _ hx)) (fun x hx => h' x (List.mem_cons_of_mem _ hx)) (by omega)
    intro x hx
    rcases List.mem_cons.mp hx with rfl | hx
    · omega
    · exact ih x hx
theorem dst_len {L : List Str} {gs : List (Str → Int)} (l3 : L.length ≤ 3) (pw : gs.Pairwise fun g g' => ¬ EqL L g g') (b : ∀ g ∈ gs, ∀ a ∈ L, 0 ≤ g a ∧ g a ≤ 4) : gs.length ≤ 125 := by
  have nd : (gs.map fun g => codeL g L).Nodup := by
    rw [List.nodup_iff_pairwise_ne, List.pairwise_map]
    refine pw.imp_of_mem fun {g g'} hg hg' ne e => ne (code_eq (b g hg) (b g' hg') e)
  have := nodup_le25 (b := List.range (5 ^ L.length)) nd fun x hx => by
    obtain ⟨g, hg, rfl⟩ := List.mem_map.mp hx
    exact List.mem_range.mpr (code_lt (b g hg))
  rw [List.length_map, List.length_range] at this
  have p : 5 ^ L.length ≤ 5 ^ 3 := Nat.pow_le_pow_right (by decide) l3
  omega
/-! ### the turns -/
structure D25 (t : List (Str × Str)) (n : Int) (w f c : Str → Int) (m : Int) : Prop where
  o : TreeOk t
  l3 : t.length ≤ 3
  fw : Fea t n w
  ff : Fea t n f
  n4 : n ≤ 4
  c1 : ∀ a ∈ t.map Prod.fst, 1 ≤ c a ∧ c a ≤ 6
  mx : IsMax m ((t.map Prod.fst).map fun a => cdv (absI (f a - w a)) (c a))
def Wt (t : List (Str × Str)) (w c : Str → Int) (k : Int) (g : Str → Int) : Prop := ∀ a ∈ t.map Prod.fst, absI (g a - w a) ≤ k * c a
def Inb (t : List (Str × Str)) (g : Str → Int) : Prop := ∀ a ∈ t.map Prod.fst, 0 ≤ g a ∧ g a ≤ 4
abbrev evD (w f : Str → Int) (m k : Int) : Str → Int := evS w (fun a => f a - w a) m k
section
variable {t : List (Str × Str)} {n m : Int} {w f c : Str → Int}
theorem D25.inb (G : D25 t n w f c m) {g : Str → Int} (h : Fea t n g) : Inb t g := fun a ha => by
  have := h.nn a ha
  have := fea_leW G.o h a ha
  have := G.n4
  omega
theorem D25.box (G : D25 t n w f c m) : ∀ a ∈ t.map Prod.fst, absI (f a - w a) ≤ 4 ∧ 0 ≤ absI (f a - w a) := fun a ha => by
  have := G.inb G.fw a ha
  have := G.inb G.ff a ha
  unfold absI
  split <;> omega
theorem D25.m4 (G : D25 t n w f c m) : 0 ≤ m ∧ m ≤ 4 := by
  obtain ⟨a, ha, e⟩ := List.mem_map.mp G.mx.1
  have b := G.box a ha
  have c1 := G.c1 a ha
  have e : cdv (absI (f a - w a)) (c a) = m := e
  unfold cdv at e
  generalize absI (f a - w a) = x at b e
  rcases (show c a = 1 ∨ c a = 2 ∨ c a = 3 ∨ c a = 4 ∨ c a = 5 ∨ c a = 6 by omega) with h | h | h | h | h | h <;> rw [h] at e <;> omega
/-- the flag that needs most -/
theorem D25.top (G : D25 t n w f c m) : ∃ a ∈ t.map Prod.fst, cdv (absI (f a - w a)) (c a) = m := by
  obtain ⟨a, ha, e⟩ := List.mem_map.mp G.mx.1
  exact ⟨a, ha, e⟩
theorem D25.not_yet (G : D25 t n w f c m) {k : Int} (k0 : 0 ≤ k) (km : k < m) {g : Str → Int} (h : Wt t w c k g) : ¬ EqL (t.map Prod.fst) g f := fun e => by
  obtain ⟨a, ha, em⟩ := G.top
  have h1 := h a ha
  rw [e a ha] at h1
  have c1 := G.c1 a ha
  have m4 := G.m4
  unfold cdv at em
  generalize absI (f a - w a) = x at h1 em
  rcases (show c a = 1 ∨ c a = 2 ∨ c a = 3 ∨ c a = 4 ∨ c a = 5 ∨ c a = 6 by omega) with h | h | h | h | h | h <;> rw [h] at em h1 <;> omega
theorem D25.ev_new (G : D25 t n w f c m) {k : Int} (k0 : 0 ≤ k) (km : k < m) {g : Str → Int} (h : Wt t w c k g) : ¬ EqL (t.map Prod.fst) g (evD w f m (k + 1)) := fun e => by
  obtain ⟨a, ha, em⟩ := G.top
  have h1 := h a ha
  rw [e a ha] at h1
  have c1 := G.c1 a ha
  have m4 := G.m4
  have b := G.box a ha
  unfold evD evS at h1
  unfold cdv at em
  have e2 : w a + (k + 1) * (f a - w a) / m - w a = (k + 1) * (f a - w a) / m := by omega
  rw [e2] at h1
  generalize f a - w a = d at h1 em b
  unfold absI at h1 em b
  rcases (show m = 1 ∨ m = 2 ∨ m = 3 ∨ m = 4 by omega) with hm | hm | hm | hm <;>
    rcases (show k = 0 ∨ k = 1 ∨ k = 2 ∨ k = 3 by omega) with hk | hk | hk | hk <;>
    rcases (show c a = 1 ∨ c a = 2 ∨ c a = 3 ∨ c a = 4 ∨ c a = 5 ∨ c a = 6 by omega) with h | h | h | h | h | h <;> rw [h] at em h1 <;> rw [hm] at em h1 km <;> rw [hk] at h1 km <;> first | omega | (split at h1 <;> split at em <;> split at b <;> omega)
theorem D25.step (G : D25 t n w f c m) {k : Int} (k0 : 0 ≤ k) (km : k < m) : stepR t n (evD w f m k) (evD w f m (k + 1)) f (some c) none = true :=
  even_ok (by omega) k0 (by omega) G.fw G.ff fun a ha => ⟨by have := G.c1 a ha; omega, G.mx.2 _ (List.mem_map.mpr ⟨a, ha, rfl⟩)⟩
theorem fea_eql {g g' : Str → Int} (e : EqL (t.map Prod.fst) g g') (h : Fea t n g) : Fea t n g' := by
  refine ⟨fun a ha => by rw [← e a ha]; exact h.nn a ha, fun p hp => ?_⟩
  rw [← resid_congr e ((List.mem_cons.mp hp).imp id fun m => e p m)]
  exact h.res p hp
theorem stepR_eql {h h' g g' : Str → Int} (e1 : EqL (t.map Prod.fst) h h') (e2 : EqL (t.map Prod.fst) g g') (s : stepR t n h' g' f (some c) none = true) : stepR t n h g f (some c) none = true := by
  unfold stepR at s ⊢
  rw [Bool.and_eq_true, Bool.and_eq_true] at s ⊢
  refine ⟨⟨fit_fea.mpr (fea_eql (fun a ha => (e2 a ha).symm) (fit_fea.mp s.1.1)), ?_⟩, rfl⟩
  have z := s.1.2
  rw [List.all_eq_true] at z ⊢
  intro a ha
  have := z a ha
  unfold okS capB at this ⊢
  rw [e1 a ha, e2 a ha]
  exact this
theorem stepR_cap {h g : Str → Int} (s : stepR t n h g f (some c) none = true) : Fea t n g ∧ ∀ a ∈ t.map Prod.fst, -(c a) ≤ g a - h a ∧ g a - h a ≤ c a := by
  unfold stepR at s
  rw [Bool.and_eq_true, Bool.and_eq_true] at s
  refine ⟨fit_fea.mp s.1.1, fun a ha => ?_⟩
  have z := List.all_eq_true.mp s.1.2 a ha
  unfold okS capB at z
  rw [Bool.and_eq_true] at z
  have z := z.2
  have z : (!decide (absI (g a - h a) > c a)) = true := z
  have z : ¬ absI (g a - h a) > c a := fun q => by rw [decide_eq_true q] at z; cases z
  unfold absI at z
  split at z <;> omega
/-- all found from the even point: the next even point is among them -/
theorem D25.reach (G : D25 t n w f c m) {k : Int} (k0 : 0 ≤ k) (km : k < m) {h : Str → Int} (e : EqL (t.map Prod.fst) h (evD w f m k)) : InL (t.map Prod.fst) (prodS h c (t.map Prod.fst)) (evD w f m (k + 1)) := by
  obtain ⟨g, hg, e1, _⟩ := fold_all (h := h) (c := c) (e := evD w f m (k + 1)) (gs := [fun _ => 0]) G.o.nd (fun a ha => by rw [e a ha]; exact (stepR_cap (G.step k0 km)).2 a ha) _ (List.mem_singleton_self _)
  exact ⟨g, hg, e1⟩
/-- within a turn -/
structure Tn25 (t : List (Str × Str)) (w f c : Str → Int) (m k : Int) (seen later : List (Str → Int)) : Prop where
  s1 : ∀ g ∈ seen, Wt t w c (k + 1) g ∧ Inb t g
  s2 : ∀ g ∈ later, g ∈ seen
  s3 : InL (t.map Prod.fst) seen (evD w f m (k + 1)) → InL (t.map Prod.fst) later (evD w f m (k + 1))
  s4 : seen.Pairwise fun g g' => ¬ EqL (t.map Prod.fst) g g'
  s5 : later.length ≤ seen.length
/-- between turns -/
structure At25 (t : List (Str × Str)) (w f c : Str → Int) (m k : Int) (seen line : List (Str → Int)) : Prop where
  s1 : ∀ g ∈ seen, Wt t w c k g ∧ Inb t g
  s2 : ∀ g ∈ line, g ∈ seen
  s3 : InL (t.map Prod.fst) line (evD w f m k)
  s4 : seen.Pairwise fun g g' => ¬ EqL (t.map Prod.fst) g g'
theorem Tn25.few (G : D25 t n w f c m) {k : Int} {seen later : List (Str → Int)} (T : Tn25 t w f c m k seen later) : seen.length ≤ 125 ∧ later.length ≤ 125 := by
  have := dst_len (by rw [List.length_map]; exact G.l3) T.s4 fun g hg => (T.s1 g hg).2
  have := T.s5
  omega
theorem At25.zero (G : D25 t n w f c m) : At25 t w f c m 0 [w] [w] := by
  refine ⟨fun g hg => ?_, fun g hg => hg, ⟨w, List.mem_singleton_self _, fun a ha => ?_⟩, List.pairwise_singleton ..⟩
  · rw [List.mem_singleton.mp hg]
    refine ⟨fun a ha => ?_, G.inb G.fw⟩
    rw [Int.sub_self, Int.zero_mul]
    exact Int.le_refl _
  · show w a = w a + 0 * (f a - w a) / m
    rw [Int.zero_mul, Int.zero_ediv, Int.add_zero]
theorem At25.turn (G : D25 t n w f c m) {k : Int} (k0 : 0 ≤ k) (km : k < m) {seen line : List (Str → Int)} (A : At25 t w f c m k seen line) : Tn25 t w f c m k seen [] := by
  refine ⟨fun g hg => ⟨fun a ha => ?_, (A.s1 g hg).2⟩, (fun g hg => (nomatch hg)), (fun ⟨g, hg, e⟩ => absurd e (G.ev_new k0 km (A.s1 g hg).1)), A.s4, Nat.zero_le _⟩
  have := (A.s1 g hg).1 a ha
  have := G.c1 a ha
  rw [Int.add_mul]
  omega
theorem At25.no (G : D25 t n w f c m) {k : Int} (k0 : 0 ≤ k) (km : k < m) {seen line : List (Str → Int)} (A : At25 t w f c m k seen line) : ¬ InL (t.map Prod.fst) seen f := fun ⟨g, hg, e⟩ => G.not_yet k0 km (A.s1 g hg).1 e
theorem At25.yes (G : D25 t n w f c m) {seen line : List (Str → Int)} (A : At25 t w f c m m seen line) : InL (t.map Prod.fst) seen f := by
  obtain ⟨g, hg, e⟩ := A.s3
  refine ⟨g, A.s2 g hg, fun a ha => ?_⟩
  rw [e a ha]
  show w a + m * (f a - w a) / m = f a
  by_cases m0 : m = 0
  · subst m0
    have z := G.mx.2 _ (List.mem_map.mpr ⟨a, ha, rfl⟩)
    have b := G.box a ha
    have c1 := G.c1 a ha
    have : cdv (absI (f a - w a)) (c a) ≤ 0 := z
    unfold cdv at this
    rw [Int.zero_mul, Int.zero_ediv]
    have : absI (f a - w a) = 0 := by
      generalize absI (f a - w a) = x at b this ⊢
      rcases (show c a = 1 ∨ c a = 2 ∨ c a = 3 ∨ c a = 4 ∨ c a = 5 ∨ c a = 6 by omega) with h | h | h | h | h | h <;> rw [h] at this <;> omega
    unfold absI at this
    split at this <;> omega
  · rw [Int.mul_ediv_cancel_left _ m0]
    omega
/-- one more is seen -/
theorem Tn25.add {k : Int} {seen later : List (Str → Int)} (T : Tn25 t w f c m k seen later) {g h : Str → Int} (nw : ¬ InL (t.map Prod.fst) seen g) (wh : Wt t w c k h) (cap : ∀ a ∈ t.map Prod.fst, -(c a) ≤ g a - h a ∧ g a - h a ≤ c a) (ib : Inb t g) : Tn25 t w f c m k (seen ++ [g]) (later ++ [g]) := by
  refine ⟨fun x hx => ?_, fun x hx => ?_, fun ⟨x, hx, e⟩ => ?_, ?_, ?_⟩
  · rcases List.mem_append.mp hx with hx | hx
    · exact T.s1 x hx
    · rw [List.mem_singleton.mp hx]
      refine ⟨fun a ha => ?_, ib⟩
      have h1 := wh a ha
      have h2 := cap a ha
      rw [Int.add_mul]
      unfold absI at h1 ⊢
      split at h1 <;> split <;> omega
  · rcases List.mem_append.mp hx with hx | hx
    · exact List.mem_append_left _ (T.s2 x hx)
    · exact List.mem_append_right _ hx
  · rcases List.mem_append.mp hx with hx | hx
    · obtain ⟨y, hy, e2⟩ := T.s3 ⟨x, hx, e⟩
      exact ⟨y, List.mem_append_left _ hy, e2⟩
    · exact ⟨x, List.mem_append_right _ hx, e⟩
  · rw [List.pairwise_append]
    refine ⟨T.s4, List.pairwise_singleton .., fun x hx y hy => ?_⟩
    rw [List.mem_singleton.mp hy]
    exact fun e => nw ⟨x, hx, e⟩
  · rw [List.length_append, List.length_append]
    have := T.s5
    omega
/-- the turn ends -/
theorem Tn25.fin {k : Int} {seen later : List (Str → Int)} (T : Tn25 t w f c m k seen later) (i : InL (t.map Prod.fst) later (evD w f m (k + 1))) : At25 t w f c m (k + 1) seen later := ⟨T.s1, T.s2, i, T.s4⟩
end
end FT


/-! plain: a change within limits -/
namespace FT
open PySem L2 TL ClX
structure G25 (t ts : List (Str × Str)) (n : Int) (s f c : Str → Int) (m : Int) : Prop where
  o : TreeOk t
  ot : TreeOk ts
  pm : ts.Perm t
  n1 : 1 ≤ n
  n30 : n ≤ 10 ^ 30
  fs : Fea t n s
  ff : Fea t n f
  cb : ∀ a ∈ t.map Prod.fst, 1 ≤ c a ∧ c a ≤ 10 ^ 30
  mx : IsMax m ((t.map Prod.fst).map fun a => cdv (absI (f a - s a)) (c a))
def gs25 (s f : Str → Int) (m : Int) : List (Str → Int) := (List.range m.toNat).map fun k : Nat => evD s f m ((k : Int) + 1)
theorem chain_of25 {t : List (Str × Str)} {n : Int} {f : Str → Int} {co : Option (Str → Int)} {ko : Option Int} : ∀ {gs : List (Str → Int)} {h : Str → Int}, (∀ (j : Nat) (g : Str → Int), gs[j]? = some g → stepR t n (lastR h (gs.take j)) g f co ko = true) → chainR t n f co ko h gs
  | [], _, _ => trivial
  | g0 :: gs, h, c => ⟨c 0 g0 rfl, chain_of25 fun j g e => by
    have z := c (j + 1) g e
    have e2 : lastR h ((g0 :: gs).take (j + 1)) = lastR g0 (gs.take j) := by
      unfold lastR
      rw [List.take_succ_cons, List.getLastD_cons]
    rw [e2] at z
    exact z⟩
theorem li_tbl5 {CL : Addr} {ts : List (Str × Str)} {lo : List Str} {cp : Str → Int} (p : lo.Perm (ts.map Prod.fst)) (h : ∀ a ∈ ts.map Prod.fst, 1 ≤ cp a) : liE CL ts (some (tblI lo cp)) = none := by
  have vals : ∀ a ∈ ts.map Prod.fst, valV (tblI lo cp) (Sum.inr a) = some (.int (cp a)) := fun a ha => tblI_val (p.mem_iff.mpr ha)
  unfold liE
  refine Option.map_eq_none_iff.mpr ?_
  have ll := p.length_eq
  rw [List.length_map] at ll
  rw [lims_some, if_neg (by rw [tblI_len]; exact fun z => z ll), if_neg (by
    have : (ts.map Prod.fst).all (fun a => (valV (tblI lo cp) (Sum.inr a)).isSome) = true := List.all_eq_true.mpr fun a ha => by rw [vals a ha] <;> rfl
    rw [this]
    decide)]
  refine Option.map_eq_none_iff.mpr (List.find?_eq_none.mpr fun a ha => ?_)
  unfold badLim
  rw [vals a ha]
  show ¬ (!decide (1 ≤ cp a)) = true
  rw [decide_eq_true (h a ha)]
  decide
theorem szOf_tb5 {l : List Str} {g : Str → Int} {a : Str} (h : a ∈ l) : szOf (tblI l g) a = g a := by
  unfold szOf
  rw [tblI_val h]
theorem isMax_one {m m' : Int} {l : List Int} (h : IsMax m l) (h' : IsMax m' l) : m = m' := by
  have := h.2 _ h'.1
  have := h'.2 _ h.1
  omega
theorem isMax_perm {m : Int} {l l' : List Int} (p : l.Perm l') (h : IsMax m l) : IsMax m l' := ⟨p.mem_iff.mp h.1, fun y hy => h.2 y (p.mem_iff.mpr hy)⟩
theorem pair_map5 {α β γ : Type} {F : α → γ → Prop} (g : β → γ) : ∀ {xs : List α} {ys : List β}, Paired (fun x y => F x (g y)) xs ys → Paired F xs (ys.map g)
  | _, _, .nil => .nil
  | _, _, .cons a t => .cons a (pair_map5 g t)
theorem pair_imp5 {α β : Type} {F G : α → β → Prop} (m : ∀ a b, F a b → G a b) : ∀ {xs : List α} {ys : List β}, Paired F xs ys → Paired G xs ys
  | _, _, .nil => .nil
  | _, _, .cons a t => .cons (m _ _ a) (pair_imp5 m t)
theorem szm_tbl {K : PySem.W.Frag} {H : Hp} {k : Nat} {a : Addr} {l : List Str} {u : Str → Int} (e : H a = some (.dK (tblI l u))) : SzM K H k (.ref a) (some (tblI l u)) := .inl ⟨a, rfl, e, fun p hp => by
  obtain ⟨i, hi⟩ := List.mem_iff_getElem?.mp hp
  obtain ⟨kk, vv⟩ := p
  obtain ⟨b, hb, rfl, rfl⟩ := tblI_at hi
  exact ⟨_, .int _⟩⟩
section
variable {t ts : List (Str × Str)} {n m : Int} {s f c : Str → Int}
theorem G25.pk (G : G25 t ts n s f c m) : (ts.map Prod.fst).Perm (t.map Prod.fst) := G.pm.map _
theorem G25.mem (G : G25 t ts n s f c m) {a : Str} (h : a ∈ ts.map Prod.fst) : a ∈ t.map Prod.fst := G.pk.mem_iff.mp h
theorem G25.fs' (G : G25 t ts n s f c m) : Fea ts n s := Fea.perm G.pm.symm G.fs
theorem G25.ff' (G : G25 t ts n s f c m) : Fea ts n f := Fea.perm G.pm.symm G.ff
theorem G25.m0 (G : G25 t ts n s f c m) : 0 ≤ m := by
  obtain ⟨a, ha, e⟩ := List.mem_map.mp G.mx.1
  rw [← e]
  refine cdv_nn ?_ (by have := (G.cb a ha).1; omega)
  unfold absI
  split <;> omega
theorem G25.am (G : G25 t ts n s f c m) {CU CS : Addr} {l1 l2 : List Str} (p1 : l1.Perm (t.map Prod.fst)) (p2 : l2.Perm (t.map Prod.fst)) : amE CU CS ts (.int n) (some (tblI l1 s)) (some (tblI l2 f)) = none :=
  am_none G.n1 G.n30 G.fs' G.ff' (p1.trans G.pk.symm) (p2.trans G.pk.symm)
theorem G25.li (G : G25 t ts n s f c m) {CL : Addr} {l3 : List Str} (p3 : l3.Perm (t.map Prod.fst)) : liE CL ts (some (tblI l3 c)) = none := li_tbl5 (p3.trans G.pk.symm) fun a ha => (G.cb a (G.mem ha)).1
theorem G25.max (G : G25 t ts n s f c m) {l1 l2 l3 : List Str} (p1 : l1.Perm (t.map Prod.fst)) (p2 : l2.Perm (t.map Prod.fst)) (p3 : l3.Perm (t.map Prod.fst)) {m' : Int}
    (h : IsMax m' ((ts.map Prod.fst).map fun a => cdv (absI (amt (some (tblI l1 s)) (some (tblI l2 f)) a)) (szOf (kvsOf (some (tblI l3 c))) a))) : m' = m := by
  have e : ((ts.map Prod.fst).map fun a => cdv (absI (amt (some (tblI l1 s)) (some (tblI l2 f)) a)) (szOf (kvsOf (some (tblI l3 c))) a)) = (ts.map Prod.fst).map fun a => cdv (absI (f a - s a)) (c a) :=
    List.map_congr_left fun a ha => by
      have ha := G.mem ha
      show cdv (absI (szOf (tblI l2 f) a - szOf (tblI l1 s) a)) (szOf (tblI l3 c) a) = _
      rw [szOf_tb5 (p1.mem_iff.mpr ha), szOf_tb5 (p2.mem_iff.mpr ha), szOf_tb5 (p3.mem_iff.mpr ha)]
  rw [e] at h
  exact isMax_one (isMax_perm (G.pk.map _) h) G.mx
theorem G25.mxE (G : G25 t ts n s f c m) {l1 l2 l3 : List Str} (p1 : l1.Perm (t.map Prod.fst)) (p2 : l2.Perm (t.map Prod.fst)) : ∀ a ∈ ts.map Prod.fst, ∀ k : Int, evS (szOf (kvsOf (some (tblI l1 s)))) (amt (some (tblI l1 s)) (some (tblI l2 f))) m k a = evD s f m k a := fun a ha k => by
  have ha := G.mem ha
  show szOf (tblI l1 s) a + k * (szOf (tblI l2 f) a - szOf (tblI l1 s) a) / m = s a + k * (f a - s a) / m
  rw [szOf_tb5 (p1.mem_iff.mpr ha), szOf_tb5 (p2.mem_iff.mpr ha)]
theorem G25.pairs (G : G25 t ts n s f c m) {l1 l2 : List Str} (p1 : l1.Perm (t.map Prod.fst)) (p2 : l2.Perm (t.map Prod.fst)) {H : Hp} {rs : List Addr}
    (h : Paired (fun r (k : Nat) => DcL H (ts.map Prod.fst) r (evS (szOf (kvsOf (some (tblI l1 s)))) (amt (some (tblI l1 s)) (some (tblI l2 f))) m (k + 1))) rs (List.range m.toNat)) : Paired (DcL H (ts.map Prod.fst)) rs (gs25 s f m) := by
  refine pair_map5 (fun k : Nat => evD s f m ((k : Int) + 1)) (pair_imp5 (fun r k h => ?_) h)
  have h : H r = some (.dK (tblI (ts.map Prod.fst) _)) := h
  show H r = some (.dK (tblI (ts.map Prod.fst) _))
  rw [h, tblI_congr fun a ha => G.mxE (l3 := l1) p1 p2 a ha _]
theorem G25.smc (G : G25 t ts n s f c m) {l3 : List Str} (p3 : l3.Perm (t.map Prod.fst)) : ∀ a ∈ ts.map Prod.fst, Sml (szOf (kvsOf (some (tblI l3 c))) a) := fun a ha => by
  have ha := G.mem ha
  show Sml (szOf (tblI l3 c) a)
  rw [szOf_tb5 (p3.mem_iff.mpr ha)]
  have := G.cb a ha
  show (c a).natAbs < 2 ^ 200
  omega
theorem gs_at {j : Nat} {g : Str → Int} (h : (gs25 s f m)[j]? = some g) : g = evD s f m ((j : Int) + 1) ∧ j < m.toNat := by
  unfold gs25 at h
  rw [List.getElem?_map] at h
  obtain ⟨k, hk, rfl⟩ := Option.map_eq_some_iff.mp h
  have l := (List.getElem?_eq_some_iff.mp hk).1
  rw [List.length_range] at l
  rw [List.getElem?_range l] at hk
  cases hk
  exact ⟨rfl, l⟩
theorem gs_len : (gs25 s f m).length = m.toNat := by unfold gs25; rw [List.length_map, List.length_range]
theorem ev_zero : evD s f m 0 = s := funext fun a => by
  show s a + 0 * (f a - s a) / m = s a
  rw [Int.zero_mul, Int.zero_ediv, Int.add_zero]
theorem ev_end (m0 : m ≠ 0) : evD s f m m = f := funext fun a => by
  show s a + m * (f a - s a) / m = f a
  rw [Int.mul_ediv_cancel_left _ m0]
  omega
theorem gs_last {j : Nat} (h : j ≤ m.toNat) : lastR s ((gs25 s f m).take j) = evD s f m (j : Int) := by
  cases j with
  | zero =>
    show s = evD s f m 0
    rw [ev_zero]
  | succ j =>
    have e : (gs25 s f m)[j]? = some (evD s f m ((j : Int) + 1)) := by
      unfold gs25
      rw [List.getElem?_map, List.getElem?_range (by omega)] <;> rfl
    rw [last_more e] <;> rfl
theorem G25.chain (G : G25 t ts n s f c m) : chainR t n f (some c) none s (gs25 s f m) := by
  refine chain_of25 fun j g e => ?_
  obtain ⟨rfl, jm⟩ := gs_at e
  rw [gs_last (by omega)]
  exact even_ok (by omega) (by omega) (by omega) G.fs G.ff fun a ha => ⟨by have := (G.cb a ha).1; omega, G.mx.2 _ (List.mem_map.mpr ⟨a, ha, rfl⟩)⟩
theorem G25.last (G : G25 t ts n s f c m) : ∀ a ∈ t.map Prod.fst, lastR s (gs25 s f m) a = f a := fun a ha => by
  have e : gs25 s f m = (gs25 s f m).take m.toNat := (List.take_of_length_le (by rw [gs_len]; exact Nat.le_refl _)).symm
  have m0 := G.m0
  rw [e, gs_last (Nat.le_refl _), show ((m.toNat : Nat) : Int) = m by omega]
  by_cases z : m = 0
  · subst z
    rw [ev_zero]
    have h := G.mx.2 _ (List.mem_map.mpr ⟨a, ha, rfl⟩)
    have c1 := (G.cb a ha).1
    have q := cdv_mul (show 0 < c a by omega) h
    rw [Int.zero_mul] at q
    unfold absI at q
    split at q <;> omega
  · rw [ev_end z]
theorem G25.gfea (G : G25 t ts n s f c m) : ∀ g ∈ gs25 s f m, Fea t n g := fun g hg => by
  obtain ⟨j, hj⟩ := List.mem_iff_getElem?.mp hg
  exact (stepR_cap (chain_at G.chain hj)).1
theorem G25.box (G : G25 t ts n s f c m) {g : Str → Int} (h : Fea t n g) : ∀ a ∈ t.map Prod.fst, 0 ≤ g a ∧ g a ≤ 10 ^ 30 := fun a ha => by
  have := h.nn a ha
  have := fea_leW G.o h a ha
  have := G.n30
  omega
theorem G25.self (G : G25 t ts n s f c m) : G25 t ts n s s c 0 := by
  refine { G with ff := G.fs, mx := ?_ }
  have e : ((t.map Prod.fst).map fun a => cdv (absI (s a - s a)) (c a)) = (t.map Prod.fst).map fun _ => (0 : Int) := List.map_congr_left fun a ha => by
    rw [Int.sub_self]
    show cdv 0 (c a) = 0
    unfold cdv
    rw [Int.neg_zero, Int.zero_ediv] <;> rfl
  rw [e]
  have one := G.o.one
  refine ⟨List.mem_map.mpr ?_, fun y hy => ?_⟩
  · cases t with
    | nil => exact absurd one (by decide)
    | cons x t' => exact ⟨x.1, List.mem_cons_self .., rfl⟩
  · obtain ⟨a, _, rfl⟩ := List.mem_map.mp hy
    exact Int.le_refl _
end
end FT


/-! are_lists of valid lists; Rollout: __init__, load -/
namespace FT
open PySem L2 TL ClX LiI
def tlLst (wi1 : TI) (g1 : TG) (tt1 : TT) (te : TE) (vs1 : List Nat) : Addr → St → Hp → (Hp → Prop) → Prop := fun D σ H N => wi1 σ H fun J1 H4 => ∃ W1 : Nat → Nat → Hp → Prop, (∃ m, W1 0 m H4) ∧ ∀ j k H, W1 j k H →
  (J1.stop j H ∧ N H) ∨ (J1.go j H ∧ ∃ Nx1 : Hp → Prop, (∀ H', Nx1 H' → ∃ k', k' < k ∧ W1 (j + 1) k' H') ∧ ∀ x H', J1.yld j H x H' → g1 x (wipe σ vs1) H' fun σ3 H5 => wipe σ3 vs1 = wipe σ vs1 ∧ tt1 σ3 H5 fun b H6 =>
    if b = true then te σ3 H6 fun y H7 => ∃ acc, H7 D = some (.lst acc) ∧ acc.length < sizeLine ∧ Nx1 (upd H7 D (.lst (acc ++ [y]))) else Nx1 H6)
/-- the class Rollout -/
structure RoC (K : PySem.W.Frag) (mg : Str → Option Value) (CR : Addr) (mc : Value) : Prop where
  gR : mg "Rollout" = some (.ref CR)
  rd : CRead K CR mc
  cl : Cls K CR
  nG : NoAttr K CR "grown_from"
  nK : NoAttr K CR "kept_lists"
  nS : NoAttr K CR "past_sizes"
def rFs (x q z : Addr) : List (Str × V) := [("grown_from", .ref x), ("kept_lists", .ref q), ("past_sizes", .ref z)]
def L0 (n : Nat) (p : Str) : List Int := if p = "" then usr n else []
def spAreL (CF : Addr) : Sp := fun vs H Q _ => ∃ (x q : Addr) (ts : List (Str × Str)) (r : Str → Addr) (L : Str → List Int) (n : Nat), vs = [.ref x, .ref q] ∧ FAt CF H x ts ∧ TreeOk ts ∧ LsAt H q (pls ts) r L ∧ Val ts n L ∧ 1 ≤ n ∧ n ≤ 60 ∧ ∀ H', Same H H' → Q (.bl true) H'
def spRInit (CF CR : Addr) : Sp := fun vs H Q _ => ∃ (y x dy : Addr) (n : Nat) (ts : List (Str × Str)), vs = [.ref y, .ref x, .int (n : Int)] ∧ H y = some (.ins CR dy []) ∧ FAt CF H x ts ∧ TreeOk ts ∧ 1 ≤ n ∧ n ≤ 60 ∧
  ∀ (H' : Hp) (q z : Addr) (r : Str → Addr), H q = none → H z = none → (∀ p ∈ pls ts, H (r p) = none) → (∀ b u, b ≠ y → H b = some u → H' b = some u) → H' y = some (.ins CR dy (rFs x q z)) → LsAt H' q (pls ts) r (L0 n) → H' z = some (.lst []) → Q .non H'
end FT


/-! a dict turned about -/
namespace FT
open PySem L2 TL ClX LiI
section
variable {P : Program} {w : World} {K : PySem.W.Frag} {mg : Str → Option Value} {base : Heap}
theorem scFl : FnScope ["_law_some"] ["_law_some"] (defScope s__law_flipped) := ⟨rfl, rfl, rfl, by decide +kernel, rfl, by decide +kernel, by decide +kernel⟩
theorem ok_flipped {f : Addr} {fd : FuncData} (F : Fun K "_law_flipped" "_law_flipped" s__law_flipped f fd) (T : Nm mg) : FnOk P w K mg base CX0 1 f fd ["_law_some"] spFlip := by
  refine F.ok scFl (fun vs H Q E h => ?_) (fun cdv A outer s H vs Q E hr h => ?_)
  · obtain ⟨q, l, sz, rfl, _⟩ := h
    rfl
  · obtain ⟨q, l, sz, rfl, hq, nd, few, k⟩ := h
    have hu := hu_of hr
    have big : 1000 ≤ sizeLine := by decide
    refine ⟨_, pss_one (ps_ret (pe_callTy (call_dictP rfl) (by rfl) T.dct (by decide +kernel) (pa_cons (pe_revL (pe_listItems rfl (pv 0) (by rfl) T.lst (by decide +kernel))) pa_nil))), ?_⟩
    refine ⟨_, rfl, q, _, rfl, hq, fun H1 p1 ts s1 np1 nts pts hp1 prd => ⟨p1, _, rfl, SqL.of hp1, fun p2 np2 => ?_⟩⟩
    have s2 := same_new (o := .lst (ts.map V.ref).reverse) np2
    have s12 : Same H (upd H1 p2 (.lst (ts.map V.ref).reverse)) := Same.trans (fun b o e => s1 b o e) s2
    refine ⟨p2, ts.reverse, (tblI l sz).reverse, rfl, SqL.of (by rw [upd_same, List.map_reverse]), pair_imp (fun t kv e => .inl (.inl (s2 _ _ e))) (pair_rev prd), fun p3 np3 => ?_⟩
    rw [tblI_rev, tblV_int]
    unfold tblV
    rw [merge_nd (by rw [map_fst]; exact (List.reverse_perm l).nodup_iff.mpr nd)]
    exact k p3 _ (s12.trans (same_new np3)) (s12.free np3) upd_same
end
end FT


/-! _law_is_new -/
namespace FT
open PySem L2 TL ClX LiI
def spNew25 (CF : Addr) : Sp := fun vs H Q _ => ∃ (x w1 w2 cc p : Addr) (n m : Int) (t ts : List (Str × Str)) (s f c : Str → Int) (rs : List Addr), vs = [.ref x, .int n, .ref w1, .ref w2, .ref cc, .ref p] ∧ G25 t ts n s f c m ∧ m ≤ 200 ∧ FAt CF H x ts ∧ H w1 = some (.dK (tblI (t.map Prod.fst) s)) ∧ H w2 = some (.dK (tblI (t.map Prod.fst) f)) ∧ H cc = some (.dK (tblI (t.map Prod.fst) c)) ∧
  H p = some (.lst (rs.map V.ref)) ∧ Paired (DcL H (ts.map Prod.fst)) rs (gs25 s f m) ∧ w1 ∉ rs ∧ w2 ∉ rs ∧ cc ∉ rs ∧ ∀ H', KeepX rs H H' → Q (.bl true) H'
abbrev NNw : List Str := ["_law_wood", "_law_folk", "_law_wide", "_law_fresh", "_law_caps_here", "_law_told", "_law_copy", "_law_there", "_law_flipped_here", "_law_some"]
section
variable {P : Program} {w : World} {K : PySem.W.Frag} {mg : Str → Option Value} {base : Heap}
theorem scNw : FnScope NNw ["_law_wood", "_law_folk", "_law_wide", "_law_fresh", "_law_caps_here", "_law_told"] (defScope s__law_is_new) := ⟨rfl, rfl, rfl, by decide +kernel, rfl, by decide +kernel, by decide +kernel⟩
theorem ok_new25 {f0 fP fF CF CU CS CL CT : Addr} {fd fdP fdF : FuncData} (F : Fun K "_law_is_new" "_law_is_new" s__law_is_new f0 fd) (N : Nm mg) (PL : Dn P w K mg base (L2.CX P w) 9 "plan" ["forest", "users", "sizes", "new", "limits"] (spPlan K CF CU CS CL CT) fP fdP)
    (FL : Dn P w K mg base CX0 1 "_law_flipped" ["_law_some"] spFlip fF fdF) : FnG P w K mg base CX0 10 f0 fd ["_law_wood", "_law_folk", "_law_wide", "_law_fresh", "_law_caps_here", "_law_told"] (spNew25 CF) := by
  refine F.okG scNw (fun vs H Q E h => ?_) (fun cdv A outer s0 H vs Q E clr hr h => ?_)
  · obtain ⟨x, w1, w2, cc, p, n, m, t, ts, s, f, c, rs, rfl, _⟩ := h
    rfl
  · obtain ⟨x, w1, w2, cc, p, n, m, t, ts, s, f, c, rs, rfl, G, m200, ⟨dx, dq, hx, hdq⟩, hw1, hw2, hcc, hp, pr, n1, n2, n3, k⟩ := h
    have hu := hu_of hr
    have nd := scNw.nd
    have hr1 : Room 1 _ := hr.mono (by decide)
    have big : 1000 ≤ sizeLine := by decide
    have few := G.o.few
    have fewt := G.ot.few
    refine ⟨_, pss_cons (ps_set (i := 6) nd rfl (.inl rfl) (pe_callB (call_reprR clr.deeper hr.units) (by rfl) N.rep (by decide +kernel) (pa_cons (pv 5) pa_nil)))
      (pss_cons (ps_for PassesOwn.never rfl (pi_list (pv 5)) (pg_name (i := 7) nd rfl (.inl rfl)) (pss_one (ps_expr (pe_dclear (pv 7)))))
      (pss_cons (ps_if (pt_cmpR op_ne (pe_callB (call_reprR clr.deeper hr.units) (by rfl) N.rep (by decide +kernel) (pa_cons (pe_call (E := E0) PL.ok hr rfl PL.mgn PL.kp PL.bn .nil L2.passL (pa_cons (pv 0) (pa_cons (pv 1) (pa_cons (pv 2) (pa_cons (pv 3) (pa_cons (pv 4) pa_nil)))))) pa_nil)) (pv 6) (nomark _)) (pss_one (ps_ret pe_bl)) pss_nil)
      (pss_cons (ps_setLc (i := 8) (own := [("_law_some", 9)]) (g := gName 9) (tt := tYes) (te := tCall spFlip [] E0 (tCons (tVar 9) tNil)) rfl nd rfl rfl (sw_true rfl rfl rfl (by decide +kernel)) (pi_tup (pe_tup (pa_cons (pv 2) (pa_cons (pv 3) (pa_cons (pv 4) pa_nil))))) (blkOk_by (N := NNw) (sc := defScope s__law_is_new) (by decide +kernel))
          (fun _ _ _ _ _ => pg_name (i := 9) nd rfl (Or.inl rfl)) (fun _ _ _ _ _ => pts_nil) (fun _ _ _ _ _ => pe_call FL.ok hr1 rfl FL.mgn FL.kp FL.bn .nil pass0 (pa_cons (pv 9) pa_nil)))
      (pss_one (ps_ret (pe_cmpR op_eq (pe_callB (call_reprR clr.deeper hr.units) (by rfl) N.rep (by decide +kernel) (pa_cons (pe_call (E := E0) PL.ok hr rfl PL.mgn PL.kp PL.bn .nil L2.passL (pa_cons (pv 0) (pa_cons (pv 1) (pa_cons (pe_ix ix_list (pv 8) pe_int (fun _ _ => rfl)) (pa_cons (pe_ix ix_list (pv 8) pe_int (fun _ _ => rfl)) (pa_cons (pe_ix ix_list (pv 8) pe_int (fun _ _ => rfl)) pa_nil)))))) pa_nil)) (pv 6) (nomark _))))))), ?_⟩
    have boxes : ∀ g ∈ gs25 s f m, ∀ a ∈ ts.map Prod.fst, 0 ≤ g a ∧ g a ≤ 10 ^ 30 := fun g hg a ha => G.box (G.gfea g hg) a (G.mem ha)
    have lgs : (gs25 s f m).length ≤ 200 := by rw [gs_len]; omega
    have lt : (ts.map Prod.fst).length ≤ 12 := by rw [List.length_map]; omega
    obtain ⟨r1, r2, r3, r4⟩ := lst_reprL (K := K) (l := ts.map Prod.fst) (fun a ha => G.ot.nm a ha) lt lgs boxes hp pr
    refine ⟨_, rfl, .ref p, _, rfl, r1, r2, r3, r4, ?_⟩
    -- the dicts are cleared
    have prs_ : p ∉ rs := fun z => by
      obtain ⟨j, hj⟩ := List.mem_iff_getElem?.mp z
      obtain ⟨g, _, e⟩ := LiI.paired_get pr hj
      have e : H p = some (.dK (tblI (ts.map Prod.fst) g)) := e
      rw [hp] at e
      cases e
    have xrs : x ∉ rs := fun z => by
      obtain ⟨j, hj⟩ := List.mem_iff_getElem?.mp z
      obtain ⟨g, _, e⟩ := LiI.paired_get pr hj
      have e : H x = some (.dK (tblI (ts.map Prod.fst) g)) := e
      rw [hx] at e
      cases e
    have dqrs : dq ∉ rs := fun z => by
      obtain ⟨j, hj⟩ := List.mem_iff_getElem?.mp z
      obtain ⟨g, _, e⟩ := LiI.paired_get pr hj
      exact tbl_prs G.ot (show H dq = some (.dK (tblI (ts.map Prod.fst) g)) from e) hdq rfl
    refine ⟨_, rfl, p, rfl, ⟨_, SqL.of hp⟩, ?_⟩
    refine for_it walk_list (fun j σ' H' => (∃ u7, σ' = [some (.ref x), some (.int n), some (.ref w1), some (.ref w2), some (.ref cc), some (.ref p), some (.str (PyData.list (szD (ts.map Prod.fst) (gs25 s f m))).shown), u7, none, none]) ∧ KeepX rs H H' ∧ ∀ r' ∈ rs, ∃ kvs, H' r' = some (.dK kvs))
      ⟨⟨_, rfl⟩, fun _ _ _ e => e, fun r' z => by
        obtain ⟨j, hj⟩ := List.mem_iff_getElem?.mp z
        obtain ⟨g, _, e⟩ := LiI.paired_get pr hj
        exact ⟨_, e⟩⟩ (fun j σ' H' _ z => SqL.of (z.2.1 _ _ prs_ hp)) ?_ ?_
    · intro j y σ' Ha Hb hj ⟨⟨v7, e⟩, kx, al⟩ ⟨eb, ey⟩
      subst e
      subst eb
      obtain ⟨r', hr', rfl⟩ := map_of (f := V.ref) (l := rs) ey
      have mr := List.mem_of_getElem? hr'
      obtain ⟨kvs, hk⟩ := al r' mr
      refine ⟨_, rfl, .inr (.inr (.inl ⟨rfl, .inl ⟨_, hk⟩⟩)), r', kvs, rfl, rfl, hk, ?_⟩
      refine ⟨⟨_, rfl⟩, fun c u nc e => ?_, fun r2 m2 => ?_⟩
      · rw [upd_ne (fun z : c = r' => nc (by rw [z]; exact mr))]
        exact kx c u nc e
      · by_cases z : r2 = r'
        · rw [z]
          exact ⟨_, upd_same⟩
        · obtain ⟨kv2, hk2⟩ := al r2 m2
          exact ⟨kv2, by rw [upd_ne z]; exact hk2⟩
    intro σ' H2 ⟨⟨v7, e⟩, kx, _⟩
    subst e
    have fa2 : FAt CF H2 x ts := ⟨dx, dq, kx _ _ xrs hx, kx _ _ dqrs hdq⟩
    have w12 := kx _ _ n1 hw1
    have w22 := kx _ _ n2 hw2
    have cc2 := kx _ _ n3 hcc
    have pR := List.Perm.refl (t.map Prod.fst)
    have pV := List.reverse_perm (t.map Prod.fst)
    -- the plan once more
    refine ⟨_, rfl, _, rfl, _, rfl, _, rfl, _, rfl, x, .int n, .ref w1, .ref w2, .ref cc, ts, some (tblI (t.map Prod.fst) s), some (tblI (t.map Prod.fst) f), some (tblI (t.map Prod.fst) c), rfl, fa2, G.ot, ⟨_, .int _⟩, szm_tbl w12, szm_tbl w22, szm_tbl cc2, G.smc pR, ?_⟩
    rw [G.am pR pR, G.li pR]
    intro m' hm' m0'
    cases G.max pR pR pR hm'
    rw [if_neg (by omega)]
    intro p2 rs2 H3 s23 np2 hp2 pr2 nr2
    obtain ⟨q1, q2, q3, q4⟩ := lst_reprL (K := K) (l := ts.map Prod.fst) (fun a ha => G.ot.nm a ha) lt lgs boxes hp2 (G.pairs pR pR pr2)
    refine ⟨.ref p2, _, rfl, q1, q2, q3, q4, _, rfl, rfl, _, rfl, ?_⟩
    rw [decide_eq_true rfl]
    refine iteF ?_
    -- turned about
    refine ⟨_, rfl, _, rfl, _, rfl, by show 3 ≤ sizeLine; omega, fun tp ntp => ⟨tp, rfl, ⟨_, SqT.of upd_same⟩, fun D nD => ?_⟩⟩
    have s34 := same_new (o := .tup [.ref w1, .ref w2, .ref cc]) ntp
    obtain ⟨H4, e4⟩ : ∃ X, X = upd H3 tp (.tup [.ref w1, .ref w2, .ref cc]) := ⟨_, rfl⟩
    have htp : H4 tp = some (.tup [.ref w1, .ref w2, .ref cc]) := by rw [e4, upd_same]
    rw [← e4] at s34 nD ⊢
    clear e4
    have s24 := s23.trans s34
    obtain ⟨us, eus⟩ : ∃ us : List (Addr × (Str → Int)), us = [(w1, s), (w2, f), (cc, c)] := ⟨_, rfl⟩
    have hus : ∀ u ∈ us, H4 u.1 = some (.dK (tblI (t.map Prod.fst) u.2)) := fun u hu' => by
      rw [eus] at hu'
      simp only [List.mem_cons, List.not_mem_nil, or_false] at hu'
      rcases hu' with rfl | rfl | rfl
      · exact s24 _ _ w12
      · exact s24 _ _ w22
      · exact s24 _ _ cc2
    have htp' : H4 tp = some (.tup (us.map fun u => V.ref u.1)) := by rw [eus]; exact htp
    refine lc_it (walk_tup (xs := us.map fun u => V.ref u.1)) (fun j H' => Same H4 H' ∧ ∃ ds : List Addr, H' D = some (.lst (ds.map V.ref)) ∧ Paired (fun r (u : Addr × (Str → Int)) => H' r = some (.dK (tblI (t.map Prod.fst).reverse u.2))) ds (us.take j)) ⟨same_new nD, [], upd_same, .nil⟩ (fun _ H' _ z => SqT.of (z.1 _ _ htp')) ?_ ?_
    · intro j y Ha Hb hj ⟨sy, ds, hD, pds⟩ ⟨eb, ex⟩
      subst eb
      obtain ⟨u, hu', rfl⟩ := map_of (f := fun u : Addr × (Str → Int) => V.ref u.1) (l := us) ex
      refine ⟨rfl, ?_⟩
      refine ⟨_, rfl, u.1, t.map Prod.fst, u.2, rfl, sy _ _ (hus u (List.mem_of_getElem? hu')), G.o.nd, by rw [List.length_map]; omega, fun a1 H5 s5 na1 ha1 => ?_⟩
      have sy5 := sy.trans s5
      have lds := pds.length
      rw [List.length_take] at lds
      have lus : us.length = 3 := by rw [eus] <;> rfl
      refine ⟨_, s5 _ _ hD, by rw [List.length_map]; omega, sy5.put nD, ds ++ [a1], by rw [upd_same, List.map_append] <;> rfl, ?_⟩
      rw [take_more hu']
      refine Paired.snoc (pair_imp5 (fun r u hr => ?_) pds) ?_
      · rw [upd_ne (ne_of (s5 _ _ hr) (s5 _ _ hD) (by intro z; cases z))]
        exact s5 _ _ hr
      · rw [upd_ne (ne_of ha1 (s5 _ _ hD) (by intro z; cases z))]
        exact ha1
    intro H5 ⟨s45, ds, hD, pds⟩
    rw [List.length_map, List.take_length, eus] at pds
    cases pds with
    | cons h1 pds =>
      rename_i a1 ds
      cases pds with
      | cons h2 pds =>
        rename_i a2 ds
        cases pds with
        | cons h3 pds =>
          rename_i a3 ds
          cases pds
          have s25 := s24.trans s45
          refine ⟨_, rfl, _, rfl, _, rfl, D, _, 0, .ref a1, rfl, rfl, SqL.of hD, atI_nat (j := 0) rfl, _, rfl, D, _, 1, .ref a2, rfl, rfl, SqL.of hD, atI_nat (j := 1) rfl, _, rfl, D, _, 2, .ref a3, rfl, rfl, SqL.of hD, atI_nat (j := 2) rfl,
            x, .int n, .ref a1, .ref a2, .ref a3, ts, some (tblI (t.map Prod.fst).reverse s), some (tblI (t.map Prod.fst).reverse f), some (tblI (t.map Prod.fst).reverse c), rfl, fa2.mono s25, G.ot, ⟨_, .int _⟩, szm_tbl h1, szm_tbl h2, szm_tbl h3, G.smc pV, ?_⟩
          rw [G.am pV pV, G.li pV]
          intro m' hm' m0'
          cases G.max pV pV pV hm'
          rw [if_neg (by omega)]
          intro p3 rs3 H6 s56 np3 hp3 pr3 nr3
          obtain ⟨y1, y2, y3, y4⟩ := lst_reprL (K := K) (l := ts.map Prod.fst) (fun a ha => G.ot.nm a ha) lt lgs boxes hp3 (G.pairs pV pV pr3)
          refine ⟨.ref p3, _, rfl, y1, y2, y3, y4, _, rfl, rfl, ?_⟩
          rw [decide_eq_true rfl]
          exact k _ (kx.trans (.of_same (s25.trans s56)))
end
end FT


/-! _law_caps -/
namespace FT
open PySem L2 TL ClX LiI
def spCapsB : Sp := fun vs H Q _ => ∃ (d l i q : Addr) (b mo : Int) (t : List (Str × Str)), vs = [.ref d, .ref q, .int mo] ∧ DrawB H d l i b ∧ b + 100 ≤ 10 ^ 12 ∧ 1 ≤ mo ∧ mo.natAbs < 2 ^ 190 ∧ H q = some (.dK (prs t)) ∧ TreeOk t ∧
  ∀ (p : Addr) (c : Str → Int) (H' : Hp), (∀ a ∈ t.map Prod.fst, 1 ≤ c a ∧ c a ≤ mo + 3) → H p = none → H' p = some (.dK (tblI (t.map Prod.fst) c)) → DrawB H' d l i (b + 100) → KeepX [d, l] H H' → Q (.ref p) H'
section
variable {P : Program} {w : World} {K : PySem.W.Frag} {mg : Str → Option Value} {base : Heap}
abbrev NCp : List Str := ["_law_draw", "_law_parents", "_law_most", "_law_caps_here", "_law_name"]
theorem scCp : FnScope NCp ["_law_draw", "_law_parents", "_law_most"] (defScope s__law_caps) := ⟨rfl, rfl, rfl, by decide +kernel, rfl, by decide +kernel, by decide +kernel⟩
theorem ok_capsB {f fT fP : Addr} {fd fdT fdP : FuncData} (F : Fun K "_law_caps" "_law_caps" s__law_caps f fd) (T : Nm mg) (DT : Dn P w K mg base CX0 2 "_law_take" ["_law_draw", "_law_size"] spTakeB fT fdT) (DP : Dn P w K mg base CX0 3 "_law_pick" ["_law_draw", "_law_some"] spPickB fP fdP) : FnOk P w K mg base CX0 4 f fd ["_law_draw", "_law_parents", "_law_most"] spCapsB := by
  refine F.ok scCp (fun vs H Q E h => ?_) (fun cdv A outer s H vs Q E hr h => ?_)
  · obtain ⟨d, l, i, q, b, mo, t, rfl, _⟩ := h
    rfl
  · obtain ⟨d, l, i, q, b, mo, t, rfl, hD, bb, mo1, mos, hq, o, k⟩ := h
    have hu := hu_of hr
    have hr2 : Room 2 _ := hr.mono (by decide)
    have nd := scCp.nd
    have big : 1000 ≤ sizeLine := by decide
    have few := o.few
    refine ⟨_, pss_cons (ps_set (i := 3) nd rfl (.inl rfl) pe_dnewK)
      (pss_cons (ps_lock (ps_for PassesOwn.never rfl (pi_keys (pv 1)) (pg_name (i := 4) nd rfl (.inl rfl))
        (pss_one (ps_dput hu (pv 3) (pv 4) (pe_call DP.ok hr rfl DP.mgn DP.kp DP.bn .nil pass0 (pa_cons (pv 0) (pa_cons (pe_lst (pa_cons pe_int (pa_cons (pe_op op_add pe_int (pe_call DT.ok hr2 rfl DT.mgn DT.kp DT.bn .nil pass0 (pa_cons (pv 0) (pa_cons pe_int pa_nil))))
          (pa_cons (pe_op op_add pe_int (pe_call DT.ok hr2 rfl DT.mgn DT.kp DT.bn .nil pass0 (pa_cons (pv 0) (pa_cons (pv 2) pa_nil)))) pa_nil)))) pa_nil))) rfl))))
      (pss_one (ps_ret (pv 3)))), ?_⟩
    refine fun qf nqf => ?_
    have s3 := same_new (o := .dK []) nqf
    obtain ⟨H3, e3⟩ : ∃ X, X = upd H qf (.dK []) := ⟨_, rfl⟩
    rw [← e3] at s3 ⊢
    have hf3 : H3 qf = some (.dK (tblI [] fun _ => 0)) := by rw [e3, upd_same] <;> rfl
    clear e3
    have dr3 := hD.mono s3
    have qfd := hD.apart nqf
    have qqf : q ≠ qf := ne_of_none hq nqf
    have qd := hD.off_prs hq
    have hq3 := s3 _ _ hq
    refine ⟨q, _, hq3, trivial, fun od => ⟨_, rfl, q, od, rfl, .inl ⟨_, upd_same, ?_⟩⟩⟩
    obtain ⟨H4, e4⟩ : ∃ X, X = upd H3 q (.frz od (.dK (prs t))) := ⟨_, rfl⟩
    have hq4 : H4 q = some (.frz od (.dK (prs t))) := by rw [e4, upd_same]
    have hf4 : H4 qf = some (.dK (tblI [] fun _ => 0)) := by rw [e4, upd_ne qqf.symm]; exact hf3
    have dr4 : DrawB H4 d l i b := by rw [e4]; exact dr3.off qd.1 qd.2.1 qd.2.2
    have k4 : ∀ x u, x ≠ q → x ∉ [d, l] → H x = some u → H4 x = some u := fun x u nq _ e => by rw [e4, upd_ne nq]; exact s3 _ _ e
    rw [← e4]
    refine for_it walk_keys (fun j σ' H' => (∃ u4, σ' = [some (.ref d), some (.ref q), some (.int mo), some (.ref qf), u4]) ∧ DrawB H' d l i (b + 3 * (j : Int)) ∧ H' q = some (.frz od (.dK (prs t))) ∧ (∀ x u, x ≠ q → x ∉ [d, l] → H x = some u → H' x = some u) ∧
      ∃ c : Str → Int, (∀ a ∈ (t.map Prod.fst).take j, 1 ≤ c a ∧ c a ≤ mo + 3) ∧ H' qf = some (.dK (tblI ((t.map Prod.fst).take j) c)))
      ⟨⟨_, rfl⟩, dr4.more (by omega), hq4, k4, (fun _ => 0), (fun a ha => by cases ha), hf4⟩ (fun j σ' H' _ z => z.2.2.1) ?_ ?_
    · intro j y σ' Hz Hb hj ⟨⟨u4, e⟩, da, aqa, ka, c, cb, hfa⟩ ⟨eb, kk, vv, hk, ey⟩
      subst e
      subst eb
      subst ey
      obtain ⟨⟨a, pa⟩, hp, ee⟩ : ∃ x : Str × Str, t[j]? = some x ∧ (kk, vv) = (Sum.inr x.1, V.str x.2) := by
        unfold prs kvT at hk
        rw [List.map_map, List.getElem?_map] at hk
        obtain ⟨x, hx, z⟩ := Option.map_eq_some_iff.mp hk
        exact ⟨x, hx, z.symm⟩
      cases ee
      rw [show kV (Sum.inr a) = V.str a from rfl]
      have hja : (t.map Prod.fst)[j]? = some a := by rw [List.getElem?_map, hp] <;> rfl
      have jl := (List.getElem?_eq_some_iff.mp hp).1
      have fresh : a ∉ (t.map Prod.fst).take j := nat_fresh o.nd hja
      have lkeep : ((t.map Prod.fst).take j).length = j := by rw [List.length_take, List.length_map]; omega
      refine ⟨_, rfl, _, rfl, d, l, i, _, 3, rfl, da, by omega, by omega, by decide, fun k1 H7 k10 k11 d7 kp7 => ?_⟩
      have hf7 := kx_at kp7 hfa qfd.1 qfd.2.1
      have hq7 := kx_at kp7 aqa qd.1 qd.2.1
      refine ⟨_, _, rfl, rfl, _, rfl, _, rfl, d, l, i, _, mo, rfl, d7, by omega, by omega, by omega, fun k2 H8 k20 k21 d8 kp8 => ?_⟩
      have hf8 := kx_at kp8 hf7 qfd.1 qfd.2.1
      have hq8 := kx_at kp8 hq7 qd.1 qd.2.1
      refine ⟨_, _, rfl, rfl, by show 3 ≤ sizeLine; omega, fun pl npl => ?_⟩
      have pld := d8.apart npl
      have s8 := same_new (o := .lst (([1, 1 + k1, 1 + k2] : List Int).map V.int)) npl
      refine ⟨d, l, i, pl, _, ([1, 1 + k1, 1 + k2] : List Int).map V.int, rfl, d8.mono s8, by omega, upd_same, pld.2.1, (fun z => by cases z), by show 3 ≤ 1000; decide, fun x H9 xm d9 k9 => ?_⟩
      obtain ⟨z, hz, rfl⟩ := List.mem_map.mp xm
      have zb : 1 ≤ z ∧ z ≤ mo + 3 := by
        simp only [List.mem_cons, List.not_mem_nil, or_false] at hz
        rcases hz with rfl | rfl | rfl <;> omega
      have hf9 := kx_at k9 (s8 _ _ hf8) qfd.1 qfd.2.1
      have hq9 := kx_at k9 (s8 _ _ hq8) qd.1 qd.2.1
      have ka9 : ∀ x u, x ≠ q → x ∉ [d, l] → H x = some u → H9 x = some u := fun x u nq nx e => k9 _ _ nx (s8 _ _ (kp8 _ _ nx (kp7 _ _ nx (ka x u nq nx e))))
      refine ⟨_, rfl, _, rfl, qf, _, rfl, DPut.k (k := Sum.inr a) hf9 (by rw [tblI_len, lkeep]; omega), ?_⟩
      rw [tblI_congr (g' := fun x => if x = a then z else c x) (fun b hb => (if_neg fun e => fresh (by rw [← e]; exact hb)).symm), tblI_snoc (g := fun x => if x = a then z else c x) fresh (if_pos rfl).symm, ← take_more hja]
      refine ⟨⟨_, rfl⟩, (d9.off qfd.1 qfd.2.1 qfd.2.2).more (by omega), by rw [upd_ne qqf]; exact hq9, fun x u nq nx e => ?_, (fun x => if x = a then z else c x), fun b hb => ?_, upd_same⟩
      · rw [upd_ne (ne_of_none e nqf)]
        exact ka9 x u nq nx e
      · rw [take_more hja] at hb
        show 1 ≤ (if b = a then z else c b) ∧ (if b = a then z else c b) ≤ mo + 3
        by_cases w : b = a
        · rw [if_pos w]
          exact zb
        · rw [if_neg w]
          exact cb b ((List.mem_append.mp hb).resolve_right fun h => w (List.mem_singleton.mp h))
    · intro σ' H5 ⟨⟨u4, e⟩, da, aqa, ka, c, cb, hfa⟩
      subst e
      rw [prs_len] at da
      rw [show (prs t).length = (t.map Prod.fst).length by rw [prs_len, List.length_map], List.take_length] at cb hfa
      refine ⟨aqa, _, rfl, k qf c _ cb nqf (by rw [upd_ne qqf.symm]; exact hfa) ((da.off qd.1 qd.2.1 qd.2.2).more (by omega)) fun x u nx e => ?_⟩
      by_cases z : x = q
      · rw [z, hq] at e
        rw [z, upd_same]
        exact e
      · rw [upd_ne z]
        exact ka x u z nx e
end
end FT


/-! _law_caps_of -/
namespace FT
open PySem L2 TL ClX LiI
def spCapsOf : Sp := fun vs H Q _ => ∃ (d l i q w1 w2 : Addr) (b : Int) (sm : Bool) (t : List (Str × Str)) (s f : Str → Int), vs = [.ref d, .ref q, .ref w1, .ref w2, .bl sm] ∧ DrawB H d l i b ∧ b + 200 ≤ 10 ^ 12 ∧ H q = some (.dK (prs t)) ∧ TreeOk t ∧ DcL H (t.map Prod.fst) w1 s ∧ DcL H (t.map Prod.fst) w2 f ∧ (w1 ≠ d ∧ w1 ≠ l) ∧ (w2 ≠ d ∧ w2 ≠ l) ∧ w1 ≠ q ∧ w2 ≠ q ∧
  (∀ a ∈ t.map Prod.fst, (0 ≤ s a ∧ s a ≤ 10 ^ 30) ∧ 0 ≤ f a ∧ f a ≤ 10 ^ 30) ∧
  ∀ (p : Addr) (c : Str → Int) (H' : Hp), (∀ a ∈ t.map Prod.fst, 1 ≤ c a ∧ c a ≤ 10 ^ 30) → (sm = true → ∀ a ∈ t.map Prod.fst, c a ≤ 6) → p ≠ d ∧ p ≠ l → DcL H' (t.map Prod.fst) p c → DrawB H' d l i (b + 200) → KeepX [d, l] H H' → Q (.ref p) H'
abbrev NCo : List Str := ["_law_draw", "_law_parents", "_law_wide", "_law_fresh", "_law_small", "_law_caps_here", "_law_most", "_law_name"]
theorem pss_impC {X : Cx} {ss : List Stmt} {t t' : TS} (h : PSs X ss t) (m : ∀ D σ H, t' D σ H → t D σ H) : PSs X ss t' := ⟨fun pins s σ H D I q => h.run pins s σ H D I (m _ _ _ q)⟩
/-- limits stand -/
def tCo : TS := fun D σ H => ∃ (d l i q w1 w2 p : Addr) (b : Int) (sm : Bool) (t : List (Str × Str)) (s f c : Str → Int), σ = [some (.ref d), some (.ref q), some (.ref w1), some (.ref w2), some (.bl sm), some (.ref p), none, none] ∧ DrawB H d l i b ∧ b + 50 ≤ 10 ^ 12 ∧ H q = some (.dK (prs t)) ∧ TreeOk t ∧ DcL H (t.map Prod.fst) w1 s ∧ DcL H (t.map Prod.fst) w2 f ∧ (w1 ≠ d ∧ w1 ≠ l) ∧ (w2 ≠ d ∧ w2 ≠ l) ∧ w1 ≠ q ∧ w2 ≠ q ∧
  (∀ a ∈ t.map Prod.fst, (0 ≤ s a ∧ s a ≤ 10 ^ 30) ∧ 0 ≤ f a ∧ f a ≤ 10 ^ 30) ∧ DcL H (t.map Prod.fst) p c ∧ (p ≠ d ∧ p ≠ l) ∧ (∀ a ∈ t.map Prod.fst, 1 ≤ c a ∧ c a ≤ 10 ^ 30) ∧ (sm = true → ∀ a ∈ t.map Prod.fst, c a ≤ 6) ∧
  ∀ (p : Addr) (c : Str → Int) (H' : Hp), (∀ a ∈ t.map Prod.fst, 1 ≤ c a ∧ c a ≤ 10 ^ 30) → (sm = true → ∀ a ∈ t.map Prod.fst, c a ≤ 6) → p ≠ d ∧ p ≠ l → DcL H' (t.map Prod.fst) p c → DrawB H' d l i (b + 50) → KeepX [d, l] H H' → D.rt (.ref p) H'
theorem pair_imp5C {α β : Type} {F G : α → β → Prop} (m : ∀ a b, F a b → G a b) : ∀ {xs : List α} {ys : List β}, Paired F xs ys → Paired G xs ys
  | _, _, .nil => .nil
  | _, _, .cons a t => .cons (m _ _ a) (pair_imp5C m t)
theorem pair_mapC {α β γ : Type} {F : α → γ → Prop} (g : β → γ) : ∀ {xs : List α} {ys : List β}, Paired (fun x y => F x (g y)) xs ys → Paired F xs (ys.map g)
  | _, _, .nil => .nil
  | _, _, .cons a t => .cons a (pair_mapC g t)
theorem fun_of_pairs : ∀ {avs : List (Str × Int)} {L : List Str}, L.Nodup → avs.map Prod.fst = L → ∃ c : Str → Int, avs = L.map fun a => (a, c a)
  | [], L, _, e => by
    subst e
    exact ⟨fun _ => 0, rfl⟩
  | (a, v) :: avs, L, nd, e => by
    subst e
    rw [List.map_cons, List.nodup_cons] at nd
    obtain ⟨c, hc⟩ := fun_of_pairs nd.2 rfl
    refine ⟨fun x => if x = a then v else c x, ?_⟩
    rw [List.map_cons, List.map_cons]
    congr 1
    · show (a, v) = (a, if a = a then v else c a)
      rw [if_pos rfl]
    · refine hc.trans (List.map_congr_left fun x hx => ?_)
      show (x, c x) = (x, if x = a then v else c x)
      rw [if_neg fun e => nd.1 (by rw [← show x = a from e]; exact hx)]
section
variable {P : Program} {w : World} {K : PySem.W.Frag} {mg : Str → Option Value} {base : Heap}
theorem scCo : FnScope NCo ["_law_draw", "_law_parents", "_law_wide", "_law_fresh", "_law_small"] (defScope s__law_caps_of) := ⟨rfl, rfl, rfl, by decide +kernel, rfl, by decide +kernel, by decide +kernel⟩
theorem ok_capsOf {f0 fT fP fC : Addr} {fd fdT fdP fdC : FuncData} (F : Fun K "_law_caps_of" "_law_caps_of" s__law_caps_of f0 fd) (T : Nm mg) (DT : Dn P w K mg base CX0 2 "_law_take" ["_law_draw", "_law_size"] spTakeB fT fdT) (DP : Dn P w K mg base CX0 3 "_law_pick" ["_law_draw", "_law_some"] spPickB fP fdP)
    (CP : Dn P w K mg base CX0 4 "_law_caps" ["_law_draw", "_law_parents", "_law_most"] spCapsB fC fdC) : FnOk P w K mg base CX0 5 f0 fd ["_law_draw", "_law_parents", "_law_wide", "_law_fresh", "_law_small"] spCapsOf := by
  refine F.ok scCo (fun vs H Q E h => ?_) (fun cdv A outer s H vs Q E hr h => ?_)
  · obtain ⟨d, l, i, q, w1, w2, b, sm, t, s, f, rfl, _⟩ := h
    rfl
  · obtain ⟨d, l, i, q, w1, w2, b, sm, t, s', f, rfl, hD, bb, hq, o, hw1, hw2, d1, d2, q1, q2, box, k⟩ := h
    have hu := hu_of hr
    have hr2 : Room 2 _ := hr.mono (by decide)
    have hr3 : Room 3 _ := hr.mono (by decide)
    have nd := scCo.nd
    have big : 1000 ≤ sizeLine := by decide
    have few := o.few
    refine ⟨_, pss_cons (ps_set (i := 5) nd rfl (.inl rfl) (pe_call CP.ok hr rfl CP.mgn CP.kp CP.bn .nil pass0 (pa_cons (pv 0) (pa_cons (pv 1) (pa_cons (pe_ifExp (pt_val (pv 4)) pe_int (pe_call DP.ok hr3 rfl DP.mgn DP.kp DP.bn .nil pass0 (pa_cons (pv 0) (pa_cons (pe_lst (pa_cons pe_int (pa_cons (pe_op op_pow pe_int pe_int) pa_nil))) pa_nil)))) pa_nil)))))
      (pss_impC (t' := tCo) (pss_cons (ps_if (PW.pt (pw_and (pt_not (pt_val (pv 4))) (pw_and1 (pt_cmpR op_eq (pe_call DT.ok hr2 rfl DT.mgn DT.kp DT.bn .nil pass0 (pa_cons (pv 0) (pa_cons pe_int pa_nil))) pe_int (nomark _)))))
          (pss_cons (ps_set (i := 6) nd rfl (.inr rfl) (pe_callB (cr_max rfl) (by rfl) T.max (by decide +kernel) (pa_cons (pe_lock (pe_lc (own := [("_law_name", 7)]) (g := gName 7) (tt := tYes) rfl nd (pi_keys (pv 1)) (blkOk_by (N := NCo) (sc := defScope s__law_caps_of) (by decide +kernel)) (fun _ _ _ _ _ => pg_name (i := 7) nd rfl (Or.inl rfl)) (fun _ _ _ _ _ => pts_nil)
              (fun _ _ _ _ _ => pe_callB call_abs (by rfl) T.abs (by decide +kernel) (pa_cons (pe_op op_sub (pe_dget hu (pv 3) (pv 7) (fun _ _ => rfl)) (pe_dget hu (pv 2) (pv 7) (fun _ _ => rfl))) pa_nil)))) pa_nil)))
          (pss_one (ps_set (i := 5) nd rfl (.inl rfl) (pe_callTy (call_dictP rfl) (by rfl) T.dct (by decide +kernel) (pa_cons (pe_lock (pe_lc (own := [("_law_name", 7)]) (g := gName 7) (tt := tYes) (te := tTup (tCons (tVar 7) (tCons (tCB (fun xs H Q => ∃ i j, xs = [.int i, .int j] ∧ Q (.int (if j > i then j else i)) H) (tCons (tC (.int 1)) (tCons (tOp (rI CDivW fun i j => .int (i / j)) (tVar 6) (tOp (rI0 fun i j => .int (i + j)) (tC (.int 198)) (tCall spTakeB [] E0 (tCons (tVar 0) (tCons (tC (.int 5)) tNil))))) tNil))) tNil))) rfl nd (pi_keys (pv 1)) (blkOk_by (N := NCo) (sc := defScope s__law_caps_of) (by decide +kernel)) (fun _ _ _ _ _ => pg_name (i := 7) nd rfl (Or.inl rfl)) (fun _ _ _ _ _ => pts_nil)
              (fun _ _ _ _ _ => pe_tup (pa_cons (pv 7) (pa_cons (pe_callB (call_max2 rfl) (by rfl) T.max (by decide +kernel) (pa_cons pe_int (pa_cons (pe_op op_fdivW (pv 6) (pe_op op_add pe_int (pe_call DT.ok hr2 rfl DT.mgn DT.kp DT.bn .nil pass0 (pa_cons (pv 0) (pa_cons pe_int pa_nil))))) pa_nil))) pa_nil))))) pa_nil))))) pss_nil)
        (pss_one (ps_ret (pv 5)))) ?_), ?_⟩
    · intro D0 σ H1 ⟨d, l, i, q, w1, w2, p, b, sm, t, s, f, c, eσ, dr, bb, hq, o, hw1, hw2, d1, d2, q1, q2, box, hp, pd, cb, csm, kk⟩
      subst eσ
      have few := o.few
      have qd := dr.off_prs hq
      cases sm with
      | true =>
        refine ⟨_, rfl, true, rfl, iteF (iteF ⟨_, rfl, kk p c H1 cb csm pd hp (dr.more (by omega)) (fun _ _ _ e => e)⟩)⟩
      | false =>
        refine ⟨_, rfl, false, rfl, iteT ⟨_, rfl, d, l, i, b, 3, rfl, dr, by omega, by omega, by decide, fun k1 H2 k10 k11 dr2 kp2 => ⟨rfl, _, rfl, ?_⟩⟩⟩
        have hp2 : DcL H2 (t.map Prod.fst) p c := kx_at kp2 hp pd.1 pd.2
        have hq2 := kx_at kp2 hq qd.1 qd.2.1
        have hw12 : DcL H2 (t.map Prod.fst) w1 s := kx_at kp2 hw1 d1.1 d1.2
        have hw22 : DcL H2 (t.map Prod.fst) w2 f := kx_at kp2 hw2 d2.1 d2.2
        by_cases z0 : V.int k1 = V.int 0
        case neg =>
          rw [decide_eq_false z0]
          exact iteF ⟨_, rfl, kk p c H2 cb csm pd hp2 (dr2.more (by omega)) kp2⟩
        rw [decide_eq_true z0]
        refine iteT ?_
        clear z0
        obtain ⟨L, eL⟩ : ∃ L, L = t.map Prod.fst := ⟨_, rfl⟩
        have ndL : L.Nodup := by rw [eL]; exact o.nd
        have neL : L ≠ [] := fun z => by
          have one := o.one
          rw [eL] at z
          rw [List.map_eq_nil_iff.mp z] at one
          cases one
        have lL : L.length = t.length := by rw [eL, List.length_map]
        rw [← eL] at hw12 hw22
        -- the greatest change
        refine ⟨q, _, hq2, trivial, fun od => ⟨_, rfl, q, od, rfl, .inl ⟨_, upd_same, fun D nD => ?_⟩⟩⟩
        obtain ⟨H3, e3⟩ : ∃ X, X = upd H2 q (.frz od (.dK (prs t))) := ⟨_, rfl⟩
        have hq3 : H3 q = some (.frz od (.dK (prs t))) := by rw [e3]; exact upd_same
        have h13 : H3 w1 = some (.dK (tblI L s)) := by rw [e3, upd_ne q1]; exact hw12
        have h23 : H3 w2 = some (.dK (tblI L f)) := by rw [e3, upd_ne q2]; exact hw22
        rw [← e3] at nD ⊢
        refine lc_it walk_keys (fun j H' => Same H3 H' ∧ H' D = some (.lst (((L.take j).map fun a => absI (f a - s a)).map V.int))) ⟨same_new nD, upd_same⟩ (fun j H' _ z => z.1 _ _ hq3) ?_ ?_
        · intro j y Ha Hb hj ⟨sy, hD⟩ ⟨eb, kk', vv, hk, ey⟩
          subst eb
          subst ey
          obtain ⟨⟨a, pa⟩, hpt, ee⟩ : ∃ x : Str × Str, t[j]? = some x ∧ (kk', vv) = (Sum.inr x.1, V.str x.2) := by
            unfold prs kvT at hk
            rw [List.map_map, List.getElem?_map] at hk
            obtain ⟨x, hx, z⟩ := Option.map_eq_some_iff.mp hk
            exact ⟨x, hx, z.symm⟩
          cases ee
          rw [show kV (Sum.inr a) = V.str a from rfl]
          have ha : L[j]? = some a := by rw [eL, List.getElem?_map, hpt] <;> rfl
          have ma := List.mem_of_getElem? ha
          have dg1 : DGet Hb w1 (.str a) (some (.int (s a))) := .inl ⟨_, Sum.inr a, .inl (sy _ _ h13), rfl, (tblI_val ma).symm⟩
          have dg2 : DGet Hb w2 (.str a) (some (.int (f a))) := .inl ⟨_, Sum.inr a, .inl (sy _ _ h23), rfl, (tblI_val ma).symm⟩
          refine ⟨rfl, ?_⟩
          refine ⟨_, rfl, _, rfl, w2, .int (f a), rfl, dg2, _, rfl, _, rfl, w1, .int (s a), rfl, dg1, _, _, rfl, rfl, _, rfl, ?_⟩
          refine ⟨_, hD, by rw [List.length_map, List.length_map, List.length_take]; omega, sy.put nD, ?_⟩
          rw [upd_same, take_more ha, List.map_append, List.map_append] <;> rfl
        intro H4 ⟨s34, hD⟩
        rw [prs_len, ← lL, List.take_length] at hD
        have Dq : D ≠ q := (ne_of_none hq3 nD).symm
        have s24 : Same H2 (upd H4 q (.dK (prs t))) := unlock_same hq2 (show Same (upd H2 q (.frz od (.dK (prs t)))) H4 by rw [← e3]; exact s34)
        refine ⟨s34 _ _ hq3, D, _, rfl, SqL.of (by rw [upd_ne Dq]; exact hD), by rw [List.length_map]; exact List.length_pos_iff.mpr neL, fun mst hm le => ?_⟩
        obtain ⟨H5, e5⟩ : ∃ X, X = upd H4 q (.dK (prs t)) := ⟨_, rfl⟩
        rw [← e5] at s24
        show (_ : St → Hp → Prop) _ (upd H4 q (.dK (prs t)))
        rw [← e5]
        clear e5 hD Dq s34 h13 h23 hq3 e3 nD
        have mb : 0 ≤ mst ∧ mst ≤ 10 ^ 30 := by
          obtain ⟨a, ha, e⟩ := List.mem_map.mp hm
          have := box a (by rw [← eL]; exact ha)
          rw [← e]
          unfold absI
          split <;> omega
        clear hm le
        -- the limits
        have hq5 := s24 _ _ hq2
        have dr5 := dr2.mono s24
        refine ⟨q, _, hq5, trivial, fun od2 => ⟨_, rfl, q, od2, rfl, .inl ⟨_, upd_same, fun D2 nD2 => ?_⟩⟩⟩
        obtain ⟨H6, e6⟩ : ∃ X, X = upd H5 q (.frz od2 (.dK (prs t))) := ⟨_, rfl⟩
        have hq6 : H6 q = some (.frz od2 (.dK (prs t))) := by rw [e6]; exact upd_same
        have dr6 : DrawB H6 d l i (b + 1) := by rw [e6]; exact dr5.off qd.1 qd.2.1 qd.2.2
        rw [← e6] at nD2 ⊢
        have D2d := dr6.apart nD2
        have D2q : D2 ≠ q := (ne_of_none hq6 nD2).symm
        have k6 : ∀ x u, x ≠ q → H5 x = some u → H6 x = some u := fun x u nq e => by rw [e6, upd_ne nq]; exact e
        have D25n : H5 D2 = none := by rw [← upd_ne (H := H5) (o := .frz od2 (.dK (prs t))) D2q, ← e6]; exact nD2
        refine lc_it walk_keys (fun j H' => DrawB H' d l i (b + 1 + (j : Int)) ∧ H' q = some (.frz od2 (.dK (prs t))) ∧ (∀ x u, x ≠ q → x ∉ [d, l] → H5 x = some u → H' x = some u) ∧ ∃ (tps : List Addr) (avs : List (Str × Int)), H' D2 = some (.lst (tps.map V.ref)) ∧ Paired (fun r (av : Str × Int) => H' r = some (.tup [.str av.1, .int av.2]) ∧ r ≠ d ∧ r ≠ l ∧ r ≠ q) tps avs ∧ avs.map Prod.fst = L.take j ∧ ∀ av ∈ avs, 1 ≤ av.2 ∧ av.2 ≤ 10 ^ 30)
          ⟨(dr6.off D2d.1 D2d.2.1 D2d.2.2).more (by omega), by rw [upd_ne D2q.symm]; exact hq6, fun x u nq nx e => by rw [upd_ne (ne_of_none e D25n)]; exact k6 x u nq e, [], [], upd_same, .nil, rfl, fun av h => by cases h⟩ (fun j H' _ z => z.2.1) ?_ ?_
        · intro j y Ha Hb hj ⟨da, aqa, ka, tps, avs, hD, pt, efs, bav⟩ ⟨eb, kk', vv, hk, ey⟩
          subst eb
          subst ey
          obtain ⟨⟨a, pa⟩, hpt, ee⟩ : ∃ x : Str × Str, t[j]? = some x ∧ (kk', vv) = (Sum.inr x.1, V.str x.2) := by
            unfold prs kvT at hk
            rw [List.map_map, List.getElem?_map] at hk
            obtain ⟨x, hx, z⟩ := Option.map_eq_some_iff.mp hk
            exact ⟨x, hx, z.symm⟩
          cases ee
          rw [show kV (Sum.inr a) = V.str a from rfl]
          have ha : L[j]? = some a := by rw [eL, List.getElem?_map, hpt] <;> rfl
          have jl := (List.getElem?_eq_some_iff.mp hpt).1
          have lav : avs.length = j := by
            have z := congrArg List.length efs
            rw [List.length_map, List.length_take] at z
            omega
          have ltp := pt.length
          refine ⟨rfl, ?_⟩
          refine ⟨_, rfl, _, rfl, _, rfl, d, l, i, _, 5, rfl, da, by omega, by decide, by decide, fun k5 H8 k50 k51 dr8 kp8 => ?_⟩
          have hD8 := kx_at kp8 hD D2d.1 D2d.2.1
          have hq8 := kx_at kp8 aqa qd.1 qd.2.1
          obtain ⟨v, ev⟩ : ∃ v : Int, v = if mst / (198 + k5) > 1 then mst / (198 + k5) else 1 := ⟨_, rfl⟩
          have vb : 1 ≤ v ∧ v ≤ 10 ^ 30 := by
            have z1 : mst / (198 + k5) ≤ mst := Int.ediv_le_self _ mb.1
            rw [ev]
            split <;> omega
          refine ⟨_, _, rfl, rfl, _, _, rfl, rfl, wide_div (b := 20) (by omega) (by omega) (by decide) (by decide), _, _, rfl, ?_⟩
          rw [← ev]
          refine ⟨by show 2 ≤ sizeLine; omega, fun tp ntp => ?_⟩
          have s89 := same_new (o := .tup [.str a, .int v]) ntp
          have tpd := dr8.apart ntp
          have tpq : tp ≠ q := (ne_of_none hq8 ntp).symm
          have D2tp : D2 ≠ tp := ne_of_none hD8 ntp
          refine ⟨_, s89 _ _ hD8, by rw [List.length_map]; omega, ((dr8.mono s89).off D2d.1 D2d.2.1 D2d.2.2).more (by omega), by rw [upd_ne D2q.symm]; exact s89 _ _ hq8, fun x u nq nx e => by rw [upd_ne (ne_of_none e D25n)]; exact s89 _ _ (kp8 _ _ nx (ka x u nq nx e)), tps ++ [tp], avs ++ [(a, v)], by rw [upd_same, List.map_append] <;> rfl, ?_, ?_, ?_⟩
          · have stay : ∀ (r : Addr) (av : Str × Int), (Hb r = some (.tup [.str av.1, .int av.2]) ∧ r ≠ d ∧ r ≠ l ∧ r ≠ q) → ((upd (upd H8 tp (.tup [.str a, .int v])) D2 (.lst (tps.map V.ref ++ [.ref tp]))) r = some (.tup [.str av.1, .int av.2]) ∧ r ≠ d ∧ r ≠ l ∧ r ≠ q) := fun r av h => by
              have z := kx_at kp8 h.1 h.2.1 h.2.2.1
              refine ⟨?_, h.2⟩
              rw [upd_ne (ne_of z hD8 (by intro z; cases z))]
              exact s89 _ _ z
            exact Paired.snoc (pair_imp5C stay pt) ⟨by rw [upd_ne D2tp.symm]; exact upd_same, tpd.1, tpd.2.1, tpq⟩
          · rw [take_more ha, List.map_append, efs] <;> rfl
          · intro av hav
            rcases List.mem_append.mp hav with h | h
            · exact bav av h
            · rw [List.mem_singleton.mp h]
              exact vb
        intro H9 ⟨da, aqa, ka, tps, avs, hD, pt, efs, bav⟩
        rw [prs_len, ← lL] at da
        rw [prs_len, ← lL, List.take_length] at efs
        obtain ⟨c2, hc2⟩ := fun_of_pairs ndL efs
        refine ⟨aqa, D2, tps, avs.map fun av => (Sum.inr av.1, V.int av.2), rfl, SqL.of (by rw [upd_ne D2q]; exact hD), pair_mapC (fun av : Str × Int => ((Sum.inr av.1 : Key), V.int av.2)) (pair_imp5C (fun r av hr => SqT.of (by rw [upd_ne hr.2.2.2]; exact hr.1)) pt), fun pN npN => ?_⟩
        have ekv : mergeK [] (avs.map fun av => ((Sum.inr av.1 : Key), V.int av.2)) = tblI L c2 := by
          have e : (avs.map fun av => ((Sum.inr av.1 : Key), V.int av.2)) = tblI L c2 := by
            rw [hc2, List.map_map]
            unfold tblI kvT
            rw [List.map_map] <;> rfl
          rw [e]
          exact merge_nd (by rw [tblI_fst]; exact ndL)
        rw [ekv]
        have drU : DrawB (upd H9 q (.dK (prs t))) d l i (b + 1 + (L.length : Int)) := da.off qd.1 qd.2.1 qd.2.2
        have pNd := drU.apart npN
        have b2 : ∀ a ∈ t.map Prod.fst, 1 ≤ c2 a ∧ c2 a ≤ 10 ^ 30 := fun a ha => bav (a, c2 a) (by rw [hc2]; exact List.mem_map.mpr ⟨a, by rw [eL]; exact ha, rfl⟩)
        refine ⟨_, rfl, kk pN c2 _ b2 (fun z => by cases z) ⟨pNd.1, pNd.2.1⟩ (by rw [← eL]; exact upd_same) ((drU.mono (same_new npN)).more (by omega)) fun x u nx e => ?_⟩
        have e2 := kp2 x u nx e
        have e5 := s24 _ _ e2
        by_cases z : x = q
        · subst z
          rw [hq5] at e5
          cases e5
          exact same_new npN _ _ upd_same
        · have e9 := ka x u z nx e5
          exact same_new npN _ _ (by rw [upd_ne z]; exact e9)
    · cases sm with
      | true =>
        refine ⟨_, rfl, _, rfl, _, rfl, true, rfl, iteT ?_⟩
        refine ⟨d, l, i, q, b, 3, t, rfl, hD, by omega, by omega, by decide, hq, o, fun p c H1 cb np hp dr1 k1 => ?_⟩
        refine ⟨d, l, i, q, w1, w2, p, b + 100, true, t, s', f, c, rfl, dr1, by omega, kx_at k1 hq (hD.off_prs hq).1 (hD.off_prs hq).2.1, o, kx_at k1 hw1 d1.1 d1.2, kx_at k1 hw2 d2.1 d2.2, d1, d2, q1, q2, box, hp, ⟨(hD.apart np).1, (hD.apart np).2.1⟩, fun a ha => by have := cb a ha; omega, fun _ a ha => by have := cb a ha; omega, fun p' c' H' h1 h2 h3 h4 h5 h6 => k p' c' H' h1 h2 h3 h4 (h5.more (by omega)) (k1.trans h6)⟩
      | false =>
        refine ⟨_, rfl, _, rfl, _, rfl, false, rfl, iteF ?_⟩
        refine ⟨_, rfl, _, _, rfl, rfl, ⟨by decide, by decide, by decide⟩, by show 2 ≤ sizeLine; omega, fun pl npl => ?_⟩
        have s1 := same_new (o := .lst [V.int 9, .int (10 ^ (29 : Int).toNat)]) npl
        have pld := hD.apart npl
        refine ⟨d, l, i, pl, _, _, rfl, hD.mono s1, by omega, upd_same, pld.2.1, List.cons_ne_nil _ _, (by show 2 ≤ 1000; omega), fun xv H2 xm dr2 k2 => ?_⟩
        obtain ⟨mo, rfl, m1, m2⟩ : ∃ mo : Int, xv = .int mo ∧ 1 ≤ mo ∧ mo ≤ 10 ^ 29 := by
          simp only [List.mem_cons, List.not_mem_nil, or_false] at xm
          rcases xm with rfl | rfl
          · exact ⟨_, rfl, by decide, by decide⟩
          · exact ⟨_, rfl, by decide, by decide⟩
        have k02 : KeepX [d, l] H H2 := (KeepX.of_same s1).trans k2
        have hq2 := kx_at k02 hq (hD.off_prs hq).1 (hD.off_prs hq).2.1
        refine ⟨d, l, i, q, b + 1, mo, t, rfl, dr2, by omega, m1, by omega, hq2, o, fun p c H3 cb np hp dr3 k3 => ?_⟩
        have k03 := k02.trans k3
        refine ⟨d, l, i, q, w1, w2, p, b + 101, false, t, s', f, c, rfl, dr3.more (by omega), by omega, kx_at k03 hq (hD.off_prs hq).1 (hD.off_prs hq).2.1, o, kx_at k03 hw1 d1.1 d1.2, kx_at k03 hw2 d2.1 d2.2, d1, d2, q1, q2, box, hp, ⟨(dr2.apart np).1, (dr2.apart np).2.1⟩, fun a ha => by have := cb a ha; omega, (fun z => nomatch z), fun p' c' H' h1 h2 h3 h4 h5 h6 => k p' c' H' h1 h2 h3 h4 (h5.more (by omega)) (k03.trans h6)⟩
end
end FT


/-! x in xs, x not in xs, where x and the items of the list xs are dicts of flat values -/
namespace L2
open PySem PySem.Spec PyProof.Rows PySem.MeetsSeq PySem.MeetsSeq2 PySem.MeetsSeq3 PySem.SeqRoads2 PySem.SeqAt
open PySem.AutoSeq1 (wpAny_loadPart')
namespace InDc
/-- y and x are asked for equality, in this program and world -/
def EqW (prog : Program) (w : World) (A : Around) (s : Shared) (y x : Value) (b : Bool) : Prop := ∀ (E : Value → Shared → Prop) (Q : Bool → Shared → Prop), Q b s → wpAny (model prog w) A (eqBool y x) Q E s
/-- two objects apart: what == tells of them -/
theorem EqW.apart {prog : Program} {w : World} {A : Around} {s : Shared} {p q : Addr} {k : Bool} (pq : p ≠ q) (rc : ∀ (E : Value → Shared → Prop) (Q : Value → Shared → Prop), Q (.bool k) s → wpAny (model prog w) A (richCompare .Eq (.ref p) (.ref q)) Q E s) : EqW prog w A s (.ref p) (.ref q) k := by
  intro E Q yes
  have no : ¬ (Value.ref p == Value.ref q) = true := fun z => pq (Value.ref.inj (eq_of_beq z))
  unfold eqBool
  exact wpAny_holding (by rw [if_neg no]; exact wpAny_bind (rc E _ (wpAny_truthy_bool yes)))
/-- what a walk from place i on wants and gives -/
def Rest (prog : Program) (w : World) (l : Addr) (o : Obj) (items : Array Value) (x : Value) (e : Value → Bool) (rest : List Value) : Around → (Result → Shared → Prop) → Shared → Prop := fun A R s => s.heap.get? l = some o ∧ (∀ y ∈ items, EqW prog w A.in1 s y x (e y)) ∧ R (.ok (.ret (.bool (rest.any e)))) s
theorem cut_at {items : Array Value} {i : Nat} {y : Value} {rest : List Value} (c : items.toList.drop i = y :: rest) : items[i]? = some y ∧ items.toList.drop (i + 1) = rest ∧ y ∈ items := by
  have h0 : items.toList[i]? = some y := by
    have z := congrArg (fun l => l[0]?) c
    rw [List.getElem?_drop] at z
    exact z
  refine ⟨by rw [← Array.getElem?_toList]; exact h0, ?_, Array.mem_toList_iff.mp (List.mem_of_getElem? h0)⟩
  rw [← List.drop_drop, c] <;> rfl
theorem walkW {prog : Program} {w : World} (l : Addr) (items : Array Value) (n : Nat) (x : Value) (e : Value → Bool) : ∀ (rest : List Value) (i : Nat), items.toList.drop i = rest →
    MeetsIn prog w (Builtin.«list.__contains__.loop» ⟨[.ref l, x, rawInt i], []⟩) (Rest prog w l { cls := .type "list", data := .seq items n } items x e rest)
  | [], i, c, A, R, ⟨hp, g, d, tk, os⟩, ⟨at_, _, fin⟩ => by
    have none_ : items[((i : Nat) : Int).toNat]? = none := by
      have z := List.drop_eq_nil_iff.mp c
      rw [Array.length_toList] at z
      exact Array.getElem?_eq_none (by omega)
    wp_walk using wpAny_loadPart' at_
    rw [none_]
    wp_walk
    exact fin
  | y :: rest, i, c, A, R, ⟨hp, g, d, tk, os⟩, ⟨at_, asks, fin⟩ => by
    obtain ⟨c1, c2, c3⟩ := cut_at c
    have some_ : items[((i : Nat) : Int).toNat]? = some y := c1
    have up : ((i : Int) + 1) = ((i + 1 : Nat) : Int) := by omega
    wp_walk using wpAny_loadPart' at_
    rw [some_]
    refine wpAny_bind (asks y c3 _ _ ?_)
    have fin : R (.ok (.ret (.bool (e y || rest.any e)))) ⟨hp, g, d, tk, os⟩ := fin
    by_cases yes : e y = true
    · rw [yes] at fin ⊢
      wp_walk
      exact fin
    · rw [Bool.eq_false_iff.mpr yes] at fin ⊢
      wp_walk
      rw [up]
      refine ⟨plainId_quiet plain_contains_loop _, codeAny_builtin entry_contains_loop ?_⟩
      rw [Around.under_plainId plain_contains_loop _]
      exact walkW l items n x e rest (i + 1) c2 A R _ ⟨at_, asks, fin⟩
theorem startW {prog : Program} {w : World} (l : Addr) (items : Array Value) (n : Nat) (x : Value) (e : Value → Bool) :
    MeetsIn prog w (Builtin.«list.__contains__» ⟨[.ref l, x], []⟩) (Rest prog w l { cls := .type "list", data := .seq items n } items x e items.toList)
  | A, R, ⟨hp, g, d, tk, os⟩, ⟨at_, asks, fin⟩ => by
    wp_walk using wpAny_loadPart' at_
    refine ⟨plainId_quiet plain_contains_loop _, codeAny_builtin entry_contains_loop ?_⟩
    rw [Around.under_plainId plain_contains_loop _]
    exact walkW l items n x e items.toList 0 rfl A R _ ⟨at_, asks, fin⟩
section
variable {prog : Program} {w : World} {A : Around} {E : Value → Shared → Prop} {s : Shared}
theorem contains_W {l : Addr} {items : Array Value} {n : Nat} {x : Value} {Q : Bool → Shared → Prop} (e : Value → Bool) (at_ : s.heap.get? l = some { cls := .type "list", data := .seq items n }) (asks : ∀ y ∈ items, EqW prog w A.in1 s y x (e y)) (h : Q (items.toList.any e) s) :
    wpAny (model prog w) A (contains (.ref l) x) Q E s := by
  have ty : s.TypeIs (.ref l) "list" := ⟨_, at_, rfl⟩
  have c := call_meetsIn (Q := fun v s' => ∃ b, v = .bool b ∧ Q b s') (E := E) F.slot_list_contains ty F.entry_list_contains (F.args_list_contains_2 _ _) (startW (prog := prog) (w := w) l items n x e) ⟨at_, asks, _, rfl, h⟩
  refine wpAny_contains_slot ty F.slot_list_contains (wpAny_mono c ?_ fun _ _ z => z)
  rintro _ _ ⟨b, rfl, q⟩
  exact wpAny_truthy_bool q
end
end InDc
/-- a dict of flat values, its keys once each -/
def DcF (H : Hp) (a : Addr) (ks : List (Key × V)) : Prop := H a = some (.dK ks) ∧ (∀ p ∈ ks, flatV p.2 = true) ∧ (ks.map (·.1)).Nodup
theorem eqDK_selfI {ks : List (Key × V)} (nd : (ks.map (·.1)).Nodup) (fl : ∀ p ∈ ks, flatV p.2 = true) (rf : ∀ p ∈ ks, eqV p.2 p.2 = true) : eqDK ks ks = true := by
  unfold eqDK
  rw [beq_self_eq_true, Bool.true_and, List.all_eq_true]
  intro p hp
  unfold rowEq
  rw [val_nodup nd p hp]
  exact rf p hp
section
variable {X : Cx}
def rInDc (f : Bool → Bool) : R2 := fun x y H Q => ∃ a b ks as kss, x = .ref a ∧ y = .ref b ∧ DcF H a ks ∧ (∀ p ∈ ks, eqV p.2 p.2 = true) ∧ H b = some (.lst (as.map V.ref)) ∧ Paired (DcF H) as kss ∧ Q (.bl (f (kss.any fun ls => eqDK ls ks))) H
theorem dc_items {pins : List (Addr × Obj)} {σ : L2.St} {H : Hp} {s : Shared} (I : Inv X pins σ H s) {A : Around} (hu : A.units < cLine) {a : Addr} {ks : List (Key × V)} (ea : DcF H a ks) (rf : ∀ p ∈ ks, eqV p.2 p.2 = true) {c : Addr} {ls : List (Key × V)} (ec : DcF H c ls) : InDc.EqW X.prog X.w A s (.ref c) (.ref a) (eqDK ls ks) := by
  by_cases e : c = a
  · subst e
    have : ls = ks := by
      have := ec.1.symm.trans ea.1
      injection this with h
      injection h
    subst this
    rw [eqDK_selfI ea.2.2 ea.2.1 rf]
    exact fun E Q h => SeqAt.EqAt.same _ _ _ _ _ h
  · refine InDc.EqW.apart e fun E Q h => ?_
    obtain ⟨_, ya, va, ra, da⟩ := (show ObjOk X.prog X.w H s.heap a (.dK ks) from I.hok a _ ea.1)
    obtain ⟨_, yc, vc, rc, dc⟩ := (show ObjOk X.prog X.w H s.heap c (.dK ls) from I.hok c _ ec.1)
    have e : eqDK ls ks = (vc.length == va.length && ls.all (rowEq ks)) := by unfold eqDK; rw [rc.length, ra.length]
    exact PySem.W.keq_eq (knd := mixKind X.prog X.w) (r := ls.all (rowEq ks)) yc ya dc da hu (fun _ => hits_any ra ea.2.1 rc ec.2.1) (by rw [← e]; exact h)
theorem any_refsI {as : List Addr} {kss : List (List (Key × V))} {R : Addr → List (Key × V) → Prop} (p : Paired R as kss) (g : List (Key × V) → Bool) {e : Value → Bool} (h : ∀ a ks, R a ks → e (.ref a) = g ks) : (as.map Value.ref).any e = kss.any g := by
  induction p with
  | nil => rfl
  | cons h1 _ ih => rw [List.map_cons, List.any_cons, List.any_cons, ih, h _ _ h1]
theorem vals_refsI : ∀ {as : List Addr} {its : List Value}, Vals (as.map V.ref) its → its = as.map Value.ref
  | [], _, .nil => rfl
  | _ :: _, _, .cons r t => by rw [show _ = Value.ref _ from r, vals_refsI t]; rfl
theorem paired_atI {R : Addr → List (Key × V) → Prop} : ∀ {as : List Addr} {kss : List (List (Key × V))}, Paired R as kss → ∀ a ∈ as, ∃ ks, R a ks
  | _, _, .nil, a, h => nomatch h
  | _, _, .cons p t, a, h => by
    rcases List.mem_cons.mp h with rfl | h
    · exact ⟨_, p⟩
    · exact paired_atI t a h
theorem core_inDc (hu : X.A.units + 1 < cLine) {pins : List (Addr × Obj)} {σ : L2.St} {H : Hp} {s : Shared} (I : Inv X pins σ H s) {a b : Addr} {ks : List (Key × V)} {as : List Addr} {kss : List (List (Key × V))} (ea : DcF H a ks) (rf : ∀ p ∈ ks, eqV p.2 p.2 = true) (eb : H b = some (.lst (as.map V.ref))) (pr : Paired (DcF H) as kss)
    {Q : Bool → Shared → Prop} {E : Value → Shared → Prop} (h : Q (kss.any fun ls => eqDK ls ks) s) : wpAny (model X.prog X.w) X.A (contains (.ref b) (.ref a)) Q E s := by
  obtain ⟨_, its, n, rv, hl, e⟩ := I.lstM eb
  obtain rfl := vals_refsI rv
  let g : Value → Bool := fun v => match v with
    | .ref c => (match H c with | some (.dK ls) => eqDK ls ks | _ => false)
    | _ => false
  have gv : ∀ c ls, DcF H c ls → g (.ref c) = eqDK ls ks := fun c ls hc => by
    show (match H c with | some (.dK ls) => eqDK ls ks | _ => false) = _
    rw [hc.1]
  refine InDc.contains_W g e (fun y hy => ?_) ?_
  · have hy : y ∈ as.map Value.ref := List.mem_toArray.mp hy
    obtain ⟨c, hc, rfl⟩ := List.mem_map.mp hy
    obtain ⟨ls, hd⟩ := paired_atI pr c hc
    rw [gv c ls hd]
    exact dc_items I (by simp only [Around.in1]; omega) ea rf hd
  · show Q ((as.map Value.ref).any g) s
    rw [any_refsI pr _ gv]
    exact h
theorem op_inDc (hu : X.A.units + 1 < cLine) : OpR X (compareOp .In) (rInDc id) := by
  intro pins s σ H x y v u Q I rx ry h
  obtain ⟨a, b, ks, as, kss, rfl, rfl, ea, rf, eb, pr, q⟩ := h
  obtain rfl : v = Value.ref a := rx
  obtain rfl : u = Value.ref b := ry
  show wpAny _ X.A (do return Value.bool (← contains (.ref b) (.ref a))) _ _ s
  refine wpAny_bind (core_inDc hu I ea rf eb pr (wpAny_pure ?_))
  exact ⟨.bl _, H, I, rfl, q⟩
theorem op_notInDc (hu : X.A.units + 1 < cLine) : OpR X (compareOp .NotIn) (rInDc not) := by
  intro pins s σ H x y v u Q I rx ry h
  obtain ⟨a, b, ks, as, kss, rfl, rfl, ea, rf, eb, pr, q⟩ := h
  obtain rfl : v = Value.ref a := rx
  obtain rfl : u = Value.ref b := ry
  show wpAny _ X.A (do return Value.bool (!(← contains (.ref b) (.ref a)))) _ _ s
  refine wpAny_bind (core_inDc hu I ea rf eb pr (wpAny_pure ?_))
  exact ⟨.bl _, H, I, rfl, q⟩
end
end L2


/-! paired lists -/
namespace FT
open PySem L2 TL ClX LiI
theorem pair_impW {α β : Type} {F G : α → β → Prop} (m : ∀ x y, F x y → G x y) : ∀ {xs : List α} {ys : List β}, Paired F xs ys → Paired G xs ys
  | _, _, .nil => .nil
  | _, _, .cons h t => .cons (m _ _ h) (pair_impW m t)
theorem pair_appW {α β : Type} {F : α → β → Prop} : ∀ {xs xs' : List α} {ys ys' : List β}, Paired F xs ys → Paired F xs' ys' → Paired F (xs ++ xs') (ys ++ ys')
  | _, _, _, _, .nil, q => q
  | _, _, _, _, .cons h t, q => .cons h (pair_appW t q)
end FT


/-! _law_all_sizes -/
namespace FT
open PySem L2 TL ClX LiI
/-- a dict of sizes of these flags -/
def SzD (L : List Str) (H : Hp) (d : Addr) : Prop := ∃ f : Str → Int, H d = some (.dK (tblI L f))
def spAllSz : Sp := fun vs H Q _ => ∃ (q : Addr) (n : Int) (t : List (Str × Str)), vs = [.ref q, .int n] ∧ H q = some (.dK (prs t)) ∧ TreeOk t ∧ 1 ≤ n ∧ n ≤ 3 ∧
  ∀ (R : Addr) (ds : List Addr) (H' : Hp), Same H H' → H R = none → H' R = some (.lst (ds.map V.ref)) → ds.length ≤ sizeLine → (∀ d ∈ ds, ∃ f, H' d = some (.dK (tblI (t.map Prod.fst) f)) ∧ Fea t n f) → Q (.ref R) H'
abbrev NAz : List Str := ["_law_parents", "_law_folk", "_law_found", "_law_name", "_law_more", "_law_wide", "_law_size"]
theorem tbl_app {L : List Str} {f : Str → Int} {a : Str} {i : Int} (nd : L.Nodup) (na : a ∉ L) : mergeK [] (tblI L f ++ [(Sum.inr a, V.int i)]) = tblI (L ++ [a]) (fun x => if x = a then i else f x) := by
  have e : tblI L f ++ [(Sum.inr a, V.int i)] = tblI (L ++ [a]) (fun x => if x = a then i else f x) := by
    unfold tblI kvT
    rw [List.map_append, List.map_append]
    congr 1
    · rw [List.map_map, List.map_map]
      refine List.map_congr_left fun x hx => ?_
      show (Sum.inr x, V.int (f x)) = (Sum.inr x, V.int (if x = a then i else f x))
      rw [if_neg fun e => na (by rw [← e]; exact hx)]
    · show [((Sum.inr a : Key), V.int i)] = [(Sum.inr a, V.int (if a = a then i else f a))]
      rw [if_pos rfl]
  rw [e]
  exact merge_nd (by
    rw [tblI_fst]
    exact List.nodup_append.mpr ⟨nd, by simp, fun x hx y hy e => na (by rw [← List.mem_singleton.mp hy, ← e]; exact hx)⟩)
theorem keys_atZ {t : List (Str × Str)} {i : Nat} {k : Key} {v : V} (h : (prs t)[i]? = some (k, v)) : ∃ a p : Str, k = Sum.inr a ∧ v = .str p ∧ t[i]? = some (a, p) := by
  unfold prs kvT at h
  rw [List.map_map, List.getElem?_map] at h
  obtain ⟨⟨a, p⟩, hp, e⟩ := Option.map_eq_some_iff.mp h
  cases e
  exact ⟨a, p, rfl, rfl, hp⟩
theorem SzD.mono {L : List Str} {H H' : Hp} {d : Addr} (s : Same H H') (h : SzD L H d) : SzD L H' d := let ⟨f, e⟩ := h; ⟨f, s _ _ e⟩
theorem take_freshZ {L : List Str} {a : Str} {i : Nat} (nd : L.Nodup) (ha : L[i]? = some a) : a ∉ L.take i := fun hm => by
  obtain ⟨j, hj⟩ := List.mem_iff_getElem?.mp hm
  have jl := (List.getElem?_eq_some_iff.mp hj).1
  rw [List.length_take] at jl
  rw [List.getElem?_take, if_pos (by omega)] at hj
  have := (List.getElem?_inj (by omega) nd).mp (hj.trans ha.symm)
  omega
section
variable {P : Program} {w : World} {K : PySem.W.Frag} {mg : Str → Option Value} {base : Heap}
end
end FT


/-! _law_distance -/
namespace FT
open PySem L2 TL ClX LiI
theorem DcL.kx {A : List Addr} {H H' : Hp} {L : List Str} {r : Addr} {g : Str → Int} (k : KeepX A H H') (hA : ∀ b ∈ A, ∃ xs, H b = some (.lst xs)) (h : DcL H L r g) : DcL H' L r g := k r _ (fun m => by
  obtain ⟨xs, e⟩ := hA r m
  have h : H r = some (.dK (tblI L g)) := h
  rw [e] at h
  cases h) h
theorem pair_idx {α β : Type} {F : α → β → Prop} : ∀ {xs : List α} {ys : List β}, Paired F xs ys → ∀ {i : Nat} {x : α}, xs[i]? = some x → ∃ y, ys[i]? = some y ∧ F x y
  | _, _, .nil, i, x, e => by cases e
  | _, _, .cons h t, 0, x, e => by cases e; exact ⟨_, rfl, h⟩
  | _, _, .cons h t, i + 1, x, e => pair_idx t (i := i) e
theorem dcF_tbl {H : Hp} {L : List Str} {r : Addr} {g : Str → Int} (nd : L.Nodup) (h : DcL H L r g) : DcF H r (tblI L g) := by
  refine ⟨h, fun p hp => ?_, ?_⟩
  · obtain ⟨i, hi⟩ := List.mem_iff_getElem?.mp hp
    obtain ⟨k, v⟩ := p
    obtain ⟨a, ha, rfl, rfl⟩ := tblI_at hi
    rfl
  · rw [tblI_keys, List.nodup_iff_pairwise_ne, List.pairwise_map]
    exact (List.nodup_iff_pairwise_ne.mp nd).imp fun ne e => ne (Sum.inr.inj e)
theorem refl_tbl {L : List Str} {g : Str → Int} : ∀ p ∈ tblI L g, eqV p.2 p.2 = true := fun p hp => by
  obtain ⟨i, hi⟩ := List.mem_iff_getElem?.mp hp
  obtain ⟨k, v⟩ := p
  obtain ⟨a, ha, rfl, rfl⟩ := tblI_at hi
  exact beq_self_eq_true (g a)
theorem pair_dcF {H : Hp} {L : List Str} (nd : L.Nodup) : ∀ {rs : List Addr} {gs : List (Str → Int)}, Paired (DcL H L) rs gs → Paired (DcF H) rs (gs.map (tblI L))
  | _, _, .nil => .nil
  | _, _, .cons h t => .cons (dcF_tbl nd h) (pair_dcF nd t)
theorem range_takeS {h c : Str → Int} {a : Str} {g : Str → Int} {x : Nat} (hx : x < (c a + 1 - -(c a)).toNat) : (addS h c a g).take (x + 1) = (addS h c a g).take x ++ [upA g a (h a + (-(c a) + (x : Int)))] := by
  refine take_more ?_
  unfold addS
  rw [List.getElem?_map, List.getElem?_range hx] <;> rfl
def spDist : Sp := fun vs H Q _ => ∃ (q qw qf qc : Addr) (n m : Int) (t : List (Str × Str)) (w f c : Str → Int), vs = [.ref q, .int n, .ref qw, .ref qf, .ref qc] ∧ H q = some (.dK (prs t)) ∧ DcL H (t.map Prod.fst) qw w ∧ DcL H (t.map Prod.fst) qf f ∧ DcL H (t.map Prod.fst) qc c ∧ D25 t n w f c m ∧
  ∀ H', Same H H' → Q (.int m) H'
abbrev NDi : List Str := ["_law_parents", "_law_folk", "_law_wide", "_law_fresh", "_law_caps_here", "_law_line", "_law_seen", "_law_turns", "_law_later", "_law_here", "_law_found", "_law_name", "_law_more", "_law_part", "_law_step", "_law_there"]
/-- between turns -/
def DIv (t : List (Str × Str)) (n m : Int) (w f c : Str → Int) (q qw qf qc : Addr) (H : Hp) (k : Int) (σ : St) (H' : Hp) : Prop :=
  ∃ (S Li : Addr) (ss ls : List Addr) (sg lg : List (Str → Int)) (u8 u9 u10 u11 u12 u13 u14 u15 : Option V),
  σ = [some (.ref q), some (.int n), some (.ref qw), some (.ref qf), some (.ref qc), some (.ref Li), some (.ref S), some (.int k), u8, u9, u10, u11, u12, u13, u14, u15] ∧ Same H H' ∧ H S = none ∧ S ≠ Li ∧ H' S = some (.lst (ss.map V.ref)) ∧ Paired (DcL H' (t.map Prod.fst)) ss sg ∧
    H' Li = some (.lst (ls.map V.ref)) ∧ Paired (DcL H' (t.map Prod.fst)) ls lg ∧ At25 t w f c m k sg lg
/-- all steps from a point stand; they are gone through -/
def tThere (t : List (Str × Str)) (n m : Int) (w f c : Str → Int) (q qw qf qc : Addr) (H : Hp) (k : Int) : TS := fun D σ H' => ∃ (S Li La Fo qh : Addr) (ss la fo : List Addr) (sg ag : List (Str → Int)) (h : Str → Int) (u11 u12 u13 u14 u15 : Option V),
  σ = [some (.ref q), some (.int n), some (.ref qw), some (.ref qf), some (.ref qc), some (.ref Li), some (.ref S), some (.int (k + 1)), some (.ref La), some (.ref qh), some (.ref Fo), u11, u12, u13, u14, u15] ∧ Same H H' ∧ H S = none ∧ H La = none ∧ S ≠ La ∧ Fo ≠ S ∧ Fo ≠ La ∧
    H' S = some (.lst (ss.map V.ref)) ∧ Paired (DcL H' (t.map Prod.fst)) ss sg ∧ H' La = some (.lst (la.map V.ref)) ∧ Paired (DcL H' (t.map Prod.fst)) la ag ∧ H' Fo = some (.lst (fo.map V.ref)) ∧ Paired (DcL H' (t.map Prod.fst)) fo (prodS h c (t.map Prod.fst)) ∧
    DcL H' (t.map Prod.fst) qh h ∧ Wt t w c k h ∧ Inb t h ∧ Tn25 t w f c m k sg ag ∧
    ∀ (H'' : Hp) (ss' la' : List Addr) (sg' ag' : List (Str → Int)) (u15' : Option V), Same H H'' → KeepX [S, La] H' H'' → H'' S = some (.lst (ss'.map V.ref)) → Paired (DcL H'' (t.map Prod.fst)) ss' sg' → H'' La = some (.lst (la'.map V.ref)) → Paired (DcL H'' (t.map Prod.fst)) la' ag' → Tn25 t w f c m k sg' ag' →
      (∀ g ∈ ag, g ∈ ag') → (EqL (t.map Prod.fst) h (evD w f m k) → InL (t.map Prod.fst) ag' (evD w f m (k + 1))) →
      D.nx [some (.ref q), some (.int n), some (.ref qw), some (.ref qf), some (.ref qc), some (.ref Li), some (.ref S), some (.int (k + 1)), some (.ref La), some (.ref qh), some (.ref Fo), u11, u12, u13, u14, u15'] H''
theorem pss_impD {X : Cx} {ss : List Stmt} {t t' : TS} (h : PSs X ss t) (m : ∀ D σ H, t' D σ H → t D σ H) : PSs X ss t' := ⟨fun pins s σ H D I q => h.run pins s σ H D I (m _ _ _ q)⟩
/-- some base heap: what is there, and the facts -/
def tTh (T : Unit) : TS := fun D σ H' => ∃ (t : List (Str × Str)) (n m : Int) (w f c : Str → Int) (q qw qf qc : Addr) (H : Hp) (k : Int), H q = some (.dK (prs t)) ∧ DcL H (t.map Prod.fst) qw w ∧ DcL H (t.map Prod.fst) qf f ∧ DcL H (t.map Prod.fst) qc c ∧ D25 t n w f c m ∧ 0 ≤ k ∧ k < m ∧ tThere t n m w f c q qw qf qc H k D σ H'
section
variable {P : Program} {w : World} {K : PySem.W.Frag} {mg : Str → Option Value} {base : Heap}
theorem scDi : FnScope NDi ["_law_parents", "_law_folk", "_law_wide", "_law_fresh", "_law_caps_here"] (defScope s__law_distance) := ⟨rfl, rfl, rfl, by decide +kernel, rfl, by decide +kernel, by decide +kernel⟩
theorem ok_dist {f0 fS : Addr} {fd fdS : FuncData} (F : Fun K "_law_distance" "_law_distance" s__law_distance f0 fd) (T : Nm mg) (SR : Dn P w K mg base CX0 2 "_law_step_right" ["_law_parents", "_law_folk", "_law_here", "_law_there", "_law_fresh", "_law_caps_here", "_law_cap"] spStepR fS fdS) :
    FnOk P w K mg base CX0 3 f0 fd ["_law_parents", "_law_folk", "_law_wide", "_law_fresh", "_law_caps_here"] spDist := by
  refine F.ok scDi (fun vs H Q E h => ?_) (fun cdv A outer s H vs Q E hr h => ?_)
  · obtain ⟨q, qw, qf, qc, n, m, t, w, f, c, rfl, _⟩ := h
    rfl
  · obtain ⟨q, qw, qf, qc, n, m, t, w', f, c, rfl, hq, hw, hf, hc, G, k⟩ := h
    have hu := hu_of hr
    have nd := scDi.nd
    have big : 100000 ≤ sizeLine := by decide
    refine ⟨_, pss_cons (ps_par3 (i := 5) (j := 6) (l := 7) rfl nd rfl rfl rfl (by decide) (by decide) (by decide) rfl rfl rfl (pa_cons (pe_lst (pa_cons (pv 2) pa_nil)) (pa_cons (pe_lst (pa_cons (pv 2) pa_nil)) (pa_cons pe_int pa_nil))) (by rfl))
      (pss_cons (ps_while PassesOwn.never (pt_cmpR (op_notInDc hu) (pv 3) (pv 6) rfl)
        (pss_cons (ps_par (i := 8) (j := 7) rfl nd rfl rfl (by decide) rfl rfl (pa_cons (pe_lst pa_nil) (pa_cons (pe_op op_add (pv 7) pe_int) pa_nil)) (by rfl))
        (pss_cons (ps_for PassesOwn.never rfl (pi_list (pv 5)) (pg_name (i := 9) nd rfl (.inl rfl))
          (pss_cons (ps_set (i := 10) nd rfl (.inl rfl) (pe_lst (pa_cons pe_dnewK pa_nil)))
          (pss_cons (ps_lock (ps_for PassesOwn.never rfl (pi_keys (pv 0)) (pg_name (i := 11) nd rfl (.inl rfl))
            (pss_cons (ps_set (i := 12) nd rfl (.inl rfl) (pe_lst pa_nil))
            (pss_cons (ps_for PassesOwn.never rfl (pi_list (pv 10)) (pg_name (i := 13) nd rfl (.inl rfl))
              (pss_one (ps_for PassesOwn.never rfl (pi_range2 rfl T.rng (pa_cons (pe_un un_neg (pe_dget hu (pv 4) (pv 11) (fun _ _ => rfl))) (pa_cons (pe_op op_add (pe_dget hu (pv 4) (pv 11) (fun _ _ => rfl)) pe_int) pa_nil))) (pg_name (i := 14) nd rfl (.inl rfl))
                (pss_one (ps_expr (pe_bm PySem.F.plainAttrs_list PySem.F.slot_list_append PySem.F.type_list_append mt_append (pv 12)
                  (pa_cons (pe_callTy (call_dictP rfl) (by rfl) T.dct (by decide +kernel) (pa_cons (pe_op op_cat (pe_listItems rfl (pv 13) (by rfl) T.lst (by decide +kernel))
                    (pe_lst (pa_cons (pe_tup (pa_cons (pv 11) (pa_cons (pe_op op_add (pe_dget hu (pv 9) (pv 11) (fun _ _ => rfl)) (pv 14)) pa_nil))) pa_nil))) pa_nil)) pa_nil)))))))
            (pss_one (ps_set (i := 10) nd rfl (.inl rfl) (pv 12)))))))
          (pss_impD (t' := tTh ()) (pss_one (ps_for PassesOwn.never rfl (pi_list (pv 10)) (pg_name (i := 15) nd rfl (.inl rfl))
            (pss_cons (ps_if (pt_cmpR (op_inDc hu) (pv 15) (pv 6) rfl) (pss_one ps_continue) pss_nil)
            (pss_one (ps_if (pt_val (pe_call SR.ok hr rfl SR.mgn SR.kp SR.bn .nil pass0 (pa_cons (pv 0) (pa_cons (pv 1) (pa_cons (pv 9) (pa_cons (pv 15) (pa_cons (pv 3) (pa_cons (pv 4) (pa_cons pe_non pa_nil)))))))))
              (pss_cons (ps_expr (pe_bm PySem.F.plainAttrs_list PySem.F.slot_list_append PySem.F.type_list_append mt_append (pv 6) (pa_cons (pv 15) pa_nil)))
              (pss_one (ps_expr (pe_bm PySem.F.plainAttrs_list PySem.F.slot_list_append PySem.F.type_list_append mt_append (pv 8) (pa_cons (pv 15) pa_nil))))) pss_nil))))) ?_))))
        (pss_one (ps_set (i := 5) nd rfl (.inl rfl) (pv 8))))))
      (pss_one (ps_ret (pv 7)))), ?_⟩
    · -- all found are gone through
      intro D0 σ H1 ⟨t, n, m, w', f, c, q, qw, qf, qc, H0, k, hq, hw, hf, hc, G, k0, km, S, Li, La, Fo, qh, ss, la, fo, sg, ag, h, u11, u12, u13, u14, u15, eσ, s1, nS, nLa, SLa, FoS, FoLa, hS, pS, hLa, pLa, hFo, pFo, hh, wh, ih, TT, kk⟩
      subst eσ
      have o := G.o
      have ndL : (t.map Prod.fst).Nodup := o.nd
      have hA : ∀ b ∈ [S, La], ∃ xs, H1 b = some (.lst xs) := fun b hb => by
        simp only [List.mem_cons, List.not_mem_nil, or_false] at hb
        rcases hb with rfl | rfl
        · exact ⟨_, hS⟩
        · exact ⟨_, hLa⟩
      have FoN : Fo ∉ [S, La] := by
        simp only [List.mem_cons, List.not_mem_nil, or_false, not_or]
        exact ⟨FoS, FoLa⟩
      refine ⟨_, rfl, Fo, rfl, ⟨_, SqL.of hFo⟩, ?_⟩
      refine for_it walk_list (fun i σ' H' => ∃ (ss2 la2 : List Addr) (sg2 ag2 : List (Str → Int)) (u15' : Option V), σ' = [some (.ref q), some (.int n), some (.ref qw), some (.ref qf), some (.ref qc), some (.ref Li), some (.ref S), some (.int (k + 1)), some (.ref La), some (.ref qh), some (.ref Fo), u11, u12, u13, u14, u15'] ∧ Same H0 H' ∧ KeepX [S, La] H1 H' ∧
          H' S = some (.lst (ss2.map V.ref)) ∧ Paired (DcL H' (t.map Prod.fst)) ss2 sg2 ∧ H' La = some (.lst (la2.map V.ref)) ∧ Paired (DcL H' (t.map Prod.fst)) la2 ag2 ∧ Tn25 t w' f c m k sg2 ag2 ∧ (∀ g ∈ ag, g ∈ ag2) ∧
          (EqL (t.map Prod.fst) h (evD w' f m k) → InL (t.map Prod.fst) ((prodS h c (t.map Prod.fst)).take i) (evD w' f m (k + 1)) → InL (t.map Prod.fst) ag2 (evD w' f m (k + 1))))
        ⟨ss, la, sg, ag, _, rfl, s1, fun b u _ e => e, hS, pS, hLa, pLa, TT, fun g hg => hg, fun _ ⟨g, hg, _⟩ => by cases hg⟩ (fun i σ' H' _ z => by
          obtain ⟨_, _, _, _, _, _, _, kx, _⟩ := z
          exact SqL.of (kx _ _ FoN hFo)) ?_ ?_
      · intro i y σ' Ha Hx hi ⟨ss2, la2, sg2, ag2, u15', e, s2, kx, hS2, pS2, hLa2, pLa2, T2, sub2, r2⟩ ⟨eb, ex⟩
        subst e
        subst eb
        obtain ⟨d, hd, rfl⟩ := map_of (f := V.ref) (l := fo) ex
        obtain ⟨g, hg, hdg⟩ := pair_idx pFo hd
        have hd' : DcL Hx (t.map Prod.fst) d g := hdg.kx kx hA
        have mg : g ∈ prodS h c (t.map Prod.fst) := List.mem_of_getElem? hg
        obtain ⟨_, _, _, capg⟩ := fold_in ndL mg
        have tk := take_more hg
        -- what holds behind this one
        have stay : ∀ {agN : List (Str → Int)}, (∀ x ∈ ag2, x ∈ agN) → (EqL (t.map Prod.fst) h (evD w' f m k) → EqL (t.map Prod.fst) g (evD w' f m (k + 1)) → InL (t.map Prod.fst) agN (evD w' f m (k + 1))) →
            EqL (t.map Prod.fst) h (evD w' f m k) → InL (t.map Prod.fst) ((prodS h c (t.map Prod.fst)).take (i + 1)) (evD w' f m (k + 1)) → InL (t.map Prod.fst) agN (evD w' f m (k + 1)) := fun {agN} sb one eh ⟨x, hx, e⟩ => by
          rw [tk] at hx
          rcases List.mem_append.mp hx with hx | hx
          · obtain ⟨z, hz, ez⟩ := r2 eh ⟨x, hx, e⟩
            exact ⟨z, sb z hz, ez⟩
          · rw [List.mem_singleton.mp hx] at e
            exact one eh e
        refine ⟨_, rfl, _, rfl, d, S, tblI (t.map Prod.fst) g, ss2, sg2.map (tblI (t.map Prod.fst)), rfl, rfl, dcF_tbl ndL hd', refl_tbl, hS2, pair_dcF ndL pS2, ?_⟩
        cases ea : ((sg2.map (tblI (t.map Prod.fst))).any fun ls => eqDK ls (tblI (t.map Prod.fst) g)) with
        | true =>
          refine ⟨_, rfl, iteT ?_⟩
          obtain ⟨x, hx, ex⟩ := any_tbl.mp ea
          exact ⟨ss2, la2, sg2, ag2, _, rfl, s2, kx, hS2, pS2, hLa2, pLa2, T2, sub2, stay (fun _ z => z) fun _ e => T2.s3 ⟨x, hx, fun a ha => (ex a ha).trans (e a ha)⟩⟩
        | false =>
          refine ⟨_, rfl, iteF ?_⟩
          have nin : ¬ InL (t.map Prod.fst) sg2 g := fun z => by
            rw [any_tbl.mpr z] at ea
            cases ea
          have hh' : DcL Hx (t.map Prod.fst) qh h := hh.kx kx hA
          refine ⟨_, rfl, _, rfl, _, rfl, _, rfl, _, rfl, _, rfl, q, qh, d, qf, n, .ref qc, .non, t, t.map Prod.fst, t.map Prod.fst, t.map Prod.fst, h, g, f, some c, none, rfl, s2 _ _ hq, o, hh', hd', s2 _ _ hf, .refl _, .refl _, .refl _, ⟨qc, t.map Prod.fst, rfl, s2 _ _ hc, .refl _⟩, rfl, fun a ha => ?_, fun H3 s3 => ⟨_, rfl, ?_⟩⟩
          · have b1 := ih a ha
            have b2 := capg a ha
            have b3 := G.c1 a ha
            have b4 := G.inb G.ff a ha
            show (h a).natAbs < 2 ^ 199 ∧ (g a).natAbs < 2 ^ 199 ∧ (f a).natAbs < 2 ^ 199
            omega
          have s23 := s2.trans s3
          have kx3 := kx.trans (.of_same s3)
          have pS3 := pair_imp (fun r g h => s3 _ _ h) pS2
          have pLa3 := pair_imp (fun r g h => s3 _ _ h) pLa2
          cases es : stepR t n h g f (some c) none with
          | false =>
            refine iteF ?_
            refine ⟨ss2, la2, sg2, ag2, _, rfl, s23, kx3, s3 _ _ hS2, pS3, s3 _ _ hLa2, pLa3, T2, sub2, stay (fun _ z => z) fun eh e => ?_⟩
            rw [stepR_eql eh e (G.step k0 km)] at es
            cases es
          | true =>
            refine iteT ?_
            obtain ⟨fg, _⟩ := stepR_cap es
            obtain ⟨l1, l2⟩ := T2.few G
            have ls1 := pS2.length
            have ls2 := pLa2.length
            have hS3 := s3 _ _ hS2
            have hLa3 := s3 _ _ hLa2
            refine ⟨_, rfl, .inl ⟨rfl, _, SqL.of hS3⟩, _, rfl, S, _, _, rfl, rfl, hS3, by rw [List.length_map]; omega, ?_⟩
            obtain ⟨H4, e4⟩ : ∃ X, X = upd H3 S (.lst (ss2.map V.ref ++ [.ref d])) := ⟨_, rfl⟩
            have hS4 : H4 S = some (.lst ((ss2 ++ [d]).map V.ref)) := by rw [e4, upd_same, List.map_append] <;> rfl
            have hLa4 : H4 La = some (.lst (la2.map V.ref)) := by rw [e4, upd_ne SLa.symm]; exact hLa3
            have kx4 : KeepX [S, La] H3 H4 := fun b u nb e => by
              simp only [List.mem_cons, List.not_mem_nil, or_false, not_or] at nb
              rw [e4, upd_ne nb.1]
              exact e
            have s4 : Same H0 H4 := e4 ▸ s23.put nS
            rw [← e4]
            clear e4
            refine ⟨_, rfl, .inl ⟨rfl, _, SqL.of hLa4⟩, _, rfl, La, _, _, rfl, rfl, hLa4, by rw [List.length_map]; omega, ?_⟩
            obtain ⟨H5, e5⟩ : ∃ X, X = upd H4 La (.lst (la2.map V.ref ++ [.ref d])) := ⟨_, rfl⟩
            have hLa5 : H5 La = some (.lst ((la2 ++ [d]).map V.ref)) := by rw [e5, upd_same, List.map_append] <;> rfl
            have hS5 : H5 S = some (.lst ((ss2 ++ [d]).map V.ref)) := by rw [e5, upd_ne SLa]; exact hS4
            have kx5 : KeepX [S, La] H3 H5 := fun b u nb e => by
              have nb' := nb
              simp only [List.mem_cons, List.not_mem_nil, or_false, not_or] at nb
              rw [e5, upd_ne nb.2]
              exact kx4 b u nb' e
            have s5 : Same H0 H5 := e5 ▸ s4.put nLa
            rw [← e5]
            clear e5
            have hA3 : ∀ b ∈ [S, La], ∃ xs, H3 b = some (.lst xs) := fun b hb => by
              simp only [List.mem_cons, List.not_mem_nil, or_false] at hb
              rcases hb with rfl | rfl
              · exact ⟨_, hS3⟩
              · exact ⟨_, hLa3⟩
            have pS5 := pair_imp (fun r g h => DcL.kx kx5 hA3 h) pS3
            have pLa5 := pair_imp (fun r g h => DcL.kx kx5 hA3 h) pLa3
            have hd5 : DcL H5 (t.map Prod.fst) d g := DcL.kx kx5 hA3 (s3 _ _ hd')
            exact ⟨ss2 ++ [d], la2 ++ [d], sg2 ++ [g], ag2 ++ [g], _, rfl, s5, kx3.trans kx5, hS5, pS5.snoc hd5, hLa5, pLa5.snoc hd5, T2.add nin wh capg (G.inb fg), fun x hx => List.mem_append_left _ (sub2 x hx), stay (fun x hx => List.mem_append_left _ hx) fun _ e => ⟨g, List.mem_append_right _ (List.mem_singleton_self _), e⟩⟩
      · intro σ' H2 ⟨ss2, la2, sg2, ag2, u15', e, s2, kx, hS2, pS2, hLa2, pLa2, T2, sub2, r2⟩
        subst e
        have lf := pFo.length
        refine kk H2 ss2 la2 sg2 ag2 _ s2 kx hS2 pS2 hLa2 pLa2 T2 sub2 fun eh => r2 eh ?_
        rw [List.length_map, lf, List.take_length]
        exact G.reach k0 km eh
    · have o := G.o
      have ndL : (t.map Prod.fst).Nodup := o.nd
      refine ⟨_, rfl, by show 1 ≤ sizeLine; omega, fun Li0 nLi0 => ⟨_, rfl, by show 1 ≤ sizeLine; omega, fun S0 nS0 => ?_⟩⟩
      have a1 := same_new (o := .lst [.ref qw]) nLi0
      have a2 := same_new (o := .lst [.ref qw]) nS0
      have SLi0 : S0 ≠ Li0 := fun e => by
        rw [e, upd_same] at nS0
        cases nS0
      have a12 : Same H (upd (upd H Li0 (.lst [.ref qw])) S0 (.lst [.ref qw])) := a1.trans a2
      have hLi0 : (upd (upd H Li0 (.lst [.ref qw])) S0 (.lst [.ref qw])) Li0 = some (.lst (([qw] : List Addr).map V.ref)) := a2 _ _ upd_same
      have hS0 : (upd (upd H Li0 (.lst [.ref qw])) S0 (.lst [.ref qw])) S0 = some (.lst (([qw] : List Addr).map V.ref)) := upd_same
      have hw0 : DcL (upd (upd H Li0 (.lst [.ref qw])) S0 (.lst [.ref qw])) (t.map Prod.fst) qw w' := a12 _ _ hw
      refine ⟨_, _, _, rfl, fun mm σ H' => ∃ k : Int, mm = (m - k).toNat ∧ 0 ≤ k ∧ k ≤ m ∧ DIv t n m w' f c q qw qf qc H k σ H', ⟨_, 0, rfl, Int.le_refl _, G.m4.1, S0, Li0, [qw], [qw], [w'], [w'], _, _, _, _, _, _, _, _, rfl, a12, a1.free nS0, SLi0, hS0, .cons hw0 .nil, hLi0, .cons hw0 .nil, At25.zero G⟩, ?_⟩
      clear hLi0 hS0 hw0 a12 SLi0 a1 a2 nS0 nLi0
      rintro mm σ Hk ⟨kn, rfl, k0, km, S, Li, ss, ls, sg, lg, u8, u9, u10, u11, u12, u13, u14, u15, rfl, sk, nS, SLi, hS, pS, hLi, pLi, A⟩
      refine ⟨_, rfl, _, rfl, qf, S, tblI (t.map Prod.fst) f, ss, sg.map (tblI (t.map Prod.fst)), rfl, rfl, dcF_tbl ndL (sk _ _ hf), refl_tbl, hS, pair_dcF ndL pS, ?_⟩
      by_cases lt : kn < m
      · have ea : ((sg.map (tblI (t.map Prod.fst))).any fun ls => eqDK ls (tblI (t.map Prod.fst) f)) = false := by
          cases z : ((sg.map (tblI (t.map Prod.fst))).any fun ls => eqDK ls (tblI (t.map Prod.fst) f)) with
          | false => rfl
          | true => exact absurd (any_tbl.mp z) (A.no G k0 lt)
        rw [ea]
        refine ⟨_, rfl, ?_⟩
        show if true = true then _ else _
        rw [if_pos rfl]
        refine ⟨fun σ' H' => DIv t n m w' f c q qw qf qc H (kn + 1) σ' H', fun σ' H' h => ⟨(m - (kn + 1)).toNat, by omega, kn + 1, rfl, by omega, by omega, h⟩, ?_⟩
        refine ⟨by show 0 ≤ sizeLine; omega, fun La nLa => ⟨_, rfl, _, _, rfl, rfl, _, _, rfl, ?_⟩⟩
        obtain ⟨H1, e1⟩ : ∃ X, X = upd Hk La (.lst ([] : List V)) := ⟨_, rfl⟩
        have s1 : Same Hk H1 := e1 ▸ same_new nLa
        have hLa1 : H1 La = some (.lst (([] : List Addr).map V.ref)) := by rw [e1, upd_same] <;> rfl
        rw [← e1]
        clear e1
        have nLa0 : H La = none := sk.free nLa
        have SLa : S ≠ La := ne_of_none hS nLa
        have LiLa : Li ≠ La := ne_of_none hLi nLa
        refine ⟨_, rfl, Li, rfl, ⟨_, SqL.of (s1 _ _ hLi)⟩, ?_⟩
        refine for_it walk_list (fun i σ' H' => ∃ (ss2 la2 : List Addr) (sg2 ag2 : List (Str → Int)) (v9 v10 v11 v12 v13 v14 v15 : Option V), σ' = [some (.ref q), some (.int n), some (.ref qw), some (.ref qf), some (.ref qc), some (.ref Li), some (.ref S), some (.int (kn + 1)), some (.ref La), v9, v10, v11, v12, v13, v14, v15] ∧ Same H H' ∧ H' Li = some (.lst (ls.map V.ref)) ∧ Paired (DcL H' (t.map Prod.fst)) ls lg ∧
            H' S = some (.lst (ss2.map V.ref)) ∧ Paired (DcL H' (t.map Prod.fst)) ss2 sg2 ∧ H' La = some (.lst (la2.map V.ref)) ∧ Paired (DcL H' (t.map Prod.fst)) la2 ag2 ∧ Tn25 t w' f c m kn sg2 ag2 ∧ (∀ (i' : Nat) (h : Str → Int), i' < i → lg[i']? = some h → EqL (t.map Prod.fst) h (evD w' f m kn) → InL (t.map Prod.fst) ag2 (evD w' f m (kn + 1))))
          ⟨ss, [], sg, [], _, _, _, _, _, _, _, rfl, sk.trans s1, s1 _ _ hLi, pair_imp (fun r g h => s1 _ _ h) pLi, s1 _ _ hS, pair_imp (fun r g h => s1 _ _ h) pS, hLa1, .nil, A.turn G k0 lt, fun i' h hi => by omega⟩ (fun i σ' H' _ z => by
            obtain ⟨_, _, _, _, _, _, _, _, _, _, _, _, _, z, _⟩ := z
            exact SqL.of z) ?_ ?_
        · intro i y σ' Ha Hx hi ⟨ss2, la2, sg2, ag2, v9, v10, v11, v12, v13, v14, v15, e, s2, hLi2, pLi2, hS2, pS2, hLa2, pLa2, T2, r2⟩ ⟨eb, ex⟩
          subst e
          subst eb
          obtain ⟨qh, hqh, rfl⟩ := map_of (f := V.ref) (l := ls) ex
          obtain ⟨h, hgh, hh⟩ := pair_idx pLi2 hqh
          have mh := A.s2 h (List.mem_of_getElem? hgh)
          obtain ⟨wh, ih⟩ := A.s1 h mh
          have L3 : (t.map Prod.fst).length ≤ 3 := by rw [List.length_map]; exact G.l3
          have p7 : ∀ j, (foldS h c [fun _ => 0] ((t.map Prod.fst).take j)).length ≤ 2197 := fun j => by
            have z := fold_len (h := h) (c := c) (L := (t.map Prod.fst).take j) (gs := [fun _ => 0]) fun a ha => (G.c1 a (List.mem_of_mem_take ha)).2
            have y : 13 ^ ((t.map Prod.fst).take j).length ≤ 13 ^ 3 := Nat.pow_le_pow_right (by decide) (by rw [List.length_take]; omega)
            rw [List.length_singleton] at z
            omega
          refine fun p0 np0 => ⟨by show 1 ≤ sizeLine; omega, fun F0 nF0 => ?_⟩
          have sx3 : Same Hx (upd (upd Hx p0 (.dK [])) F0 (.lst [.ref p0])) := (same_new np0).trans (same_new nF0)
          have hp0 : (upd (upd Hx p0 (.dK [])) F0 (.lst [.ref p0])) p0 = some (.dK []) := by
            rw [upd_ne (fun z => by rw [← z, upd_same] at nF0; cases nF0), upd_same]
          have nF0x : Hx F0 = none := (same_new np0).free nF0
          obtain ⟨H3, e3⟩ : ∃ X, X = upd (upd Hx p0 (.dK [])) F0 (.lst [.ref p0]) := ⟨_, rfl⟩
          have hF3 : H3 F0 = some (.lst [.ref p0]) := by rw [e3, upd_same]
          rw [← e3] at sx3 hp0 ⊢
          clear e3
          have hqx := s2 _ _ hq
          have hq3 := sx3 _ _ hqx
          have F0q : F0 ≠ q := (ne_of_none hqx nF0x).symm
          have p0q : p0 ≠ q := (ne_of_none hqx np0).symm
          have qhq : qh ≠ q := tbl_prs o hh hqx
          have qcq : qc ≠ q := tbl_prs o hc hq
          have hh3 := sx3 _ _ hh
          have hc3 := sx3 _ _ (s2 _ _ hc)
          refine ⟨q, _, hq3, trivial, fun od => ⟨_, rfl, q, od, rfl, .inl ⟨_, upd_same, ?_⟩⟩⟩
          refine for_it walk_keys (fun j σ' H' => ∃ (Fo : Addr) (ds : List Addr) (u11 u12 u13 u14 : Option V), σ' = [some (.ref q), some (.int n), some (.ref qw), some (.ref qf), some (.ref qc), some (.ref Li), some (.ref S), some (.int (kn + 1)), some (.ref La), some (.ref qh), some (.ref Fo), u11, u12, u13, u14, v15] ∧ Same (upd H3 q (.frz od (.dK (prs t)))) H' ∧ Hx Fo = none ∧ H' Fo = some (.lst (ds.map V.ref)) ∧
              Paired (DcL H' ((t.map Prod.fst).take j)) ds (foldS h c [fun _ => 0] ((t.map Prod.fst).take j)))
            ⟨F0, [p0], _, _, _, _, rfl, Same.refl, nF0x, by rw [upd_ne F0q]; exact hF3, .cons (by show upd H3 q _ p0 = some (.dK []); rw [upd_ne p0q]; exact hp0) .nil⟩ (fun j σ' H' _ z => by obtain ⟨_, _, _, _, _, _, _, z, _⟩ := z; exact z _ _ upd_same) ?_ ?_
          · intro j y σ' Ha2 Hb hj ⟨Fo, ds, u11', u12', u13', u14', e, sA, nFo, hFo, pFo⟩ ⟨eb, kk, vv, hk, ey⟩
            subst e
            subst eb
            subst ey
            obtain ⟨a, pa, rfl, rfl, hp⟩ := keys_atZ hk
            rw [show kV (Sum.inr a) = V.str a from rfl]
            have ha : (t.map Prod.fst)[j]? = some a := by rw [List.getElem?_map, hp] <;> rfl
            have ma := List.mem_of_getElem? ha
            have na : a ∉ (t.map Prod.fst).take j := take_freshZ ndL ha
            have ndj := ndL.sublist (List.take_sublist j _)
            have dsl : ds.length ≤ 2197 := by rw [pFo.length]; exact p7 j
            obtain ⟨c1, c3⟩ := G.c1 a ma
            have hhb : Hb qh = some (.dK (tblI (t.map Prod.fst) h)) := sA _ _ (by rw [upd_ne qhq]; exact hh3)
            have hcb : Hb qc = some (.dK (tblI (t.map Prod.fst) c)) := sA _ _ (by rw [upd_ne qcq]; exact hc3)
            refine ⟨by show 0 ≤ sizeLine; omega, fun M nM => ?_⟩
            have FM : Fo ≠ M := ne_of_none hFo nM
            have nMx : Hx M = none := by
              have n1 := sA.free nM
              have Mq : M ≠ q := fun z => by
                rw [z, upd_same] at n1
                cases n1
              rw [upd_ne Mq] at n1
              exact sx3.free n1
            obtain ⟨Hm, em⟩ : ∃ X, X = upd Hb M (.lst ([] : List V)) := ⟨_, rfl⟩
            have sm : Same Hb Hm := em ▸ same_new nM
            have hM : Hm M = some (.lst (([] : List Addr).map V.ref)) := by rw [em, upd_same] <;> rfl
            have qhM : qh ≠ M := ne_of_none hhb nM
            have qcM : qc ≠ M := ne_of_none hcb nM
            rw [← em]
            clear em
            refine ⟨_, rfl, Fo, rfl, ⟨_, SqL.of (sm _ _ hFo)⟩, ?_⟩
            refine for_it walk_list (fun i2 σ' H' => ∃ (es : List Addr) (u13 u14 : Option V), σ' = [some (.ref q), some (.int n), some (.ref qw), some (.ref qf), some (.ref qc), some (.ref Li), some (.ref S), some (.int (kn + 1)), some (.ref La), some (.ref qh), some (.ref Fo), some (.str a), some (.ref M), u13, u14, v15] ∧ KeepX [M] Hm H' ∧ H' M = some (.lst (es.map V.ref)) ∧
                Paired (DcL H' ((t.map Prod.fst).take (j + 1))) es (((foldS h c [fun _ => 0] ((t.map Prod.fst).take j)).take i2).flatMap (addS h c a)))
              ⟨[], _, _, rfl, fun b u _ e => e, hM, .nil⟩ (fun i2 σ' H' _ z => by
                obtain ⟨_, _, _, _, z, _⟩ := z
                exact SqL.of (z _ _ (by rw [List.mem_singleton]; exact FM) (sm _ _ hFo))) ?_ ?_
            · intro i2 y σ' Hp Hy hi2 ⟨es, u13', u14', e, kx, hM', pes⟩ ⟨eb, ex⟩
              subst e
              subst eb
              obtain ⟨d, hd, rfl⟩ := map_of (f := V.ref) (l := ds) ex
              obtain ⟨g, hg, hdg⟩ := pair_idx pFo hd
              have i2l : i2 < ds.length := (List.getElem?_eq_some_iff.mp hd).1
              have Md : d ≠ M := ne_of_none hdg nM
              have dgc : DGet Hy qc (.str a) (some (.int (c a))) := by
                have z := DGet.k (k := Sum.inr a) (kx _ _ (by rw [List.mem_singleton]; exact qcM) (sm _ _ hcb))
                rw [tblI_val ma] at z
                exact z
              refine ⟨_, rfl, _, rfl, qc, .int (c a), rfl, dgc, _, rfl, _, rfl, _, rfl, qc, .int (c a), rfl, dgc, _, _, rfl, rfl, -(c a), c a + 1, rfl, ⟨by omega, by omega, by omega, by omega⟩, ?_⟩
              refine for_it (walk_range (lo := -(c a)) (n := (c a + 1 - -(c a)).toNat)) (fun x σ' H' => ∃ (es2 : List Addr) (u14 : Option V), σ' = [some (.ref q), some (.int n), some (.ref qw), some (.ref qf), some (.ref qc), some (.ref Li), some (.ref S), some (.int (kn + 1)), some (.ref La), some (.ref qh), some (.ref Fo), some (.str a), some (.ref M), some (.ref d), u14, v15] ∧ KeepX [M] Hm H' ∧ H' M = some (.lst (es2.map V.ref)) ∧
                  Paired (DcL H' ((t.map Prod.fst).take (j + 1))) es2 (((foldS h c [fun _ => 0] ((t.map Prod.fst).take j)).take i2).flatMap (addS h c a) ++ (addS h c a g).take x))
                ⟨es, _, rfl, kx, hM', by rw [List.take_zero, List.append_nil]; exact pes⟩ (fun _ _ _ _ _ => trivial) ?_ ?_
              · intro x y σ' Hu Hv hx ⟨es2, u14', e, kx2, hM2, pes2⟩ ⟨e1, e2⟩
                subst e
                subst e1
                subst e2
                have hd2 : Hv d = some (.dK (tblI ((t.map Prod.fst).take j) g)) := kx2 _ _ (by rw [List.mem_singleton]; exact Md) (sm _ _ hdg)
                refine ⟨_, rfl, .inl ⟨rfl, _, SqL.of hM2⟩, _, rfl, d, _, rfl, hd2, fun H4 p1 tps s4 np1 nts pts hp1 prd => ?_⟩
                have s4' : Same Hv H4 := fun b o e => s4 b o e
                have dgh : DGet H4 qh (.str a) (some (.int (h a))) := by
                  have z := DGet.k (k := Sum.inr a) (s4' _ _ (kx2 _ _ (by rw [List.mem_singleton]; exact qhM) (sm _ _ hhb)))
                  rw [tblI_val ma] at z
                  exact z
                refine ⟨_, rfl, _, rfl, _, rfl, qh, .int (h a), rfl, dgh, _, rfl, _, _, rfl, rfl, by show 2 ≤ sizeLine; omega, fun r nr => ⟨by show 1 ≤ sizeLine; omega, fun l nl => ?_⟩⟩
                have t1 := same_new (o := .tup [.str a, .int (h a + (-(c a) + (x : Int)))]) nr
                have t2 := same_new (o := .lst [.ref r]) nl
                have ltp : tps.length = ((t.map Prod.fst).take j).length := by
                  have z := pair_lenZ prd
                  rw [tblI_len] at z
                  exact z
                have ltj : ((t.map Prod.fst).take j).length ≤ 3 := by
                  rw [List.length_take]
                  omega
                refine ⟨p1, l, _, _, rfl, rfl, t2 _ _ (t1 _ _ hp1), upd_same, by rw [List.length_map, ltp]; show _ + 1 ≤ _; omega, fun cc ncc => ?_⟩
                have t3 := same_new (o := .lst (tps.map V.ref ++ [.ref r])) ncc
                refine ⟨cc, tps ++ [r], tblI ((t.map Prod.fst).take j) g ++ [(Sum.inr a, V.int (h a + (-(c a) + (x : Int))))], rfl, SqL.of (by rw [upd_same, List.map_append] <;> rfl), pair_appW (pair_impW (fun p kv e => SqT.of (t3 _ _ (t2 _ _ (t1 _ _ e)))) prd) (.cons (SqT.of (t3 _ _ (t2 _ _ upd_same))) .nil), fun D nD => ?_⟩
                rw [tbl_app ndj na, ← take_more ha]
                have t4 := same_new (o := .dK (tblI ((t.map Prod.fst).take (j + 1)) (fun z => if z = a then (h a + (-(c a) + (x : Int))) else g z))) nD
                have sF : Same Hv _ := s4'.trans (t1.trans (t2.trans (t3.trans t4)))
                have MD : M ≠ D := ne_of_none (t3 _ _ (t2 _ _ (t1 _ _ (s4' _ _ hM2)))) nD
                have le2 : es2.length ≤ 2197 * 13 + 13 := by
                  have z := pes2.length
                  have y := flat_len25 (f := addS h c a) (k := 13) (l := (foldS h c [fun _ => 0] ((t.map Prod.fst).take j)).take i2) fun g _ => addS_len c3
                  have y2 := addS_len (h := h) (c := c) (a := a) (g := g) c3
                  have y3 := p7 j
                  rw [List.length_append, List.length_take] at z
                  rw [List.length_take] at y
                  omega
                refine ⟨M, _, _, rfl, rfl, sF _ _ hM2, by rw [List.length_map]; omega, es2 ++ [D], _, rfl, fun b u nb e => ?_, by rw [upd_same, List.map_append] <;> rfl, ?_⟩
                · rw [upd_ne (fun z => nb (by rw [z]; exact List.mem_singleton_self _))]
                  exact sF _ _ (kx2 b u nb e)
                · rw [range_takeS hx, ← List.append_assoc]
                  refine Paired.snoc (pair_imp (fun r' g' hr => ?_) pes2) ?_
                  · have hr : Hv r' = some (.dK (tblI ((t.map Prod.fst).take (j + 1)) g')) := hr
                    show upd _ M _ r' = _
                    rw [upd_ne (ne_of hr hM2 (by intro z; cases z))]
                    exact sF _ _ hr
                  · show upd _ M _ D = _
                    rw [upd_ne MD.symm, upd_same] <;> rfl
              · intro σ' H5 ⟨es2, u14', e, kx2, hM2, pes2⟩
                subst e
                refine ⟨es2, _, _, rfl, kx2, hM2, ?_⟩
                have tk : (addS h c a g).take (c a + 1 - -(c a)).toNat = addS h c a g := List.take_of_length_le (by unfold addS; rw [List.length_map, List.length_range]; exact Nat.le_refl _)
                rw [tk] at pes2
                rw [take_more hg, List.flatMap_append]
                simpa using pes2
            · intro σ' H5 ⟨es, u13', u14', e, kx, hM', pes⟩
              subst e
              rw [List.length_map, pFo.length, List.take_length] at pes
              refine ⟨_, rfl, M, es, _, _, _, _, rfl, fun b u e => kx b u (by rw [List.mem_singleton]; exact ne_of_none (sA _ _ e) nM) (sm _ _ (sA _ _ e)), nMx, hM', ?_⟩
              have ef : foldS h c [fun _ => 0] ((t.map Prod.fst).take (j + 1)) = (foldS h c [fun _ => 0] ((t.map Prod.fst).take j)).flatMap (addS h c a) := by rw [take_more ha, foldS_snoc]
              rw [ef]
              exact pes
          · intro σ' H5 ⟨Fo, ds, u11', u12', u13', u14', e, sA, nFo, hFo, pFo⟩
            subst e
            rw [prs_len] at pFo
            have tk : (t.map Prod.fst).take t.length = t.map Prod.fst := List.take_of_length_le (by rw [List.length_map]; exact Nat.le_refl _)
            rw [tk] at pFo
            have Fq : Fo ≠ q := ne_of hFo (sA _ _ upd_same) (by intro z; cases z)
            have s6 : Same H3 (upd H5 q (.dK (prs t))) := unlock_same hq3 sA
            refine ⟨sA _ _ upd_same, ?_⟩
            obtain ⟨H6, e6⟩ : ∃ X, X = upd H5 q (.dK (prs t)) := ⟨_, rfl⟩
            have hF6 : H6 Fo = some (.lst (ds.map V.ref)) := by rw [e6, upd_ne Fq]; exact hFo
            have pF6 : Paired (DcL H6 (t.map Prod.fst)) ds (prodS h c (t.map Prod.fst)) := pair_imp (fun r' g' hr => by
              have hr : H5 r' = some (.dK (tblI (t.map Prod.fst) g')) := hr
              show H6 r' = _
              rw [e6, upd_ne (ne_of hr (sA _ _ upd_same) (by intro z; cases z))]
              exact hr) pFo
            rw [← e6] at s6
            show (_ : St → Hp → Prop) _ (upd H5 q (.dK (prs t)))
            rw [← e6]
            clear e6
            have sx6 := sx3.trans s6
            have hS6 := sx6 _ _ hS2
            have hLa6 := sx6 _ _ hLa2
            refine ⟨t, n, m, w', f, c, q, qw, qf, qc, H, kn, hq, hw, hf, hc, G, k0, lt, S, Li, La, Fo, qh, ss2, la2, ds, sg2, ag2, h, _, _, _, _, _, rfl, s2.trans sx6, nS, nLa0, SLa, (ne_of_none hS2 nFo).symm, (ne_of_none hLa2 nFo).symm, hS6, pair_imp (fun r g hr => sx6 _ _ hr) pS2, hLa6, pair_imp (fun r g hr => sx6 _ _ hr) pLa2, hF6, pF6, sx6 _ _ hh, wh, ih, T2, fun H'' ss' la' sg' ag' u15' s'' kx'' hS'' pS'' hLa'' pLa'' T'' sub'' r'' => ?_⟩
            have LiN : Li ∉ [S, La] := by
              simp only [List.mem_cons, List.not_mem_nil, or_false, not_or]
              exact ⟨SLi.symm, LiLa⟩
            have hA6 : ∀ b ∈ [S, La], ∃ xs, H6 b = some (.lst xs) := fun b hb => by
              simp only [List.mem_cons, List.not_mem_nil, or_false] at hb
              rcases hb with rfl | rfl
              · exact ⟨_, hS6⟩
              · exact ⟨_, hLa6⟩
            refine ⟨ss', la', sg', ag', _, _, _, _, _, _, _, rfl, s'', kx'' _ _ LiN (sx6 _ _ hLi2), pair_imp (fun r g hr => DcL.kx kx'' hA6 (sx6 _ _ hr)) pLi2, hS'', pS'', hLa'', pLa'', T'', fun i' h' hi' hg' eh => ?_⟩
            rcases Nat.lt_or_ge i' i with z | z
            · obtain ⟨x, hx, ex⟩ := r2 i' h' z hg' eh
              exact ⟨x, sub'' x hx, ex⟩
            · have z : i' = i := by omega
              subst z
              rw [hgh] at hg'
              cases hg'
              exact r'' eh
        · intro σ' H2 ⟨ss2, la2, sg2, ag2, v9, v10, v11, v12, v13, v14, v15, e, s2, hLi2, pLi2, hS2, pS2, hLa2, pLa2, T2, r2⟩
          subst e
          obtain ⟨h, hm, eh⟩ := A.s3
          obtain ⟨i', hi'⟩ := List.mem_iff_getElem?.mp hm
          have il := (List.getElem?_eq_some_iff.mp hi').1
          have lp := pLi2.length
          exact ⟨_, rfl, S, La, ss2, la2, sg2, ag2, _, _, _, _, _, _, _, _, rfl, s2, nS, SLa, hS2, pS2, hLa2, pLa2, T2.fin (r2 i' h (by rw [List.length_map]; omega) hi' eh)⟩
      · have e : kn = m := by omega
        subst e
        rw [any_tbl.mpr (A.yes G)]
        refine ⟨_, rfl, iteF ?_⟩
        exact ⟨_, rfl, k Hk sk⟩
end
end FT


/-! the drawn forest, at most so many flags -/
namespace FT
open PySem L2 TL ClX LiI
def spForBm : Sp := fun vs H Q _ => ∃ (d l i : Addr) (b mo : Int), vs = [.ref d, .int mo] ∧ 1 ≤ mo ∧ mo ≤ 12 ∧ DrawB H d l i b ∧ b + 100 ≤ 10 ^ 12 ∧
  ∀ (q : Addr) (t : List (Str × Str)) (H' : Hp), (t.length : Int) ≤ mo → TreeOk t → Ahead t → H q = none → H' q = some (.dK (prs t)) → DrawB H' d l i (b + 100) → KeepX [d, l] H H' → Q (.ref q) H'
section
variable {P : Program} {w : World} {K : PySem.W.Frag} {mg : Str → Option Value} {base : Heap}
theorem ok_forestBm {f fT fP : Addr} {fd fdT fdP : FuncData} (F : Fun K "_law_forest" "_law_forest" s__law_forest f fd) (T : Nm mg) (DT : Dn P w K mg base CX0 2 "_law_take" ["_law_draw", "_law_size"] spTakeB fT fdT) (DP : Dn P w K mg base CX0 3 "_law_pick" ["_law_draw", "_law_some"] spPickB fP fdP) : FnOk P w K mg base CX0 4 f fd ["_law_draw", "_law_most"] spForBm := by
  refine F.ok scFo (fun vs H Q E h => ?_) (fun cdv A outer s H vs Q E hr h => ?_)
  · obtain ⟨d, l, i, b, mo, rfl, _⟩ := h
    rfl
  · obtain ⟨d, l, i, b, mo, rfl, mo1, mo12, hD, bb, k⟩ := h
    have hu := hu_of hr
    have hr2 : Room 2 _ := hr.mono (by decide)
    have nd := scFo.nd
    have big : 1000 ≤ sizeLine := by decide
    refine ⟨_, pss_cons (ps_set (i := 2) nd rfl (.inl rfl) (pe_lst (pa_cons pe_str (pa_cons pe_str (pa_cons pe_str (pa_cons pe_str (pa_cons pe_str (pa_cons pe_str (pa_cons pe_str (pa_cons pe_str (pa_cons pe_str (pa_cons pe_str (pa_cons pe_str (pa_cons pe_str (pa_cons pe_str pa_nil)))))))))))))))
      (pss_cons (ps_set (i := 3) nd rfl (.inl rfl) pe_dnewK)
      (pss_cons (ps_for PassesOwn.never rfl (pi_range1 (by rfl) T.rng (pa_cons (pe_op op_add pe_int (pe_call DT.ok hr2 rfl DT.mgn DT.kp DT.bn .nil pass0 (pa_cons (pv 0) (pa_cons (pv 1) pa_nil)))) pa_nil)) (pg_name (i := 4) nd rfl (.inl rfl))
        (pss_cons (ps_set (i := 5) nd rfl (.inl rfl) (pe_bm PySem.F.plainAttrs_list PySem.F.slot_list_pop PySem.F.type_list_pop mt_popAt (pv 2) (pa_cons (pe_call DT.ok hr2 rfl DT.mgn DT.kp DT.bn .nil pass0 (pa_cons (pv 0) (pa_cons (pe_callB call_len_seq (by rfl) T.len PySem.boot_len (pa_cons (pv 2) pa_nil)) pa_nil))) pa_nil)))
        (pss_one (ps_dput hu (pv 3) (pv 5) (pe_call DP.ok hr rfl DP.mgn DP.kp DP.bn .nil pass0 (pa_cons (pv 0) (pa_cons (pe_op op_cat (pe_op op_rep (pe_lst (pa_cons pe_str pa_nil)) (pe_call DP.ok hr rfl DP.mgn DP.kp DP.bn .nil pass0 (pa_cons (pv 0) (pa_cons (pe_lst (pa_cons pe_int (pa_cons pe_int (pa_cons pe_int pa_nil)))) pa_nil))))
            (pe_callTy (call_listD rfl) (by rfl) T.lst (by decide +kernel) (pa_cons (pv 3) pa_nil))) pa_nil))) rfl))))
      (pss_one (ps_ret (pv 3))))), ?_⟩
    refine ⟨by show 13 ≤ sizeLine; omega, fun p np => ?_⟩
    have s1 := same_new (o := .lst (poolB.map V.str)) np
    have pd := hD.apart np
    refine fun q nq => ?_
    show tSeq _ _ _ [some (.ref d), some (.int mo), some (.ref p), some (.ref q), none, none] (upd (upd H p (.lst (poolB.map V.str))) q (.dK []))
    have s2 : Same H (upd (upd H p (.lst (poolB.map V.str))) q (.dK [])) := s1.trans (same_new nq)
    have q0 : H q = none := s1.free nq
    have qd := hD.apart q0
    have qp : p ≠ q := ne_of_none upd_same nq
    obtain ⟨H1, e1⟩ : ∃ X, X = upd (upd H p (.lst (poolB.map V.str))) q (.dK []) := ⟨_, rfl⟩
    have hp1 : H1 p = some (.lst (poolB.map V.str)) := by rw [e1, upd_ne qp, upd_same]
    have hq1 : H1 q = some (.dK []) := by rw [e1, upd_same]
    rw [← e1] at s2 ⊢
    refine ⟨_, rfl, _, rfl, d, l, i, b, mo, rfl, hD.mono s2, by omega, by omega, by omega, fun c H2 c0 c1 hD2 k2 => ?_⟩
    refine ⟨_, _, rfl, rfl, 1 + c, rfl, by omega, by omega, ?_⟩
    have lc : (1 + c).toNat ≤ 12 := by omega
    have lc1 : 1 ≤ (1 + c).toNat := by omega
    refine for_it walk_range (fun j σ' H' => (∃ u4 u5, σ' = [some (.ref d), some (.int mo), some (.ref p), some (.ref q), u4, u5]) ∧ DrawB H' d l i (b + 1 + 3 * (j : Int)) ∧ KeepX [d, l] H H' ∧
      ∃ (pool : List Str) (t : List (Str × Str)), H' p = some (.lst (pool.map V.str)) ∧ pool.length + j = 13 ∧ pool.Nodup ∧ (∀ z ∈ pool, NameL z) ∧ H' q = some (.dK (prs t)) ∧ t.length = j ∧ (t.map Prod.fst).Nodup ∧ (∀ z ∈ t.map Prod.fst, NameL z ∧ z ∉ pool) ∧ Ahead t)
      ⟨⟨_, _, rfl⟩, hD2.more (by omega), (KeepX.of_same s2).trans' k2, poolB, [], kx_at k2 hp1 pd.1 pd.2.1, rfl, poolB_ok.2, poolB_ok.1, kx_at k2 hq1 qd.1 qd.2.1, rfl, List.nodup_nil, fun z h => (by cases h), fun i p h => (by simp at h)⟩ (fun _ _ _ _ _ => trivial) ?_ ?_
    · intro j y σ' Hz Ha hj ⟨⟨u4, u5, eσ⟩, da, ka, pool, t, hp, pl, pnd, pok, hq, tl, tnd, tok, ah⟩ ⟨eb, ey⟩
      subst eσ
      subst eb
      subst ey
      refine ⟨_, rfl, .inl ⟨rfl, _, SqL.of hp⟩, _, rfl, _, rfl, p, _, rfl, .inl (SqL.of hp), d, l, i, _, _, rfl, da, by omega, ?_, ?_, fun z H3 z0 z1 hD3 k3 => ?_⟩
      · rw [List.length_map]
        omega
      · rw [List.length_map, Int.natAbs_natCast]
        exact Nat.lt_of_le_of_lt (show pool.length ≤ 1000 by omega) (by decide)
      · rw [List.length_map] at z1
        have zj : z.toNat < pool.length := by omega
        obtain ⟨sx, _, _, _⟩ := ixN_seq (ixN_nat (n := (pool.map V.str).length) (j := z.toNat) (by rw [List.length_map]; exact zj))
        rw [show ((z.toNat : Nat) : Int) = z by omega] at sx
        have pn := pd
        have hp3 := kx_at k3 hp pd.1 pd.2.1
        have hq3 := kx_at k3 hq qd.1 qd.2.1
        have em : (pool.map V.str)[z.toNat]? = some (V.str pool[z.toNat]) := by rw [List.getElem?_map, List.getElem?_eq_getElem zj] <;> rfl
        obtain ⟨f, ef⟩ : ∃ f, f = pool[z.toNat] := ⟨_, rfl⟩
        rw [← ef] at em
        have pm := erase_perm pool z.toNat zj
        rw [← ef] at pm
        obtain ⟨fn, nd2⟩ := List.nodup_cons.mp (pm.nodup_iff.mpr pnd)
        have fp : f ∈ pool := pm.mem_iff.mp (List.mem_cons_self ..)
        have sub : ∀ z' ∈ pool.eraseIdx z.toNat, z' ∈ pool := fun z' h => pm.mem_iff.mp (List.mem_cons_of_mem _ h)
        have le := pm.length_eq
        rw [List.length_cons] at le
        refine ⟨p, _, z, _, _, rfl, rfl, hp3, by omega, by omega, sx, em, ?_⟩
        rw [map_erase]
        obtain ⟨H4, e4⟩ : ∃ X, X = upd H3 p (.lst ((pool.eraseIdx z.toNat).map V.str)) := ⟨_, rfl⟩
        have np0 : H p = none := np
        have hD4 : DrawB H4 d l i (b + 1 + 3 * (j : Int) + 1) := by rw [e4]; exact hD3.off pd.1 pd.2.1 pd.2.2
        have k4 : KeepX [d, l] H H4 := by rw [e4]; exact kx_put (ka.trans' k3) np0
        have hp4 : H4 p = some (.lst ((pool.eraseIdx z.toNat).map V.str)) := by rw [e4, upd_same]
        have hq4 : H4 q = some (.dK (prs t)) := by rw [e4, upd_ne qp.symm]; exact hq3
        rw [← e4]
        have fresh : f ∉ t.map Prod.fst := fun h => (tok f h).2 fp
        -- the drawn parent
        refine ⟨_, rfl, by show 1 ≤ sizeLine; omega, fun p1 m1 => ?_⟩
        refine ⟨_, rfl, by show 3 ≤ sizeLine; omega, fun p2 m2 => ?_⟩
        obtain ⟨H5, e5⟩ : ∃ X, X = upd (upd H4 p1 (.lst [.str ""])) p2 (.lst (([1, 1, 4] : List Int).map V.int)) := ⟨_, rfl⟩
        have s5 : Same H4 H5 := e5 ▸ (same_new m1).trans (same_new m2)
        have p1d := hD4.apart m1
        have p2d := (hD4.mono (same_new m1)).apart m2
        have hp1 : H5 p1 = some (.lst [.str ""]) := by rw [e5]; exact same_new m2 _ _ upd_same
        have hp2 : H5 p2 = some (.lst (([1, 1, 4] : List Int).map V.int)) := by rw [e5, upd_same]
        subst e5
        refine ⟨d, l, i, p2, _, _, rfl, hD4.mono s5, by omega, hp2, p2d.2.1, (fun z => by cases z), by decide, fun x H6 xm hD6 k6 => ?_⟩
        obtain ⟨c', hc, rfl⟩ := List.mem_map.mp xm
        have cb : 0 ≤ c' ∧ c' ≤ 4 := by
          have : ∀ c' ∈ ([1, 1, 4] : List Int), 0 ≤ c' ∧ c' ≤ 4 := by decide
          exact this c' hc
        refine ⟨p1, c', _, rfl, rfl, kx_at k6 hp1 p1d.1 p1d.2.1, by omega, by omega, ?_, fun p3 m3 => ?_⟩
        · show 1 * c'.toNat ≤ sizeLine
          omega
        rw [rep_strs]
        have hq6 := kx_at k6 (s5 _ _ hq4) qd.1 qd.2.1
        have n3 := same_new (o := .lst ((List.replicate c'.toNat ("" : Str)).map V.str)) m3
        refine ⟨_, rfl, q, prs t, rfl, .inl (n3 _ _ hq6), fun p4 m4 => ?_⟩
        rw [prs_kV]
        have n4 := same_new (o := .lst ((t.map Prod.fst).map V.str)) m4
        refine ⟨p3, p4, _, _, rfl, rfl, n4 _ _ upd_same, upd_same, ?_, fun p5 m5 => ?_⟩
        · rw [List.length_map, List.length_map, List.length_map, List.length_replicate]
          omega
        rw [← List.map_append]
        obtain ⟨ws, ews⟩ : ∃ ws, ws = List.replicate c'.toNat ("" : Str) ++ t.map Prod.fst := ⟨_, rfl⟩
        rw [← ews]
        have n5 := same_new (o := .lst (ws.map V.str)) m5
        obtain ⟨H7, e7⟩ : ∃ X, X = upd (upd (upd H6 p3 (.lst ((List.replicate c'.toNat ("" : Str)).map V.str))) p4 (.lst ((t.map Prod.fst).map V.str))) p5 (.lst (ws.map V.str)) := ⟨_, rfl⟩
        have s7 : Same H6 H7 := e7 ▸ (n3.trans n4).trans n5
        have p5d := ((hD6.mono n3).mono n4).apart m5
        have hp5 : H7 p5 = some (.lst (ws.map V.str)) := by rw [e7, upd_same]
        rw [← e7]
        refine ⟨d, l, i, p5, _, _, rfl, hD6.mono s7, by omega, hp5, p5d.2.1, ?_, ?_, fun x H8 xm hD8 k8 => ?_⟩
        · intro e
          have e := congrArg List.length e
          rw [ews, List.length_map, List.length_append, List.length_replicate] at e
          have c1 : 1 ≤ c' := by
            have : ∀ c' ∈ ([1, 1, 4] : List Int), 1 ≤ c' := by decide
            exact this c' hc
          have e : c'.toNat + (t.map Prod.fst).length = 0 := e
          omega
        · rw [ews, List.length_map, List.length_append, List.length_replicate, List.length_map]
          omega
        obtain ⟨g, hg, rfl⟩ := List.mem_map.mp xm
        have hq8 := kx_at k8 (s7 _ _ hq6) qd.1 qd.2.1
        refine ⟨_, rfl, _, rfl, q, _, rfl, DPut.k (k := Sum.inr f) hq8 (by rw [prs_len]; omega), ?_⟩
        rw [put_new fresh]
        have gg : g = "" ∨ g ∈ t.map Prod.fst := by
          rw [ews] at hg
          rcases List.mem_append.mp hg with h | h
          · exact .inl (List.eq_of_mem_replicate h)
          · exact .inr h
        have k8' : KeepX [d, l] H H8 := ((k4.trans' (.of_same s5)).trans' k6).trans' ((KeepX.of_same s7).trans' k8)
        have hp8 := kx_at k8 (s7 _ _ (kx_at k6 (s5 _ _ hp4) pd.1 pd.2.1)) pd.1 pd.2.1
        refine ⟨⟨_, _, rfl⟩, (hD8.off qd.1 qd.2.1 qd.2.2).more (by omega), kx_put k8' q0, pool.eraseIdx z.toNat, t ++ [(f, g)], by rw [upd_ne qp]; exact hp8, by omega, nd2, fun z' h => pok z' (sub z' h), upd_same, by rw [List.length_append, tl] <;> rfl, ?_, ?_, ?_⟩
        · rw [List.map_append]
          refine List.nodup_append.mpr ⟨tnd, by show [f].Nodup; simp, fun a ha b hb => ?_⟩
          rw [List.mem_singleton.mp (show b ∈ [f] from hb)]
          exact fun e => fresh (e ▸ ha)
        · intro z' h
          rw [List.map_append] at h
          rcases List.mem_append.mp h with h | h
          · exact ⟨(tok z' h).1, fun m => (tok z' h).2 (sub z' m)⟩
          · rw [List.mem_singleton.mp (show z' ∈ [f] from h)]
            exact ⟨pok f fp, fn⟩
        · intro i p h
          rw [List.map_append]
          by_cases hi : i < t.length
          · rw [List.getElem?_append_left hi] at h
            rw [List.take_append_of_le_length (by rw [List.length_map]; omega)]
            exact ah i p h
          · have hl := (List.getElem?_eq_some_iff.mp h).1
            rw [List.length_append] at hl
            have one : ([(f, g)] : List (Str × Str)).length = 1 := rfl
            have ei : i = t.length := by omega
            subst ei
            rw [List.getElem?_append_right (Nat.le_refl _), Nat.sub_self] at h
            have ep : (f, g) = p := Option.some.inj h
            subst ep
            rw [List.take_append_of_le_length (by rw [List.length_map]; omega), List.take_of_length_le (by rw [List.length_map]; omega)]
            exact gg
    · intro σ' H3 ⟨⟨u4, u5, eσ⟩, da, ka, pool, t, hp, pl, pnd, pok, hq, tl, tnd, tok, ah⟩
      subst eσ
      refine ⟨_, rfl, k q t H3 (by omega) (tree_of (by omega) (by omega) tnd (fun z h => (tok z h).1) ah) ah q0 hq (da.more (by omega)) ka⟩
end
end FT


/-! Own: calls with keywords alone, two or four of them turned; pairs of a text and an int as data. -/
namespace FT
open PySem L2 TL ClX
def tCallK0 (m : Nat) (sp : Sp) (gV : List V → List V → List V) (E : XK) (tk : TA) : TE := fun σ H Q => tk σ H fun zs H1 => zs.length = m ∧ sp (gV [] zs) H1 Q E
/-- f(k = v, ..), no value by place -/
theorem pe_callK0 {X : Cx} {CX : CXT} {k : Nat} {f : Addr} {fd : FuncData} {ps ks : List Str} {sp : Sp} {E : XK} {x : Str} {p pos : Pos} {kw : Keyword} {kws : List Keyword} {tk : TA} {g : List Value → List Value → List Value} {gV : List V → List V → List V}
    (F : FnOk X.prog X.w X.K X.mg X.base CX k f fd ps sp) (hr : Room k X.A) (hg : Gl X x) (hm : X.mg x = some (.ref f)) (hk : PySem.W.keepIn X.K (.ref f) = true) (hb : KBn X.K fd ps 0 ks g gV) (hx : Passes CX X E)
    (hkw : PK X (kw :: kws) tk) (hall : (backToKw pos (keywordEach (kw :: kws) X.env)).all (·.1.isSome) = true := by rfl) (hks : (backToKw pos (keywordEach (kw :: kws) X.env)).filterMap (·.1) = ks := by rfl)
    (hdb : (x == ("__debug__" : Str)) = false := by decide) (hpl : ((backTo pos (starEach [] X.env)).any (·.1) || (backToKw pos (keywordEach (kw :: kws) X.env)).any (·.1.isNone)) = false := by rfl) : PE X (.Call (.Name x p) [] (kw :: kws) pos) (tCallK0 ks.length sp gV E tk) := by
  refine ⟨fun pins s σ H Q I h => ?_⟩
  refine wpAny_Call_Name_kw (ld_glob I hg hm ?_ hdb)
  refine PySem.W.callWith_KW0 (h₀ := X.base) I.ok.mod.kin hk hall ?_ hpl
  refine thn (hkw.run pos pins s σ H _ I h) fun ws s2 ⟨zs, H2, J, rz, l2, want⟩ => ⟨J.kIn, ?_⟩
  rw [hks]
  exact run_fnN (us := []) (vs := []) F hr hb hx J .nil rz rfl l2 want
/-- four values, turned -/
def turn4 {α : Type} : List α → List α
  | [a, b, c, d] => [d, c, b, a]
  | l => l
end FT


/-! five keywords, turned -/
namespace FT
open PySem L2 TL ClX
def turn5 {α : Type} : List α → List α
  | [a, b, c, d, e] => [e, d, c, b, a]
  | l => l
theorem turn5_rel {vs : List V} {us : List Value} (r : Vals vs us) : Vals (turn5 vs) (turn5 us) := by
  match vs, us, r with
  | [], _, .nil => exact .nil
  | [_], _, .cons a .nil => exact .cons a .nil
  | [_, _], _, .cons a (.cons b .nil) => exact .cons a (.cons b .nil)
  | [_, _, _], _, .cons a (.cons b (.cons c .nil)) => exact .cons a (.cons b (.cons c .nil))
  | [_, _, _, _], _, .cons a (.cons b (.cons c (.cons d .nil))) => exact .cons a (.cons b (.cons c (.cons d .nil)))
  | [_, _, _, _, _], _, .cons a (.cons b (.cons c (.cons d (.cons e .nil)))) => exact .cons e (.cons d (.cons c (.cons b (.cons a .nil))))
  | _ :: _ :: _ :: _ :: _ :: _ :: _, _, .cons a (.cons b (.cons c (.cons d (.cons e (.cons f r))))) => exact .cons a (.cons b (.cons c (.cons d (.cons e (.cons f r)))))
abbrev tn5 (α : Type) : List α → List α → List α := fun _ ws => turn5 ws
theorem kw5 {K : PySem.W.Frag} {x qual a b c d e : Str} {st : Stmt} {f : Addr} {fd : FuncData} {ps : List Str} (F : L2.Fun K x qual st f fd)
    (h : ∀ (kV doc pm : Value) (an : Option Addr) (cdv ct u v y z t : Value), bindArgs (PySem.W.fnOf x qual (defArgs st) (defBody st) (defScope st) .none kV doc pm an cdv ct) ⟨[], [(a, u), (b, v), (c, y), (d, z), (e, t)]⟩ = pure (ps.zip [t, z, y, v, u])) :
    KBn K fd ps 0 [a, b, c, d, e] (tn5 Value) (tn5 V) := by
  obtain ⟨oc, od, kV, doc, pm, an, cdv, ct, osl, rfl, lk, hcd⟩ := F.ex
  refine ⟨fun s us ws _ h1 h2 => ?_, fun _ r => turn5_rel r⟩
  match us, ws, h1, h2 with
  | [], [u, v, y, z, t], _, _ => exact .of_eq (h kV doc pm an cdv ct u v y z t)
end FT


/-! == of two lists of other lengths -/
namespace L2
open PySem PySem.Spec PyProof.Rows
section
variable {X : Cx}
def rEqLen : R2 := fun x y H Q => ∃ a b xs ys, x = .ref a ∧ y = .ref b ∧ H a = some (.lst xs) ∧ H b = some (.lst ys) ∧ xs.length ≠ ys.length ∧ Q (.bl false) H
end
end L2


/-! xs == [] and xs != [], whatever the items -/
namespace L2
open PySem PySem.Spec PyProof.Rows
section
variable {X : Cx}
def rNeLen : R2 := fun x y H Q => ∃ a b xs ys, x = .ref a ∧ y = .ref b ∧ H a = some (.lst xs) ∧ H b = some (.lst ys) ∧ xs.length ≠ ys.length ∧ Q (.bl true) H
theorem op_neLen (hu : X.A.units < cLine) : OpR X (compareOp .NotEq) rNeLen := by
  intro pins s σ H x y v u Q I rx ry h
  obtain ⟨a, b, xs, ys, rfl, rfl, ea, eb, ne, q⟩ := h
  obtain rfl : v = Value.ref a := rx
  obtain rfl : u = Value.ref b := ry
  obtain ⟨za, ia, na, ra, la, da⟩ := I.lstM ea
  obtain ⟨zb, ib, nb, rb, lb, db⟩ := I.lstM eb
  refine PySem.SeqAt.RcNeAt.lists_lengths (items := ia.toArray) (items2 := ib.toArray) ⟨_, da, rfl, _, rfl⟩ ⟨_, db, rfl, _, rfl⟩ ?_ hu _ _ _ _ ⟨.bl _, H, I, rfl, q⟩
  rw [List.size_toArray, List.size_toArray, bne_iff_ne]
  have h1 : xs.length = ia.length := by first | exact la | exact ra.length | exact la.symm
  have h2 : ys.length = ib.length := by first | exact lb | exact rb.length | exact lb.symm
  omega
def rEqNil : R2 := fun x y H Q => ∃ a b xs, x = .ref a ∧ y = .ref b ∧ H a = some (.lst xs) ∧ H b = some (.lst []) ∧ Q (.bl (decide (xs.length = 0))) H
def rNeNil : R2 := fun x y H Q => ∃ a b xs, x = .ref a ∧ y = .ref b ∧ H a = some (.lst xs) ∧ H b = some (.lst []) ∧ Q (.bl (!decide (xs.length = 0))) H
theorem op_neNil (hu : X.A.units + 64 < cLine) : OpR X (compareOp .NotEq) rNeNil := by
  intro pins s σ H x y v u Q I rx ry h
  obtain ⟨a, b, xs, rfl, rfl, ea, eb, q⟩ := h
  cases xs with
  | nil => exact op_neD hu pins s σ H _ _ v u Q I rx ry ⟨.list [], .list [], .lst (SqL.of ea) .nil, .lst (SqL.of eb) .nil, rfl, rfl, q⟩
  | cons x xs => exact op_neLen (by omega) pins s σ H _ _ v u Q I rx ry ⟨a, b, _, _, rfl, rfl, ea, eb, Nat.succ_ne_zero _, q⟩
end
end L2


/-! the law of k25 -/
namespace FT
open PySem L2 TL ClX LiI LamX
theorem DrawB.kz5 {H H' : Hp} {d l i : Addr} {b : Int} {A : List Addr} (k : KeepX A H H') (n : d ∉ A ∧ l ∉ A ∧ i ∉ A) (x : DrawB H d l i b) : DrawB H' d l i b := by
  obtain ⟨lf, tn, lg, it, a1, a2, a3, r⟩ := x
  exact ⟨lf, tn, lg, it, k _ _ n.1 a1, k _ _ n.2.1 a2, k _ _ n.2.2 a3, r⟩
structure W25 (P : Program) (w : World) (K : PySem.W.Frag) (mg : Str → Option Value) (base : Heap) (T : List (Addr × Str)) (CF CU CS CL CT : Addr) (mc : Value) (f : Nat → Addr) (fd : Nat → FuncData) : Prop where
  Z : Fc K mg CF mc
  bg : Dn P w K mg base CX0 1 "_law_begin" ["_law_script"] (spBeginB K) (f 0) (fd 0)
  dt : Dn P w K mg base CX0 2 "_law_take" ["_law_draw", "_law_size"] spTakeB (f 1) (fd 1)
  dp : Dn P w K mg base CX0 3 "_law_pick" ["_law_draw", "_law_some"] spPickB (f 2) (fd 2)
  fo : Dn P w K mg base CX0 4 "_law_forest" ["_law_draw", "_law_most"] spForBm (f 3) (fd 3)
  fi : FnOk P w K mg base CX0 3 (f 4) (fd 4) ["self", "parents"] (spFInit CF)
  fim : Mk K CF (f 4)
  fib : Binds K (fd 4) ["self", "parents"] []
  sz : Dn P w K mg base CX0 4 "_law_sizes" ["_law_draw", "_law_parents", "_law_folk"] spSizesB (f 5) (fd 5)
  co : Dn P w K mg base CX0 5 "_law_caps_of" ["_law_draw", "_law_parents", "_law_wide", "_law_fresh", "_law_small"] spCapsOf (f 6) (fd 6)
  di : Dn P w K mg base CX0 3 "_law_distance" ["_law_parents", "_law_folk", "_law_wide", "_law_fresh", "_law_caps_here"] spDist (f 7) (fd 7)
  fw : Dn P w K mg base (L2.CX P w) 8 "fewest" ["forest", "users", "sizes", "new", "limits"] (spFewest3 K CF CU CS CL) (f 8) (fd 8)
  fwk : KBn K (fd 8) ["forest", "users", "sizes", "new", "limits"] 0 ["limits", "new", "sizes", "users", "forest"] (tn5 Value) (tn5 V)
  pl : Dn P w K mg base (L2.CX P w) 9 "plan" ["forest", "users", "sizes", "new", "limits"] (spPlan K CF CU CS CL CT) (f 9) (fd 9)
  plk : KBn K (fd 9) ["forest", "users", "sizes", "new", "limits"] 0 ["limits", "new", "sizes", "users", "forest"] (tn5 Value) (tn5 V)
  plr : Dn P w K mg base CX0 3 "_law_plan_right" ["_law_parents", "_law_folk", "_law_wide", "_law_fresh", "_law_told", "_law_caps_here", "_law_cap"] (spPlanR K) (f 10) (fd 10)
  nw : FnG P w K mg base CX0 10 (f 11) (fd 11) ["_law_wood", "_law_folk", "_law_wide", "_law_fresh", "_law_caps_here", "_law_told"] (spNew25 CF)
  nwm : mg "_law_is_new" = some (.ref (f 11))
  nwp : PySem.W.keepIn K (.ref (f 11)) = true
  nwb : Binds K (fd 11) ["_law_wood", "_law_folk", "_law_wide", "_law_fresh", "_law_caps_here", "_law_told"] []
  rf : FnG P w K mg base CX0 12 (f 12) (fd 12) ["_law_draw", "_law_parents", "_law_folk", "_law_wide", "_law_fresh", "_law_caps_here"] (spRef25 T)
  rfm : mg "_law_refused_right" = some (.ref (f 12))
  rfp : PySem.W.keepIn K (.ref (f 12)) = true
  rfb : Binds K (fd 12) ["_law_draw", "_law_parents", "_law_folk", "_law_wide", "_law_fresh", "_law_caps_here"] []
def spLaw25 (K : PySem.W.Frag) (T : List (Addr × Str)) : Sp := fun vs H Q _ => ∃ (a : Addr) (ns : List Int), vs = [.ref a] ∧ SqL K H a (ns.map V.int) ∧ ns.length ≤ 63 ∧ Tabs T H ∧ ∀ H', Q (.bl true) H'
abbrev N25 : List Str := ["_law_script", "_law_draw", "_law_turn", "_law_small", "_law_parents", "_law_shown", "_law_due", "_law_found", "_law_caps_here", "_law_folk", "_law_fresh", "_law_wide", "_law_wood", "_law_name"]
def ob25 (CF q w1 w2 cc x dx dq : Addr) (t ts : List (Str × Str)) (s f c : Str → Int) : List (Addr × HO) := [(q, .dK (prs t)), (w1, .dK (tblI (t.map Prod.fst) s)), (w2, .dK (tblI (t.map Prod.fst) f)), (cc, .dK (tblI (t.map Prod.fst) c)), (x, .ins CF dx [("above", .ref dq)]), (dq, .dK (prs ts))]
def shn25 (t : List (Str × Str)) (s f c : Str → Int) : Str := (PyData.list (szD (t.map Prod.fst) [s, f, c])).shown
/-- the tree stands -/
def tP25 (T : List (Addr × Str)) : TS := fun D σ H => ∃ (d l i q : Addr) (t : List (Str × Str)) (b : Int) (sm : Bool) (u0 u2 u5 u6 u7 u8 u9 u10 u11 u12 : Option V),
  σ = [u0, some (.ref d), u2, some (.bl sm), some (.ref q), u5, u6, u7, u8, u9, u10, u11, u12, none] ∧ Kept T d l i [(q, .dK (prs t))] b H ∧ TreeOk t ∧ Ahead t ∧ (sm = true → t.length ≤ 3) ∧ b + 900 ≤ 10 ^ 12 ∧
  ∀ (H' : Hp) (u5' u6' u7' u8' u9' u10' u11' u12' : Option V), DrawB H' d l i (b + 800) → Tabs T H' → D.nx [u0, some (.ref d), u2, some (.bl sm), some (.ref q), u5', u6', u7', u8', u9', u10', u11', u12', none] H'
/-- the tree and the users stand -/
def tF25 (T : List (Addr × Str)) : TS := fun D σ H => ∃ (d l i q : Addr) (t : List (Str × Str)) (b n : Int) (sm : Bool) (u0 u2 u5 u6 u7 u8 u10 u11 u12 : Option V),
  σ = [u0, some (.ref d), u2, some (.bl sm), some (.ref q), u5, u6, u7, u8, some (.int n), u10, u11, u12, none] ∧ Kept T d l i [(q, .dK (prs t))] b H ∧ TreeOk t ∧ Ahead t ∧ 1 ≤ n ∧ n ≤ 10 ^ 30 ∧ (sm = true → t.length ≤ 3 ∧ n ≤ 4) ∧ b + 850 ≤ 10 ^ 12 ∧
  ∀ (H' : Hp) (u5' u6' u7' u8' u9' u10' u11' u12' : Option V), DrawB H' d l i (b + 750) → Tabs T H' → D.nx [u0, some (.ref d), u2, some (.bl sm), some (.ref q), u5', u6', u7', u8', u9', u10', u11', u12', none] H'
/-- the drawn things stand -/
def tA25 (T : List (Addr × Str)) : TS := fun D σ H => ∃ (d l i q w1 w2 cc : Addr) (t : List (Str × Str)) (s f c : Str → Int) (b n : Int) (sm : Bool) (u0 u2 u5 u6 u7 u12 : Option V),
  σ = [u0, some (.ref d), u2, some (.bl sm), some (.ref q), u5, u6, u7, some (.ref cc), some (.int n), some (.ref w2), some (.ref w1), u12, none] ∧ Kept T d l i (obj4 q w1 w2 cc t s f c) b H ∧ TreeOk t ∧ 1 ≤ n ∧ n ≤ 10 ^ 30 ∧ Fea t n s ∧ Fea t n f ∧ (∀ a ∈ t.map Prod.fst, 1 ≤ c a ∧ c a ≤ 10 ^ 30) ∧ (sm = true → t.length ≤ 3 ∧ n ≤ 4 ∧ ∀ a ∈ t.map Prod.fst, c a ≤ 6) ∧ b + 400 ≤ 10 ^ 12 ∧
  ∀ (H' : Hp) (u5' u6' u7' u12' : Option V), DrawB H' d l i (b + 300) → Tabs T H' → D.nx [u0, some (.ref d), u2, some (.bl sm), some (.ref q), u5', u6', u7', some (.ref cc), some (.int n), some (.ref w2), some (.ref w1), u12', none] H'
/-- what is due stands -/
def tB25 (T : List (Addr × Str)) (CF : Addr) : TS := fun D σ H => ∃ (d l i q w1 w2 cc x dx dq : Addr) (t ts : List (Str × Str)) (s f c : Str → Int) (b n m : Int) (sm : Bool) (u0 u2 u7 : Option V),
  σ = [u0, some (.ref d), u2, some (.bl sm), some (.ref q), some (.str (shn25 t s f c)), some (.int m), u7, some (.ref cc), some (.int n), some (.ref w2), some (.ref w1), some (.ref x), none] ∧ Kept T d l i (ob25 CF q w1 w2 cc x dx dq t ts s f c) b H ∧ G25 t ts n s f c m ∧ (sm = true → D25 t n s f c m) ∧ b + 400 ≤ 10 ^ 12 ∧
  ∀ (H' : Hp) (u7' : Option V), DrawB H' d l i (b + 300) → Tabs T H' → D.nx [u0, some (.ref d), u2, some (.bl sm), some (.ref q), some (.str (shn25 t s f c)), some (.int m), u7', some (.ref cc), some (.int n), some (.ref w2), some (.ref w1), some (.ref x), none] H'
def Fd25 (H : Hp) (r : Addr) (L : List (Addr × HO)) (d l i : Addr) (ts : List (Str × Str)) (s f : Str → Int) (m : Int) : Prop :=
  (200 < m ∧ H r = some (.tup [.str "many", .int 200])) ∨ (m ≤ 200 ∧ ∃ (p : Addr) (rs : List Addr), H r = some (.tup [.str "value", .ref p]) ∧ H p = some (.lst (rs.map V.ref)) ∧ Paired (DcL H (ts.map Prod.fst)) rs (gs25 s f m) ∧ (∀ e ∈ L, e.1 ∉ rs) ∧ d ∉ rs ∧ l ∉ rs ∧ i ∉ rs)
theorem Fd25.mono {H H' : Hp} {r : Addr} {L : List (Addr × HO)} {d l i : Addr} {ts : List (Str × Str)} {s f : Str → Int} {m : Int} (k : Same H H') (h : Fd25 H r L d l i ts s f m) : Fd25 H' r L d l i ts s f m := by
  rcases h with ⟨a, b⟩ | ⟨a, p, rs, h1, h2, h3, h4⟩
  · exact .inl ⟨a, k _ _ b⟩
  · exact .inr ⟨a, p, rs, k _ _ h1, k _ _ h2, pair_imp5 (fun r g h => k _ _ h) h3, h4⟩
/-- the plan is found -/
def tD25 (T : List (Addr × Str)) (CF : Addr) : TS := fun D σ H => ∃ (d l i q w1 w2 cc x dx dq r : Addr) (t ts : List (Str × Str)) (s f c : Str → Int) (b n m : Int) (sm : Bool) (u0 u2 : Option V),
  σ = [u0, some (.ref d), u2, some (.bl sm), some (.ref q), some (.str (shn25 t s f c)), some (.int m), some (.ref r), some (.ref cc), some (.int n), some (.ref w2), some (.ref w1), some (.ref x), none] ∧ Kept T d l i (ob25 CF q w1 w2 cc x dx dq t ts s f c) b H ∧ G25 t ts n s f c m ∧ b + 400 ≤ 10 ^ 12 ∧
  Fd25 H r (ob25 CF q w1 w2 cc x dx dq t ts s f c) d l i ts s f m ∧
  ∀ (H' : Hp) (u7' : Option V), DrawB H' d l i (b + 300) → Tabs T H' → D.nx [u0, some (.ref d), u2, some (.bl sm), some (.ref q), some (.str (shn25 t s f c)), some (.int m), u7', some (.ref cc), some (.int n), some (.ref w2), some (.ref w1), some (.ref x), none] H'
/-- the end of a turn -/
def tE25 (T : List (Addr × Str)) (CF : Addr) : TS := fun D σ H => ∃ (d l i q w1 w2 cc x dx dq : Addr) (t ts : List (Str × Str)) (s f c : Str → Int) (b n m : Int) (sm : Bool) (u0 u2 u7 : Option V),
  σ = [u0, some (.ref d), u2, some (.bl sm), some (.ref q), some (.str (shn25 t s f c)), some (.int m), u7, some (.ref cc), some (.int n), some (.ref w2), some (.ref w1), some (.ref x), none] ∧ Kept T d l i (ob25 CF q w1 w2 cc x dx dq t ts s f c) b H ∧ G25 t ts n s f c m ∧ b + 400 ≤ 10 ^ 12 ∧
  ∀ (H' : Hp) (u7' : Option V), DrawB H' d l i (b + 300) → Tabs T H' → D.nx [u0, some (.ref d), u2, some (.bl sm), some (.ref q), some (.str (shn25 t s f c)), some (.int m), u7', some (.ref cc), some (.int n), some (.ref w2), some (.ref w1), some (.ref x), none] H'
section
variable {P : Program} {w : World} {K : PySem.W.Frag} {mg : Str → Option Value} {base : Heap}
theorem sc25 : FnScope N25 ["_law_script"] (defScope s_law) := ⟨rfl, rfl, rfl, by decide +kernel, rfl, by decide +kernel, by decide +kernel⟩
theorem ok_law25 {f0 fRs CF CU CS CL CT R0 co ta : Addr} {mc : Value} {CC : Nat → Addr} {T : List (Addr × Str)} {f : Nat → Addr} {fd : Nat → FuncData} {fd0 fdRs : FuncData} (F : FunC K "law" "law" s_law f0 fd0 co) (N : Nm mg) (L : W25 P w K mg base T CF CU CS CL CT mc f fd)
    (GE : Ge K mg "_law_result" s__law_result fRs fdRs) (C : Cl7 K mg R0 CC) (eT : CC 6 = CT) (TB : TabB base mg co ta) (hmT : (ta, lamQ "law") ∈ T) (hut : ∀ p ∈ T, p.1 = ta → p.2 = lamQ "law") : FnG P w K mg base CX0 13 f0 fd0 ["_law_script"] (spLaw25 K T) := by
  refine F.okG sc25 (fun vs H Q E h => ?_) (fun A outer s H vs Q E clr hr h => ?_)
  · obtain ⟨a, ns, rfl, _⟩ := h
    rfl
  · obtain ⟨a, ns, rfl, hS, hlen, tT, k⟩ := h
    have hu := hu_of hr
    have nd := sc25.nd
    have hr1 : Room 1 _ := hr.mono (by decide)
    have hr2 : Room 2 _ := hr.mono (by decide)
    have hr3 : Room 3 _ := hr.mono (by decide)
    have hr4 : Room 4 _ := hr.mono (by decide)
    have hr5 : Room 5 _ := hr.mono (by decide)
    have hr8 : Room 8 _ := hr.mono (by decide)
    have hr9 : Room 9 _ := hr.mono (by decide)
    have hr10 : Room 10 _ := hr.mono (by decide)
    have hr11 : Room 11 _ := hr.mono (by decide)
    have big : 1000 ≤ sizeLine := by decide
    refine ⟨_, pss_cons (ps_set (i := 1) nd rfl (.inl rfl) (pe_call L.bg.ok hr1 rfl L.bg.mgn L.bg.kp L.bg.bn .nil pass0 (pa_cons (pv 0) pa_nil)))
      (pss_cons (ps_for PassesOwn.never rfl (pi_range1 (by rfl) N.rng (pa_cons (pe_op op_add pe_int (pe_callB (call_min2 rfl) (by rfl) N.min (by decide +kernel) (pa_cons (pe_callB call_len_seq (by rfl) N.len PySem.boot_len (pa_cons (pv 0) pa_nil)) (pa_cons pe_int pa_nil)))) pa_nil)) (pg_name (i := 2) nd rfl (.inl rfl))
        (pss_cons (ps_set (i := 3) nd rfl (.inl rfl) (pe_cmpR op_eq (pe_call L.dt.ok hr2 rfl L.dt.mgn L.dt.kp L.dt.bn .nil pass0 (pa_cons (pv 1) (pa_cons pe_int pa_nil))) pe_int (nomark _)))
        (pss_cons (ps_set (i := 4) nd rfl (.inl rfl) (pe_call L.fo.ok hr4 rfl L.fo.mgn L.fo.kp L.fo.bn .nil pass0 (pa_cons (pv 1) (pa_cons (pe_ifExp (pt_val (pv 3)) pe_int pe_int) pa_nil))))
        (pss_impQ (t' := tP25 T) (pss_cons (ps_set (i := 9) nd rfl (.inr rfl) (pe_op op_add pe_int (pe_call L.dt.ok hr2 rfl L.dt.mgn L.dt.kp L.dt.bn .nil pass0 (pa_cons (pv 1) (pa_cons (pe_ifExp (pt_val (pv 3)) pe_int (pe_call L.dp.ok hr3 rfl L.dp.mgn L.dp.kp L.dp.bn .nil pass0 (pa_cons (pv 1) (pa_cons (pe_lst (pa_cons pe_int (pa_cons pe_int (pa_cons (pe_op op_pow pe_int pe_int) pa_nil)))) pa_nil)))) pa_nil)))))
        (pss_impQ (t' := tF25 T) (pss_cons (ps_asg (pe_tup (pa_cons (pe_call L.sz.ok hr4 rfl L.sz.mgn L.sz.kp L.sz.bn .nil pass0 (pa_cons (pv 1) (pa_cons (pv 4) (pa_cons (pv 9) pa_nil)))) (pa_cons (pe_call L.sz.ok hr4 rfl L.sz.mgn L.sz.kp L.sz.bn .nil pass0 (pa_cons (pv 1) (pa_cons (pv 4) (pa_cons (pv 9) pa_nil)))) pa_nil))) (pg_tup rfl (pgs_cons (pg_name (i := 11) nd rfl (.inr rfl)) (pgs_cons (pg_name (i := 10) nd rfl (.inr rfl)) pgs_nil))))
        (pss_cons (ps_set (i := 8) nd rfl (.inr rfl) (pe_call L.co.ok hr5 rfl L.co.mgn L.co.kp L.co.bn .nil pass0 (pa_cons (pv 1) (pa_cons (pv 4) (pa_cons (pv 11) (pa_cons (pv 10) (pa_cons (pv 3) pa_nil)))))))
        (pss_impQ (t' := tA25 T) (pss_cons (ps_asg (pe_tup (pa_cons (pe_make L.fim L.fi hr4 (by rfl) L.Z.gF L.fib .nil pass0 (pa_cons (pv 4) pa_nil)) (pa_cons (pe_callB (call_reprR clr.deeper hr.units) (by rfl) N.rep (by decide +kernel) (pa_cons (pe_lst (pa_cons (pv 11) (pa_cons (pv 10) (pa_cons (pv 8) pa_nil)))) pa_nil)) pa_nil)))
            (pg_tup rfl (pgs_cons (pg_name (i := 12) nd rfl (.inr rfl)) (pgs_cons (pg_name (i := 5) nd rfl (.inl rfl)) pgs_nil))))
        (pss_cons (ps_set (i := 6) nd rfl (.inl rfl) (pe_callB (cr_max rfl) (by rfl) N.max (by decide +kernel) (pa_cons (pe_lock (pe_lc (own := [("_law_name", 13)]) (g := gName 13) (tt := tYes) rfl nd (pi_keys (pv 4)) (blkOk_by (N := N25) (sc := defScope s_law) (by decide +kernel)) (fun _ _ _ _ _ => pg_name (i := 13) nd rfl (Or.inl rfl)) (fun _ _ _ _ _ => pts_nil)
            (fun _ _ _ _ _ => pe_un un_neg (pe_op op_fdivW (pe_un un_neg (pe_callB call_abs (by rfl) N.abs (by decide +kernel) (pa_cons (pe_op op_sub (pe_dget hu (pv 10) (pv 13) (fun _ _ => rfl)) (pe_dget hu (pv 11) (pv 13) (fun _ _ => rfl))) pa_nil))) (pe_dget hu (pv 8) (pv 13) (fun _ _ => rfl)))))) pa_nil)))
        (pss_impQ (t' := tB25 T CF) (pss_cons (ps_if (PW.pt (pw_and (pt_val (pv 3)) (pw_and1 (pt_cmpR op_ne (pe_call L.di.ok hr3 rfl L.di.mgn L.di.kp L.di.bn .nil pass0 (pa_cons (pv 4) (pa_cons (pv 9) (pa_cons (pv 11) (pa_cons (pv 10) (pa_cons (pv 8) pa_nil)))))) (pv 6) (nomark _))))) (pss_one (ps_ret pe_bl)) pss_nil)
          (pss_impQ (t' := tB25 T CF) (pss_cons (ps_if (pt_cmpR op_ne (pe_call (E := E0) L.fw.ok hr8 rfl L.fw.mgn L.fw.kp L.fw.bn .nil L2.passL (pa_cons (pv 12) (pa_cons (pv 9) (pa_cons (pv 11) (pa_cons (pv 10) (pa_cons (pv 8) pa_nil)))))) (pv 6) (nomark _)) (pss_one (ps_ret pe_bl)) pss_nil)
          (pss_cons (ps_if (pt_cmpR op_ne (pe_callK0 (E := E0) L.fw.ok hr8 rfl L.fw.mgn L.fw.kp L.fwk L2.passL (pk_cons (pv 8) (pk_cons (pv 10) (pk_cons (pv 11) (pk_cons (pv 9) (pk_cons (pv 12) pk_nil)))))) (pv 6) (nomark _)) (pss_one (ps_ret pe_bl)) pss_nil)
          (pss_cons (ps_set (i := 7) nd rfl (.inl rfl) (pe_lamS (T := T) (k := 9) (t := fun E => tCallK0 (["limits", "new", "sizes", "users", "forest"] : List Str).length (spPlan K CF CU CS CL CT) (tn5 V) E (tCons (tVar 8) (tCons (tVar 10) (tCons (tVar 11) (tCons (tVar 9) (tCons (tVar 12) tNil)))))) rfl GE.mgn GE.fn GE.bn scRs rfl (.inl rfl) (fun cdg => result_gives N C) TB rfl hmT hut hr11 (lamS_by (sc := defScope s_law) (by decide +kernel)) rfl (fun _ _ _ _ _ => rfl)
              (fun A outer s H E f c' hr2 => pe_callK0 L.pl.ok hr2 rfl L.pl.mgn L.pl.kp L.plk (passes_call (takes_of rfl rfl rfl rfl) (fun _ _ _ _ h => h)) (pk_cons (pv 8) (pk_cons (pv 10) (pk_cons (pv 11) (pk_cons (pv 9) (pk_cons (pv 12) pk_nil))))))))
          (pss_impQ (t' := tD25 T CF) (pss_cons (ps_if (pt_cmpR op_gt (pv 6) pe_int (nomark _))
              (pss_one (ps_if (pt_cmpR (op_neD hr.units) (pv 7) (pe_tup (pa_cons pe_str (pa_cons pe_int pa_nil))) (nomark _)) (pss_one (ps_ret pe_bl)) pss_nil))
              (pss_one (ps_if (PW.pt (pw_or (pt_cmpR op_ne (pe_ix ix_tup (pv 7) pe_int (fun _ _ => rfl)) pe_str (nomark _)) (pw_or (pt_not (pt_val (pe_callB call_isi (by rfl) N.isi (by decide +kernel) (pa_cons (pe_ix ix_tup (pv 7) pe_int (fun _ _ => rfl)) (pa_cons (pe_bltn (v := .ty "list") (u := .type "list") (by rfl) N.lst (by decide +kernel) rfl) pa_nil)))))
                  (pw_or1 (pt_cmpR op_ne (pe_callB call_len_seq (by rfl) N.len PySem.boot_len (pa_cons (pe_ix ix_tup (pv 7) pe_int (fun _ _ => rfl)) pa_nil)) (pv 6) (nomark _)))))) (pss_one (ps_ret pe_bl))
                (pss_one (ps_if (pt_not (pt_val (pe_call L.plr.ok hr3 rfl L.plr.mgn L.plr.kp L.plr.bn .nil pass0 (pa_cons (pv 4) (pa_cons (pv 9) (pa_cons (pv 11) (pa_cons (pv 10) (pa_cons (pe_ix ix_tup (pv 7) pe_int (fun _ _ => rfl)) (pa_cons (pv 8) (pa_cons pe_non pa_nil)))))))))) (pss_one (ps_ret pe_bl)) pss_nil)))))
          (pss_impQ (t' := tD25 T CF) (pss_cons (ps_if (PW.pt (pw_and (pt_cmpR op_le (pv 6) pe_int (nomark _)) (pw_and1 (pt_not (pt_val (pe_callG L.nw clr.deeper hr10 rfl L.nwm L.nwp L.nwb .nil pass0 (pa_cons (pv 12) (pa_cons (pv 9) (pa_cons (pv 11) (pa_cons (pv 10) (pa_cons (pv 8) (pa_cons (pe_ix ix_tup (pv 7) pe_int (fun _ _ => rfl)) pa_nil))))))))))) ) (pss_one (ps_ret pe_bl)) pss_nil)
          (pss_impQ (t' := tE25 T CF) (pss_cons (ps_if (PW.pt (pw_or (pt_cmpR (op_neNil hr.units) (pe_call (E := E0) L.pl.ok hr9 rfl L.pl.mgn L.pl.kp L.pl.bn .nil L2.passL (pa_cons (pv 12) (pa_cons (pv 9) (pa_cons (pv 11) (pa_cons (pe_callTy call_dictD (by rfl) N.dct (by decide +kernel) (pa_cons (pv 11) pa_nil)) (pa_cons (pv 8) pa_nil)))))) (pe_lst pa_nil) (nomark _))
              (pw_or1 (pt_cmpR op_ne (pe_callB (call_reprR clr.deeper hr.units) (by rfl) N.rep (by decide +kernel) (pa_cons (pe_lst (pa_cons (pv 11) (pa_cons (pv 10) (pa_cons (pv 8) pa_nil)))) pa_nil)) (pv 5) (nomark _))))) (pss_one (ps_ret pe_bl)) pss_nil)
          (pss_one (ps_if (pt_not (pt_val (pe_callG L.rf clr.deeper hr rfl L.rfm L.rfp L.rfb .nil pass0 (pa_cons (pv 1) (pa_cons (pv 4) (pa_cons (pv 9) (pa_cons (pv 11) (pa_cons (pv 10) (pa_cons (pv 8) pa_nil))))))))) (pss_one (ps_ret pe_bl)) pss_nil))) ?_)) ?_)) ?_)))) ?_)) ?_))) ?_))) ?_)) ?_))))
      (pss_one (ps_ret pe_bl))), ?_⟩
    · -- the end of a turn
      intro D0 σ H1 ⟨d, l, i, q, w1, w2, cc, x, dx, dq, t, ts, s, f', c, b, n, m, sm, u0, u2, u7, eσ, S, G, bb, kk⟩
      subst eσ
      have o := G.o
      have few := o.few
      have lk : (t.map Prod.fst).length = t.length := List.length_map _
      have pR := List.Perm.refl (t.map Prod.fst)
      have hw1 : H1 w1 = some (.dK (tblI (t.map Prod.fst) s)) := S.at_ (w1, _) (by simp [ob25])
      refine ⟨_, rfl, _, rfl, _, rfl, _, rfl, w1, _, rfl, .inl hw1, fun w3 nw3 => ?_⟩
      have s12 := same_new (o := .dK (tblI (t.map Prod.fst) s)) nw3
      obtain ⟨H2, e2⟩ : ∃ X, X = upd H1 w3 (.dK (tblI (t.map Prod.fst) s)) := ⟨_, rfl⟩
      have hw3 : H2 w3 = some (.dK (tblI (t.map Prod.fst) s)) := by rw [e2]; exact upd_same
      rw [← e2] at s12 ⊢
      clear e2
      have S2 := S.same s12
      have fa2 : FAt CF H2 x ts := ⟨dx, dq, S2.at_ (x, _) (by simp [ob25]), S2.at_ (dq, _) (by simp [ob25])⟩
      refine ⟨_, rfl, x, .int n, .ref w1, .ref w3, .ref cc, ts, some (tblI (t.map Prod.fst) s), some (tblI (t.map Prod.fst) s), some (tblI (t.map Prod.fst) c), rfl, fa2, G.ot, ⟨_, .int _⟩, szm_tbl (s12 _ _ hw1), szm_tbl hw3, szm_tbl (S2.at_ (cc, _) (by simp [ob25])), G.smc pR, ?_⟩
      rw [G.self.am pR pR, G.li pR]
      intro m' hm' m0'
      have e0 : m' = 0 := G.self.max pR pR pR hm'
      subst e0
      rw [if_neg (by decide)]
      intro p rs H3 s23 np hp pr nr
      have rs0 : rs = [] := by
        have l := pr.length
        rw [List.length_range] at l
        exact List.length_eq_zero_iff.mp l
      subst rs0
      have S3 := S2.same s23
      refine ⟨by show 0 ≤ sizeLine; omega, fun e4 ne4 => ?_⟩
      have s34 := same_new (o := .lst []) ne4
      refine ⟨p, e4, [], rfl, rfl, s34 _ _ hp, upd_same, _, rfl, ?_⟩
      refine iteF ?_
      have S4 := S3.same s34
      obtain ⟨H4, e4'⟩ : ∃ X, X = upd H3 e4 (.lst []) := ⟨_, rfl⟩
      rw [← e4'] at S4 ⊢
      clear e4' s34
      refine ⟨_, rfl, _, rfl, _, rfl, by show 3 ≤ sizeLine; omega, fun pl npl => ?_⟩
      have s45 := same_new (o := .lst [.ref w1, .ref w2, .ref cc]) npl
      have S5 := S4.same s45
      obtain ⟨r1, r2, r3, r4⟩ := lst_reprL (K := K) (l := t.map Prod.fst) (rs := [w1, w2, cc]) (gs := [s, f', c]) (fun a ha => o.nm a ha) (by omega) (by show 3 ≤ 200; decide) (fun g hg a ha => by
        simp only [List.mem_cons, List.not_mem_nil, or_false] at hg
        rcases hg with rfl | rfl | rfl
        · exact G.box G.fs a ha
        · exact G.box G.ff a ha
        · have := G.cb a ha
          omega) upd_same (.cons (S5.at_ (w1, _) (by simp [ob25])) (.cons (S5.at_ (w2, _) (by simp [ob25])) (.cons (S5.at_ (cc, _) (by simp [ob25])) .nil)))
      refine ⟨.ref pl, _, rfl, r1, r2, r3, r4, _, rfl, rfl, _, rfl, ?_⟩
      rw [show decide (V.str (PyData.list (szD (t.map Prod.fst) [s, f', c])).shown = V.str (shn25 t s f' c)) = true from decide_eq_true rfl]
      refine iteF ?_
      refine ⟨_, rfl, _, rfl, _, rfl, _, rfl, _, rfl, _, rfl, d, l, i, q, w1, w2, cc, b, n, t, s, f', c, _, rfl, S5, fun e he => ?_, by omega, o, G.n1, G.n30, fun a ha => ?_, fun H6 S6 => ⟨_, rfl, iteF ?_⟩⟩
      · unfold obj4 at he
        unfold ob25
        simp only [List.mem_cons, List.not_mem_nil, or_false] at he ⊢
        rcases he with h | h | h | h <;> simp [h]
      · have := G.cb a ha
        show (c a).natAbs < 2 ^ 200
        omega
      · exact kk H6 _ (S6.dr.more (by omega)) S6.tb
    · -- the dicts of a plan are its own
      intro D0 σ H1 ⟨d, l, i, q, w1, w2, cc, x, dx, dq, r, t, ts, s, f', c, b, n, m, sm, u0, u2, eσ, S, G, bb, fd25, kk⟩
      subst eσ
      rcases fd25 with ⟨big200, hr1⟩ | ⟨le200, p, rs, hr1, hp1, pr1, offL, offd, offl, offi⟩
      · refine ⟨_, rfl, _, _, rfl, rfl, _, rfl, ?_⟩
        rw [decide_eq_false (show ¬ m ≤ 200 by omega)]
        exact iteF (iteF ⟨d, l, i, q, w1, w2, cc, x, dx, dq, t, ts, s, f', c, b, n, m, sm, _, _, _, rfl, S, G, bb, kk⟩)
      refine ⟨_, rfl, _, _, rfl, rfl, _, rfl, ?_⟩
      rw [decide_eq_true le200]
      refine iteT ?_
      have fa1 : FAt CF H1 x ts := ⟨dx, dq, S.at_ (x, _) (by simp [ob25]), S.at_ (dq, _) (by simp [ob25])⟩
      have solid : ∀ r' ∈ rs, Solid H1 r' := fun r' m => by
        obtain ⟨j, hj⟩ := List.mem_iff_getElem?.mp m
        obtain ⟨g, _, e⟩ := LiI.paired_get pr1 hj
        exact ⟨_, e, (by intro _ z; cases z), (by intro _ z; cases z)⟩
      refine ⟨_, rfl, _, rfl, _, rfl, _, rfl, _, rfl, _, rfl, r, _, 1, .ref p, rfl, rfl, .inl (.inl hr1), atI_nat (j := 1) rfl, x, w1, w2, cc, p, n, m, t, ts, s, f', c, rs, rfl, G, le200, fa1, S.at_ (w1, _) (by simp [ob25]), S.at_ (w2, _) (by simp [ob25]), S.at_ (cc, _) (by simp [ob25]), hp1, pr1, offL (w1, .dK (tblI (t.map Prod.fst) s)) (by simp [ob25]), offL (w2, .dK (tblI (t.map Prod.fst) f')) (by simp [ob25]), offL (cc, .dK (tblI (t.map Prod.fst) c)) (by simp [ob25]), fun H2 kx => ⟨_, rfl, iteF ?_⟩⟩
      have S2 : Kept T d l i (ob25 CF q w1 w2 cc x dx dq t ts s f' c) b H2 := ⟨DrawB.kz5 kx ⟨offd, offl, offi⟩ S.dr, Tabs.kx kx solid S.tb, fun e he => kx _ _ (offL e he) (S.at_ e he), S.off, S.so⟩
      exact ⟨d, l, i, q, w1, w2, cc, x, dx, dq, t, ts, s, f', c, b, n, m, sm, _, _, _, rfl, S2, G, bb, kk⟩
    · -- the plan is judged
      intro D0 σ H1 ⟨d, l, i, q, w1, w2, cc, x, dx, dq, r, t, ts, s, f', c, b, n, m, sm, u0, u2, eσ, S, G, bb, fd25, kk⟩
      subst eσ
      have o := G.o
      have on : ∀ H', Same H1 H' → tD25 T CF D0 [u0, some (.ref d), u2, some (.bl sm), some (.ref q), some (.str (shn25 t s f' c)), some (.int m), some (.ref r), some (.ref cc), some (.int n), some (.ref w2), some (.ref w1), some (.ref x), none] H' := fun H' s' =>
        ⟨d, l, i, q, w1, w2, cc, x, dx, dq, r, t, ts, s, f', c, b, n, m, sm, _, _, rfl, S.same s', G, bb, fd25.mono s', kk⟩
      rcases id fd25 with ⟨big200, hr1⟩ | ⟨le200, p, rs, hr1, hp1, pr1, _⟩
      · refine ⟨_, rfl, _, _, rfl, rfl, _, rfl, ?_⟩
        rw [decide_eq_true (show m > 200 from big200)]
        refine iteT ⟨_, rfl, by show 2 ≤ sizeLine; omega, fun tp ntp => ?_⟩
        have st := same_new (o := .tup [.str "many", .int 200]) ntp
        have shp : SeqAt.shaped (.tuple [.str "many", .int 200]) = true := by decide +kernel
        refine ⟨.tuple [.str "many", .int 200], .tuple [.str "many", .int 200], .tup (SqT.of (st _ _ hr1)) (.cons (.str _) (.cons (.int _) .nil)), .tup (SqT.of upd_same) (.cons (.str _) (.cons (.int _) .nil)), shp, shp, _, rfl, ?_⟩
        rw [show (!PyData.eqv (.tuple [.str "many", .int 200]) (.tuple [.str "many", .int 200])) = false by decide +kernel]
        exact iteF (on _ st)
      refine ⟨_, rfl, _, _, rfl, rfl, _, rfl, ?_⟩
      rw [decide_eq_false (show ¬ m > 200 by omega)]
      refine iteF ?_
      have m0 := G.m0
      have lrs : (rs.length : Int) = m := by
        rw [pr1.length, gs_len]
        omega
      have small : ∀ {g : Str → Int}, Fea t n g → ∀ a ∈ t.map Prod.fst, Sm9 (g a) := fun {g} fg a ha => by
        have := G.box fg a ha
        unfold Sm9
        omega
      refine ⟨_, rfl, r, _, 0, .str "value", rfl, rfl, .inl (.inl hr1), atI_nat (j := 0) rfl, rfl, _, rfl, ?_⟩
      rw [decide_eq_true rfl]
      refine iteF ?_
      refine ⟨_, rfl, r, _, 1, .ref p, rfl, rfl, .inl (.inl hr1), atI_nat (j := 1) rfl, .ref p, _, _, _, true, rfl, .ty _, .base (.lst hp1), kit_ty (by decide +kernel), true, rfl, ?_⟩
      refine iteF ?_
      refine ⟨_, rfl, r, _, 1, .ref p, rfl, rfl, .inl (.inl hr1), atI_nat (j := 1) rfl, p, _, rfl, .inl (SqL.of hp1), _, rfl, rfl, _, rfl, ?_⟩
      rw [decide_eq_true (show V.int ((rs.map V.ref).length : Int) = V.int m by rw [List.length_map, lrs])]
      refine iteF ?_
      have dcp : ∀ {H' : Hp} {xs : List Addr} {ys : List (Str → Int)}, Paired (DcL H' (ts.map Prod.fst)) xs ys → Paired (DcP H' t) xs ys := fun h => pair_imp5 (fun a g e => ⟨ts.map Prod.fst, e, G.pk⟩) h
      refine ⟨_, rfl, _, rfl, _, rfl, _, rfl, _, rfl, r, _, 1, .ref p, rfl, rfl, .inl (.inl hr1), atI_nat (j := 1) rfl, _, rfl, q, w1, w2, p, n, .ref cc, .non, t, rs, gs25 s f' m, s, f', some c, none, rfl, S.at_ (q, _) (by simp [ob25]), o, ⟨_, S.at_ (w1, _) (by simp [ob25]), .refl _⟩, ⟨_, S.at_ (w2, _) (by simp [ob25]), .refl _⟩, hp1, dcp pr1, ⟨cc, _, rfl, S.at_ (cc, _) (by simp [ob25]), .refl _⟩, rfl, fun a ha => ⟨small G.fs a ha, small G.ff a ha, fun g hg => small (G.gfea g hg) a ha⟩, G.chain, G.last, fun H2 s12 => ⟨_, rfl, iteF ?_⟩⟩
      exact on H2 s12
    · -- distance, fewest, the plan
      intro D0 σ H1 ⟨d, l, i, q, w1, w2, cc, x, dx, dq, t, ts, s, f', c, b, n, m, sm, u0, u2, u7, eσ, S, G, d25, bb, kk⟩
      subst eσ
      have o := G.o
      have pR := List.Perm.refl (t.map Prod.fst)
      have fa1 : FAt CF H1 x ts := ⟨dx, dq, S.at_ (x, _) (by simp [ob25]), S.at_ (dq, _) (by simp [ob25])⟩
      refine ⟨_, rfl, _, rfl, _, rfl, _, rfl, _, rfl, x, .int n, .ref w1, .ref w2, .ref cc, ts, some (tblI (t.map Prod.fst) s), some (tblI (t.map Prod.fst) f'), some (tblI (t.map Prod.fst) c), rfl, fa1, G.ot, ⟨_, .int _⟩, szm_tbl (S.at_ (w1, _) (by simp [ob25])), szm_tbl (S.at_ (w2, _) (by simp [ob25])), szm_tbl (S.at_ (cc, _) (by simp [ob25])), G.smc pR, ?_⟩
      rw [G.am pR pR, G.li pR]
      intro m' H3 hm' s13
      have em : m' = m := G.max pR pR pR hm'
      subst em
      refine ⟨_, rfl, rfl, _, rfl, ?_⟩
      rw [decide_eq_true rfl]
      refine iteF ?_
      have S3 := S.same s13
      have fa3 : FAt CF H3 x ts := ⟨dx, dq, S3.at_ (x, _) (by simp [ob25]), S3.at_ (dq, _) (by simp [ob25])⟩
      refine ⟨_, rfl, _, rfl, _, rfl, _, rfl, _, rfl, rfl, x, .int n, .ref w1, .ref w2, .ref cc, ts, some (tblI (t.map Prod.fst) s), some (tblI (t.map Prod.fst) f'), some (tblI (t.map Prod.fst) c), rfl, fa3, G.ot, ⟨_, .int _⟩, szm_tbl (S3.at_ (w1, _) (by simp [ob25])), szm_tbl (S3.at_ (w2, _) (by simp [ob25])), szm_tbl (S3.at_ (cc, _) (by simp [ob25])), G.smc pR, ?_⟩
      rw [G.am pR pR, G.li pR]
      intro m2 H4 hm2 s34
      have em2 : m2 = m' := G.max pR pR pR hm2
      subst em2
      refine ⟨_, rfl, rfl, _, rfl, ?_⟩
      rw [decide_eq_true rfl]
      refine iteF ?_
      have S4 := S3.same s34
      -- the plan
      refine ⟨S4.tb, fun H5 e5 t5 H6 s6 => ?_⟩
      have S6 := (S4.ext e5 t5).same s6
      have fa6 : FAt CF H6 x ts := ⟨dx, dq, S6.at_ (x, _) (by simp [ob25]), S6.at_ (dq, _) (by simp [ob25])⟩
      refine ⟨_, rfl, _, rfl, _, rfl, _, rfl, _, rfl, rfl, x, .int n, .ref w1, .ref w2, .ref cc, ts, some (tblI (t.map Prod.fst) s), some (tblI (t.map Prod.fst) f'), some (tblI (t.map Prod.fst) c), rfl, fa6, G.ot, ⟨_, .int _⟩, szm_tbl (S6.at_ (w1, _) (by simp [ob25])), szm_tbl (S6.at_ (w2, _) (by simp [ob25])), szm_tbl (S6.at_ (cc, _) (by simp [ob25])), G.smc pR, ?_⟩
      rw [G.am pR pR, G.li pR]
      intro m3 hm3 m0
      have em3 : m3 = m2 := G.max pR pR pR hm3
      subst em3
      by_cases big200 : 200 < m3
      · rw [if_pos big200]
        refine fun d' H7 s7 nd' hd' => ⟨6, .int 200, by decide, by rw [eT], ⟨d', rfl, hd'⟩, fun rf H8 s8 nr hrf => ?_⟩
        have S8 := (S6.same s7).same s8
        exact ⟨d, l, i, q, w1, w2, cc, x, dx, dq, rf, t, ts, s, f', c, b, n, m3, sm, _, _, rfl, S8, G, bb, .inl ⟨big200, hrf⟩, kk⟩
      · rw [if_neg big200]
        intro p rs H7 s7 np hp pr nr
        intro rf H8 s8 nrf hrf
        have S8 := (S6.same s7).same s8
        have offA : ∀ {a : Addr} {o : HO}, H6 a = some o → a ∉ rs := fun {a o} e m => by rw [nr a m] at e; cases e
        have offd : d ∉ rs ∧ l ∉ rs ∧ i ∉ rs := by
          obtain ⟨lf, tn, lg, it, a1, a2, a3, _⟩ := S6.dr
          exact ⟨offA a1, offA a2, offA a3⟩
        exact ⟨d, l, i, q, w1, w2, cc, x, dx, dq, rf, t, ts, s, f', c, b, n, m3, sm, _, _, rfl, S8, G, bb,
          .inr ⟨by omega, p, rs, hrf, s8 _ _ hp, pair_imp5 (fun r g e => s8 _ _ e) (G.pairs pR pR pr), fun e he => offA (S6.at_ e he), offd⟩, kk⟩
    · -- distance
      intro D0 σ H1 ⟨d, l, i, q, w1, w2, cc, x, dx, dq, t, ts, s, f', c, b, n, m, sm, u0, u2, u7, eσ, S, G, d25, bb, kk⟩
      subst eσ
      have rest : ∀ H2, Same H1 H2 → tB25 T CF D0 [u0, some (.ref d), u2, some (.bl sm), some (.ref q), some (.str (shn25 t s f' c)), some (.int m), u7, some (.ref cc), some (.int n), some (.ref w2), some (.ref w1), some (.ref x), none] H2 := fun H2 s12 =>
        ⟨d, l, i, q, w1, w2, cc, x, dx, dq, t, ts, s, f', c, b, n, m, sm, u0, u2, u7, rfl, S.same s12, G, d25, bb, kk⟩
      cases sm with
      | false => exact ⟨_, rfl, false, rfl, iteF (iteF (rest H1 Same.refl))⟩
      | true =>
        refine ⟨_, rfl, true, rfl, iteT ⟨_, rfl, _, rfl, _, rfl, _, rfl, _, rfl, q, w1, w2, cc, n, m, t, s, f', c, rfl, S.at_ (q, _) (by simp [ob25]), S.at_ (w1, _) (by simp [ob25]), S.at_ (w2, _) (by simp [ob25]), S.at_ (cc, _) (by simp [ob25]), d25 rfl, fun H2 s12 => ⟨_, rfl, rfl, _, rfl, ?_⟩⟩⟩
        rw [decide_eq_true rfl]
        exact iteF (rest H2 s12)
    · -- the forest, what is due
      intro D0 σ H1 ⟨d, l, i, q, w1, w2, cc, t, s, f', c, b, n, sm, u0, u2, u5, u6, u7, u12, eσ, S, o, n1, n30, fs, ff, cb, csm, bb, kk⟩
      subst eσ
      have few := o.few
      have lk : (t.map Prod.fst).length = t.length := List.length_map _
      have hq := S.at_ (q, .dK (prs t)) (by simp [obj4])
      refine ⟨_, rfl, fun x dx nx ndx nxd => ?_⟩
      have sM : Same H1 (upd (upd H1 dx (.own x)) x (.ins CF dx [])) := fun b u e => by
        rw [upd_ne (ne_of_none e nx), upd_ne (ne_of_none e ndx)]
        exact e
      refine ⟨x, q, dx, t, rfl, upd_same, sM _ _ hq, o, fun H2 ts pts asc fx2 oth2 => ⟨rfl, ?_⟩⟩
      have s12 : Same H1 H2 := fun b u e => oth2 b u (ne_of_none e nx) (sM _ _ e)
      obtain ⟨dx', dq, f1, f2⟩ := id fx2
      have S2a := S.same s12
      have S2 := (S2a.add f2 (S2a.dr.off_prs f2).1 (S2a.dr.off_prs f2).2.1 (by intro ps z; cases z)).add f1 (S2a.dr.off_ins f1).1 (S2a.dr.off_ins f1).2 (by intro ps z; cases z)
      refine ⟨_, rfl, _, rfl, _, rfl, by show 3 ≤ sizeLine; omega, fun pl npl => ?_⟩
      have s23 := same_new (o := .lst [.ref w1, .ref w2, .ref cc]) npl
      have S3 := S2.same s23
      have box : ∀ g ∈ [s, f', c], ∀ a ∈ t.map Prod.fst, 0 ≤ g a ∧ g a ≤ 10 ^ 30 := fun g hg a ha => by
        simp only [List.mem_cons, List.not_mem_nil, or_false] at hg
        rcases hg with rfl | rfl | rfl
        · have := fs.nn a ha
          have := fea_leW o fs a ha
          omega
        · have := ff.nn a ha
          have := fea_leW o ff a ha
          omega
        · have := cb a ha
          omega
      obtain ⟨r1, r2, r3, r4⟩ := lst_reprL (K := K) (l := t.map Prod.fst) (rs := [w1, w2, cc]) (gs := [s, f', c]) (fun a ha => o.nm a ha) (by omega) (by show 3 ≤ 200; decide) box upd_same (.cons (S3.at_ (w1, _) (by simp [obj4])) (.cons (S3.at_ (w2, _) (by simp [obj4])) (.cons (S3.at_ (cc, _) (by simp [obj4])) .nil)))
      refine ⟨.ref pl, _, rfl, r1, r2, r3, r4, ?_⟩
      refine ⟨by show 2 ≤ sizeLine; omega, fun tp2 ntp2 => ⟨tp2, _, rfl, .inl (.inl upd_same), rfl, _, _, rfl, _, _, rfl, rfl, ?_⟩⟩
      have S4a := S3.same (same_new (o := .tup [.ref x, .str (PyData.list (szD (t.map Prod.fst) [s, f', c])).shown]) ntp2)
      have S4 : Kept T d l i (ob25 CF q w1 w2 cc x dx' dq t ts s f' c) _ _ := S4a.sub fun e he => by
        unfold ob25 at he
        unfold obj4
        simp only [List.mem_cons, List.not_mem_nil, or_false] at he ⊢
        rcases he with h | h | h | h | h | h <;> simp [h]
      obtain ⟨H4, e4⟩ : ∃ X, X = upd (upd H2 pl (.lst [.ref w1, .ref w2, .ref cc])) tp2 (.tup [.ref x, .str (PyData.list (szD (t.map Prod.fst) [s, f', c])).shown]) := ⟨_, rfl⟩
      rw [← e4] at S4 ⊢
      clear e4 S4a S3 S2 S2a
      -- due
      have hq4 : H4 q = some (.dK (prs t)) := S4.at_ (q, _) (by simp [ob25])
      have hw14 : H4 w1 = some (.dK (tblI (t.map Prod.fst) s)) := S4.at_ (w1, _) (by simp [ob25])
      have hw24 : H4 w2 = some (.dK (tblI (t.map Prod.fst) f')) := S4.at_ (w2, _) (by simp [ob25])
      have hcc4 : H4 cc = some (.dK (tblI (t.map Prod.fst) c)) := S4.at_ (cc, _) (by simp [ob25])
      have n1q := tbl_prs o hw14 hq4
      have n2q := tbl_prs o hw24 hq4
      have ncq := tbl_prs o hcc4 hq4
      refine ⟨q, _, hq4, trivial, fun od => ⟨_, rfl, q, od, rfl, .inl ⟨_, upd_same, fun D nD => ?_⟩⟩⟩
      have Dq : D ≠ q := (ne_of_none upd_same nD).symm
      obtain ⟨H5, e5⟩ : ∃ X, X = upd H4 q (.frz od (.dK (prs t))) := ⟨_, rfl⟩
      have hq5 : H5 q = some (.frz od (.dK (prs t))) := by rw [e5]; exact upd_same
      have h15 : H5 w1 = some (.dK (tblI (t.map Prod.fst) s)) := by rw [e5, upd_ne n1q]; exact hw14
      have h25 : H5 w2 = some (.dK (tblI (t.map Prod.fst) f')) := by rw [e5, upd_ne n2q]; exact hw24
      have hc5 : H5 cc = some (.dK (tblI (t.map Prod.fst) c)) := by rw [e5, upd_ne ncq]; exact hcc4
      rw [← e5] at nD ⊢
      refine lc_it walk_keys (fun i H' => Same H5 H' ∧ H' D = some (.lst ((((t.map Prod.fst).take i).map fun a => cdv (absI (f' a - s a)) (c a)).map V.int))) ⟨same_new nD, upd_same⟩ (fun i H' _ z => z.1 _ _ hq5) ?_ ?_
      · intro i y Hx Hy hi ⟨q1, hD⟩ ⟨eb, kk', vv, hk, ey⟩
        subst eb
        subst ey
        obtain ⟨e, pe, rfl, rfl, hp⟩ := keys_at hk
        rw [show kV (Sum.inr e) = V.str e from rfl]
        have he : (t.map Prod.fst)[i]? = some e := by rw [List.getElem?_map, hp] <;> rfl
        have me := List.mem_of_getElem? he
        have get : ∀ {c : Addr} {u : Str → Int}, H5 c = some (.dK (tblI (t.map Prod.fst) u)) → DGet Hy c (.str e) (some (.int (u e))) := fun {c u} z => by
          have z := DGet.k (k := Sum.inr e) (q1 _ _ z)
          rw [tblI_val me] at z
          exact z
        have c1 := cb e me
        refine ⟨rfl, ?_⟩
        refine ⟨_, rfl, _, rfl, w2, .int (f' e), rfl, get h25, _, rfl, _, rfl, w1, .int (s e), rfl, get h15, _, _, rfl, rfl, _, rfl, _, rfl, _, rfl, _, rfl, cc, .int (c e), rfl, get hc5, _, _, rfl, rfl, wide_div (b := 200) (by omega) (by omega) (by decide) (by decide), _, rfl, ?_⟩
        refine ⟨_, hD, by rw [List.length_map, List.length_map, List.length_take]; omega, q1.put nD, ?_⟩
        rw [upd_same, take_more he, List.map_append, List.map_append] <;> rfl
      intro H6 ⟨q1, hD⟩
      rw [show (prs t).length = (t.map Prod.fst).length by rw [prs_len, List.length_map], List.take_length] at hD
      have sk := unlock_same hq4 (show Same (upd H4 q (.frz od (.dK (prs t)))) H6 by rw [← e5]; exact q1)
      have neL : (t.map Prod.fst).length > 0 := by
        have := o.one
        omega
      refine ⟨q1 _ _ hq5, D, _, rfl, SqL.of (by rw [upd_ne Dq]; exact hD), by rw [List.length_map]; exact neL, fun m hm le => ?_⟩
      have G : G25 t ts n s f' c m := ⟨o, o.perm pts.symm, pts, n1, n30, fs, ff, cb, ⟨hm, le⟩⟩
      exact ⟨d, l, i, q, w1, w2, cc, x, dx', dq, t, ts, s, f', c, b, n, m, sm, _, _, _, rfl, S4.same sk, G, fun z => ⟨o, (csm z).1, fs, ff, (csm z).2.1, fun a ha => ⟨(cb a ha).1, (csm z).2.2 a ha⟩, G.mx⟩, bb, fun H' u7' drZ tbZ => kk H' _ _ _ _ drZ tbZ⟩
    · -- the sizes, the limits
      intro D0 σ H1 ⟨d, l, i, q, t, b, n, sm, u0, u2, u5, u6, u7, u8, u10, u11, u12, eσ, S1, o, ah, n1, n30, csm, bb, kk⟩
      subst eσ
      refine ⟨_, rfl, _, rfl, _, rfl, d, l, i, q, _, n, t, rfl, S1.dr, by omega, S1.at_ (q, _) (by simp), o, ah, by omega, by omega, fun w1 s H5 fs nw1 hw1 dr5 k5 => ?_⟩
      have wd1 := S1.dr.apart nw1
      have S5 := (S1.draw k5 dr5).add hw1 wd1.1 wd1.2.1 (by intro ps z; cases z)
      refine ⟨_, rfl, _, rfl, _, rfl, d, l, i, q, _, n, t, rfl, S5.dr, by omega, S5.at_ (q, _) (by simp), o, ah, by omega, by omega, fun w2 f' H6 ff nw2 hw2 dr6 k6 => ?_⟩
      have wd2 := S5.dr.apart nw2
      have S6 := (S5.draw k6 dr6).add hw2 wd2.1 wd2.2.1 (by intro ps z; cases z)
      refine ⟨by show 2 ≤ sizeLine; omega, fun tp ntp => ⟨tp, _, rfl, .inl (.inl upd_same), rfl, _, _, rfl, _, _, rfl, rfl, ?_⟩⟩
      have S7 := S6.same (same_new (o := .tup [.ref w1, .ref w2]) ntp)
      obtain ⟨H7, e7⟩ : ∃ X, X = upd H6 tp (.tup [.ref w1, .ref w2]) := ⟨_, rfl⟩
      rw [← e7] at S7 ⊢
      clear e7
      have hq7 : H7 q = some (.dK (prs t)) := S7.at_ (q, _) (by simp)
      have hw17 : H7 w1 = some (.dK (tblI (t.map Prod.fst) s)) := S7.at_ (w1, _) (by simp)
      have hw27 : H7 w2 = some (.dK (tblI (t.map Prod.fst) f')) := S7.at_ (w2, _) (by simp)
      have box : ∀ a ∈ t.map Prod.fst, (0 ≤ s a ∧ s a ≤ 10 ^ 30) ∧ 0 ≤ f' a ∧ f' a ≤ 10 ^ 30 := fun a ha => by
        have := fs.nn a ha
        have := fea_leW o fs a ha
        have := ff.nn a ha
        have := fea_leW o ff a ha
        omega
      refine ⟨_, rfl, _, rfl, _, rfl, _, rfl, _, rfl, d, l, i, q, w1, w2, _, sm, t, s, f', rfl, S7.dr, by omega, hq7, o, hw17, hw27, ⟨wd1.1, wd1.2.1⟩, ⟨wd2.1, wd2.2.1⟩, tbl_prs o hw17 hq7, tbl_prs o hw27 hq7, box, fun cc c H8 cb csm6 ccd hcc dr8 k8 => ?_⟩
      have S8 := (S7.draw k8 dr8).add hcc ccd.1 ccd.2 (by intro ps z; cases z)
      exact ⟨d, l, i, q, w1, w2, cc, t, s, f', c, _, n, sm, u0, u2, _, _, _, _, rfl, S8.sub fun e he => by
        unfold obj4 at he
        simp only [List.mem_cons, List.not_mem_nil, or_false] at he ⊢
        rcases he with h | h | h | h <;> simp [h], o, n1, n30, fs, ff, cb, fun z => ⟨(csm z).1, (csm z).2, csm6 z⟩, by omega, fun H' u5' u6' u7' u12' drZ tbZ => kk H' _ _ _ _ _ _ _ _ (drZ.more (by omega)) tbZ⟩
    · -- the users
      intro D0 σ H1 ⟨d, l, i, q, t, b, sm, u0, u2, u5, u6, u7, u8, u9, u10, u11, u12, eσ, S1, o, ah, csm, bb, kk⟩
      subst eσ
      cases sm with
      | true =>
        refine ⟨_, rfl, _, rfl, true, rfl, iteT ?_⟩
        refine ⟨d, l, i, _, 4, rfl, S1.dr, by omega, by decide, by decide, fun c H4 c0 c1 dr4 k4 => ⟨_, _, rfl, rfl, ?_⟩⟩
        have S4 := S1.draw k4 dr4
        exact ⟨d, l, i, q, t, _, 1 + c, true, u0, u2, _, _, _, _, _, _, _, rfl, S4, o, ah, by omega, by omega, fun z => ⟨csm z, by omega⟩, by omega, fun H' u5' u6' u7' u8' u9' u10' u11' u12' drZ tbZ => kk H' _ _ _ _ _ _ _ _ (drZ.more (by omega)) tbZ⟩
      | false =>
        refine ⟨_, rfl, _, rfl, false, rfl, iteF ?_⟩
        refine ⟨_, rfl, _, _, rfl, rfl, ⟨by decide, by decide, by decide⟩, by show 3 ≤ sizeLine; omega, fun pl npl => ?_⟩
        have s2 := same_new (o := .lst [V.int 12, .int 200, .int (10 ^ (30 : Int).toNat)]) npl
        have pld := S1.dr.apart npl
        refine ⟨d, l, i, pl, _, _, rfl, S1.dr.mono s2, by omega, upd_same, pld.2.1, List.cons_ne_nil _ _, (by show 3 ≤ 1000; omega), fun fv H3 fm dr3 k3 => ?_⟩
        have S3 := (S1.same s2).draw k3 dr3
        obtain ⟨mo, rfl, mo1, mo2⟩ : ∃ mo : Int, fv = .int mo ∧ 0 < mo ∧ mo ≤ 10 ^ 30 := by
          simp only [List.mem_cons, List.not_mem_nil, or_false] at fm
          rcases fm with h | h | h
          · exact ⟨12, h, by decide, by decide⟩
          · exact ⟨200, h, by decide, by decide⟩
          · exact ⟨_, h, by decide, by decide⟩
        refine ⟨d, l, i, _, mo, rfl, S3.dr, by omega, by omega, by omega, fun c H4 c0 c1 dr4 k4 => ⟨_, _, rfl, rfl, ?_⟩⟩
        have S4 := S3.draw k4 dr4
        exact ⟨d, l, i, q, t, _, 1 + c, false, u0, u2, _, _, _, _, _, _, _, rfl, S4, o, ah, by omega, by omega, (fun z => by cases z), by omega, fun H' u5' u6' u7' u8' u9' u10' u11' u12' drZ tbZ => kk H' _ _ _ _ _ _ _ _ (drZ.more (by omega)) tbZ⟩
    · refine ⟨_, rfl, a, ns, rfl, hS, hlen, fun H0 d l i s0 nd0 nl0 ni0 dr0 => ?_⟩
      refine ⟨_, rfl, a, _, rfl, .inl (Same.sql s0 hS), _, _, rfl, _, _, rfl, rfl, ?_⟩
      obtain ⟨m, em⟩ : ∃ m : Int, m = 2 + (if (6 : Int) < ((ns.map V.int).length : Int) then 6 else ((ns.map V.int).length : Int)) := ⟨_, rfl⟩
      have lm : 0 ≤ m ∧ m ≤ 8 := by
        rw [List.length_map] at em
        subst em
        split <;> constructor <;> omega
      refine ⟨m, by rw [em] <;> rfl, by omega, by omega, ?_⟩
      refine for_it (walk_range (lo := 0) (n := m.toNat)) (fun j σ' H' => (∃ u2 u3 u4 u5 u6 u7 u8 u9 u10 u11 u12, σ' = [some (.ref a), some (.ref d), u2, u3, u4, u5, u6, u7, u8, u9, u10, u11, u12, none]) ∧ DrawB H' d l i (1000 * (j : Int)) ∧ Tabs T H') ⟨⟨_, _, _, _, _, _, _, _, _, _, _, rfl⟩, dr0.more (by omega), tT.ext s0⟩ (fun _ _ _ _ _ => trivial) ?_ (fun σ' H' _ => k H')
      intro jj xj σ' Ha Hb hj ⟨⟨u2, u3, u4, u5, u6, u7, u8, u9, u10, u11, u12, e⟩, dr, tb⟩ ⟨e1, e2⟩
      subst e
      subst e1
      subst e2
      obtain ⟨b0, eb0⟩ : ∃ b0 : Int, b0 = 1000 * (jj : Int) := ⟨_, rfl⟩
      rw [← eb0] at dr
      have bb : b0 + 1000 ≤ 10 ^ 12 - 1000 := by omega
      have S0 : Kept T d l i [] b0 Hb := ⟨dr, tb, fun e he => (by cases he), fun e he => (by cases he), fun e he => (by cases he)⟩
      refine ⟨_, rfl, d, l, i, _, 3, rfl, dr, by omega, by decide, by decide, fun k1 H1 k10 k11 dr1 kp1 => ⟨rfl, ?_⟩⟩
      have S1 := S0.draw kp1 dr1
      obtain ⟨sm, esm⟩ : ∃ sm : Bool, sm = decide (V.int k1 = V.int 0) := ⟨_, rfl⟩
      show gName 3 (V.bl (decide (V.int k1 = V.int 0))) _ _ _
      rw [← esm]
      clear esm
      cases sm with
      | true =>
        refine ⟨_, rfl, _, rfl, true, rfl, iteT ?_⟩
        refine ⟨d, l, i, _, 3, rfl, by decide, by decide, dr1, by omega, fun q t H2 tl o ah nq hq dr2 k2 => ?_⟩
        have S2 := (S1.draw k2 dr2).add hq (dr2.off_prs hq).1 (dr2.off_prs hq).2.1 (by intro ps z; cases z)
        exact ⟨d, l, i, q, t, _, true, _, _, _, _, _, _, _, _, _, _, rfl, S2, o, ah, fun _ => by omega, by omega, fun H' u5' u6' u7' u8' u9' u10' u11' u12' drZ tbZ => ⟨⟨_, _, _, _, _, _, _, _, _, _, _, rfl⟩, drZ.more (by omega), tbZ⟩⟩
      | false =>
        refine ⟨_, rfl, _, rfl, false, rfl, iteF ?_⟩
        refine ⟨d, l, i, _, 12, rfl, by decide, by decide, dr1, by omega, fun q t H2 tl o ah nq hq dr2 k2 => ?_⟩
        have S2 := (S1.draw k2 dr2).add hq (dr2.off_prs hq).1 (dr2.off_prs hq).2.1 (by intro ps z; cases z)
        exact ⟨d, l, i, q, t, _, false, _, _, _, _, _, _, _, _, _, _, rfl, S2, o, ah, (fun z => by cases z), by omega, fun H' u5' u6' u7' u8' u9' u10' u11' u12' drZ tbZ => ⟨⟨_, _, _, _, _, _, _, _, _, _, _, rfl⟩, drZ.more (by omega), tbZ⟩⟩
end
end FT


namespace FT
open PySem L2 TL ClX LiI
section
variable {P : Program} {w : World} {K : PySem.W.Frag} {mg : Str → Option Value} {base : Heap}
abbrev NCr : List Str := ["forest", "changed", "found", "name", "above"]
end
end FT


/-! places_of -/
namespace FT
open PySem L2 TL ClX
section
variable {P : Program} {w : World} {K : PySem.W.Frag} {mg : Str → Option Value} {base : Heap}
theorem scPlacesOf : FnScope ["forest"] ["forest"] (defScope s_places_of) := ⟨rfl, rfl, rfl, by decide +kernel, rfl, by decide +kernel, by decide +kernel⟩
theorem ok_placesOf {f CF p1 g1 : Addr} {mc : Value} {fd fd1 : FuncData} (F : Fun K "places_of" "places_of" s_places_of f fd) (T : Nm mg) (O : FoC K CF) (Z : Fc K mg CF mc) (L : Pr1 P w K mg base CF "flags" (spFFlags CF) p1 g1 fd1) :
    FnOk P w K mg base CX0 3 f fd ["forest"] (spPlacesOf CF) := by
  obtain ⟨ur, cr⟩ := Z.root
  refine F.ok scPlacesOf (fun vs H Q E h => ?_) (fun cdv A outer s H vs Q E hr h => ?_)
  · obtain ⟨x, ts, rfl, _⟩ := h
    rfl
  · obtain ⟨x, ts, rfl, fa, few, k⟩ := h
    obtain ⟨dx, dq, hx, hd⟩ := id fa
    have big : 1000 ≤ sizeLine := by decide
    refine ⟨_, pss_one (ps_ret (pe_op op_cat (pe_lst (pa_cons (pe_cval (pe_glob (v := .ref CF) (by rfl) Z.gF rfl)) pa_nil)) (pe_prop (pv 0) O.cl L.pr L.fn hr L.bn .nil pass0 (by rfl)))), ?_⟩
    refine ⟨CF, mc, _, ur, rfl, Z.rd, cr, by show 1 ≤ sizeLine; omega, fun p1 n1 => ?_⟩
    have s1 : Same H (upd H p1 (.lst [.str ""])) := same_new n1
    refine ⟨_, rfl, x, dx, _, rfl, s1 _ _ hx, x, ts, rfl, fa.mono s1, fun p2 n2 => ⟨p1, p2, [.str ""], (ts.map Prod.fst).map V.str, rfl, rfl, by rw [upd_ne (ne_of_none upd_same n2), upd_same], upd_same, ?_, fun p3 n3 => ?_⟩⟩
    · rw [List.length_map, List.length_map]
      show 1 + _ ≤ sizeLine
      omega
    · have s3 : Same H (upd (upd (upd H p1 (.lst [.str ""])) p2 (.lst ((ts.map Prod.fst).map V.str))) p3 (.lst ([.str ""] ++ (ts.map Prod.fst).map V.str))) := (s1.trans (same_new n2)).trans (same_new n3)
      exact k p3 _ s3 (Same.free (s1.trans (same_new n2)) n3) upd_same
end
end FT


/-! Own: C.m(..) where m is a staticmethod of the class. -/
namespace L2
open PySem PySem.Spec PyProof.Rows
/-- C.m is a staticmethod: its record at p, its def at f -/
structure SMet (K : PySem.W.Frag) (C : Addr) (mc : Value) (m : Str) (p f : Addr) : Prop where
  at_ : PySem.W.findCls K (.ref C) mc m = some (.get (.builtin "staticmethod.__get__") (.ref p) .none (.ref C))
  rc : ∃ rest, PySem.W.recIn K p "staticmethod" = some (.ref f :: rest)
def tSMeth (C : Addr) (sp : Sp) (dvs : List V) (E : XK) (ta : TE) (t : TA) : TE := fun σ H Q => ta σ H fun x H1 => x = .ref C ∧ t σ H1 fun vs H2 => sp (vs ++ dvs) H2 Q E
section
variable {X : Cx} {CX : CXT} {k : Nat} {C p f : Addr} {mc : Value} {fd : FuncData} {ps : List Str} {sp : Sp} {dvs : List V} {ds : List Value} {E : XK} {o e : Expr} {es : List Expr} {m : Str} {pos apos : Pos} {ta : TE} {t : TA} {pl : Sem Bool}
end
end L2


/-! what the module's top says of classes, of defs: the form that the row's end asks for. -/
namespace FT
open PySem L2 TL ClX
abbrev exTail : List Value := [.type "ValueError", .type "Exception", .type "BaseException", .type "object"]
/-- an own class at C, its chain behind it -/
def ClsAt (K : PySem.W.Frag) (C : Addr) (bm : List Value) : Prop := ∃ nm q N bs sn sub ab col dd k0 k1 k2 k3 k5, K.lookup C = some (excClassObj nm q C N bs bm true sn sub ab col dd k0 k1 k2 k3 k5 "ValueError.__new__")
section
variable {K : PySem.W.Frag} {C : Addr} {bm : List Value}
theorem ClsAt.cls (h : ClsAt K C bm) : ∃ cd : ClassData, PySem.W.clsIn K C = some cd ∧ cd.mro = .ref C :: bm ∧ cd.hasDict = true := by
  obtain ⟨nm, q, N, bs, sn, sub, ab, col, dd, k0, k1, k2, k3, k5, e⟩ := h
  refine ⟨{ name := nm, bases := bs, mro := .ref C :: bm, ns := N, qualname := q, hasDict := true, slotNames := sn, subclasses := sub, abstract := ab, collection := col }, ?_, rfl, rfl⟩
  unfold PySem.W.clsIn
  rw [e]
theorem ClsAt.ty (h : ClsAt K C bm) : PySem.W.typeIn K (.ref C) = some (.type "type") := by
  obtain ⟨nm, q, N, bs, sn, sub, ab, col, dd, k0, k1, k2, k3, k5, e⟩ := h
  show (K.lookup C).map (·.cls) = _
  rw [e] <;> rfl
theorem ClsAt.mroIs (h : ClsAt K C bm) (b : Value) : PySem.W.mroIn K C b = some ((Value.ref C :: bm).contains b) := by
  obtain ⟨cd, e1, e2, _⟩ := h.cls
  unfold PySem.W.mroIn
  rw [e1]
  show (if cd.mro.isEmpty then none else some (cd.mro.contains b)) = _
  rw [e2] <;> rfl
theorem ClsAt.sub (h : ClsAt K C bm) (b : Value) : PySem.W.subIn K (.ref C) b = some ((Value.ref C :: bm).contains b) := h.mroIs b
theorem ClsAt.hd (h : ClsAt K C bm) : PySem.W.hasDictIn K C = true := by
  obtain ⟨cd, e1, _, e3⟩ := h.cls
  show (PySem.W.clsIn K C).any (·.hasDict) = true
  rw [e1]
  exact e3
theorem ClsAt.isC (h : ClsAt K C bm) : (PySem.W.clsIn K C).isSome = true := by
  obtain ⟨cd, e1, _⟩ := h.cls
  rw [e1] <;> rfl
/-- isinstance of the class at C against the class at D -/
theorem ClsAt.kit {D : Addr} {bn : List Value} (h : ClsAt K C bm) (g : ClsAt K D bn) : PySem.W.kitOne K (.ref C) (.ref D) = some ((Value.ref C :: bm).contains (.ref D)) := by
  unfold PySem.W.kitOne
  by_cases e : (Value.ref C == Value.ref D) = true
  · rw [if_pos e, beq_iff_eq.mp e, List.contains_cons, beq_self_eq_true] <;> rfl
  · rw [if_neg e]
    have e2 : ((PySem.W.clsIn K D).isSome && PySem.W.typeIn K (.ref D) == some (.type "type")) = true := by rw [g.isC, g.ty] <;> rfl
    show (if _ then PySem.W.subIn K (.ref C) (.ref D) else none) = _
    rw [if_pos e2, h.sub]
theorem ClsAt.exm {D : Addr} {bn : List Value} (h : ClsAt K C bm) (g : ClsAt K D bn) (eD : (Value.ref D :: bn).contains (.type "BaseException") = true) : PySem.W.exmOne K (.ref C) (.ref D) = some ((Value.ref C :: bm).contains (.ref D)) :=
  PySem.W.exm_ref (by rw [g.sub, eD]) g.hd g.ty (h.sub _)
end
/-- what the top says of one error class -/
structure ClsF (K : PySem.W.Frag) (nm f : Str) (C I R : Addr) : Prop where
  nsn : PySem.W.nsIn K mainGlobals nm = some (some (.ref C))
  at_ : ClsAt K C (.ref R :: exTail)
  sa : PySem.W.findIn K (.ref C) "__setattr__" = some (some (.builtin "object.__setattr__"))
  ga : PySem.W.findIn K (.ref C) "__getattribute__" = some (some (.builtin "BaseException.__getattribute__"))
  gg : PySem.W.findIn K (.ref C) "__getattr__" = some none
  ha : PySem.W.findIn K (.ref C) "__class__" = some (some (.builtin "object.__class__"))
  kC : PySem.W.keepIn K (.ref C) = true
  no : PySem.W.findIn K (.ref C) f = some none
  ini : PySem.W.findIn K (.ref C) "__init__" = some (some (.ref I))
  ity : PySem.W.typeIn K (.ref I) = some (.type "function")
/-- and of what they share -/
structure RootF (K : PySem.W.Frag) (R : Addr) : Prop where
  nsn : PySem.W.nsIn K mainGlobals "RolloutError" = some (some (.ref R))
  at_ : ClsAt K R exTail
  rd : PySem.W.readsIn K R (.type "type") = true
  ga : PySem.W.specialIn K (.ref R) "__getattribute__" = some (some (.builtin "type.__getattribute__"))
  ini : PySem.W.findCls K (.ref R) (.type "type") "__init__" = some (.val (.builtin "ValueError.__init__"))
  hn : PySem.W.specialIn K (.builtin "object.__class__") "__get__" = some (some (.builtin "getset_descriptor.__get__"))
  ht : PySem.W.takesIn K (.builtin "object.__class__") = some true
theorem ClsF.x {K : PySem.W.Frag} {nm f : Str} {C I R : Addr} (c : ClsF K nm f C I R) (r : RootF K R) : XCls K C where
  cls := by
    obtain ⟨nm, q, N, bs, sn, sub, ab, col, dd, k0, k1, k2, k3, k5, e⟩ := c.at_
    exact ⟨nm, q, N, bs, _, sn, sub, ab, col, dd, k0, k1, k2, k3, k5, e, rfl⟩
  sa := c.sa
  exC := by rw [c.at_.sub] <;> rfl
  tyC := c.at_.ty
  kC := c.kC
  ga := c.ga
  gg := c.gg
  hdC := c.at_.hd
  ha := c.ha
  hn := r.hn
  ht := r.ht
  hm := by rw [c.at_.mroIs] <;> rfl
theorem has_cls {C R D : Addr} {b : Bool} (h : decide (C = D) = b) (n : R ≠ D) : (Value.ref C :: Value.ref R :: exTail).contains (.ref D) = b := by
  subst h
  by_cases e : C = D
  · subst e
    rw [List.contains_cons, beq_self_eq_true, decide_eq_true rfl] <;> rfl
  · have e1 : (Value.ref D == Value.ref C) = false := beq_eq_false_iff_ne.mpr fun z => e (Value.ref.inj z).symm
    have e2 : (Value.ref D == Value.ref R) = false := beq_eq_false_iff_ne.mpr fun z => n (Value.ref.inj z).symm
    rw [decide_eq_false e, List.contains_cons, e1, List.contains_cons, e2] <;> rfl
theorem has_root {C R : Addr} : (Value.ref C :: Value.ref R :: exTail).contains (.ref R) = true := by
  rw [List.contains_cons, List.contains_cons, beq_self_eq_true, Bool.true_or, Bool.or_true]
theorem kit_bt {K : PySem.W.Frag} {C R : Addr} (c : ClsAt K C (.ref R :: exTail)) : PySem.W.kitOne K (.ref C) (.type "ValueError") = some true := by
  unfold PySem.W.kitOne
  rw [if_neg (show ¬ (Value.ref C == Value.type "ValueError") = true from fun z => nomatch (show false = true from z))]
  have e2 : PySem.W.kitMeta "ValueError" = true := by decide +kernel
  show (if PySem.W.kitMeta "ValueError" = true then PySem.W.subIn K (.ref C) (.type "ValueError") else none) = _
  rw [if_pos e2, c.sub] <;> rfl
/-- what the top says of a class with a constant MOST -/
structure ClsK (K : PySem.W.Frag) (nm : Str) (C : Addr) (n : Int) (t : Nat) : Prop where
  nsn : PySem.W.nsIn K mainGlobals nm = some (some (.ref C))
  rd : PySem.W.readsIn K C (.type "type") = true
  ga : PySem.W.specialIn K (.ref C) "__getattribute__" = some (some (.builtin "type.__getattribute__"))
  most : PySem.W.findCls K (.ref C) (.type "type") "MOST" = some (.val (.int n t))
  pg : PySem.W.plainGet K C Str.empty = true
  hd : PySem.W.hasDictIn K C = true
  po : PySem.W.plainOver K C = true
  sa : PySem.W.findIn K (.ref C) "__setattr__" = some (some (.builtin "object.__setattr__"))
  mks : PySem.W.makesIn K C = true
  kp : PySem.W.keepIn K (.ref C) = true
  ha : PySem.W.findIn K (.ref C) "__class__" = some (some (.builtin "object.__class__"))
  hn : PySem.W.specialIn K (.builtin "object.__class__") "__get__" = some (some (.builtin "getset_descriptor.__get__"))
  ht : PySem.W.takesIn K (.builtin "object.__class__") = some true
  hm : PySem.W.mroIn K C (.type "object") = some true
/-- a method -/
structure MetK (K : PySem.W.Frag) (C : Addr) (m : Str) (f : Addr) : Prop where
  at_ : PySem.W.findIn K (.ref C) m = some (some (.ref f))
  fn : PySem.W.isFn K (.ref f) = true
/-- a property -/
structure PrK (K : PySem.W.Frag) (C : Addr) (m : Str) (p g : Addr) (rest : List Value) : Prop where
  at_ : PySem.W.findIn K (.ref C) m = some (some (.ref p))
  get : PySem.W.specialIn K (.ref p) "__get__" = some (some (.builtin "property.__get__"))
  tak : PySem.W.takesIn K (.ref p) = some true
  rec_ : PySem.W.recIn K p "property" = some (.ref g :: rest)
theorem ClsF.er {K : PySem.W.Frag} {h : Heap} {mg : Str → Option Value} {nm f : Str} {C I R : Addr} (X : K.In h) (G : h.Ns mainGlobals mg) (c : ClsF K nm f C I R) (r : RootF K R) : Er K mg nm f C I :=
  ⟨PySem.W.mg_of X G c.nsn, c.x r, c.ini, c.ity, c.no⟩
theorem RootF.rt {K : PySem.W.Frag} {h : Heap} {mg : Str → Option Value} {R : Addr} (X : K.In h) (G : h.Ns mainGlobals mg) (r : RootF K R) : Rt K mg R := ⟨PySem.W.mg_of X G r.nsn, ⟨r.rd, r.ga, r.ini⟩⟩
theorem ClsK.fc {K : PySem.W.Frag} {h : Heap} {mg : Str → Option Value} {CF : Addr} {t t2 : Nat} (X : K.In h) (G : h.Ns mainGlobals mg) (k : ClsK K "Forest" CF 12 t) (root : PySem.W.findCls K (.ref CF) (.type "type") "ROOT" = some (.val (.str "" t2))) : Fc K mg CF (.type "type") :=
  ⟨PySem.W.mg_of X G k.nsn, ⟨k.rd, k.ga⟩, ⟨_, k.most, ⟨_, rfl⟩⟩, ⟨_, root, ⟨_, rfl⟩⟩⟩
theorem ClsK.cls {K : PySem.W.Frag} {nm : Str} {C : Addr} {n : Int} {t : Nat} (k : ClsK K nm C n t) : Cls K C := ⟨k.pg, k.hd, k.po, k.sa⟩
/-- an int that the top computes -/
theorem loose_int {p : Program} {lv : List (Str × PySem.W.WData)} {mg : Str → Option Value} {h : Heap} {nm : Str} {n : Int} (x : PySem.W.XL p lv mg h) (m : (nm, PySem.W.WData.int n) ∈ lv) : ∃ t, mg nm = some (.int n t) := by
  obtain ⟨v, e, r⟩ := x.2.val _ m
  cases r with
  | int i t => exact ⟨t, e⟩
/-- a def with its code object and the table of that -/
structure TabK (K : PySem.W.Frag) (x : Str) (c P : Addr) : Prop where
  at_ : PySem.W.tabIn K x = some (c, P)
  no : K.lookup P = none
end FT


/-! what the top says of a class without a constant, of a static method -/
namespace FT
open PySem L2 TL ClX
structure ClsN (K : PySem.W.Frag) (nm : Str) (C : Addr) : Prop where
  nsn : PySem.W.nsIn K mainGlobals nm = some (some (.ref C))
  rd : PySem.W.readsIn K C (.type "type") = true
  ga : PySem.W.specialIn K (.ref C) "__getattribute__" = some (some (.builtin "type.__getattribute__"))
  pg : PySem.W.plainGet K C Str.empty = true
  hd : PySem.W.hasDictIn K C = true
  po : PySem.W.plainOver K C = true
  sa : PySem.W.findIn K (.ref C) "__setattr__" = some (some (.builtin "object.__setattr__"))
  mks : PySem.W.makesIn K C = true
  kp : PySem.W.keepIn K (.ref C) = true
theorem ClsN.cls {K : PySem.W.Frag} {nm : Str} {C : Addr} (k : ClsN K nm C) : Cls K C := ⟨k.pg, k.hd, k.po, k.sa⟩
/-- a static method -/
structure StK (K : PySem.W.Frag) (C : Addr) (m : Str) (p f : Addr) (rest : List Value) : Prop where
  at_ : PySem.W.findCls K (.ref C) (.type "type") m = some (.get (.builtin "staticmethod.__get__") (.ref p) .none (.ref C))
  rec_ : PySem.W.recIn K p "staticmethod" = some (.ref f :: rest)
theorem StK.sm {K : PySem.W.Frag} {C p f : Addr} {m : Str} {rest : List Value} (s : StK K C m p f rest) : SMet K C (.type "type") m p f := ⟨s.at_, _, s.rec_⟩
end FT


namespace FT
open PySem PySem.Spec PyProof.Rows L2 TL ClX LamX NdefX
section
variable {q : Program} {l : PySem.W.OpenLaw} {w : World} {K : PySem.W.Frag} {h : Heap} {mg : Str → Option Value} {fa : Addr}
theorem all_mk {f_bg f_mx f_dt f_dp f_foM f_isn f_isa f_nd f_fi f_sz f_cp f_co f_fit f_sr f_di f_ii f_nu f_fl f_po f_fp f_rs f_nfM f_nsM f_ao f_amM f_li f_dv f_fof f_fw f_nst f_ev f_pl f_plr f_fd f_nw f_be f_bc f_se f_ce f_re f_rf f_law p_fl p_fp C_InvalidSizes C_UnknownName C_InvalidUsers C_InvalidLists C_NeedsMemory C_InvalidLimits C_TooMany I_InvalidSizes I_UnknownName I_InvalidUsers I_InvalidLists I_NeedsMemory I_InvalidLimits I_TooMany R c_rf c_law t_rf t_law CF : Addr} {d_bg d_mx d_dt d_dp d_foM d_isn d_isa d_nd d_fi d_sz d_cp d_co d_fit d_sr d_di d_ii d_nu d_fl d_po d_fp d_rs d_nfM d_nsM d_ao d_amM d_li d_dv d_fof d_fw d_nst d_ev d_pl d_plr d_fd d_nw d_be d_bc d_se d_ce d_re d_rf d_law D_InvalidSizes D_UnknownName D_InvalidUsers D_InvalidLists D_NeedsMemory D_InvalidLimits D_TooMany : FuncData} {tL tT tR tMS tCF : Nat} {r_fl r_fp : List Value} (X : K.In h) (G : h.Ns mainGlobals mg) (hfa : mg "law" = some (.ref fa)) (TO : TabsOf q K h)
    (kCF : ClsK K "Forest" CF 12 tCF)
    (noCF_above : PySem.W.findIn K (.ref CF) "above" = some none)
    (root : PySem.W.findCls K (.ref CF) (.type "type") "ROOT" = some (.val (.str "" tR)))
    (cL : PySem.W.nsIn K mainGlobals "LONGEST" = some (some (.int 8 tL)))
    (cT : PySem.W.nsIn K mainGlobals "LETTERS" = some (some (.str letters tT)))
    (gMC : ∃ t, mg "MOST_COUNTED" = some (.int (10 ^ 30) t))
    (cMS : PySem.W.nsIn K mainGlobals "MOST_STEPS" = some (some (.int 200 tMS)))
    (n_bg : PySem.W.nsIn K mainGlobals "_law_begin" = some (some (.ref f_bg)))
    (u_bg : L2.Fun K "_law_begin" "_law_begin" s__law_begin f_bg d_bg)
    (n_mx : PySem.W.nsIn K mainGlobals "_law_mixed" = some (some (.ref f_mx)))
    (u_mx : L2.Fun K "_law_mixed" "_law_mixed" s__law_mixed f_mx d_mx)
    (n_dt : PySem.W.nsIn K mainGlobals "_law_take" = some (some (.ref f_dt)))
    (u_dt : L2.Fun K "_law_take" "_law_take" s__law_take f_dt d_dt)
    (n_dp : PySem.W.nsIn K mainGlobals "_law_pick" = some (some (.ref f_dp)))
    (u_dp : L2.Fun K "_law_pick" "_law_pick" s__law_pick f_dp d_dp)
    (n_foM : PySem.W.nsIn K mainGlobals "_law_forest" = some (some (.ref f_foM)))
    (u_foM : L2.Fun K "_law_forest" "_law_forest" s__law_forest f_foM d_foM)
    (n_isn : PySem.W.nsIn K mainGlobals "is_name" = some (some (.ref f_isn)))
    (u_isn : L2.Fun K "is_name" "is_name" s_is_name f_isn d_isn)
    (n_isa : PySem.W.nsIn K mainGlobals "is_ancestor" = some (some (.ref f_isa)))
    (u_isa : L2.Fun K "is_ancestor" "is_ancestor" s_is_ancestor f_isa d_isa)
    (n_nd : PySem.W.nsIn K mainGlobals "need_parents" = some (some (.ref f_nd)))
    (u_nd : L2.Fun K "need_parents" "need_parents" s_need_parents f_nd d_nd)
    (n_sz : PySem.W.nsIn K mainGlobals "_law_sizes" = some (some (.ref f_sz)))
    (u_sz : L2.Fun K "_law_sizes" "_law_sizes" s__law_sizes f_sz d_sz)
    (n_cp : PySem.W.nsIn K mainGlobals "_law_caps" = some (some (.ref f_cp)))
    (u_cp : L2.Fun K "_law_caps" "_law_caps" s__law_caps f_cp d_cp)
    (n_co : PySem.W.nsIn K mainGlobals "_law_caps_of" = some (some (.ref f_co)))
    (u_co : L2.Fun K "_law_caps_of" "_law_caps_of" s__law_caps_of f_co d_co)
    (n_fit : PySem.W.nsIn K mainGlobals "_law_fits" = some (some (.ref f_fit)))
    (u_fit : L2.Fun K "_law_fits" "_law_fits" s__law_fits f_fit d_fit)
    (n_sr : PySem.W.nsIn K mainGlobals "_law_step_right" = some (some (.ref f_sr)))
    (u_sr : L2.Fun K "_law_step_right" "_law_step_right" s__law_step_right f_sr d_sr)
    (n_di : PySem.W.nsIn K mainGlobals "_law_distance" = some (some (.ref f_di)))
    (u_di : L2.Fun K "_law_distance" "_law_distance" s__law_distance f_di d_di)
    (n_ii : PySem.W.nsIn K mainGlobals "is_integer" = some (some (.ref f_ii)))
    (u_ii : L2.Fun K "is_integer" "is_integer" s_is_integer f_ii d_ii)
    (n_nu : PySem.W.nsIn K mainGlobals "need_users" = some (some (.ref f_nu)))
    (u_nu : L2.Fun K "need_users" "need_users" s_need_users f_nu d_nu)
    (n_po : PySem.W.nsIn K mainGlobals "places_of" = some (some (.ref f_po)))
    (u_po : L2.Fun K "places_of" "places_of" s_places_of f_po d_po)
    (n_rs : PySem.W.nsIn K mainGlobals "residents_of" = some (some (.ref f_rs)))
    (u_rs : L2.Fun K "residents_of" "residents_of" s_residents_of f_rs d_rs)
    (n_nfM : PySem.W.nsIn K mainGlobals "need_feasible" = some (some (.ref f_nfM)))
    (u_nfM : L2.Fun K "need_feasible" "need_feasible" s_need_feasible f_nfM d_nfM)
    (n_nsM : PySem.W.nsIn K mainGlobals "need_sizes" = some (some (.ref f_nsM)))
    (u_nsM : L2.Fun K "need_sizes" "need_sizes" s_need_sizes f_nsM d_nsM)
    (n_ao : PySem.W.nsIn K mainGlobals "amounts_of" = some (some (.ref f_ao)))
    (u_ao : L2.Fun K "amounts_of" "amounts_of" s_amounts_of f_ao d_ao)
    (n_amM : PySem.W.nsIn K mainGlobals "amounts" = some (some (.ref f_amM)))
    (u_amM : L2.Fun K "amounts" "amounts" s_amounts f_amM d_amM)
    (n_li : PySem.W.nsIn K mainGlobals "need_limits" = some (some (.ref f_li)))
    (u_li : L2.Fun K "need_limits" "need_limits" s_need_limits f_li d_li)
    (n_dv : PySem.W.nsIn K mainGlobals "divided" = some (some (.ref f_dv)))
    (u_dv : L2.Fun K "divided" "divided" s_divided f_dv d_dv)
    (n_fof : PySem.W.nsIn K mainGlobals "fewest_of" = some (some (.ref f_fof)))
    (u_fof : L2.Fun K "fewest_of" "fewest_of" s_fewest_of f_fof d_fof)
    (n_fw : PySem.W.nsIn K mainGlobals "fewest" = some (some (.ref f_fw)))
    (u_fw : L2.Fun K "fewest" "fewest" s_fewest f_fw d_fw)
    (n_nst : PySem.W.nsIn K mainGlobals "need_steps" = some (some (.ref f_nst)))
    (u_nst : L2.Fun K "need_steps" "need_steps" s_need_steps f_nst d_nst)
    (n_ev : PySem.W.nsIn K mainGlobals "even_steps" = some (some (.ref f_ev)))
    (u_ev : L2.Fun K "even_steps" "even_steps" s_even_steps f_ev d_ev)
    (n_pl : PySem.W.nsIn K mainGlobals "plan" = some (some (.ref f_pl)))
    (u_pl : L2.Fun K "plan" "plan" s_plan f_pl d_pl)
    (n_plr : PySem.W.nsIn K mainGlobals "_law_plan_right" = some (some (.ref f_plr)))
    (u_plr : L2.Fun K "_law_plan_right" "_law_plan_right" s__law_plan_right f_plr d_plr)
    (n_fd : PySem.W.nsIn K mainGlobals "_law_flipped" = some (some (.ref f_fd)))
    (u_fd : L2.Fun K "_law_flipped" "_law_flipped" s__law_flipped f_fd d_fd)
    (n_nw : PySem.W.nsIn K mainGlobals "_law_is_new" = some (some (.ref f_nw)))
    (u_nw : L2.Fun K "_law_is_new" "_law_is_new" s__law_is_new f_nw d_nw)
    (n_be : PySem.W.nsIn K mainGlobals "_law_bent_sizes" = some (some (.ref f_be)))
    (u_be : L2.Fun K "_law_bent_sizes" "_law_bent_sizes" s__law_bent_sizes f_be d_be)
    (n_bc : PySem.W.nsIn K mainGlobals "_law_bent_caps" = some (some (.ref f_bc)))
    (u_bc : L2.Fun K "_law_bent_caps" "_law_bent_caps" s__law_bent_caps f_bc d_bc)
    (n_se : PySem.W.nsIn K mainGlobals "_law_sizes_error" = some (some (.ref f_se)))
    (u_se : L2.Fun K "_law_sizes_error" "_law_sizes_error" s__law_sizes_error f_se d_se)
    (n_ce : PySem.W.nsIn K mainGlobals "_law_caps_error" = some (some (.ref f_ce)))
    (u_ce : L2.Fun K "_law_caps_error" "_law_caps_error" s__law_caps_error f_ce d_ce)
    (n_re : PySem.W.nsIn K mainGlobals "_law_result" = some (some (.ref f_re)))
    (u_re : L2.Fun K "_law_result" "_law_result" s__law_result f_re d_re)
    (n_rf : PySem.W.nsIn K mainGlobals "_law_refused_right" = some (some (.ref f_rf)))
    (u_rf : FunC K "_law_refused_right" "_law_refused_right" s__law_refused_right f_rf d_rf c_rf)
    (t1_rf : PySem.W.tabIn K "_law_refused_right" = some (c_rf, t_rf))
    (t2_rf : K.lookup t_rf = none)
    (t3_rf : ((recsOf q).find? (fun e => e.name == ("_law_refused_right" : Str))).isSome = true)
    (n_law : PySem.W.nsIn K mainGlobals "law" = some (some (.ref f_law)))
    (u_law : FunC K "law" "law" s_law f_law d_law c_law)
    (t1_law : PySem.W.tabIn K "law" = some (c_law, t_law))
    (t2_law : K.lookup t_law = none)
    (t3_law : ((recsOf q).find? (fun e => e.name == ("law" : Str))).isSome = true)
    (ne_rf_law : t_rf ≠ t_law)
    (m_fi : MetK K CF "__init__" f_fi)
    (m_fl : PrK K CF "flags" p_fl f_fl r_fl)
    (m_fp : PrK K CF "parents" p_fp f_fp r_fp)
    (u_fi : L2.Fun K "__init__" "Forest.__init__" s_Forest___init__ f_fi d_fi)
    (u_fl : L2.Fun K "flags" "Forest.flags" s_Forest_flags f_fl d_fl)
    (u_fp : L2.Fun K "parents" "Forest.parents" s_Forest_parents f_fp d_fp)
    (rt0 : RootF K R)
    (e_InvalidSizes : ClsF K "InvalidSizes" "place" C_InvalidSizes I_InvalidSizes R)
    (i_InvalidSizes : L2.Fun K "__init__" "InvalidSizes.__init__" s_InvalidSizes___init__ I_InvalidSizes D_InvalidSizes)
    (e_UnknownName : ClsF K "UnknownName" "name" C_UnknownName I_UnknownName R)
    (i_UnknownName : L2.Fun K "__init__" "UnknownName.__init__" s_UnknownName___init__ I_UnknownName D_UnknownName)
    (e_InvalidUsers : ClsF K "InvalidUsers" "" C_InvalidUsers I_InvalidUsers R)
    (i_InvalidUsers : L2.Fun K "__init__" "InvalidUsers.__init__" s_InvalidUsers___init__ I_InvalidUsers D_InvalidUsers)
    (e_InvalidLists : ClsF K "InvalidLists" "" C_InvalidLists I_InvalidLists R)
    (i_InvalidLists : L2.Fun K "__init__" "InvalidLists.__init__" s_InvalidLists___init__ I_InvalidLists D_InvalidLists)
    (e_NeedsMemory : ClsF K "NeedsMemory" "" C_NeedsMemory I_NeedsMemory R)
    (i_NeedsMemory : L2.Fun K "__init__" "NeedsMemory.__init__" s_NeedsMemory___init__ I_NeedsMemory D_NeedsMemory)
    (e_InvalidLimits : ClsF K "InvalidLimits" "name" C_InvalidLimits I_InvalidLimits R)
    (i_InvalidLimits : L2.Fun K "__init__" "InvalidLimits.__init__" s_InvalidLimits___init__ I_InvalidLimits D_InvalidLimits)
    (e_TooMany : ClsF K "TooMany" "most" C_TooMany I_TooMany R)
    (i_TooMany : L2.Fun K "__init__" "TooMany.__init__" s_TooMany___init__ I_TooMany D_TooMany)
    (apart : ∀ i : Fin 7, R ≠ ([C_InvalidSizes, C_UnknownName, C_InvalidUsers, C_InvalidLists, C_NeedsMemory, C_InvalidLimits, C_TooMany] : List Nat).getD i.1 0)
    (dist : ∀ i j : Fin 7, decide (([C_InvalidSizes, C_UnknownName, C_InvalidUsers, C_InvalidLists, C_NeedsMemory, C_InvalidLimits, C_TooMany] : List Nat).getD i.1 0 = ([C_InvalidSizes, C_UnknownName, C_InvalidUsers, C_InvalidLists, C_NeedsMemory, C_InvalidLimits, C_TooMany] : List Nat).getD j.1 0) = decide (i.1 = j.1))
    (z_abs : PySem.W.nsIn K mainGlobals "abs" = some none)
    (z_len : PySem.W.nsIn K mainGlobals "len" = some none)
    (z_rng : PySem.W.nsIn K mainGlobals "range" = some none)
    (z_enu : PySem.W.nsIn K mainGlobals "enumerate" = some none)
    (z_zip : PySem.W.nsIn K mainGlobals "zip" = some none)
    (z_isi : PySem.W.nsIn K mainGlobals "isinstance" = some none)
    (z_all : PySem.W.nsIn K mainGlobals "all" = some none)
    (z_srt : PySem.W.nsIn K mainGlobals "sorted" = some none)
    (z_lst : PySem.W.nsIn K mainGlobals "list" = some none)
    (z_dct : PySem.W.nsIn K mainGlobals "dict" = some none)
    (z_str : PySem.W.nsIn K mainGlobals "str" = some none)
    (z_int : PySem.W.nsIn K mainGlobals "int" = some none)
    (z_tup : PySem.W.nsIn K mainGlobals "tuple" = some none)
    (z_sum : PySem.W.nsIn K mainGlobals "sum" = some none)
    (z_min : PySem.W.nsIn K mainGlobals "min" = some none)
    (z_max : PySem.W.nsIn K mainGlobals "max" = some none)
    (z_rep : PySem.W.nsIn K mainGlobals "repr" = some none)
    (z_bool : PySem.W.nsIn K mainGlobals "bool" = some none)
    (z_any : PySem.W.nsIn K mainGlobals "any" = some none)
    (z_vE : PySem.W.nsIn K mainGlobals "ValueError" = some none)
    : LawTG l w K 13 63 "_law_script" mg fa h := by
  cases hfa.symm.trans (PySem.W.mg_of X G n_law)
  have N : Nm mg := ⟨PySem.W.mg_none_of X G z_abs, PySem.W.mg_none_of X G z_len, PySem.W.mg_none_of X G z_rng, PySem.W.mg_none_of X G z_enu, PySem.W.mg_none_of X G z_zip, PySem.W.mg_none_of X G z_isi, PySem.W.mg_none_of X G z_all, PySem.W.mg_none_of X G z_srt, PySem.W.mg_none_of X G z_lst, PySem.W.mg_none_of X G z_dct, PySem.W.mg_none_of X G z_str, PySem.W.mg_none_of X G z_int, PySem.W.mg_none_of X G z_tup, PySem.W.mg_none_of X G z_sum, PySem.W.mg_none_of X G z_min, PySem.W.mg_none_of X G z_max, PySem.W.mg_none_of X G z_rep, PySem.W.mg_none_of X G z_bool, PySem.W.mg_none_of X G z_any, PySem.W.mg_none_of X G z_vE⟩
  have Cs_ : Cs mg := ⟨⟨_, PySem.W.mg_of X G cL⟩, ⟨_, PySem.W.mg_of X G cT⟩⟩
  obtain ⟨tm, gM⟩ := gMC
  have O : FoC K CF := ⟨kCF.cls, noCF_above⟩
  have Z : Fc K mg CF (.type "type") := kCF.fc X G root
  have b_bg := u_bg.binds (ps := ["_law_script"]) fun _ _ _ _ _ _ us hl => match us, hl with | [_], _ => rfl
  have b_mx := u_mx.binds (ps := ["_law_draw"]) fun _ _ _ _ _ _ us hl => match us, hl with | [_], _ => rfl
  have b_dt := u_dt.binds (ps := ["_law_draw", "_law_size"]) fun _ _ _ _ _ _ us hl => match us, hl with | [_, _], _ => rfl
  have b_dp := u_dp.binds (ps := ["_law_draw", "_law_some"]) fun _ _ _ _ _ _ us hl => match us, hl with | [_, _], _ => rfl
  have b_foM := u_foM.binds (ps := ["_law_draw", "_law_most"]) fun _ _ _ _ _ _ us hl => match us, hl with | [_, _], _ => rfl
  have b_isn := u_isn.binds (ps := ["value"]) fun _ _ _ _ _ _ us hl => match us, hl with | [_], _ => rfl
  have b_isa := u_isa.binds (ps := ["parents", "name"]) fun _ _ _ _ _ _ us hl => match us, hl with | [_, _], _ => rfl
  have b_nd := u_nd.binds (ps := ["parents"]) fun _ _ _ _ _ _ us hl => match us, hl with | [_], _ => rfl
  have b_fi := u_fi.binds (ps := ["self", "parents"]) fun _ _ _ _ _ _ us hl => match us, hl with | [_, _], _ => rfl
  have b_sz := u_sz.binds (ps := ["_law_draw", "_law_parents", "_law_folk"]) fun _ _ _ _ _ _ us hl => match us, hl with | [_, _, _], _ => rfl
  have b_cp := u_cp.binds (ps := ["_law_draw", "_law_parents", "_law_most"]) fun _ _ _ _ _ _ us hl => match us, hl with | [_, _, _], _ => rfl
  have b_co := u_co.binds (ps := ["_law_draw", "_law_parents", "_law_wide", "_law_fresh", "_law_small"]) fun _ _ _ _ _ _ us hl => match us, hl with | [_, _, _, _, _], _ => rfl
  have b_fit := u_fit.binds (ps := ["_law_parents", "_law_folk", "_law_wide"]) fun _ _ _ _ _ _ us hl => match us, hl with | [_, _, _], _ => rfl
  have b_sr := u_sr.binds (ps := ["_law_parents", "_law_folk", "_law_here", "_law_there", "_law_fresh", "_law_caps_here", "_law_cap"]) fun _ _ _ _ _ _ us hl => match us, hl with | [_, _, _, _, _, _, _], _ => rfl
  have b_di := u_di.binds (ps := ["_law_parents", "_law_folk", "_law_wide", "_law_fresh", "_law_caps_here"]) fun _ _ _ _ _ _ us hl => match us, hl with | [_, _, _, _, _], _ => rfl
  have b_ii := u_ii.binds (ps := ["value", "least"]) fun _ _ _ _ _ _ us hl => match us, hl with | [_, _], _ => rfl
  have b_nu := u_nu.binds (ps := ["users", "most"]) fun _ _ _ _ _ _ us hl => match us, hl with | [_, _], _ => rfl
  have b_fl := u_fl.binds (ps := ["self"]) fun _ _ _ _ _ _ us hl => match us, hl with | [_], _ => rfl
  have b_po := u_po.binds (ps := ["forest"]) fun _ _ _ _ _ _ us hl => match us, hl with | [_], _ => rfl
  have b_fp := u_fp.binds (ps := ["self"]) fun _ _ _ _ _ _ us hl => match us, hl with | [_], _ => rfl
  have b_rs := u_rs.binds (ps := ["forest", "users", "sizes"]) fun _ _ _ _ _ _ us hl => match us, hl with | [_, _, _], _ => rfl
  have b_nfM := u_nfM.binds (ps := ["forest", "users", "sizes"]) fun _ _ _ _ _ _ us hl => match us, hl with | [_, _, _], _ => rfl
  have b_nsM := u_nsM.binds (ps := ["forest", "users", "sizes"]) fun _ _ _ _ _ _ us hl => match us, hl with | [_, _, _], _ => rfl
  have b_ao := u_ao.binds (ps := ["forest", "sizes", "new"]) fun _ _ _ _ _ _ us hl => match us, hl with | [_, _, _], _ => rfl
  have b_amM := u_amM.binds (ps := ["forest", "users", "sizes", "new"]) fun _ _ _ _ _ _ us hl => match us, hl with | [_, _, _, _], _ => rfl
  have b_li := u_li.binds (ps := ["forest", "limits"]) fun _ _ _ _ _ _ us hl => match us, hl with | [_, _], _ => rfl
  have b_dv := u_dv.binds (ps := ["amount", "limit"]) fun _ _ _ _ _ _ us hl => match us, hl with | [_, _], _ => rfl
  have b_fof := u_fof.binds (ps := ["changed", "limits"]) fun _ _ _ _ _ _ us hl => match us, hl with | [_, _], _ => rfl
  have b_fw := u_fw.binds (ps := ["forest", "users", "sizes", "new", "limits"]) fun _ _ _ _ _ _ us hl => match us, hl with | [_, _, _, _, _], _ => rfl
  have b_nst := u_nst.binds (ps := ["many"]) fun _ _ _ _ _ _ us hl => match us, hl with | [_], _ => rfl
  have b_ev := u_ev.binds (ps := ["sizes", "changed", "many"]) fun _ _ _ _ _ _ us hl => match us, hl with | [_, _, _], _ => rfl
  have b_pl := u_pl.binds (ps := ["forest", "users", "sizes", "new", "limits"]) fun _ _ _ _ _ _ us hl => match us, hl with | [_, _, _, _, _], _ => rfl
  have b_plr := u_plr.binds (ps := ["_law_parents", "_law_folk", "_law_wide", "_law_fresh", "_law_told", "_law_caps_here", "_law_cap"]) fun _ _ _ _ _ _ us hl => match us, hl with | [_, _, _, _, _, _, _], _ => rfl
  have b_fd := u_fd.binds (ps := ["_law_some"]) fun _ _ _ _ _ _ us hl => match us, hl with | [_], _ => rfl
  have b_nw := u_nw.binds (ps := ["_law_wood", "_law_folk", "_law_wide", "_law_fresh", "_law_caps_here", "_law_told"]) fun _ _ _ _ _ _ us hl => match us, hl with | [_, _, _, _, _, _], _ => rfl
  have b_be := u_be.binds (ps := ["_law_draw", "_law_parents", "_law_wide"]) fun _ _ _ _ _ _ us hl => match us, hl with | [_, _, _], _ => rfl
  have b_bc := u_bc.binds (ps := ["_law_draw", "_law_parents", "_law_caps_here"]) fun _ _ _ _ _ _ us hl => match us, hl with | [_, _, _], _ => rfl
  have b_se := u_se.binds (ps := ["_law_parents", "_law_folk", "_law_wide"]) fun _ _ _ _ _ _ us hl => match us, hl with | [_, _, _], _ => rfl
  have b_ce := u_ce.binds (ps := ["_law_parents", "_law_caps_here"]) fun _ _ _ _ _ _ us hl => match us, hl with | [_, _], _ => rfl
  have b_re := u_re.binds (ps := ["_law_work"]) fun _ _ _ _ _ _ us hl => match us, hl with | [_], _ => rfl
  have b_rf := (u_rf.fun).binds (ps := ["_law_draw", "_law_parents", "_law_folk", "_law_wide", "_law_fresh", "_law_caps_here"]) fun _ _ _ _ _ _ us hl => match us, hl with | [_, _, _, _, _, _], _ => rfl
  have g_bg := PySem.W.mg_of X G n_bg
  have g_mx := PySem.W.mg_of X G n_mx
  have g_dt := PySem.W.mg_of X G n_dt
  have g_dp := PySem.W.mg_of X G n_dp
  have g_foM := PySem.W.mg_of X G n_foM
  have g_isn := PySem.W.mg_of X G n_isn
  have g_isa := PySem.W.mg_of X G n_isa
  have g_nd := PySem.W.mg_of X G n_nd
  have g_sz := PySem.W.mg_of X G n_sz
  have g_cp := PySem.W.mg_of X G n_cp
  have g_co := PySem.W.mg_of X G n_co
  have g_fit := PySem.W.mg_of X G n_fit
  have g_sr := PySem.W.mg_of X G n_sr
  have g_di := PySem.W.mg_of X G n_di
  have g_ii := PySem.W.mg_of X G n_ii
  have g_nu := PySem.W.mg_of X G n_nu
  have g_po := PySem.W.mg_of X G n_po
  have g_rs := PySem.W.mg_of X G n_rs
  have g_nfM := PySem.W.mg_of X G n_nfM
  have g_nsM := PySem.W.mg_of X G n_nsM
  have g_ao := PySem.W.mg_of X G n_ao
  have g_amM := PySem.W.mg_of X G n_amM
  have g_li := PySem.W.mg_of X G n_li
  have g_dv := PySem.W.mg_of X G n_dv
  have g_fof := PySem.W.mg_of X G n_fof
  have g_fw := PySem.W.mg_of X G n_fw
  have g_nst := PySem.W.mg_of X G n_nst
  have g_ev := PySem.W.mg_of X G n_ev
  have g_pl := PySem.W.mg_of X G n_pl
  have g_plr := PySem.W.mg_of X G n_plr
  have g_fd := PySem.W.mg_of X G n_fd
  have g_nw := PySem.W.mg_of X G n_nw
  have g_be := PySem.W.mg_of X G n_be
  have g_bc := PySem.W.mg_of X G n_bc
  have g_se := PySem.W.mg_of X G n_se
  have g_ce := PySem.W.mg_of X G n_ce
  have g_re := PySem.W.mg_of X G n_re
  have g_rf := PySem.W.mg_of X G n_rf
  have rt := rt0.rt X G
  have at_ : ∀ i, i < 7 → ClsAt K (([C_InvalidSizes, C_UnknownName, C_InvalidUsers, C_InvalidLists, C_NeedsMemory, C_InvalidLimits, C_TooMany] : List Nat).getD i 0) (.ref R :: exTail) := fun i hi => match i, hi with
    | 0, _ => e_InvalidSizes.at_
    | 1, _ => e_UnknownName.at_
    | 2, _ => e_InvalidUsers.at_
    | 3, _ => e_InvalidLists.at_
    | 4, _ => e_NeedsMemory.at_
    | 5, _ => e_InvalidLimits.at_
    | 6, _ => e_TooMany.at_
  have xs_ : ∀ i, i < 7 → XCls K (([C_InvalidSizes, C_UnknownName, C_InvalidUsers, C_InvalidLists, C_NeedsMemory, C_InvalidLimits, C_TooMany] : List Nat).getD i 0) := fun i hi => match i, hi with
    | 0, _ => e_InvalidSizes.x rt0
    | 1, _ => e_UnknownName.x rt0
    | 2, _ => e_InvalidUsers.x rt0
    | 3, _ => e_InvalidLists.x rt0
    | 4, _ => e_NeedsMemory.x rt0
    | 5, _ => e_InvalidLimits.x rt0
    | 6, _ => e_TooMany.x rt0
  have kits : ∀ i j, i < 7 → j < 7 → PySem.W.kitOne K (.ref (([C_InvalidSizes, C_UnknownName, C_InvalidUsers, C_InvalidLists, C_NeedsMemory, C_InvalidLimits, C_TooMany] : List Nat).getD i 0)) (.ref (([C_InvalidSizes, C_UnknownName, C_InvalidUsers, C_InvalidLists, C_NeedsMemory, C_InvalidLimits, C_TooMany] : List Nat).getD j 0)) = some (decide (i = j)) := fun i j hi hj => by rw [(at_ i hi).kit (at_ j hj), has_cls (dist ⟨i, hi⟩ ⟨j, hj⟩) (apart ⟨j, hj⟩)]
  have exs : ∀ i j, i < 7 → j < 7 → PySem.W.exmOne K (.ref (([C_InvalidSizes, C_UnknownName, C_InvalidUsers, C_InvalidLists, C_NeedsMemory, C_InvalidLimits, C_TooMany] : List Nat).getD i 0)) (.ref (([C_InvalidSizes, C_UnknownName, C_InvalidUsers, C_InvalidLists, C_NeedsMemory, C_InvalidLimits, C_TooMany] : List Nat).getD j 0)) = some (decide (i = j)) := fun i j hi hj => by rw [(at_ i hi).exm (at_ j hj) rfl, has_cls (dist ⟨i, hi⟩ ⟨j, hj⟩) (apart ⟨j, hj⟩)]
  obtain ⟨T, eT⟩ : ∃ T : List (Addr × Str), T = [(t_rf, lamQ "_law_refused_right"), (t_law, lamQ "law")] := ⟨_, rfl⟩
  have m_rf : (t_rf, lamQ "_law_refused_right") ∈ T := by rw [eT]; simp
  have un_rf : ∀ p ∈ T, p.1 = t_rf → p.2 = lamQ "_law_refused_right" := fun p hp e => by
    rw [eT] at hp
    simp only [List.mem_cons, List.not_mem_nil, or_false] at hp
    rcases hp with rfl | rfl
    · rfl
    · exact absurd e (Ne.symm ne_rf_law)
  have m_law : (t_law, lamQ "law") ∈ T := by rw [eT]; simp
  have un_law : ∀ p ∈ T, p.1 = t_law → p.2 = lamQ "law" := fun p hp e => by
    rw [eT] at hp
    simp only [List.mem_cons, List.not_mem_nil, or_false] at hp
    rcases hp with rfl | rfl
    · exact absurd e ne_rf_law
    · rfl
  refine ⟨d_law, ([(c_rf, t_rf), (c_law, t_law)] : List (Addr × Addr)), spLaw25 K T, fun p hp => ?_, fun s u => ?_, fun H a ns hl hts hS => ?_, fun base KB GB TBs => ?_⟩
  · simp only [List.mem_cons, List.not_mem_nil, or_false] at hp
    rcases hp with rfl | rfl
    · exact ⟨(TO _ _ _ t3_rf t1_rf).1, (TO _ _ _ t3_rf t1_rf).2, t2_rf⟩
    · exact ⟨(TO _ _ _ t3_law t1_law).1, (TO _ _ _ t3_law t1_law).2, t2_law⟩
  · obtain ⟨oc, od, kV, doc, pm, an, cdv, ct, osl, rfl, lk, hcd⟩ := u_law.fun.ex
    exact .of_eq rfl
  · refine ⟨a, ns, rfl, hS, hl, ?_, fun _ => rfl⟩
    intro p hp
    rw [eT] at hp
    simp only [List.mem_cons, List.not_mem_nil, or_false] at hp
    rcases hp with rfl | rfl
    · exact TabS.nil (hts (c_rf, t_rf) (by simp))
    · exact TabS.nil (hts (c_law, t_law) (by simp))
  have E_InvalidSizes : Er1 l.prog w K mg base "InvalidSizes" "place" C_InvalidSizes I_InvalidSizes D_InvalidSizes := ⟨e_InvalidSizes.er X G rt0, ok_InvalidSizes i_InvalidSizes rt (e_InvalidSizes.er X G rt0), i_InvalidSizes.binds (ps := ["self", "place"]) fun _ _ _ _ _ _ us hl => match us, hl with | [_, _], _ => rfl⟩
  have E_InvalidUsers : Er0 l.prog w K mg base "InvalidUsers" C_InvalidUsers I_InvalidUsers D_InvalidUsers := ⟨e_InvalidUsers.er X G rt0, ok_InvalidUsers i_InvalidUsers rt (e_InvalidUsers.er X G rt0), i_InvalidUsers.binds (ps := ["self"]) fun _ _ _ _ _ _ us hl => match us, hl with | [_], _ => rfl⟩
  have E_InvalidLimits : Er1 l.prog w K mg base "InvalidLimits" "name" C_InvalidLimits I_InvalidLimits D_InvalidLimits := ⟨e_InvalidLimits.er X G rt0, ok_InvalidLimits i_InvalidLimits rt (e_InvalidLimits.er X G rt0), i_InvalidLimits.binds (ps := ["self", "name"]) fun _ _ _ _ _ _ us hl => match us, hl with | [_, _], _ => rfl⟩
  have E_TooMany : Er1 l.prog w K mg base "TooMany" "most" C_TooMany I_TooMany D_TooMany := ⟨e_TooMany.er X G rt0, ok_TooMany i_TooMany rt (e_TooMany.er X G rt0), i_TooMany.binds (ps := ["self", "most"]) fun _ _ _ _ _ _ us hl => match us, hl with | [_, _], _ => rfl⟩
  have D_bg : Dn l.prog w K mg base CX0 1 "_law_begin" ["_law_script"] (spBeginB K) f_bg d_bg := ⟨ok_beginB u_bg N, u_bg.kp, b_bg, g_bg⟩
  have D_mx : Dn l.prog w K mg base CX0 1 "_law_mixed" ["_law_draw"] (spMixedB) f_mx d_mx := ⟨ok_mixedB u_mx, u_mx.kp, b_mx, g_mx⟩
  have D_dt : Dn l.prog w K mg base CX0 2 "_law_take" ["_law_draw", "_law_size"] (spTakeB) f_dt d_dt := ⟨ok_takeB u_dt D_mx, u_dt.kp, b_dt, g_dt⟩
  have D_dp : Dn l.prog w K mg base CX0 3 "_law_pick" ["_law_draw", "_law_some"] (spPickB) f_dp d_dp := ⟨ok_pickB u_dp N D_dt, u_dp.kp, b_dp, g_dp⟩
  have D_foM : Dn l.prog w K mg base CX0 4 "_law_forest" ["_law_draw", "_law_most"] (spForBm) f_foM d_foM := ⟨ok_forestBm u_foM N D_dt D_dp, u_foM.kp, b_foM, g_foM⟩
  have D_isn : Dn l.prog w K mg base CX0 1 "is_name" ["value"] (spIsName) f_isn d_isn := ⟨ok_isName u_isn N Cs_, u_isn.kp, b_isn, g_isn⟩
  have D_isa : Dn l.prog w K mg base CX0 1 "is_ancestor" ["parents", "name"] (spIsAnc) f_isa d_isa := ⟨ok_isAnc u_isa, u_isa.kp, b_isa, g_isa⟩
  have D_nd : Dn l.prog w K mg base CX0 2 "need_parents" ["parents"] (spNeed) f_nd d_nd := ⟨ok_need u_nd N Cs_ Z D_isn D_isa, u_nd.kp, b_nd, g_nd⟩
  have F_fi : FnOk l.prog w K mg base CX0 3 f_fi d_fi ["self", "parents"] (spFInit CF) := ok_finit u_fi N O D_nd
  have MK_fi : Mk K CF f_fi := ⟨kCF.mks, m_fi.at_, m_fi.fn, kCF.kp⟩
  have D_sz : Dn l.prog w K mg base CX0 4 "_law_sizes" ["_law_draw", "_law_parents", "_law_folk"] (spSizesB) f_sz d_sz := ⟨ok_sizesB u_sz N D_dt D_dp, u_sz.kp, b_sz, g_sz⟩
  have D_cp : Dn l.prog w K mg base CX0 4 "_law_caps" ["_law_draw", "_law_parents", "_law_most"] (spCapsB) f_cp d_cp := ⟨ok_capsB u_cp N D_dt D_dp, u_cp.kp, b_cp, g_cp⟩
  have D_co : Dn l.prog w K mg base CX0 5 "_law_caps_of" ["_law_draw", "_law_parents", "_law_wide", "_law_fresh", "_law_small"] (spCapsOf) f_co d_co := ⟨ok_capsOf u_co N D_dt D_dp D_cp, u_co.kp, b_co, g_co⟩
  have D_fit : Dn l.prog w K mg base CX0 1 "_law_fits" ["_law_parents", "_law_folk", "_law_wide"] (spFits) f_fit d_fit := ⟨ok_fits u_fit N, u_fit.kp, b_fit, g_fit⟩
  have D_sr : Dn l.prog w K mg base CX0 2 "_law_step_right" ["_law_parents", "_law_folk", "_law_here", "_law_there", "_law_fresh", "_law_caps_here", "_law_cap"] (spStepR) f_sr d_sr := ⟨ok_stepR u_sr N D_fit, u_sr.kp, b_sr, g_sr⟩
  have D_di : Dn l.prog w K mg base CX0 3 "_law_distance" ["_law_parents", "_law_folk", "_law_wide", "_law_fresh", "_law_caps_here"] (spDist) f_di d_di := ⟨ok_dist u_di N D_sr, u_di.kp, b_di, g_di⟩
  have D_ii : Dn l.prog w K mg base CX0 1 "is_integer" ["value", "least"] (spIsInt K) f_ii d_ii := ⟨ok_isInt u_ii N, u_ii.kp, b_ii, g_ii⟩
  have D_nu : Dn l.prog w K mg base (L2.CX l.prog w) 3 "need_users" ["users", "most"] (spUsers K C_InvalidUsers) f_nu d_nu := ⟨ok_users u_nu N D_ii E_InvalidUsers, u_nu.kp, b_nu, g_nu⟩
  have P_fl : Pr1 l.prog w K mg base CF "flags" (spFFlags CF) p_fl f_fl d_fl := ⟨⟨m_fl.at_, m_fl.get, m_fl.tak, ⟨_, m_fl.rec_⟩⟩, ok_fflags u_fl N O, b_fl⟩
  have D_po : Dn l.prog w K mg base CX0 3 "places_of" ["forest"] (spPlacesOf CF) f_po d_po := ⟨ok_placesOf u_po N O Z P_fl, u_po.kp, b_po, g_po⟩
  have P_fp : Pr1 l.prog w K mg base CF "parents" (spFParents CF) p_fp f_fp d_fp := ⟨⟨m_fp.at_, m_fp.get, m_fp.tak, ⟨_, m_fp.rec_⟩⟩, ok_fparents u_fp N O, b_fp⟩
  have D_rs : Dn l.prog w K mg base CX0 4 "residents_of" ["forest", "users", "sizes"] (spResid CF) f_rs d_rs := ⟨ok_resid u_rs N O Z D_po P_fl P_fp, u_rs.kp, b_rs, g_rs⟩
  have D_nfM : Dn l.prog w K mg base (L2.CX l.prog w) 5 "need_feasible" ["forest", "users", "sizes"] (spFeasM K CF C_InvalidSizes) f_nfM d_nfM := ⟨ok_feasM u_nfM N O E_InvalidSizes D_rs D_ii P_fl, u_nfM.kp, b_nfM, g_nfM⟩
  have D_nsM : Dn l.prog w K mg base (L2.CX l.prog w) 6 "need_sizes" ["forest", "users", "sizes"] (spNSizesM K CF C_InvalidUsers C_InvalidSizes) f_nsM d_nsM := ⟨ok_nsizesM u_nsM gM D_nu D_nfM, u_nsM.kp, b_nsM, g_nsM⟩
  have D_ao : Dn l.prog w K mg base CX0 3 "amounts_of" ["forest", "sizes", "new"] (spAmtOf CF) f_ao d_ao := ⟨ok_amtOf u_ao O P_fl, u_ao.kp, b_ao, g_ao⟩
  have D_amM : Dn l.prog w K mg base (L2.CX l.prog w) 7 "amounts" ["forest", "users", "sizes", "new"] (spAmountsM K CF C_InvalidUsers C_InvalidSizes) f_amM d_amM := ⟨ok_amountsM u_amM D_nsM D_nfM D_ao, u_amM.kp, b_amM, g_amM⟩
  have D_li : Dn l.prog w K mg base (L2.CX l.prog w) 3 "need_limits" ["forest", "limits"] (spLim K CF C_InvalidLimits) f_li d_li := ⟨ok_lim u_li N O E_InvalidLimits D_ii P_fl, u_li.kp, b_li, g_li⟩
  have D_dv : Dn l.prog w K mg base CX0 1 "divided" ["amount", "limit"] (spDivd) f_dv d_dv := ⟨ok_divd u_dv, u_dv.kp, b_dv, g_dv⟩
  have D_fof : Dn l.prog w K mg base CX0 2 "fewest_of" ["changed", "limits"] (spFewOf) f_fof d_fof := ⟨ok_fewOf u_fof N D_dv, u_fof.kp, b_fof, g_fof⟩
  have D_fw : Dn l.prog w K mg base (L2.CX l.prog w) 8 "fewest" ["forest", "users", "sizes", "new", "limits"] (spFewest3 K CF C_InvalidUsers C_InvalidSizes C_InvalidLimits) f_fw d_fw := ⟨ok_fewest3 u_fw D_amM D_li D_fof, u_fw.kp, b_fw, g_fw⟩
  have D_nst : Dn l.prog w K mg base (L2.CX l.prog w) 3 "need_steps" ["many"] (spNSt C_TooMany) f_nst d_nst := ⟨ok_nst u_nst (PySem.W.mg_of X G cMS) E_TooMany, u_nst.kp, b_nst, g_nst⟩
  have D_ev : Dn l.prog w K mg base CX0 1 "even_steps" ["sizes", "changed", "many"] (spEven) f_ev d_ev := ⟨ok_even u_ev N, u_ev.kp, b_ev, g_ev⟩
  have D_pl : Dn l.prog w K mg base (L2.CX l.prog w) 9 "plan" ["forest", "users", "sizes", "new", "limits"] (spPlan K CF C_InvalidUsers C_InvalidSizes C_InvalidLimits C_TooMany) f_pl d_pl := ⟨ok_plan u_pl D_fw D_nst D_ao D_ev, u_pl.kp, b_pl, g_pl⟩
  have D_plr : Dn l.prog w K mg base CX0 3 "_law_plan_right" ["_law_parents", "_law_folk", "_law_wide", "_law_fresh", "_law_told", "_law_caps_here", "_law_cap"] (spPlanR K) f_plr d_plr := ⟨ok_planR u_plr N D_sr, u_plr.kp, b_plr, g_plr⟩
  have D_fd : Dn l.prog w K mg base CX0 1 "_law_flipped" ["_law_some"] (spFlip) f_fd d_fd := ⟨ok_flipped u_fd N, u_fd.kp, b_fd, g_fd⟩
  have G_nw : FnG l.prog w K mg base CX0 10 f_nw d_nw ["_law_wood", "_law_folk", "_law_wide", "_law_fresh", "_law_caps_here", "_law_told"] (spNew25 CF) := ok_new25 u_nw N D_pl D_fd
  have D_be : Dn l.prog w K mg base CX0 4 "_law_bent_sizes" ["_law_draw", "_law_parents", "_law_wide"] (spBentB K) f_be d_be := ⟨ok_bentB u_be N D_dt D_dp, u_be.kp, b_be, g_be⟩
  have D_bc : Dn l.prog w K mg base CX0 4 "_law_bent_caps" ["_law_draw", "_law_parents", "_law_caps_here"] (spBentCap K) f_bc d_bc := ⟨ok_bentCap u_bc N D_dt D_dp, u_bc.kp, b_bc, g_bc⟩
  have G_se : FnG l.prog w K mg base CX0 1 f_se d_se ["_law_parents", "_law_folk", "_law_wide"] (spSzErr K) := ok_szErr u_se N
  have G_ce : FnG l.prog w K mg base CX0 1 f_ce d_ce ["_law_parents", "_law_caps_here"] (spCapErr K) := ok_capErr u_ce N
  have GE : Ge K mg "_law_result" s__law_result f_re d_re := ⟨u_re, b_re, g_re⟩
  -- _law_refused_right: below
  have CC_ : Cl7 K mg R (fun i => ([C_InvalidSizes, C_UnknownName, C_InvalidUsers, C_InvalidLists, C_NeedsMemory, C_InvalidLimits, C_TooMany] : List Nat).getD i 0) := ⟨rt.g, fun i hi => match i, hi with
    | 0, _ => PySem.W.mg_of X G e_InvalidSizes.nsn
    | 1, _ => PySem.W.mg_of X G e_UnknownName.nsn
    | 2, _ => PySem.W.mg_of X G e_InvalidUsers.nsn
    | 3, _ => PySem.W.mg_of X G e_InvalidLists.nsn
    | 4, _ => PySem.W.mg_of X G e_NeedsMemory.nsn
    | 5, _ => PySem.W.mg_of X G e_InvalidLimits.nsn
    | 6, _ => PySem.W.mg_of X G e_TooMany.nsn, xs_, kits, fun i hi => kit_bt (at_ i hi), fun i hi => by rw [(at_ i hi).exm rt0.at_ rfl, has_root], fun i f hi hf => match i, hi with
    | 0, _ => by cases hf; exact e_InvalidSizes.no
    | 1, _ => by cases hf; exact e_UnknownName.no
    | 2, _ => by cases hf
    | 3, _ => by cases hf
    | 4, _ => by cases hf
    | 5, _ => by cases hf; exact e_InvalidLimits.no
    | 6, _ => by cases hf; exact e_TooMany.no⟩
  have WR : W25R l.prog w K mg base CF C_InvalidUsers C_InvalidSizes C_InvalidLimits C_TooMany (.type "type") (fun i => ([f_dp, f_fi, f_be, f_bc, f_se, f_ce, f_fw, f_pl] : List Nat).getD i 0) (fun i => ([d_dp, d_fi, d_be, d_bc, d_se, d_ce, d_fw, d_pl] : List FuncData).getD i d_dp) := { Z := Z, dp := D_dp, fi := F_fi, fim := MK_fi, fib := b_fi, be := D_be, bc := D_bc, se := G_se, sem := g_se, sek := u_se.kp, seb := b_se, ce := G_ce, cem := g_ce, cek := u_ce.kp, ceb := b_ce, fw := D_fw, pl := D_pl }
  have G_rf : FnG l.prog w K mg base CX0 12 f_rf d_rf ["_law_draw", "_law_parents", "_law_folk", "_law_wide", "_law_fresh", "_law_caps_here"] (spRef25 T) := ok_ref25 u_rf N WR GE CC_ rfl rfl rfl (TBs (c_rf, t_rf) (by simp)) m_rf un_rf
  have W : W25 l.prog w K mg base T CF C_InvalidUsers C_InvalidSizes C_InvalidLimits C_TooMany (.type "type") (fun i => ([f_bg, f_dt, f_dp, f_foM, f_fi, f_sz, f_co, f_di, f_fw, f_pl, f_plr, f_nw, f_rf] : List Nat).getD i 0) (fun i => ([d_bg, d_dt, d_dp, d_foM, d_fi, d_sz, d_co, d_di, d_fw, d_pl, d_plr, d_nw, d_rf] : List FuncData).getD i d_bg) := { Z := Z, bg := D_bg, dt := D_dt, dp := D_dp, fo := D_foM, fi := F_fi, fim := MK_fi, fib := b_fi, sz := D_sz, co := D_co, di := D_di, fw := D_fw, fwk := kw5 u_fw (fun _ _ _ _ _ _ _ _ _ _ _ => rfl), pl := D_pl, plk := kw5 u_pl (fun _ _ _ _ _ _ _ _ _ _ _ => rfl), plr := D_plr, nw := G_nw, nwm := g_nw, nwp := u_nw.kp, nwb := b_nw, rf := G_rf, rfm := g_rf, rfp := u_rf.kp, rfb := b_rf }
  exact ok_law25 u_law N W GE CC_ rfl (TBs (c_law, t_law) (by simp)) m_law un_law
end
theorem walk {l : PySem.W.OpenLaw} {q : Program} {loose : List Str} {XP : (Str → Option Value) → Heap → Prop} {YP : World → Heap → Prop} {d : DefRec} {K : Params → PySem.W.Frag} (hn : l.most = some 63) (hdf : d.params.defaults = [])
    (hY : ∀ (w : World) (h : Heap), YP w h → (K w.params).In h)
    (F : ∀ (w : World) (mg : Str → Option Value) (fa : Addr) (h : Heap), (K w.params).In h → h.Ns mainGlobals mg → mg d.name = some (.ref fa) → TabsOf q (K w.params) h → XP mg h → LawTG l w (K w.params) 13 63 "_law_script" mg fa h) :
    PySem.W.WalkO q loose XP YP l.row.toRowW d [] (fun f vs => PySem.call f vs) :=
  walk_tabG (n := 63) (k := 13) (x := "_law_script") hn (by decide) hdf ⟨rfl, by decide, by decide⟩ hY F
end FT


open PySem PySem.W PyProof.Rows
set_option maxRecDepth 100000 in
set_option maxHeartbeats 0 in
theorem PySem.Challenge.cw_flagtrees_k25_plans_within_limits_of_fla_holds : PySem.Challenge.rw_flagtrees_k25_plans_within_limits_of_fla.Holds := by
  w_on; o_law; k_head; (case hw => w_witness2)
  k_fill
  refine FT.walk (l := PySem.Challenge.rw_flagtrees_k25_plans_within_limits_of_fla) rfl rfl (fun w h Y => PySem.W.km_in_of Y) ?F
  case F =>
    intro w mg fa h KX G hm TO XX
    have hmg : mg "law" = some (.ref fa) := hm
    clear hm
    refine' FT.all_mk KX G hmg TO ?kCF ?noCF_above ?root ?cL ?cT ?gMC ?cMS ?n_bg ?u_bg ?n_mx ?u_mx ?n_dt ?u_dt ?n_dp ?u_dp ?n_foM ?u_foM ?n_isn ?u_isn ?n_isa ?u_isa ?n_nd ?u_nd ?n_sz ?u_sz ?n_cp ?u_cp ?n_co ?u_co ?n_fit ?u_fit ?n_sr ?u_sr ?n_di ?u_di ?n_ii ?u_ii ?n_nu ?u_nu ?n_po ?u_po ?n_rs ?u_rs ?n_nfM ?u_nfM ?n_nsM ?u_nsM ?n_ao ?u_ao ?n_amM ?u_amM ?n_li ?u_li ?n_dv ?u_dv ?n_fof ?u_fof ?n_fw ?u_fw ?n_nst ?u_nst ?n_ev ?u_ev ?n_pl ?u_pl ?n_plr ?u_plr ?n_fd ?u_fd ?n_nw ?u_nw ?n_be ?u_be ?n_bc ?u_bc ?n_se ?u_se ?n_ce ?u_ce ?n_re ?u_re ?n_rf ?u_rf ?t1_rf ?t2_rf ?t3_rf ?n_law ?u_law ?t1_law ?t2_law ?t3_law ?ne_rf_law ?m_fi ?m_fl ?m_fp ?u_fi ?u_fl ?u_fp ?rt0 ?e_InvalidSizes ?i_InvalidSizes ?e_UnknownName ?i_UnknownName ?e_InvalidUsers ?i_InvalidUsers ?e_InvalidLists ?i_InvalidLists ?e_NeedsMemory ?i_NeedsMemory ?e_InvalidLimits ?i_InvalidLimits ?e_TooMany ?i_TooMany ?apart ?dist ?z_abs ?z_len ?z_rng ?z_enu ?z_zip ?z_isi ?z_all ?z_srt ?z_lst ?z_dct ?z_str ?z_int ?z_tup ?z_sum ?z_min ?z_max ?z_rep ?z_bool ?z_any ?z_vE
    (case kCF => (refine' ⟨?nsn, ?rd, ?ga, ?most, ?pg, ?hd, ?po, ?sa, ?mks, ?kp, ?ha, ?hn, ?ht, ?hm⟩; (case nsn => k_is); (case rd => k_is); (case ga => k_is); (case most => k_is); (case pg => k_is); (case hd => k_is); (case po => k_is); (case sa => k_is); (case mks => k_is); (case kp => k_is); (case ha => k_is); (case hn => k_is); (case ht => k_is); (case hm => k_is)))
    (case noCF_above => k_is)
    (case root => k_is)
    (case cL => k_is)
    (case cT => k_is)
    (case gMC => (rw [show (10 : Int) ^ 30 = 1000000000000000000000000000000 by decide]; exact FT.loose_int XX (List.mem_cons_self ..)))
    (case cMS => k_is)
    (case n_bg => k_is)
    (case u_bg => (refine' L2.fun_mk ?l ?c ?k; (case l => k_is); (case c => k_is); (case k => k_is)))
    (case n_mx => k_is)
    (case u_mx => (refine' L2.fun_mk ?l ?c ?k; (case l => k_is); (case c => k_is); (case k => k_is)))
    (case n_dt => k_is)
    (case u_dt => (refine' L2.fun_mk ?l ?c ?k; (case l => k_is); (case c => k_is); (case k => k_is)))
    (case n_dp => k_is)
    (case u_dp => (refine' L2.fun_mk ?l ?c ?k; (case l => k_is); (case c => k_is); (case k => k_is)))
    (case n_foM => k_is)
    (case u_foM => (refine' L2.fun_mk ?l ?c ?k; (case l => k_is); (case c => k_is); (case k => k_is)))
    (case n_isn => k_is)
    (case u_isn => (refine' L2.fun_mk ?l ?c ?k; (case l => k_is); (case c => k_is); (case k => k_is)))
    (case n_isa => k_is)
    (case u_isa => (refine' L2.fun_mk ?l ?c ?k; (case l => k_is); (case c => k_is); (case k => k_is)))
    (case n_nd => k_is)
    (case u_nd => (refine' L2.fun_mk ?l ?c ?k; (case l => k_is); (case c => k_is); (case k => k_is)))
    (case n_sz => k_is)
    (case u_sz => (refine' L2.fun_mk ?l ?c ?k; (case l => k_is); (case c => k_is); (case k => k_is)))
    (case n_cp => k_is)
    (case u_cp => (refine' L2.fun_mk ?l ?c ?k; (case l => k_is); (case c => k_is); (case k => k_is)))
    (case n_co => k_is)
    (case u_co => (refine' L2.fun_mk ?l ?c ?k; (case l => k_is); (case c => k_is); (case k => k_is)))
    (case n_fit => k_is)
    (case u_fit => (refine' L2.fun_mk ?l ?c ?k; (case l => k_is); (case c => k_is); (case k => k_is)))
    (case n_sr => k_is)
    (case u_sr => (refine' L2.fun_mk ?l ?c ?k; (case l => k_is); (case c => k_is); (case k => k_is)))
    (case n_di => k_is)
    (case u_di => (refine' L2.fun_mk ?l ?c ?k; (case l => k_is); (case c => k_is); (case k => k_is)))
    (case n_ii => k_is)
    (case u_ii => (refine' L2.fun_mk ?l ?c ?k; (case l => k_is); (case c => k_is); (case k => k_is)))
    (case n_nu => k_is)
    (case u_nu => (refine' L2.fun_mk ?l ?c ?k; (case l => k_is); (case c => k_is); (case k => k_is)))
    (case n_po => k_is)
    (case u_po => (refine' L2.fun_mk ?l ?c ?k; (case l => k_is); (case c => k_is); (case k => k_is)))
    (case n_rs => k_is)
    (case u_rs => (refine' L2.fun_mk ?l ?c ?k; (case l => k_is); (case c => k_is); (case k => k_is)))
    (case n_nfM => k_is)
    (case u_nfM => (refine' L2.fun_mk ?l ?c ?k; (case l => k_is); (case c => k_is); (case k => k_is)))
    (case n_nsM => k_is)
    (case u_nsM => (refine' L2.fun_mk ?l ?c ?k; (case l => k_is); (case c => k_is); (case k => k_is)))
    (case n_ao => k_is)
    (case u_ao => (refine' L2.fun_mk ?l ?c ?k; (case l => k_is); (case c => k_is); (case k => k_is)))
    (case n_amM => k_is)
    (case u_amM => (refine' L2.fun_mk ?l ?c ?k; (case l => k_is); (case c => k_is); (case k => k_is)))
    (case n_li => k_is)
    (case u_li => (refine' L2.fun_mk ?l ?c ?k; (case l => k_is); (case c => k_is); (case k => k_is)))
    (case n_dv => k_is)
    (case u_dv => (refine' L2.fun_mk ?l ?c ?k; (case l => k_is); (case c => k_is); (case k => k_is)))
    (case n_fof => k_is)
    (case u_fof => (refine' L2.fun_mk ?l ?c ?k; (case l => k_is); (case c => k_is); (case k => k_is)))
    (case n_fw => k_is)
    (case u_fw => (refine' L2.fun_mk ?l ?c ?k; (case l => k_is); (case c => k_is); (case k => k_is)))
    (case n_nst => k_is)
    (case u_nst => (refine' L2.fun_mk ?l ?c ?k; (case l => k_is); (case c => k_is); (case k => k_is)))
    (case n_ev => k_is)
    (case u_ev => (refine' L2.fun_mk ?l ?c ?k; (case l => k_is); (case c => k_is); (case k => k_is)))
    (case n_pl => k_is)
    (case u_pl => (refine' L2.fun_mk ?l ?c ?k; (case l => k_is); (case c => k_is); (case k => k_is)))
    (case n_plr => k_is)
    (case u_plr => (refine' L2.fun_mk ?l ?c ?k; (case l => k_is); (case c => k_is); (case k => k_is)))
    (case n_fd => k_is)
    (case u_fd => (refine' L2.fun_mk ?l ?c ?k; (case l => k_is); (case c => k_is); (case k => k_is)))
    (case n_nw => k_is)
    (case u_nw => (refine' L2.fun_mk ?l ?c ?k; (case l => k_is); (case c => k_is); (case k => k_is)))
    (case n_be => k_is)
    (case u_be => (refine' L2.fun_mk ?l ?c ?k; (case l => k_is); (case c => k_is); (case k => k_is)))
    (case n_bc => k_is)
    (case u_bc => (refine' L2.fun_mk ?l ?c ?k; (case l => k_is); (case c => k_is); (case k => k_is)))
    (case n_se => k_is)
    (case u_se => (refine' L2.fun_mk ?l ?c ?k; (case l => k_is); (case c => k_is); (case k => k_is)))
    (case n_ce => k_is)
    (case u_ce => (refine' L2.fun_mk ?l ?c ?k; (case l => k_is); (case c => k_is); (case k => k_is)))
    (case n_re => k_is)
    (case u_re => (refine' L2.fun_mk ?l ?c ?k; (case l => k_is); (case c => k_is); (case k => k_is)))
    (case n_rf => k_is)
    (case u_rf => (refine' L2.funC_mk ?l ?e ?k; (case l => k_is); (case e => k_is); (case k => k_is)))
    (case t1_rf => rfl)
    (case t2_rf => rfl)
    (case t3_rf => rfl)
    (case n_law => k_is)
    (case u_law => (refine' L2.funC_mk ?l ?e ?k; (case l => k_is); (case e => k_is); (case k => k_is)))
    (case t1_law => rfl)
    (case t2_law => rfl)
    (case t3_law => rfl)
    (case ne_rf_law => decide)
    (case m_fi => (refine' ⟨?at_, ?fn⟩; (case at_ => k_is); (case fn => k_is)))
    (case m_fl => (refine' ⟨?at_, ?get, ?tak, ?rec_⟩; (case at_ => k_is); (case get => k_is); (case tak => k_is); (case rec_ => k_is)))
    (case m_fp => (refine' ⟨?at_, ?get, ?tak, ?rec_⟩; (case at_ => k_is); (case get => k_is); (case tak => k_is); (case rec_ => k_is)))
    (case u_fi => (refine' L2.fun_mk ?l ?c ?k; (case l => k_is); (case c => k_is); (case k => k_is)))
    (case u_fl => (refine' L2.fun_mk ?l ?c ?k; (case l => k_is); (case c => k_is); (case k => k_is)))
    (case u_fp => (refine' L2.fun_mk ?l ?c ?k; (case l => k_is); (case c => k_is); (case k => k_is)))
    (case rt0 => (refine' ⟨?nsn, ?at_, ?rd, ?ga, ?ini, ?hn, ?ht⟩; (case nsn => k_is); (case at_ => (refine' ⟨_, _, _, _, _, _, _, _, _, _, _, _, _, _, ?xl⟩; (case xl => rfl))); (case rd => k_is); (case ga => k_is); (case ini => k_is); (case hn => k_is); (case ht => k_is)))
    (case e_InvalidSizes => (refine' ⟨?nsn, ?at_, ?sa, ?ga, ?gg, ?ha, ?kC, ?no, ?ini, ?ity⟩; (case nsn => k_is); (case at_ => (refine' ⟨_, _, _, _, _, _, _, _, _, _, _, _, _, _, ?xl⟩; (case xl => rfl))); (case sa => k_is); (case ga => k_is); (case gg => k_is); (case ha => k_is); (case kC => k_is); (case no => k_is); (case ini => k_is); (case ity => k_is)))
    (case i_InvalidSizes => (refine' L2.fun_mk ?l ?c ?k; (case l => k_is); (case c => k_is); (case k => k_is)))
    (case e_UnknownName => (refine' ⟨?nsn, ?at_, ?sa, ?ga, ?gg, ?ha, ?kC, ?no, ?ini, ?ity⟩; (case nsn => k_is); (case at_ => (refine' ⟨_, _, _, _, _, _, _, _, _, _, _, _, _, _, ?xl⟩; (case xl => rfl))); (case sa => k_is); (case ga => k_is); (case gg => k_is); (case ha => k_is); (case kC => k_is); (case no => k_is); (case ini => k_is); (case ity => k_is)))
    (case i_UnknownName => (refine' L2.fun_mk ?l ?c ?k; (case l => k_is); (case c => k_is); (case k => k_is)))
    (case e_InvalidUsers => (refine' ⟨?nsn, ?at_, ?sa, ?ga, ?gg, ?ha, ?kC, ?no, ?ini, ?ity⟩; (case nsn => k_is); (case at_ => (refine' ⟨_, _, _, _, _, _, _, _, _, _, _, _, _, _, ?xl⟩; (case xl => rfl))); (case sa => k_is); (case ga => k_is); (case gg => k_is); (case ha => k_is); (case kC => k_is); (case no => k_is); (case ini => k_is); (case ity => k_is)))
    (case i_InvalidUsers => (refine' L2.fun_mk ?l ?c ?k; (case l => k_is); (case c => k_is); (case k => k_is)))
    (case e_InvalidLists => (refine' ⟨?nsn, ?at_, ?sa, ?ga, ?gg, ?ha, ?kC, ?no, ?ini, ?ity⟩; (case nsn => k_is); (case at_ => (refine' ⟨_, _, _, _, _, _, _, _, _, _, _, _, _, _, ?xl⟩; (case xl => rfl))); (case sa => k_is); (case ga => k_is); (case gg => k_is); (case ha => k_is); (case kC => k_is); (case no => k_is); (case ini => k_is); (case ity => k_is)))
    (case i_InvalidLists => (refine' L2.fun_mk ?l ?c ?k; (case l => k_is); (case c => k_is); (case k => k_is)))
    (case e_NeedsMemory => (refine' ⟨?nsn, ?at_, ?sa, ?ga, ?gg, ?ha, ?kC, ?no, ?ini, ?ity⟩; (case nsn => k_is); (case at_ => (refine' ⟨_, _, _, _, _, _, _, _, _, _, _, _, _, _, ?xl⟩; (case xl => rfl))); (case sa => k_is); (case ga => k_is); (case gg => k_is); (case ha => k_is); (case kC => k_is); (case no => k_is); (case ini => k_is); (case ity => k_is)))
    (case i_NeedsMemory => (refine' L2.fun_mk ?l ?c ?k; (case l => k_is); (case c => k_is); (case k => k_is)))
    (case e_InvalidLimits => (refine' ⟨?nsn, ?at_, ?sa, ?ga, ?gg, ?ha, ?kC, ?no, ?ini, ?ity⟩; (case nsn => k_is); (case at_ => (refine' ⟨_, _, _, _, _, _, _, _, _, _, _, _, _, _, ?xl⟩; (case xl => rfl))); (case sa => k_is); (case ga => k_is); (case gg => k_is); (case ha => k_is); (case kC => k_is); (case no => k_is); (case ini => k_is); (case ity => k_is)))
    (case i_InvalidLimits => (refine' L2.fun_mk ?l ?c ?k; (case l => k_is); (case c => k_is); (case k => k_is)))
    (case e_TooMany => (refine' ⟨?nsn, ?at_, ?sa, ?ga, ?gg, ?ha, ?kC, ?no, ?ini, ?ity⟩; (case nsn => k_is); (case at_ => (refine' ⟨_, _, _, _, _, _, _, _, _, _, _, _, _, _, ?xl⟩; (case xl => rfl))); (case sa => k_is); (case ga => k_is); (case gg => k_is); (case ha => k_is); (case kC => k_is); (case no => k_is); (case ini => k_is); (case ity => k_is)))
    (case i_TooMany => (refine' L2.fun_mk ?l ?c ?k; (case l => k_is); (case c => k_is); (case k => k_is)))
    (case apart => decide +kernel)
    (case dist => decide +kernel)
    (case z_abs => k_is)
    (case z_len => k_is)
    (case z_rng => k_is)
    (case z_enu => k_is)
    (case z_zip => k_is)
    (case z_isi => k_is)
    (case z_all => k_is)
    (case z_srt => k_is)
    (case z_lst => k_is)
    (case z_dct => k_is)
    (case z_str => k_is)
    (case z_int => k_is)
    (case z_tup => k_is)
    (case z_sum => k_is)
    (case z_min => k_is)
    (case z_max => k_is)
    (case z_rep => k_is)
    (case z_bool => k_is)
    (case z_any => k_is)
    (case z_vE => k_is)
