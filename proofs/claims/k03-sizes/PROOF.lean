import PyProof.Rows.All
import Wide.All
import OpenK.AllK
import Wide.FinOn
import HandS.ForMost
import PyProof.EqAt
import PyProof.EqKinds
import PyProof.TupleCall
import KE.KFromBytes
import KE.KExcIs
import HandS.Exc
import HandS.TryOnly
import HandS.ExcInit
import HandS.ExcIs
import HandS.ExcField
import HandS.IsInst
import HandS.ClsMeth
import HandS.Defaults
import HandS.DictComp
import HandS.SortKw
import HandS.More
import HandS.Nested
import PyProof.Rows.StrRules
import PyProof.Rows.SortKeyStr
import KE.KUnpackStar
import HandS.Flow
import HandS.Walk
import HandS.Wide
import HandS.Text
import HandS.Style
import HandS.Property
import HandS.WordsDict
import HandS.ListItems
import HandS.Finally
import HandS.WordsExc
import HandS.Iter
import HandS.TupLen
import KE.KeyNested
import KE.KDictCopyH
import HandS.NoneIn
import KE.KDictPairs
import HandS.ExcOwn
import HandS.Lambda
import HandS.EndBits
import KE.KNest
import HandS.Small
import HandS.List
import PyProof.NeData
import PyProof.PureStr
import PyProof.ReprBulk
import KE.RegKIsAll
import Wide.Loose
import PySem.Challenge.RW_flagtrees_k03_sizes
set_option Elab.async false
set_option linter.all false
set_option maxRecDepth 100000
set_option maxHeartbeats 8000000

namespace FT
open PySem L2
/-- the i-th statement of the row's text -/
def top (i : Nat) : Stmt := PySem.Challenge.pw_flagtrees_k03_sizes.main.body.getD i (.Pass ⟨0, 0, 0, 0⟩)
abbrev s__wall : Stmt := top 0
abbrev s_InvalidForest___init__ : Stmt := inClass (top 3) 0
abbrev s_InvalidUsers___init__ : Stmt := inClass (top 4) 0
abbrev s_InvalidSizes___init__ : Stmt := inClass (top 5) 0
abbrev s_Mismatch___init__ : Stmt := inClass (top 6) 0
abbrev s_is_name : Stmt := top 10
abbrev s_is_ancestor : Stmt := top 11
abbrev s_need_parents : Stmt := top 12
abbrev s_Forest___init__ : Stmt := inClass (top 13) 2
abbrev s_Forest___eq__ : Stmt := inClass (top 13) 3
abbrev s_Forest_flags : Stmt := inClass (top 13) 4
abbrev s_Forest_parents : Stmt := inClass (top 13) 5
abbrev s_Forest_text : Stmt := inClass (top 13) 6
abbrev s_Forest_children : Stmt := inClass (top 13) 7
abbrev s_Forest_path : Stmt := inClass (top 13) 8
abbrev s_Forest_under : Stmt := inClass (top 13) 9
abbrev s_Forest_distance : Stmt := inClass (top 13) 10
abbrev s_Forest_walk : Stmt := inClass (top 13) 11
abbrev s_Forest_parse : Stmt := inClass (top 13) 12
abbrev s_places_of : Stmt := top 14
abbrev s_is_integer : Stmt := top 17
abbrev s_need_users : Stmt := top 18
abbrev s_need_feasible : Stmt := top 19
abbrev s_need_sizes : Stmt := top 20
abbrev s_is_feasible : Stmt := top 21
abbrev s_residents_of : Stmt := top 22
abbrev s_residents : Stmt := top 23
abbrev s__law_begin : Stmt := top 25
abbrev s__law_take : Stmt := top 26
abbrev s__law_pick : Stmt := top 27
abbrev s__law_order : Stmt := top 28
abbrev s__law_names : Stmt := top 29
abbrev s__law_parents : Stmt := top 30
abbrev s__law_path : Stmt := top 31
abbrev s__law_sizes : Stmt := top 32
abbrev s__law_residents : Stmt := top 33
abbrev s__law_every : Stmt := top 34
abbrev s__law_is_number : Stmt := top 35
abbrev s__law_due : Stmt := top 36
abbrev s__law_bent : Stmt := top 37
abbrev s__law_word : Stmt := top 38
abbrev s_law : Stmt := top 39
end FT


/-! Own: an exception class over ValueError called with one keyword, `C(name=value)`. The library's lemmas (HandSPX.call_own) say it for calls without keywords; these say it for one keyword. -/
namespace FX
open PySem PySem.W PySem.Calls PyProof.Rows PySem.HandSPX
section
variable {Mo : Model} {Ar : Around} {Er : Value → Shared → Prop} {he : Heap} {ge : Array GenState} {dr : Drawn} {tk : Nat} {os : OsState}
variable {nm qn : Str} {C N : Addr} {bs bm bmB : List Value} {hdct : Bool} {sn : List Str} {sub : List Value} {ab : Bool} {col : Option Bool} {dd : Option Addr} {k0 k1 k2 k3 k5 : Option Value} {B idN idI : String}
variable {kn : Str} {kv : Value} {more : List Value}
/-- the class object of an exception class, short -/
abbrev XO (nm qn : Str) (C N : Addr) (bs bm : List Value) (hdct : Bool) (sn : List Str) (sub : List Value) (ab : Bool) (col : Option Bool) (dd : Option Addr) (k0 k1 k2 k3 k5 : Option Value) (idN : String) : Obj :=
  excClassObj nm qn C N bs bm hdct sn sub ab col dd k0 k1 k2 k3 k5 idN
abbrev SameTy (bm bmB : List Value) : Prop := ∀ T : String, bm.contains (.type T) = bmB.contains (.type T)
end
section
variable {pg : Program} {w : World} {Ar : Around} {Er : Value → Shared → Prop} {Rs : Result → Shared → Prop} {he : Heap} {ge : Array GenState} {dr : Drawn} {tk : Nat} {os : OsState}
variable {nm qn : Str} {C N fI : Addr} {bs bm bmB : List Value} {hdct : Bool} {sn : List Str} {sub : List Value} {ab : Bool} {col : Option Bool} {dd : Option Addr} {k0 k1 k2 k3 k5 : Option Value} {B idN idI : String}
variable {kn : Str} {kv : Value} {more : List Value}
/-- the heap with the new exception -/
abbrev withX (he : Heap) (C : Addr) (more : List Value) : Heap := (he.push (W.kdv_tup more)).push (excO C he.objs.size)
end
end FX


namespace L2
open PySem PySem.Spec PyProof.Rows
/-- what the written part says of an own exception class over ValueError -/
structure XCls (K : PySem.W.Frag) (C : Addr) : Prop where
  cls : ∃ nm q N bs bm sn sub ab col dd k0 k1 k2 k3 k5, K.lookup C = some (excClassObj nm q C N bs bm true sn sub ab col dd k0 k1 k2 k3 k5 "ValueError.__new__") ∧ PySem.HandSPX.refsVE bm = true
  sa : PySem.W.findIn K (.ref C) "__setattr__" = some (some (.builtin "object.__setattr__"))
  exC : PySem.W.subIn K (.ref C) (.type "BaseException") = some true
  tyC : PySem.W.typeIn K (.ref C) = some (.type "type")
  kC : PySem.W.keepIn K (.ref C) = true
  ga : PySem.W.findIn K (.ref C) "__getattribute__" = some (some (.builtin "BaseException.__getattribute__"))
  gg : PySem.W.findIn K (.ref C) "__getattr__" = some none
  hdC : PySem.W.hasDictIn K C = true
  ha : PySem.W.findIn K (.ref C) "__class__" = some (some (.builtin "object.__class__"))
  hn : PySem.W.specialIn K (.builtin "object.__class__") "__get__" = some (some (.builtin "getset_descriptor.__get__"))
  ht : PySem.W.takesIn K (.builtin "object.__class__") = some true
  hm : PySem.W.mroIn K C (.type "object") = some true
theorem XCls.oex {K : PySem.W.Frag} {C : Addr} (c : XCls K C) : OexC K C := ⟨c.cls, c.sa, c.exC, c.tyC, c.kC⟩
/-- an exception object at a, by class and dict, its fields not told -/
def exg (a C : Addr) (d : Option Addr) : HO := .ext fun h => ∃ vs sl, h.get? a = some ({ cls := .ref C, dict := d, data := .fields vs, slots := sl } : Obj)
theorem exg_ok {P : Program} {w : World} {H : Hp} {h : Heap} {e C : Addr} {d : Option Addr} {vs : Array Value} {sl : Array (Option Value)} (he : h.get? e = some ({ cls := .ref C, dict := d, data := .fields vs, slots := sl } : Obj)) : ObjOk P w H h e (exg e C d) :=
  ⟨⟨vs, sl, he⟩, ⟨_, he⟩, fun h1 h2 z k => by
    obtain ⟨vs, sl, q⟩ := z
    exact ⟨vs, sl, k _ q⟩⟩
def XAt (H : Hp) (a C : Addr) (d : Option Addr) : Prop := H a = some (exo a C d) ∨ H a = some (exg a C d)
theorem XAt.obj {P : Program} {w : World} {H : Hp} {h : Heap} {a C : Addr} {d : Option Addr} (x : XAt H a C d) (hok : HOk P w H h) : ∃ ox vs, h.get? a = some ox ∧ ox.cls = .ref C ∧ ox.dict = d ∧ ox.data = .fields vs := by
  rcases x with e | e
  · obtain ⟨t1, q⟩ := exo_at hok e
    exact ⟨_, _, q, rfl, rfl, rfl⟩
  · have z : ObjOk P w H h a (.ext fun h => ∃ vs sl, h.get? a = some ({ cls := .ref C, dict := d, data := .fields vs, slots := sl } : Obj)) := hok a _ e
    obtain ⟨⟨vs, sl, q⟩, _⟩ := z
    exact ⟨_, vs, q, rfl, rfl, rfl⟩
def XD (H : Hp) (dx : Addr) (fs : List (Str × V)) : Prop := H dx = some (exd dx fs) ∨ H dx = some (.xd fs)
theorem XD.at {P : Program} {w : World} {H : Hp} {h : Heap} {dx : Addr} {fs : List (Str × V)} (x : XD H dx fs) (hok : HOk P w H h) : ∃ mA, h.Ns1 dx mA ∧ ∀ f, RelO (fs.lookup f) (mA f) := by
  rcases x with e | e
  · exact exd_at hok e
  · have z : ObjOk P w H h dx (.xd fs) := hok dx _ e
    exact z
/-- an exception of the class at C stands at a; its attributes are fs -/
def XV (H : Hp) (a C : Addr) (fs : List (Str × V)) : Prop := (XAt H a C none ∧ fs = []) ∨ ∃ dx, XAt H a C (some dx) ∧ XD H dx fs
theorem XV.inst {P : Program} {w : World} {H : Hp} {h : Heap} {a C : Addr} {fs : List (Str × V)} (x : XV H a C fs) (hok : HOk P w H h) : ∃ ox od, PySem.W.InstAt h a ox C od := by
  rcases x with ⟨x, _⟩ | ⟨dx, x, y⟩
  · obtain ⟨ox, vs, e1, e2, e3, e4⟩ := x.obj hok
    exact ⟨ox, none, e1, e2, by unfold PySem.W.notCls; rw [e4] <;> rfl, by rw [e3]; trivial⟩
  · obtain ⟨ox, vs, e1, e2, e3, e4⟩ := x.obj hok
    obtain ⟨mA, hn, hr⟩ := y.at hok
    obtain ⟨od, ho, hl⟩ := lookIn_ns hn
    exact ⟨ox, some od, e1, e2, by unfold PySem.W.notCls; rw [e4] <;> rfl, by rw [e3]; exact ho⟩
theorem XV.look {P : Program} {w : World} {H : Hp} {h : Heap} {a C : Addr} {fs : List (Str × V)} {f : Str} {v : V} (x : XV H a C fs) (hok : HOk P w H h) (hl : fs.lookup f = some v) :
    ∃ ox od u, PySem.W.InstAt h a ox C (some od) ∧ PySem.W.lookIn f od = some (some u) ∧ RelV v u := by
  rcases x with ⟨_, e⟩ | ⟨dx, x, y⟩
  · rw [e] at hl
    cases hl
  · obtain ⟨ox, vs, e1, e2, e3, e4⟩ := x.obj hok
    obtain ⟨mA, hn, hr⟩ := y.at hok
    obtain ⟨od, ho, hk⟩ := lookIn_ns hn
    obtain ⟨u, hu, ru⟩ := RelO.some_of (v := v) (o := mA f) (by rw [← hl]; exact hr f)
    exact ⟨ox, od, u, ⟨e1, e2, by unfold PySem.W.notCls; rw [e4] <;> rfl, by rw [e3]; exact ho⟩, by rw [hk, hu], ru⟩

section
variable {X : Cx}
/-- isinstance(e, c), e an exception of an own class -/
def rIsX (K : PySem.W.Frag) : List V → Hp → VK → Prop := fun xs H Q => ∃ (a C : Addr) (fs : List (Str × V)) (c : V) (u : Value) (b : Bool), xs = [.ref a, c] ∧ ClsV c u ∧ XCls K C ∧ XV H a C fs ∧ PySem.W.kitOne K (.ref C) u = some b ∧ Q (.bl b) H
theorem call_isX : CallR X (.builtin "isinstance") (rIsX X.K) := by
  intro pins s σ H xs us Q I r h
  obtain ⟨a, C, fs, c, u, b, rfl, k, T, xv, e, q⟩ := h
  obtain ⟨u1, u2, rfl, r1, r2⟩ := vals2 r
  have e2 := k.eq r2
  subst e2
  obtain rfl : u1 = Value.ref a := r1
  obtain ⟨ox, od, J⟩ := xv.inst I.hok
  have hcl : (PySem.W.clsIn X.K C).isSome = true := by
    obtain ⟨cd, hc, _⟩ := PySem.W.any_some T.hdC
    rw [hc] <;> rfl
  exact PySem.W.kia_one (PySem.W.kitx_exc hcl T.ga T.gg T.exC T.ha T.hn T.ht T.hm) I.kIn J e (fun z => nomatch z) fun tk => ⟨.bl b, H, I.tok tk, rfl, q⟩
/-- e.f -/
def tXFld (K : PySem.W.Frag) (te : TE) (f : Str) : TE := fun σ H Q => te σ H fun x H1 => ∃ (a C : Addr) (fs : List (Str × V)) (v : V), x = .ref a ∧ XV H1 a C fs ∧ XCls K C ∧ PySem.W.findIn K (.ref C) f = some none ∧ fs.lookup f = some v ∧ Q v H1
theorem pe_xfld {e : Expr} {te : TE} {pos : Pos} {n : Str} (he : PE X e te) (hb : attributeBase e n X.env (eval e X.env) = eval e X.env := by rfl) : PE X (.Attribute e n pos) (tXFld X.K te n) := by
  refine ⟨fun pins s σ H Q I h => ?_⟩
  refine attr_of hb (thn (he.run pins s σ H _ I h) fun u s1 hh => ?_)
  obtain ⟨x, H1, I1, rx, a, C, fs, v, ex, xv, T, hno, hl, q⟩ := hh
  subst ex
  obtain rfl : u = Value.ref a := rx
  obtain ⟨ox, od, u, J, hk, ru⟩ := xv.look I1.hok hl
  exact HandSPX.exc_get I1.kIn J T.ga T.gg T.exC (PySem.W.findObj_own T.hdC hno rfl hk) (handed_of ru) ⟨v, H1, I1.tok _, ru, q⟩
/-- R.__init__(self, ..), R an own class whose __init__ is ValueError's -/
structure XIni (K : PySem.W.Frag) (R : Addr) : Prop where
  rd : PySem.W.readsIn K R (.type "type") = true
  ga : PySem.W.specialIn K (.ref R) "__getattribute__" = some (some (.builtin "type.__getattribute__"))
  at_ : PySem.W.findCls K (.ref R) (.type "type") "__init__" = some (.val (.builtin "ValueError.__init__"))
theorem pe_clsinit {R : Addr} {rn : Str} {e : Expr} {es : List Expr} {ta : TA} {p1 p2 pos : Pos} {pl : Sem Bool} (T0 : XIni X.K R) (hg : Gl X rn) (hm : X.mg rn = some (.ref R)) (ha : PA X (e :: es) ta)
    (hdb : (rn == ("__debug__" : Str)) = false := by decide)
    (hc : eval (.Call (.Attribute (.Name rn p1) "__init__" p2) (e :: es) [] pos) X.env = (do
      let ov ← eval (.Name rn p1) X.env
      standAt p2.atName
      let (f, first) ← holding [ov] (getMethod ov "__init__" pl)
      callWith pos f first (backTo pos (starEach (e :: es) X.env)) (backToKw pos (keywordEach [] X.env))) := by rfl)
    (he : starEach (e :: es) X.env = (false, eval e X.env) :: starEach es X.env := by rfl) (hpl : (backTo pos (starEach es X.env)).any (·.1) = false := by rfl) :
    PE X (.Call (.Attribute (.Name rn p1) "__init__" p2) (e :: es) [] pos) (tVeI X.K ta) := by
  refine ⟨fun pins s σ H Q I h => ?_⟩
  refine PySem.W.methodCall_KW (ld_glob I hg hm ?_ hdb) hc
  refine PySem.W.method_cls I.kIn T0.ga (PySem.W.cls_value I.kIn T0.rd T0.at_ rfl ?_)
  show wpAny _ _ (callWith pos (Value.builtin "ValueError.__init__") [] (backTo pos (starEach (e :: es) X.env)) []) _ _ _
  refine PyProof.Rows.callWith_method1 (thn (ha.run pos pins _ σ H _ (I.tok _) h) fun us s1 ⟨vs, H1, I1, r1, a, C, ws, ev, hl, T, ea, q⟩ => ?_) he hpl
  subst ev
  cases r1 with
  | @cons _ u0 _ ur ra rw' =>
    obtain rfl : u0 = Value.ref a := ra
    have hlen : ur.length ≤ sizeLine := by
      rw [← Paired.length rw', sizeLine_eq]
      omega
    exact oinit_ok T I1 ea hlen fun s' J => ⟨.non, H1, J, rfl, q⟩

/-! ### C(..) as a value -/
variable {CX : CXT} {C fI : Addr} {k : Nat} {fd : FuncData} {ps : List Str} {sp : Sp} {ds : List Value} {dvs : List V} {E : XK}
/-- the state with a new exception of C laid, its arguments at the heap's end -/
theorem Inv.xnew {pins : List (Addr × Obj)} {σ : St} {H : Hp} {hp : Heap} {gn : Array GenState} {dr : Drawn} {tk : Nat} {os : OsState} (C : Addr) (us : List Value) (I : Inv X pins σ H ⟨hp, gn, dr, tk, os⟩) :
    H (hp.objs.size + 1) = none ∧ Inv X pins σ (upd H (hp.objs.size + 1) (exo (hp.objs.size + 1) C none)) ⟨FX.withX hp C us, gn, dr, tk, os⟩ := by
  have le : hp.objs.size ≤ hp.objs.size + 1 := Nat.le_succ _
  have at_ : (FX.withX hp C us).get? (hp.objs.size + 1) = some (PySem.HandSPX.excO C hp.objs.size) := by heap_get
  exact ⟨I.hok.fresh le, I.laid (t' := tk) (h' := FX.withX hp C us) (fun _ _ z => Heap.get?_push_of_some _ (Heap.get?_push_of_some _ z)) le (exo_ok at_)⟩
/-- C(e, ..) as a value; C's own __init__ keeps sp -/
def tMkX (C : Addr) (sp : Sp) (dvs : List V) (E : XK) (ta : TA) : TE := fun σ H Q => ta σ H fun vs H1 => vs.length ≤ 1000 ∧ ∀ a, H1 a = none → sp (.ref a :: (vs ++ dvs)) (upd H1 a (exo a C none)) (fun v H2 => v = .non ∧ Q (.ref a) H2) E
def tMkXK (C : Addr) (sp : Sp) (gV : List V → List V → List V) (E : XK) (te : TE) : TE := fun σ H Q => te σ H fun v H1 => ∀ a, H1 a = none → sp (gV [.ref a] [v]) (upd H1 a (exo a C none)) (fun v H2 => v = .non ∧ Q (.ref a) H2) E
variable {x : Str} {e : Expr} {es : List Expr} {ta : TA} {te : TE} {p pos kpos : Pos}
end
end L2


/-! y = {k: v for ..}, y a local; an expression whose answer is locked -/
namespace L2
open PySem PySem.Spec PyProof.Rows
section
variable {X : Cx} {i : Nat} {y : Str} {py : Pos} {kx vx tg iter : Expr} {ifs : List Expr} {scope : Scope} {own : List (Str × Nat)} {pos spos : Pos} {wi : TI} {g : TG} {tt : TT} {tk tv : TE}
theorem swd_true {gs : List Comprehension} {l : Nat} {env : Env} (kind : env.scope.kind = .function) (loc : env.scope.names.lookup y = some .local) (line : (py.line == pos.line) = true) (ap : (scope.names.any fun (n, k) => n == y && (k == .local || k == .cell)) = false) :
    swapsWith (.DictComp kx vx gs scope pos) (some (.Name y py)) l env = pure true := by
  have h1 : env.kindOf y = some .local := loc
  have h2 : env.blockKind = .function := by unfold Env.blockKind; rw [kind] <;> rfl
  unfold swapsWith
  simp only [h2, h1, ap, Expr.pos, line]
  rfl
theorem ps_setDc (hc : X.calm = true) (nd : X.N.Nodup) (hy : X.N[i]? = some y) (loc : X.env.scope.names.lookup y = some .local) (sw : swapsWith (.DictComp kx vx [⟨tg, iter, ifs, 0⟩] scope pos) (some (.Name y py)) spos.line X.env = pure true) (hi : PI X tg iter wi) (ok : BlkOk X.N X.env.scope scope own)
    (hg : ∀ (s : Shared) (H : Hp) (C : Addr) (cl : List (Str × Addr)) (fp : List Addr), PG (X.blk s H scope (compEnvC scope cl C X.env) fp) tg g) (ht : ∀ (s : Shared) (H : Hp) (C : Addr) (cl : List (Str × Addr)) (fp : List Addr), PTs (X.blk s H scope (compEnvC scope cl C X.env) fp) ifs tt)
    (hk : ∀ (s : Shared) (H : Hp) (C : Addr) (cl : List (Str × Addr)) (fp : List Addr), PE (X.blk s H scope (compEnvC scope cl C X.env) fp) kx tk)
    (hv : ∀ (s : Shared) (H : Hp) (C : Addr) (cl : List (Str × Addr)) (fp : List Addr), PE (X.blk s H scope (compEnvC scope cl C X.env) fp) vx tv) (hs : ∀ x, foldedSetIterable iter X.env x = pure x := by intro _; rfl) :
    PS X (.Assign [.Name y py] (.DictComp kx vx [⟨tg, iter, ifs, 0⟩] scope pos) spos) (tAsg (tDc wi g tt tk tv (own.map (·.2))) (gName i)) := by
  constructor
  intro pins s σ H D I h
  have want : tDc wi g tt tk tv (own.map (·.2)) σ H (fun x H1 => gName i x σ H1 D.nx) := h
  rw [exec_Assign_Name_used _ _ _ _ sw]
  refine wpAny_bind (wpAny_standAt (wpAny_bind ?_))
  show wpAny _ X.A (do let _ ← comprehension (.DictComp kx vx [⟨tg, iter, ifs, 0⟩] scope pos) scope X.env (firstIterPos [⟨tg, iter, ifs, 0⟩] pos) newDict false (eval iter X.env) (some (assign (.Name y py) X.env))) _ _ s
  refine wpAny_bind (thn (dc_core (Qf := fun _ s' => SP X pins D .next s') hc nd I hi ok hg ht hk hv hs want fun L C s' m H' J q hn f => ?_) fun _ _ z => wpAny_pure (wpAny_pure z))
  show wpAny _ _ (assign (.Name y py) X.env (.ref L)) _ _ _
  refine wpAny_assign_Name (store_ok2 (v := V.ref L) J nd hy (.inl loc) rfl (fun s2 J2 ⟨a, sb, ha⟩ => ?_) (.inr loc))
  obtain ⟨z0, z1, z2, z3, z4, z5⟩ := f
  have off : C ≠ a := ha.elim (fun e => e ▸ z1) fun e => (z4 y a e).symm
  exact ⟨m, hn.sameBut sb off, fun h3 sb3 => ⟨_, H', J2.turned (t' := s2.toks) (fun b o hb e => (sb3.2 b hb).trans e) z0 z1 z3 z4 z5, q⟩⟩
/-- e, its answer locked from then on -/
def tLk (te : TE) : TE := fun σ H Q => te σ H fun x H1 => ∃ d u, x = .ref d ∧ H1 d = some u ∧ Mut (some u) ∧ ∀ od, Q (.ref d) (upd H1 d (.frz od u))
end
end L2


/-! try: .. except C as n: .., the caught exception known behind the try -/
namespace L2
open PySem PySem.Spec PyProof.Rows
section
variable {X : Cx} {pins : List (Addr × Obj)} {σ : St} {H : Hp} {s : Shared}
/-- an object that stands there is known from now on; the entry had none at its place -/
theorem Inv.known {a : Addr} {o : HO} (I : Inv X pins σ H s) (hn : H a = none) (h0 : X.s_0.heap.get? a = none) (hL : a ≠ X.env.locals) (h2 : ∀ x c, X.env.cells.lookup x = some c → c ≠ a) (h3 : ∀ p ∈ X.pn ++ pins, p.1 ≠ a)
    (new : ObjOk X.prog X.w (upd H a o) s.heap a o) : Inv X pins σ (upd H a o) s := by
  have nit : ∀ b u, H b = some u → b ≠ a := fun b u e z => by rw [z, hn] at e; cases e
  refine ⟨I.ok, I.os, I.bare, ⟨I.base.keep, I.base.slot, fun b o e n hx => ?_, I.base.there, fun b xs e => ?_, fun b o xs e => ?_, fun b ps e => ?_⟩, I.loc, I.cell, ?_, fun x c e => ?_, fun p hp => ?_, fun b u e => ?_, I.len⟩
  · rw [upd_ne (fun z => by rw [z, h0] at e; cases e)]
    exact I.base.free b o e n hx
  · have q := I.base.tups b xs e
    rw [upd_ne (nit b _ q)]
    exact q
  · have q := I.base.frzs b o xs e
    rw [upd_ne (nit b _ q)]
    exact q
  · obtain ⟨m, q⟩ := I.base.tbls b ps e
    exact ⟨m, by rw [upd_ne (nit b _ q)]; exact q⟩
  · rw [upd_ne (Ne.symm hL)]
    exact I.free
  · rw [upd_ne (h2 x c e)]
    exact I.freeC x c e
  · obtain ⟨e, n, r⟩ := I.pin p hp
    exact ⟨e, by rw [upd_ne (h3 p hp)]; exact n, r⟩
  · by_cases hb : b = a
    · subst hb
      rw [upd_same] at e
      cases e
      exact new
    · rw [upd_ne hb] at e
      exact (I.hok b u e).stay (fun c v hc q => q) (fun c q => by rw [upd_ne (nit c _ q)]; exact q) fun c _ q => by rw [upd_ne (nit c _ q)]; exact q
end
/-- what a landed exception is: its object, where it does not lie -/
structure Landed (X : Cx) (pins : List (Addr × Obj)) (σ : St) (H : Hp) (a C : Addr) (d : Option Addr) (h : Heap) (s : Shared) : Prop where
  inv : Inv X pins σ H { s with heap := h }
  obj : ∃ vs sl, h.get? a = some ({ cls := .ref C, dict := d, data := .fields vs, slots := sl } : Obj)
  free : H a = none
  entry : X.s_0.heap.get? a = none
  loc : a ≠ X.env.locals
  fs : a ∉ X.fs
  pin : ∀ p ∈ X.pn ++ pins, p.1 ≠ a
theorem Landed.of {X : Cx} {pins : List (Addr × Obj)} {σ : St} {H : Hp} {a C : Addr} {d : Option Addr} {h B : Heap} {s sI : Shared} (hs : X.stack = X.env :: X.outer) (hf : X.env.frame = some X.env.locals) (hex : X.ex = []) (J : Inv X pins σ H sI) (na : H a = none)
    (nb : ∀ b o, sI.heap.get? b = some o → b ∉ frs X.stack → B.get? b = some o) (hB : B.get? a = none) (ff : h.FunFrames B (X.env :: X.outer)) (there : ∃ oe vs, h.get? a = some oe ∧ Zc (.ref C) d oe ∧ oe.data = .fields vs) (K : Inv X pins σ H { s with heap := h }) : Landed X pins σ H a C d h s := by
  obtain ⟨⟨oc, od, odt, osl⟩, ws, at_, ⟨z1, z2⟩, z3⟩ := there
  have off : a ∉ frs (X.env :: X.outer) := fun hm => by
    obtain ⟨_, u, hu, plain⟩ := ff.mem hm
    rw [at_] at hu
    exact plain ws (by rw [← Option.some.inj hu]; exact z3)
  have out : sI.heap.get? a = none := by
    cases q : sI.heap.get? a with
    | none => rfl
    | some o => exact absurd (nb a o q (by rw [hs]; exact off)) (by rw [hB]; simp)
  refine ⟨K, ⟨ws, osl, ?_⟩, na, ?_, fun z => off (List.mem_filterMap.mpr ⟨X.env, .head _, by rw [hf, z]⟩), fun hm => ?_, fun p hp z => ?_⟩
  · dsimp only at z1 z2 z3
    rw [at_, z1, z2, z3]
  · cases q : X.s_0.heap.get? a with
    | none => rfl
    | some o =>
      obtain ⟨_, q2⟩ := J.base.there a o q (by rw [hex]; simp)
      rw [out] at q2
      cases q2
  · obtain ⟨e, m, q⟩ := List.mem_filterMap.mp hm
    exact off (List.mem_filterMap.mpr ⟨e, .tail _ m, q⟩)
  · have q := (J.pin p hp).1
    rw [z, out] at q
    cases q
/-- what is wanted of an exception in the try: as wAs, but behind the suite the exception is known -/
def wAsK (K : PySem.W.Frag) (c : Value) (i : Nat) (ts : Addr → Value → Option Addr → TS) (Wout : WX) (D : Ends) : WX := fun cls d σ H => ∃ b C, cls = Value.ref C ∧ PySem.W.exmOne K cls c = some b ∧
  (b = true → ∀ a, H a = none → ts a cls d ⟨fun σ' H' => D.nx (σ'.set i none) (upd H' a (exg a C d)), D.rt, fun σ' H' => D.bk (σ'.set i none) H', fun σ' H' => D.ct (σ'.set i none) H'⟩ (σ.set i (some (.ref a))) H) ∧ (b = false → Wout cls d σ H)
section
variable {X : Cx} {x n : Str} {c : Value} {i : Nat} {body suite : List Stmt} {st : Stmt} {np pos hpos : Pos} {tb : WX → TS} {ts : Addr → Value → Option Addr → TS} {Wout : WX}
/-- the end of such a suite -/
theorem keep_end {pins : List (Addr × Obj)} {σ σ6 : St} {H H6 : Hp} {a C : Addr} {d : Option Addr} {h : Heap} {s s6 : Shared} {oe : Obj} {Q : Shared → Prop} (L : Landed X pins σ H a C d h s) (eo : h.get? a = some oe) (hN : X.N.Nodup) (hi : X.N[i]? = some n) (hln : X.env.kindOf n = some .local)
    (S : Inv (X.suite a ((a, oe) :: (X.pn ++ pins))) [] σ6 H6 s6) (q : ∀ s7, Inv X pins (σ6.set i none) (upd H6 a (exg a C d)) s7 → Q s7) : wpAny (model X.prog X.w) X.A (do bindName X.env n .none; unbindBehindTheSuite X.env n hpos) (fun _ s7 => Q s7) X.xe s6 := by
  obtain ⟨p1, p2, _⟩ := S.pin (a, oe) (List.mem_append_left _ (.head _))
  obtain ⟨ws, sl, e0⟩ := L.obj
  rw [eo] at e0
  have p3 : s6.heap.get? a = some oe := p1
  rw [Option.some.inj e0] at p3
  have U := S.unsuite L.inv.ok
  refine gone_ok (U.known (o := exg a C d) p2 L.entry L.loc (fun y k e z => ?_) L.pin (exg_ok p3)) hN hi hln q
  obtain ⟨_, _, w1, w2⟩ := U.cell y k e
  rw [z, p3] at w1
  rw [← Option.some.inj w1] at w2
  cases w2
/-- try: body / except x as n: suite -/
theorem ps_try_keep (hs : X.stack = X.env :: X.outer) (hf : X.env.frame = some X.env.locals) (hex : X.ex = []) (hN : X.N.Nodup) (hi : X.N[i]? = some n) (hln : X.env.kindOf n = some .local) (hc : Names X x c) (tk : Takes X Wout)
    (hb : ∀ (W : WX) (pn : List (Addr × Obj)) (xe : Value → Shared → Prop), Takes (X.tr pn xe) W → PassesOwn (model X.prog X.w) X.A X.env xe → PSs (X.tr pn xe) body (tb W))
    (hsu : ∀ (a : Addr) (oe : Obj) (cls : Value) (d : Option Addr) (pn : List (Addr × Obj)), Zc cls d oe → (∃ vs, oe.data = .fields vs) → PSs (X.suite a ((a, oe) :: pn)) (st :: suite) (ts a cls d)) :
    PS X (.Try body [.ExceptHandler (some (.Name x np)) (some n) (st :: suite) hpos] [] [] pos) (fun D σ H => tb (wAsK X.K c i ts Wout D) D σ H) := by
  constructor
  intro pins s σ H D I h
  refine wpAny_Try_except (wpAny_mono ((hb (wAsK X.K c i ts Wout D) (X.pn ++ pins) (fun e t1 => wpAny (model X.prog X.w) X.A (noteFrame e X.env) (fun _ t2 => wpAny (model X.prog X.w) X.A (setFlight e none) (fun _ t3 =>
    wpAny (model X.prog X.w) X.A (handleBy e X.env [.ExceptHandler (some (.Name x np)) (some n) (st :: suite) hpos]) (SP X pins D) X.xe t3) X.xe t2) X.xe t1) (fun u s' air => ?_) PassesOwn.looking).run [] s σ H D (I.toTry _) h) (fun f t1 ok => ?_) fun _ _ z => z)
  case refine_2 =>
    cases f with
    | next => exact let ⟨σ1, H1, K, q⟩ := ok; wpAny_execs_nil ⟨σ1, H1, K.ofTry I.ok, q⟩
    | brk => exact let ⟨σ1, H1, K, q⟩ := ok; ⟨σ1, H1, K.ofTry I.ok, q⟩
    | cont => exact let ⟨σ1, H1, K, q⟩ := ok; ⟨σ1, H1, K.ofTry I.ok, q⟩
    | ret u => exact let ⟨v, σ1, H1, K, rv, q⟩ := ok; ⟨v, σ1, H1, K.ofTry I.ok, rv, q⟩
  case refine_1 =>
    obtain ⟨a, B, sI, pins', σ', H', cls, d, rfl, J', nb, up, sky, na, os, ag, b, C, rfl, mb, yes, no⟩ := air
    have J := J'.ofTry I.ok
    rw [hs] at sky
    have hfr : X.A.frames = some (X.env :: X.outer) := I.ok.frames.trans (congrArg some hs)
    show wpAny (model X.prog X.w) X.A (noteFrame (.ref a) X.env) _ _ _
    refine Sky.land Zc.steady hfr hf sky fun hA flA upA => ?_
    have KA : Inv X pins σ' H' { s' with heap := hA } := J.landed nb flA.1 (up.trans upA) os ag
    obtain ⟨oA, wA, atA, zA, dA⟩ := flA.there
    have LA := Landed.of (s := s') hs hf hex J na nb flA.2.1 flA.2.2.1 ⟨oA, wA, atA, zA, dA⟩ KA
    have SA := KA.suite atA dA na LA.loc LA.fs
    refine wpAny_handleBy_cons (codeAny_handlers_test ?_) fun z => by cases z
    have ty : PySem.W.Looks (model X.prog X.w) hA (typeOf (.ref a)) (.ref C) := fun _ _ _ _ kk q => wpAny_typeOf_ref (kk _ _ atA) (by rw [zA.1]; exact q)
    have mk := PySem.W.exm_one (M := model X.prog X.w) KA.kIn ty mb
    have named : ∀ {Q E : Value → Shared → Prop}, Q c { s' with heap := hA } → wpAny (model X.prog X.w) (X.A.mark (some (.ref a))) (eval (.Name x np) X.env) Q E { s' with heap := hA } := fun q => by
      obtain ⟨g, gd, e | ⟨e, bt, nn⟩⟩ := hc
      · exact ld_glob SA g e q gd
      · exact ld_blt SA g e bt q nn gd
    refine named (mk.here ?_)
    match b, yes, no with
    | true, yes, _ =>
      refine codeAny_handlers_suite_as (HandSPX.lands_againZ flA fun hC flC upC => ?_)
      have KC : Inv X pins σ' H' { s' with heap := hC } := J.landed nb flC.1 ((up.trans upA).trans upC) os ag
      obtain ⟨oC, wC, atC, zC, dC⟩ := flC.there
      have LC := Landed.of (s := s') hs hf hex J na nb flC.2.1 flC.2.2.1 ⟨oC, wC, atC, zC, dC⟩ KC
      refine store_ok (X := X.suite a ((a, oC) :: (X.pn ++ pins))) (v := .ref a) (KC.suite atC dC na LC.loc LC.fs) hN hi (.inl hln) rfl (fun t5 S5 => ?_) (.inr hln)
      refine wpAny_mono ((hsu a oC _ d (X.pn ++ pins) zC ⟨_, dC⟩).run [] t5 _ H' _ S5 (yes rfl a na)) (fun f t6 e6 => ?_) fun _ _ z => z.elim
      have plain : ∀ {σ6 : St} {H6 : Hp} {Q : Shared → Prop}, Inv (X.suite a ((a, oC) :: (X.pn ++ pins))) [] σ6 H6 t6 → (∀ t7, Inv X pins (σ6.set i none) H6 t7 → Q t7) → wpAny (model X.prog X.w) X.A (do bindName X.env n .none; unbindBehindTheSuite X.env n hpos) (fun _ t7 => Q t7) X.xe t6 :=
        fun S q => gone_ok (S.unsuite I.ok) hN hi hln q
      cases f with
      | next => exact let ⟨σ6, H6, S6, q6⟩ := e6; keep_end LC atC hN hi hln S6 fun t7 K7 => ⟨_, _, K7, q6⟩
      | brk => exact let ⟨σ6, H6, S6, q6⟩ := e6; plain S6 fun t7 K7 => ⟨_, _, K7, q6⟩
      | cont => exact let ⟨σ6, H6, S6, q6⟩ := e6; plain S6 fun t7 K7 => ⟨_, _, K7, q6⟩
      | ret u => exact let ⟨v6, σ6, H6, S6, r6, q6⟩ := e6; plain S6 fun t7 K7 => ⟨_, _, _, K7, r6, q6⟩
    | false, _, no =>
      show wpAny _ X.A (handleBy (.ref a) X.env []) _ _ _
      refine wpAny_handleBy_nil ?_
      obtain ⟨oe, vs, tb1, _, _, e1, _, e2, e3, _⟩ := flA.2.2.2
      unfold PySem.passOn
      refine wpAny_bind (wpAny_field e1 e2 e3 ?_)
      rw [if_neg (by simp)]
      have fly : wpAny (model X.prog X.w) X.A (setFlight (.ref a) X.env.frame) (fun _ t4 => wpAny (model X.prog X.w) X.A (throw (.ref a) : Sem Flow) (SP X pins D) X.xe t4) X.xe { s' with heap := hA } := by
        rw [hf]
        exact HandSPX.setFlight_upZ flA fun hD held upD => wpAny_throw (tk _ _ ⟨a, B, sI, pins, σ', H', .ref C, d, rfl, J, nb, (up.trans upA).trans upD, .inr (.inr (by rw [hs]; exact held)), na, os, ag, no rfl⟩)
      first | exact wpAny_bind (wpAny_pure (wpAny_bind fly)) | exact wpAny_bind fly
end
end L2


/-! raise C(..) where C's own __init__ writes no attribute -/
namespace L2
open PySem PySem.Spec PyProof.Rows
section
variable {X : Cx} {o e : Expr} {es : List Expr} {to te : TE} {ta : TA} {f : Str} {p p' p1 p2 pos : Pos}
/-- C(e, ..), C's own __init__ keeping sp; no attribute is written -/
def tMkO0 (C : Addr) (sp : Sp) (dvs : List V) (ta : TA) : St → Hp → XK → Prop := fun σ H Q => ta σ H fun vs H1 => vs.length ≤ 1000 ∧ ∀ a, H1 a = none → sp (.ref a :: (vs ++ dvs)) (upd H1 a (exo a C none))
  (fun v H2 => v = .non ∧ H2 a = some (exo a C none) ∧ Q (.ref C) none (del H2 a)) (fun _ _ _ => False)
/-- the new exception is let go -/
theorem mk_gone {pins : List (Addr × Obj)} {σ : St} {H1 H2 : Hp} {hp hp2 h2 : Heap} {g1 g2 : Array GenState} {d1 d2 : Drawn} {t1 t2 : Nat} {os1 os2 : OsState} {a C : Addr} (I1 : Inv X pins σ H1 ⟨hp, g1, d1, t1, os1⟩) (young : hp.objs.size ≤ a)
    (k : ∀ b o, hp.get? b = some o → hp2.get? b = some o) (un : Un (frs X.stack) [] (upd H1 a (exo a C none)) H2 hp2 h2) (hok : HOk X.prog X.w H2 h2) (ho : os2 = os1) (hb : AllBare g2) (ea : H2 a = some (exo a C none)) :
    ∃ (t0 : Addr) (G : Heap), Inv X pins σ (del H2 a) ⟨G, g2, d2, t2, os2⟩ ∧ (∀ b o, G.get? b = some o → h2.get? b = some o) ∧ G.get? a = none ∧ h2.get? a = some ({ cls := .ref C, dict := none, data := .fields #[.ref t0, .none, .none, .none, .bool false, .none] } : Obj) ∧ del H2 a a = none := by
  obtain ⟨t0, at2⟩ := exo_at hok ea
  have n1 : H1 a = none := I1.hok.fresh young
  obtain ⟨G, in_, out⟩ := restrict h2 fun b => decide (b ≠ a)
  have other : ∀ b, b ≠ a → G.get? b = h2.get? b := fun b nb => in_ b (decide_eq_true nb)
  have gone : G.get? a = none := out a (by simp)
  have old : ∀ {b : Addr} {o : Obj}, hp.get? b = some o → b ≠ a := fun z => Nat.ne_of_lt (Nat.lt_of_lt_of_le (Heap.lt_size z) young)
  have low : ∀ {b : Addr}, b ≠ a → H1 b = none → upd H1 a (exo a C none) b = none := fun nb n => (upd_ne nb).trans n
  have high : ∀ {b : Addr} {u : HO}, H1 b = some u → upd H1 a (exo a C none) b = some u ∧ b ≠ a := fun z => ⟨(upd_ne (ne_of_none z n1)).trans z, ne_of_none z n1⟩
  have U : Un (frs X.stack) [] H1 (del H2 a) hp G := by
    refine ⟨fun b o z n hf hx => (other b (old z)).trans (un.keep b o (k b o z) (low (old z) n) hf hx), fun b o z n hf hx => ?_, fun b o z n hx => (del_ne (old z)).trans (un.free b o (k b o z) (low (old z) n) hx), fun b o z hx => ?_, fun b xs z => (del_ne (high z).2).trans (un.tups b xs (high z).1),
      fun b o v z => (del_ne (high z).2).trans (un.frzs b o v (high z).1), fun b ps z => ?_⟩
    · obtain ⟨sl, q⟩ := un.slot b o (k b o z) (low (old z) n) hf hx
      exact ⟨sl, (other b (old z)).trans q⟩
    · obtain ⟨o', q⟩ := un.there b o (k b o z) hx
      exact ⟨o', (other b (old z)).trans q⟩
    · obtain ⟨m, q⟩ := un.tbls b ps (high z).1
      exact ⟨m, (del_ne (high z).2).trans q⟩
  have held : HOk X.prog X.w (del H2 a) G := fun b o z => by
    have nb : b ≠ a := fun e => by
      rw [e, del_same] at z
      cases z
    rw [del_ne nb] at z
    refine (hok b o z).stay (fun c v hc y => ?_) (fun c hc => (del_ne (at_ne ea hc exo_own)).trans hc) fun c xs hc => (del_ne (at_ne ea hc exo_tup)).trans hc
    refine (other c ?_).trans y
    rcases hc with rfl | hc
    · exact nb
    · exact at_ne ea hc exo_own
  refine ⟨t0, G, I1.call' (ch := []) ho U held hb (fun b z => absurd z (by simp)), fun b o z => ?_, gone, at2, del_same⟩
  by_cases nb : b = a
  · rw [nb, gone] at z
    cases z
  · exact (other b nb).symm.trans z
variable {CX : CXT} {x : Str} {C fI : Addr} {k : Nat} {fd : FuncData} {ps : List Str} {sp : Sp} {ds : List Value} {dvs : List V}
theorem run_mk0 {pins : List (Addr × Obj)} {σ : St} {H1 : Hp} {s : Shared} {Q : XK} {us : List Value} {vs : List V} (T : OexC X.K C) (iC : PySem.W.findIn X.K (.ref C) "__init__" = some (some (.ref fI))) (tI : PySem.W.typeIn X.K (.ref fI) = some (.type "function"))
    (F1 : FnOk X.prog X.w X.K X.mg X.base CX k fI fd ps sp) (hr : Room (k + 1) X.A) (hb : Binds X.K fd ps ds) (hd : Vals dvs ds) (hx : Passes CX X (fun _ _ _ => False)) (I1 : Inv X pins σ H1 s) (r1 : Vals vs us) (hz : vs.length ≤ 1000)
    (q1 : ∀ a, H1 a = none → sp (.ref a :: (vs ++ dvs)) (upd H1 a (exo a C none)) (fun v H2 => v = .non ∧ H2 a = some (exo a C none) ∧ Q (.ref C) none (del H2 a)) (fun _ _ _ => False)) :
    wpAny (model X.prog X.w) X.A (call (.ref C) us) (MkP X pins σ Q) X.xe s := by
  obtain ⟨_, _, _, _, bm, _, _, _, _, _, _, _, _, _, _, oC, tail⟩ := T.cls
  obtain ⟨hp, gn, dr, tk, os⟩ := s
  obtain ⟨new, J⟩ := Inv.xnew C us I1
  have want := q1 _ new
  have rel : Vals (V.ref (hp.objs.size + 1) :: (vs ++ dvs)) (Value.ref (hp.objs.size + 1) :: (us ++ ds)) := .cons rfl (r1.append hd)
  have len : (Value.ref (hp.objs.size + 1) :: us ++ ds).length = ps.length := rel.length.symm.trans (F1.len _ _ _ _ want)
  have few : us.length ≤ sizeLine := by
    have := r1.length
    rw [sizeLine_eq]; omega
  have go := F1.run _ X.stack _ _ ⟨Value.ref (hp.objs.size + 1) :: us, []⟩ (Value.ref (hp.objs.size + 1) :: (us ++ ds)) _ _ (fun _ _ _ => False) (hr.make C us []) (J.env0.make C us []) (hb _ (Value.ref (hp.objs.size + 1) :: us) J.kIn len) rel want
  refine wpAny_call (PySem.HandSPX.call_own F.excBase_ValueError (fun Y => PySem.HandSPX.refsVE_contains Y bm tail) (I1.kIn _ _ oC) (PySem.W.looks_findIn I1.kIn iC) (fun me => PySem.W.bind_fn I1.kIn me tI) few (codeAny_mono go fun r z q => ?_))
  match r, q with
  | .error er, q => exact hx pins σ _ _ er z J q
  | .ok (.ret u), q =>
    obtain ⟨v, H2, os2, bare2, un2, hok2, rv, ev, ea, q2⟩ := q
    subst ev
    obtain ⟨h2, g2, d2, t2, os'⟩ := z
    have up : ∀ b o, hp.get? b = some o → (FX.withX hp C us).get? b = some o := fun b o e => Heap.get?_push_of_some _ (Heap.get?_push_of_some _ e)
    obtain ⟨t0, G, JG, kG, gG, oG, nG⟩ := mk_gone (d2 := d2) (t2 := t2) I1 (Nat.le_succ _) up un2 hok2 os2 bare2 ea
    exact ⟨rv, _, _, _, ⟨G, g2, d2, t2, os'⟩, _, .ref C, none, rfl, JG, kG, gG, oG, ⟨rfl, rfl⟩, rfl, rfl, nG, rfl, bare2, raises_own T.exC T.tyC, q2⟩
  | .ok .next, q => exact q.elim
  | .ok .brk, q => exact q.elim
  | .ok .cont, q => exact q.elim
/-- C() -/
theorem pmk_none (T : OexC X.K C) (iC : PySem.W.findIn X.K (.ref C) "__init__" = some (some (.ref fI))) (tI : PySem.W.typeIn X.K (.ref fI) = some (.type "function"))
    (F1 : FnOk X.prog X.w X.K X.mg X.base CX k fI fd ps sp) (hr : Room (k + 1) X.A) (hb : Binds X.K fd ps ds) (hd : Vals dvs ds) (hx : Passes CX X (fun _ _ _ => False)) (hg : Gl X x) (hm : X.mg x = some (.ref C)) (hdb : (x == ("__debug__" : Str)) = false := by decide) :
    PMk X (.Call (.Name x p) [] [] pos) (tMkO0 C sp dvs tNil) := by
  intro pins s σ H Q I h
  refine wpAny_Call_Name_kw (ld_glob I hg hm ?_ hdb)
  exact PySem.W.callWith_K0 I.kIn T.kC (run_mk0 (us := []) T iC tI F1 hr hb hd hx I .nil h.1 h.2)
end
end L2


/-! sorted(a dict of texts, key=a lambda of one parameter that gives (int, text)) -/
namespace SrtKy
open PySem PyProof.Rows Srt SrtO
/-- a tuple of a number and a text -/
def IsIS (h : Heap) (v : Value) (x : Int) (z : Str) : Prop := ∃ a o t u n, v = .ref a ∧ h.get? a = some o ∧ o.cls = .type "tuple" ∧ o.data = .seq #[.int x t, .str z u] n
theorem IsIS.keeps {h h' : Heap} {v : Value} {x : Int} {z : Str} (p : IsIS h v x z) (k : ∀ b o, h.get? b = some o → o.cls = .type "tuple" → h'.get? b = some o) : IsIS h' v x z := by
  obtain ⟨a, o, t, u, n, e, ho, hc, hd⟩ := p
  exact ⟨a, o, t, u, n, e, k _ _ ho hc, hc, hd⟩
def isLt (p q : Int × Str) : Bool := if p.1 = q.1 then decide (p.2.cps.toList < q.2.cps.toList) else decide (p.1 < q.1)
theorem isLt_iff {p q : Int × Str} : isLt p q = true ↔ p.1 < q.1 ∨ (p.1 = q.1 ∧ p.2.cps.toList < q.2.cps.toList) := by
  unfold isLt
  by_cases e : p.1 = q.1
  · rw [if_pos e, decide_eq_true_eq]
    constructor
    · exact fun h => .inr ⟨e, h⟩
    · rintro (h | h)
      · omega
      · exact h.2
  · rw [if_neg e, decide_eq_true_eq]
    constructor
    · exact .inl
    · rintro (h | h)
      · exact h
      · exact absurd h.1 e
theorem isLt_no {p q : Int × Str} : isLt p q = false ↔ q.1 < p.1 ∨ (p.1 = q.1 ∧ q.2.cps.toList ≤ p.2.cps.toList) := by
  unfold isLt
  by_cases e : p.1 = q.1
  · rw [if_pos e, decide_eq_false_iff_not, List.not_lt]
    constructor
    · exact fun h => .inr ⟨e, h⟩
    · rintro (h | h)
      · omega
      · exact h.2
  · rw [if_neg e, decide_eq_false_iff_not]
    constructor
    · exact fun h => .inl (by omega)
    · rintro (h | h)
      · omega
      · exact absurd h.1 e
theorem swo_is {α : Type} (k : α → Int × Str) : Swo fun v u => isLt (k v) (k u) := by
  refine ⟨fun x y h => ?_, fun x y z h1 h2 => ?_⟩
  · refine isLt_no.mpr ?_
    rcases isLt_iff.mp h with h | ⟨e, h⟩
    · exact .inl h
    · exact .inr ⟨e.symm, List.le_of_lt h⟩
  · refine isLt_no.mpr ?_
    rcases isLt_no.mp h1 with a | ⟨a, a'⟩ <;> rcases isLt_no.mp h2 with b | ⟨b, b'⟩
    · exact .inl (by omega)
    · exact .inl (by omega)
    · exact .inl (by omega)
    · exact .inr ⟨by omega, List.le_trans a' b'⟩
section
variable {prog : Program} {w : World} {s : Shared} {A : Around} {E : Value → Shared → Prop}
/-- two such tuples compare as isLt says -/
theorem is_lt {a1 a2 : Addr} {o1 o2 : Obj} {x1 x2 : Int} {z1 z2 : Str} {t1 t2 u1 u2 : Tok} {n1 n2 : Nat} (g1 : s.heap.get? a1 = some o1) (d1 : o1.data = .seq #[.int x1 t1, .str z1 u1] n1) (g2 : s.heap.get? a2 = some o2) (d2 : o2.data = .seq #[.int x2 t2, .str z2 u2] n2) :
    wpAny (model prog w) A (keyLt' (tuples' true) (.ref a1) (.ref a2)) (fun r s' => s' = s ∧ r = isLt (x1, z1) (x2, z2)) (fun _ _ => False) s := by
  refine PySem.W.kat_lt g1 d1 g2 d2 ?_
  show PySem.W.KatLex prog w A true (decide (2 < 2)) _ [(.int x1 t1, .int x2 t2), (.str z1 u1, .str z2 u2)] 0 s
  refine PySem.W.kat_cons (SeqAt.EqAt.int_int x1 t1 x2 t2 prog w _ _ (PySem.W.kat_go (fun y1 => ?_) fun y1 => ?_))
  · have e1 : x1 = x2 := of_decide_eq_true (by simpa using y1)
    refine PySem.W.kat_yes (PySem.W.kat_cons (SeqAt.EqAt.str_str z1 u1 z2 u2 prog w _ _ (PySem.W.kat_go (fun y2 => ?_) fun y2 => ?_)))
    · have e2 : z1 = z2 := of_decide_eq_true (by simpa using y2)
      subst e1 e2
      exact PySem.W.kat_yes (PySem.W.kat_nil ⟨rfl, ((swo_is id).refl (x1, z1)).symm⟩)
    · exact PySem.W.kat_no (PySem.W.kat_one _ _ (PyProof.Rows.lt_str ⟨rfl, (if_pos (c := (x1, z1).1 = (x2, z2).1) e1).symm⟩))
  · have e1 : ¬ x1 = x2 := fun e => by
      subst e
      simp at y1
    exact PySem.W.kat_no (oneLt_int ⟨rfl, (if_neg (c := (x1, z1).1 = (x2, z2).1) e1).symm⟩)
theorem is_cmp {keys : List Value} {k : Value → Int × Str} (hp : ∀ v ∈ keys, IsIS s.heap v (k v).1 (k v).2) : Cmp prog w A s (tuples' true) (fun p => p.1 ∈ keys) (fun p q => isLt (k p.1) (k q.1)) := by
  rintro ⟨v1, w1⟩ ⟨v2, w2⟩ m1 m2
  obtain ⟨a1, o1, t1, u1, n1, e1, g1, _, d1⟩ := hp v1 m1
  obtain ⟨a2, o2, t2, u2, n2, e2, g2, _, d2⟩ := hp v2 m2
  have q := is_lt (prog := prog) (w := w) (A := A) (s := s) g1 d1 g2 d2
  rw [← e1, ← e2] at q
  exact q
theorem is_firsts {h : Heap} (keys : List Value) (hp : ∀ v ∈ keys, ∃ x z, IsIS h v x z) : ∃ fs : List Value, PySem.W.KatTups h keys fs ∧ fs.length = keys.length ∧ ∀ f ∈ fs, ∃ x t, f = Value.int x t := by
  induction keys with
  | nil => exact ⟨[], .nil, rfl, fun _ m => nomatch m⟩
  | cons v keys ih =>
    obtain ⟨fs, i1, i2, i3⟩ := ih fun u m => hp u (.tail _ m)
    obtain ⟨x, z, a, o, t, u, n, rfl, g, c, d⟩ := hp v (.head _)
    exact ⟨.int x t :: fs, .cons g c d rfl i1, congrArg Nat.succ i2, fun f m => (List.mem_cons.mp m).elim (fun e => ⟨x, t, e⟩) (i3 f)⟩
theorem is_kind {keys : List Value} {k : Value → Int × Str} {Q : SortKind → Shared → Prop} (some_ : 0 < keys.length) (hp : ∀ v ∈ keys, IsIS s.heap v (k v).1 (k v).2) (q : Q (tuples' true) s) : wpAny (model prog w) A (keyKind' keys.toArray) Q E s := by
  obtain ⟨fs, i1, i2, i3⟩ := is_firsts keys fun v m => ⟨_, _, hp v m⟩
  have differ : (Value.type "int" != Value.type "tuple") = true := by decide +kernel
  refine PySem.W.kat_kind (T := .type "int") i1 (by omega) (fun f m => ?_) rfl (by rw [differ]; exact q)
  obtain ⟨x, t, rfl⟩ := i3 f m
  exact PySem.W.Looks.now
/-- the sort itself: the keys stand in the store at kS, the list at a is empty -/
theorem key_end {a kS : Addr} {keys vs : List Value} {e e1 : Nat} {k : Value → Int × Str} {P : PySem.Fin → Shared → Prop} (hk : s.heap.get? kS = some (seqObj "list" keys.toArray e)) (ha : s.heap.get? a = some (seqObj "list" #[] e1)) (ne : kS ≠ a)
    (hl : keys.length = vs.length) (hz : vs.length ≤ sizeLine) (hp : ∀ v ∈ keys, IsIS s.heap v (k v).1 (k v).2)
    (h : ∀ (h' : Heap) (out : List (Value × Value)) (c : Nat), out.Perm (keys.zip vs) → out.Pairwise (fun p q => isLt (k q.1) (k p.1) = false) → (∀ b o, b ≠ kS → b ≠ a → s.heap.get? b = some o → h'.get? b = some o) →
      h'.get? a = some (seqObj "list" (out.map (·.2)).toArray c) → (∃ c', h'.get? kS = some (seqObj "list" #[] c')) → P (.done (.ret .none)) { s with heap := h' }) :
    wpAny (model prog w) A (ksk_end a false vs.toArray e1 (.ref kS) keys.toArray) P E s := by
  have ezip : (keys.toArray.zip vs.toArray).toList = keys.zip vs := by
    rw [ksk_zip, List.toList_toArray]
  have lz : (keys.zip vs).length = vs.length := by rw [List.length_zip, hl, Nat.min_self]
  have tail : ∀ st : SortSt, Srtd (fun p q : Keyed => isLt (k p.1) (k q.1)) (arrOf st).toList → Stb (fun p q : Keyed => isLt (k p.1) (k q.1)) (arrOf st).toList (keys.zip vs) → failedOf st = none →
      wpAny (model prog w) A (ksk_tail a false e1 (.ref kS) st) P E s := by
    intro st hs hb hf
    have hpm : (arrOf st).toList.Perm (keys.zip vs) := hb.perm
    have ls : ((arrOf st).map (·.2)).size = vs.length := by
      rw [Array.size_map, ← Array.length_toList, hpm.length_eq, lz]
    unfold ksk_tail
    try dsimp only
    refine wpAny_bind (listUpdate_at hk rfl ?_ (by rw [List.size_toArray, hl]; exact hz) (Nat.zero_le _))
    refine wpAny_bind (wpAny_letGo ?_)
    have ha1 : (s.heap.update kS (Obj.mapSeq fun _ => (#[] : Array Value))).get? a = some (seqObj "list" #[] e1) := ((Heap.SameBut.update s.heap kS _).2 a ne.symm).trans ha
    obtain ⟨c1, hk1⟩ : ∃ c1, (s.heap.update kS (Obj.mapSeq fun _ => (#[] : Array Value))).get? kS = some (seqObj "list" #[] c1) := ⟨_, get?_update_seq hk fun _ => #[]⟩
    refine wpAny_bind (seqEpoch_at ha1 rfl ?_)
    refine wpAny_bind (listUpdate_at ha1 rfl ?_ (Nat.zero_le _) (by show ((arrOf st).map (·.2)).size ≤ _; omega))
    rw [hf]
    simp only [bne_self_eq_false, Bool.false_eq_true, if_false]
    have s2 := Heap.SameBut.update (s.heap.update kS (Obj.mapSeq fun _ => (#[] : Array Value))) a (Obj.mapSeq fun _ => (arrOf st).map (·.2))
    obtain ⟨c2, hc2⟩ : ∃ c2, ((s.heap.update kS (Obj.mapSeq fun _ => (#[] : Array Value))).update a (Obj.mapSeq fun _ => (arrOf st).map (·.2))).get? a = some (seqObj "list" ((arrOf st).map (·.2)) c2) := ⟨_, get?_update_seq ha1 fun _ => (arrOf st).map (·.2)⟩
    have eo : (((arrOf st).toList.map (·.2)).toArray : Array Value) = (arrOf st).map (·.2) := by
      apply Array.ext'
      rw [List.toList_toArray, Array.toList_map]
    refine wpAny_pure (h _ (arrOf st).toList c2 hpm hs (fun b o n1 n2 q => (s2.2 b n2).trans (((Heap.SameBut.update s.heap kS _).2 b n1).trans q)) (by rw [eo]; exact hc2) ⟨c1, (s2.2 kS ne).trans hk1⟩)
  unfold ksk_end
  try dsimp only
  simp only [Bool.false_eq_true, if_false]
  by_cases h2 : vs.toArray.size < 2
  · rw [if_pos h2, if_pos h2]
    refine wpAny_bind (wpAny_pure ?_)
    rw [StateT.run_pure]
    refine wpAny_bind (wpAny_pure ?_)
    try dsimp only
    refine tail (SortSt.mk' general' (keys.toArray.zip vs.toArray) #[] 7 none) ?_ ?_ rfl
    · show Srtd _ (keys.toArray.zip vs.toArray).toList
      rw [ezip]
      rw [List.size_toArray] at h2
      match hh : keys.zip vs with
      | [] => exact List.Pairwise.nil
      | [v] => exact List.pairwise_singleton _ _
      | _ :: _ :: l =>
        rw [hh] at lz
        rw [List.length_cons, List.length_cons] at lz
        omega
    · show Stb _ (keys.toArray.zip vs.toArray).toList _
      rw [ezip]
      exact Stb.refl _
  · rw [if_neg h2, if_neg h2]
    rw [List.size_toArray] at h2
    refine wpAny_bind (is_kind (k := k) (by omega) hp ?_)
    have hall : AllL (fun p : Keyed => p.1 ∈ keys) (keys.toArray.zip vs.toArray).toList := fun p hm => by
      rw [ezip] at hm
      exact (List.of_mem_zip hm).1
    refine wpAny_bind (wpAny_mono (wpS_sortO (st0 := SortSt.mk' (tuples' true) (keys.toArray.zip vs.toArray) #[] 7 none)
      (Q := fun _ st' => Srtd (fun p q : Keyed => isLt (k p.1) (k q.1)) (arrOf st').toList ∧ Stb (fun p q : Keyed => isLt (k p.1) (k q.1)) (arrOf st').toList (keys.toArray.zip vs.toArray).toList ∧ failedOf st' = none)
      (swo_is fun p : Keyed => k p.1) (is_cmp hp) rfl hall rfl rfl fun st' a1 a2 a3 => ⟨a1, a2, a3⟩) ?_ fun _ _ e => e)
    rintro ⟨⟨⟩, st'⟩ s' ⟨rfl, hp1, hp2, hf⟩
    try dsimp only
    rw [ezip] at hp2
    exact tail st' hp1 hp2 hf
end
end SrtKy


namespace L2
open PySem PySem.Spec PyProof.Rows
section
variable {X : Cx} {pins : List (Addr × Obj)} {σ : St} {H : Hp} {s : Shared} {h' : Heap}
/-- the same, a second object of ours having changed too -/
theorem Inv.adopt2 {a a2 : Addr} {o : HO} {t' : Nat} (I : Inv X pins σ H s) (k : ∀ b u, b ≠ a → b ≠ a2 → s.heap.get? b = some u → h'.get? b = some u) (hn : H a = none) (hn2 : H a2 = none)
    (hL : ∀ b, b = a ∨ b = a2 → ((b ∈ X.ex ∨ X.s_0.heap.objs.size ≤ b) ∧ b ≠ X.env.locals ∧ (∀ x c, X.env.cells.lookup x = some c → c ≠ b) ∧ ∀ p ∈ X.pn ++ pins, p.1 ≠ b)) (new : ObjOk X.prog X.w (upd H a o) h' a o) :
    Inv X pins σ (upd H a o) { s with heap := h', toks := t' } := by
  have nit : ∀ b u, H b = some u → b ≠ a := fun b u e z => by rw [z, hn] at e; cases e
  have nit2 : ∀ b u, H b = some u → b ≠ a2 := fun b u e z => by rw [z, hn2] at e; cases e
  refine I.step (g' := s.gens) (d' := s.drawn) (ch := [a, a2]) (fun b hb => hL b (by simpa using hb)) (fun b o _ _ hc e _ => k b o (fun z => hc (by simp [z])) (fun z => hc (by simp [z])) e)
    (fun b o _ _ hc e _ => ⟨o.slots, k b o (fun z => hc (by simp [z])) (fun z => hc (by simp [z])) e⟩) (fun b _ hc _ n => by rw [upd_ne (fun z => hc (by simp [z]))]; exact n)
    (fun b o hc e => ⟨o, k b o (fun z => hc (by simp [z])) (fun z => hc (by simp [z])) e⟩) (fun b _ e => by rw [upd_ne (nit b _ e)]; exact e) (fun b _ _ e => by rw [upd_ne (nit b _ e)]; exact e) (fun b ps e => ⟨#[], by rw [upd_ne (nit b _ e), e]; simp⟩) (fun m hm => ?_) (fun b u e => ?_) I.bare
  · obtain ⟨o, es, ep, ho, r⟩ := hm
    exact ⟨o, es, ep, k _ o (Ne.symm (hL a (.inl rfl)).2.1) (Ne.symm (hL a2 (.inr rfl)).2.1) ho, r⟩
  · by_cases hb : b = a
    · subst hb
      rw [upd_same] at e
      cases e
      exact new
    · rw [upd_ne hb] at e
      have hb2 := nit2 b _ e
      refine (I.hok b u e).stay (fun c v hc q => k c v ?_ ?_ q) (fun c q => by rw [upd_ne (nit c _ q)]; exact q) fun c _ q => by rw [upd_ne (nit c _ q)]; exact q
      · rcases hc with z | z
        · rw [z]; exact hb
        · exact nit c _ z
      · rcases hc with z | z
        · rw [z]; exact hb2
        · exact nit2 c _ z
/-- no cell of ours is a list -/
theorem Inv.nocell {a : Addr} {u : Obj} (I : Inv X pins σ H s) (h : s.heap.get? a = some u) (d : ∀ v, u.data ≠ .cell v) : ∀ x c, X.env.cells.lookup x = some c → c ≠ a := fun x c e z => by
  obtain ⟨v, o, ho, hd⟩ := I.cell x c e
  rw [z, h] at ho
  cases ho
  exact d _ hd
end
/-- what the keys of the first items are -/
def KysAt (H : Hp) (key : V → Int × Str) (xs : List V) (kA : List Value) : Prop := ∀ (j : Nat) (kv : Value), kA[j]? = some kv → ∃ (t : Addr) (x : V), kv = Value.ref t ∧ xs[j]? = some x ∧ H t = some (.tup [.int (key x).1, .str (key x).2])
theorem KysAt.up {H H' : Hp} {key : V → Int × Str} {xs : List V} {kA : List Value} (h : KysAt H key xs kA) (t : ∀ b ys, H b = some (.tup ys) → H' b = some (.tup ys)) : KysAt H' key xs kA := fun j kv e => by
  obtain ⟨a, x, e1, e2, e3⟩ := h j kv e
  exact ⟨a, x, e1, e2, t _ _ e3⟩
theorem KysAt.snoc {H : Hp} {key : V → Int × Str} {xs : List V} {kA : List Value} {t : Addr} {x : V} (h : KysAt H key xs kA) (hx : xs[kA.length]? = some x) (ht : H t = some (.tup [.int (key x).1, .str (key x).2])) : KysAt H key xs (kA ++ [.ref t]) := fun j kv e => by
  by_cases hj : j < kA.length
  · rw [List.getElem?_append_left hj] at e
    exact h j kv e
  · rw [List.getElem?_append_right (by omega)] at e
    have h0 : j - kA.length = 0 := by
      have := (List.getElem?_eq_some_iff.mp e).1
      rw [List.length_singleton] at this
      omega
    rw [h0] at e
    have e' : Value.ref t = kv := Option.some.inj e
    have : j = kA.length := by omega
    subst this
    exact ⟨t, x, e'.symm, hx, ht⟩
/-- the key that stands at an address -/
def keyOfL (H : Hp) : Value → Int × Str
  | .ref t => match H t with
    | some (.tup [.int n, .str z]) => (n, z)
    | _ => (0, "")
  | _ => (0, "")
theorem keyOfL_at {H : Hp} {t : Addr} {n : Int} {z : Str} (h : H t = some (.tup [.int n, .str z])) : keyOfL H (.ref t) = (n, z) := by
  show (match H t with
    | some (.tup [.int n, .str z]) => (n, z)
    | _ => ((0 : Int), ("" : Str))) = (n, z)
  rw [h]
theorem KysAt.is {X : Cx} {pins : List (Addr × Obj)} {σ : St} {H : Hp} {s : Shared} {key : V → Int × Str} {xs : List V} {kA : List Value} (I : Inv X pins σ H s) (h : KysAt H key xs kA) : ∀ v ∈ kA, SrtKy.IsIS s.heap v (keyOfL H v).1 (keyOfL H v).2 := fun v hv => by
  obtain ⟨j, hj⟩ := List.mem_iff_getElem?.mp hv
  obtain ⟨t, x, rfl, _, e⟩ := h j v hj
  rw [keyOfL_at e]
  obtain ⟨_, its, r, o, ho, hc, n, hd⟩ := I.hok _ _ e
  obtain ⟨u1, u2, rfl, ri, rj⟩ := vals2 r
  obtain ⟨t1, rfl⟩ := ri
  obtain ⟨t2, rfl⟩ := rj
  exact ⟨t, o, t1, t2, n, rfl, ho, hc, hd⟩
/-- a list whose picture is a permutation of a picture -/
theorem perm_lift {α β : Type} (f : α → β) {l m' : List β} (p : l.Perm m') : ∀ m : List α, m' = m.map f → ∃ l' : List α, l'.Perm m ∧ l'.map f = l := by
  induction p with
  | nil =>
    intro m e
    have : m = [] := List.map_eq_nil_iff.mp e.symm
    subst this
    exact ⟨[], .refl _, rfl⟩
  | cons x p ih =>
    intro m e
    cases m with
    | nil => cases e
    | cons y m =>
      rw [List.map_cons] at e
      injection e with e1 e2
      obtain ⟨l', h1, h2⟩ := ih m e2
      exact ⟨y :: l', h1.cons y, by rw [List.map_cons, h2, e1]⟩
  | swap x y l =>
    intro m e
    match m with
    | [] => cases e
    | [_] => simp at e
    | a :: b :: m =>
      rw [List.map_cons, List.map_cons] at e
      injection e with e1 e2
      injection e2 with e2 e3
      exact ⟨b :: a :: m, .swap a b m, by rw [List.map_cons, List.map_cons, e1, e2, e3]⟩
  | trans _ _ ih1 ih2 =>
    intro m e
    obtain ⟨l2, h1, h2⟩ := ih2 m e
    obtain ⟨l3, h3, h4⟩ := ih1 l2 h2.symm
    exact ⟨l3, h3.trans h1, h4⟩
theorem vals_map {α : Type} {f : α → V} {g : α → Value} : ∀ l : List α, (∀ p ∈ l, RelV (f p) (g p)) → Vals (l.map f) (l.map g)
  | [], _ => .nil
  | p :: l, h => .cons (h p (List.mem_cons_self ..)) (vals_map l fun q hq => h q (List.mem_cons_of_mem _ hq))
section
variable {X : Cx} {pins : List (Addr × Obj)} {σ : St} {H : Hp} {s : Shared}
theorem key_sort {A' : Around} {a f : Addr} {n : Nat} {xs : List V} {vs : List Value} {key : V → Int × Str} {J : Hp → Prop} {R : PySem.Fin → Shared → Prop} {E : Value → Shared → Prop}
    (I : Inv X pins σ H s) (hJ : J H) (r : Vals xs vs) (ha : s.heap.get? a = some (seqObj "list" vs.toArray n)) (hn : H a = none) (ho : X.s_0.heap.objs.size ≤ a) (hL : a ≠ X.env.locals) (hF : a ∉ X.fs) (hP : ∀ p ∈ X.pn ++ pins, p.1 ≠ a) (hz : vs.length ≤ sizeLine)
    (call_ : ∀ (x : V) (u : Value) (s' : Shared) (H' : Hp) (pins' : List (Addr × Obj)), x ∈ xs → RelV x u → Inv X (pins' ++ pins) σ H' s' → J H' → wpAny (model X.prog X.w) A' (call (.ref f) [u])
      (EP X (pins' ++ pins) σ fun v H2 => J H2 ∧ (∀ b ys, H' b = some (.tup ys) → H2 b = some (.tup ys)) ∧ ∃ t, v = .ref t ∧ H2 t = some (.tup [.int (key x).1, .str (key x).2])) (fun _ _ => False) s')
    (h : ∀ (ys : List V) (H1 : Hp) (s1 : Shared), ys.Perm xs → ys.Pairwise (fun x y => SrtKy.isLt (key y) (key x) = false) → J H1 → H1 a = none → Inv X pins σ (upd H1 a (.lst ys)) s1 → R (.done (.ret .none)) s1) :
    wpAny (model X.prog X.w) A' (ksk_tree a (.ref f) false) R E s := by
  have hlen : xs.length = vs.length := r.length
  obtain ⟨e1, ho1⟩ : ∃ e1, (s.heap.update a (Obj.mapSeq fun _ => (#[] : Array Value))).get? a = some (seqObj "list" #[] e1) := ⟨_, get?_update_seq ha fun _ => #[]⟩
  have emptied := Heap.SameBut.update s.heap a (Obj.mapSeq fun _ => (#[] : Array Value))
  unfold ksk_tree
  refine wpAny_bind (listItems_at ha rfl ?_)
  refine wpAny_bind (listUpdate_at ha rfl ?_ (by rw [List.size_toArray]; exact hz) (Nat.zero_le _))
  refine wpAny_bind (seqEpoch_at ho1 rfl ?_)
  refine wpAny_bind (wpAny_newTuple ?_ (by show vs.length ≤ _; exact hz))
  refine wpAny_bind (wpAny_newList ?_ (Nat.zero_le _))
  refine wpAny_holding ?_
  have next_ : ((s.heap.update a (Obj.mapSeq fun _ => (#[] : Array Value))).push (seqObj "tuple" vs.toArray 0)).objs.size = s.heap.objs.size + 1 := by rw [size_push', Heap.size_update]
  show wpAny _ _ (ksk_rest a (.ref f) false vs.toArray e1 (.ref ((s.heap.update a (Obj.mapSeq fun _ => (#[] : Array Value))).push (seqObj "tuple" vs.toArray 0)).objs.size)) _ _ { s with heap := ((s.heap.update a (Obj.mapSeq fun _ => (#[] : Array Value))).push (seqObj "tuple" vs.toArray 0)).push (seqObj "list" #[] 0) }
  have hk0 : (((s.heap.update a (Obj.mapSeq fun _ => (#[] : Array Value))).push (seqObj "tuple" vs.toArray 0)).push (seqObj "list" #[] 0)).get? ((s.heap.update a (Obj.mapSeq fun _ => (#[] : Array Value))).push (seqObj "tuple" vs.toArray 0)).objs.size = some (seqObj "list" #[] 0) := Heap.get?_push_size _ rfl
  have ha0 : (((s.heap.update a (Obj.mapSeq fun _ => (#[] : Array Value))).push (seqObj "tuple" vs.toArray 0)).push (seqObj "list" #[] 0)).get? a = some (seqObj "list" #[] e1) := Heap.get?_push_of_some _ (Heap.get?_push_of_some _ ho1)
  have hcell : ∀ x c, X.env.cells.lookup x = some c → c ≠ a := I.nocell ha (fun v z => nomatch z)
  have I1 : Inv X pins σ H { s with heap := ((s.heap.update a (Obj.mapSeq fun _ => (#[] : Array Value))).push (seqObj "tuple" vs.toArray 0)).push (seqObj "list" #[] 0) } :=
    I.turned (t' := s.toks) (it := a) (fun b o hb e => Heap.get?_push_of_some _ (Heap.get?_push_of_some _ ((emptied.2 b hb).trans e))) hn hL (.inr ho) hcell hP
  have hkn : s.heap.objs.size ≤ ((s.heap.update a (Obj.mapSeq fun _ => (#[] : Array Value))).push (seqObj "tuple" vs.toArray 0)).objs.size := by omega
  have hka : ((s.heap.update a (Obj.mapSeq fun _ => (#[] : Array Value))).push (seqObj "tuple" vs.toArray 0)).objs.size ≠ a := Nat.ne_of_gt (by rw [next_]; exact Nat.lt_succ_of_lt (Heap.lt_size ha))
  generalize ((s.heap.update a (Obj.mapSeq fun _ => (#[] : Array Value))).push (seqObj "tuple" vs.toArray 0)).objs.size = kS at hkn hka hk0 ⊢
  generalize ((s.heap.update a (Obj.mapSeq fun _ => (#[] : Array Value))).push (seqObj "tuple" vs.toArray 0)).push (seqObj "list" #[] 0) = h3 at I1 hk0 ha0 ⊢
  have kL : kS ≠ X.env.locals := Nat.ne_of_gt (Nat.lt_of_lt_of_le I.lt hkn)
  have kF : kS ∉ X.fs := I.nofs hkn
  have kP : ∀ p ∈ X.pn ++ pins, p.1 ≠ kS := fun p hp => Nat.ne_of_lt (Nat.lt_of_lt_of_le (Heap.lt_size (I.pin p hp).1) hkn)
  have kO : X.s_0.heap.objs.size ≤ kS := Nat.le_trans I.sz hkn
  have I2 : Inv X ([(kS, seqObj "list" ([] : List Value).toArray 0), (a, seqObj "list" #[] e1)] ++ pins) σ H { s with heap := h3 } := I1.pins_of fun p hp => by
    rcases List.mem_append.mp hp with hp | hp
    · rcases List.mem_cons.mp hp with rfl | hp
      · exact ⟨hk0, I.hok.fresh hkn, kL, kF, fun v z => nomatch z⟩
      · rw [List.mem_singleton.mp hp]
        exact ⟨ha0, hn, hL, hF, fun v z => nomatch z⟩
    · exact I1.pin p (List.mem_append_right _ hp)
  unfold ksk_rest
  refine wpAny_bind (wpAny_rule ?_)
  first
    | rw [List.forIn_toArray]
    | (rw [← Array.forIn_toList]; simp only [List.toList_toArray])
    | rw [← Array.forIn_toList]
  refine wpAny_bind (ksk_fold (fun i s' => ∃ (H' : Hp) (kA : List Value) (e : Nat), Inv X ([(kS, seqObj "list" kA.toArray e), (a, seqObj "list" #[] e1)] ++ pins) σ H' s' ∧ J H' ∧ kA.length = i ∧ KysAt H' key xs kA) vs 0 { s with heap := h3 }
    ⟨H, [], 0, I2, hJ, rfl, fun j kv e => by simp at e⟩ ?step ?done)
  case step =>
    rintro j u s' hu ⟨H', kA, e, I', hJ', hkl, hK⟩
    rw [Nat.zero_add] at hkl
    have hj : j < vs.length := (List.getElem?_eq_some_iff.mp hu).1
    obtain ⟨x, hx⟩ : ∃ x, xs[j]? = some x := ⟨_, List.getElem?_eq_getElem (by omega)⟩
    obtain ⟨u', hu', rx⟩ := r.get hx
    have eu : u' = u := by
      rw [hu] at hu'
      exact (Option.some.inj hu').symm
    subst eu
    refine wpAny_bind (wpAny_attempt (wpAny_mono (call_ x u' s' H' _ (List.mem_of_getElem? hx) rx I' hJ') (fun v s'' he => ?_) fun _ _ hF => hF.elim))
    obtain ⟨v', H2, J2, rv, hJ2, ht, t, ev, htt⟩ := he
    subst ev
    obtain rfl : v = Value.ref t := rv
    try dsimp only
    obtain ⟨nk, nkn, _, _, _⟩ := J2.pin (kS, seqObj "list" kA.toArray e) (List.mem_append_right _ (List.mem_append_left _ (.head _)))
    obtain ⟨na, nan, _, _, _⟩ := J2.pin (a, seqObj "list" #[] e1) (List.mem_append_right _ (List.mem_append_left _ (.tail _ (.head _))))
    obtain ⟨g, gg, gd, gt, gos⟩ := s''
    have hx1 := Heap.SameBut.update g kS (Obj.mapSeq (·.push (.ref t)))
    obtain ⟨c2, hc2⟩ : ∃ c2, (g.update kS (Obj.mapSeq (·.push (.ref t)))).get? kS = some (seqObj "list" (kA.toArray.push (.ref t)) c2) := ⟨_, get?_update_seq nk (·.push (.ref t))⟩
    refine wpAny_bind (listUpdate_at nk rfl ?_ (by rw [List.size_toArray]; omega) (by rw [Array.size_push, List.size_toArray]; omega))
    have J3 : Inv X pins σ H2 ⟨g, gg, gd, gt, gos⟩ := J2.pins_of fun p hp => J2.pin p (List.mem_append_right _ (List.mem_append_right _ hp))
    have J4 : Inv X pins σ H2 { (⟨g, gg, gd, gt, gos⟩ : Shared) with heap := g.update kS (Obj.mapSeq (·.push (.ref t))) } :=
      J3.turned (t' := gt) (it := kS) (fun b o hb q => (hx1.2 b hb).trans q) nkn kL (.inr kO) (J3.nocell nk (fun v z => nomatch z)) kP
    have eA : (kA ++ [Value.ref t]).toArray = kA.toArray.push (.ref t) := by simp
    refine wpAny_pure ⟨rfl, H2, kA ++ [.ref t], c2, J4.pins_of fun p hp => ?_, hJ2, by rw [List.length_append, List.length_singleton]; omega, (hK.up ht).snoc (by rw [hkl]; exact hx) htt⟩
    rcases List.mem_append.mp hp with hp | hp
    · rcases List.mem_cons.mp hp with rfl | hp
      · exact ⟨by rw [eA]; exact hc2, nkn, kL, kF, fun v z => nomatch z⟩
      · rw [List.mem_singleton.mp hp]
        exact ⟨(hx1.2 a hka.symm).trans na, nan, hL, hF, fun v z => nomatch z⟩
    · exact J4.pin p (List.mem_append_right _ hp)
  case done =>
    rintro s' ⟨H', kA, e, I', hJ', hkl, hK⟩
    rw [Nat.zero_add] at hkl
    obtain ⟨nk, nkn, _, _, _⟩ := I'.pin (kS, seqObj "list" kA.toArray e) (List.mem_append_right _ (List.mem_append_left _ (.head _)))
    obtain ⟨na, nan, _, _, _⟩ := I'.pin (a, seqObj "list" #[] e1) (List.mem_append_right _ (List.mem_append_left _ (.tail _ (.head _))))
    try dsimp only
    refine wpAny_bind (listItems_at nk rfl ?_)
    refine SrtKy.key_end (k := keyOfL H') nk na hka hkl hz (hK.is I') fun h' out c hp hs kp hA _ => ?_
    have J3 : Inv X pins σ H' s' := I'.pins_of fun p hp => I'.pin p (List.mem_append_right _ (List.mem_append_right _ hp))
    have lz : (kA.zip vs).length = xs.length := by rw [List.length_zip, hkl, Nat.min_self, hlen]
    obtain ⟨l', p1, p2⟩ := perm_lift Prod.fst hp ((kA.zip vs).zip xs) (by rw [List.map_fst_zip (by omega)])
    have every : ∀ p ∈ l', keyOfL H' p.1.1 = key p.2 ∧ RelV p.2 p.1.2 := fun p hm => by
      obtain ⟨j, hj⟩ := List.mem_iff_getElem?.mp (p1.mem_iff.mp hm)
      obtain ⟨⟨q1, q2⟩, q3⟩ := p
      rw [List.getElem?_zip_eq_some] at hj
      obtain ⟨hj1, hj2⟩ := hj
      rw [List.getElem?_zip_eq_some] at hj1
      obtain ⟨k1, k2⟩ := hj1
      obtain ⟨t, x, e3, e4, e5⟩ := hK j q1 k1
      obtain ⟨u, hu, ru⟩ := r.get hj2
      rw [k2] at hu
      cases hu
      rw [hj2] at e4
      cases e4
      subst e3
      exact ⟨keyOfL_at e5, ru⟩
    have py : (l'.map Prod.snd).Perm xs := by
      have q := p1.map Prod.snd
      rw [List.map_snd_zip (by omega)] at q
      exact q
    have pw : (l'.map Prod.snd).Pairwise (fun x y => SrtKy.isLt (key y) (key x) = false) := by
      rw [← p2, List.pairwise_map] at hs
      rw [List.pairwise_map]
      refine hs.imp_of_mem fun {p q} hm hm' hpq => ?_
      rw [← (every p hm).1, ← (every q hm').1]
      exact hpq
    have ev : Vals (l'.map Prod.snd) (out.map (·.2)) := by
      rw [← p2, List.map_map]
      exact vals_map l' fun p hm => (every p hm).2
    have hzy : (l'.map Prod.snd).length ≤ sizeLine := by rw [py.length_eq, hlen]; exact hz
    refine h _ H' _ py pw hJ' nan (J3.adopt2 (t' := s'.toks) (a := a) (a2 := kS) (o := .lst (l'.map Prod.snd)) (fun b u h1 h2 q => kp b u h2 h1 q) nan nkn (fun b hb => ?_) ⟨hzy, out.map (·.2), c, ev, hA⟩)
    rcases hb with rfl | rfl
    · exact ⟨.inr ho, hL, J3.nocell na (fun v z => nomatch z), hP⟩
    · exact ⟨.inr kO, kL, J3.nocell nk (fun v z => nomatch z), kP⟩
end
end L2


namespace L2
open PySem PySem.Spec PyProof.Rows LamX NdefX
/-- all that was told stays -/
def HKeep (H H' : Hp) : Prop := ∀ b o, H b = some o → H' b = some o
/-- the lambda as a function of the layer (its body is an expression: none of the statements' field is read) -/
def lamF (X : Cx) (params : Arguments) (scope : Scope) (c' : Addr) : NF := ⟨"<lambda>", X.env.qual ++ "<lambda>", params, [], scope, cloFrom X.env.cells scope.names [], c'⟩
/-- sorted(e, key=lambda ..): js: where the captured names stand among ours -/
def tSortLam (T : List (Addr × Str)) (q : Str) (N : List Str) (js : List Nat) (ta : TA) (tb : TE) : TE := fun σ H Q => ta σ H fun vs H1 => ∃ x : V, vs = [x] ∧ Tabs T H1 ∧ ∀ (c' : Addr) (H2 : Hp), ExtN H1 H2 → Tabs T H2 → H2 c' = some (CodeO c' q) →
  ∃ (a : Addr) (kvs : List (Key × V)) (ks : List Str) (key : Str → Int × Str), x = .ref a ∧ Rd H2 a (.dK kvs) ∧ kvs.map (·.1) = ks.map Sum.inr ∧ ks.length ≤ sizeLine ∧
    (∀ k ∈ ks, ∀ H, HKeep H2 H → tb (startF N [.str k] (js.map (NdefX.slotAt σ))) H fun v H3 => HKeep H H3 ∧ ∃ t, v = .ref t ∧ H3 t = some (.tup [.int (key k).1, .str (key k).2])) ∧
    ∀ (ys : List Str) (H3 : Hp) (p : Addr), ys.Perm ks → ys.Pairwise (fun x y => SrtKy.isLt (key y) (key x) = false) → HKeep H2 H3 → H3 p = none → Q (.ref p) (upd H3 p (.lst (ys.map V.str)))
section
variable {X : Cx}
theorem lam_call {pins : List (Addr × Obj)} {σ : St} {H : Hp} {s : Shared} {A' : Around} {f c' : Addr} {pm ctv : Value} {params : Arguments} {body : Expr} {scope : Scope} {N ps fr : List Str} {js : List Nat} {k : Nat} {us : List Value} {vs : List V} {tb : TE} {Q : VK}
    (I : Inv X pins σ H s) (hf : s.heap.get? f = some (PySem.W.kla_obj "<lambda>" (X.env.qual ++ "<lambda>") params body scope (cloFrom X.env.cells scope.names []) pm c' ctv)) (hc : H c' = some (CodeO c' (X.env.qual ++ "<lambda>")))
    (hb : bindArgs (PySem.W.kla_fn "<lambda>" (X.env.qual ++ "<lambda>") params body scope (cloFrom X.env.cells scope.names []) pm (.ref c') ctv) ⟨us, []⟩ = pure (ps.zip us)) (S : NScope N ps fr scope) (cp : Caps X (cloFrom X.env.cells scope.names []) fr js)
    (hr : Room (k + 1) A') (e0 : Env0 X.prog X.w X.K X.mg X.base A' X.stack s H) (hl : vs.length = ps.length) (r : Vals vs us)
    (hbody : ∀ (A : Around) (outer : List Env) (s : Shared) (H : Hp), Room k (A.deeper (envF (lamF X params scope c') f s.heap.objs.size)) → PE (ncx C8.CX0 X.prog X.w X.K X.mg X.base N (lamF X params scope c') f A outer s H C8.E0) body tb)
    (q : tb (startF N vs (js.map (NdefX.slotAt σ))) H Q) : wpAny (model X.prog X.w) A' (call (.ref f) us) (EP X pins σ fun v H2 => Q v H2 ∧ ∀ b ys, H b = some (.tup ys) → H2 b = some (.tup ys)) (fun _ _ => False) s := by
  obtain ⟨⟨oc, vs', t, hoc, hdc, hvc⟩, _, _⟩ := I.hok c' _ hc
  have rc : codeAny (model X.prog X.w) A' (.call (.ref f) ⟨us, []⟩) (CR C8.CX0 X.stack X.prog X.w H s (fun v H2 => Q v H2 ∧ ∀ b ys, H b = some (.tup ys) → H2 b = some (.tup ys)) C8.E0) s := by
    refine PySem.W.kla_callFunE hr.depth hf rfl S.co S.gen rfl ⟨c', oc, vs', t, rfl, hoc, hdc, hvc⟩ ?_
    rw [hb]
    refine wpAny_pure (wpAny_newFunctionEnv S.nocell (fun ⟨par, _⟩ mem => S.par par (List.of_mem_zip mem).1) (fun h₁ hns hsb => ⟨(e0.mod.nolimit.keeps fun b o e => (e0.bs b o e).1).fresh _ hsb, ?_⟩) S.kind)
    show codeAny _ _ (.expr body (envF (lamF X params scope c') f s.heap.objs.size)) _ _
    have stays : ∀ b o, s.heap.get? b = some o → h₁.get? b = some o := fun b o e => hsb.extBut b o (Nat.ne_of_lt (Heap.lt_size e)) (Heap.get?_push_of_some _ e)
    have J : Inv (ncx C8.CX0 X.prog X.w X.K X.mg X.base N (lamF X params scope c') f A' X.stack s H C8.E0) [] (startF N vs (js.map (NdefX.slotAt σ))) H { s with heap := h₁, toks := s.toks + (ps.zip us).length } :=
      inv_startN (F := lamF X params scope c') S hr.hd e0 hl r (cells_of I cp) hns stays
    refine PySem.W.kla_codeExpr (wpAny_mono ((hbody A' X.stack s H (hr.deeper _)).run [] _ _ H Q J q) (fun v s' hq => ?_) fun e s' hq => hq)
    obtain ⟨w', H', J', rv, hq'⟩ := hq
    exact ⟨w', H', J'.os, J'.bare, J'.base, J'.hok, rv, hq', J'.base.tups⟩
  refine wpAny_call (codeAny_mono rc fun r s' hq => ?_)
  cases r with
  | error e => exact (show False from hq).elim
  | ok fl =>
    cases fl with
    | ret u => exact I.after hq
    | next => exact False.elim hq
    | brk => exact False.elim hq
    | cont => exact False.elim hq
/-- THE RULE: sorted(e, key=lambda each: ..), e a dict of texts -/
theorem pe_sortedLam {T : List (Addr × Str)} {c P : Addr} {k : Nat} {params : Arguments} {body : Expr} {scope : Scope} {N fr : List Str} {js : List Nat} {each : Str} {e : Expr} {ta : TA} {tb : TE} {p pos kpos lpos : Pos} (hg : Gl X "sorted") (hm : X.mg "sorted" = none) (hcalm : X.calm = true) (ha : PA X [e] ta)
    (TB : TabB X.base X.mg c P) (hcode : X.env.code = .ref c) (hmT : (P, X.env.qual ++ "<lambda>") ∈ T) (hu : ∀ p ∈ T, p.1 = P → p.2 = X.env.qual ++ "<lambda>") (hdef : defaultsOf params X.env = ([], []))
    (hfree : ∀ y ∈ scope.names, y.2 = .free → X.env.scope.names.lookup y.1 = some .cell ∨ X.env.scope.names.lookup y.1 = some .free) (hfr : ∀ y ∈ fr, (y, NameKind.free) ∈ scope.names) (hjs : js.map (fun j => X.N[j]?) = fr.map some) (S : NScope N [each] fr scope)
    (hb : ∀ (q : Str) (cl : List (Str × Addr)) (pm cv ctv : Value) (u : Value), bindArgs (PySem.W.kla_fn "<lambda>" q params body scope cl pm cv ctv) ⟨[u], []⟩ = pure [(each, u)]) (hr : Room (k + 3) X.A)
    (hbody : ∀ (A : Around) (outer : List Env) (s : Shared) (H : Hp) (f c' : Addr), Room k (A.deeper (envF (lamF X params scope c') f s.heap.objs.size)) → PE (ncx C8.CX0 X.prog X.w X.K X.mg X.base N (lamF X params scope c') f A outer s H C8.E0) body tb)
    (hse : backTo pos (starEach [e] X.env) = (false, eval e X.env) :: backTo pos (starEach [] X.env) := by rfl) (hpl : (backTo pos (starEach [e] X.env)).any (·.1) = false := by rfl)
    (hall : (backToKw pos (keywordEach [⟨some "key", .Lambda params body scope lpos, kpos⟩] X.env)).all (·.1.isSome) = true := by rfl) (hnone : (backToKw pos (keywordEach [⟨some "key", .Lambda params body scope lpos, kpos⟩] X.env)).any (·.1.isNone) = false := by rfl)
    (hks : (backToKw pos (keywordEach [⟨some "key", .Lambda params body scope lpos, kpos⟩] X.env)).filterMap (·.1) = [Str.ofString "key"] := by rfl) :
    PE X (.Call (.Name "sorted" p) [e] [⟨some "key", .Lambda params body scope lpos, kpos⟩] pos) (tSortLam T (X.env.qual ++ "<lambda>") N js ta tb) := by
  refine ⟨fun pins s σ H Q I h => ?_⟩
  refine wpAny_Call_Name_kw (ld_blt I hg hm PyProof.Rows.Boot.«sorted» ?_ (by decide) (by decide))
  have hfr2 : ∀ y ∈ scope.names, y.2 = .free → ∃ c, X.env.cells.lookup y.1 = some c := fun y hy e => (hfree y hy e).elim (fun z => I.ok.has _ (.inl z)) fun z => I.ok.has _ (.inr z)
  refine PyProof.Rows.callWith_kw (thn (ha.run pos pins s σ H _ I h) fun us s1 hh => ?_) hse hpl hall hnone
  obtain ⟨vs, H1, I1, r1, x, ev, hT, hx⟩ := hh
  subst ev
  obtain ⟨ux, rfl, rx⟩ := vals1 r1
  rw [hks]
  show wpAny _ _ (evalAll ((do let v ← eval (.Lambda params body scope lpos) X.env; standAt pos; pure v) :: (backToKw pos (keywordEach [] X.env)).map (·.2))) _ _ s1
  refine wpAny_evalAll_cons (wpAny_bind (lam_make2 I1 TB hcode hmT hu hT hdef hfr2 fun f c' pm ctv H2 s2 I2 eN hT2 of f0 fF hc => ?_))
  refine wpAny_bind (wpAny_standAt (wpAny_pure (wpAny_evalAll_nil ?_)))
  obtain ⟨a, kvs, ks, key, rfl, hd, hkeys0, hz, hbs, hk⟩ := hx c' H2 eN hT2 hc
  cases rx
  show wpAny _ _ (call (.builtin "sorted") [.ref a] [(Str.ofString "key", .ref f)]) _ _ s2
  obtain ⟨z, lo, vs, rel, dd⟩ := dk_rd I2.hok hd
  obtain ⟨ep, hat⟩ := dd.dictAt
  have hkeys : vs.map (·.1) = ks.map Sum.inr := rel.keys.symm.trans hkeys0
  have hl : vs.length = ks.length := by
    have e := congrArg List.length hkeys
    rw [List.length_map, List.length_map] at e
    exact e
  have h16 : vs.length ≤ sizeLine := by rw [hl]; exact hz
  refine PyProof.Rows.call_function_entry_kw PyProof.Rows.kind_sorted PyProof.Rows.plain_sorted PyProof.Rows.entry_sorted (ksk_s1 _ _) ?_
  unfold Builtin.«sorted»
  refine wpAny_bind (m := checkCount "sorted" 1 1 _) (wpAny_pure ?_)
  refine wpAny_bind (PySem.W.kdu_collect (A := X.A.in1) (PySem.W.kdl_dict (knd := mixKind X.prog X.w) (kvs := vs) (ep := ep) lo) (I2.ok.hd hcalm) hat h16 fun h' tk acc hk2 hacc => ?_)
  have many : acc.toList.length = ks.length := by rw [Array.length_toList, hacc.1, hl]
  have hS : Vals (ks.map V.str) acc.toList := by
    have rows : Vals (vs.map fun p => kV p.1) acc.toList := keys_at (by rw [Array.length_toList]; exact hacc.1) fun j v e => hacc.2 j v (by rw [← Array.getElem?_toList]; exact e)
    have ek : (vs.map fun p => kV p.1) = ks.map V.str := by
      have e := congrArg (List.map kV) hkeys
      rw [List.map_map, List.map_map] at e
      exact e
    rw [ek] at rows
    exact rows
  have I3 : Inv X pins σ H2 { s2 with heap := h', toks := tk } := I2.kept hk2
  refine wpAny_bind (wpAny_newList ?_ (by rw [many]; exact hz))
  have laid_ : (h'.push (seqObj "list" acc.toList.toArray 0)).get? h'.objs.size = some (seqObj "list" acc.toList.toArray 0) := Heap.get?_push_size _ rfl
  show wpAny _ _ _ _ _ { s2 with heap := h'.push (seqObj "list" acc.toList.toArray 0), toks := tk }
  obtain ⟨fo, efo⟩ : ∃ fo, fo = PySem.W.kla_obj "<lambda>" (X.env.qual ++ "<lambda>") params body scope (cloFrom X.env.cells scope.names []) pm c' ctv := ⟨_, rfl⟩
  rw [← efo] at of
  have of3 : h'.get? f = some fo := hk2 _ _ of
  have fL : f ≠ X.env.locals := fun e => by
    obtain ⟨m, ⟨o, es, ep2, ho, hd2, _⟩, _⟩ := I2.loc
    rw [← e, of] at ho
    have ho' := Option.some.inj ho
    rw [← ho', efo] at hd2
    cases hd2
  have fFs : f ∉ X.fs := fun hm => fF (I2.ok.stk.elim (fun e => by rw [e]; exact hm) fun e => by rw [e.1]; exact (List.mem_filterMap.mpr (by
    obtain ⟨x, hx, q⟩ := List.mem_filterMap.mp hm
    exact ⟨x, List.mem_cons_of_mem _ hx, q⟩)))
  have I4 : Inv X ((f, fo) :: pins) σ H2 { s2 with heap := h'.push (seqObj "list" acc.toList.toArray 0), toks := tk } := (I3.kept (t' := tk) fun b u e => Heap.get?_push_of_some _ e).pins_of fun p hp => by
    rcases List.mem_cons.mp hp with rfl | hp
    · exact ⟨Heap.get?_push_of_some _ of3, f0, fL, fFs, fun v z => by
        rw [efo] at z
        cases z⟩
    · exact ⟨Heap.get?_push_of_some _ (I3.pin p (List.mem_append_right _ hp)).1, (I3.pin p (List.mem_append_right _ hp)).2⟩
  refine wpAny_bind (wpAny_holding (wpAny_call_entry_kw PyProof.Rows.slot_list_sort ⟨_, laid_, rfl⟩ PyProof.Rows.entry_list_sort ?_ (ksk_l1 _ _)))
  rw [ksk_t1]
  have hlt : ∀ p ∈ X.pn ++ ((f, fo) :: pins), p.1 ≠ h'.objs.size := fun p hp => by
    have lt : p.1 < h'.objs.size := by
      rcases List.mem_append.mp hp with hp | hp
      · exact Heap.lt_size (I3.pin p (List.mem_append_left _ hp)).1
      · rcases List.mem_cons.mp hp with rfl | hp
        · exact Heap.lt_size of3
        · exact Heap.lt_size (I3.pin p (List.mem_append_right _ hp)).1
    exact Nat.ne_of_lt lt
  refine key_sort (A' := X.A.in1.in1) (a := h'.objs.size) (xs := ks.map V.str) (key := fun v => match v with | .str y => key y | _ => (0, "")) (J := HKeep H2) I4 (fun _ _ e => e) hS laid_ (I3.hok.fresh (Nat.le_refl _)) I3.sz (Nat.ne_of_gt I3.lt) (I3.nofs (Nat.le_refl _)) hlt (by rw [many]; exact hz) (fun x u s' H' pins' hxm rx I' hJ => ?_) (fun ys H3 s3 py pw hJ hn J3 => ?_)
  · obtain ⟨y, hy, rfl⟩ := List.mem_map.mp hxm
    obtain ⟨of5, _, _, _, _⟩ := I'.pin (f, fo) (List.mem_append_right _ (List.mem_append_right _ (.head _)))
    rw [efo] at of5
    refine wpAny_mono (lam_call (vs := [V.str y]) (ps := [each]) (Q := fun v H3 => HKeep H' H3 ∧ ∃ t, v = .ref t ∧ H3 t = some (.tup [.int (key y).1, .str (key y).2])) I' of5 (hJ _ _ hc) (hb _ _ _ _ _ _) S (Caps.made I'.ok hfree hfr hjs) (hr.in1.in1) I'.env0.in1.in1 rfl (.cons rx .nil)
      (fun A outer s H hr2 => hbody A outer s H f c' hr2) (hbs y hy H' hJ)) (fun v s' hq => ?_) fun _ _ z => z
    obtain ⟨w, H4, I5, rv, ⟨q1, q2⟩, q3⟩ := hq
    exact ⟨w, H4, I5, rv, fun b o e => q1 b o (hJ b o e), q3, q2⟩
  · obtain ⟨zs, pz, ez⟩ := perm_lift V.str py ks rfl
    refine ⟨_, rfl, wpAny_pure ⟨_, rfl, .ref h'.objs.size, upd H3 h'.objs.size (.lst (zs.map V.str)), ?_, rfl, hk zs H3 _ pz ?_ hJ hn⟩⟩
    · rw [ez]
      exact J3.pins_of fun p hp => J3.pin p (List.mem_append_right _ (List.mem_cons_of_mem _ hp))
    · rw [← ez, List.pairwise_map] at pw
      exact pw
end
end L2


/-! heaps, lists, texts: what all the laws' proofs share. -/
namespace FT
open PySem L2 TL
abbrev Same (H H' : Hp) : Prop := ∀ b o, H b = some o → H' b = some o
theorem Same.refl {H : Hp} : Same H H := fun _ _ e => e
theorem Same.trans {H H1 H2 : Hp} (a : Same H H1) (b : Same H1 H2) : Same H H2 := fun x o e => b x o (a x o e)
theorem Same.free {H H' : Hp} {p : Addr} (s : Same H H') (n : H' p = none) : H p = none := by
  cases e : H p with
  | none => rfl
  | some o =>
    rw [s p o e] at n
    cases n
theorem Same.sql {K : PySem.W.Frag} {H H' : Hp} {a : Addr} {xs : List V} (e : Same H H') (h : SqL K H a xs) : SqL K H' a xs := by
  rcases h with (h | ⟨o, h⟩) | h
  · exact .inl (.inl (e _ _ h))
  · exact .inl (.inr ⟨o, e _ _ h⟩)
  · exact .inr h
theorem same_new {H : Hp} {p : Addr} {o : HO} (n : H p = none) : Same H (upd H p o) := fun b u e => by
  rw [upd_ne (ne_of_none e n)]
  exact e
theorem Same.put {H H' : Hp} {p : Addr} {o : HO} (s : Same H H') (n : H p = none) : Same H (upd H' p o) := fun b u e => by
  rw [upd_ne (ne_of_none e n)]
  exact s b u e
/-- what the text finds among the module's names -/
structure Nm (mg : Str → Option Value) : Prop where
  abs : mg "abs" = none
  len : mg "len" = none
  rng : mg "range" = none
  enu : mg "enumerate" = none
  zip : mg "zip" = none
  isi : mg "isinstance" = none
  all : mg "all" = none
  srt : mg "sorted" = none
  lst : mg "list" = none
  dct : mg "dict" = none
  str : mg "str" = none
  int : mg "int" = none
  tup : mg "tuple" = none
  sum : mg "sum" = none
  min : mg "min" = none
  max : mg "max" = none
  rep : mg "repr" = none
  bool : mg "bool" = none
  any : mg "any" = none
  vE : mg "ValueError" = none
theorem take_more {α : Type} {l : List α} {i : Nat} {x : α} (h : l[i]? = some x) : l.take (i + 1) = l.take i ++ [x] := by
  rw [List.take_succ, h] <;> rfl
theorem cut_ints (ns : List Int) (lo hi : Option Int) : ∃ ms : List Int, cutV (ns.map V.int) lo hi = ms.map V.int ∧ ms.length ≤ ns.length := by
  unfold cutV
  generalize HT.sIx (ns.map V.int).length 0 lo = i
  generalize HT.sIx (ns.map V.int).length (ns.map V.int).length hi = j
  refine ⟨(ns.drop i).take (j - i), by rw [List.map_take, List.map_drop], ?_⟩
  rw [List.length_take, List.length_drop]
  omega
theorem cut_take {xs : List V} {j : Nat} (h : j ≤ xs.length) : cutV xs none (some (j : Int)) = xs.take j := by
  have e : HT.sIx xs.length xs.length (some (j : Int)) = min j xs.length := HT.sIx_nat _ _ j
  show (xs.drop 0).take (HT.sIx xs.length xs.length (some (j : Int)) - 0) = xs.take j
  rw [e, List.drop_zero, Nat.sub_zero, Nat.min_eq_left h]
theorem map_at {α : Type} {f : α → V} {cells : List α} {j : Nat} {z : α} (h : cells[j]? = some z) : (cells.map f)[j]? = some (f z) := by
  rw [List.getElem?_map, h] <;> rfl
theorem map_of {α : Type} {f : α → V} {l : List α} {j : Nat} {x : V} (h : (l.map f)[j]? = some x) : ∃ z, l[j]? = some z ∧ x = f z := by
  rw [List.getElem?_map] at h
  obtain ⟨z, hz, rfl⟩ := Option.map_eq_some_iff.mp h
  exact ⟨z, hz, rfl⟩
theorem ixN_nat {n j : Nat} (h : j < n) : ixN n (j : Int) = some j := by
  unfold ixN
  rw [if_pos (by omega), if_pos (by omega)]
  simp
theorem map_erase {α β : Type} (f : α → β) : ∀ (l : List α) (i : Nat), (l.map f).eraseIdx i = (l.eraseIdx i).map f
  | [], _ => rfl
  | _ :: _, 0 => rfl
  | a :: l, i + 1 => congrArg (List.cons (f a)) (map_erase f l i)
theorem erase_perm {α : Type} : ∀ (l : List α) (i : Nat) (h : i < l.length), (l[i] :: l.eraseIdx i).Perm l
  | [], _, h => absurd h (Nat.not_lt_zero _)
  | _ :: _, 0, _ => .refl _
  | a :: l, i + 1, h => (List.Perm.swap a _ _).trans ((erase_perm l i (Nat.lt_of_succ_lt_succ h)).cons a)
/-- how many items stand there -/
def many (H : Hp) (a : Addr) : Nat := match H a with
  | some (.lst xs) => xs.length
  | _ => 0
theorem many_at {H : Hp} {a : Addr} {xs : List V} (h : H a = some (.lst xs)) : many H a = xs.length := by
  unfold many
  rw [h]
theorem items_strs {Pz : Str → Prop} {ws : List Str} (h : ∀ z ∈ ws, Pz z) : ∀ (i : Nat) (x : V), (ws.map V.str)[i]? = some x → ∃ z, x = .str z ∧ Pz z := fun i x e => by
  obtain ⟨z, hz, rfl⟩ := map_of e
  exact ⟨z, rfl, h z (List.mem_of_getElem? hz)⟩
theorem items_ints {Pz : Int → Prop} {ws : List Int} (h : ∀ z ∈ ws, Pz z) : ∀ (i : Nat) (x : V), (ws.map V.int)[i]? = some x → ∃ z, x = .int z ∧ Pz z := fun i x e => by
  obtain ⟨z, hz, rfl⟩ := map_of e
  exact ⟨z, rfl, h z (List.mem_of_getElem? hz)⟩
theorem inV_strs (x : Str) : ∀ fs : List Str, inV (.str x) (fs.map V.str) = decide (x ∈ fs)
  | [] => rfl
  | y :: fs => by
    show (eqV (.str y) (.str x) || inV (.str x) (fs.map V.str)) = _
    rw [inV_strs x fs]
    have e : eqV (.str y) (.str x) = decide (x = y) := by
      show (y == x) = decide (x = y)
      rw [Bool.eq_iff_iff, beq_iff_eq, decide_eq_true_eq]
      exact eq_comm
    rw [e, Bool.eq_iff_iff]
    simp only [Bool.or_eq_true, decide_eq_true_eq, List.mem_cons]
theorem flat_strs : ∀ fs : List Str, (fs.map V.str).all flatV = true
  | [] => rfl
  | _ :: fs => flat_strs fs
/-! ### texts -/
/-- a name: letters, one to eight, not self -/
def NameL (z : Str) : Prop := (∀ c ∈ tl z, 97 ≤ c ∧ c ≤ 122) ∧ 1 ≤ (tl z).length ∧ (tl z).length ≤ 8 ∧ z ≠ "self"
instance (z : Str) : Decidable (NameL z) := by unfold NameL; infer_instance
theorem NameL.len {z : Str} (h : NameL z) : 1 ≤ z.length ∧ z.length ≤ 8 := by
  rw [len_tl]
  exact ⟨h.2.1, h.2.2.1⟩
theorem NameL.self {z : Str} (h : NameL z) : z ≠ "self" := h.2.2.2
theorem NameL.ne {z : Str} (h : NameL z) : z ≠ "" := fun e => by
  subst e
  have := h.2.1
  revert this
  decide +kernel
theorem strOk_name {z : Str} (h : NameL z) : PyData.strOk z = true := by
  unfold PyData.strOk
  simp only [Bool.and_eq_true, decide_eq_true_eq, Array.all_eq_true_iff_forall_mem]
  intro c hc
  have := h.1 c (Array.mem_toList_iff.mpr hc)
  omega
theorem strOk_root : PyData.strOk "" = true := by decide +kernel
/-! ### order -/
theorem rising_all : ∀ (l : List Str) (p : Str), PyProof.Rows.risingS p l = true → (∀ y ∈ l, tl p ≤ tl y) ∧ l.Pairwise (fun a b => tl a ≤ tl b)
  | [], p, _ => ⟨fun y h => (by cases h), List.Pairwise.nil⟩
  | x :: r, p, h => by
    have h' : (!PySem.Spec.ltCps x.cps.toList p.cps.toList && PyProof.Rows.risingS x r) = true := h
    rw [Bool.and_eq_true, PyProof.Rows.ltCps_eq] at h'
    obtain ⟨h1, h2⟩ := h'
    have px : tl p ≤ tl x := by
      show ¬ (tl x < tl p)
      intro z
      rw [decide_eq_true z] at h1
      cases h1
    obtain ⟨i1, i2⟩ := rising_all r x h2
    refine ⟨fun y hy => ?_, List.pairwise_cons.mpr ⟨i1, i2⟩⟩
    rcases List.mem_cons.mp hy with rfl | hy
    · exact px
    · exact List.le_trans px (i1 y hy)
theorem sorted_pw {l : List Str} (h : PyProof.Rows.sortedS l = true) : l.Pairwise (fun a b => tl a ≤ tl b) := by
  cases l with
  | nil => exact .nil
  | cons x r =>
    obtain ⟨i1, i2⟩ := rising_all r x h
    exact List.pairwise_cons.mpr ⟨i1, i2⟩
/-- one order of the same texts -/
theorem sorted_one {l m : List Str} (p : l.Perm m) (hl : PyProof.Rows.sortedS l = true) (hm : PyProof.Rows.sortedS m = true) : l = m :=
  List.Perm.eq_of_pairwise (le := fun a b => tl a ≤ tl b) (fun a b _ _ h1 h2 => ext_tl (List.le_antisymm h1 h2)) (sorted_pw hl) (sorted_pw hm) p
/-! ### comprehensions of dicts, locks -/
/-- a dict comprehension over a walk: Pv by the turn and the heap (the new dict at D within) -/
theorem dc_it {J : It} {n : Nat} {G : Hp → Prop} {Y : Nat → Hp → V → Hp → Prop} (w : Walk J n G Y) {g : TG} {tt : TT} {tk tv : TE} {vs : List Nat} {σ : St} {H1 : Hp} {D : Addr} {Qd : Hp → Prop} (Pv : Nat → Hp → Prop) (h0 : Pv 0 (upd H1 D (.dK []))) (hG : ∀ i H, i ≤ n → Pv i H → G H)
    (hs : ∀ i x H H', i < n → Pv i H → Y i H x H' → g x (wipe σ vs) H' fun σ2 H2 => wipe σ2 vs = wipe σ vs ∧ tt σ2 H2 fun b H3 =>
      if b = true then tk σ2 H3 fun y H4 => tv σ2 H4 fun z H5 => ∃ kvs k, y = kV k ∧ H5 D = some (.dK kvs) ∧ kvs.length < sizeLine ∧ Pv (i + 1) (upd H5 D (.dK (putK kvs k z))) else Pv (i + 1) H3) (hd : ∀ H, Pv n H → Qd H) :
    ∃ W : Nat → Nat → Hp → Prop, (∃ m, W 0 m (upd H1 D (.dK []))) ∧ ∀ i m H, W i m H →
      (J.stop i H ∧ Qd H) ∨ (J.go i H ∧ ∃ Nx : Hp → Prop, (∀ H', Nx H' → ∃ m', m' < m ∧ W (i + 1) m' H') ∧ ∀ x H', J.yld i H x H' → g x (wipe σ vs) H' fun σ2 H2 => wipe σ2 vs = wipe σ vs ∧ tt σ2 H2 fun b H3 =>
        if b = true then tk σ2 H3 fun y H4 => tv σ2 H4 fun z H5 => ∃ kvs k, y = kV k ∧ H5 D = some (.dK kvs) ∧ kvs.length < sizeLine ∧ Nx (upd H5 D (.dK (putK kvs k z))) else Nx H3) := by
  refine ⟨fun i m H => m = n - i ∧ i ≤ n ∧ Pv i H, ⟨n, by simp, Nat.zero_le _, h0⟩, fun i m H ⟨em, hi, p⟩ => ?_⟩
  have gh := hG i H hi p
  rcases Nat.lt_or_ge i n with lt | ge
  · exact .inr ⟨w.goes i H lt gh, Pv (i + 1), fun H' p' => ⟨n - (i + 1), by omega, rfl, lt, p'⟩, fun x H' y => hs i x H H' lt p (w.yields i H x H' lt gh y)⟩
  · have ei : i = n := by omega
    subst ei
    exact .inl ⟨w.stops H gh, hd H p⟩
theorem unlock_same {H H' : Hp} {q : Addr} {u : HO} {o : Obj} (e : H q = some u) (s : Same (upd H q (.frz o u)) H') : Same H (upd H' q u) := fun b x h => by
  by_cases z : b = q
  · subst z
    rw [upd_same]
    exact e.symm.trans h |>.symm ▸ rfl
  · rw [upd_ne z]
    exact s b x (by rw [upd_ne z]; exact h)
/-! ### dicts with text keys, by any values -/
/-- a dict of values by texts -/
def kvT (t : List (Str × V)) : List (Key × V) := t.map fun p => (Sum.inr p.1, p.2)
theorem kvT_len (t : List (Str × V)) : (kvT t).length = t.length := by unfold kvT; rw [List.length_map]
theorem kvT_app (t : List (Str × V)) (f : Str) (z : V) : kvT t ++ [(Sum.inr f, z)] = kvT (t ++ [(f, z)]) := by
  unfold kvT
  rw [List.map_append] <;> rfl
theorem kvT_any (t : List (Str × V)) (f : Str) : ((kvT t).any fun kv => decide (kv.1 = Sum.inr f)) = decide (f ∈ t.map Prod.fst) := by
  induction t with
  | nil => rfl
  | cons p t ih =>
    show (decide ((Sum.inr p.1 : Key) = Sum.inr f) || ((kvT t).any fun kv => decide (kv.1 = Sum.inr f))) = _
    rw [ih, Bool.eq_iff_iff]
    simp only [Bool.or_eq_true, decide_eq_true_eq, List.map_cons, List.mem_cons]
    constructor
    · rintro (h | h)
      · exact .inl (Sum.inr.inj h).symm
      · exact .inr h
    · rintro (h | h)
      · exact .inl (by rw [h])
      · exact .inr h
theorem kvT_put {t : List (Str × V)} {f : Str} {z : V} (n : f ∉ t.map Prod.fst) : putK (kvT t) (Sum.inr f) z = kvT (t ++ [(f, z)]) := by
  unfold putK
  rw [kvT_any, decide_eq_false n, if_neg (by decide), kvT_app]
/-- the value of a key -/
def look (t : List (Str × V)) (f : Str) : Option V := (t.find? fun p => decide (p.1 = f)).map Prod.snd
theorem look_cons (p : Str × V) (t : List (Str × V)) (f : Str) : look (p :: t) f = if p.1 = f then some p.2 else look t f := by
  unfold look
  rw [List.find?_cons]
  by_cases e : p.1 = f
  · rw [if_pos e, decide_eq_true e] <;> rfl
  · rw [if_neg e, decide_eq_false e]
theorem kvT_val : ∀ (t : List (Str × V)) (f : Str), valV (kvT t) (Sum.inr f) = look t f
  | [], f => rfl
  | p :: t, f => by
    rw [look_cons]
    by_cases e : p.1 = f
    · rw [if_pos e]
      exact valV_pos (by show (Sum.inr p.1 : Key) = Sum.inr f; rw [e])
    · rw [if_neg e]
      exact (valV_neg (p := (Sum.inr p.1, p.2)) (fun z => e (Sum.inr.inj z))).trans (kvT_val t f)
/-- a key's value, written anew -/
def putT (t : List (Str × V)) (f : Str) (z : V) : List (Str × V) := if f ∈ t.map Prod.fst then t.map fun p => if p.1 = f then (p.1, z) else p else t ++ [(f, z)]
theorem kvT_putT (t : List (Str × V)) (f : Str) (z : V) : putK (kvT t) (Sum.inr f) z = kvT (putT t f z) := by
  by_cases h : f ∈ t.map Prod.fst
  · unfold putK putT
    rw [kvT_any, decide_eq_true h, if_pos rfl, if_pos h]
    unfold kvT
    rw [List.map_map, List.map_map]
    refine List.map_congr_left fun p _ => ?_
    show (if (Sum.inr p.1 : Key) = Sum.inr f then ((Sum.inr p.1 : Key), z) else (Sum.inr p.1, p.2)) = (Sum.inr (if p.1 = f then (p.1, z) else p).1, (if p.1 = f then (p.1, z) else p).2)
    by_cases e : p.1 = f
    · rw [if_pos e, if_pos (by rw [e])]
    · rw [if_neg e, if_neg fun q => e (Sum.inr.inj q)]
  · rw [kvT_put h]
    unfold putT
    rw [if_neg h]
end FT


/-! forests as pairs of a flag and its parent, in any order. -/
namespace FT
open PySem L2 TL
/-- a dict of texts by texts -/
def prs (t : List (Str × Str)) : List (Key × V) := kvT (t.map fun p => (p.1, V.str p.2))
theorem prs_len (t : List (Str × Str)) : (prs t).length = t.length := by unfold prs; rw [kvT_len, List.length_map]
theorem prs_fst (t : List (Str × Str)) : (t.map fun p => (p.1, V.str p.2)).map Prod.fst = t.map Prod.fst := by rw [List.map_map] <;> rfl
theorem prs_keys (t : List (Str × Str)) : (prs t).map (·.1) = (t.map Prod.fst).map Sum.inr := by unfold prs kvT; rw [List.map_map, List.map_map, List.map_map] <;> rfl
theorem keys_prs (t : List (Str × Str)) : ((prs t).map fun kv => kV kv.1) = (t.map Prod.fst).map V.str := by
  unfold prs kvT
  rw [List.map_map, List.map_map, List.map_map] <;> rfl
theorem put_new {t : List (Str × Str)} {f z : Str} (n : f ∉ t.map Prod.fst) : putK (prs t) (Sum.inr f) (V.str z) = prs (t ++ [(f, z)]) := by
  unfold prs
  rw [kvT_put (by rw [prs_fst]; exact n), List.map_append] <;> rfl
/-- the parent of a flag -/
def par (t : List (Str × Str)) (a : Str) : Option Str := (t.find? fun p => decide (p.1 = a)).map Prod.snd
theorem par_cons (p : Str × Str) (t : List (Str × Str)) (a : Str) : par (p :: t) a = if p.1 = a then some p.2 else par t a := by
  unfold par
  rw [List.find?_cons]
  by_cases e : p.1 = a
  · rw [if_pos e, decide_eq_true e] <;> rfl
  · rw [if_neg e, decide_eq_false e]
theorem val_prs (a : Str) : ∀ t : List (Str × Str), valV (prs t) (Sum.inr a) = (par t a).map V.str
  | [] => rfl
  | p :: t => by
    have ih := val_prs a t
    unfold prs at ih ⊢
    rw [List.map_cons, kvT_val, look_cons, par_cons]
    rw [kvT_val] at ih
    by_cases e : p.1 = a
    · rw [if_pos e, if_pos e] <;> rfl
    · rw [if_neg e, if_neg e, ih]
theorem par_mem {t : List (Str × Str)} {a z : Str} (h : par t a = some z) : (a, z) ∈ t := by
  induction t with
  | nil => cases h
  | cons p t ih =>
    rw [par_cons] at h
    by_cases e : p.1 = a
    · rw [if_pos e] at h
      cases h
      exact List.mem_cons.mpr (.inl (by rw [← e]))
    · rw [if_neg e] at h
      exact List.mem_cons_of_mem _ (ih h)
theorem par_of {t : List (Str × Str)} {a z : Str} (nd : (t.map Prod.fst).Nodup) (h : (a, z) ∈ t) : par t a = some z := by
  induction t with
  | nil => cases h
  | cons p t ih =>
    obtain ⟨n1, n2⟩ := List.nodup_cons.mp nd
    rw [par_cons]
    rcases List.mem_cons.mp h with e | h
    · subst e
      exact if_pos rfl
    · rw [if_neg fun e => n1 (by rw [e]; exact List.mem_map.mpr ⟨_, h, rfl⟩)]
      exact ih n2 h
theorem par_none {t : List (Str × Str)} {a : Str} (n : a ∉ t.map Prod.fst) : par t a = none := by
  cases e : par t a with
  | none => rfl
  | some z => exact absurd (List.mem_map.mpr ⟨_, par_mem e, rfl⟩) n
theorem par_some {t : List (Str × Str)} {a : Str} (nd : (t.map Prod.fst).Nodup) (h : a ∈ t.map Prod.fst) : ∃ z, par t a = some z := by
  obtain ⟨p, hp, rfl⟩ := List.mem_map.mp h
  exact ⟨p.2, par_of nd hp⟩
/-- each parent has a lower rank -/
def Rk (t : List (Str × Str)) (rk : Str → Nat) : Prop := ∀ p ∈ t, rk p.1 < t.length ∧ (p.2 = "" ∨ (p.2 ∈ t.map Prod.fst ∧ rk p.2 < rk p.1))
/-- a forest of one to twelve flags -/
structure TreeOk (t : List (Str × Str)) : Prop where
  one : 1 ≤ t.length
  few : t.length ≤ 12
  nd : (t.map Prod.fst).Nodup
  nm : ∀ z ∈ t.map Prod.fst, NameL z
  up : ∃ rk : Str → Nat, Rk t rk
theorem TreeOk.perm {t u : List (Str × Str)} (p : t.Perm u) (o : TreeOk t) : TreeOk u := by
  obtain ⟨rk, hr⟩ := o.up
  have l := p.length_eq
  refine ⟨by have := o.one; omega, by have := o.few; omega, (p.map _).nodup_iff.mp o.nd, fun z h => o.nm z ((p.map _).mem_iff.mpr h), rk, fun q hq => ?_⟩
  obtain ⟨h1, h2⟩ := hr q (p.mem_iff.mpr hq)
  exact ⟨by omega, h2.imp id fun h => ⟨(p.map _).mem_iff.mp h.1, h.2⟩⟩
theorem TreeOk.root {t : List (Str × Str)} (o : TreeOk t) : ("" : Str) ∉ t.map Prod.fst := fun h => (o.nm _ h).ne rfl
/-- the step up -/
theorem TreeOk.step {t : List (Str × Str)} (o : TreeOk t) {rk : Str → Nat} (r : Rk t rk) {a : Str} (h : a ∈ t.map Prod.fst) : ∃ p : Str, par t a = some p ∧ (p = "" ∨ (p ∈ t.map Prod.fst ∧ rk p < rk a)) ∧ rk a < t.length := by
  obtain ⟨z, hz⟩ := par_some o.nd h
  obtain ⟨h1, h2⟩ := r _ (par_mem hz)
  exact ⟨z, hz, h2, h1⟩
/-! ### paths -/
/-- the flags from the top down to a place; n bounds the steps -/
def upN (t : List (Str × Str)) : Nat → Str → List Str
  | 0, _ => []
  | n + 1, a => if a = "" then [] else upN t n ((par t a).getD "") ++ [a]
def pathOf (t : List (Str × Str)) (a : Str) : List Str := upN t t.length a
/-- a place: the root or a flag -/
def Pl (t : List (Str × Str)) (a : Str) : Prop := a = "" ∨ a ∈ t.map Prod.fst
theorem upN_root (t : List (Str × Str)) (n : Nat) : upN t n "" = [] := by
  cases n with
  | zero => rfl
  | succ n => exact if_pos rfl
theorem upN_eq {t : List (Str × Str)} (o : TreeOk t) {rk : Str → Nat} (r : Rk t rk) : ∀ (n m : Nat) (a : Str), Pl t a → (a ≠ "" → rk a < n) → (a ≠ "" → rk a < m) → upN t n a = upN t m a := by
  intro n
  induction n with
  | zero =>
    intro m a hp h1 h2
    by_cases e : a = ""
    · subst e
      rw [upN_root, upN_root]
    · exact absurd (h1 e) (Nat.not_lt_zero _)
  | succ n ih =>
    intro m a hp h1 h2
    by_cases e : a = ""
    · subst e
      rw [upN_root, upN_root]
    · cases m with
      | zero => exact absurd (h2 e) (Nat.not_lt_zero _)
      | succ m =>
        obtain ⟨p, ep, hp2, _⟩ := o.step r (hp.resolve_left e)
        have q1 := h1 e
        have q2 := h2 e
        show (if a = "" then [] else upN t n ((par t a).getD "") ++ [a]) = if a = "" then [] else upN t m ((par t a).getD "") ++ [a]
        rw [if_neg e, if_neg e, ep]
        show upN t n p ++ [a] = upN t m p ++ [a]
        rw [ih m p (hp2.imp id And.left) (fun z => by have := (hp2.resolve_left z).2; omega) (fun z => by have := (hp2.resolve_left z).2; omega)]
theorem path_root (t : List (Str × Str)) : pathOf t "" = [] := upN_root _ _
theorem path_step {t : List (Str × Str)} (o : TreeOk t) {a p : Str} (h : a ∈ t.map Prod.fst) (e : par t a = some p) : pathOf t a = pathOf t p ++ [a] := by
  obtain ⟨rk, r⟩ := o.up
  have ne : a ≠ "" := fun z => o.root (by rw [← z]; exact h)
  obtain ⟨p', e', hp, la⟩ := o.step r h
  cases e.symm.trans e'
  have lt := o.one
  obtain ⟨n, hn⟩ : ∃ n, t.length = n + 1 := ⟨t.length - 1, by omega⟩
  unfold pathOf
  rw [hn]
  show (if a = "" then [] else upN t n ((par t a).getD "") ++ [a]) = _
  rw [if_neg ne, e]
  show upN t n p ++ [a] = _
  rw [upN_eq o r n (n + 1) p (hp.imp id And.left) (fun z => by have := (hp.resolve_left z).2; omega) (fun z => by have := (hp.resolve_left z).2; omega)]
theorem upN_len (t : List (Str × Str)) : ∀ (n : Nat) (a : Str), (upN t n a).length ≤ n
  | 0, _ => Nat.le_refl _
  | n + 1, a => by
    show (if a = "" then [] else upN t n ((par t a).getD "") ++ [a]).length ≤ n + 1
    by_cases e : a = ""
    · rw [if_pos e]
      exact Nat.zero_le _
    · rw [if_neg e, List.length_append]
      have := upN_len t n ((par t a).getD "")
      show _ + 1 ≤ n + 1
      omega
theorem path_len (t : List (Str × Str)) (a : Str) : (pathOf t a).length ≤ t.length := upN_len _ _ _
/-! ### sums over children -/
/-- the sum of sizes of the children of a place -/
def kids (t : List (Str × Str)) (p : Str) : List Str := (t.filter fun q => decide (q.2 = p)).map Prod.fst
def resid (t : List (Str × Str)) (n : Int) (sz : Str → Int) (p : Str) : Int := (if p = "" then n else sz p) - ((kids t p).map sz).sum
theorem kids_snoc (t : List (Str × Str)) (q : Str × Str) (p : Str) : kids (t ++ [q]) p = kids t p ++ (if q.2 = p then [q.1] else []) := by
  unfold kids
  rw [List.filter_append, List.map_append]
  by_cases e : q.2 = p
  · rw [if_pos e, List.filter_cons, decide_eq_true e, List.filter_nil] <;> rfl
  · rw [if_neg e, List.filter_cons, decide_eq_false e, List.filter_nil] <;> rfl
theorem kids_perm {t u : List (Str × Str)} (h : t.Perm u) (p : Str) : (kids t p).Perm (kids u p) := (h.filter _).map _
theorem sum_perm {l m : List Int} (h : l.Perm m) : l.sum = m.sum := by
  induction h with
  | nil => rfl
  | cons x _ ih => rw [List.sum_cons, List.sum_cons, ih]
  | swap x y l => rw [List.sum_cons, List.sum_cons, List.sum_cons, List.sum_cons]; omega
  | trans _ _ a b => rw [a, b]
theorem resid_perm {t u : List (Str × Str)} (h : t.Perm u) (n : Int) (sz : Str → Int) (p : Str) : resid t n sz p = resid u n sz p := by
  unfold resid
  rw [sum_perm ((kids_perm h p).map sz)]
theorem resid_snoc (t : List (Str × Str)) (q : Str × Str) (n : Int) (sz : Str → Int) (p : Str) : resid (t ++ [q]) n sz p = if q.2 = p then resid t n sz p - sz q.1 else resid t n sz p := by
  unfold resid
  rw [kids_snoc]
  by_cases e : q.2 = p
  · rw [if_pos e, if_pos e, List.map_append, List.sum_append]
    show _ - (_ + (sz q.1 + 0)) = _
    omega
  · rw [if_neg e, if_neg e, List.append_nil]
end FT


namespace FT
open PySem L2 TL ClX
def letters : Str := "abcdefghijklmnopqrstuvwxyz"
theorem in_letters {c : Nat} (h0 : 97 ≤ c) (h1 : c ≤ 122) : c ∈ letters.cps.toList := by
  have all : ∀ i : Fin 26, (97 + i.1) ∈ letters.cps.toList := by decide +kernel
  have q := all ⟨c - 97, by omega⟩
  rw [show 97 + (⟨c - 97, by omega⟩ : Fin 26).1 = c by show 97 + (c - 97) = c; omega] at q
  exact q
/-- the module's own constants -/
structure Cs (mg : Str → Option Value) : Prop where
  long : ∃ t, mg "LONGEST" = some (.int 8 t)
  lett : ∃ t, mg "LETTERS" = some (.str letters t)
/-- the class Forest: its two constants -/
structure Fc (K : PySem.W.Frag) (mg : Str → Option Value) (CF : Addr) (mc : Value) : Prop where
  gF : mg "Forest" = some (.ref CF)
  rd : CRead K CF mc
  most : ∃ u, CVal K CF mc "MOST" (.int 12) u
  root : ∃ u, CVal K CF mc "ROOT" (.str "") u
/-- one of the text's defs, called by place -/
structure Dn (P : Program) (w : World) (K : PySem.W.Frag) (mg : Str → Option Value) (base : Heap) (CX : CXT) (k : Nat) (x : Str) (ps : List Str) (sp : Sp) (f : Addr) (fd : FuncData) : Prop where
  ok : FnOk P w K mg base CX k f fd ps sp
  kp : PySem.W.keepIn K (.ref f) = true
  bn : Binds K fd ps []
  mgn : mg x = some (.ref f)
def spIsName : Sp := fun vs H Q _ => ∃ z : Str, vs = [.str z] ∧ NameL z ∧ ∀ H', Same H H' → Q (.bl true) H'
def spIsAnc : Sp := fun vs H Q _ => ∃ (q : Addr) (f : Str) (t : List (Str × Str)), vs = [.ref q, .str f] ∧ H q = some (.dK (prs t)) ∧ TreeOk t ∧ f ∈ t.map Prod.fst ∧ ∀ H', Same H H' → Q (.bl false) H'
def spNeed : Sp := fun vs H Q _ => ∃ (q : Addr) (t : List (Str × Str)), vs = [.ref q] ∧ H q = some (.dK (prs t)) ∧ TreeOk t ∧ ∀ H', Same H H' → Q .non H'
section
variable {P : Program} {w : World} {K : PySem.W.Frag} {mg : Str → Option Value} {base : Heap}
theorem scIsName : FnScope ["value", "letter"] ["value"] (defScope s_is_name) := ⟨rfl, rfl, rfl, by decide +kernel, rfl, by decide +kernel, by decide +kernel⟩
theorem ok_isName {f : Addr} {fd : FuncData} (F : Fun K "is_name" "is_name" s_is_name f fd) (T : Nm mg) (C : Cs mg) : FnOk P w K mg base CX0 1 f fd ["value"] spIsName := by
  obtain ⟨t1, g1⟩ := C.long
  obtain ⟨t2, g2⟩ := C.lett
  refine F.ok scIsName (fun vs H Q E h => ?_) (fun cdv A outer s H vs Q E hr h => ?_)
  · obtain ⟨z, rfl, _⟩ := h
    rfl
  · obtain ⟨z, rfl, nm, k⟩ := h
    refine ⟨_, pss_cons (ps_if (PW.pt (pw_or (pt_not (pt_val (pe_callB call_isi (by rfl) T.isi (by decide +kernel) (pa_cons (pv 0) (pa_cons (pe_bltn (v := .ty "str") (u := .type "str") (by rfl) T.str (by decide +kernel) rfl) pa_nil)))))
        (pw_or (pt_not (pt_chain op_le op_le pe_int (pe_callB call_len_str (by rfl) T.len PySem.boot_len (pa_cons (pv 0) pa_nil)) (pe_glob (v := .int 8) (by rfl) g1 ⟨_, rfl⟩))) (pw_or1 (pt_cmpR op_eq (pv 0) pe_str (nomark _))))))
        (pss_one (ps_ret pe_bl)) pss_nil)
      (pss_one (ps_ret (pe_callB (cr_all rfl) (by rfl) T.all (by decide +kernel) (pa_cons (pe_lc (own := [("letter", 1)]) (g := gName 1) (tt := tYes) (te := tOp (fun x y H Q => ∃ (c : Nat) (z : Str), x = .str ⟨#[c]⟩ ∧ y = .str z ∧ Q (.bl (decide (c ∈ z.cps.toList))) H) (tVar 1) (tC (.str letters))) rfl scIsName.nd (pi_str (pv 0))
        (blkOk_by (N := ["value", "letter"]) (sc := defScope s_is_name) (by decide +kernel))
        (fun _ _ _ _ _ => pg_name (i := 1) scIsName.nd rfl (Or.inl rfl)) (fun _ _ _ _ _ => pts_nil) (fun _ _ _ _ _ => pe_cmpR op_in_sign (pv 1) (pe_glob (v := .str letters) (by rfl) g2 ⟨_, rfl⟩) rfl)) pa_nil)))), ?_⟩
    have l := nm.len
    have big : 1000 ≤ sizeLine := by decide
    refine ⟨_, rfl, .str z, _, _, _, true, rfl, .ty _, .base (.str z), kit_ty (by decide +kernel), true, rfl, ?_⟩
    refine iteF ?_
    refine ⟨_, rfl, z, rfl, by omega, _, _, rfl, rfl, _, rfl, ?_⟩
    rw [if_pos (decide_eq_true (by omega))]
    refine ⟨_, _, rfl, rfl, _, rfl, ?_⟩
    rw [decide_eq_true (show (z.length : Int) ≤ 8 by omega)]
    refine iteF ?_
    refine ⟨_, rfl, rfl, _, rfl, ?_⟩
    rw [decide_eq_false (show ¬ V.str z = V.str "self" from fun e => nm.self (V.str.inj e))]
    refine iteF ?_
    refine ⟨_, rfl, z, rfl, fun D nD => lc_it walk_str (fun i H' => Same H H' ∧ H' D = some (.lst ((List.replicate i true).map V.bl))) ⟨same_new nD, upd_same⟩ (fun _ _ _ _ => trivial) ?_ ?_⟩
    · intro i x Ha Hb hi ⟨q1, q2⟩ ⟨e, ch, hc, ex⟩
      subst e
      subst ex
      have hm : ch ∈ letters.cps.toList := by
        have hz : ch ∈ tl z := by
          rw [← Array.getElem?_toList] at hc
          exact List.mem_of_getElem? hc
        exact in_letters (nm.1 ch hz).1 (nm.1 ch hz).2
      refine ⟨rfl, ?_⟩
      refine ⟨_, rfl, ch, letters, rfl, rfl, _, q2, ?_, ?_, ?_⟩
      · rw [List.length_map, List.length_replicate]
        have : z.cps.size = z.length := rfl
        omega
      · exact Same.put q1 nD
      · rw [upd_same, decide_eq_true hm, List.replicate_succ', List.map_append] <;> rfl
    · intro H' ⟨q1, q2⟩
      refine ⟨D, _, rfl, SqL.of q2, ?_⟩
      have e : (List.replicate z.cps.size true).all id = true := by simp
      rw [e]
      exact k H' q1
def rankS (t : List (Str × Str)) (rk : Str → Nat) (σ : St) : Nat := match σ[3]? with
  | some (some (V.str a)) => if a ∈ t.map Prod.fst then rk a + 1 else 0
  | _ => 0
theorem scIsAnc : FnScope ["parents", "name", "seen", "above"] ["parents", "name"] (defScope s_is_ancestor) := ⟨rfl, rfl, rfl, by decide +kernel, rfl, by decide +kernel, by decide +kernel⟩
theorem ok_isAnc {f : Addr} {fd : FuncData} (F : Fun K "is_ancestor" "is_ancestor" s_is_ancestor f fd) : FnOk P w K mg base CX0 1 f fd ["parents", "name"] spIsAnc := by
  refine F.ok scIsAnc (fun vs H Q E h => ?_) (fun cdv A outer s H vs Q E hr h => ?_)
  · obtain ⟨q, g, t, rfl, _⟩ := h
    rfl
  · obtain ⟨q, g, t, rfl, hq, o, hg, k⟩ := h
    have hu := hu_of hr
    obtain ⟨rk, r⟩ := o.up
    refine ⟨_, pss_cons (ps_set (i := 2) scIsAnc.nd rfl (.inl rfl) (pe_lst pa_nil))
      (pss_cons (ps_set (i := 3) scIsAnc.nd rfl (.inl rfl) (pe_dget hu (pv 0) (pv 1) (fun _ _ => rfl)))
      (pss_cons (ps_while PassesOwn.never (PW.pt (pw_and (pt_cmp (pc_din hu (pv 3) (pv 0))) (pw_and1 (pt_cmpR op_notIn_seq (pv 3) (pv 2) rfl))))
        (pss_cons (ps_if (pt_cmpR op_eq (pv 3) (pv 1) (nomark _)) (pss_one (ps_ret pe_bl)) pss_nil)
        (pss_cons (ps_expr (pe_bm PySem.F.plainAttrs_list PySem.F.slot_list_append PySem.F.type_list_append mt_append (pv 2) (pa_cons (pv 3) pa_nil)))
        (pss_one (ps_set (i := 3) scIsAnc.nd rfl (.inl rfl) (pe_dget hu (pv 0) (pv 3) (fun _ _ => rfl)))))))
      (pss_one (ps_ret pe_bl)))), ?_⟩
    obtain ⟨p0, v0, w0, i0⟩ := o.step r hg
    have few := o.few
    have big : 1000 ≤ sizeLine := by decide
    refine ⟨by show 0 ≤ sizeLine; omega, fun l nl => ?_⟩
    have hq1 : (upd H l (.lst [])) q = some (.dK (prs t)) := by rw [upd_ne (ne_of_none hq nl)]; exact hq
    have ql : q ≠ l := ne_of_none hq nl
    refine ⟨_, rfl, _, rfl, q, V.str p0, rfl, by have z := DGet.k (k := Sum.inr g) hq1; rw [val_prs, v0] at z; exact z, ?_⟩
    refine while_by (fun σ H' => ∃ (a : Str) (ws : List Str), σ = [some (.ref q), some (.str g), some (.ref l), some (.str a)] ∧ H' l = some (.lst (ws.map V.str)) ∧ (∀ b u, H b = some u → H' b = some u) ∧ (a = "" ∨ (a ∈ t.map Prod.fst ∧ rk a < rk g ∧ ws.length + rk a < t.length)))
      (fun σ _ => rankS t rk σ) ⟨p0, [], rfl, upd_same, same_new nl, w0.imp id fun z => ⟨z.1, z.2, by simp only [List.length_nil]; omega⟩⟩ ?_ ?_
    · rintro σ Hx ⟨a, ws, rfl, hl, sm, ha⟩
      have hqx := sm _ _ hq
      have dg := DGet.k (k := Sum.inr a) hqx
      rw [val_prs] at dg
      refine ⟨_, rfl, _, rfl, q, _, rfl, dg, _, rfl, ?_⟩
      rcases ha with rfl | ⟨ha, ia, la⟩
      · rw [par_none o.root]
        refine iteF ?_
        exact iteF (k Hx sm)
      · obtain ⟨p, hv, hp, il⟩ := o.step r ha
        rw [hv]
        show if true = true then _ else _
        rw [if_pos rfl]
        refine ⟨_, rfl, _, rfl, l, _, rfl, .inl (SqL.of hl), rfl, flat_strs ws, _, rfl, ?_⟩
        rw [inV_strs]
        by_cases hw : a ∈ ws
        · rw [decide_eq_true hw]
          exact iteF (k Hx sm)
        · rw [decide_eq_false hw]
          show if true = true then _ else _
          rw [if_pos rfl]
          refine ⟨_, rfl, _, rfl, rfl, _, rfl, ?_⟩
          rw [decide_eq_false (show ¬ V.str a = V.str g from fun e => by
            have := V.str.inj e
            subst this
            omega)]
          refine iteF ?_
          refine ⟨_, rfl, .inl ⟨rfl, _, SqL.of hl⟩, _, rfl, l, _, _, rfl, rfl, hl, by rw [List.length_map]; omega, ?_⟩
          have hq2 : (upd Hx l (.lst (ws.map V.str ++ [.str a]))) q = some (.dK (prs t)) := by rw [upd_ne ql]; exact hqx
          refine ⟨_, rfl, _, rfl, q, V.str p, rfl, by have z := DGet.k (k := Sum.inr a) hq2; rw [val_prs, hv] at z; exact z, ?_⟩
          refine ⟨⟨p, ws ++ [a], rfl, by rw [upd_same, List.map_append] <;> rfl, fun b u e => ?_, ?_⟩, ?_⟩
          · rw [upd_ne (ne_of_none e nl)]
            exact sm b u e
          · rcases hp with rfl | ⟨hp, ip⟩
            · exact .inl rfl
            · refine .inr ⟨hp, by omega, ?_⟩
              rw [List.length_append]
              show ws.length + 1 + rk p < t.length
              omega
          · show rankS t rk [some (.ref q), some (.str g), some (.ref l), some (.str p)] < rankS t rk [some (.ref q), some (.str g), some (.ref l), some (.str a)]
            have e1 : rankS t rk [some (.ref q), some (.str g), some (.ref l), some (.str a)] = rk a + 1 := if_pos ha
            rw [e1]
            rcases hp with rfl | ⟨hp, ip⟩
            · have e2 : rankS t rk [some (.ref q), some (.str g), some (.ref l), some (.str "")] = 0 := if_neg o.root
              rw [e2]
              omega
            · have e2 : rankS t rk [some (.ref q), some (.str g), some (.ref l), some (.str p)] = rk p + 1 := if_pos hp
              rw [e2]
              omega
    · intro σ Hx Qa Qb h
      rintro ⟨v, e1, w, e2, a, r, e3, g, d, e4, z⟩
      refine ⟨v, e1, w, e2, a, r, e3, g, d, e4, ?_⟩
      cases d with
      | false =>
        rw [if_neg (by decide)] at z ⊢
        exact h _ _ z
      | true =>
        rw [if_pos rfl] at z ⊢
        obtain ⟨v, e1, w, e2, p, xs, e3, e4, e5, e6, b, e7, z⟩ := z
        exact ⟨v, e1, w, e2, p, xs, e3, e4, e5, e6, b, e7, h _ _ z⟩
theorem scNeed : FnScope ["parents", "name", "above", "other"] ["parents"] (defScope s_need_parents) := ⟨rfl, rfl, rfl, by decide +kernel, rfl, by decide +kernel, by decide +kernel⟩
theorem ok_need {f fI fA CF : Addr} {mc : Value} {fd fdI fdA : FuncData} (F : Fun K "need_parents" "need_parents" s_need_parents f fd) (T : Nm mg) (C : Cs mg) (Z : Fc K mg CF mc)
    (FI : Dn P w K mg base CX0 1 "is_name" ["value"] spIsName fI fdI) (FA : Dn P w K mg base CX0 1 "is_ancestor" ["parents", "name"] spIsAnc fA fdA) : FnOk P w K mg base CX0 2 f fd ["parents"] spNeed := by
  obtain ⟨um, cm⟩ := Z.most
  obtain ⟨ur, cr⟩ := Z.root
  refine F.ok scNeed (fun vs H Q E h => ?_) (fun cdv A outer s H vs Q E hr h => ?_)
  · obtain ⟨q, t, rfl, _⟩ := h
    rfl
  · obtain ⟨q, t, rfl, hq, o, k⟩ := h
    have hu := hu_of hr
    obtain ⟨rk, r⟩ := o.up
    refine ⟨_, pss_cons (ps_if (PW.pt (pw_or (pt_not (pt_val (pe_callB call_isi (by rfl) T.isi (by decide +kernel) (pa_cons (pv 0) (pa_cons (pe_bltn (v := .ty "dict") (u := .type "dict") (by rfl) T.dct (by decide +kernel) rfl) pa_nil)))))
        (pw_or1 (pt_not (pt_chain op_le op_le pe_int (pe_callB call_lenD (by rfl) T.len PySem.boot_len (pa_cons (pv 0) pa_nil)) (pe_cval (pe_glob (v := .ref CF) (by rfl) Z.gF rfl))))))) pss_never pss_nil)
      (pss_cons (ps_if (pt_not (pt_val (pe_callB (cr_all rfl) (by rfl) T.all (by decide +kernel) (pa_cons (pe_lock (pe_lc (own := [("name", 1)]) (g := gName 1) (tt := tYes) rfl scNeed.nd (pi_keys (pv 0))
        (blkOk_by (N := ["parents", "name", "above", "other"]) (sc := defScope s_need_parents) (by decide +kernel))
        (fun _ _ _ _ _ => pg_name (i := 1) scNeed.nd rfl (Or.inl rfl)) (fun _ _ _ _ _ => pts_nil) (fun _ _ _ _ _ => pe_call FI.ok hr rfl FI.mgn FI.kp FI.bn .nil pass0 (pa_cons (pv 1) pa_nil)))) pa_nil)))) pss_never pss_nil)
      (pss_one (ps_for PassesOwn.never rfl (pi_list (pe_callB (call_sortedD rfl) (by rfl) T.srt (by decide +kernel) (pa_cons (pv 0) pa_nil))) (pg_name (i := 1) scNeed.nd rfl (.inl rfl))
        (pss_cons (ps_set (i := 2) scNeed.nd rfl (.inl rfl) (pe_dget hu (pv 0) (pv 1) (fun _ _ => rfl)))
        (pss_cons (ps_if (PW.pt (pw_or (pt_not (pt_val (pe_callB call_isi (by rfl) T.isi (by decide +kernel) (pa_cons (pv 2) (pa_cons (pe_bltn (v := .ty "str") (u := .type "str") (by rfl) T.str (by decide +kernel) rfl) pa_nil)))))
          (pw_or1 (PW.pt (pw_and (pt_cmpR op_ne (pv 2) (pe_cval (pe_glob (v := .ref CF) (by rfl) Z.gF rfl)) (nomark _)) (pw_and1 (pt_cmp (pc_dnotin hu (pv 2) (pv 0))))))))) pss_never pss_nil)
        (pss_one (ps_if (pt_val (pe_call FA.ok hr rfl FA.mgn FA.kp FA.bn .nil pass0 (pa_cons (pe_lock (pe_dc (own := [("other", 3)]) (g := gName 3) (tt := tB (tCB (rIsi K) (tCons (tDGet (tVar 0) (tVar 3)) (tCons (tC (.ty "str")) tNil)))) rfl scNeed.nd (pi_keys (pv 0))
          (blkOk_by (N := ["parents", "name", "above", "other"]) (sc := defScope s_need_parents) (by decide +kernel))
          (fun _ _ _ _ _ => pg_name (i := 3) scNeed.nd rfl (Or.inl rfl)) (fun _ _ _ _ _ => pts_one (pt_val (pe_callB call_isi (by rfl) T.isi (by decide +kernel) (pa_cons (pe_dget hu (pv 0) (pv 3) (fun _ _ => rfl)) (pa_cons (pe_bltn (v := .ty "str") (u := .type "str") (by rfl) T.str (by decide +kernel) rfl) pa_nil)))))
          (fun _ _ _ _ _ => pv 3) (fun _ _ _ _ _ => pe_dget hu (pv 0) (pv 3) (fun _ _ => rfl)))) (pa_cons (pv 1) pa_nil)))) pss_never pss_nil))))))), ?_⟩
    have few := o.few
    have one := o.one
    have big : 1000 ≤ sizeLine := by decide
    have lp := prs_len t
    -- a dict, of one to twelve
    refine ⟨_, rfl, .ref q, _, _, _, true, rfl, .ty _, .base (.dK hq), kit_ty (by decide +kernel), true, rfl, ?_⟩
    refine iteF ?_
    refine ⟨_, rfl, q, _, rfl, hq, _, _, rfl, rfl, _, rfl, ?_⟩
    rw [if_pos (decide_eq_true (by omega))]
    refine ⟨CF, mc, _, um, rfl, Z.rd, cm, _, _, rfl, rfl, _, rfl, ?_⟩
    rw [decide_eq_true (show ((prs t).length : Int) ≤ 12 by omega)]
    refine iteF ?_
    -- all are names
    refine ⟨q, .dK (prs t), hq, trivial, fun od => ⟨_, rfl, q, od, rfl, .inl ⟨prs t, upd_same, fun D nD => ?_⟩⟩⟩
    have Dq : D ≠ q := (ne_of_none upd_same nD).symm
    have key : ∀ {i : Nat} {k : Key} {v : V}, (prs t)[i]? = some (k, v) → ∃ a p : Str, k = Sum.inr a ∧ v = .str p ∧ t[i]? = some (a, p) := fun {i k v} h => by
      unfold prs kvT at h
      rw [List.map_map, List.getElem?_map] at h
      obtain ⟨⟨a, p⟩, hp, e⟩ := Option.map_eq_some_iff.mp h
      cases e
      exact ⟨a, p, rfl, rfl, hp⟩
    refine lc_it walk_keys (fun i H' => Same (upd H q (.frz od (.dK (prs t)))) H' ∧ H' D = some (.lst ((List.replicate i true).map V.bl))) ⟨same_new nD, upd_same⟩ (fun i H' _ z => z.1 q _ upd_same) ?_ ?_
    · intro i x Ha Hb hi ⟨q1, q2⟩ ⟨e, k', v, hk, ex⟩
      subst e
      subst ex
      obtain ⟨a, p, rfl, rfl, hp⟩ := key hk
      refine ⟨rfl, ?_⟩
      refine ⟨_, rfl, a, rfl, o.nm a (List.mem_map.mpr ⟨(a, p), List.mem_of_getElem? hp, rfl⟩), fun H' s' => ⟨_, s' D _ q2, ?_, ?_, ?_⟩⟩
      · rw [List.length_map, List.length_replicate]
        omega
      · intro b u e
        rw [upd_ne (ne_of_none e nD)]
        exact s' _ _ (q1 b u e)
      · rw [upd_same, List.replicate_succ', List.map_append] <;> rfl
    intro H1 ⟨q1, q2⟩
    refine ⟨q1 q _ upd_same, D, _, rfl, SqL.of (by rw [upd_ne Dq]; exact q2), true, by rw [show (List.replicate (prs t).length true).all id = true by simp], ?_⟩
    refine iteF ?_
    have s1 : Same H (upd H1 q (.dK (prs t))) := unlock_same hq q1
    -- one by one, in their order
    refine ⟨_, rfl, q, prs t, t.map Prod.fst, rfl, .inl upd_same, prs_keys t, by rw [List.length_map]; omega, fun ys p perm srt np => ⟨p, rfl, ⟨_, SqL.of upd_same⟩, ?_⟩⟩
    obtain ⟨H2, e2⟩ : ∃ X, X = upd (upd H1 q (.dK (prs t))) p (.lst (ys.map V.str)) := ⟨_, rfl⟩
    have s2 : Same H H2 := s1.trans (e2 ▸ same_new np)
    have at2 : H2 p = some (.lst (ys.map V.str)) := by rw [e2]; exact upd_same
    rw [← e2]
    refine for_it walk_list (fun j σ' H' => (∃ u1 u2 u3, σ' = [some (.ref q), u1, u2, u3]) ∧ Same H2 H') ⟨⟨_, _, _, rfl⟩, fun _ _ e => e⟩ (fun j σ' H' _ z => SqL.of (z.2 _ _ at2)) ?_ ?_
    · intro j x σ' Ha Hb hj ⟨⟨u1, u2, u3, e⟩, sa⟩ ⟨eb, ex⟩
      subst e
      subst eb
      rw [List.getElem?_map] at ex
      obtain ⟨a, ha, rfl⟩ := Option.map_eq_some_iff.mp ex
      have ma : a ∈ t.map Prod.fst := perm.mem_iff.mp (List.mem_of_getElem? ha)
      obtain ⟨pa, hv, hpa, ia⟩ := o.step r ma
      have s0a : Same H Hb := s2.trans sa
      have hqa := s0a _ _ hq
      refine ⟨_, rfl, _, rfl, q, V.str pa, rfl, by have z := DGet.k (k := Sum.inr a) hqa; rw [val_prs, hv] at z; exact z, ?_⟩
      refine ⟨_, rfl, .str pa, _, _, _, true, rfl, .ty _, .base (.str pa), kit_ty (by decide +kernel), true, rfl, ?_⟩
      refine iteF ?_
      have anc : tIfS (tB (tCall spIsAnc [] E0 (tCons (tLockE (tDc (iKeys (tVar 0)) (gName 3) (tB (tCB (rIsi K) (tCons (tDGet (tVar 0) (tVar 3)) (tCons (tC (.ty "str")) tNil)))) (tVar 3) (tDGet (tVar 0) (tVar 3)) [3])) (tCons (tVar 1) tNil)))) tNever tNext
          ⟨fun σ' H' => (∃ u1 u2 u3, σ' = [some (.ref q), u1, u2, u3]) ∧ Same H2 H', fun v H' => Q v H', fun σ' H' => Q .non H', fun σ' H' => (∃ u1 u2 u3, σ' = [some (.ref q), u1, u2, u3]) ∧ Same H2 H'⟩ [some (.ref q), some (.str a), some (.str pa), u3] Hb := by
        refine ⟨q, .dK (prs t), hqa, trivial, fun od => ⟨_, rfl, q, od, rfl, .inl ⟨prs t, upd_same, fun D nD => ?_⟩⟩⟩
        have Dq : D ≠ q := (ne_of_none upd_same nD).symm
        refine dc_it walk_keys (fun i H' => Same (upd Hb q (.frz od (.dK (prs t)))) H' ∧ H' D = some (.dK (prs (t.take i)))) ⟨same_new nD, upd_same⟩ (fun i H' _ z => z.1 q _ upd_same) ?_ ?_
        · intro i x Hc Hd hi ⟨q1, q2⟩ ⟨e, k', v, hk, ex⟩
          subst e
          subst ex
          obtain ⟨b, r', rfl, rfl, hp⟩ := key hk
          have fz := q1 q _ upd_same
          have dg : DGet Hd q (.str b) (some (.str r')) := .inl ⟨prs t, Sum.inr b, .inr ⟨od, fz⟩, rfl, by rw [val_prs, par_of o.nd (List.mem_of_getElem? hp)] <;> rfl⟩
          have nb : b ∉ (t.take i).map Prod.fst := fun hm => by
            rw [List.map_take] at hm
            obtain ⟨j, hj⟩ := List.mem_iff_getElem?.mp hm
            have jl := (List.getElem?_eq_some_iff.mp hj).1
            rw [List.length_take] at jl
            rw [List.getElem?_take, if_pos (by omega)] at hj
            have e0 : (t.map Prod.fst)[i]? = some b := by rw [List.getElem?_map, hp] <;> rfl
            have := (List.getElem?_inj (by omega) o.nd).mp (hj.trans e0.symm)
            omega
          refine ⟨rfl, ?_⟩
          refine ⟨_, rfl, _, rfl, q, _, rfl, dg, .str r', _, _, _, true, rfl, .ty _, .base (.str r'), kit_ty (by decide +kernel), true, rfl, ?_⟩
          show if true = true then _ else _
          rw [if_pos rfl]
          refine ⟨_, rfl, _, rfl, _, rfl, q, _, rfl, dg, prs (t.take i), Sum.inr b, rfl, q2, ?_, ?_, ?_⟩
          · rw [prs_len, List.length_take]
            omega
          · intro c u e
            rw [upd_ne (ne_of_none e nD)]
            exact q1 c u e
          · rw [upd_same, put_new nb, take_more hp]
        · intro Hc ⟨q1, q2⟩
          rw [lp, List.take_length] at q2
          refine ⟨q1 q _ upd_same, _, rfl, D, a, t, rfl, by rw [upd_ne Dq]; exact q2, o, ma, fun H' s' => ⟨false, rfl, iteF ⟨⟨_, _, _, rfl⟩, (sa.trans (unlock_same hqa q1)).trans s'⟩⟩⟩
      rcases hpa with rfl | ⟨hp, _⟩
      · refine ⟨_, rfl, CF, mc, _, ur, rfl, Z.rd, cr, rfl, _, rfl, ?_⟩
        rw [decide_eq_true rfl]
        refine iteF ?_
        exact iteF anc
      · obtain ⟨pp, hv2, _⟩ := o.step r hp
        refine ⟨_, rfl, CF, mc, _, ur, rfl, Z.rd, cr, rfl, _, rfl, ?_⟩
        have ne : ¬ V.str pa = V.str "" := fun e => o.root (by rw [← V.str.inj e]; exact hp)
        rw [decide_eq_false ne]
        show if true = true then _ else _
        rw [if_pos rfl]
        refine ⟨_, rfl, _, rfl, q, V.str pp, rfl, by have z := DGet.k (k := Sum.inr pa) hqa; rw [val_prs, hv2] at z; exact z, _, rfl, ?_⟩
        exact iteF anc
    · intro σ' H' ⟨_, sa⟩
      exact k H' (s2.trans sa)
/-! ### Forest -/
/-- a forest at x, its pairs ts -/
def FAt (CF : Addr) (H : Hp) (x : Addr) (ts : List (Str × Str)) : Prop := ∃ dx dq, H x = some (.ins CF dx [("above", .ref dq)]) ∧ H dq = some (.dK (prs ts))
theorem FAt.mono {CF x : Addr} {H H' : Hp} {ts : List (Str × Str)} (s : Same H H') (h : FAt CF H x ts) : FAt CF H' x ts := let ⟨dx, dq, e1, e2⟩ := h; ⟨dx, dq, s _ _ e1, s _ _ e2⟩
/-- in ascending order -/
def Asc (ts : List (Str × Str)) : Prop := PyProof.Rows.sortedS (ts.map Prod.fst) = true
/-- facts of a class of the text -/
structure FoC (K : PySem.W.Frag) (CF : Addr) : Prop where
  cl : Cls K CF
  nA : NoAttr K CF "above"
def spFInit (CF : Addr) : Sp := fun vs H Q _ => ∃ (x q dx : Addr) (t : List (Str × Str)), vs = [.ref x, .ref q] ∧ H x = some (.ins CF dx []) ∧ H q = some (.dK (prs t)) ∧ TreeOk t ∧
  ∀ (H' : Hp) (ts : List (Str × Str)), ts.Perm t → Asc ts → FAt CF H' x ts → (∀ b o, b ≠ x → H b = some o → H' b = some o) → Q .non H'
def spFFlags (CF : Addr) : Sp := fun vs H Q _ => ∃ (x : Addr) (ts : List (Str × Str)), vs = [.ref x] ∧ FAt CF H x ts ∧ ∀ p, H p = none → Q (.ref p) (upd H p (.lst ((ts.map Prod.fst).map V.str)))
def spFParents (CF : Addr) : Sp := fun vs H Q _ => ∃ (x : Addr) (ts : List (Str × Str)), vs = [.ref x] ∧ FAt CF H x ts ∧ ∀ p, H p = none → Q (.ref p) (upd H p (.dK (prs ts)))
theorem scFInit : FnScope ["self", "parents", "name"] ["self", "parents"] (defScope s_Forest___init__) := ⟨rfl, rfl, rfl, by decide +kernel, rfl, by decide +kernel, by decide +kernel⟩
theorem perm_pairs : ∀ {ts t : List (Str × Str)}, (t.map Prod.fst).Nodup → (ts.map Prod.fst).Perm (t.map Prod.fst) → (∀ p ∈ ts, p ∈ t) → ts.Perm t
  | [], t, _, pf, _ => by
    have := pf.length_eq
    rw [List.length_map, List.length_map] at this
    rw [List.length_eq_zero_iff.mp (this.symm : t.length = 0)]
  | p :: ts, t, nd, pf, h => by
    have mp := h p (List.mem_cons_self ..)
    have pe := List.perm_cons_erase mp
    have pk : (ts.map Prod.fst).Perm ((t.erase p).map Prod.fst) := (pf.trans (pe.map Prod.fst)).cons_inv
    have nk := (pe.map Prod.fst).nodup_iff.mp nd
    obtain ⟨n1, n2⟩ := List.nodup_cons.mp (show (p.1 :: (t.erase p).map Prod.fst).Nodup from nk)
    refine ((perm_pairs n2 pk fun q hq => ?_).cons p).trans pe.symm
    rcases List.mem_cons.mp (pe.mem_iff.mp (h q (List.mem_cons_of_mem _ hq))) with e | m
    · exfalso
      refine n1 (pk.mem_iff.mp (List.mem_map.mpr ⟨q, hq, ?_⟩))
      rw [e]
    · exact m
theorem ok_finit {f fN CF : Addr} {fd fdN : FuncData} (F : Fun K "__init__" "Forest.__init__" s_Forest___init__ f fd) (T : Nm mg) (O : FoC K CF) (GN : Dn P w K mg base CX0 2 "need_parents" ["parents"] spNeed fN fdN) :
    FnOk P w K mg base CX0 3 f fd ["self", "parents"] (spFInit CF) := by
  refine F.ok scFInit (fun vs H Q E h => ?_) (fun cdv A outer s H vs Q E hr h => ?_)
  · obtain ⟨x, q, dx, t, rfl, _⟩ := h
    rfl
  · obtain ⟨x, q, dx, t, rfl, hx, hq, o, k⟩ := h
    have hu := hu_of hr
    refine ⟨_, pss_cons (ps_expr (pe_call GN.ok hr rfl GN.mgn GN.kp GN.bn .nil pass0 (pa_cons (pv 1) pa_nil)))
      (pss_one (ps_fld (pv 0) (pe_dc (own := [("name", 2)]) (g := gName 2) (tt := tYes) rfl scFInit.nd (pi_list (pe_callB (call_sortedD rfl) (by rfl) T.srt (by decide +kernel) (pa_cons (pv 1) pa_nil)))
        (blkOk_by (N := ["self", "parents", "name"]) (sc := defScope s_Forest___init__) (by decide +kernel))
        (fun _ _ _ _ _ => pg_name (i := 2) scFInit.nd rfl (Or.inl rfl)) (fun _ _ _ _ _ => pts_nil) (fun _ _ _ _ _ => pv 2) (fun _ _ _ _ _ => pe_dget hu (pv 1) (pv 2) (fun _ _ => rfl))) rfl)), ?_⟩
    have few := o.few
    have big : 1000 ≤ sizeLine := by decide
    refine ⟨_, rfl, q, t, rfl, hq, o, fun H1 s1 => ?_⟩
    have hq1 := s1 _ _ hq
    refine ⟨_, rfl, q, prs t, t.map Prod.fst, rfl, .inl hq1, prs_keys t, by rw [List.length_map]; omega, fun ys p perm srt np => ⟨p, rfl, ⟨_, SqL.of upd_same⟩, fun D nD => ?_⟩⟩
    obtain ⟨H2, e2⟩ : ∃ X, X = upd H1 p (.lst (ys.map V.str)) := ⟨_, rfl⟩
    have s2 : Same H H2 := s1.trans (e2 ▸ same_new np)
    have at2 : H2 p = some (.lst (ys.map V.str)) := by rw [e2]; exact upd_same
    rw [← e2] at nD ⊢
    have ndy : ys.Nodup := perm.nodup_iff.mpr o.nd
    have ly := perm.length_eq
    rw [List.length_map] at ly
    refine dc_it walk_list (fun i H' => Same H2 H' ∧ ∃ ts : List (Str × Str), H' D = some (.dK (prs ts)) ∧ ts.map Prod.fst = ys.take i ∧ ∀ p ∈ ts, p ∈ t) ⟨same_new nD, [], upd_same, by rw [List.take_zero] <;> rfl, fun p h => by cases h⟩ (fun i H' _ z => SqL.of (z.1 _ _ at2)) ?_ ?_
    · intro i y Ha Hb hi ⟨q1, ts, hD, ets, hts⟩ ⟨eb, ex⟩
      subst eb
      rw [List.getElem?_map] at ex
      obtain ⟨a, ha, rfl⟩ := Option.map_eq_some_iff.mp ex
      have ma : a ∈ t.map Prod.fst := perm.mem_iff.mp (List.mem_of_getElem? ha)
      obtain ⟨pa, hv⟩ := par_some o.nd ma
      have hqa := q1 _ _ (s2 _ _ hq)
      have fresh : a ∉ ts.map Prod.fst := by
        rw [ets]
        intro hm
        obtain ⟨j, hj⟩ := List.mem_iff_getElem?.mp hm
        have jl := (List.getElem?_eq_some_iff.mp hj).1
        have il := (List.getElem?_eq_some_iff.mp ha).1
        rw [List.length_take] at jl
        rw [List.getElem?_take, if_pos (by omega)] at hj
        have := (List.getElem?_inj (by omega) ndy).mp (hj.trans ha.symm)
        omega
      have lt := congrArg List.length ets
      rw [List.length_map, List.length_take] at lt
      refine ⟨rfl, ?_⟩
      refine ⟨_, rfl, _, rfl, _, rfl, q, V.str pa, rfl, by have z := DGet.k (k := Sum.inr a) hqa; rw [val_prs, hv] at z; exact z, prs ts, Sum.inr a, rfl, hD, by rw [prs_len]; omega, ?_, ts ++ [(a, pa)], ?_, ?_, fun z hz => ?_⟩
      · intro b u e
        rw [upd_ne (ne_of_none e nD)]
        exact q1 b u e
      · rw [upd_same, put_new fresh]
      · rw [List.map_append, ets, take_more ha] <;> rfl
      · rcases List.mem_append.mp hz with h | h
        · exact hts z h
        · rw [List.mem_singleton.mp h]
          exact par_mem hv
    · intro H3 ⟨q1, ts, hD, ets, hts⟩
      rw [List.length_map, List.take_length] at ets
      have s3 : Same H H3 := s2.trans q1
      refine ⟨_, rfl, x, CF, dx, [], rfl, s3 _ _ hx, O.cl, O.nA, by show 0 < 1000; decide, ?_⟩
      have xD : D ≠ x := (ne_of_none (s2 _ _ hx) nD).symm
      refine k _ ts (perm_pairs o.nd (by rw [ets]; exact perm) hts) (by unfold Asc; rw [ets]; exact srt) ⟨dx, D, upd_same, by rw [upd_ne xD]; exact hD⟩ fun b u bx e => ?_
      rw [upd_ne bx]
      exact s3 b u e
theorem scFFlags : FnScope ["self"] ["self"] (defScope s_Forest_flags) := ⟨rfl, rfl, rfl, by decide +kernel, rfl, by decide +kernel, by decide +kernel⟩
theorem ok_fflags {f CF : Addr} {fd : FuncData} (F : Fun K "flags" "Forest.flags" s_Forest_flags f fd) (T : Nm mg) (O : FoC K CF) : FnOk P w K mg base CX0 1 f fd ["self"] (spFFlags CF) := by
  refine F.ok scFFlags (fun vs H Q E h => ?_) (fun cdv A outer s H vs Q E hr h => ?_)
  · obtain ⟨x, ts, rfl, _⟩ := h
    rfl
  · obtain ⟨x, ts, rfl, ⟨dx, dq, hx, hd⟩, k⟩ := h
    refine ⟨_, pss_one (ps_ret (pe_callTy (call_listD rfl) (by rfl) T.lst (by decide +kernel) (pa_cons (pe_fld (pv 0) rfl) pa_nil))), ?_⟩
    refine ⟨_, rfl, x, CF, dx, _, .ref dq, rfl, hx, O.cl, O.nA, rfl, dq, prs ts, rfl, .inl hd, fun p np => ?_⟩
    rw [keys_prs]
    exact k p np
theorem scFParents : FnScope ["self"] ["self"] (defScope s_Forest_parents) := ⟨rfl, rfl, rfl, by decide +kernel, rfl, by decide +kernel, by decide +kernel⟩
theorem ok_fparents {f CF : Addr} {fd : FuncData} (F : Fun K "parents" "Forest.parents" s_Forest_parents f fd) (T : Nm mg) (O : FoC K CF) : FnOk P w K mg base CX0 1 f fd ["self"] (spFParents CF) := by
  refine F.ok scFParents (fun vs H Q E h => ?_) (fun cdv A outer s H vs Q E hr h => ?_)
  · obtain ⟨x, ts, rfl, _⟩ := h
    rfl
  · obtain ⟨x, ts, rfl, ⟨dx, dq, hx, hd⟩, k⟩ := h
    refine ⟨_, pss_one (ps_ret (pe_callTy call_dictD (by rfl) T.dct (by decide +kernel) (pa_cons (pe_fld (pv 0) rfl) pa_nil))), ?_⟩
    exact ⟨_, rfl, x, CF, dx, _, .ref dq, rfl, hx, O.cl, O.nA, rfl, dq, prs ts, rfl, .inl hd, fun p np => k p np⟩
/-- a property of a class -/
structure Pr1 (P : Program) (w : World) (K : PySem.W.Frag) (mg : Str → Option Value) (base : Heap) (CF : Addr) (x : Str) (sp : Sp) (p g : Addr) (fd : FuncData) : Prop where
  pr : PropOf K CF x p g
  fn : FnOk P w K mg base CX0 1 g fd ["self"] sp
  bn : Binds K fd ["self"] []
def spPlacesOf (CF : Addr) : Sp := fun vs H Q _ => ∃ (x : Addr) (ts : List (Str × Str)), vs = [.ref x] ∧ FAt CF H x ts ∧ ts.length ≤ 12 ∧ ∀ p H', Same H H' → H p = none → H' p = some (.lst ((("" : Str) :: ts.map Prod.fst).map V.str)) → Q (.ref p) H'
end
end FT


/-! the package's errors: their __init__, how they are raised. -/
namespace FT
open PySem L2 TL ClX
/-- what the top has written of an error class at C, its __init__ at I; f its attribute, or the empty text -/
structure Er (K : PySem.W.Frag) (mg : Str → Option Value) (nm f : Str) (C I : Addr) : Prop where
  g : mg nm = some (.ref C)
  x : XCls K C
  ini : PySem.W.findIn K (.ref C) "__init__" = some (some (.ref I))
  ity : PySem.W.typeIn K (.ref I) = some (.type "function")
  no : PySem.W.findIn K (.ref C) f = some none
/-- the base class -/
structure Rt (K : PySem.W.Frag) (mg : Str → Option Value) (R : Addr) : Prop where
  g : mg "RolloutError" = some (.ref R)
  ini : XIni K R
def spInit1 (C : Addr) (f : Str) : Sp := fun vs H Q _ => ∃ (a : Addr) (v : V), vs = [.ref a, v] ∧ H a = some (exo a C none) ∧ ∀ d, H d = none → d ≠ a → Q .non (upd (upd H d (exd d [(f, v)])) a (exo a C (some d)))
def spInit0 (C : Addr) : Sp := fun vs H Q _ => ∃ (a : Addr), vs = [.ref a] ∧ H a = some (exo a C none) ∧ Q .non H
/-- C(v): what is asked -/
theorem raise1 {C : Addr} {f : Str} {H1 : Hp} {Q : XK} {v : V} (k : ∀ d, H1 d = none → Q (.ref C) (some d) (upd H1 d (.xd [(f, v)]))) :
    [v].length ≤ 1000 ∧ ∀ a, H1 a = none → spInit1 C f (.ref a :: ([v] ++ [])) (upd H1 a (exo a C none))
      (fun w H2 => w = .non ∧ ∃ (d : Addr) (fs : List (Str × V)), H2 a = some (exo a C (some d)) ∧ H2 d = some (exd d fs) ∧ H1 d = none ∧ Q (.ref C) (some d) (upd (del H2 a) d (.xd fs))) (fun _ _ _ => False) := by
  refine ⟨by show 1 ≤ 1000; omega, fun a na => ⟨a, v, rfl, upd_same, fun d nd nda => ⟨rfl, d, [(f, v)], upd_same, by rw [upd_ne nda, upd_same], ?_, ?_⟩⟩⟩
  · rw [upd_ne nda] at nd
    exact nd
  · rw [upd_ne nda] at nd
    have e : upd (del (upd (upd (upd H1 a (exo a C none)) d (exd d [(f, v)])) a (exo a C (some d))) a) d (.xd [(f, v)]) = upd H1 d (.xd [(f, v)]) := by
      funext b
      by_cases h1 : b = d
      · subst h1
        rw [upd_same, upd_same]
      · rw [upd_ne h1, upd_ne h1]
        by_cases h2 : b = a
        · subst h2
          rw [del_same, na]
        · rw [del_ne h2, upd_ne h2, upd_ne h1, upd_ne h2]
    rw [e]
    exact k d nd
/-- C(): what is asked -/
theorem raise0 {C : Addr} {H1 : Hp} {Q : XK} (k : Q (.ref C) none H1) :
    ([] : List V).length ≤ 1000 ∧ ∀ a, H1 a = none → spInit0 C (.ref a :: ([] ++ [])) (upd H1 a (exo a C none)) (fun v H2 => v = .non ∧ H2 a = some (exo a C none) ∧ Q (.ref C) none (del H2 a)) (fun _ _ _ => False) := by
  refine ⟨Nat.zero_le _, fun a na => ⟨a, rfl, upd_same, rfl, upd_same, ?_⟩⟩
  have e : del (upd H1 a (exo a C none)) a = H1 := by
    funext b
    by_cases h : b = a
    · subst h
      rw [del_same, na]
    · rw [del_ne h, upd_ne h]
  rw [e]
  exact k
/-- an error class with its __init__, as a whole: with one value -/
structure Er1 (P : Program) (w : World) (K : PySem.W.Frag) (mg : Str → Option Value) (base : Heap) (nm f : Str) (C I : Addr) (fd : FuncData) : Prop where
  e : Er K mg nm f C I
  fn : FnOk P w K mg base CX0 1 I fd ["self", f] (spInit1 C f)
  bn : Binds K fd ["self", f] []
structure Er0 (P : Program) (w : World) (K : PySem.W.Frag) (mg : Str → Option Value) (base : Heap) (nm : Str) (C I : Addr) (fd : FuncData) : Prop where
  e : Er K mg nm "" C I
  fn : FnOk P w K mg base CX0 1 I fd ["self"] (spInit0 C)
  bn : Binds K fd ["self"] []
section
variable {X : Cx} {W : WX} {nm f : Str} {C I : Addr} {fd : FuncData} {ex : Expr} {te : TE} {p pos pos2 : Pos}
/-- raise C(e) -/
theorem ps_err1 (L : Er1 X.prog X.w X.K X.mg X.base nm f C I fd) (hc : X.calm = true) (tk : Takes X W) (hr : Room 2 X.A) (hg : Gl X nm) (he : PE X ex te) (hdb : (nm == ("__debug__" : Str)) = false := by decide)
    (hse : starEach (ex :: []) X.env = (false, eval ex X.env) :: starEach [] X.env := by rfl) (hpl : (backTo pos (starEach [] X.env)).any (·.1) = false := by rfl) :
    PS X (.Raise (some (.Call (.Name nm p) [ex] [] pos)) none pos2) (fun _ σ H => tMkO C (spInit1 C f) [] (tCons te tNil) σ H fun cls d H' => W cls d σ H') :=
  ps_raise hc tk (pmk_oex L.e.x.oex L.e.ini L.e.ity L.fn hr L.bn .nil (fun _ _ _ _ _ _ _ h => h.elim) hg L.e.g (pa_cons (hs := hse) he pa_nil) hdb hse hpl)
/-- raise C() -/
theorem ps_err0 (L : Er0 X.prog X.w X.K X.mg X.base nm C I fd) (hc : X.calm = true) (tk : Takes X W) (hr : Room 2 X.A) (hg : Gl X nm) (hdb : (nm == ("__debug__" : Str)) = false := by decide) :
    PS X (.Raise (some (.Call (.Name nm p) [] [] pos)) none pos2) (fun _ σ H => tMkO0 C (spInit0 C) [] tNil σ H fun cls d H' => W cls d σ H') :=
  ps_raise hc tk (pmk_none L.e.x.oex L.e.ini L.e.ity L.fn hr L.bn .nil (fun _ _ _ _ _ _ _ h => h.elim) hg L.e.g hdb)
end
end FT


namespace FT
open PySem L2 TL ClX
section
variable {P : Program} {w : World} {K : PySem.W.Frag} {mg : Str → Option Value} {base : Heap}
theorem sc_InvalidUsers : FnScope ["self"] ["self"] (defScope s_InvalidUsers___init__) := ⟨rfl, rfl, rfl, by decide +kernel, rfl, by decide +kernel, by decide +kernel⟩
theorem ok_InvalidUsers {f R C I : Addr} {fd : FuncData} (F : Fun K "__init__" "InvalidUsers.__init__" s_InvalidUsers___init__ f fd) (T : Rt K mg R) (L : Er K mg "InvalidUsers" "" C I) : FnOk P w K mg base CX0 1 f fd ["self"] (spInit0 C) := by
  refine F.ok sc_InvalidUsers (fun vs H Q E h => ?_) (fun cdv A outer s H vs Q E hr h => ?_)
  · obtain ⟨a, rfl, _⟩ := h
    rfl
  · obtain ⟨a, rfl, ha, k⟩ := h
    refine ⟨_, pss_one (ps_expr (pe_clsinit T.ini rfl T.g (pa_cons (pv 0) (pa_cons pe_str pa_nil)))), ?_⟩
    exact ⟨_, rfl, a, C, _, rfl, by show 1 ≤ 1000; omega, L.x.oex, ha, k⟩
theorem sc_InvalidSizes : FnScope ["self", "place"] ["self", "place"] (defScope s_InvalidSizes___init__) := ⟨rfl, rfl, rfl, by decide +kernel, rfl, by decide +kernel, by decide +kernel⟩
theorem ok_InvalidSizes {f R C I : Addr} {fd : FuncData} (F : Fun K "__init__" "InvalidSizes.__init__" s_InvalidSizes___init__ f fd) (T : Rt K mg R) (L : Er K mg "InvalidSizes" "place" C I) : FnOk P w K mg base CX0 1 f fd ["self", "place"] (spInit1 C "place") := by
  refine F.ok sc_InvalidSizes (fun vs H Q E h => ?_) (fun cdv A outer s H vs Q E hr h => ?_)
  · obtain ⟨a, v, rfl, _⟩ := h
    rfl
  · obtain ⟨a, v, rfl, ha, k⟩ := h
    refine ⟨_, pss_cons (ps_expr (pe_clsinit T.ini rfl T.g (pa_cons (pv 0) (pa_cons pe_str pa_nil)))) (pss_one (ps_ost (pv 0) (pv 1))), ?_⟩
    refine ⟨_, rfl, a, C, _, rfl, by show 1 ≤ 1000; omega, L.x.oex, ha, ?_⟩
    exact ⟨_, rfl, _, rfl, a, C, rfl, L.x.oex, L.no, .inl ⟨ha, fun d nd nda => k d nd nda⟩⟩
end
end FT


/-! data of any kind; what is raised; numbers by places -/
namespace FT
open PySem L2 TL ClX
/-! ### data of any kind -/
inductive Dat (K : PySem.W.Frag) (H : Hp) : V → String → Prop where
  | non : Dat K H .non "NoneType"
  | bl (b : Bool) : Dat K H (.bl b) "bool"
  | int (i : Int) : Dat K H (.int i) "int"
  | str (z : Str) : Dat K H (.str z) "str"
  | lst {a : Addr} {xs : List V} (h : H a = some (.lst xs)) : Dat K H (.ref a) "list"
  | tup {a : Addr} {xs : List V} (h : H a = some (.tup xs)) : Dat K H (.ref a) "tuple"
  | dct {a : Addr} {kvs : List (Key × V)} (h : H a = some (.dK kvs)) : Dat K H (.ref a) "dict"
theorem Dat.ty {K : PySem.W.Frag} {H : Hp} {v : V} {T : String} (d : Dat K H v T) : TyX K H v (.type T) := by
  cases d with
  | non => exact .base .non
  | bl b => exact .base (.bl b)
  | int i => exact .base (.int i)
  | str z => exact .base (.str z)
  | lst h => exact .base (.lst h)
  | tup h => exact .base (.tup h)
  | dct h => exact .base (.dK h)
theorem Dat.mono {K : PySem.W.Frag} {H H' : Hp} {v : V} {T : String} (s : Same H H') (d : Dat K H v T) : Dat K H' v T := by
  cases d with
  | non => exact .non
  | bl b => exact .bl b
  | int i => exact .int i
  | str z => exact .str z
  | lst h => exact .lst (s _ _ h)
  | tup h => exact .tup (s _ _ h)
  | dct h => exact .dct (s _ _ h)
def IsDat (K : PySem.W.Frag) (H : Hp) (v : V) : Prop := ∃ T, Dat K H v T
theorem IsDat.mono {K : PySem.W.Frag} {H H' : Hp} {v : V} (s : Same H H') (d : IsDat K H v) : IsDat K H' v := let ⟨T, d⟩ := d; ⟨T, d.mono s⟩
/-- isinstance(v, int) -/
def isIntV : V → Bool
  | .int _ => true
  | .bl _ => true
  | _ => false
def isBlV : V → Bool
  | .bl _ => true
  | _ => false
def isDictV (H : Hp) (v : V) : Bool := match v with
  | .ref a => match H a with
    | some (.dK _) => true
    | _ => false
  | _ => false
theorem Dat.int_ {K : PySem.W.Frag} {H : Hp} {v : V} {T : String} (d : Dat K H v T) : PySem.W.kitOne K (.type T) (.type "int") = some (isIntV v) := by
  cases d with
  | non => exact kit_ty (r := false) (by decide +kernel)
  | bl b => exact kit_ty (r := true) (by decide +kernel)
  | int i => exact kit_ty (r := true) (by decide +kernel)
  | str z => exact kit_ty (r := false) (by decide +kernel)
  | lst h => exact kit_ty (r := false) (by decide +kernel)
  | tup h => exact kit_ty (r := false) (by decide +kernel)
  | dct h => exact kit_ty (r := false) (by decide +kernel)
theorem Dat.bool_ {K : PySem.W.Frag} {H : Hp} {v : V} {T : String} (d : Dat K H v T) : PySem.W.kitOne K (.type T) (.type "bool") = some (isBlV v) := by
  cases d with
  | non => exact kit_ty (r := false) (by decide +kernel)
  | bl b => exact kit_ty (r := true) (by decide +kernel)
  | int i => exact kit_ty (r := false) (by decide +kernel)
  | str z => exact kit_ty (r := false) (by decide +kernel)
  | lst h => exact kit_ty (r := false) (by decide +kernel)
  | tup h => exact kit_ty (r := false) (by decide +kernel)
  | dct h => exact kit_ty (r := false) (by decide +kernel)
theorem Dat.dict_ {K : PySem.W.Frag} {H : Hp} {v : V} {T : String} (d : Dat K H v T) : PySem.W.kitOne K (.type T) (.type "dict") = some (decide (T = "dict")) := by
  cases d with
  | non => exact kit_ty (r := false) (by decide +kernel)
  | bl b => exact kit_ty (r := false) (by decide +kernel)
  | int i => exact kit_ty (r := false) (by decide +kernel)
  | str z => exact kit_ty (r := false) (by decide +kernel)
  | lst h => exact kit_ty (r := false) (by decide +kernel)
  | tup h => exact kit_ty (r := false) (by decide +kernel)
  | dct h => exact kit_ty (r := true) (by decide +kernel)
/-- an integer, no bool, of at least l -/
def isGe (v : V) (l : Int) : Bool := match v with
  | .int i => decide (l ≤ i)
  | _ => false
/-! ### what is raised -/
inductive Err where
  | e0 (C : Addr)
  | e1 (C : Addr) (f : Str) (v : V)
/-- the way out of such an error, from the heap H -/
def Out (H : Hp) (E : XK) : Err → Prop
  | .e0 C => ∀ H', Same H H' → E (.ref C) none H'
  | .e1 C f v => ∀ d H', Same H H' → H d = none → H' d = some (.xd [(f, v)]) → E (.ref C) (some d) H'
theorem Out.mono {H H1 : Hp} {E : XK} {e : Err} (s : Same H H1) (o : Out H E e) : Out H1 E e := by
  cases e with
  | e0 C => exact fun H' s' => o H' (s.trans s')
  | e1 C f v => exact fun d H' s' n => o d H' (s.trans s') (s.free n)
/-- raise C(v) in a def that lets it out -/
theorem out1 {C : Addr} {f : Str} {v : V} {H H1 : Hp} {E : XK} (o : Out H E (.e1 C f v)) (s : Same H H1) :
    [v].length ≤ 1000 ∧ ∀ a, H1 a = none → spInit1 C f (.ref a :: ([v] ++ [])) (upd H1 a (exo a C none))
      (fun w H2 => w = .non ∧ ∃ (d : Addr) (fs : List (Str × V)), H2 a = some (exo a C (some d)) ∧ H2 d = some (exd d fs) ∧ H1 d = none ∧ E (.ref C) (some d) (upd (del H2 a) d (.xd fs))) (fun _ _ _ => False) :=
  raise1 (Q := fun cls d H' => E cls d H') fun d nd => o d _ (s.trans (same_new nd)) (s.free nd) upd_same
theorem out0 {C : Addr} {H H1 : Hp} {E : XK} (o : Out H E (.e0 C)) (s : Same H H1) :
    ([] : List V).length ≤ 1000 ∧ ∀ a, H1 a = none → spInit0 C (.ref a :: ([] ++ [])) (upd H1 a (exo a C none)) (fun v H2 => v = .non ∧ H2 a = some (exo a C none) ∧ E (.ref C) none (del H2 a)) (fun _ _ _ => False) :=
  raise0 (Q := fun cls d H' => E cls d H') (o _ s)
/-! ### numbers by places -/
def tblI (l : List Str) (g : Str → Int) : List (Key × V) := kvT (l.map fun a => (a, V.int (g a)))
theorem tblI_len (l : List Str) (g : Str → Int) : (tblI l g).length = l.length := by unfold tblI; rw [kvT_len, List.length_map]
theorem tblI_fst (l : List Str) (g : Str → Int) : (l.map fun a => (a, V.int (g a))).map Prod.fst = l := by rw [List.map_map]; exact List.map_id _
theorem tblI_keys (l : List Str) (g : Str → Int) : (tblI l g).map (·.1) = l.map Sum.inr := by unfold tblI kvT; rw [List.map_map, List.map_map] <;> rfl
theorem tblI_at {l : List Str} {g : Str → Int} {i : Nat} {k : Key} {v : V} (h : (tblI l g)[i]? = some (k, v)) : ∃ a, l[i]? = some a ∧ k = Sum.inr a ∧ v = .int (g a) := by
  unfold tblI kvT at h
  rw [List.map_map, List.getElem?_map] at h
  obtain ⟨a, ha, e⟩ := Option.map_eq_some_iff.mp h
  cases e
  exact ⟨a, ha, rfl, rfl⟩
theorem tblI_val {l : List Str} {g : Str → Int} {a : Str} (h : a ∈ l) : valV (tblI l g) (Sum.inr a) = some (.int (g a)) := by
  unfold tblI
  rw [kvT_val]
  induction l with
  | nil => cases h
  | cons b l ih =>
    rw [List.map_cons, look_cons]
    by_cases e : b = a
    · subst e
      exact if_pos rfl
    · rw [if_neg e]
      exact ih ((List.mem_cons.mp h).resolve_left fun z => e z.symm)
theorem tblI_put {l : List Str} {g : Str → Int} {a : Str} {z : Int} (h : a ∈ l) : putK (tblI l g) (Sum.inr a) (.int z) = tblI l (fun p => if p = a then z else g p) := by
  unfold tblI
  rw [kvT_putT]
  unfold putT
  rw [if_pos (by rw [tblI_fst]; exact h), List.map_map]
  congr 1
  refine List.map_congr_left fun p _ => ?_
  show (if p = a then (p, V.int z) else (p, V.int (g p))) = (p, V.int (if p = a then z else g p))
  by_cases e : p = a
  · rw [if_pos e, if_pos e]
  · rw [if_neg e, if_neg e]
theorem tblI_snoc {l : List Str} {g : Str → Int} {a : Str} {z : Int} (h : a ∉ l) (e : z = g a) : putK (tblI l g) (Sum.inr a) (.int z) = tblI (l ++ [a]) g := by
  unfold tblI
  rw [kvT_put (by rw [tblI_fst]; exact h), List.map_append, e] <;> rfl
theorem tblI_congr {l : List Str} {g g' : Str → Int} (h : ∀ a ∈ l, g a = g' a) : tblI l g = tblI l g' := by
  unfold tblI
  rw [List.map_congr_left fun a ha => by rw [h a ha]]
/-! ### feasible sizes -/
/-- sizes: a dict, its pairs told, or another value -/
def SzV (K : PySem.W.Frag) (H : Hp) (sv : V) : Option (List (Key × V)) → Prop
  | some kvs => ∃ q, sv = .ref q ∧ H q = some (.dK kvs) ∧ ∀ p ∈ kvs, IsDat K H p.2
  | none => ∃ T, Dat K H sv T ∧ T ≠ "dict"
theorem SzV.mono {K : PySem.W.Frag} {H H' : Hp} {sv : V} {o : Option (List (Key × V))} (s : Same H H') (h : SzV K H sv o) : SzV K H' sv o := by
  cases o with
  | none => exact let ⟨T, d, n⟩ := h; ⟨T, d.mono s, n⟩
  | some kvs => exact let ⟨q, e, h, a⟩ := h; ⟨q, e, s _ _ h, fun p hp => (a p hp).mono s⟩
def szOf (kvs : List (Key × V)) (a : Str) : Int := match valV kvs (Sum.inr a) with
  | some (.int i) => i
  | _ => 0
def badKey (kvs : List (Key × V)) (a : Str) : Bool := !isGe ((valV kvs (Sum.inr a)).getD .non) 0
/-- the place of the first fault, as the error tells it -/
def feas (ts : List (Str × Str)) (n : Int) : Option (List (Key × V)) → Option V
  | none => some .non
  | some kvs => if kvs.length ≠ ts.length then some .non else if (ts.map Prod.fst).all (fun a => (valV kvs (Sum.inr a)).isSome) = false then some .non else
    match (ts.map Prod.fst).find? (badKey kvs) with
    | some a => some (.str a)
    | none => ((("" : Str) :: ts.map Prod.fst).find? fun p => decide (resid ts n (szOf kvs) p < 0)).map V.str
def usersOk (v : V) (m : Int) : Bool := match v with
  | .int i => decide (1 ≤ i) && decide (i ≤ m)
  | _ => false
def feE (CS : Addr) (ts : List (Str × Str)) (n : Int) (o : Option (List (Key × V))) : Option Err := (feas ts n o).map fun v => .e1 CS "place" v
def szE (CU CS : Addr) (ts : List (Str × Str)) (uv : V) (o : Option (List (Key × V))) : Option Err := if usersOk uv (10 ^ 30) = true then feE CS ts (match uv with | .int n => n | _ => 0) o else some (.e0 CU)
/-- a def that hands back None, or raises -/
def Res (H : Hp) (Q : VK) (E : XK) : Option Err → Prop
  | none => ∀ H', Same H H' → Q .non H'
  | some e => Out H E e
theorem Res.mono {H H1 : Hp} {Q : VK} {E : XK} {o : Option Err} (s : Same H H1) (r : Res H Q E o) : Res H1 Q E o := by
  cases o with
  | none => exact fun H' s' => r H' (s.trans s')
  | some e => exact Out.mono s r
def spIsInt (K : PySem.W.Frag) : Sp := fun vs H Q _ => ∃ (v : V) (l : Int), vs = [v, .int l] ∧ IsDat K H v ∧ Q (.bl (isGe v l)) H
def spUsers (K : PySem.W.Frag) (CU : Addr) : Sp := fun vs H Q E => ∃ (v : V) (m : Int), vs = [v, .int m] ∧ IsDat K H v ∧ Res H Q E (if usersOk v m = true then none else some (.e0 CU))
def spResid (CF : Addr) : Sp := fun vs H Q _ => ∃ (x q : Addr) (n : Int) (ts : List (Str × Str)) (kvs : List (Key × V)), vs = [.ref x, .int n, .ref q] ∧ FAt CF H x ts ∧ TreeOk ts ∧ H q = some (.dK kvs) ∧ (∀ a ∈ ts.map Prod.fst, valV kvs (Sum.inr a) = some (.int (szOf kvs a))) ∧
  ∀ p H', Same H H' → H p = none → H' p = some (.dK (tblI ("" :: ts.map Prod.fst) (resid ts n (szOf kvs)))) → Q (.ref p) H'
def spFeas (K : PySem.W.Frag) (CF CS : Addr) : Sp := fun vs H Q E => ∃ (x : Addr) (n : Int) (sv : V) (ts : List (Str × Str)) (o : Option (List (Key × V))), vs = [.ref x, .int n, sv] ∧ FAt CF H x ts ∧ TreeOk ts ∧ SzV K H sv o ∧ Res H Q E (feE CS ts n o)
def spNSizes (K : PySem.W.Frag) (CF CU CS : Addr) : Sp := fun vs H Q E => ∃ (x : Addr) (uv sv : V) (ts : List (Str × Str)) (o : Option (List (Key × V))), vs = [.ref x, uv, sv] ∧ FAt CF H x ts ∧ TreeOk ts ∧ IsDat K H uv ∧ SzV K H sv o ∧ Res H Q E (szE CU CS ts uv o)
end FT


/-! is_integer -/
namespace FT
open PySem L2 TL ClX
section
variable {P : Program} {w : World} {K : PySem.W.Frag} {mg : Str → Option Value} {base : Heap}
theorem scIsInt : FnScope ["value", "least"] ["value", "least"] (defScope s_is_integer) := ⟨rfl, rfl, rfl, by decide +kernel, rfl, by decide +kernel, by decide +kernel⟩
theorem ok_isInt {f : Addr} {fd : FuncData} (F : Fun K "is_integer" "is_integer" s_is_integer f fd) (T : Nm mg) : FnOk P w K mg base CX0 1 f fd ["value", "least"] (spIsInt K) := by
  refine F.ok scIsInt (fun vs H Q E h => ?_) (fun cdv A outer s H vs Q E hr h => ?_)
  · obtain ⟨v, l, rfl, _⟩ := h
    rfl
  · obtain ⟨v, l, rfl, ⟨t, d⟩, k⟩ := h
    refine ⟨_, pss_one (ps_ret (pe_and (pe_callB call_isi (by rfl) T.isi (by decide +kernel) (pa_cons (pv 0) (pa_cons (pe_bltn (v := .ty "int") (u := .type "int") (by rfl) T.int (by decide +kernel) rfl) pa_nil)))
      (pe_and (pe_not (pe_callB call_isi (by rfl) T.isi (by decide +kernel) (pa_cons (pv 0) (pa_cons (pe_bltn (v := .ty "bool") (u := .type "bool") (by rfl) T.bool (by decide +kernel) rfl) pa_nil)))) (pe_one (pe_cmpR op_ge (pv 0) (pv 1) (nomark _)))))), ?_⟩
    refine ⟨_, rfl, v, _, _, _, _, rfl, .ty _, d.ty, d.int_, _, rfl, ?_⟩
    refine ite2 (fun yes => ⟨_, rfl, v, _, _, _, _, rfl, .ty _, d.ty, d.bool_, _, rfl, _, rfl, ?_⟩) (fun no => ?_)
    · refine ite2 (fun yes2 => ?_) (fun no2 => ?_)
      · cases v with
        | int i => exact ⟨_, rfl, _, rfl, i, l, rfl, rfl, k⟩
        | bl b => cases yes2
        | _ => cases yes
      · cases v with
        | int i => exact absurd rfl no2
        | bl b => exact k
        | _ => cases yes
    · cases v with
      | int i => exact absurd rfl no
      | bl b => exact absurd rfl no
      | _ => exact k
end
end FT


namespace FT
open PySem L2 TL ClX
section
variable {P : Program} {w : World} {K : PySem.W.Frag} {mg : Str → Option Value} {base : Heap}
abbrev NRes : List Str := ["forest", "users", "sizes", "found", "parents", "name", "place"]
theorem scRes : FnScope NRes ["forest", "users", "sizes"] (defScope s_residents_of) := ⟨rfl, rfl, rfl, by decide +kernel, rfl, by decide +kernel, by decide +kernel⟩
theorem ok_resid {f fP CF p1 g1 p2 g2 : Addr} {mc : Value} {fd fdP fd1 fd2 : FuncData} (F : Fun K "residents_of" "residents_of" s_residents_of f fd) (T : Nm mg) (O : FoC K CF) (Z : Fc K mg CF mc)
    (G : Dn P w K mg base CX0 3 "places_of" ["forest"] (spPlacesOf CF) fP fdP) (L1 : Pr1 P w K mg base CF "flags" (spFFlags CF) p1 g1 fd1) (L2 : Pr1 P w K mg base CF "parents" (spFParents CF) p2 g2 fd2) :
    FnOk P w K mg base CX0 4 f fd ["forest", "users", "sizes"] (spResid CF) := by
  obtain ⟨ur, cr⟩ := Z.root
  refine F.ok scRes (fun vs H Q E h => ?_) (fun cdv A outer s H vs Q E hr h => ?_)
  · obtain ⟨x, q, n, ts, kvs, rfl, _⟩ := h
    rfl
  · obtain ⟨x, q, n, ts, kvs, rfl, fa, o, hq, hv, k⟩ := h
    have hu := hu_of hr
    have hr2 : Room 2 _ := hr.mono (by decide)
    have big : 1000 ≤ sizeLine := by decide
    have few := o.few
    refine ⟨_, pss_cons (ps_setDc (i := 3) (own := [("place", 6)]) (g := gName 6) (tt := tYes) (tv := tIf (tTest (tOp rEq (tVar 6) (tCVal K (tC (.ref CF)) "ROOT"))) (tVar 1) (tDGet (tVar 2) (tVar 6))) rfl scRes.nd rfl rfl (swd_true rfl rfl rfl (by decide +kernel)) (pi_list (pe_call G.ok (hr.mono (by decide)) rfl G.mgn G.kp G.bn .nil pass0 (pa_cons (pv 0) pa_nil)))
        (blkOk_by (N := NRes) (sc := defScope s_residents_of) (by decide +kernel))
        (fun _ _ _ _ _ => pg_name (i := 6) scRes.nd rfl (Or.inl rfl)) (fun _ _ _ _ _ => pts_nil) (fun _ _ _ _ _ => pv 6)
        (fun _ _ _ _ _ => pe_ifExp (pt_cmpR op_eq (pv 6) (pe_cval (pe_glob (v := .ref CF) (by rfl) Z.gF rfl)) (nomark _)) (pv 1) (pe_dget hu (pv 2) (pv 6) (fun _ _ => rfl))))
      (pss_cons (ps_set (i := 4) scRes.nd rfl (.inl rfl) (pe_prop (pv 0) O.cl L2.pr L2.fn hr2 L2.bn .nil pass0 (by rfl)))
      (pss_cons (ps_for PassesOwn.never rfl (pi_list (pe_prop (pv 0) O.cl L1.pr L1.fn hr2 L1.bn .nil pass0 (by rfl))) (pg_name (i := 5) scRes.nd rfl (.inl rfl))
        (pss_one (ps_dput hu (pv 3) (pe_dget hu (pv 4) (pv 5) (fun _ _ => rfl)) (pe_op op_sub (pe_dget hu (pv 3) (pe_dget hu (pv 4) (pv 5) (fun _ _ => rfl)) (fun _ _ => rfl)) (pe_dget hu (pv 2) (pv 5) (fun _ _ => rfl))) rfl)))
      (pss_one (ps_ret (pv 3))))), ?_⟩
    obtain ⟨pls, epl⟩ : ∃ l, l = (("" : Str) :: ts.map Prod.fst) := ⟨_, rfl⟩
    have ndp : pls.Nodup := by rw [epl]; exact List.nodup_cons.mpr ⟨o.root, o.nd⟩
    have lpl : pls.length = ts.length + 1 := by rw [epl, List.length_cons, List.length_map]
    rw [← epl] at k
    refine ⟨_, rfl, x, ts, rfl, fa, few, fun p0 H0 s0 n0 a0 => ⟨p0, rfl, ⟨_, SqL.of a0⟩, fun D nD => ?_⟩⟩
    rw [← epl] at a0
    refine dc_it walk_list (fun i H' => Same H0 H' ∧ H' D = some (.dK (tblI (pls.take i) (resid [] n (szOf kvs))))) ⟨same_new nD, upd_same⟩ (fun i H' _ z => SqL.of (z.1 _ _ a0)) ?_ ?_
    · intro i y Ha Hb hi ⟨q1, q2⟩ ⟨eb, ex⟩
      subst eb
      obtain ⟨a, ha, rfl⟩ := map_of ex
      have ma : a ∈ pls := List.mem_of_getElem? ha
      have fresh : a ∉ pls.take i := fun hm => by
        obtain ⟨j, hj⟩ := List.mem_iff_getElem?.mp hm
        have jl := (List.getElem?_eq_some_iff.mp hj).1
        rw [List.length_take] at jl
        rw [List.getElem?_take, if_pos (by omega)] at hj
        have := (List.getElem?_inj (by omega) ndp).mp (hj.trans ha.symm)
        omega
      have fin : ∀ z, z = resid [] n (szOf kvs) a → ∃ kvs1 k1, V.str a = kV k1 ∧ Hb D = some (.dK kvs1) ∧ kvs1.length < sizeLine ∧ (Same H0 (upd Hb D (.dK (putK kvs1 k1 (.int z)))) ∧ (upd Hb D (.dK (putK kvs1 k1 (.int z)))) D = some (.dK (tblI (pls.take (i + 1)) (resid [] n (szOf kvs))))) := fun z ez =>
        ⟨_, Sum.inr a, rfl, q2, by rw [tblI_len, List.length_take]; omega, Same.put q1 nD, by rw [upd_same, tblI_snoc fresh ez, take_more ha]⟩
      refine ⟨rfl, ?_⟩
      refine ⟨_, rfl, ?_⟩
      refine ⟨_, rfl, CF, mc, _, ur, rfl, Z.rd, cr, rfl, _, rfl, ?_⟩
      by_cases e : a = ""
      · rw [decide_eq_true (show V.str a = V.str "" by rw [e])]
        refine iteT ⟨_, rfl, fin n ?_⟩
        rw [e]
        show n = n - 0
        omega
      · rw [decide_eq_false (show ¬ V.str a = V.str "" from fun z => e (V.str.inj z))]
        have mk : a ∈ ts.map Prod.fst := by
          rw [epl] at ma
          exact (List.mem_cons.mp ma).resolve_left e
        refine iteF ⟨_, rfl, _, rfl, q, .int (szOf kvs a), rfl, ?_, fin _ ?_⟩
        · have z := DGet.k (k := Sum.inr a) (q1 _ _ (s0 _ _ hq))
          rw [hv a mk] at z
          exact z
        · show szOf kvs a = (if a = "" then n else szOf kvs a) - 0
          rw [if_neg e]
          omega
    · intro H1 ⟨q1, q2⟩
      have lp2 : (pls.map V.str).length = pls.length := List.length_map _
      rw [lp2, List.take_length] at q2
      have s1 : Same H H1 := s0.trans q1
      have nD0 : H D = none := s0.free nD
      obtain ⟨dx, dq, hx, hd⟩ := id fa
      refine ⟨_, rfl, x, dx, _, rfl, s1 _ _ hx, x, ts, rfl, fa.mono s1, fun pp npp => ?_⟩
      have pD : D ≠ pp := ne_of_none q2 npp
      obtain ⟨H2, e2⟩ : ∃ X, X = upd H1 pp (.dK (prs ts)) := ⟨_, rfl⟩
      have s12 : Same H1 H2 := e2 ▸ same_new npp
      have a2 : H2 pp = some (.dK (prs ts)) := by rw [e2]; exact upd_same
      rw [← e2]
      have s2 := s1.trans s12
      refine ⟨_, rfl, x, dx, _, rfl, s2 _ _ hx, x, ts, rfl, fa.mono s2, fun pf npf => ⟨pf, rfl, ⟨_, SqL.of upd_same⟩, ?_⟩⟩
      obtain ⟨H3, e3⟩ : ∃ X, X = upd H2 pf (.lst ((ts.map Prod.fst).map V.str)) := ⟨_, rfl⟩
      have s23 : Same H2 H3 := e3 ▸ same_new npf
      have a3 : H3 pf = some (.lst ((ts.map Prod.fst).map V.str)) := by rw [e3]; exact upd_same
      rw [← e3]
      have s3 := s2.trans s23
      have pfD : pf ≠ D := fun z => by rw [z, s23 _ _ (s12 _ _ q2)] at a3; cases a3
      refine for_it walk_list (fun j σ' H' => (∃ u5, σ' = [some (.ref x), some (.int n), some (.ref q), some (.ref D), some (.ref pp), u5, none]) ∧ Same H H' ∧ H' pp = some (.dK (prs ts)) ∧ H' pf = some (.lst ((ts.map Prod.fst).map V.str)) ∧ H' D = some (.dK (tblI pls (resid (ts.take j) n (szOf kvs)))))
        ⟨⟨none, rfl⟩, s3, s23 _ _ a2, a3, s23 _ _ (s12 _ _ q2)⟩ (fun j σ' H' _ z => SqL.of z.2.2.2.1) ?_ ?_
      · intro j y σ' Ha Hb hj ⟨⟨u5, e⟩, sa, app, apf, aD⟩ ⟨eb, ex⟩
        subst e
        subst eb
        obtain ⟨a, ha, rfl⟩ := map_of ex
        obtain ⟨⟨a', pa⟩, hp, rfl⟩ := Option.map_eq_some_iff.mp (show (ts[j]?).map Prod.fst = some a by rw [← List.getElem?_map]; exact ha)
        have mp := List.mem_of_getElem? hp
        have mk : a' ∈ ts.map Prod.fst := List.mem_map.mpr ⟨_, mp, rfl⟩
        have ep := par_of o.nd mp
        obtain ⟨rk, r⟩ := o.up
        have mpa : pa ∈ pls := by
          rw [epl]
          exact List.mem_cons.mpr ((r _ mp).2.imp id And.left)
        have dg : DGet Hb pp (.str a') (some (.str pa)) := by
          have z := DGet.k (k := Sum.inr a') app
          rw [val_prs, ep] at z
          exact z
        refine ⟨_, rfl, _, rfl, _, rfl, pp, _, rfl, dg, D, .int (resid (ts.take j) n (szOf kvs) pa), rfl, ?_, ?_⟩
        · have z := DGet.k (k := Sum.inr pa) aD
          rw [tblI_val mpa] at z
          exact z
        · refine ⟨_, rfl, _, rfl, q, .int (szOf kvs a'), rfl, ?_, _, _, rfl, rfl, ?_⟩
          · have z := DGet.k (k := Sum.inr a') (sa _ _ hq)
            rw [hv a' mk] at z
            exact z
          · refine ⟨_, rfl, _, rfl, _, rfl, pp, _, rfl, dg, D, _, rfl, DPut.k (k := Sum.inr pa) aD (by rw [tblI_len]; omega), ?_⟩
            refine ⟨⟨_, rfl⟩, fun b u e => ?_, ?_, ?_, ?_⟩
            · rw [upd_ne (ne_of_none e nD0)]
              exact sa b u e
            · rw [upd_ne pD.symm]
              exact app
            · rw [upd_ne pfD]
              exact apf
            · rw [upd_same, tblI_put mpa]
              congr 2
              refine tblI_congr fun b _ => ?_
              rw [take_more hp, resid_snoc]
              by_cases e : b = pa
              · rw [if_pos e, if_pos e.symm, e]
              · rw [if_neg e, if_neg fun z => e z.symm]
      · intro σ' H4 ⟨⟨u5, e⟩, sa, app, apf, aD⟩
        subst e
        rw [List.length_map, List.length_map, List.take_length] at aD
        exact ⟨_, rfl, k D H4 sa nD0 aD⟩
end
end FT


namespace FT
open PySem L2 TL ClX
theorem valV_mem {kvs : List (Key × V)} {k : Key} {v : V} (h : valV kvs k = some v) : (k, v) ∈ kvs := by
  unfold valV at h
  obtain ⟨p, hp, e⟩ := Option.map_eq_some_iff.mp h
  have m := List.mem_of_find?_eq_some hp
  have q : p.1 = k := of_decide_eq_true (List.find?_some (p := fun kv : Key × V => decide (kv.1 = k)) hp)
  obtain ⟨k', v'⟩ := p
  cases e
  cases (show k' = k from q)
  exact m
theorem feas_some (ts : List (Str × Str)) (n : Int) (kvs : List (Key × V)) : feas ts n (some kvs) = if kvs.length ≠ ts.length then some .non else if (ts.map Prod.fst).all (fun a => (valV kvs (Sum.inr a)).isSome) = false then some .non else
    match (ts.map Prod.fst).find? (badKey kvs) with
    | some a => some (.str a)
    | none => ((("" : Str) :: ts.map Prod.fst).find? fun p => decide (resid ts n (szOf kvs) p < 0)).map V.str := rfl
theorem find_at {α : Type} {p : α → Bool} : ∀ {l : List α} {j : Nat} {a : α}, l[j]? = some a → (l.take j).find? p = none → p a = true → l.find? p = some a
  | [], j, a, h, _, _ => by simp at h
  | x :: l, 0, a, h, _, hp => by
    have e : x = a := Option.some.inj h
    subst e
    rw [List.find?_cons, hp]
  | x :: l, j + 1, a, h, hn, hp => by
    have hn' : (x :: l.take j).find? p = none := hn
    rw [List.find?_cons] at hn' ⊢
    cases e : p x with
    | true =>
      rw [e] at hn'
      cases hn'
    | false =>
      rw [e] at hn'
      exact find_at h hn' hp
theorem find_more {α : Type} {p : α → Bool} {l : List α} {j : Nat} {a : α} (h : l[j]? = some a) (hn : (l.take j).find? p = none) (hp : p a = false) : (l.take (j + 1)).find? p = none := by
  rw [take_more h, List.find?_append, hn]
  show [a].find? p = none
  rw [List.find?_cons, hp] <;> rfl
theorem len_int {a b : Nat} : decide (V.int (a : Int) = V.int (b : Int)) = decide (a = b) := by
  rw [Bool.eq_iff_iff, decide_eq_true_eq, decide_eq_true_eq]
  constructor
  · intro h
    have := V.int.inj h
    omega
  · intro h
    rw [h]
end FT


namespace FT
open PySem L2 TL ClX
section
variable {P : Program} {w : World} {K : PySem.W.Frag} {mg : Str → Option Value} {base : Heap}
abbrev NFe : List Str := ["forest", "users", "sizes", "name", "left", "place"]
theorem scFe : FnScope NFe ["forest", "users", "sizes"] (defScope s_need_feasible) := ⟨rfl, rfl, rfl, by decide +kernel, rfl, by decide +kernel, by decide +kernel⟩
theorem ok_feas {f fR fI CF CS IS p1 g1 : Addr} {fd fdR fdI dS fd1 : FuncData} (F : Fun K "need_feasible" "need_feasible" s_need_feasible f fd) (T : Nm mg) (O : FoC K CF) (S : Er1 P w K mg base "InvalidSizes" "place" CS IS dS)
    (R : Dn P w K mg base CX0 4 "residents_of" ["forest", "users", "sizes"] (spResid CF) fR fdR) (I : Dn P w K mg base CX0 1 "is_integer" ["value", "least"] (spIsInt K) fI fdI) (L1 : Pr1 P w K mg base CF "flags" (spFFlags CF) p1 g1 fd1) :
    FnOk P w K mg base (L2.CX P w) 5 f fd ["forest", "users", "sizes"] (spFeas K CF CS) := by
  refine F.okX scFe (fun vs H Q E h => ?_) (fun cdv A outer s H vs Q E hr h => ?_)
  · obtain ⟨x, n, sv, ts, o, rfl, _⟩ := h
    rfl
  · obtain ⟨x, n, sv, ts, so, rfl, fa, o, hz, k⟩ := h
    have hu := hu_of hr
    have hr2 : Room 2 _ := hr.mono (by decide)
    have big : 1000 ≤ sizeLine := by decide
    have few := o.few
    have flags : PE (cxOf (L2.CX P w) P w K mg base NFe "need_feasible" (defScope s_need_feasible) f cdv A outer s H E) (.Name "forest" ⟨0, 0, 0, 0⟩) (tVar 0) := pv 0
    refine ⟨_, pss_cons (ps_if (PW.pt (pw_or (pt_not (pt_val (pe_callB call_isi (by rfl) T.isi (by decide +kernel) (pa_cons (pv 2) (pa_cons (pe_bltn (v := .ty "dict") (u := .type "dict") (by rfl) T.dct (by decide +kernel) rfl) pa_nil)))))
        (pw_or1 (pt_cmpR op_ne (pe_callB call_lenD (by rfl) T.len PySem.boot_len (pa_cons (pv 2) pa_nil)) (pe_callB call_len_seq (by rfl) T.len PySem.boot_len (pa_cons (pe_prop (pv 0) O.cl L1.pr L1.fn hr2 L1.bn .nil pass0 (by rfl)) pa_nil)) (nomark _)))))
        (pss_one (ps_err1 S rfl (takes_of rfl rfl rfl rfl) hr2 rfl pe_non)) pss_nil)
      (pss_cons (ps_if (pt_not (pt_val (pe_callB (cr_all rfl) (by rfl) T.all (by decide +kernel) (pa_cons (pe_lc (own := [("name", 3)]) (g := gName 3) (tt := tYes) rfl scFe.nd (pi_list (pe_prop (pv 0) O.cl L1.pr L1.fn hr2 L1.bn .nil pass0 (by rfl)))
          (blkOk_by (N := NFe) (sc := defScope s_need_feasible) (by decide +kernel))
          (fun _ _ _ _ _ => pg_name (i := 3) scFe.nd rfl (Or.inl rfl)) (fun _ _ _ _ _ => pts_nil) (fun _ _ _ _ _ => pe_cmp (pc_din hu (pv 3) (pv 2)) rfl)) pa_nil))))
        (pss_one (ps_err1 S rfl (takes_of rfl rfl rfl rfl) hr2 rfl pe_non)) pss_nil)
      (pss_cons (ps_for (passes_of rfl) rfl (pi_list (pe_prop (pv 0) O.cl L1.pr L1.fn hr2 L1.bn .nil pass0 (by rfl))) (pg_name (i := 3) scFe.nd rfl (.inl rfl))
        (pss_one (ps_if (pt_not (pt_val (pe_call I.ok (hr.mono (by decide)) rfl I.mgn I.kp I.bn .nil pass0 (pa_cons (pe_dget hu (pv 2) (pv 3) (fun _ _ => rfl)) (pa_cons pe_int pa_nil))))) (pss_one (ps_err1 S rfl (takes_of rfl rfl rfl rfl) hr2 rfl (pv 3))) pss_nil)))
      (pss_cons (ps_set (i := 4) scFe.nd rfl (.inl rfl) (pe_call R.ok hr rfl R.mgn R.kp R.bn .nil pass0 (pa_cons (pv 0) (pa_cons (pv 1) (pa_cons (pv 2) pa_nil)))))
      (pss_one (ps_lock (ps_for (passes_of rfl) rfl (pi_keys (pv 4)) (pg_name (i := 5) scFe.nd rfl (.inl rfl))
        (pss_one (ps_if (pt_cmpR op_lt (pe_dget hu (pv 4) (pv 5) (fun _ _ => rfl)) pe_int (nomark _)) (pss_one (ps_err1 S rfl (takes_of rfl rfl rfl rfl) hr2 rfl (pv 5))) pss_nil)))))))), ?_⟩
    obtain ⟨dx, dq, hx, hd⟩ := id fa
    cases so with
    | none =>
      obtain ⟨t, d, nd⟩ := hz
      refine ⟨_, rfl, sv, _, _, _, _, rfl, .ty _, d.ty, d.dict_, _, rfl, ?_⟩
      rw [decide_eq_false nd]
      show if true = true then _ else _
      rw [if_pos rfl]
      exact iteT (out1 k Same.refl)
    | some kvs =>
      obtain ⟨q, rfl, hq, dat⟩ := hz
      refine ⟨_, rfl, .ref q, _, _, _, _, rfl, .ty _, (Dat.dct (K := K) hq).ty, (Dat.dct (K := K) hq).dict_, _, rfl, ?_⟩
      rw [decide_eq_true rfl]
      refine iteF ?_
      refine ⟨_, rfl, q, kvs, rfl, hq, ?_⟩
      refine ⟨_, rfl, x, dx, _, rfl, hx, x, ts, rfl, fa, fun pf nf => ⟨pf, _, rfl, .inl (SqL.of upd_same), rfl, _, rfl, ?_⟩⟩
      rw [List.length_map, List.length_map, len_int]
      have s1 := same_new (o := .lst ((ts.map Prod.fst).map V.str)) nf
      obtain ⟨H1, e1⟩ : ∃ X, X = upd H pf (.lst ((ts.map Prod.fst).map V.str)) := ⟨_, rfl⟩
      rw [← e1] at s1 ⊢
      by_cases el : kvs.length = ts.length
      · rw [decide_eq_true el]
        refine iteF ?_
        -- all there?
        refine ⟨_, rfl, x, dx, _, rfl, s1 _ _ hx, x, ts, rfl, fa.mono s1, fun pg ng => ⟨pg, rfl, ⟨_, SqL.of upd_same⟩, fun D nD => ?_⟩⟩
        obtain ⟨H2, e2⟩ : ∃ X, X = upd H1 pg (.lst ((ts.map Prod.fst).map V.str)) := ⟨_, rfl⟩
        have s12 : Same H1 H2 := e2 ▸ same_new ng
        have a2 : H2 pg = some (.lst ((ts.map Prod.fst).map V.str)) := by rw [e2]; exact upd_same
        have s2 := s1.trans s12
        rw [← e2] at nD ⊢
        refine lc_it walk_list (fun i H' => Same H2 H' ∧ H' D = some (.lst ((((ts.map Prod.fst).take i).map fun a => (valV kvs (Sum.inr a)).isSome).map V.bl))) ⟨same_new nD, upd_same⟩ (fun i H' _ z => SqL.of (z.1 _ _ a2)) ?_ ?_
        · intro i y Ha Hb hi ⟨q1, q2⟩ ⟨eb, ex⟩
          subst eb
          obtain ⟨a, ha, rfl⟩ := map_of ex
          refine ⟨rfl, ?_⟩
          refine ⟨_, rfl, _, rfl, q, _, rfl, DGet.k (k := Sum.inr a) (q1 _ _ (s2 _ _ hq)), _, q2, ?_, Same.put q1 nD, ?_⟩
          · rw [List.length_map, List.length_map, List.length_take, List.length_map]
            omega
          · rw [upd_same, take_more ha, List.map_append, List.map_append] <;> rfl
        · intro H3 ⟨q1, q2⟩
          have s3 := s2.trans q1
          rw [List.length_map, List.take_length] at q2
          refine ⟨D, _, rfl, SqL.of q2, _, rfl, ?_⟩
          have eall : (((ts.map Prod.fst).map fun a => (valV kvs (Sum.inr a)).isSome)).all id = (ts.map Prod.fst).all fun a => (valV kvs (Sum.inr a)).isSome := by rw [List.all_map] <;> rfl
          rw [eall]
          cases ea : (ts.map Prod.fst).all fun a => (valV kvs (Sum.inr a)).isSome with
          | false =>
            refine iteT (out1 (H := H) ?_ s3)
            have e : feE CS ts n (some kvs) = some (.e1 CS "place" .non) := by
              unfold feE
              rw [feas_some, if_neg (fun z => z el), if_pos ea] <;> rfl
            rw [e] at k
            exact k
          | true =>
            refine iteF ?_
            have there : ∀ a ∈ ts.map Prod.fst, ∃ v, valV kvs (Sum.inr a) = some v := fun a ha => Option.isSome_iff_exists.mp (List.all_eq_true.mp ea a ha)
            -- one by one
            refine ⟨_, rfl, x, dx, _, rfl, s3 _ _ hx, x, ts, rfl, fa.mono s3, fun ph nh => ⟨ph, rfl, ⟨_, SqL.of upd_same⟩, ?_⟩⟩
            obtain ⟨H4, e4⟩ : ∃ X, X = upd H3 ph (.lst ((ts.map Prod.fst).map V.str)) := ⟨_, rfl⟩
            have s4 : Same H H4 := s3.trans (e4 ▸ same_new nh)
            have a4 : H4 ph = some (.lst ((ts.map Prod.fst).map V.str)) := by rw [e4]; exact upd_same
            rw [← e4]
            refine for_it walk_list (fun j σ' H' => (∃ u3, σ' = [some (.ref x), some (.int n), some (.ref q), u3, none, none]) ∧ Same H4 H' ∧ ((ts.map Prod.fst).take j).find? (badKey kvs) = none)
              ⟨⟨none, rfl⟩, Same.refl, rfl⟩ (fun j σ' H' _ z => SqL.of (z.2.1 _ _ a4)) ?_ ?_
            · intro j y σ' Ha Hb hj ⟨⟨u3, e⟩, sa, good⟩ ⟨eb, ex⟩
              subst e
              subst eb
              obtain ⟨a, ha, rfl⟩ := map_of ex
              obtain ⟨v, hv⟩ := there a (List.mem_of_getElem? ha)
              have s0 := s4.trans sa
              refine ⟨_, rfl, _, rfl, q, v, rfl, by have z := DGet.k (k := Sum.inr a) (s0 _ _ hq); rw [hv] at z; exact z, v, 0, rfl, (dat _ (valV_mem hv)).mono s0, _, rfl, ?_⟩
              cases eg : isGe v 0 with
              | true => exact iteF ⟨⟨_, rfl⟩, sa, find_more ha good (by unfold badKey; rw [hv]; show (!isGe v 0) = false; rw [eg] <;> rfl)⟩
              | false =>
                refine iteT ⟨_, rfl, out1 (H := H) ?_ s0⟩
                have e : feE CS ts n (some kvs) = some (.e1 CS "place" (.str a)) := by
                  unfold feE
                  rw [feas_some, if_neg (fun z => z el), if_neg (by rw [ea]; decide), find_at ha good (by unfold badKey; rw [hv]; show (!isGe v 0) = true; rw [eg] <;> rfl)] <;> rfl
                rw [e] at k
                exact k
            · intro σ' H5 ⟨⟨u3, e⟩, sa, good⟩
              subst e
              rw [List.length_map, List.take_length] at good
              have s5 := s4.trans sa
              have nums : ∀ a ∈ ts.map Prod.fst, valV kvs (Sum.inr a) = some (.int (szOf kvs a)) := fun a ha => by
                obtain ⟨v, hv⟩ := there a ha
                have g := List.find?_eq_none.mp good a ha
                unfold badKey at g
                rw [hv] at g
                unfold szOf
                rw [hv]
                cases v with
                | int i => rfl
                | _ => exact absurd rfl g
              refine ⟨_, rfl, _, rfl, _, rfl, x, q, n, ts, kvs, rfl, fa.mono s5, o, s5 _ _ hq, nums, fun F H6 s56 nF aF => ?_⟩
              have s6 := s5.trans s56
              have nF0 := s5.free nF
              refine ⟨F, _, aF, trivial, fun od => ⟨_, rfl, F, od, rfl, .inl ⟨_, upd_same, ?_⟩⟩⟩
              obtain ⟨pls, epl⟩ : ∃ l, l = (("" : Str) :: ts.map Prod.fst) := ⟨_, rfl⟩
              rw [← epl] at aF ⊢
              have ek : feE CS ts n (some kvs) = ((pls.find? fun p => decide (resid ts n (szOf kvs) p < 0)).map V.str).map fun v => .e1 CS "place" v := by
                unfold feE
                rw [feas_some, if_neg (fun z => z el), if_neg (by rw [ea]; decide), good, epl]
              rw [ek] at k
              refine for_it walk_keys (fun j σ' H' => (∃ u5, σ' = [some (.ref x), some (.int n), some (.ref q), u3, some (.ref F), u5]) ∧ Same H H' ∧ H' F = some (.frz od (.dK (tblI pls (resid ts n (szOf kvs))))) ∧ (pls.take j).find? (fun p => decide (resid ts n (szOf kvs) p < 0)) = none)
                ⟨⟨none, rfl⟩, Same.put s6 nF0, upd_same, rfl⟩ (fun j σ' H' _ z => z.2.2.1) ?_ ?_
              · intro j y σ' Ha Hb hj ⟨⟨u5, e⟩, sa, aF', good'⟩ ⟨eb, kk, vv, hk, ey⟩
                subst e
                subst eb
                subst ey
                obtain ⟨a, ha, rfl, rfl⟩ := tblI_at hk
                refine ⟨_, rfl, _, rfl, F, .int (resid ts n (szOf kvs) a), rfl, .inl ⟨_, Sum.inr a, .inr ⟨od, aF'⟩, rfl, (tblI_val (List.mem_of_getElem? ha)).symm⟩, _, _, rfl, rfl, _, rfl, ?_⟩
                by_cases neg : resid ts n (szOf kvs) a < 0
                · rw [decide_eq_true neg]
                  refine iteT ⟨_, rfl, out1 (H := H) ?_ sa⟩
                  rw [find_at ha good' (decide_eq_true neg)] at k
                  exact k
                · rw [decide_eq_false neg]
                  exact iteF ⟨⟨_, rfl⟩, sa, aF', find_more ha good' (decide_eq_false neg)⟩
              · intro σ' H7 ⟨⟨u5, e⟩, sa, aF', good'⟩
                rw [tblI_len, List.take_length] at good'
                rw [good'] at k
                exact ⟨aF', k _ (Same.put sa nF0)⟩
      · rw [decide_eq_false el]
        show if true = true then _ else _
        rw [if_pos rfl]
        refine out1 (H := H) ?_ s1
        have e : feE CS ts n (some kvs) = some (.e1 CS "place" .non) := by
          unfold feE
          rw [feas_some, if_pos el] <;> rfl
        rw [e] at k
        exact k
end
end FT


/-! Own: repr over the layer. repr asks what calls of repr are under way (A.guards), and the layer's contracts do not tell it: a contract FnG that tells it too, its rule for a def's body, its call, the end. -/
namespace L2
open PySem PySem.Spec PyProof.Rows
/-- no repr is under way -/
abbrev Clr (A : Around) : Prop := A.guards = some []
theorem Clr.deeper {A : Around} {env : Env} (h : Clr A) : Clr (A.deeper env) := by
  have h' : A.guards = some [] := h
  show (A.deeper env).guards = some []
  first
    | exact h'
    | (simp [Around.deeper, h', pushGuards, Code.guards, Code.isGuard])
structure FnG (P : Program) (w : World) (K : PySem.W.Frag) (mg : Str → Option Value) (base : Heap) (CX : CXT) (k : Nat) (f : Addr) (fd : FuncData) (ps : List Str) (sp : Sp) : Prop where
  len : ∀ vs H Q E, sp vs H Q E → vs.length = ps.length
  run : ∀ (A : Around) (outer : List Env) (s : Shared) (H : Hp) (args : Args) (us : List Value) (vs : List V) (Q : VK) (E : XK), Clr A → Room k A → Env0 P w K mg base A outer s H → BindsTo s fd args (ps.zip us) → Vals vs us → sp vs H Q E →
    codeAny (model P w) A (.call (.ref f) args) (CR CX outer P w H s Q E) s
theorem FnOk.g {P : Program} {w : World} {K : PySem.W.Frag} {mg : Str → Option Value} {base : Heap} {CX : CXT} {k : Nat} {f : Addr} {fd : FuncData} {ps : List Str} {sp : Sp} (F : FnOk P w K mg base CX k f fd ps sp) : FnG P w K mg base CX k f fd ps sp :=
  ⟨F.len, fun A outer s H args us vs Q E _ => F.run A outer s H args us vs Q E⟩
section
variable {P : Program} {w : World} {K : PySem.W.Frag} {mg : Str → Option Value} {base : Heap}
/-- a def by its body, where nothing is raised out of it -/
theorem Fun.okG {x qual : Str} {st : Stmt} {f : Addr} {fd : FuncData} {N ps : List Str} {k : Nat} {sp : Sp} (F : Fun K x qual st f fd) (S : FnScope N ps (defScope st)) (len : ∀ vs H Q E, sp vs H Q E → vs.length = ps.length)
    (body : ∀ (cdv : Value) (A : Around) (outer : List Env) (s : Shared) (H : Hp) (vs : List V) (Q : VK) (E : XK), Clr A → Room k (A.deeper (envOfC qual (defScope st) s.heap.objs.size f cdv)) → sp vs H Q E →
      ∃ t, PSs (cxOf CX0 P w K mg base N qual (defScope st) f cdv A outer s H E).nox (defBody st) t ∧ t { nx := fun _ H' => Q .non H', rt := Q } (start N vs) H) : FnG P w K mg base CX0 (k + 1) f fd ps sp := by
  obtain ⟨oc, od, kV, doc, pm, an, cdv, ct, osl, rfl, lk, code⟩ := F.ex
  refine ⟨len, fun A outer s H args us vs Q E clr room e0 binds rel want => ?_⟩
  have nps := len _ _ _ _ want
  have KX : K.In s.heap := e0.mod.kin.keeps fun b o e => (e0.bs b o e).1
  have lim : s.heap.NoLimit := e0.mod.nolimit.keeps fun b o e => (e0.bs b o e).1
  refine codeAny_call_function room.depth (KX _ _ lk) rfl S.co S.gen rfl (PySem.W.codeRec_of KX code) (binds _ _ _ _ (wpAny_newFunctionEnv_cells S.kind (fun y hy => ?_) fun env he s1 x => ?_))
  · obtain ⟨n, v⟩ := y
    exact (S.par n (List.of_mem_zip hy).1).elim .inl fun q => .inr ⟨q, PySem.W.cellsFrom_some _ _ _ (.inl q)⟩
  · subst he
    obtain ⟨t, term, q⟩ := body cdv A outer s H vs Q E clr (room.deeper _) want
    have I : Inv (cxOf CX0 P w K mg base N qual (defScope st) f cdv A outer s H E) [] (start N vs) H s1 := inv_start S room.hd e0 nps rel x
    refine ⟨lim.keeps x.toInCall.keep, codeAny_func (wpAny_mono (term.nox.run [] s1 (start N vs) H _ I q) (fun fl s' z => ?_) fun _ _ z => z)⟩
    match fl, z with
    | .ret u, ⟨v, _, H', J, rv, q⟩ => exact ⟨v, H', J.os, J.bare, J.base, J.hok, rv, q⟩
    | .next, ⟨_, H', J, q⟩ => exact ⟨.non, H', J.os, J.bare, J.base, J.hok, rfl, q⟩
    | .brk, ⟨_, _, _, q⟩ => exact q.elim
    | .cont, ⟨_, _, _, q⟩ => exact q.elim
end
section
variable {X : Cx} {CX : CXT} {k : Nat} {f : Addr} {fd : FuncData} {ps : List Str} {sp : Sp} {dvs : List V} {ds : List Value} {E : XK} {x : Str} {p pos : Pos} {e : Expr} {es : List Expr} {t : TA}
/-! ### repr -/
/-- what is shown: data without dicts, or the empty dict -/
def Shw (K : PySem.W.Frag) (H : Hp) (x : V) (d : PyData) : Prop := (Dp K H x d ∧ d.hasDict = false) ∨ ∃ a, x = .ref a ∧ H a = some (.dK []) ∧ d = .dict []
def rRepr (K : PySem.W.Frag) : List V → Hp → VK → Prop := fun xs H Q => ∃ (x : V) (d : PyData), xs = [x] ∧ Shw K H x d ∧ d.showable = true ∧ d.depth ≤ 60 ∧ d.shown.length ≤ sizeLine ∧ Q (.str d.shown) H
theorem Shw.reads {pins : List (Addr × Obj)} {σ : St} {H : Hp} {s : Shared} {x : V} {u : Value} {d : PyData} (h : Shw X.K H x d) (I : Inv X pins σ H s) (r : RelV x u) : ∃ as, Reads s.heap u d as ∧ (d.hasDict = true → sysModules ∉ as) := by
  rcases h with ⟨h, nd⟩ | ⟨a, rfl, e, rfl⟩
  · obtain ⟨as, q⟩ := Dp.reads I d x u h r
    exact ⟨as, q, PyData.noDict_hsm nd⟩
  · obtain rfl : u = Value.ref a := r
    obtain ⟨_, ns, vs, kv, o, es, ep, h1, h2, h3, h4⟩ := (show ObjOk X.prog X.w H s.heap a (.dK []) from I.hok a _ e)
    cases kv
    have hes : es.toList = [] := by
      obtain ⟨_, h5, _⟩ := h4
      revert h5
      generalize es.toList = l
      intro h5
      cases h5
      rfl
    refine ⟨a :: [] ++ [], .dict h1 h2.1 h3 (by rw [hes]; exact .nil) (by rw [hes]; exact .nil), fun _ hm => ?_⟩
    have hm' : sysModules = a := by simpa using hm
    rw [hm'] at ns
    simp at ns
theorem call_repr (clr : Clr X.A) (hu : X.A.units + 64 < cLine) : CallR X (.builtin "repr") (rRepr X.K) := by
  intro pins s σ H xs us Q I r h
  obtain ⟨x, d, rfl, sh, ok, dep, few, q⟩ := h
  obtain ⟨u, rfl, ru⟩ := vals1 r
  obtain ⟨as, rd, sm⟩ := sh.reads I ru
  have fin : ∀ h' (t : Tok) tk, (∀ b o, s.heap.get? b = some o → h'.get? b = some o) → EP X pins σ Q (.str d.shown t) { s with heap := h', toks := tk } := fun h' t tk kp => ⟨.str d.shown, H, I.kept kp, ⟨t, rfl⟩, q⟩
  cases u with
  | ref a => exact repr_of_reads' rd ok sm clr (by omega) (fun _ _ z => z) fin few
  | none => cases rd; exact PySem.P.repr_of_none (fin _ _ _ fun _ _ z => z)
  | bool b => cases rd; exact PySem.P.repr_of_bool (fin _ _ _ fun _ _ z => z)
  | int i t => cases rd; exact PySem.P.repr_of_int (by simpa [PyData.showable] using ok) (fin _ _ _ fun _ _ z => z)
  | str y t => cases rd; exact PySem.P.repr_of_str (fin _ _ _ fun _ _ z => z) few
  | _ => cases rd
end
end L2


/-! a dict with one key that is None or a tuple beside ints and texts: it is stored, counted, walked by keys, its class is asked -/
namespace PySem
open Sem (wp)
section
variable {prog : Program} {w : World} {A : Around} {E : Value → Shared → Prop} {s : Shared}
/-- no stored key is this one: what is stored is carried by value -/
structure Missed (s : Shared) (k : NestedKey) (es : Array DictEntry) : Prop where
  all : ∀ e ∈ es, carriedByValue e.key = true ∧ ∃ k', NestedIs s.heap k' e.key ∧ k'.depth = 0 ∧ NestedKey.beq k' k = false
end
end PySem
namespace PySem
open Sem (wp)
section
variable {prog : Program} {w : World} {A : Around} {E : Value → Shared → Prop} {s : Shared}
end
end PySem
namespace L2
open PySem PySem.Spec PyProof.Rows
/-- a plain dict whose keys may be of any kind: what is stored, in order -/
def RawO (d : Addr) (rows : List (V × V)) : HO := .ext fun h => (d == sysModules) = false ∧ rows.length ≤ sizeLine ∧ ∃ es ep, h.DictRaw d es ep ∧ Paired (fun (r : V × V) (e : DictEntry) => RelV r.1 e.key ∧ RelV r.2 e.val) rows es.toList
def rowsK (kvs : List (Key × V)) : List (V × V) := kvs.map fun p => (kV p.1, p.2)
/-- None, or a tracked tuple of ints and texts -/
def OddK (H : Hp) (y : V) : Prop := y = .non ∨ ∃ (b : Addr) (ks : List Key), y = .ref b ∧ H b = some (.tup (ks.map kV))
def nkK : Key → NestedKey
  | .inl i => .num i
  | .inr x => .text x
theorem kV_keyIs {k : Key} {u : Value} (r : RelV (kV k) u) : keyIs k u = true := by
  cases k with
  | inl i => obtain ⟨t, rfl⟩ := (show ∃ t, u = Value.int i t from r); exact decide_eq_true rfl
  | inr x => obtain ⟨t, rfl⟩ := (show ∃ t, u = Value.str x t from r); exact decide_eq_true rfl
/-- d[y] = v, y None or a tuple, d a dict of ints and texts -/
def RPut (H : Hp) (a : Addr) (y v : V) (H' : Hp) : Prop := ∃ kvs, H a = some (.dK kvs) ∧ OddK H y ∧ kvs.length < sizeLine ∧ H' = upd H a (RawO a (rowsK kvs ++ [(y, v)]))
section
variable {X : Cx} {pins : List (Addr × Obj)} {σ : St} {H : Hp} {s : Shared} {a : Addr} {y v : V} {u r : Value} {A : Around} {E : Value → Shared → Prop}
end
end L2
namespace L2
open PySem PySem.Spec PyProof.Rows
/-- d[y] = v, y of any kind -/
def sRPut (td ty tv : TE) : TS := fun D σ H => tv σ H fun v H1 => td σ H1 fun x H2 => ty σ H2 fun y H3 => ∃ a H4, x = .ref a ∧ (DPut H3 a y v H4 ∨ RPut H3 a y v H4) ∧ D.nx σ H4
/-- the rows of a dict: of ints and texts, or of any keys -/
def RowsO (d : Addr) (u : HO) (rows : List (V × V)) : Prop := (∃ kvs, u = .dK kvs ∧ rows = rowsK kvs) ∨ u = RawO d rows
def Itkr (d : Addr) (o : Obj) (rows : List (V × V)) : It :=
  ⟨fun i H => H d = some (.frz o (RawO d rows)) ∧ i < rows.length, fun i H x H' => H' = H ∧ ∃ v, rows[i]? = some (x, v), fun i H => H d = some (.frz o (RawO d rows)) ∧ rows.length ≤ i⟩
section
variable {X : Cx} {pins : List (Addr × Obj)} {σ : St} {H : Hp} {s : Shared} {d : Addr} {o : Obj} {rows : List (V × V)}
end
theorem paired_at {α β : Type} {F : α → β → Prop} : ∀ {l₁ : List α} {l₂ : List β} {i : Nat} {a : α}, Paired F l₁ l₂ → l₁[i]? = some a → ∃ b, l₂[i]? = some b ∧ F a b
  | _, _, 0, _, .cons h _, e => by cases e; exact ⟨_, rfl, h⟩
  | _, _, i + 1, _, .cons _ t, e => paired_at (i := i) t e
  | _, _, i, _, .nil, e => by cases i <;> cases e
section
variable {P : Program} {w : World} {K : PySem.W.Frag} {tg : Expr} {d : Addr} {o : Obj} {es : Array DictEntry} {ep : Nat}
end
/-- for k in d: d of ints and texts, or of any keys (locked) -/
def iKeysO (td : TE) : TI := fun σ H R => td σ H fun x H1 => ∃ (d : Addr) (o : Obj) (u : HO) (rows : List (V × V)), x = .ref d ∧ H1 d = some (.frz o u) ∧ RowsO d u rows ∧
  ∀ J, Walk J rows.length (fun H => H d = some (.frz o u)) (fun i H x H' => H' = H ∧ ∃ v, rows[i]? = some (x, v)) → R J H1
section
variable {X : Cx} {tg e : Expr} {td : TE}
theorem call_len_raw {pr : Program} {wd : World} {A : Around} {E : Value → Shared → Prop} {s : Shared} {d : Addr} {es : Array DictEntry} {ep : Nat} {Q : Value → Shared → Prop} (hd : (d == sysModules) = false) (hm : s.heap.DictRaw d es ep) (hfit : (es.size : Int) < 2 ^ 63)
    (h : Q (.int es.size (s.toks + 1)) { s with toks := s.toks + 1 + 1 }) : wpAny (model pr wd) A (call (.builtin "len") [.ref d]) Q E s := by
  refine Calls.call_function_entry kind_len plain_len entry_len (args_len1 _) ?_
  unfold Builtin.«len»
  refine wpAny_bind (m := oneArg "len" _) (wpAny_pure ?_)
  refine wpAny_bind (m := callSpecial? (.ref d) (Str.ofString "__len__")) (wpAny_callSpecial?_slot (name := Str.ofString "__len__") hm.typeIs F.slot_dict_len
    (call_meetsIn F.slot_dict_len hm.typeIs F.entry_dict_len (F.args_dict_len_1 _) (meets_dict_len_raw d hd) ⟨es, ep, hm, ?_⟩))
  show wpAny _ _ _ _ _ { s with toks := s.toks + 1 }
  refine wpAny_bind (wpAny_holding (wpAny_pure ?_))
  refine wpAny_bind (wpAny_letGo ?_)
  show wpAny _ _ (if ((es.size : Nat) : Int) < 0 then _ else _) _ _ _
  rw [if_neg (by omega)]
  show wpAny _ _ (if ((es.size : Nat) : Int) ≥ 2 ^ 63 then _ else _) _ _ _
  rw [if_neg (by omega)]
  exact wpAny_bind (wpAny_mkInt (wpAny_pure ⟨_, rfl, h⟩))
def rLenR : List V → Hp → VK → Prop := fun xs H Q => ∃ (a : Addr) (rows : List (V × V)), xs = [V.ref a] ∧ H a = some (RawO a rows) ∧ Q (.int ((rows.length : Nat) : Int)) H
end
end L2


/-! need_feasible, where the sizes may be a dict with a key of another kind -/
namespace FT
open PySem L2 TL ClX
theorem FnOk.or {P : Program} {w : World} {K : PySem.W.Frag} {mg : Str → Option Value} {base : Heap} {CX : CXT} {k : Nat} {f : Addr} {fd : FuncData} {ps : List Str} {sp sp' : Sp} (h : FnOk P w K mg base CX k f fd ps sp) (h' : FnOk P w K mg base CX k f fd ps sp') :
    FnOk P w K mg base CX k f fd ps (fun vs H Q E => sp vs H Q E ∨ sp' vs H Q E) := by
  refine ⟨fun vs H Q E q => ?_, fun A outer s H args us vs Q E r e0 b v q => ?_⟩
  · rcases q with q | q
    · exact h.len _ _ _ _ q
    · exact h'.len _ _ _ _ q
  · rcases q with q | q
    · exact h.run A outer s H args us vs Q E r e0 b v q
    · exact h'.run A outer s H args us vs Q E r e0 b v q
def spFeasR (CF CS : Addr) : Sp := fun vs H _ E => ∃ (x b : Addr) (n : Int) (ts : List (Str × Str)) (rows : List (V × V)), vs = [.ref x, .int n, .ref b] ∧ FAt CF H x ts ∧ TreeOk ts ∧ H b = some (RawO b rows) ∧ rows.length ≠ ts.length ∧ Out H E (.e1 CS "place" .non)
def spFeasM (K : PySem.W.Frag) (CF CS : Addr) : Sp := fun vs H Q E => spFeas K CF CS vs H Q E ∨ spFeasR CF CS vs H Q E
section
variable {P : Program} {w : World} {K : PySem.W.Frag} {mg : Str → Option Value} {base : Heap}
end
end FT


/-! need_users -/
namespace FT
open PySem L2 TL ClX
section
variable {P : Program} {w : World} {K : PySem.W.Frag} {mg : Str → Option Value} {base : Heap}
theorem scUsers : FnScope ["users", "most"] ["users", "most"] (defScope s_need_users) := ⟨rfl, rfl, rfl, by decide +kernel, rfl, by decide +kernel, by decide +kernel⟩
theorem ok_users {f fI CU IU : Addr} {fd fdI dU : FuncData} (F : Fun K "need_users" "need_users" s_need_users f fd) (T : Nm mg) (I : Dn P w K mg base CX0 1 "is_integer" ["value", "least"] (spIsInt K) fI fdI) (U : Er0 P w K mg base "InvalidUsers" CU IU dU) :
    FnOk P w K mg base (L2.CX P w) 3 f fd ["users", "most"] (spUsers K CU) := by
  refine F.okX scUsers (fun vs H Q E h => ?_) (fun cdv A outer s H vs Q E hr h => ?_)
  · obtain ⟨v, m, rfl, _⟩ := h
    rfl
  · obtain ⟨v, m, rfl, d, k⟩ := h
    refine ⟨_, pss_one (ps_if (PW.pt (pw_or (pt_not (pt_val (pe_call I.ok (hr.mono (by decide)) rfl I.mgn I.kp I.bn .nil pass0 (pa_cons (pv 0) (pa_cons pe_int pa_nil))))) (pw_or1 (pt_cmpR op_gt (pv 0) (pv 1) (nomark _))))) (pss_one (ps_err0 U rfl (takes_of rfl rfl rfl rfl) hr rfl)) pss_nil), ?_⟩
    refine ⟨_, rfl, v, 1, rfl, d, _, rfl, ?_⟩
    cases v with
    | int i =>
      by_cases h1 : 1 ≤ i
      · rw [show isGe (.int i) 1 = true from decide_eq_true h1]
        refine iteF ?_
        refine ⟨_, rfl, _, rfl, i, m, rfl, rfl, _, rfl, ?_⟩
        by_cases h2 : i ≤ m
        · rw [decide_eq_false (show ¬ m < i by omega)]
          rw [if_pos (show usersOk (.int i) m = true by show (decide (1 ≤ i) && decide (i ≤ m)) = true; rw [decide_eq_true h1, decide_eq_true h2] <;> rfl)] at k
          exact iteF (k H Same.refl)
        · rw [decide_eq_true (show m < i by omega)]
          rw [if_neg (show ¬ usersOk (.int i) m = true by show ¬ (decide (1 ≤ i) && decide (i ≤ m)) = true; rw [decide_eq_false h2, Bool.and_false]; decide)] at k
          exact iteT (out0 k Same.refl)
      · rw [show isGe (.int i) 1 = false from decide_eq_false h1]
        rw [if_neg (show ¬ usersOk (.int i) m = true by show ¬ (decide (1 ≤ i) && decide (i ≤ m)) = true; rw [decide_eq_false h1, Bool.false_and]; decide)] at k
        show if true = true then _ else _
        rw [if_pos rfl]
        exact iteT (out0 k Same.refl)
    | _ =>
      show if true = true then _ else _
      rw [if_pos rfl]
      exact iteT (out0 k Same.refl)
end
end FT


namespace FT
open PySem L2 TL ClX
theorem feE_ok {CS : Addr} {ts : List (Str × Str)} {n : Int} {kvs : List (Key × V)} (h : feE CS ts n (some kvs) = none) : kvs.length = ts.length ∧ (∀ a ∈ ts.map Prod.fst, valV kvs (Sum.inr a) = some (.int (szOf kvs a)) ∧ 0 ≤ szOf kvs a) ∧ ∀ p ∈ (("" : Str) :: ts.map Prod.fst), 0 ≤ resid ts n (szOf kvs) p := by
  unfold feE at h
  rw [feas_some] at h
  by_cases el : kvs.length = ts.length
  · rw [if_neg (fun z => z el)] at h
    cases ea : (ts.map Prod.fst).all fun a => (valV kvs (Sum.inr a)).isSome with
    | false =>
      rw [if_pos ea] at h
      cases h
    | true =>
      rw [if_neg (by rw [ea]; decide)] at h
      cases eb : (ts.map Prod.fst).find? (badKey kvs) with
      | some a =>
        rw [eb] at h
        cases h
      | none =>
        rw [eb] at h
        refine ⟨el, fun a ha => ?_, fun p hp => ?_⟩
        · obtain ⟨v, hv⟩ := Option.isSome_iff_exists.mp (List.all_eq_true.mp ea a ha)
          have g := List.find?_eq_none.mp eb a ha
          unfold badKey at g
          rw [hv] at g
          unfold szOf
          rw [hv]
          cases v with
          | int i =>
            refine ⟨rfl, ?_⟩
            show 0 ≤ i
            have g' : ¬ (!decide ((0 : Int) ≤ i)) = true := g
            by_cases z : (0 : Int) ≤ i
            · exact z
            · rw [decide_eq_false z] at g'
              exact absurd rfl g'
          | _ => exact absurd rfl g
        · cases ef : ((("" : Str) :: ts.map Prod.fst).find? fun p => decide (resid ts n (szOf kvs) p < 0)) with
          | some p =>
            rw [ef] at h
            cases h
          | none =>
            have z := List.find?_eq_none.mp ef p hp
            have z' : ¬ resid ts n (szOf kvs) p < 0 := fun q => z (decide_eq_true q)
            omega
  · rw [if_pos el] at h
    cases h
def kvsOf (o : Option (List (Key × V))) : List (Key × V) := o.getD []
def numV (v : V) : Int := match v with
  | .int n => n
  | _ => 0
/-- what amounts raises -/
def amE (CU CS : Addr) (ts : List (Str × Str)) (uv : V) (o1 o2 : Option (List (Key × V))) : Option Err := (szE CU CS ts uv o1).or (feE CS ts (numV uv) o2)
def amt (o1 o2 : Option (List (Key × V))) (a : Str) : Int := szOf (kvsOf o2) a - szOf (kvsOf o1) a
def absI (z : Int) : Int := if z < 0 then -z else z
def spAmtOf (CF : Addr) : Sp := fun vs H Q _ => ∃ (x q1 q2 : Addr) (ts : List (Str × Str)) (k1 k2 : List (Key × V)), vs = [.ref x, .ref q1, .ref q2] ∧ FAt CF H x ts ∧ TreeOk ts ∧ H q1 = some (.dK k1) ∧ H q2 = some (.dK k2) ∧
  (∀ a ∈ ts.map Prod.fst, valV k1 (Sum.inr a) = some (.int (szOf k1 a))) ∧ (∀ a ∈ ts.map Prod.fst, valV k2 (Sum.inr a) = some (.int (szOf k2 a))) ∧
  ∀ p H', Same H H' → H p = none → H' p = some (.dK (tblI (ts.map Prod.fst) fun a => szOf k2 a - szOf k1 a)) → Q (.ref p) H'
def spAmounts (K : PySem.W.Frag) (CF CU CS : Addr) : Sp := fun vs H Q E => ∃ (x : Addr) (uv sv nv : V) (ts : List (Str × Str)) (o1 o2 : Option (List (Key × V))), vs = [.ref x, uv, sv, nv] ∧ FAt CF H x ts ∧ TreeOk ts ∧ IsDat K H uv ∧ SzV K H sv o1 ∧ SzV K H nv o2 ∧
  match amE CU CS ts uv o1 o2 with
  | none => ∀ p H', Same H H' → H p = none → H' p = some (.dK (tblI (ts.map Prod.fst) (amt o1 o2))) → Q (.ref p) H'
  | some e => Out H E e
def spLeast (K : PySem.W.Frag) (CF CU CS : Addr) : Sp := fun vs H Q E => ∃ (x : Addr) (uv sv nv : V) (ts : List (Str × Str)) (o1 o2 : Option (List (Key × V))), vs = [.ref x, uv, sv, nv] ∧ FAt CF H x ts ∧ TreeOk ts ∧ IsDat K H uv ∧ SzV K H sv o1 ∧ SzV K H nv o2 ∧
  match amE CU CS ts uv o1 o2 with
  | none => ∀ H', Same H H' → Q (.int ((ts.map Prod.fst).map fun a => absI (amt o1 o2 a)).sum) H'
  | some e => Out H E e
end FT


/-! Own: a dict whose keys are None, ints and texts: read, written, copied, counted, walked, made of pairs -/
namespace L2
open PySem PySem.Spec PyProof.Rows
def kN : Option Key → V
  | none => .non
  | some k => kV k
theorem kN_is {k : Option Key} {u : Value} (r : RelV (kN k) u) : nkIs k u = true := by
  cases k with
  | none =>
    obtain rfl : u = Value.none := r
    rfl
  | some k => exact kV_keyIs r
theorem kN_rel {k : Option Key} {u : Value} (h : nkIs k u = true) : RelV (kN k) u := by
  cases k with
  | none => exact nk_none h
  | some k => exact relV_key h
/-- such a dict -/
def DN (P : Program) (w : World) (d : Addr) (kvs : List (Option Key × V)) : HO := .ext fun h => (d == sysModules) = false ∧ kvs.length ≤ sizeLine ∧ ∃ vs, KV kvs vs ∧ h.DictOf (noneKind P w) d vs
theorem dn_ok {P : Program} {w : World} {H : Hp} {h : Heap} {d : Addr} {kvs : List (Option Key × V)} {vs : List (Option Key × Value)} (z : kvs.length ≤ sizeLine) (hs : (d == sysModules) = false) (rel : KV kvs vs) (dd : h.DictOf (noneKind P w) d vs) : ObjOk P w H h d (DN P w d kvs) :=
  ⟨⟨hs, z, vs, rel, dd⟩, let ⟨o, _, _, ho, _⟩ := dd; ⟨o, ho⟩, fun h1 h2 q k => let ⟨hs, z, vs, rel, dd⟩ := q; ⟨hs, z, vs, rel, dd.at k⟩⟩
theorem dn_of {P : Program} {w : World} {H : Hp} {h : Heap} {d : Addr} {kvs : List (Option Key × V)} (x : ObjOk P w H h d (DN P w d kvs)) : kvs.length ≤ sizeLine ∧ (d == sysModules) = false ∧ ∃ vs, KV kvs vs ∧ h.DictOf (noneKind P w) d vs :=
  let ⟨hs, z, r⟩ := x.1; ⟨z, hs, r⟩
theorem dn_rd {P : Program} {w : World} {H : Hp} {h : Heap} {d : Addr} {kvs : List (Option Key × V)} (ok : HOk P w H h) (e : Rd H d (DN P w d kvs)) : kvs.length ≤ sizeLine ∧ (d == sysModules) = false ∧ ∃ vs, KV kvs vs ∧ h.DictOf (noneKind P w) d vs := dn_of (rd_of ok e)
abbrev someP {α : Type} (p : Key × α) : Option Key × α := (some p.1, p.2)
theorem some_kv : ∀ {kvs : List (Key × V)} {vs : List (Key × Value)}, KV kvs vs → KV (kvs.map someP) (vs.map someP)
  | _, _, .nil => .nil
  | _, _, .cons h t => .cons ⟨congrArg some h.1, h.2⟩ (some_kv t)
theorem some_pairs {P : Program} {w : World} : ∀ {es : List DictEntry} {vs : List (Key × Value)}, Pairs (mixKind P w) es vs → Pairs (noneKind P w) es (vs.map someP)
  | _, _, .nil => .nil
  | _, _, .cons k e r => .cons k e (some_pairs r)
theorem some_dict {P : Program} {w : World} {h : Heap} {a : Addr} {vs : List (Key × Value)} (d : h.DictOf (mixKind P w) a vs) : h.DictOf (noneKind P w) a (vs.map someP) := by
  obtain ⟨o, es, ep, ho, hx, hdt, hk, hp, hn⟩ := d
  refine ⟨o, es, ep, ho, hx, hdt, fun e he => ?_, some_pairs hp, ?_⟩
  · obtain ⟨k, h1, h2⟩ := hk e he
    exact ⟨some k, h1, h2⟩
  · have e : ((vs.map someP).map (·.1)) = (vs.map (·.1)).map some := by rw [List.map_map, List.map_map] <;> rfl
    rw [e]
    rw [List.nodup_iff_pairwise_ne, List.pairwise_map]
    exact (List.nodup_iff_pairwise_ne.mp hn).imp fun h q => h (Option.some.inj q)
/-- the heap behind a[k] = v, any of these keys -/
def NPut (P : Program) (w : World) (H : Hp) (a : Addr) (k : Option Key) (v : V) (H' : Hp) : Prop :=
  ∃ kvs, (H a = some (DN P w a kvs) ∨ ∃ ks, H a = some (.dK ks) ∧ kvs = ks.map someP) ∧ kvs.length < sizeLine ∧ H' = upd H a (DN P w a (putK kvs k v))
section
variable {X : Cx} {pins : List (Addr × Obj)} {σ : St} {H : Hp} {s : Shared} {a : Addr} {k : Option Key} {kvs : List (Option Key × V)} {v : V} {u r : Value} {A : Around} {E : Value → Shared → Prop}
theorem d_setN {H' : Hp} {Q : Unit → Shared → Prop} (I : Inv X pins σ H s) (g : NPut X.prog X.w H a k v H') (ry : RelV (kN k) u) (rv : RelV v r) (h : ∀ s', Inv X pins σ H' s' → Q () s') : wpAny (model X.prog X.w) A (setItem (.ref a) u r) Q E s := by
  obtain ⟨kvs, e, l, rfl⟩ := g
  have z1 := length_putK kvs k v
  obtain ⟨hd, mu, vs, rel, dd⟩ : (a == sysModules) = false ∧ Mut (H a) ∧ ∃ vs, KV kvs vs ∧ s.heap.DictOf (noneKind X.prog X.w) a vs := by
    rcases e with e | ⟨ks, e, rfl⟩
    · obtain ⟨z, hd, vs, rel, dd⟩ := dn_of (I.hok a _ e)
      exact ⟨hd, by rw [e]; exact True.intro, vs, rel, dd⟩
    · obtain ⟨z, hd, vs, rel, dd⟩ := dk_of I.hok e
      exact ⟨hd, by rw [e]; exact True.intro, _, some_kv rel, some_dict dd⟩
  refine wpAny_setItem_pairs (hsz := by rw [← Paired.length rel]; omega) (kN_is ry) dd fun h' dd' hs => h _ ?_
  have he : ∃ q, h'.get? a = some q := let ⟨q, _, _, hq, _⟩ := dd'; ⟨q, hq⟩
  exact d_write I mu hs he (dn_ok (by omega) hd (rel.put k rv) dd')
theorem d_getN {Q : Value → Shared → Prop} (I : Inv X pins σ H s) (g : Rd H a (DN X.prog X.w a kvs)) (hv : valV kvs k = some v) (ry : RelV (kN k) u) (h : ∀ w' s', Inv X pins σ H s' → RelV v w' → Q w' s') : wpAny (model X.prog X.w) A (getItem (.ref a) u) Q E s := by
  obtain ⟨z, hd, vs, rel, dd⟩ := dn_rd I.hok g
  obtain ⟨w', hw, rw'⟩ := RelO.some_of (v := v) (o := valueAt vs k) (by rw [← hv]; exact rel.val k)
  exact wpAny_getItem_of (kN_is ry) dd.mapOf hw (h w' _ (I.tok _) rw')
theorem d_inK {Q : Value → Shared → Prop} (I : Inv X pins σ H s) (g : Rd H a (DN X.prog X.w a kvs)) (ry : RelV (kN k) u) (h : ∀ s', Inv X pins σ H s' → Q (.bool (valV kvs k).isSome) s') : wpAny (model X.prog X.w) A (compareOp .In u (.ref a)) Q E s := by
  obtain ⟨z, hd, vs, rel, dd⟩ := dn_rd I.hok g
  refine wpAny_in_of (kN_is ry) hd dd.mapOf ?_
  rw [← (rel.val k).isSome_eq]
  exact h _ (I.tok _)
theorem d_notInK {Q : Value → Shared → Prop} (I : Inv X pins σ H s) (g : Rd H a (DN X.prog X.w a kvs)) (ry : RelV (kN k) u) (h : ∀ s', Inv X pins σ H s' → Q (.bool (!(valV kvs k).isSome)) s') : wpAny (model X.prog X.w) A (compareOp .NotIn u (.ref a)) Q E s := by
  obtain ⟨z, hd, vs, rel, dd⟩ := dn_rd I.hok g
  refine wpAny_notIn_of (kN_is ry) hd dd.mapOf ?_
  rw [← (rel.val k).isSome_eq]
  exact h _ (I.tok _)
end
section
variable {X : Cx} {o i e value : Expr} {pos pos' : Pos} {td ty tv t1 t2 : TE}
def tGetN (P : Program) (w : World) (td ty : TE) : TE := fun σ H Q => td σ H fun x H1 => ty σ H1 fun y H2 => ∃ a kvs k v, x = .ref a ∧ y = kN k ∧ Rd H2 a (DN P w a kvs) ∧ valV kvs k = some v ∧ Q v H2
theorem pe_dgetN (ho : PE X o td) (hi : PE X i ty) (hs : NoSl i) : PE X (.Subscript o i pos) (tGetN X.prog X.w td ty) := by
  refine ⟨fun pins s σ H Q I h => ?_⟩
  refine subD_of PySem.F.slot_dict_getitem.lookup hs (thn (ho.run pins s σ H _ I h) fun u s1 ⟨x, H1, I1, rx, q1⟩ => thn (hi.run pins s1 σ H1 _ I1 q1) fun iv s2 ⟨y, H2, I2, ry, a, kvs, k, v, ex, ey, g, hv, q2⟩ => ?_)
  subst ex ey
  obtain rfl : u = Value.ref a := rx
  exact ⟨let ⟨_, _, _, _, dd⟩ := dn_rd I2.hok g; dd.typeIs, d_getN I2 g hv ry fun w' s3 I3 rw' => ⟨v, H2, I3, rw', q2⟩⟩
def tInK (P : Program) (w : World) (ty td : TE) : TE := fun σ H Q => ty σ H fun y H1 => td σ H1 fun x H2 => ∃ a kvs k, x = .ref a ∧ y = kN k ∧ Rd H2 a (DN P w a kvs) ∧ Q (.bl (valV kvs k).isSome) H2
theorem pc_dinK (hi : PE X i ty) (ho : PE X o td) : PC X .In i o (tInK X.prog X.w ty td) := by
  refine ⟨fun pins s σ H Q I h => ?_⟩
  refine thn (hi.run pins s σ H _ I h) fun iv s1 ⟨y, H1, I1, ry, q1⟩ => thn (ho.run pins s1 σ H1 _ I1 q1) fun u s2 ⟨x, H2, I2, rx, a, kvs, k, ex, ey, g, q2⟩ => ?_
  subst ex ey
  obtain rfl : u = Value.ref a := rx
  exact d_inK I2 g ry fun s3 I3 => ⟨.bl (valV kvs k).isSome, H2, I3, rfl, q2⟩
def tNotInK (P : Program) (w : World) (ty td : TE) : TE := fun σ H Q => ty σ H fun y H1 => td σ H1 fun x H2 => ∃ a kvs k, x = .ref a ∧ y = kN k ∧ Rd H2 a (DN P w a kvs) ∧ Q (.bl (!(valV kvs k).isSome)) H2
theorem pc_dnotinK (hi : PE X i ty) (ho : PE X o td) : PC X .NotIn i o (tNotInK X.prog X.w ty td) := by
  refine ⟨fun pins s σ H Q I h => ?_⟩
  refine thn (hi.run pins s σ H _ I h) fun iv s1 ⟨y, H1, I1, ry, q1⟩ => thn (ho.run pins s1 σ H1 _ I1 q1) fun u s2 ⟨x, H2, I2, rx, a, kvs, k, ex, ey, g, q2⟩ => ?_
  subst ex ey
  obtain rfl : u = Value.ref a := rx
  exact d_notInK I2 g ry fun s3 I3 => ⟨.bl (!(valV kvs k).isSome), H2, I3, rfl, q2⟩
def sNPut (P : Program) (w : World) (td ty tv : TE) : TS := fun D σ H => tv σ H fun v H1 => td σ H1 fun x H2 => ty σ H2 fun y H3 => ∃ a k H4, x = .ref a ∧ y = kN k ∧ NPut P w H3 a k v H4 ∧ D.nx σ H4
/-- one of two readings -/
theorem PE.or (h1 : PE X e t1) (h2 : PE X e t2) : PE X e (fun σ H Q => t1 σ H Q ∨ t2 σ H Q) := ⟨fun pins s σ H Q I h => h.elim (h1.run pins s σ H Q I) (h2.run pins s σ H Q I)⟩
theorem PS.or {st : Stmt} {t1 t2 : TS} (h1 : PS X st t1) (h2 : PS X st t2) : PS X st (fun D σ H => t1 D σ H ∨ t2 D σ H) := ⟨fun pins s σ H D I h => h.elim (h1.run pins s σ H D I) (h2.run pins s σ H D I)⟩
/-- isinstance(d, dict) -/
theorem call_isiN : CallR X (.builtin "isinstance") (fun xs H Q => ∃ (a : Addr) (kvs : List (Option Key × V)), xs = [.ref a, .ty "dict"] ∧ Rd H a (DN X.prog X.w a kvs) ∧ Q (.bl true) H) := by
  intro pins s σ H xs us Q I r h
  obtain ⟨a, kvs, rfl, ha, q⟩ := h
  obtain ⟨u1, u2, rfl, r1, r2⟩ := vals2 r
  cases (show u1 = Value.ref a from r1)
  cases (show u2 = Value.type "dict" from r2)
  obtain ⟨_, _, vs, _, o, es, ep, ho, hx, _⟩ := dn_rd I.hok ha
  exact PySem.W.kia_one PySem.W.kitx_dict I.kIn ⟨o, ho, hx.1⟩ (kit_ty (r := true) (by decide +kernel)) (fun z => nomatch z) fun tk => ⟨.bl true, H, I.tok tk, rfl, q⟩
theorem call_lenN : CallR X (.builtin "len") (fun xs H Q => ∃ (a : Addr) (kvs : List (Option Key × V)), xs = [V.ref a] ∧ Rd H a (DN X.prog X.w a kvs) ∧ Q (.int ((kvs.length : Nat) : Int)) H) := by
  intro pins s σ H xs us Q I r h
  obtain ⟨a, kvs, rfl, ha, q⟩ := h
  obtain ⟨u, rfl, ru⟩ := vals1 r
  obtain rfl : u = .ref a := ru
  obtain ⟨z, hs, vs, rel, o, es, ep, ho, hx, hdt, hk, hp, hn⟩ := dn_rd I.hok ha
  have hl : kvs.length = es.size := by
    have l := hp.length
    have l2 := Paired.length rel
    rw [Array.length_toList] at l
    omega
  refine call_len_raw hs ⟨o, ho, hx, hdt⟩ (by rw [← hl]; rw [sizeLine_eq] at z; omega) ?_
  rw [← hl]
  exact ⟨.int ((kvs.length : Nat) : Int), H, I.tok _, ⟨_, rfl⟩, q⟩
/-- dict(d) -/
theorem call_dictN : CallR X (.type "dict") (fun xs H Q => ∃ (a : Addr) (kvs : List (Option Key × V)), xs = [.ref a] ∧ Rd H a (DN X.prog X.w a kvs) ∧ ∀ p, H p = none → Q (.ref p) (upd H p (DN X.prog X.w p kvs))) := by
  intro pins s σ H xs us Q I r q
  obtain ⟨a, kvs, ex, hd, q⟩ := q
  subst ex
  obtain ⟨u, eu, rx⟩ := vals1 r
  subst eu
  cases rx
  obtain ⟨z, lo, vs, rel, dd⟩ := dn_rd I.hok hd
  refine kt_call_dict lo dd (by rw [← Paired.length rel]; exact z) fun h' d' hs => ?_
  have hm : (s.heap.objs.size == sysModules) = false := beq_eq_false_iff_ne.mpr (Nat.ne_of_gt I.big)
  exact ⟨.ref s.heap.objs.size, upd H s.heap.objs.size (DN X.prog X.w s.heap.objs.size kvs), I.laid (t' := s.toks) (fun b u e => (hs.2 b (Nat.ne_of_lt (Heap.lt_size e))).trans (Heap.get?_push_of_some _ e)) (Nat.le_refl _)
    (dn_ok z hm rel d'), rfl, q _ (I.hok.fresh (Nat.le_refl _))⟩
end
def mergeN (kvs more : List (Option Key × V)) : List (Option Key × V) := more.foldl (fun acc kv => putK acc kv.1 kv.2) kvs
theorem KV.mergeN : ∀ {more : List (Option Key × V)} {rs : List (Option Key × Value)} {kvs : List (Option Key × V)} {vs : List (Option Key × Value)}, KV more rs → KV kvs vs → KV (mergeN kvs more) (merged vs rs) := by
  intro more rs kvs vs r
  unfold KV at r
  induction r generalizing kvs vs with
  | nil => intro q; exact q
  | @cons p q ps qs h t ih =>
    intro r0
    have e : KV (putK kvs p.1 p.2) (stored vs q.1 q.2) := by
      have := r0.put p.1 h.2
      rw [← h.1]; exact this
    exact ih e
theorem length_mergeN : ∀ (more kvs : List (Option Key × V)), (mergeN kvs more).length ≤ kvs.length + more.length
  | [], kvs => Nat.le_refl _
  | p :: more, kvs => by
    have h1 := length_mergeN more (putK kvs p.1 p.2)
    have h2 := length_putK kvs p.1 p.2
    show (mergeN (putK kvs p.1 p.2) more).length ≤ _
    rw [List.length_cons]
    omega
section
variable {X : Cx}
theorem pairs_ofN {pins : List (Addr × Obj)} {σ : St} {H : Hp} {s : Shared} (I : Inv X pins σ H s) : ∀ {ps : List Addr} {kvs : List (Option Key × V)}, Paired (fun p kv => SqT X.K H p [kN kv.1, kv.2]) ps kvs →
    ∃ (prs : List (Option Key × Value)) (pvs : List (Value × Value)), KV kvs prs ∧ prs.length = ps.length ∧ pvs.length = ps.length ∧ ∀ (j : Nat) (k v : Value), pvs[j]? = some (k, v) → ∃ (b : Addr) (kk : Option Key), ps[j]? = some b ∧ IsTup s.heap b #[k, v] ∧ prs[j]? = some (kk, v) ∧ nkIs kk k = true
  | _, _, .nil => ⟨[], [], .nil, rfl, rfl, fun j k v e => by simp at e⟩
  | _, _, .cons (a := p) (b := kv) h t => by
    obtain ⟨prs, pvs, r, hl, hl2, hp⟩ := pairs_ofN I t
    obtain ⟨its, rv, ht, _⟩ := I.tuple h
    obtain ⟨u, y, ei, ru, ry⟩ := vals2 rv
    subst ei
    refine ⟨(kv.1, y) :: prs, (u, y) :: pvs, .cons ⟨rfl, ry⟩ r, by rw [List.length_cons, List.length_cons, hl], by rw [List.length_cons, List.length_cons, hl2], fun j k v e => ?_⟩
    cases j with
    | zero =>
      have e' : (u, y) = (k, v) := Option.some.inj e
      cases e'
      exact ⟨p, kv.1, rfl, ht, rfl, kN_is ru⟩
    | succ j =>
      obtain ⟨b, kk, e1, e2, e3, e4⟩ := hp j k v (by simpa using e)
      exact ⟨b, kk, by simpa using e1, e2, by simpa using e3, e4⟩
theorem call_dictPN (hcalm : X.calm = true) : CallR X (.type "dict") (fun xs H Q => ∃ (a : Addr) (ps : List Addr) (kvs : List (Option Key × V)), xs = [.ref a] ∧ SqL X.K H a (ps.map V.ref) ∧ Paired (fun p kv => SqT X.K H p [kN kv.1, kv.2]) ps kvs ∧
    ∀ p, H p = none → Q (.ref p) (upd H p (DN X.prog X.w p (mergeN [] kvs)))) := by
  intro pins s σ H xs us Q I r q
  obtain ⟨a, ps, kvs, ex, hq, hp, q⟩ := q
  subst ex
  obtain ⟨u, eu, rx⟩ := vals1 r
  subst eu
  cases rx
  obtain ⟨its, rv, pl, hz⟩ := I.list hq
  have ei := refs_at rv
  subst ei
  rw [List.length_map] at hz
  obtain ⟨prs, pvs, rel, hl, hl2, hpr⟩ := pairs_ofN I hp
  obtain ⟨o, n, ho, hc, hd, hdat⟩ := pl
  refine PySem.call_dict_pairs (knd := noneKind X.prog X.w) (kvs := prs) (PairArg.list a (ps.map Value.ref).toArray (fun j => ps.getD j 0) pvs) (I.ok.hd hcalm) ⟨⟨o, n, ho, hc, hd, hdat⟩, by simp [hl2], fun j k v e => ?_⟩ ⟨by rw [hl, hl2], fun j k v e => ?_⟩ (by rw [hl2]; exact hz) fun h' tk hd' k => ?_
  · obtain ⟨b, kk, e1, ⟨ob, t1, t2, m, t3⟩, e3, e4⟩ := hpr j k v e
    refine ⟨by simp [e1], .inl ?_⟩
    have eb : ps.getD j 0 = b := by rw [List.getD_eq_getElem?_getD, e1] <;> rfl
    show s.heap.IsTuple (ps.getD j 0) _
    rw [eb]
    exact ⟨ob, t1, t2, m, t3⟩
  · obtain ⟨b, kk, e1, e2, e3, e4⟩ := hpr j k v e
    exact ⟨kk, e3, e4⟩
  · have hm : (s.heap.objs.size == sysModules) = false := beq_eq_false_iff_ne.mpr (Nat.ne_of_gt I.big)
    have hlen : (mergeN [] kvs).length ≤ sizeLine := by
      refine Nat.le_trans (length_mergeN kvs []) ?_
      rw [List.length_nil, Nat.zero_add, Paired.length rel, hl]
      exact hz
    exact ⟨.ref s.heap.objs.size, upd H s.heap.objs.size (DN X.prog X.w s.heap.objs.size (mergeN [] kvs)), I.laid (t' := tk) (fun b o e => k b o (by simp) e) (Nat.le_refl _) (dn_ok hlen hm (KV.mergeN rel .nil) hd'), rfl, q _ (I.hok.fresh (Nat.le_refl _))⟩
end
/-! ### its keys in order -/
def rowsN (kvs : List (Option Key × V)) : List (V × V) := kvs.map fun p => (kN p.1, p.2)
def Itkn (P : Program) (w : World) (d : Addr) (o : Obj) (kvs : List (Option Key × V)) : It :=
  ⟨fun i H => H d = some (.frz o (DN P w d kvs)) ∧ i < kvs.length, fun i H x H' => H' = H ∧ ∃ k v, kvs[i]? = some (k, v) ∧ x = kN k, fun i H => H d = some (.frz o (DN P w d kvs)) ∧ kvs.length ≤ i⟩
theorem rows_pair {P : Program} {w : World} : ∀ {kvs : List (Option Key × V)} {vs : List (Option Key × Value)} {es : List DictEntry}, KV kvs vs → Pairs (noneKind P w) es vs → Paired (fun (r : V × V) (e : DictEntry) => RelV r.1 e.key ∧ RelV r.2 e.val) (rowsN kvs) es
  | _, _, _, .nil, .nil => .nil
  | _, _, _, .cons h t, .cons k e r => .cons ⟨kN_rel (h.1 ▸ k), e ▸ h.2⟩ (rows_pair t r)
section
variable {X : Cx} {pins : List (Addr × Obj)} {σ : St} {H : Hp} {s : Shared} {d : Addr} {o : Obj} {kvs : List (Option Key × V)}
theorem Inv.frzN (I : Inv X pins σ H s) (h : H d = some (.frz o (DN X.prog X.w d kvs))) :
    (d == sysModules) = false ∧ s.heap.get? d = some o ∧ o.ExactDict ∧ ∃ (es : Array DictEntry) (ep : Nat), o.data = .dict es ep ∧ es.size = kvs.length ∧ Paired (fun (r : V × V) (e : DictEntry) => RelV r.1 e.key ∧ RelV r.2 e.val) (rowsN kvs) es.toList := by
  obtain ⟨hd, x⟩ := (show s.heap.get? d = some o ∧ ObjOk X.prog X.w H s.heap d (DN X.prog X.w d kvs) from I.hok d _ h)
  obtain ⟨z, hs, vs, rel, o', es, ep, ho, hx, hdt, hk, hp, hn⟩ := dn_of x
  rw [hd] at ho
  cases ho
  have l := hp.length
  have l2 := Paired.length rel
  rw [Array.length_toList] at l
  exact ⟨hs, hd, hx, es, ep, hdt, by omega, rows_pair rel hp⟩
end
section
variable {P : Program} {w : World} {K : PySem.W.Frag} {tg : Expr} {d : Addr} {o : Obj} {es : Array DictEntry} {ep : Nat}
theorem turn_keysN {kvs : List (Option Key × V)} (it : Addr) (hod : o.data = .dict es ep) : Turn P w K tg (Itkn P w d o kvs) [it] it (fun i h => h.IsKeyIter it d i kvs.length ep) where
  mem := by simp
  obj := fun i h st b hb => by
    have e : b = it := by simpa using hb
    subst e
    obtain ⟨oi, e, c, dd⟩ := st
    exact ⟨oi, e, fun v z => by rw [dd] at z; cases z⟩
  keep := fun i h h' st k => st.at fun oi e => k it (by simp) oi e
  item := by
    intro X hP hw hK hc i pins s σ H E I hf st hg
    subst hP hw hK
    obtain ⟨hd, hi⟩ := hg
    obtain ⟨f0, f1, f2, f3, f4, f5⟩ := hf it (by simp)
    obtain ⟨hs, hgd, hx, es', ep', hdt, hsz, ent⟩ := I.frzN hd
    obtain ⟨rfl, rfl⟩ := dict_ep hod hdt
    obtain ⟨⟨k, v⟩, hkv⟩ : ∃ p, kvs[i]? = some p := ⟨kvs[i], List.getElem?_eq_getElem hi⟩
    obtain ⟨en, hen, hkey, _⟩ := paired_at ent (show (rowsN kvs)[i]? = some (kN k, v) by unfold rowsN; rw [List.getElem?_map, hkv] <;> rfl)
    refine next_key_item st hgd hdt hsz (by rw [← Array.getElem?_toList]; exact hen) fun h' st' sb => ?_
    have I1 : Inv X pins σ H { s with heap := h' } := I.turned (t' := s.toks) (fun b ob hb e => (sb.2 b hb).trans e) f0 f1 f3 f4 f5
    obtain ⟨oi, e, c, dd⟩ := id st'
    exact ⟨en.key, rfl, go_of (s := { s with heap := h' }) e c dd (by decide) ⟨kN k, H, I1, hkey, ⟨rfl, k, v, hkv, rfl⟩, st', fun b hb => (hf b hb).1⟩⟩
  done := by
    intro X hP hw hK hc i pins s σ H E I hf st hg
    subst hP hw hK
    obtain ⟨hd, hi⟩ := hg
    obtain ⟨f0, f1, f2, f3, f4, f5⟩ := hf it (by simp)
    obtain ⟨hs, hgd, hx, es', ep', hdt, hsz, ent⟩ := I.frzN hd
    obtain ⟨rfl, rfl⟩ := dict_ep hod hdt
    exact next_key_end (I.ok.hd hc) st hgd hdt hsz hi fun h' eb => ⟨rfl, I.turned (t' := s.toks) (fun b ob hb e => eb b ob hb e) f0 f1 f3 f4 f5⟩
  self := fun A i s Q E st h => by
    refine wpAny_pyIter_slot st.typeIs F.slot_dict_keyiterator_iter (wpAny_call_entry F.slot_dict_keyiterator_iter st.typeIs F.entry_dict_keyiterator_iter ?_ (F.args_dict_keyiterator_iter_1 _))
    show wpAny _ _ (ret (.ref it)) _ _ s
    exact wpAny_pure ⟨_, rfl, "dict_keyiterator", _, st.typeIs, F.slot_dict_keyiterator_next.lookup, h⟩
theorem walk_keysN {kvs : List (Option Key × V)} : Walk (Itkn P w d o kvs) kvs.length (fun H => H d = some (.frz o (DN P w d kvs))) (fun i H x H' => H' = H ∧ ∃ k v, kvs[i]? = some (k, v) ∧ x = kN k) :=
  ⟨fun _ _ hi q => ⟨q, hi⟩, fun _ q => ⟨q, Nat.le_refl _⟩, fun _ _ _ _ _ _ y => y⟩
end
def iKeysN (P : Program) (w : World) (td : TE) : TI := fun σ H R => td σ H fun x H1 => ∃ (d : Addr) (o : Obj) (kvs : List (Option Key × V)), x = .ref d ∧ H1 d = some (.frz o (DN P w d kvs)) ∧ R (Itkn P w d o kvs) H1
section
variable {X : Cx} {tg e : Expr} {td : TE}
end
end L2


/-! need_feasible, need_sizes, is_feasible, residents: the sizes may be a dict with None among its keys -/
namespace FT
open PySem L2 TL ClX
/-- sizes: of any kind, a dict of ints and texts, or one with None among its keys -/
def SzN (P : Program) (w : World) (K : PySem.W.Frag) (H : Hp) (sv : V) (o : Option (List (Key × V))) : Prop := SzV K H sv o ∨ (o = none ∧ ∃ (b : Addr) (kvs : List (Option Key × V)), sv = .ref b ∧ H b = some (DN P w b kvs) ∧ (kvs.map (·.1)).Nodup ∧ none ∈ kvs.map (·.1))
theorem SzN.mono {P : Program} {w : World} {K : PySem.W.Frag} {H H' : Hp} {sv : V} {o : Option (List (Key × V))} (s : Same H H') (h : SzN P w K H sv o) : SzN P w K H' sv o := by
  rcases h with h | ⟨e, b, kvs, e1, e2, e3⟩
  · exact .inl (h.mono s)
  · exact .inr ⟨e, b, kvs, e1, s _ _ e2, e3⟩
theorem nodup_leN {α : Type} [DecidableEq α] : ∀ {a b : List α}, a.Nodup → (∀ x ∈ a, x ∈ b) → a.length ≤ b.length
  | [], b, _, _ => Nat.zero_le _
  | x :: a, b, nd, sub => by
    obtain ⟨h1, h2⟩ := List.nodup_cons.mp nd
    have hx := sub x List.mem_cons_self
    have := nodup_leN (b := b.erase x) h2 fun y hy => (List.mem_erase_of_ne fun e => h1 (by rw [← e]; exact hy)).mpr (sub y (List.mem_cons_of_mem _ hy))
    rw [List.length_erase_of_mem hx] at this
    have pos := List.length_pos_of_mem hx
    rw [List.length_cons]
    omega
/-- not all flags are there -/
theorem dn_short {ts : List (Str × Str)} (o : TreeOk ts) {kvs : List (Option Key × V)} (nd : (kvs.map (·.1)).Nodup) (mn : none ∈ kvs.map (·.1)) (l : kvs.length = ts.length) : ((ts.map Prod.fst).all fun a => (valV kvs (some (Sum.inr a))).isSome) = false := by
  rw [Bool.eq_false_iff]
  intro h
  rw [List.all_eq_true] at h
  have sub : ∀ k ∈ (none :: (ts.map Prod.fst).map fun a => some (Sum.inr a : Key)), k ∈ kvs.map (·.1) := fun k hk => by
    rcases List.mem_cons.mp hk with rfl | hk
    · exact mn
    · obtain ⟨a, ha, rfl⟩ := List.mem_map.mp hk
      have := h a ha
      rw [← valV_any, List.any_eq_true] at this
      obtain ⟨p, hp, e⟩ := this
      exact List.mem_map.mpr ⟨p, hp, of_decide_eq_true e⟩
  have nd2 : (none :: (ts.map Prod.fst).map fun a => some (Sum.inr a : Key)).Nodup := by
    refine List.nodup_cons.mpr ⟨fun z => ?_, ?_⟩
    · obtain ⟨a, _, e⟩ := List.mem_map.mp z
      cases e
    · rw [List.nodup_iff_pairwise_ne, List.pairwise_map]
      exact (List.nodup_iff_pairwise_ne.mp o.nd).imp fun h q => h (Sum.inr.inj (Option.some.inj q))
  have := nodup_leN nd2 sub
  rw [List.length_cons, List.length_map, List.length_map, List.length_map, l] at this
  omega
def spFeasK (P : Program) (w : World) (CF CS : Addr) : Sp := fun vs H _ E => ∃ (x b : Addr) (n : Int) (ts : List (Str × Str)) (kvs : List (Option Key × V)), vs = [.ref x, .int n, .ref b] ∧ FAt CF H x ts ∧ TreeOk ts ∧ H b = some (DN P w b kvs) ∧ (kvs.map (·.1)).Nodup ∧ none ∈ kvs.map (·.1) ∧ Out H E (.e1 CS "place" .non)
def spFeasN (P : Program) (w : World) (K : PySem.W.Frag) (CF CS : Addr) : Sp := fun vs H Q E => ∃ (x : Addr) (n : Int) (sv : V) (ts : List (Str × Str)) (o : Option (List (Key × V))), vs = [.ref x, .int n, sv] ∧ FAt CF H x ts ∧ TreeOk ts ∧ SzN P w K H sv o ∧ Res H Q E (feE CS ts n o)
def spNSizesN (P : Program) (w : World) (K : PySem.W.Frag) (CF CU CS : Addr) : Sp := fun vs H Q E => ∃ (x : Addr) (uv sv : V) (ts : List (Str × Str)) (o : Option (List (Key × V))), vs = [.ref x, uv, sv] ∧ FAt CF H x ts ∧ TreeOk ts ∧ IsDat K H uv ∧ SzN P w K H sv o ∧ Res H Q E (szE CU CS ts uv o)
def spIsFea (P : Program) (w : World) (K : PySem.W.Frag) (CF CU : Addr) : Sp := fun vs H Q E => ∃ (x : Addr) (uv sv : V) (ts : List (Str × Str)) (o : Option (List (Key × V))), vs = [.ref x, uv, sv] ∧ FAt CF H x ts ∧ TreeOk ts ∧ IsDat K H uv ∧ SzN P w K H sv o ∧
  if usersOk uv (10 ^ 30) = true then ∃ n : Int, uv = .int n ∧ ∀ H', Same H H' → Q (.bl (feas ts n o).isNone) H' else Out H E (.e0 CU)
def spResN (P : Program) (w : World) (K : PySem.W.Frag) (CF CU CS : Addr) : Sp := fun vs H Q E => ∃ (x : Addr) (uv sv : V) (ts : List (Str × Str)) (o1 : Option (List (Key × V))), vs = [.ref x, uv, sv] ∧ FAt CF H x ts ∧ TreeOk ts ∧ IsDat K H uv ∧ SzN P w K H sv o1 ∧
  match szE CU CS ts uv o1 with
  | none => ∃ (n : Int) (kvs : List (Key × V)), uv = .int n ∧ o1 = some kvs ∧ ∀ p H', Same H H' → H p = none → H' p = some (.dK (tblI ("" :: ts.map Prod.fst) (resid ts n (szOf kvs)))) → Q (.ref p) H'
  | some e => Out H E e
theorem szE_parts {CU CS : Addr} {ts : List (Str × Str)} {uv : V} {o : Option (List (Key × V))} (h : szE CU CS ts uv o = none) : ∃ n : Int, uv = .int n ∧ ∃ kvs, o = some kvs ∧ feas ts n (some kvs) = none := by
  unfold szE at h
  by_cases u : usersOk uv (10 ^ 30) = true
  · rw [if_pos u] at h
    cases uv with
    | int n =>
      cases o with
      | none => cases h
      | some kvs => exact ⟨n, rfl, kvs, rfl, Option.map_eq_none_iff.mp h⟩
    | _ => cases u
  · rw [if_neg u] at h
    cases h
section
variable {P : Program} {w : World} {K : PySem.W.Frag} {mg : Str → Option Value} {base : Heap}
theorem ok_feasK {f fR fI CF CS IS p1 g1 : Addr} {fd fdR fdI dS fd1 : FuncData} (F : Fun K "need_feasible" "need_feasible" s_need_feasible f fd) (T : Nm mg) (O : FoC K CF) (S : Er1 P w K mg base "InvalidSizes" "place" CS IS dS)
    (R : Dn P w K mg base CX0 4 "residents_of" ["forest", "users", "sizes"] (spResid CF) fR fdR) (I : Dn P w K mg base CX0 1 "is_integer" ["value", "least"] (spIsInt K) fI fdI) (L1 : Pr1 P w K mg base CF "flags" (spFFlags CF) p1 g1 fd1) :
    FnOk P w K mg base (L2.CX P w) 5 f fd ["forest", "users", "sizes"] (spFeasK P w CF CS) := by
  refine F.okX scFe (fun vs H Q E h => ?_) (fun cdv A outer s H vs Q E hr h => ?_)
  · obtain ⟨x, b, n, ts, kvs, rfl, _⟩ := h
    rfl
  · obtain ⟨x, b, n, ts, kvs, rfl, fa, o, hb, ndk, mn, k⟩ := h
    have hu := hu_of hr
    have hr2 : Room 2 _ := hr.mono (by decide)
    have big : 1000 ≤ sizeLine := by decide
    have few := o.few
    refine ⟨_, pss_cons (ps_if (PW.pt (pw_or (pt_not (pt_val (pe_callB call_isiN (by rfl) T.isi (by decide +kernel) (pa_cons (pv 2) (pa_cons (pe_bltn (v := .ty "dict") (u := .type "dict") (by rfl) T.dct (by decide +kernel) rfl) pa_nil)))))
        (pw_or1 (pt_cmpR op_ne (pe_callB call_lenN (by rfl) T.len PySem.boot_len (pa_cons (pv 2) pa_nil)) (pe_callB call_len_seq (by rfl) T.len PySem.boot_len (pa_cons (pe_prop (pv 0) O.cl L1.pr L1.fn hr2 L1.bn .nil pass0 (by rfl)) pa_nil)) (nomark _)))))
        (pss_one (ps_err1 S rfl (takes_of rfl rfl rfl rfl) hr2 rfl pe_non)) pss_nil)
      (pss_cons (ps_if (pt_not (pt_val (pe_callB (cr_all rfl) (by rfl) T.all (by decide +kernel) (pa_cons (pe_lc (own := [("name", 3)]) (g := gName 3) (tt := tYes) (te := tInK P w (tVar 3) (tVar 2)) rfl scFe.nd (pi_list (pe_prop (pv 0) O.cl L1.pr L1.fn hr2 L1.bn .nil pass0 (by rfl)))
          (blkOk_by (N := NFe) (sc := defScope s_need_feasible) (by decide +kernel))
          (fun _ _ _ _ _ => pg_name (i := 3) scFe.nd rfl (Or.inl rfl)) (fun _ _ _ _ _ => pts_nil) (fun _ _ _ _ _ => pe_cmp (pc_dinK (pv 3) (pv 2)) rfl)) pa_nil))))
        (pss_one (ps_err1 S rfl (takes_of rfl rfl rfl rfl) hr2 rfl pe_non)) pss_nil)
      (pss_cons (ps_for (passes_of rfl) rfl (pi_list (pe_prop (pv 0) O.cl L1.pr L1.fn hr2 L1.bn .nil pass0 (by rfl))) (pg_name (i := 3) scFe.nd rfl (.inl rfl))
        (pss_one (ps_if (pt_not (pt_val (pe_call I.ok (hr.mono (by decide)) rfl I.mgn I.kp I.bn .nil pass0 (pa_cons (pe_dget hu (pv 2) (pv 3) (fun _ _ => rfl)) (pa_cons pe_int pa_nil))))) (pss_one (ps_err1 S rfl (takes_of rfl rfl rfl rfl) hr2 rfl (pv 3))) pss_nil)))
      (pss_cons (ps_set (i := 4) scFe.nd rfl (.inl rfl) (pe_call R.ok hr rfl R.mgn R.kp R.bn .nil pass0 (pa_cons (pv 0) (pa_cons (pv 1) (pa_cons (pv 2) pa_nil)))))
      (pss_one (ps_lock (ps_for (passes_of rfl) rfl (pi_keys (pv 4)) (pg_name (i := 5) scFe.nd rfl (.inl rfl))
        (pss_one (ps_if (pt_cmpR op_lt (pe_dget hu (pv 4) (pv 5) (fun _ _ => rfl)) pe_int (nomark _)) (pss_one (ps_err1 S rfl (takes_of rfl rfl rfl rfl) hr2 rfl (pv 5))) pss_nil)))))))), ?_⟩
    obtain ⟨dx, dq, hx, hd⟩ := id fa
    refine ⟨_, rfl, b, kvs, rfl, .inl hb, _, rfl, iteF ?_⟩
    refine ⟨_, rfl, b, kvs, rfl, .inl hb, ?_⟩
    refine ⟨_, rfl, x, dx, _, rfl, hx, x, ts, rfl, fa, fun pf nf => ⟨pf, _, rfl, .inl (SqL.of upd_same), rfl, _, rfl, ?_⟩⟩
    rw [List.length_map, List.length_map, len_int]
    have s1 := same_new (o := .lst ((ts.map Prod.fst).map V.str)) nf
    obtain ⟨H1, e1⟩ : ∃ X, X = upd H pf (.lst ((ts.map Prod.fst).map V.str)) := ⟨_, rfl⟩
    rw [← e1] at s1 ⊢
    by_cases el : kvs.length = ts.length
    · rw [decide_eq_true el]
      refine iteF ?_
      refine ⟨_, rfl, x, dx, _, rfl, s1 _ _ hx, x, ts, rfl, fa.mono s1, fun pg ng => ⟨pg, rfl, ⟨_, SqL.of upd_same⟩, fun D nD => ?_⟩⟩
      obtain ⟨H2, e2⟩ : ∃ X, X = upd H1 pg (.lst ((ts.map Prod.fst).map V.str)) := ⟨_, rfl⟩
      have s12 : Same H1 H2 := e2 ▸ same_new ng
      have a2 : H2 pg = some (.lst ((ts.map Prod.fst).map V.str)) := by rw [e2]; exact upd_same
      have s2 := s1.trans s12
      rw [← e2] at nD ⊢
      refine lc_it walk_list (fun i H' => Same H2 H' ∧ H' D = some (.lst ((((ts.map Prod.fst).take i).map fun a => (valV kvs (some (Sum.inr a))).isSome).map V.bl))) ⟨same_new nD, upd_same⟩ (fun i H' _ z => SqL.of (z.1 _ _ a2)) ?_ ?_
      · intro i y Ha Hb hi ⟨q1, q2⟩ ⟨eb, ex⟩
        subst eb
        obtain ⟨a, ha, rfl⟩ := map_of ex
        refine ⟨rfl, ?_⟩
        refine ⟨_, rfl, _, rfl, b, kvs, some (Sum.inr a), rfl, rfl, .inl (q1 _ _ (s2 _ _ hb)), _, q2, ?_, Same.put q1 nD, ?_⟩
        · rw [List.length_map, List.length_map, List.length_take, List.length_map]
          omega
        · rw [upd_same, take_more ha, List.map_append, List.map_append] <;> rfl
      · intro H3 ⟨q1, q2⟩
        have s3 := s2.trans q1
        rw [List.length_map, List.take_length] at q2
        refine ⟨D, _, rfl, SqL.of q2, _, rfl, ?_⟩
        have eall : (((ts.map Prod.fst).map fun a => (valV kvs (some (Sum.inr a))).isSome)).all id = (ts.map Prod.fst).all fun a => (valV kvs (some (Sum.inr a))).isSome := by rw [List.all_map] <;> rfl
        rw [eall, dn_short o ndk mn el]
        exact iteT (out1 (H := H) k s3)
    · rw [decide_eq_false el]
      exact iteT (out1 (H := H) k s1)
theorem ok_feasN {f fR fI CF CS IS p1 g1 : Addr} {fd fdR fdI dS fd1 : FuncData} (F : Fun K "need_feasible" "need_feasible" s_need_feasible f fd) (T : Nm mg) (O : FoC K CF) (S : Er1 P w K mg base "InvalidSizes" "place" CS IS dS)
    (R : Dn P w K mg base CX0 4 "residents_of" ["forest", "users", "sizes"] (spResid CF) fR fdR) (I : Dn P w K mg base CX0 1 "is_integer" ["value", "least"] (spIsInt K) fI fdI) (L1 : Pr1 P w K mg base CF "flags" (spFFlags CF) p1 g1 fd1) :
    FnOk P w K mg base (L2.CX P w) 5 f fd ["forest", "users", "sizes"] (spFeasN P w K CF CS) := by
  refine (FnOk.or (ok_feas F T O S R I L1) (ok_feasK F T O S R I L1)).imp fun vs H Q E h => ?_
  obtain ⟨x, n, sv, ts, so, e, fa, o, z, k⟩ := h
  rcases z with z | ⟨rfl, b, kvs, rfl, hb, nd, mn⟩
  · exact .inl ⟨x, n, sv, ts, so, e, fa, o, z, k⟩
  · exact .inr ⟨x, b, n, ts, kvs, e, fa, o, hb, nd, mn, k⟩
theorem scNSzN : FnScope ["forest", "users", "sizes"] ["forest", "users", "sizes"] (defScope s_need_sizes) := ⟨rfl, rfl, rfl, by decide +kernel, rfl, by decide +kernel, by decide +kernel⟩
theorem ok_nsizesN {f fU fF CF CU CS : Addr} {fd fdU fdF : FuncData} {tm : Tok} (F : Fun K "need_sizes" "need_sizes" s_need_sizes f fd) (gM : mg "MOST_COUNTED" = some (.int (10 ^ 30) tm)) (U : Dn P w K mg base (L2.CX P w) 3 "need_users" ["users", "most"] (spUsers K CU) fU fdU)
    (G : Dn P w K mg base (L2.CX P w) 5 "need_feasible" ["forest", "users", "sizes"] (spFeasN P w K CF CS) fF fdF) : FnOk P w K mg base (L2.CX P w) 6 f fd ["forest", "users", "sizes"] (spNSizesN P w K CF CU CS) := by
  refine F.okX scNSzN (fun vs H Q E h => ?_) (fun cdv A outer s H vs Q E hr h => ?_)
  · obtain ⟨x, uv, sv, ts, o, rfl, _⟩ := h
    rfl
  · obtain ⟨x, uv, sv, ts, so, rfl, fa, o, du, hz, k⟩ := h
    refine ⟨_, pss_cons (ps_expr (pe_call U.ok (hr.mono (by decide)) rfl U.mgn U.kp U.bn .nil (passes_call (takes_of rfl rfl rfl rfl) (fun _ _ _ _ h => h)) (pa_cons (pv 1) (pa_cons (pe_glob (v := .int (10 ^ 30)) (by rfl) gM ⟨_, rfl⟩) pa_nil))))
      (pss_one (ps_expr (pe_call G.ok hr rfl G.mgn G.kp G.bn .nil (passes_call (takes_of rfl rfl rfl rfl) (fun _ _ _ _ h => h)) (pa_cons (pv 0) (pa_cons (pv 1) (pa_cons (pv 2) pa_nil)))))), ?_⟩
    refine ⟨_, rfl, uv, 10 ^ 30, rfl, du, ?_⟩
    unfold szE at k
    by_cases h : usersOk uv (10 ^ 30) = true
    · rw [if_pos h] at k ⊢
      intro H1 s1
      cases uv with
      | int n => exact ⟨_, rfl, _, rfl, _, rfl, x, n, sv, ts, so, rfl, fa.mono s1, o, hz.mono s1, Res.mono s1 k⟩
      | _ => cases h
    · rw [if_neg h] at k ⊢
      exact k
theorem scIsF : FnScope ["forest", "users", "sizes", "found"] ["forest", "users", "sizes"] (defScope s_is_feasible) := ⟨rfl, rfl, rfl, by decide +kernel, rfl, by decide +kernel, by decide +kernel⟩
theorem ok_isFea {f fU fF CF CU CS : Addr} {fd fdU fdF : FuncData} {tm : Tok} (F : Fun K "is_feasible" "is_feasible" s_is_feasible f fd) (gM : mg "MOST_COUNTED" = some (.int (10 ^ 30) tm)) (U : Dn P w K mg base (L2.CX P w) 3 "need_users" ["users", "most"] (spUsers K CU) fU fdU)
    (G : Dn P w K mg base (L2.CX P w) 5 "need_feasible" ["forest", "users", "sizes"] (spFeasN P w K CF CS) fF fdF) (gS : mg "InvalidSizes" = some (.ref CS)) (te : PySem.W.exmOne K (.ref CS) (.ref CS) = some true) : FnOk P w K mg base (L2.CX P w) 6 f fd ["forest", "users", "sizes"] (spIsFea P w K CF CU) := by
  refine F.okX scIsF (fun vs H Q E h => ?_) (fun cdv A outer s H vs Q E hr h => ?_)
  · obtain ⟨x, uv, sv, ts, o, rfl, _⟩ := h
    rfl
  · obtain ⟨x, uv, sv, ts, so, rfl, fa, o, du, hz, k⟩ := h
    refine ⟨_, pss_cons (ps_expr (pe_call U.ok (hr.mono (by decide)) rfl U.mgn U.kp U.bn .nil (passes_call (takes_of rfl rfl rfl rfl) (fun _ _ _ _ h => h)) (pa_cons (pv 1) (pa_cons (pe_glob (v := .int (10 ^ 30)) (by rfl) gM ⟨_, rfl⟩) pa_nil))))
      (pss_cons (ps_set (i := 3) scIsF.nd rfl (.inl rfl) pe_bl)
      (pss_cons (ps_try_only (c := .ref CS) rfl rfl ⟨rfl, by decide, .inl gS⟩ (takes_of rfl rfl rfl rfl)
          (fun W pn xe tk _ => pss_one (ps_expr (pe_callS (E := WE W) G.ok hr rfl G.mgn G.kp G.bn (passAt tk) (pa_cons (pv 0) (pa_cons (pv 1) (pa_cons (pv 2) pa_nil))))))
          (fun a oe cls d pn _ _ => pss_one (ps_set (i := 3) scIsF.nd rfl (.inl rfl) pe_bl)))
      (pss_one (ps_ret (pv 3))))), ?_⟩
    refine ⟨_, rfl, uv, 10 ^ 30, rfl, du, ?_⟩
    by_cases h : usersOk uv (10 ^ 30) = true
    · rw [if_pos h] at k ⊢
      obtain ⟨n, rfl, k⟩ := k
      intro H1 s1
      refine ⟨_, rfl, _, rfl, _, rfl, x, n, sv, ts, so, rfl, fa.mono s1, o, hz.mono s1, ?_⟩
      cases ef : feas ts n so with
      | none =>
        rw [show feE CS ts n so = none by unfold feE; rw [ef] <;> rfl]
        intro H2 s2
        rw [ef] at k
        exact ⟨_, rfl, k _ (s1.trans s2)⟩
      | some v =>
        rw [show feE CS ts n so = some (.e1 CS "place" v) by unfold feE; rw [ef] <;> rfl]
        intro d H2 s2 nd hd
        rw [ef] at k
        exact ⟨true, te, fun _ a na => ⟨_, rfl, k _ (s1.trans s2)⟩, fun z => nomatch z⟩
    · rw [if_neg h] at k ⊢
      exact k
theorem scResN : FnScope ["forest", "users", "sizes"] ["forest", "users", "sizes"] (defScope s_residents) := ⟨rfl, rfl, rfl, by decide +kernel, rfl, by decide +kernel, by decide +kernel⟩
theorem ok_resN {f fN fR CF CU CS : Addr} {fd fdN fdR : FuncData} (F : Fun K "residents" "residents" s_residents f fd) (N : Dn P w K mg base (L2.CX P w) 6 "need_sizes" ["forest", "users", "sizes"] (spNSizesN P w K CF CU CS) fN fdN)
    (R : Dn P w K mg base CX0 4 "residents_of" ["forest", "users", "sizes"] (spResid CF) fR fdR) : FnOk P w K mg base (L2.CX P w) 7 f fd ["forest", "users", "sizes"] (spResN P w K CF CU CS) := by
  refine F.okX scResN (fun vs H Q E h => ?_) (fun cdv A outer s H vs Q E hr h => ?_)
  · obtain ⟨x, uv, sv, ts, o1, rfl, _⟩ := h
    rfl
  · obtain ⟨x, uv, sv, ts, o1, rfl, fa, o, du, z1, k⟩ := h
    refine ⟨_, pss_cons (ps_expr (pe_call N.ok hr rfl N.mgn N.kp N.bn .nil (passes_call (takes_of rfl rfl rfl rfl) (fun _ _ _ _ h => h)) (pa_cons (pv 0) (pa_cons (pv 1) (pa_cons (pv 2) pa_nil)))))
      (pss_one (ps_ret (pe_call R.ok (hr.mono (by decide)) rfl R.mgn R.kp R.bn .nil pass0 (pa_cons (pv 0) (pa_cons (pv 1) (pa_cons (pv 2) pa_nil)))))), ?_⟩
    refine ⟨_, rfl, _, rfl, _, rfl, x, uv, sv, ts, o1, rfl, fa, o, du, z1, ?_⟩
    cases e1 : szE CU CS ts uv o1 with
    | some e =>
      rw [e1] at k
      exact k
    | none =>
      rw [e1] at k
      obtain ⟨n, kvs, rfl, rfl, k⟩ := k
      obtain ⟨n', e2, kvs', e3, f1⟩ := szE_parts e1
      cases e2
      cases e3
      intro H1 s1
      rcases z1 with ⟨q1, rfl, h1, _⟩ | ⟨z, _⟩
      · exact ⟨_, rfl, _, rfl, _, rfl, x, q1, n, ts, kvs, rfl, fa.mono s1, o, s1 _ _ h1, fun a ha => ((feE_ok (CS := CS) (show feE CS ts n (some kvs) = none by unfold feE; rw [f1] <;> rfl)).2.1 a ha).1, fun p H' s' np ap => k p H' (s1.trans s') (s1.free np) ap⟩
      · cases z
end
end FT


/-! lists of pairs of a text and a value; dict(..) of them. -/
namespace FT
open PySem L2 TL ClX
/-- pairs (a, g a) at the addresses rs -/
def PrG (g : Str → V) (H : Hp) (rs : List Addr) (l : List Str) : Prop := Paired (fun (r : Addr) (a : Str) => H r = some (.tup [.str a, g a])) rs l
theorem PrG.imp {g : Str → V} {H H' : Hp} (m : ∀ r (a : Str), H r = some (.tup [.str a, g a]) → H' r = some (.tup [.str a, g a])) : ∀ {rs : List Addr} {l : List Str}, PrG g H rs l → PrG g H' rs l
  | _, _, .nil => .nil
  | _, _, .cons h t => .cons (m _ _ h) (PrG.imp m t)
theorem PrG.mono {g : Str → V} {H H' : Hp} {rs : List Addr} {l : List Str} (s : Same H H') (p : PrG g H rs l) : PrG g H' rs l := p.imp fun r a e => s _ _ e
theorem PrG.push {g : Str → V} {H : Hp} {rs : List Addr} {l : List Str} {D : Addr} {xs : List V} {o : HO} (e : H D = some (.lst xs)) (p : PrG g H rs l) : PrG g (upd H D o) rs l := p.imp fun r a q => by
  rw [upd_ne (ne_of q e (by intro z; cases z))]
  exact q
theorem PrG.snoc {g : Str → V} {H : Hp} {r : Addr} {a : Str} (h : H r = some (.tup [.str a, g a])) : ∀ {rs : List Addr} {l : List Str}, PrG g H rs l → PrG g H (rs ++ [r]) (l ++ [a])
  | _, _, .nil => .cons h .nil
  | _, _, .cons q t => .cons q (PrG.snoc h t)
theorem PrG.len {g : Str → V} {H : Hp} : ∀ {rs : List Addr} {l : List Str}, PrG g H rs l → rs.length = l.length
  | _, _, .nil => rfl
  | _, _, .cons _ t => congrArg (· + 1) (PrG.len t)
theorem PrG.at_ {g : Str → V} {H : Hp} {rs : List Addr} {l : List Str} (p : PrG g H rs l) {i : Nat} {r : Addr} (h : rs[i]? = some r) : ∃ a, l[i]? = some a ∧ H r = some (.tup [.str a, g a]) := LiI.paired_get p h
/-- as dict(..) asks it -/
theorem PrG.kvs {K : PySem.W.Frag} {g : Str → V} {H : Hp} : ∀ {rs : List Addr} {l : List Str}, PrG g H rs l → Paired (fun (p : Addr) (kv : Key × V) => SqT K H p [kV kv.1, kv.2]) rs (kvT (l.map fun a => (a, g a)))
  | _, _, .nil => .nil
  | _, _, .cons h t => .cons (.inl (.inl h)) (PrG.kvs t)
theorem merge_app : ∀ (more : List (Str × V)) (acc : List (Str × V)), ((acc ++ more).map Prod.fst).Nodup → mergeK (kvT acc) (kvT more) = kvT (acc ++ more)
  | [], acc, _ => by rw [List.append_nil] <;> rfl
  | p :: more, acc, nd => by
    have e : acc ++ p :: more = (acc ++ [p]) ++ more := by rw [List.append_assoc] <;> rfl
    have fresh : p.1 ∉ acc.map Prod.fst := fun h => by
      rw [List.map_append] at nd
      obtain ⟨_, _, d⟩ := List.nodup_append.mp nd
      exact d _ h _ (List.mem_cons_self ..) rfl
    show mergeK (putK (kvT acc) (Sum.inr p.1) p.2) (kvT more) = _
    rw [kvT_put fresh, e]
    rw [e] at nd
    exact merge_app more _ nd
theorem merge_nd {l : List (Str × V)} (nd : (l.map Prod.fst).Nodup) : mergeK [] (kvT l) = kvT l := merge_app l [] nd
theorem map_fst (l : List Str) (g : Str → V) : (l.map fun a => (a, g a)).map Prod.fst = l := by rw [List.map_map]; exact List.map_id _
theorem put_old {t : List (Str × Str)} {f z z' : Str} (n : f ∉ t.map Prod.fst) : putK (prs (t ++ [(f, z)])) (Sum.inr f) (V.str z') = prs (t ++ [(f, z')]) := by
  have key : ∀ t : List (Str × Str), f ∉ t.map Prod.fst → ((t.map fun p => (p.1, V.str p.2)).map fun p => if p.1 = f then (p.1, V.str z') else p) = t.map fun p => (p.1, V.str p.2) := by
    intro t
    induction t with
    | nil => intro _; rfl
    | cons p t ih =>
      intro n
      rw [List.map_cons, List.mem_cons] at n
      rw [List.map_cons, List.map_cons, ih fun h => n (.inr h), if_neg (fun e => n (.inl e.symm))]
  unfold prs
  rw [kvT_putT]
  unfold putT
  rw [prs_fst, if_pos (by rw [List.map_append]; exact List.mem_append_right _ (List.mem_cons_self ..)), List.map_append, List.map_append, List.map_append, key t n]
  congr 2
  show [if f = f then (f, V.str z') else (f, V.str z)] = [(f, V.str z')]
  rw [if_pos rfl]
/-- the place of an item -/
theorem idx_at {l : List Str} {i : Nat} {a : Str} (nd : l.Nodup) (h : l[i]? = some a) : l.idxOf a = i := by
  have m : a ∈ l := List.mem_of_getElem? h
  have lt := List.idxOf_lt_length_of_mem m
  have e : l[l.idxOf a]? = some a := by rw [List.getElem?_eq_getElem lt, List.getElem_idxOf lt]
  exact (List.getElem?_inj lt nd).mp (e.trans h.symm)
/-- a tree from the order of its making -/
theorem tree_of {t : List (Str × Str)} (h1 : 1 ≤ t.length) (h2 : t.length ≤ 12) (nd : (t.map Prod.fst).Nodup) (nm : ∀ z ∈ t.map Prod.fst, NameL z) (up : ∀ (i : Nat) (p : Str × Str), t[i]? = some p → p.2 = "" ∨ p.2 ∈ (t.map Prod.fst).take i) : TreeOk t := by
  refine ⟨h1, h2, nd, nm, fun a => (t.map Prod.fst).idxOf a, fun p hp => ?_⟩
  obtain ⟨i, hi⟩ := List.mem_iff_getElem?.mp hp
  have il := (List.getElem?_eq_some_iff.mp hi).1
  have hk : (t.map Prod.fst)[i]? = some p.1 := by rw [List.getElem?_map, hi] <;> rfl
  refine ⟨by show (t.map Prod.fst).idxOf p.1 < _; rw [idx_at nd hk]; exact il, (up i p hi).imp id fun m => ⟨List.mem_of_mem_take m, ?_⟩⟩
  show (t.map Prod.fst).idxOf p.2 < (t.map Prod.fst).idxOf p.1
  rw [idx_at nd hk]
  obtain ⟨j, hj⟩ := List.mem_iff_getElem?.mp m
  have jl := (List.getElem?_eq_some_iff.mp hj).1
  rw [List.length_take] at jl
  rw [List.getElem?_take, if_pos (by omega)] at hj
  rw [idx_at nd hj]
  omega
end FT


/-! lists of texts as data, for == and !=. -/
namespace FT
open PySem L2 TL
theorem dps_strs {K : PySem.W.Frag} {H : Hp} : ∀ ts : List Str, DpAll K H (ts.map V.str) (ts.map PyData.str)
  | [] => .nil
  | t :: ts => .cons (.str t) (dps_strs ts)
theorem strs_lay : ∀ {ts : List Str}, (∀ t ∈ ts, PyData.strOk t = true) → PyData.canLayAll0 (ts.map PyData.str) = true ∧ PyData.depthAll (ts.map PyData.str) ≤ 0
  | [], _ => ⟨rfl, Nat.le_refl _⟩
  | t :: ts, h => by
    obtain ⟨h1, h2⟩ := strs_lay (ts := ts) fun b hb => h b (List.mem_cons_of_mem _ hb)
    constructor
    · show (PyData.strOk t && PyData.canLayAll0 (ts.map PyData.str)) = true
      rw [h t (List.mem_cons_self ..), h1] <;> rfl
    · show max 0 (PyData.depthAll (ts.map PyData.str)) ≤ 0
      omega
theorem strs_shaped {ts : List Str} (h : ∀ t ∈ ts, PyData.strOk t = true) : SeqAt.shaped (.list (ts.map PyData.str)) = true := by
  obtain ⟨h1, h2⟩ := strs_lay h
  unfold SeqAt.shaped
  have c : (PyData.list (ts.map PyData.str)).canLay0 = true := h1
  rw [c]
  have d : (PyData.list (ts.map PyData.str)).depth ≤ 64 := by
    show PyData.depthAll (ts.map PyData.str) + 1 ≤ 64
    omega
  rw [decide_eq_true d] <;> rfl
end FT


/-! the drawing state of four items; take, pick, order, names. -/
namespace FT
open PySem L2 TL ClX
/-- the drawing state: at d the list [cells, next, mixed, number], the cells at c -/
def DrawAt (H : Hp) (d c : Addr) : Prop := ∃ (nx mx ct : Int) (cells : List Int), H d = some (.lst [.ref c, .int nx, .int mx, .int ct]) ∧ H c = some (.lst (cells.map V.int)) ∧ cells ≠ [] ∧ cells.length ≤ 63 ∧ (∀ z ∈ cells, 0 ≤ z) ∧ 0 ≤ nx ∧ 0 ≤ mx ∧ mx < 2147483647 ∧ 0 ≤ ct
/-- all that was tracked, but d and c, is as it was -/
def Keep (d c : Addr) (H H' : Hp) : Prop := ∀ b o, b ≠ d → b ≠ c → H b = some o → H' b = some o
theorem Keep.refl {d c : Addr} {H : Hp} : Keep d c H H := fun _ _ _ _ e => e
theorem Keep.trans {d c : Addr} {H H1 H2 : Hp} (a : Keep d c H H1) (b : Keep d c H1 H2) : Keep d c H H2 := fun x o h h' e => b x o h h' (a x o h h' e)
theorem Keep.of_same {d c : Addr} {H H' : Hp} (s : Same H H') : Keep d c H H' := fun b o _ _ e => s b o e
theorem DrawAt.mono {H H' : Hp} {d c : Addr} (s : Same H H') (x : DrawAt H d c) : DrawAt H' d c := by
  obtain ⟨nx, mx, ct, cells, h1, h2, r⟩ := x
  exact ⟨nx, mx, ct, cells, s _ _ h1, s _ _ h2, r⟩
theorem DrawAt.apart {H : Hp} {d c p : Addr} (x : DrawAt H d c) (n : H p = none) : p ≠ d ∧ p ≠ c := by
  obtain ⟨nx, mx, ct, cells, h1, h2, r⟩ := x
  exact ⟨(ne_of_none h1 n).symm, (ne_of_none h2 n).symm⟩
theorem ints_ne {ns : List Int} {c : Addr} {r : List V} : ns.map V.int ≠ V.ref c :: r := by
  cases ns with
  | nil => intro h; cases h
  | cons a t => intro h; cases h
theorem DrawAt.ne {H : Hp} {d c : Addr} (x : DrawAt H d c) : c ≠ d := by
  obtain ⟨_, _, _, _, h1, h2, _⟩ := x
  exact ne_of h2 h1 fun z => ints_ne (HO.lst.inj z)
def spBegin (K : PySem.W.Frag) : Sp := fun vs H Q _ => ∃ (a : Addr) (ns : List Int), vs = [.ref a] ∧ SqL K H a (ns.map V.int) ∧ ns.length ≤ 63 ∧
  ∀ (H' : Hp) (d c : Addr), Same H H' → H d = none → H c = none → DrawAt H' d c → Q (.ref d) H'
def spDraw : Sp := fun vs H Q _ => ∃ (d c : Addr) (n : Int), vs = [.ref d, .int n] ∧ DrawAt H d c ∧ 0 < n ∧ n.natAbs < 2 ^ 200 ∧
  ∀ (k : Int) (H' : Hp), 0 ≤ k → k < n → DrawAt H' d c → Keep d c H H' → Q (.int k) H'
/-- an item of a list, a sign of a text -/
def Items (K : PySem.W.Frag) (H : Hp) (d c : Addr) (v : V) (n : Nat) (P : Nat → V → Prop) : Prop :=
  (∃ (l : Addr) (xs : List V), v = .ref l ∧ l ≠ d ∧ l ≠ c ∧ H l = some (.lst xs) ∧ xs.length = n ∧ ∀ i x, xs[i]? = some x → P i x) ∨
  (∃ z : Str, v = .str z ∧ z.length = n ∧ ∀ i s, z.cps.toList[i]? = some s → P i (.str ⟨#[s]⟩))
def spPick (K : PySem.W.Frag) : Sp := fun vs H Q _ => ∃ (d c : Addr) (v : V) (n : Nat) (P : Nat → V → Prop), vs = [.ref d, v] ∧ DrawAt H d c ∧ Items K H d c v n P ∧ 0 < n ∧ n < 1000 ∧
  ∀ (i : Nat) (x : V) (H' : Hp), P i x → DrawAt H' d c → Keep d c H H' → Q x H'
/-- the list of the magnitudes -/
def mags (ms : List Int) : List Int := ms.map fun i => if i < 0 then -i else i
theorem mags_nn (ms : List Int) : ∀ z ∈ mags ms, 0 ≤ z := fun z h => by
  obtain ⟨i, _, rfl⟩ := List.mem_map.mp h
  split <;> omega
theorem at_mod {cells : List Int} {nx : Int} (ne : cells ≠ []) : ∃ (j : Nat) (z : Int), nx % ((cells.map V.int).length : Int) = (j : Int) ∧ j < cells.length ∧ cells[j]? = some z ∧ z ∈ cells := by
  have l0 : 0 < cells.length := List.length_pos_iff.mpr ne
  rw [List.length_map]
  have h1 : 0 ≤ nx % (cells.length : Int) := Int.emod_nonneg _ (by omega)
  have h2 : nx % (cells.length : Int) < (cells.length : Int) := Int.emod_lt_of_pos _ (by omega)
  refine ⟨(nx % (cells.length : Int)).toNat, cells[(nx % (cells.length : Int)).toNat]'(by omega), by omega, by omega, by simp, List.getElem_mem _⟩
section
variable {P : Program} {w : World} {K : PySem.W.Frag} {mg : Str → Option Value} {base : Heap}
theorem scBegin : FnScope ["_law_script", "_law_cell"] ["_law_script"] (defScope s__law_begin) := ⟨rfl, rfl, rfl, by decide +kernel, rfl, by decide +kernel, by decide +kernel⟩
theorem ok_begin {f : Addr} {fd : FuncData} (F : Fun K "_law_begin" "_law_begin" s__law_begin f fd) (T : Nm mg) : FnOk P w K mg base CX0 1 f fd ["_law_script"] (spBegin K) := by
  refine F.ok scBegin (fun vs H Q E h => ?_) (fun cdv A outer s H vs Q E hr h => ?_)
  · obtain ⟨a, ns, rfl, _⟩ := h
    rfl
  · obtain ⟨a, ns, rfl, hS, hlen, k⟩ := h
    refine ⟨_, pss_one (ps_ret (pe_lst (pa_cons (pe_orT (pe_lc (own := [("_law_cell", 1)]) (g := gName 1) (tt := tYes) rfl scBegin.nd (pi_list (pe_slice sl_list (pv 0) po_none (po_some pe_int))) (blkOk_by (N := ["_law_script", "_law_cell"]) (sc := defScope s__law_begin) (by decide +kernel))
      (fun _ _ _ _ _ => pg_name (i := 1) scBegin.nd rfl (Or.inl rfl)) (fun _ _ _ _ _ => pts_nil) (fun _ _ _ _ _ => pe_callB call_abs (by rfl) T.abs (by decide +kernel) (pa_cons (pv 1) pa_nil))) (pe_one (pe_lst (pa_cons pe_int pa_nil))))
      (pa_cons pe_int (pa_cons pe_int (pa_cons pe_int pa_nil)))))), ?_⟩
    obtain ⟨ms, em, lm⟩ := cut_ints ns none (some 63)
    refine ⟨_, rfl, _, rfl, a, _, rfl, hS, fun p np => ?_⟩
    rw [em]
    have s1 : Same H (upd H p (.lst (ms.map V.int))) := same_new np
    refine ⟨p, rfl, ⟨_, SqL.of upd_same⟩, fun D nD => lc_list (xs := ms.map V.int) (fun i H' => Same (upd H p (.lst (ms.map V.int))) H' ∧ H' D = some (.lst ((mags (ms.take i)).map V.int))) ?_ ?_ ?_ ?_⟩
    · exact ⟨same_new nD, by rw [upd_same, List.take_zero] <;> rfl⟩
    · exact fun i H' _ q => Same.sql q.1 (SqL.of upd_same)
    · intro i x H' hx ⟨q1, q2⟩
      obtain ⟨z, hz, rfl⟩ : ∃ z, ms[i]? = some z ∧ x = V.int z := by
        rw [List.getElem?_map] at hx
        obtain ⟨z, hz, rfl⟩ := Option.map_eq_some_iff.mp hx
        exact ⟨z, hz, rfl⟩
      refine ⟨rfl, ?_⟩
      refine ⟨_, rfl, z, rfl, _, q2, ?_, ?_⟩
      · rw [List.length_map]
        unfold mags
        rw [List.length_map, List.length_take]
        exact Nat.lt_of_le_of_lt (Nat.min_le_right _ _) (Nat.lt_of_le_of_lt (Nat.le_trans lm hlen) (by decide))
      · refine ⟨fun b o e => ?_, ?_⟩
        · rw [upd_ne (ne_of_none e nD)]
          exact q1 b o e
        · rw [upd_same, take_more hz]
          unfold mags
          rw [List.map_append, List.map_append] <;> rfl
    · intro H' ⟨q1, q2⟩
      rw [List.length_map, List.take_length] at q2
      have sH : Same H H' := Same.trans s1 q1
      refine ⟨_, .inl ⟨_, SqL.of q2, rfl⟩, ?_⟩
      have hD : H D = none := Same.free s1 nD
      refine ite2 (fun nz => ?_) (fun nz => ?_)
      · refine ⟨by show 4 ≤ sizeLine; decide, fun d nd => ?_⟩
        have ncd : D ≠ d := ne_of_none q2 nd
        refine k _ d D (Same.trans sH (same_new nd)) (Same.free sH nd) hD ⟨0, 1, 0, mags ms, upd_same, by rw [upd_ne ncd]; exact q2, fun z => ?_, ?_, mags_nn ms, by omega, by omega, by omega, by omega⟩
        · rw [z] at nz
          cases nz
        · unfold mags
          rw [List.length_map]
          exact Nat.le_trans lm hlen
      · refine ⟨by show 1 ≤ sizeLine; decide, fun c nc => ?_⟩
        refine ⟨by show 4 ≤ sizeLine; decide, fun d nd => ?_⟩
        have ncd : c ≠ d := ne_of_none upd_same nd
        have nd' : H' d = none := by
          rw [upd_ne (Ne.symm ncd)] at nd
          exact nd
        exact k _ d c (Same.trans sH (Same.trans (same_new nc) (same_new nd))) (Same.free sH nd') (Same.free sH nc) ⟨0, 1, 0, [7], upd_same, by rw [upd_ne ncd, upd_same] <;> rfl, by simp, by decide, by simp, by omega, by omega, by omega, by omega⟩
theorem scDraw : FnScope ["_law_draw", "_law_size", "_law_cells", "_law_at", "_law_cell"] ["_law_draw", "_law_size"] (defScope s__law_take) := ⟨rfl, rfl, rfl, by decide +kernel, rfl, by decide +kernel, by decide +kernel⟩
theorem ok_draw {f : Addr} {fd : FuncData} (F : Fun K "_law_take" "_law_take" s__law_take f fd) (T : Nm mg) : FnOk P w K mg base CX0 1 f fd ["_law_draw", "_law_size"] spDraw := by
  refine F.ok scDraw (fun vs H Q E h => ?_) (fun cdv A outer s H vs Q E hr h => ?_)
  · obtain ⟨d, c, n, rfl, _⟩ := h
    rfl
  · obtain ⟨d, c, n, rfl, hD, n0, n1, k⟩ := h
    have ncd := hD.ne
    obtain ⟨nx, mx, ct, cells, hd, hc, ne, len, nn, a0, m0, m1, c0⟩ := hD
    refine ⟨_, pss_cons (ps_set (i := 2) scDraw.nd rfl (.inl rfl) (pe_ix ix_list (pv 0) pe_int (fun _ _ => rfl)))
      (pss_cons (ps_set (i := 3) scDraw.nd rfl (.inl rfl) (pe_op op_mod (pe_ix ix_list (pv 0) pe_int (fun _ _ => rfl)) (pe_callB call_len_seq (by rfl) T.len PySem.boot_len (pa_cons (pv 2) pa_nil))))
      (pss_cons (ps_set (i := 4) scDraw.nd rfl (.inl rfl) (pe_ix ix_list (pv 2) (pv 3) (fun _ _ => rfl)))
      (pss_cons (ps_if (pt_cmpR op_ge (pv 4) (pe_op op_pow pe_int pe_int) (nomark _))
        (pss_cons (ps_asg (pe_op op_fdivW (pv 4) (pv 1)) (pg_sub (pv 2) (pv 3) set_list)) (pss_one (ps_ret (pe_op op_mod (pv 4) (pv 1))))) pss_nil)
      (pss_cons (ps_asg (pe_op op_add (pe_ix ix_list (pv 0) pe_int (fun _ _ => rfl)) pe_int) (pg_sub (pv 0) pe_int set_list))
      (pss_cons (ps_asg (pe_op op_add (pe_ix ix_list (pv 0) pe_int (fun _ _ => rfl)) pe_int) (pg_sub (pv 0) pe_int set_list))
      (pss_cons (ps_asg (pe_op op_mod (pe_op op_add (pe_op op_add (pe_op op_add (pe_op op_mul (pe_ix ix_list (pv 0) pe_int (fun _ _ => rfl)) pe_int) (pv 4)) (pe_op op_mul pe_int (pe_ix ix_list (pv 0) pe_int (fun _ _ => rfl)))) pe_int) pe_int) (pg_sub (pv 0) pe_int set_list))
      (pss_one (ps_ret (pe_op op_mod (pe_op op_fdiv (pe_op op_mod (pe_op op_mul (pe_ix ix_list (pv 0) pe_int (fun _ _ => rfl)) (pe_ix ix_list (pv 0) pe_int (fun _ _ => rfl))) pe_int) pe_int) (pv 1)))))))))), ?_⟩
    obtain ⟨j, z, ej, jl, hz, zm⟩ := at_mod (nx := nx) ne
    have z0 := nn z zm
    have l0 : (0 : Int) < ((cells.map V.int).length : Int) := by
      have := List.length_pos_iff.mpr ne
      rw [List.length_map]
      omega
    refine ⟨_, rfl, d, _, 0, .ref c, rfl, rfl, SqL.of hd, rfl, ?_⟩
    refine ⟨_, rfl, d, _, 1, .int nx, rfl, rfl, SqL.of hd, rfl, _, rfl, c, _, rfl, .inl (SqL.of hc), _, _, rfl, rfl, l0, ?_⟩
    refine ⟨_, rfl, _, rfl, c, _, _, .int z, rfl, rfl, SqL.of hc, by rw [ej]; exact atI_nat (map_at hz), ?_⟩
    refine ⟨_, rfl, 10, 18, rfl, rfl, ⟨by decide, by decide, by decide⟩, _, _, rfl, rfl, _, rfl, ?_⟩
    refine ite2 (fun _ => ?_) (fun _ => ?_)
    · refine ⟨_, rfl, _, rfl, _, _, rfl, rfl, wide_div n0 n1 (by decide) (by decide), _, rfl, _, rfl, c, _, _, j, rfl, rfl, hc, by rw [ej]; exact ixN_nat (by rw [List.length_map]; exact jl), ?_⟩
      rw [show (cells.map V.int).set j (.int (z / n)) = (cells.set j (z / n)).map V.int by rw [List.map_set]]
      refine ⟨_, rfl, _, rfl, _, _, rfl, rfl, n0, ?_⟩
      refine k _ _ (Int.emod_nonneg _ (by omega)) (Int.emod_lt_of_pos _ n0) ⟨nx, mx, ct, _, by rw [upd_ne ncd.symm]; exact hd, upd_same, ?_, by rw [List.length_set]; exact len, ?_, a0, m0, m1, c0⟩ (fun b o _ h2 e => by rw [upd_ne h2]; exact e)
      · intro e
        have := congrArg List.length e
        rw [List.length_set] at this
        exact ne (List.length_eq_zero_iff.mp this)
      · intro y hy
        rcases List.mem_or_eq_of_mem_set hy with h | h
        · exact nn y h
        · rw [h]
          exact Int.ediv_nonneg z0 (by omega)
    · refine ⟨_, rfl, d, _, 1, .int nx, rfl, rfl, SqL.of hd, rfl, _, _, rfl, rfl, _, rfl, d, _, 1, 1, rfl, rfl, hd, rfl, ?_⟩
      refine ⟨_, rfl, d, _, 3, .int ct, rfl, rfl, SqL.of upd_same, rfl, _, _, rfl, rfl, _, rfl, d, _, 3, 3, rfl, rfl, upd_same, rfl, ?_⟩
      rw [upd_upd]
      refine ⟨_, rfl, d, _, 2, .int mx, rfl, rfl, SqL.of upd_same, rfl, _, _, rfl, rfl, .inl ⟨by omega, by omega⟩, _, rfl, _, _, rfl, rfl, _, rfl, d, _, 3, .int (ct + 1), rfl, rfl, SqL.of upd_same, rfl, _, _, rfl, rfl, .inl ⟨by decide, by decide⟩,
        _, _, rfl, rfl, _, _, rfl, rfl, _, _, rfl, rfl, (by show (0 : Int) < 2147483647; decide), _, rfl, d, _, 2, 2, rfl, rfl, upd_same, rfl, ?_⟩
      rw [upd_upd]
      obtain ⟨m, em⟩ : ∃ m, m = (mx * 48271 + z + 7919 * (ct + 1) + 12345) % 2147483647 := ⟨_, rfl⟩
      have h0 : 0 ≤ m := by rw [em]; exact Int.emod_nonneg _ (by decide)
      have h1 : m < 2147483647 := by rw [em]; exact Int.emod_lt_of_pos _ (by decide)
      refine ⟨_, rfl, d, _, 2, .int m, rfl, rfl, SqL.of upd_same, by rw [em] <;> rfl, _, rfl, d, _, 2, .int m, rfl, rfl, SqL.of upd_same, by rw [em] <;> rfl, _, _, rfl, rfl, .inl ⟨by omega, by omega⟩, _, _, rfl, rfl, (by show (0 : Int) < 2147483629; decide), _, _, rfl, rfl, ⟨by decide, by decide⟩,
        _, rfl, _, _, rfl, rfl, n0, ?_⟩
      exact k _ _ (Int.emod_nonneg _ (by omega)) (Int.emod_lt_of_pos _ n0) ⟨nx + 1, m, ct + 1, cells, by rw [upd_same, em] <;> rfl, by rw [upd_ne ncd]; exact hc, ne, len, nn, by omega, h0, h1, by omega⟩ (fun b o h2 _ e => by rw [upd_ne h2]; exact e)
theorem scPick : FnScope ["_law_draw", "_law_some"] ["_law_draw", "_law_some"] (defScope s__law_pick) := ⟨rfl, rfl, rfl, by decide +kernel, rfl, by decide +kernel, by decide +kernel⟩
theorem ok_pick {f fT : Addr} {fd fdT : FuncData} (F : Fun K "_law_pick" "_law_pick" s__law_pick f fd) (T : Nm mg) (FT : Fun K "_law_take" "_law_take" s__law_take fT fdT) (bT : Binds K fdT ["_law_draw", "_law_size"] []) (gT : mg "_law_take" = some (.ref fT)) :
    FnOk P w K mg base CX0 2 f fd ["_law_draw", "_law_some"] (spPick K) := by
  have GT : FnOk P w K mg base CX0 1 fT fdT ["_law_draw", "_law_size"] spDraw := ok_draw FT T
  refine F.ok scPick (fun vs H Q E h => ?_) (fun cdv A outer s H vs Q E hr h => ?_)
  · obtain ⟨d, c, v, n, P, rfl, _⟩ := h
    rfl
  · obtain ⟨d, c, v, n, Pr, rfl, hD, it, x0, x1, k⟩ := h
    have hr1 : Room 1 _ := hr.mono (by decide)
    refine ⟨_, pss_one (ps_ret (pe_ix ix_seq (pv 1) (pe_call GT hr1 rfl gT FT.kp bT .nil pass0 (pa_cons (pv 0) (pa_cons (pe_callB call_len (by rfl) T.len PySem.boot_len (pa_cons (pv 1) pa_nil)) pa_nil))) (fun _ _ => rfl))), ?_⟩
    have small : ∀ n : Nat, n < 1000 → ((n : Int)).natAbs < 2 ^ 200 := fun n hn => by
      rw [Int.natAbs_natCast]
      exact Nat.lt_trans hn (by decide)
    rcases it with ⟨l, xs, rfl, nd, nc, hl, en, hp⟩ | ⟨z, rfl, en, hp⟩
    · refine ⟨_, rfl, _, rfl, _, rfl, _, xs.length, rfl, .inl ⟨xs, SqL.of hl, rfl⟩, d, c, _, rfl, hD, by omega, small _ (by omega), fun i H' i0 i1 hD' off => ?_⟩
      have hi : i.toNat < xs.length := by omega
      have e : xs[i.toNat]? = some xs[i.toNat] := List.getElem?_eq_getElem hi
      have e2 := atI_nat e
      rw [show ((i.toNat : Nat) : Int) = i by omega] at e2
      exact .inl ⟨l, xs, i, xs[i.toNat], rfl, rfl, SqL.of (off l _ nd nc hl), e2, k i.toNat _ H' (hp _ _ e) hD' off⟩
    · have zl : z.length ≤ sizeLine := Nat.le_trans (by omega : z.length ≤ 1000) (by decide)
      refine ⟨_, rfl, _, rfl, _, rfl, _, z.length, rfl, ⟨zl, rfl⟩, d, c, _, rfl, hD, by omega, small _ (by omega), fun i H' i0 i1 hD' off => ?_⟩
      have hi : i.toNat < z.cps.toList.length := by
        have : z.length = z.cps.toList.length := by simp [Str.length]
        omega
      have e : z.cps.toList[i.toNat]? = some z.cps.toList[i.toNat] := List.getElem?_eq_getElem hi
      have e2 := atI_nat e
      rw [show ((i.toNat : Nat) : Int) = i by omega] at e2
      exact .inr (.inr ⟨z, i, _, rfl, rfl, zl, e2, k i.toNat _ H' (hp _ _ e) hD' off⟩)
end

/-- list(x): x a list of texts, or a dict of texts -/
def Texts (K : PySem.W.Frag) (H : Hp) (a : Addr) (ts : List Str) : Prop := SqL K H a (ts.map V.str) ∨ ∃ kvs, Rd H a (.dK kvs) ∧ kvs.map (·.1) = ts.map Sum.inr
theorem call_texts {X : Cx} (hcalm : X.calm = true) : CallR X (.type "list") (fun xs H Q => ∃ (a : Addr) (ts : List Str), xs = [.ref a] ∧ Texts X.K H a ts ∧ ∀ p, H p = none → Q (.ref p) (upd H p (.lst (ts.map V.str)))) := by
  intro pins s σ H xs us Q I r h
  obtain ⟨a, ts, rfl, t, q⟩ := h
  rcases t with t | ⟨kvs, t, e⟩
  · exact call_list_of pins s σ H _ us Q I r ⟨a, _, rfl, .inl t, q⟩
  · refine call_listD hcalm pins s σ H _ us Q I r ⟨a, kvs, rfl, t, fun p np => ?_⟩
    have ek : (kvs.map fun kv => kV kv.1) = ts.map V.str := by
      have z := congrArg (List.map kV) e
      rw [List.map_map, List.map_map] at z
      exact z
    rw [ek]
    exact q p np
theorem DrawAt.off {H : Hp} {d c p : Addr} {o : HO} (x : DrawAt H d c) (n1 : p ≠ d) (n2 : p ≠ c) : DrawAt (upd H p o) d c := by
  obtain ⟨nx, mx, ct, cells, h1, h2, r⟩ := x
  exact ⟨nx, mx, ct, cells, by rw [upd_ne n1.symm]; exact h1, by rw [upd_ne n2.symm]; exact h2, r⟩
def spOrder (K : PySem.W.Frag) : Sp := fun vs H Q _ => ∃ (d c a : Addr) (ts : List Str), vs = [.ref d, .ref a] ∧ DrawAt H d c ∧ Texts K H a ts ∧ ts.length < 900 ∧ (∀ t ∈ ts, PyData.strOk t = true) ∧
  ∀ (p : Addr) (ys : List Str) (H' : Hp), ys.Perm ts → H p = none → H' p = some (.lst (ys.map V.str)) → DrawAt H' d c → Keep d c H H' → Q (.ref p) H'
section
variable {P : Program} {w : World} {K : PySem.W.Frag} {mg : Str → Option Value} {base : Heap}
theorem scOrder : FnScope ["_law_draw", "_law_some", "_law_rest", "_law_found"] ["_law_draw", "_law_some"] (defScope s__law_order) := ⟨rfl, rfl, rfl, by decide +kernel, rfl, by decide +kernel, by decide +kernel⟩
theorem ok_order {f fT : Addr} {fd fdT : FuncData} (F : Fun K "_law_order" "_law_order" s__law_order f fd) (T : Nm mg) (FT : Fun K "_law_take" "_law_take" s__law_take fT fdT) (bT : Binds K fdT ["_law_draw", "_law_size"] []) (gT : mg "_law_take" = some (.ref fT)) :
    FnOk P w K mg base CX0 2 f fd ["_law_draw", "_law_some"] (spOrder K) := by
  have GT : FnOk P w K mg base CX0 1 fT fdT ["_law_draw", "_law_size"] spDraw := ok_draw FT T
  refine F.ok scOrder (fun vs H Q E h => ?_) (fun cdv A outer s H vs Q E hr h => ?_)
  · obtain ⟨d, c, a, ts, rfl, _⟩ := h
    rfl
  · obtain ⟨d, c, a, ts, rfl, hD, ht, few, sok, k⟩ := h
    have hr1 : Room 1 _ := hr.mono (by decide)
    refine ⟨_, pss_cons (ps_par (i := 2) (j := 3) rfl scOrder.nd rfl rfl (by decide) rfl rfl (pa_cons (pe_callTy (call_texts rfl) (by rfl) T.lst (by decide +kernel) (pa_cons (pv 1) pa_nil)) (pa_cons (pe_lst pa_nil) pa_nil)) (by rfl))
      (pss_cons (ps_while PassesOwn.never (pt_cmpR (op_neD hr.units) (pv 2) (pe_lst pa_nil) (nomark _))
        (pss_one (ps_expr (pe_bm PySem.F.plainAttrs_list PySem.F.slot_list_append PySem.F.type_list_append mt_append (pv 3) (pa_cons (pe_bm PySem.F.plainAttrs_list PySem.F.slot_list_pop PySem.F.type_list_pop mt_popAt (pv 2) (pa_cons (pe_call GT hr1 rfl gT FT.kp bT .nil pass0 (pa_cons (pv 0) (pa_cons (pe_callB call_len_seq (by rfl) T.len PySem.boot_len (pa_cons (pv 2) pa_nil)) pa_nil))) pa_nil)) pa_nil)))))
      (pss_one (ps_ret (pv 3)))), ?_⟩
    refine ⟨_, rfl, a, ts, rfl, ht, fun r nr => ⟨by show 0 ≤ sizeLine; omega, fun q nq => ⟨_, _, rfl, ?_⟩⟩⟩
    have rq : r ≠ q := ne_of_none upd_same nq
    have rd := hD.apart nr
    have qd := (hD.mono (same_new nr)).apart nq
    refine while_by (fun σ H' => σ = [some (.ref d), some (.ref a), some (.ref r), some (.ref q)] ∧ DrawAt H' d c ∧ Keep d c H H' ∧ ∃ rest found : List Str, H' r = some (.lst (rest.map V.str)) ∧ H' q = some (.lst (found.map V.str)) ∧ (found ++ rest).Perm ts) (fun _ H' => many H' r)
      ⟨rfl, (hD.mono (same_new nr)).mono (same_new nq), Keep.of_same ((same_new nr).trans (same_new nq)), ts, [], by rw [upd_ne rq, upd_same], upd_same, .refl _⟩ ?_ ?_
    · rintro σ H1 ⟨rfl, d1, k1, rest, found, er, eq, pm⟩
      have lens := pm.length_eq
      rw [List.length_append] at lens
      refine ⟨_, rfl, by show 0 ≤ sizeLine; omega, fun e ne => ⟨_, _, .lst (SqL.of (by rw [upd_ne (ne_of_none er ne)]; exact er)) (dps_strs rest), .lst (SqL.of upd_same) .nil, ?_, rfl, ?_⟩⟩
      · exact strs_shaped fun t m => sok t (pm.mem_iff.mp (List.mem_append_right _ m))
      · have s1 := same_new (o := .lst []) ne
        obtain ⟨H2, e2⟩ : ∃ X, X = upd H1 e (.lst []) := ⟨_, rfl⟩
        rw [← e2] at s1 ⊢
        have d2 := d1.mono s1
        refine ⟨_, rfl, ?_⟩
        refine ite2 (fun t => ?_) (fun t => ?_)
        · cases rest with
          | nil => cases t
          | cons y rest =>
            have er2 := s1 _ _ er
            have eq2 := s1 _ _ eq
            refine ⟨_, rfl, .inl ⟨rfl, _, SqL.of eq2⟩, _, rfl, .inl ⟨rfl, _, SqL.of er2⟩, _, rfl, _, rfl, r, _, rfl, .inl (SqL.of er2), d, c, _, rfl, d2, ?_, ?_, fun i H3 i0 i1 d3 k3 => ?_⟩
            · rw [List.length_map, List.length_cons]
              omega
            · rw [List.length_map, List.length_cons, Int.natAbs_natCast]
              rw [List.length_cons] at lens
              exact Nat.lt_trans (by omega : rest.length + 1 < 1000) (by decide)
            · rw [List.length_map] at i1
              have er3 := k3 r _ rd.1 rd.2 er2
              have eq3 := k3 q _ qd.1 qd.2 eq2
              have hi : i.toNat < (y :: rest).length := by omega
              have e0 : ((y :: rest).map V.str)[i.toNat]? = some (V.str (y :: rest)[i.toNat]) := by rw [List.getElem?_map, List.getElem?_eq_getElem hi] <;> rfl
              obtain ⟨sx, _, _, _⟩ := ixN_seq (ixN_nat (n := ((y :: rest).map V.str).length) (j := i.toNat) (by rw [List.length_map]; exact hi))
              rw [show ((i.toNat : Nat) : Int) = i by omega] at sx
              rw [List.length_cons] at lens i1
              refine ⟨r, _, i, i.toNat, _, rfl, rfl, er3, by omega, by omega, sx, e0, ?_⟩
              refine ⟨q, _, _, rfl, rfl, by rw [upd_ne rq.symm]; exact eq3, ?_, ?_⟩
              · rw [List.length_map]
                exact Nat.lt_of_lt_of_le (by omega : found.length < 1000) (by decide)
              · have er4 : (upd (upd H3 r (.lst (((y :: rest).map V.str).eraseIdx i.toNat))) q (.lst (found.map V.str ++ [V.str (y :: rest)[i.toNat]]))) r = some (.lst (((y :: rest).eraseIdx i.toNat).map V.str)) := by
                  rw [upd_ne rq, upd_same, map_erase]
                have pe : ((y :: rest)[i.toNat] :: (y :: rest).eraseIdx i.toNat).Perm (y :: rest) := erase_perm _ _ hi
                refine ⟨⟨rfl, (d3.off rd.1 rd.2).off qd.1 qd.2, fun b o b1 b2 eb => ?_, _, found ++ [(y :: rest)[i.toNat]], er4, by rw [upd_same, List.map_append] <;> rfl, ?_⟩, ?_⟩
                · have n1 : b ≠ r := ne_of_none eb nr
                  have n2 : b ≠ q := ne_of_none (same_new nr b o eb) nq
                  rw [upd_ne n2, upd_ne n1]
                  exact k3 b o b1 b2 (s1 b o (k1 b o b1 b2 eb))
                · rw [List.append_assoc]
                  exact ((List.Perm.refl found).append pe).trans pm
                · show many _ r < many H1 r
                  rw [many_at er4, many_at er, List.length_map, List.length_map, List.length_eraseIdx, if_pos hi, List.length_cons]
                  omega
        · cases rest with
          | cons y rest => exact absurd rfl t
          | nil =>
            have k2 : Keep d c H H2 := k1.trans (Keep.of_same s1)
            rw [List.append_nil] at pm
            have nq0 : H q = none := by
              cases z : H q with
              | none => rfl
              | some o =>
                rw [same_new nr q o z] at nq
                cases nq
            exact ⟨_, rfl, k q found H2 pm nq0 (s1 _ _ eq) d2 k2⟩
    · exact fun σ H Q Q' hm ⟨v, e, z, f⟩ => ⟨v, e, z, fun p np => let ⟨d1, d2, a1, a2, a3, a4, b, eb, q⟩ := f p np; ⟨d1, d2, a1, a2, a3, a4, b, eb, hm _ _ q⟩⟩
end

def pool1 : List Str := ["a", "b", "c", "aa", "ab", "z", "zz", "new", "old", "abcdefgh", "zzzzzzzz", "size", "must", "users", "none"]
def pool2 : List Str := ["a", "b", "c", "d", "e", "f", "g", "h", "i", "j", "k", "l"]
theorem pool_ok : (∀ z ∈ pool1, NameL z) ∧ (∀ z ∈ pool2, NameL z) := by decide +kernel
theorem pool_nd : pool1.Nodup ∧ pool2.Nodup := by decide +kernel
theorem pool_str : (∀ z ∈ pool1, PyData.strOk z = true) ∧ (∀ z ∈ pool2, PyData.strOk z = true) := by decide +kernel
def spNames : Sp := fun vs H Q _ => ∃ (d c : Addr) (n : Nat), vs = [.ref d, .int (n : Int)] ∧ DrawAt H d c ∧ 1 ≤ n ∧ n ≤ 12 ∧
  ∀ (l : Addr) (fs : List Str) (H' : Hp), fs.length = n → fs.Nodup → (∀ z ∈ fs, NameL z) → (∀ z ∈ fs, PyData.strOk z = true) → H l = none → H' l = some (.lst (fs.map V.str)) → DrawAt H' d c → Keep d c H H' → Q (.ref l) H'
theorem Keep.put {d c p : Addr} {H H' : Hp} {o : HO} (k : Keep d c H H') (n : H p = none) : Keep d c H (upd H' p o) := fun b u h1 h2 e => by
  rw [upd_ne (ne_of_none e n)]
  exact k b u h1 h2 e
theorem Keep.free {d c p : Addr} {H H' : Hp} (k : Keep d c H H') (n : H' p = none) (n1 : p ≠ d) (n2 : p ≠ c) : H p = none := by
  cases e : H p with
  | none => rfl
  | some o =>
    rw [k p o n1 n2 e] at n
    cases n
section
variable {P : Program} {w : World} {K : PySem.W.Frag} {mg : Str → Option Value} {base : Heap}
theorem scNames : FnScope ["_law_draw", "_law_many", "_law_pool"] ["_law_draw", "_law_many"] (defScope s__law_names) := ⟨rfl, rfl, rfl, by decide +kernel, rfl, by decide +kernel, by decide +kernel⟩
theorem ok_names {f fT fO : Addr} {fd fdT fdO : FuncData} (F : Fun K "_law_names" "_law_names" s__law_names f fd) (T : Nm mg) (FT : Fun K "_law_take" "_law_take" s__law_take fT fdT) (bT : Binds K fdT ["_law_draw", "_law_size"] []) (gT : mg "_law_take" = some (.ref fT))
    (FO : Fun K "_law_order" "_law_order" s__law_order fO fdO) (bO : Binds K fdO ["_law_draw", "_law_some"] []) (gO : mg "_law_order" = some (.ref fO)) : FnOk P w K mg base CX0 3 f fd ["_law_draw", "_law_many"] spNames := by
  have GT : FnOk P w K mg base CX0 1 fT fdT ["_law_draw", "_law_size"] spDraw := ok_draw FT T
  have GO : FnOk P w K mg base CX0 2 fO fdO ["_law_draw", "_law_some"] (spOrder K) := ok_order FO T FT bT gT
  refine F.ok scNames (fun vs H Q E h => ?_) (fun cdv A outer s H vs Q E hr h => ?_)
  · obtain ⟨d, c, n, rfl, _⟩ := h
    rfl
  · obtain ⟨d, c, n, rfl, hD, n1, n12, k⟩ := h
    have hr1 : Room 1 _ := hr.mono (by decide)
    have hr2 : Room 2 _ := hr.mono (by decide)
    refine ⟨_, pss_cons (ps_set (i := 2) scNames.nd rfl (.inl rfl) (pe_lst (pa_cons pe_str (pa_cons pe_str (pa_cons pe_str (pa_cons pe_str (pa_cons pe_str (pa_cons pe_str (pa_cons pe_str (pa_cons pe_str (pa_cons pe_str (pa_cons pe_str (pa_cons pe_str (pa_cons pe_str (pa_cons pe_str (pa_cons pe_str (pa_cons pe_str pa_nil)))))))))))))))))
      (pss_cons (ps_if (pt_cmpR op_eq (pe_call GT hr1 rfl gT FT.kp bT .nil pass0 (pa_cons (pv 0) (pa_cons pe_int pa_nil))) pe_int (nomark _))
        (pss_one (ps_set (i := 2) scNames.nd rfl (.inl rfl) (pe_lst (pa_cons pe_str (pa_cons pe_str (pa_cons pe_str (pa_cons pe_str (pa_cons pe_str (pa_cons pe_str (pa_cons pe_str (pa_cons pe_str (pa_cons pe_str (pa_cons pe_str (pa_cons pe_str (pa_cons pe_str pa_nil))))))))))))))) pss_nil)
      (pss_one (ps_ret (pe_slice sl_list (pe_call GO hr2 rfl gO FO.kp bO .nil pass0 (pa_cons (pv 0) (pa_cons (pv 2) pa_nil))) po_none (po_some (pv 1)))))), ?_⟩
    have big : 1000 ≤ sizeLine := by decide
    -- the rest, from any pool
    have rest : ∀ (pool : List Str) (p : Addr) (H1 : Hp), H1 p = some (.lst (pool.map V.str)) → p ≠ d → p ≠ c → DrawAt H1 d c → Keep d c H H1 → 12 ≤ pool.length → pool.length < 900 → pool.Nodup → (∀ z ∈ pool, NameL z) → (∀ z ∈ pool, PyData.strOk z = true) →
        tRet (tSl (rSlL K) (tCall (spOrder K) [] E0 (tCons (tVar 0) (tCons (tVar 2) tNil))) tNoPart (tPart (tVar 1))) { nx := fun _ H' => Q .non H', rt := Q } [some (.ref d), some (.int (n : Int)), some (.ref p)] H1 := by
      intro pool p H1 e1 pd pc d1 k1 l12 few nd ok sok
      refine ⟨_, rfl, _, rfl, d, c, p, pool, rfl, d1, .inl (SqL.of e1), few, sok, fun r ys H2 pm nr er d2 k2 => ?_⟩
      have ly := pm.length_eq
      have rd := d1.apart nr
      refine ⟨_, rfl, _, rfl, r, ys.map V.str, rfl, SqL.of er, fun q nq => ?_⟩
      rw [cut_take (by rw [List.length_map]; omega), ← List.map_take]
      have qd := d2.apart nq
      have sub : ∀ z ∈ ys.take n, z ∈ pool := fun z hz => pm.mem_iff.mp (List.mem_of_mem_take hz)
      exact k q _ _ (by rw [List.length_take]; omega) ((pm.nodup_iff.mpr nd).sublist (List.take_sublist _ _)) (fun z hz => ok z (sub z hz)) (fun z hz => sok z (sub z hz)) ((k1.trans k2).free nq qd.1 qd.2) upd_same (d2.mono (same_new nq)) ((k1.trans k2).trans (Keep.of_same (same_new nq)))
    refine ⟨by show 15 ≤ sizeLine; omega, fun p np => ?_⟩
    have s1 := same_new (o := .lst (pool1.map V.str)) np
    have pd := hD.apart np
    refine ⟨_, rfl, d, c, 2, rfl, hD.mono s1, by decide, by decide, fun i H2 i0 i1 d2 k2 => ?_⟩
    have e2 := k2 p _ pd.1 pd.2 (upd_same : upd H p (.lst (pool1.map V.str)) p = some (.lst (pool1.map V.str)))
    have K2 : Keep d c H H2 := (Keep.of_same s1).trans k2
    refine ⟨rfl, _, rfl, ?_⟩
    refine ite2 (fun _ => ?_) (fun _ => ?_)
    · refine ⟨by show 12 ≤ sizeLine; omega, fun q nq => ?_⟩
      have qd := d2.apart nq
      exact rest pool2 q _ upd_same qd.1 qd.2 (d2.mono (same_new nq)) (K2.trans (Keep.of_same (same_new nq))) (by decide) (by decide) pool_nd.2 pool_ok.2 pool_str.2
    · exact rest pool1 p _ e2 pd.1 pd.2 d2 K2 (by decide) (by decide) pool_nd.1 pool_ok.1 pool_str.1
end
end FT


namespace FT
open PySem L2 TL ClX
def spParents : Sp := fun vs H Q _ => ∃ (d c : Addr) (n : Nat), vs = [.ref d, .int (n : Int)] ∧ DrawAt H d c ∧ 1 ≤ n ∧ n ≤ 12 ∧
  ∀ (q : Addr) (t : List (Str × Str)) (H' : Hp), TreeOk t → t.length = n → H q = none → H' q = some (.dK (prs t)) → DrawAt H' d c → Keep d c H H' → Q (.ref q) H'
def spPath : Sp := fun vs H Q _ => ∃ (q : Addr) (a : Str) (t : List (Str × Str)), vs = [.ref q, .str a] ∧ Rd H q (.dK (prs t)) ∧ TreeOk t ∧ Pl t a ∧ ∀ p H', Same H H' → H p = none → H' p = some (.tup ((pathOf t a).map V.str)) → Q (.ref p) H'
theorem fresh_at {fs l : List Str} {j : Nat} {f : Str} (nd : fs.Nodup) (h : fs[j]? = some f) (e : l = fs.take j) : f ∉ l := by
  rw [e]
  intro hm
  obtain ⟨i, hi⟩ := List.mem_iff_getElem?.mp hm
  have hi2 := (List.getElem?_eq_some_iff.mp hi).1
  have jl := (List.getElem?_eq_some_iff.mp h).1
  rw [List.length_take] at hi2
  rw [List.getElem?_take, if_pos (by omega)] at hi
  have := (List.getElem?_inj (by omega) nd).mp (hi.trans h.symm)
  omega
section
variable {P : Program} {w : World} {K : PySem.W.Frag} {mg : Str → Option Value} {base : Heap}
abbrev NPa : List Str := ["_law_draw", "_law_many", "_law_names_here", "_law_way", "_law_found", "_law_at", "_law_name"]
theorem scPa : FnScope NPa ["_law_draw", "_law_many"] (defScope s__law_parents) := ⟨rfl, rfl, rfl, by decide +kernel, rfl, by decide +kernel, by decide +kernel⟩
theorem ok_parents {f fT fP fO fN : Addr} {fd fdT fdP fdO fdN : FuncData} (F : Fun K "_law_parents" "_law_parents" s__law_parents f fd) (T : Nm mg) (DT : Dn P w K mg base CX0 1 "_law_take" ["_law_draw", "_law_size"] spDraw fT fdT) (DP : Dn P w K mg base CX0 2 "_law_pick" ["_law_draw", "_law_some"] (spPick K) fP fdP)
    (DO : Dn P w K mg base CX0 2 "_law_order" ["_law_draw", "_law_some"] (spOrder K) fO fdO) (DN : Dn P w K mg base CX0 3 "_law_names" ["_law_draw", "_law_many"] spNames fN fdN) : FnOk P w K mg base CX0 4 f fd ["_law_draw", "_law_many"] spParents := by
  refine F.ok scPa (fun vs H Q E h => ?_) (fun cdv A outer s H vs Q E hr h => ?_)
  · obtain ⟨d, c, n, rfl, _⟩ := h
    rfl
  · obtain ⟨d, c, n, rfl, hD, n1, n12, k⟩ := h
    have hu := hu_of hr
    have hr1 : Room 1 _ := hr.mono (by decide)
    have hr2 : Room 2 _ := hr.mono (by decide)
    have big : 1000 ≤ sizeLine := by decide
    refine ⟨_, pss_cons (ps_asg (pe_tup (pa_cons (pe_call DN.ok hr rfl DN.mgn DN.kp DN.bn .nil pass0 (pa_cons (pv 0) (pa_cons (pv 1) pa_nil))) (pa_cons (pe_call DT.ok hr1 rfl DT.mgn DT.kp DT.bn .nil pass0 (pa_cons (pv 0) (pa_cons pe_int pa_nil))) (pa_cons pe_dnewK pa_nil))))
        (pg_tup rfl (pgs_cons (pg_name (i := 2) scPa.nd rfl (.inl rfl)) (pgs_cons (pg_name (i := 3) scPa.nd rfl (.inl rfl)) (pgs_cons (pg_name (i := 4) scPa.nd rfl (.inr rfl)) pgs_nil)))))
      (pss_cons (ps_for PassesOwn.never rfl (pi_enum rfl T.enu (pa_cons (pv 2) pa_nil)) (pg_tup rfl (pgs_cons (pg_name (i := 5) scPa.nd rfl (.inl rfl)) (pgs_cons (pg_name (i := 6) scPa.nd rfl (.inl rfl)) pgs_nil)))
        (pss_cons (ps_dput hu (pv 4) (pv 6) (pe_call DP.ok hr2 rfl DP.mgn DP.kp DP.bn .nil pass0 (pa_cons (pv 0) (pa_cons (pe_op op_cat (pe_lst (pa_cons pe_str pa_nil)) (pe_slice sl_list (pv 2) po_none (po_some (pv 5)))) pa_nil))) rfl)
        (pss_cons (ps_if (pt_cmpR op_eq (pv 3) pe_int (nomark _)) (pss_one (ps_dput hu (pv 4) (pv 6) (pe_ix ix_list (pe_op op_cat (pe_lst (pa_cons pe_str pa_nil)) (pv 2)) (pv 5) (fun _ _ => rfl)) rfl)) pss_nil)
        (pss_one (ps_if (pt_cmpR op_eq (pv 3) pe_int (nomark _)) (pss_one (ps_dput hu (pv 4) (pv 6) (pe_ix ix_list (pe_op op_cat (pe_lst (pa_cons pe_str (pa_cons pe_str pa_nil))) (pv 2)) (pv 5) (fun _ _ => rfl)) rfl)) pss_nil)))))
      (pss_one (ps_ret (pe_callTy (call_dictP rfl) (by rfl) T.dct (by decide +kernel) (pa_cons (pe_lc (own := [("_law_name", 6)]) (g := gName 6) (tt := tYes) (te := tTup (tCons (tVar 6) (tCons (tDGet (tVar 4) (tVar 6)) tNil))) rfl scPa.nd (pi_list (pe_call DO.ok hr2 rfl DO.mgn DO.kp DO.bn .nil pass0 (pa_cons (pv 0) (pa_cons (pv 2) pa_nil))))
        (blkOk_by (N := NPa) (sc := defScope s__law_parents) (by decide +kernel))
        (fun _ _ _ _ _ => pg_name (i := 6) scPa.nd rfl (Or.inl rfl)) (fun _ _ _ _ _ => pts_nil) (fun _ _ _ _ _ => pe_tup (pa_cons (pv 6) (pa_cons (pe_dget hu (pv 4) (pv 6) (fun _ _ => rfl)) pa_nil)))) pa_nil))))), ?_⟩
    refine ⟨_, rfl, _, rfl, d, c, n, rfl, hD, n1, n12, fun pn fs H1 ln nd ok sok npn hn dr1 k1 => ?_⟩
    have pnd := hD.apart npn
    refine ⟨_, rfl, d, c, 5, rfl, dr1, by decide, by decide, fun way H2 w0 w5 dr2 k2 q nq => ⟨by show 3 ≤ sizeLine; omega, fun tp ntp => ⟨tp, _, rfl, .inl (.inl upd_same), rfl, ?_⟩⟩⟩
    have hn2 := k2 pn _ pnd.1 pnd.2 hn
    have K2 : Keep d c H H2 := k1.trans k2
    obtain ⟨H3, e3⟩ : ∃ X, X = upd (upd H2 q (.dK [])) tp (.tup [.ref pn, .int way, .ref q]) := ⟨_, rfl⟩
    have s23 : Same H2 H3 := e3 ▸ (same_new nq).trans (same_new ntp)
    have dr3 := dr2.mono s23
    have qd := dr2.apart nq
    have hq3 : H3 q = some (.dK []) := by rw [e3]; exact same_new ntp _ _ upd_same
    have hn3 := s23 _ _ hn2
    rw [← e3]
    have nq0 : H q = none := K2.free nq qd.1 qd.2
    refine ⟨_, _, rfl, _, _, rfl, _, _, rfl, rfl, ?_⟩
    refine ⟨_, rfl, pn, fs.map V.str, rfl, SqL.of hn3, ?_⟩
    refine for_it walk_enum (fun j σ' H' => (∃ u5 u6, σ' = [some (.ref d), some (.int (n : Int)), some (.ref pn), some (.int way), some (.ref q), u5, u6]) ∧ DrawAt H' d c ∧ H' pn = some (.lst (fs.map V.str)) ∧ Keep d c H H' ∧
      ∃ t : List (Str × Str), H' q = some (.dK (prs t)) ∧ t.map Prod.fst = fs.take j ∧ ∀ (i : Nat) (p : Str × Str), t[i]? = some p → p.2 = "" ∨ p.2 ∈ fs.take i)
      ⟨⟨_, _, rfl⟩, dr3, hn3, K2.trans (Keep.of_same s23), [], hq3, by rw [List.take_zero] <;> rfl, fun i p h => by simp at h⟩ (fun j σ' H' _ q => SqL.of q.2.2.1) ?_ ?_
    · intro j TT σ' Ha Hb hj ⟨⟨u5, u6, e⟩, da, hna, ka, t, hq, et, up⟩ ⟨T', y, z, eT, nT, eH, ey, ez⟩
      subst e
      subst eT
      subst eH
      cases ey
      rw [List.length_map] at hj
      obtain ⟨f, hf, rfl⟩ := map_of (show (fs.map V.str)[j]? = some z from ez)
      have tlen := congrArg List.length et
      rw [List.length_map, List.length_take] at tlen
      have fresh : f ∉ t.map Prod.fst := fresh_at nd hf et
      obtain ⟨H4, e4⟩ : ∃ X, X = upd Ha T' (.tup [.int (j : Int), .str f]) := ⟨_, rfl⟩
      have sT : Same Ha H4 := e4 ▸ same_new nT
      have a4 : H4 T' = some (.tup [.int (j : Int), .str f]) := by rw [e4]; exact upd_same
      rw [← e4]
      have hna4 := sT _ _ hna
      have hq4 := sT _ _ hq
      have da4 := da.mono sT
      refine ⟨T', _, rfl, .inl (.inl a4), rfl, ?_⟩
      refine ⟨_, _, rfl, _, _, rfl, rfl, ?_⟩
      -- the drawn parent
      refine ⟨_, rfl, by show 1 ≤ sizeLine; omega, fun p1 m1 => ⟨_, rfl, _, rfl, _, rfl, pn, fs.map V.str, rfl, SqL.of (by rw [upd_ne (ne_of_none hna4 m1)]; exact hna4), fun p2 m2 => ⟨p1, p2, [.str ""], _, rfl, rfl, by rw [upd_ne (ne_of_none upd_same m2), upd_same], upd_same, ?_, fun pa ma => ?_⟩⟩⟩
      · have := cutV_length (fs.map V.str) none (some (j : Int))
        rw [List.length_map] at this
        show 1 + _ ≤ sizeLine
        omega
      rw [cut_take (by rw [List.length_map]; omega), ← List.map_take] at ma ⊢
      obtain ⟨H5, e5⟩ : ∃ X, X = upd (upd (upd H4 p1 (.lst [.str ""])) p2 (.lst ((fs.take j).map V.str))) pa (.lst ([.str ""] ++ (fs.take j).map V.str)) := ⟨_, rfl⟩
      have s5 : Same H4 H5 := e5 ▸ ((same_new m1).trans (same_new m2)).trans (same_new ma)
      have at5 : H5 pa = some (.lst ((("" : Str) :: fs.take j).map V.str)) := by rw [e5, upd_same] <;> rfl
      have pad : pa ≠ d ∧ pa ≠ c := ((da4.mono (same_new m1)).mono (same_new m2)).apart ma
      rw [← e5]
      have dr5 := da4.mono s5
      refine ⟨d, c, _, (("" : Str) :: fs.take j).length, (fun _ x => ∃ z, x = .str z ∧ z ∈ (("" : Str) :: fs.take j)), rfl, dr5, .inl ⟨pa, _, rfl, pad.1, pad.2, at5, by rw [List.length_map], items_strs fun z hz => hz⟩, Nat.succ_pos _, by rw [List.length_cons, List.length_take]; omega, fun i x H6 px dr6 k6 => ?_⟩
      obtain ⟨z, rfl, mz⟩ := px
      have hz0 : z = "" ∨ z ∈ fs.take j := List.mem_cons.mp mz
      have hq6 := k6 q _ qd.1 qd.2 (s5 _ _ hq4)
      have hn6 := k6 pn _ pnd.1 pnd.2 (s5 _ _ hna4)
      refine ⟨_, rfl, _, rfl, q, _, rfl, DPut.k (k := Sum.inr f) hq6 (by rw [prs_len]; omega), ?_⟩
      rw [put_new fresh]
      have K6 : Keep d c H H6 := ((ka.trans (Keep.of_same sT)).trans (Keep.of_same s5)).trans k6
      obtain ⟨H7, e7⟩ : ∃ X, X = upd H6 q (.dK (prs (t ++ [(f, z)]))) := ⟨_, rfl⟩
      have hq7 : H7 q = some (.dK (prs (t ++ [(f, z)]))) := by rw [e7]; exact upd_same
      have dr7 : DrawAt H7 d c := by rw [e7]; exact dr6.off qd.1 qd.2
      have qn : pn ≠ q := ne_of hn6 hq6 (by intro z; cases z)
      have hn7 : H7 pn = some (.lst (fs.map V.str)) := by rw [e7, upd_ne qn]; exact hn6
      have K7 : Keep d c H H7 := by rw [e7]; exact K6.put nq0
      rw [← e7]
      have lj : j < fs.length := by omega
      -- an item of the list with roots in front
      have row : ∀ (m : Nat) (hm : 1 ≤ m), ∃ zz, ((List.replicate m (V.str "")) ++ fs.map V.str)[j]? = some (.str zz) ∧ (zz = "" ∨ zz ∈ fs.take j) := fun m hm => by
        by_cases lt : j < m
        · exact ⟨"", by rw [List.getElem?_append_left (by rw [List.length_replicate]; exact lt), List.getElem?_replicate, if_pos lt], .inl rfl⟩
        · refine ⟨fs[j - m]'(by omega), ?_, .inr ?_⟩
          · rw [List.getElem?_append_right (by rw [List.length_replicate]; omega), List.length_replicate, List.getElem?_map, List.getElem?_eq_getElem (by omega)] <;> rfl
          · rw [List.mem_take_iff_getElem]
            exact ⟨j - m, by omega, rfl⟩
      -- the end of a turn
      have fin : ∀ (z' : Str) (H' : Hp), (z' = "" ∨ z' ∈ fs.take j) → DrawAt H' d c → H' pn = some (.lst (fs.map V.str)) → Keep d c H H' → H' q = some (.dK (prs (t ++ [(f, z')]))) →
          (∃ u5 u6, ([some (.ref d), some (.int (n : Int)), some (.ref pn), some (.int way), some (.ref q), some (.int (j : Int)), some (.str f)] : St) = [some (.ref d), some (.int (n : Int)), some (.ref pn), some (.int way), some (.ref q), u5, u6]) ∧ DrawAt H' d c ∧ H' pn = some (.lst (fs.map V.str)) ∧ Keep d c H H' ∧
          ∃ t : List (Str × Str), H' q = some (.dK (prs t)) ∧ t.map Prod.fst = fs.take (j + 1) ∧ ∀ (i : Nat) (p : Str × Str), t[i]? = some p → p.2 = "" ∨ p.2 ∈ fs.take i := fun z' H' hz' d' n' k' q' => by
        refine ⟨⟨_, _, rfl⟩, d', n', k', t ++ [(f, z')], q', by rw [List.map_append, et, take_more hf] <;> rfl, fun i p h => ?_⟩
        by_cases hi : i < t.length
        · rw [List.getElem?_append_left hi] at h
          exact up i p h
        · have hl := (List.getElem?_eq_some_iff.mp h).1
          rw [List.length_append] at hl
          have one : ([(f, z')] : List (Str × Str)).length = 1 := rfl
          have ei : i = t.length := by omega
          subst ei
          rw [List.getElem?_append_right (Nat.le_refl _), Nat.sub_self] at h
          have ep : (f, z') = p := Option.some.inj h
          subst ep
          rw [show t.length = j by omega]
          exact hz'
      refine ⟨_, rfl, rfl, _, rfl, ?_⟩
      refine ite2 (fun y0 => ?_) (fun n0 => ?_)
      · -- a chain
        have e0 : way = 0 := V.int.inj (of_decide_eq_true y0)
        subst e0
        obtain ⟨zz, hz, hz'⟩ := row 1 (Nat.le_refl _)
        refine ⟨by show 1 ≤ sizeLine; omega, fun p1 m1 => ⟨_, rfl, p1, pn, [.str ""], fs.map V.str, rfl, rfl, upd_same, by rw [upd_ne (ne_of_none hn7 m1)]; exact hn7, by rw [List.length_map]; show 1 + _ ≤ sizeLine; omega, fun p2 m2 => ?_⟩⟩
        obtain ⟨H8, e8⟩ : ∃ X, X = upd (upd H7 p1 (.lst [.str ""])) p2 (.lst ([.str ""] ++ fs.map V.str)) := ⟨_, rfl⟩
        have s8 : Same H7 H8 := e8 ▸ (same_new m1).trans (same_new m2)
        have a8 : H8 p2 = some (.lst ([.str ""] ++ fs.map V.str)) := by rw [e8]; exact upd_same
        rw [← e8]
        refine ⟨_, rfl, p2, _, _, .str zz, rfl, rfl, SqL.of a8, atI_nat hz, ?_⟩
        have hq8 := s8 _ _ hq7
        refine ⟨_, rfl, _, rfl, q, _, rfl, DPut.k (k := Sum.inr f) hq8 (by rw [prs_len, List.length_append]; show _ + 1 < _; omega), ?_⟩
        rw [put_old fresh]
        refine ⟨_, rfl, rfl, _, rfl, iteF ?_⟩
        exact fin zz _ hz' ((dr7.mono s8).off qd.1 qd.2) (by rw [upd_ne qn]; exact s8 _ _ hn7) ((K7.trans (Keep.of_same s8)).put nq0) upd_same
      · refine ⟨_, rfl, rfl, _, rfl, ?_⟩
        refine ite2 (fun y1 => ?_) (fun n1 => ?_)
        · -- two chains
          have e0 : way = 1 := V.int.inj (of_decide_eq_true y1)
          subst e0
          obtain ⟨zz, hz, hz'⟩ := row 2 (by omega)
          refine ⟨by show 2 ≤ sizeLine; omega, fun p1 m1 => ⟨_, rfl, p1, pn, [.str "", .str ""], fs.map V.str, rfl, rfl, upd_same, by rw [upd_ne (ne_of_none hn7 m1)]; exact hn7, by rw [List.length_map]; show 2 + _ ≤ sizeLine; omega, fun p2 m2 => ?_⟩⟩
          obtain ⟨H8, e8⟩ : ∃ X, X = upd (upd H7 p1 (.lst [.str "", .str ""])) p2 (.lst ([.str "", .str ""] ++ fs.map V.str)) := ⟨_, rfl⟩
          have s8 : Same H7 H8 := e8 ▸ (same_new m1).trans (same_new m2)
          have a8 : H8 p2 = some (.lst ([.str "", .str ""] ++ fs.map V.str)) := by rw [e8]; exact upd_same
          rw [← e8]
          refine ⟨_, rfl, p2, _, _, .str zz, rfl, rfl, SqL.of a8, atI_nat hz, ?_⟩
          have hq8 := s8 _ _ hq7
          refine ⟨_, rfl, _, rfl, q, _, rfl, DPut.k (k := Sum.inr f) hq8 (by rw [prs_len, List.length_append]; show _ + 1 < _; omega), ?_⟩
          rw [put_old fresh]
          exact fin zz _ hz' ((dr7.mono s8).off qd.1 qd.2) (by rw [upd_ne qn]; exact s8 _ _ hn7) ((K7.trans (Keep.of_same s8)).put nq0) upd_same
        · exact fin z H7 hz0 dr7 hn7 K7 hq7
    · intro σ' H4 ⟨⟨u5, u6, e⟩, da, hna, ka, t, hq, et, up⟩
      subst e
      rw [List.length_map, List.take_length] at et
      have lt := congrArg List.length et
      rw [List.length_map] at lt
      have tr : TreeOk t := tree_of (by omega) (by omega) (by rw [et]; exact nd) (by rw [et]; exact ok) (by rw [et]; exact up)
      refine ⟨_, rfl, _, rfl, d, c, pn, fs, rfl, da, .inl (SqL.of hna), by omega, sok, fun r ys H5 pm nr er d5 k5 => ⟨r, rfl, ⟨_, SqL.of er⟩, fun D nD => ?_⟩⟩
      have hq5 := k5 q _ qd.1 qd.2 hq
      have rd := da.apart nr
      have Dd := d5.apart nD
      have ly := pm.length_eq
      refine lc_it walk_list (fun i H' => Same H5 H' ∧ ∃ rs : List Addr, H' D = some (.lst (rs.map V.ref)) ∧ PrG (fun a => .str ((par t a).getD "")) H' rs (ys.take i)) ⟨same_new nD, [], upd_same, .nil⟩ (fun i H' _ z => SqL.of (z.1 _ _ er)) ?_ ?_
      · intro i y Ha Hb hi ⟨q1, rs, hD, pr⟩ ⟨eb, ex⟩
        subst eb
        obtain ⟨a, ha, rfl⟩ := map_of ex
        have ma : a ∈ t.map Prod.fst := by rw [et]; exact pm.mem_iff.mp (List.mem_of_getElem? ha)
        obtain ⟨pa, hp⟩ := par_some tr.nd ma
        have lr := pr.len
        rw [List.length_take] at lr
        refine ⟨rfl, ?_⟩
        refine ⟨_, rfl, _, rfl, _, rfl, q, .str pa, rfl, ?_, by show 2 ≤ sizeLine; omega, fun tq ntq => ?_⟩
        · have z := DGet.k (k := Sum.inr a) (q1 _ _ hq5)
          rw [val_prs, hp] at z
          exact z
        · have sq : Same Hb (upd Hb tq (.tup [.str a, .str pa])) := same_new ntq
          refine ⟨_, sq _ _ hD, by rw [List.length_map]; omega, (q1.trans sq).put nD, rs ++ [tq], by rw [upd_same, List.map_append] <;> rfl, ?_⟩
          rw [take_more ha]
          refine PrG.push (sq _ _ hD) (PrG.snoc ?_ (pr.mono sq))
          rw [upd_same, hp] <;> rfl
      · intro H6 ⟨q1, rs, hD, pr⟩
        rw [List.length_map, List.take_length] at pr
        refine ⟨D, rs, _, rfl, SqL.of hD, pr.kvs, fun p np => ?_⟩
        have ndy : ys.Nodup := pm.nodup_iff.mpr nd
        rw [merge_nd (by rw [map_fst]; exact ndy)]
        have K5 : Keep d c H H6 := (ka.trans k5).trans (Keep.of_same q1)
        have d6 := d5.mono q1
        have pd := d6.apart np
        have pairs : (ys.map fun a => (a, (par t a).getD "")).Perm t := by
          refine perm_pairs tr.nd ?_ fun x hx => ?_
          · rw [List.map_map, et]
            have e : (Prod.fst ∘ fun a : Str => (a, (par t a).getD "")) = id := rfl
            rw [e, List.map_id]
            exact pm
          · obtain ⟨a, ha, rfl⟩ := List.mem_map.mp hx
            obtain ⟨pa, hp⟩ := par_some tr.nd (show a ∈ t.map Prod.fst by rw [et]; exact pm.mem_iff.mp ha)
            rw [hp]
            exact par_mem hp
        refine k p (ys.map fun a => (a, (par t a).getD "")) _ (tr.perm pairs.symm) (by rw [List.length_map]; omega) (K5.free np pd.1 pd.2) ?_ (d6.mono (same_new np)) (K5.trans (Keep.of_same (same_new np)))
        rw [upd_same]
        unfold prs
        rw [List.map_map] <;> rfl
end
end FT


/-! feasible sizes, dealt out name by name (plain maths) -/
namespace FT
open PySem L2 TL ClX
/-! ### sizes that are drawn -/
theorem szOf_tbl {l : List Str} {sz : Str → Int} {a : Str} (h : a ∈ l) : szOf (tblI l sz) a = sz a := by
  unfold szOf
  rw [tblI_val h]
theorem kids_sub {t : List (Str × Str)} {p a : Str} (h : a ∈ kids t p) : a ∈ t.map Prod.fst := by
  obtain ⟨q, hq, rfl⟩ := List.mem_map.mp h
  exact List.mem_map.mpr ⟨q, (List.mem_filter.mp hq).1, rfl⟩
theorem resid_congr {t : List (Str × Str)} {n : Int} {sz sz' : Str → Int} {p : Str} (h : ∀ a ∈ t.map Prod.fst, sz a = sz' a) (hp : p = "" ∨ sz p = sz' p) : resid t n sz p = resid t n sz' p := by
  unfold resid
  rw [List.map_congr_left fun a ha => h a (kids_sub ha)]
  by_cases e : p = ""
  · rw [if_pos e, if_pos e]
  · rw [if_neg e, if_neg e, hp.resolve_left e]
/-- feasible sizes for n users -/
structure Fea (t : List (Str × Str)) (n : Int) (sz : Str → Int) : Prop where
  nn : ∀ a ∈ t.map Prod.fst, 0 ≤ sz a
  res : ∀ p ∈ (("" : Str) :: t.map Prod.fst), 0 ≤ resid t n sz p
theorem Fea.perm {t u : List (Str × Str)} {n : Int} {sz : Str → Int} (p : t.Perm u) (f : Fea t n sz) : Fea u n sz :=
  ⟨fun a ha => f.nn a ((p.map _).mem_iff.mpr ha), fun q hq => by rw [← resid_perm p]; exact f.res q ((List.mem_cons.mp hq).elim (fun e => e ▸ List.mem_cons_self ..) fun m => List.mem_cons_of_mem _ ((p.map Prod.fst).mem_iff.mpr m))⟩
theorem Fea.ok {CS : Addr} {ts : List (Str × Str)} {n : Int} {sz : Str → Int} {l : List Str} (f : Fea ts n sz) (p : l.Perm (ts.map Prod.fst)) : feE CS ts n (some (tblI l sz)) = none := by
  have e1 : ∀ a ∈ ts.map Prod.fst, valV (tblI l sz) (Sum.inr a) = some (.int (sz a)) := fun a ha => tblI_val (p.mem_iff.mpr ha)
  have ll := p.length_eq
  rw [List.length_map] at ll
  unfold feE
  rw [feas_some, if_neg (by rw [tblI_len]; exact fun z => z ll), if_neg]
  · have e2 : (ts.map Prod.fst).find? (badKey (tblI l sz)) = none := List.find?_eq_none.mpr fun a ha z => by
      unfold badKey at z
      rw [e1 a ha] at z
      have z' : (!decide ((0 : Int) ≤ sz a)) = true := z
      rw [decide_eq_true (f.nn a ha)] at z'
      cases z'
    rw [e2]
    have e3 : ((("" : Str) :: ts.map Prod.fst).find? fun p => decide (resid ts n (szOf (tblI l sz)) p < 0)) = none := List.find?_eq_none.mpr fun q hq z => by
      have z' := of_decide_eq_true z
      rw [resid_congr (sz' := sz) (fun a ha => szOf_tbl (p.mem_iff.mpr ha)) ((List.mem_cons.mp hq).imp id fun h => szOf_tbl (p.mem_iff.mpr h))] at z'
      have := f.res q hq
      omega
    show Option.map _ (Option.map V.str (List.find? _ _)) = none
    rw [e3] <;> rfl
  · intro z
    have : ((ts.map Prod.fst).all fun a => (valV (tblI l sz) (Sum.inr a)).isSome) = true := List.all_eq_true.mpr fun a ha => by rw [e1 a ha] <;> rfl
    rw [this] at z
    cases z
/-- what has been dealt out -/
structure Dealt (t : List (Str × Str)) (n : Int) (l : List Str) (t' : List (Str × Str)) (sz : Str → Int) : Prop where
  keys : t'.map Prod.fst = l
  sub : ∀ p ∈ t', p ∈ t
  par_ : ∀ p ∈ t', p.2 = "" ∨ p.2 ∈ l
  nn : ∀ a ∈ l, 0 ≤ sz a
  res : ∀ p ∈ (("" : Str) :: l), 0 ≤ resid t' n sz p
  top_ : ∀ p ∈ (("" : Str) :: l), resid t' n sz p ≤ n
theorem Dealt.nil {t : List (Str × Str)} {n : Int} {sz : Str → Int} (n0 : 0 ≤ n) : Dealt t n [] [] sz := by
  refine ⟨rfl, fun p h => (by cases h), fun p h => (by cases h), fun a h => (by cases h), fun p h => ?_, fun p h => ?_⟩
  · rw [List.mem_singleton.mp h]
    show 0 ≤ n - 0
    omega
  · rw [List.mem_singleton.mp h]
    show n - 0 ≤ n
    omega
theorem Dealt.step {t t' : List (Str × Str)} {n : Int} {l : List Str} {sz : Str → Int} (d : Dealt t n l t' sz) {a pa : Str} {z : Int} (na : a ∉ l) (ne : a ≠ "") (mt : (a, pa) ∈ t) (mp : pa = "" ∨ pa ∈ l) (z0 : 0 ≤ z) (z1 : z ≤ resid t' n sz pa) :
    Dealt t n (l ++ [a]) (t' ++ [(a, pa)]) (fun x => if x = a then z else sz x) ∧
    (∀ p ∈ (("" : Str) :: (l ++ [a])), resid (t' ++ [(a, pa)]) n (fun x => if x = a then z else sz x) p = if p = pa then resid t' n sz pa - z else if p = a then z else resid t' n sz p) := by
  have kid : kids t' a = [] := by
    unfold kids
    rw [List.filter_eq_nil_iff.mpr fun q hq z => ?_] <;> try rfl
    have e := of_decide_eq_true z
    rcases d.par_ q hq with h | h
    · exact ne (e.symm.trans h)
    · exact na (by rw [← e]; exact h)
  have pne : pa ≠ a := fun e => mp.elim (fun h => ne (e.symm.trans h)) fun h => na (by rw [← e]; exact h)
  have old : ∀ p, p ≠ a → resid t' n (fun x => if x = a then z else sz x) p = resid t' n sz p := fun p hp =>
    resid_congr (fun x hx => if_neg fun e => na (by rw [← e, ← d.keys]; exact hx)) (.inr (if_neg hp))
  have eq : ∀ p ∈ (("" : Str) :: (l ++ [a])), resid (t' ++ [(a, pa)]) n (fun x => if x = a then z else sz x) p = if p = pa then resid t' n sz pa - z else if p = a then z else resid t' n sz p := fun p _ => by
    rw [resid_snoc]
    by_cases h1 : p = pa
    · rw [if_pos h1.symm, if_pos h1, old p (by rw [h1]; exact pne), h1]
      show _ - (if a = a then z else sz a) = _
      rw [if_pos rfl]
    · rw [if_neg (fun e => h1 e.symm), if_neg h1]
      by_cases h2 : p = a
      · rw [if_pos h2, h2]
        unfold resid
        rw [kid, if_neg ne]
        show (if a = a then z else sz a) - 0 = z
        rw [if_pos rfl]
        omega
      · rw [if_neg h2, old p h2]
  refine ⟨⟨by rw [List.map_append, d.keys] <;> rfl, fun p hp => ?_, fun p hp => ?_, fun x hx => ?_, fun p hp => ?_, fun p hp => ?_⟩, eq⟩
  · rcases List.mem_append.mp hp with h | h
    · exact d.sub p h
    · rw [List.mem_singleton.mp h]
      exact mt
  · rcases List.mem_append.mp hp with h | h
    · exact (d.par_ p h).imp id fun m => List.mem_append_left _ m
    · rw [List.mem_singleton.mp h]
      exact mp.imp id fun m => List.mem_append_left _ m
  · show 0 ≤ if x = a then z else sz x
    by_cases e : x = a
    · rw [if_pos e]
      exact z0
    · rw [if_neg e]
      exact d.nn x ((List.mem_append.mp hx).resolve_right fun m => e (List.mem_singleton.mp m))
  · rw [eq p hp]
    by_cases h1 : p = pa
    · rw [if_pos h1]
      omega
    · rw [if_neg h1]
      by_cases h2 : p = a
      · rw [if_pos h2]
        exact z0
      · rw [if_neg h2]
        refine d.res p ((List.mem_cons.mp hp).elim (fun e => e ▸ List.mem_cons_self ..) fun m => List.mem_cons_of_mem _ ?_)
        exact (List.mem_append.mp m).resolve_right fun m => h2 (List.mem_singleton.mp m)
  · rw [eq p hp]
    have tp := d.top_ pa (List.mem_cons.mpr mp)
    by_cases h1 : p = pa
    · rw [if_pos h1]
      omega
    · rw [if_neg h1]
      by_cases h2 : p = a
      · rw [if_pos h2]
        omega
      · rw [if_neg h2]
        refine d.top_ p ((List.mem_cons.mp hp).elim (fun e => e ▸ List.mem_cons_self ..) fun m => List.mem_cons_of_mem _ ?_)
        exact (List.mem_append.mp m).resolve_right fun m => h2 (List.mem_singleton.mp m)
end FT


/-! Own: the end of a law's row from a contract FnG (the library's walk_of asks FnOk). -/
namespace L2
open PySem PySem.Spec PyProof.Rows
section
variable {P : Program} {w : World} {K : PySem.W.Frag} {mg mb : Str → Option Value} {k : Nat} {fa a : Addr} {fd : FuncData} {x : Str} {sp : Sp} {s : Shared} {vs : List Value} {ns : List Int}
/-- the abstract heap at the law's entry: the script alone, locked; or nothing, where the script is the module's own -/
abbrev Entry (K : PySem.W.Frag) (a : Addr) (H : Hp) : Prop := (∀ b, H b ≠ none → b = a) ∧ (H a ≠ none → K.lookup a = none)
end
end L2


/-! Own: defs that make lambdas (their code object known), and the end of a law's row from a contract FnG with tables of code objects. -/
namespace L2
open PySem PySem.Spec PyProof.Rows LamX
/-- as Fun, the code object's place told -/
structure FunC (K : PySem.W.Frag) (x qual : Str) (st : Stmt) (f : Addr) (fd : FuncData) (c : Addr) : Prop where
  ex : ∃ (oc : Value) (od : Option Addr) (kV doc pm : Value) (an : Option Addr) (ct : Value) (osl : Array (Option Value)),
    fd = PySem.W.fnOf x qual (defArgs st) (defBody st) (defScope st) .none kV doc pm an (.ref c) ct ∧ K.lookup f = some ⟨oc, od, .func fd, osl⟩ ∧ PySem.W.codeIn K (.ref c) qual = true
  kp : PySem.W.keepIn K (.ref f) = true
theorem FunC.fun {K : PySem.W.Frag} {x qual : Str} {st : Stmt} {f c : Addr} {fd : FuncData} (F : FunC K x qual st f fd c) : Fun K x qual st f fd :=
  let ⟨oc, od, kV, doc, pm, an, ct, osl, e1, e2, e3⟩ := F.ex
  ⟨⟨oc, od, kV, doc, pm, an, .ref c, ct, osl, e1, e2, e3⟩, F.kp⟩
theorem funC_mk {K : PySem.W.Frag} {x qual : Str} {st : Stmt} {f c : Addr} {oc : Value} {od an : Option Addr} {osl : Array (Option Value)} {kV doc pm ct : Value} (l : K.lookup f = some ⟨oc, od, .func (PySem.W.fnOf x qual (defArgs st) (defBody st) (defScope st) .none kV doc pm an (.ref c) ct), osl⟩)
    (e : PySem.W.codeIn K (.ref c) qual = true) (k : PySem.W.keepIn K (.ref f) = true) : FunC K x qual st f (PySem.W.fnOf x qual (defArgs st) (defBody st) (defScope st) .none kV doc pm an (.ref c) ct) c := ⟨⟨oc, od, kV, doc, pm, an, ct, osl, rfl, l, e⟩, k⟩
section
variable {P : Program} {w : World} {K : PySem.W.Frag} {mg : Str → Option Value} {base : Heap}
theorem FunC.ok {x qual : Str} {st : Stmt} {f c : Addr} {fd : FuncData} {N ps : List Str} {k : Nat} {sp : Sp} (F : FunC K x qual st f fd c) (S : FnScope N ps (defScope st)) (len : ∀ vs H Q E, sp vs H Q E → vs.length = ps.length)
    (body : ∀ (A : Around) (outer : List Env) (s : Shared) (H : Hp) (vs : List V) (Q : VK) (E : XK), Room k (A.deeper (envOfC qual (defScope st) s.heap.objs.size f (.ref c))) → sp vs H Q E →
      ∃ t, PSs (cxOf CX0 P w K mg base N qual (defScope st) f (.ref c) A outer s H E).nox (defBody st) t ∧ t { nx := fun _ H' => Q .non H', rt := Q } (start N vs) H) : FnOk P w K mg base CX0 (k + 1) f fd ps sp := by
  obtain ⟨oc, od, kV, doc, pm, an, ct, osl, rfl, lk, code⟩ := F.ex
  refine fn_of lk code S len fun A outer s H vs Q E room want => ?_
  obtain ⟨t, h, q⟩ := body A outer s H vs Q E room want
  exact ⟨t, h.nox, q⟩
theorem FunC.okG {x qual : Str} {st : Stmt} {f c : Addr} {fd : FuncData} {N ps : List Str} {k : Nat} {sp : Sp} (F : FunC K x qual st f fd c) (S : FnScope N ps (defScope st)) (len : ∀ vs H Q E, sp vs H Q E → vs.length = ps.length)
    (body : ∀ (A : Around) (outer : List Env) (s : Shared) (H : Hp) (vs : List V) (Q : VK) (E : XK), Clr A → Room k (A.deeper (envOfC qual (defScope st) s.heap.objs.size f (.ref c))) → sp vs H Q E →
      ∃ t, PSs (cxOf CX0 P w K mg base N qual (defScope st) f (.ref c) A outer s H E).nox (defBody st) t ∧ t { nx := fun _ H' => Q .non H', rt := Q } (start N vs) H) : FnG P w K mg base CX0 (k + 1) f fd ps sp := by
  obtain ⟨oc, od, kV, doc, pm, an, ct, osl, rfl, lk, code⟩ := F.ex
  refine ⟨len, fun A outer s H args us vs Q E clr room e0 binds rel want => ?_⟩
  have nps := len _ _ _ _ want
  have KX : K.In s.heap := e0.mod.kin.keeps fun b o e => (e0.bs b o e).1
  have lim : s.heap.NoLimit := e0.mod.nolimit.keeps fun b o e => (e0.bs b o e).1
  refine codeAny_call_function room.depth (KX _ _ lk) rfl S.co S.gen rfl (PySem.W.codeRec_of KX code) (binds _ _ _ _ (wpAny_newFunctionEnv_cells S.kind (fun y hy => ?_) fun env he s1 x => ?_))
  · obtain ⟨n, v⟩ := y
    exact (S.par n (List.of_mem_zip hy).1).elim .inl fun q => .inr ⟨q, PySem.W.cellsFrom_some _ _ _ (.inl q)⟩
  · subst he
    obtain ⟨t, term, q⟩ := body A outer s H vs Q E clr (room.deeper _) want
    have I : Inv (cxOf CX0 P w K mg base N qual (defScope st) f (.ref c) A outer s H E) [] (start N vs) H s1 := inv_start S room.hd e0 nps rel x
    refine ⟨lim.keeps x.toInCall.keep, codeAny_func (wpAny_mono (term.nox.run [] s1 (start N vs) H _ I q) (fun fl s' z => ?_) fun _ _ z => z)⟩
    match fl, z with
    | .ret u, ⟨v, _, H', J, rv, q⟩ => exact ⟨v, H', J.os, J.bare, J.base, J.hok, rv, q⟩
    | .next, ⟨_, H', J, q⟩ => exact ⟨.non, H', J.os, J.bare, J.base, J.hok, rfl, q⟩
    | .brk, ⟨_, _, _, q⟩ => exact q.elim
    | .cont, ⟨_, _, _, q⟩ => exact q.elim
end
section
variable {P : Program} {w : World} {K : PySem.W.Frag} {mg mb : Str → Option Value} {k : Nat} {fa a : Addr} {fd : FuncData} {x : Str} {sp : Sp} {s : Shared} {vs : List Value} {ns : List Int} {cs : List (Addr × Addr)}
/-- the code objects and their tables: empty, not of the written part -/
abbrev TabsIn (K : PySem.W.Frag) (h : Heap) (cs : List (Addr × Addr)) : Prop := ∀ p ∈ cs, PySem.W.CodeHd h p.1 p.2 ∧ h.get? p.2 = some (PySem.W.tabObj #[]) ∧ K.lookup p.2 = none
/-- the abstract heap at the law's entry: the tables, and the script, locked, or where it is the module's own the tables alone -/
structure EntT (K : PySem.W.Frag) (cs : List (Addr × Addr)) (a : Addr) (vs : List Value) (ns : List Int) (H : Hp) : Prop where
  tab : ∀ p ∈ cs, H p.2 = some (.tbl #[])
  dom : ∀ b u, H b = some u → (b = a ∧ u = .frz { cls := .type "list", data := .seq vs.toArray } (.lst (ns.map V.int))) ∨ ∃ p ∈ cs, b = p.2
  own : H a ≠ none → K.lookup a = none
theorem entT_run (KX : K.In s.heap) (hns : s.heap.Ns mainGlobals mg) (hb : s.heap.Ns builtinsNs mb) (hbb : ∀ y : Str, y ≠ "__name__" → mb y = bootBuiltins y) (lim : s.heap.NoLimit) (gens : s.gens = #[]) (ti : TabsIn K s.heap cs)
    (bmain : ∃ (bm : Addr) (ob : Obj), mg "__builtins__" = some (.ref bm) ∧ bm ≠ builtinsNs ∧ s.heap.get? bm = some ob ∧ ob.cls = .type "module" ∧ ob.dict = some builtinsNs ∧ ob.data = .plain)
    (oa : s.heap.get? a = some { cls := .type "list", data := .seq vs.toArray }) (rv : Vals (ns.map V.int) vs) (few : ns.length ≤ sizeLine) (room : Room k callerA)
    (F : ∀ base : Heap, K.In base → base.Ns mainGlobals mg → (∀ p ∈ cs, TabB base mg p.1 p.2) → FnG P w K mg base CX0 k fa fd [x] sp)
    (bind : ∀ (s : Shared) (u : Value), BindsTo s fd ⟨[u], []⟩ [(x, u)]) {H : Hp} (en : EntT K cs a vs ns H) (want : sp [.ref a] H (fun v _ => v = .bl true) fun _ _ _ => False) :
    codeAny (model P w) callerA (.call (.ref fa) ⟨[.ref a], []⟩) (fun r s' => r = .ok (.ret (.bool true)) ∧ OldK s.heap s'.heap ∧ s'.os = s.os ∧ AllBare s'.gens) s := by
  -- what is tracked: a list or a table
  have kinds : ∀ {b : Addr} {o : Obj}, s.heap.get? b = some o → H b ≠ none → o = { cls := .type "list", data := .seq vs.toArray } ∨ o = PySem.W.tabObj #[] := fun {b o} q n => by
    cases r : H b with
    | none => exact absurd r n
    | some u =>
      rcases en.dom b u r with ⟨rfl, _⟩ | ⟨p, hp, rfl⟩
      · rw [oa] at q
        exact .inl (Option.some.inj q).symm
      · rw [(ti p hp).2.1] at q
        exact .inr (Option.some.inj q).symm
  have loose : ∀ {b : Addr} {o : Obj}, s.heap.get? b = some o → (∀ vs n, o.data ≠ .seq vs n) → (o.data = .fields #[] → False) → H b = none := fun {b o} q h1 h2 => by
    refine Decidable.byContradiction fun n => ?_
    rcases kinds q n with e | e
    · exact h1 _ _ (by rw [e])
    · exact h2 (by rw [e])
  have seen : ∀ {b : Addr} {o : Obj}, s.heap.get? b = some o → H b = none → (hidT s.heap H).get? b = some o := fun q n => hidT_get q n
  have dict : ∀ {b : Addr} {o : Obj} {es : Array DictEntry} {ep : Nat}, s.heap.get? b = some o → o.data = .dict es ep → (hidT s.heap H).get? b = some o := fun q d => seen q (loose q (fun vs n z => nomatch d.symm.trans z) fun z => nomatch d.symm.trans z)
  have nsT : ∀ {b : Addr} {m : Str → Option Value}, s.heap.Ns b m → (hidT s.heap H).Ns b m := fun ⟨o, es, ep, q, d, r⟩ => ⟨o, es, ep, dict q d, d, r⟩
  have KT : K.In (hidT s.heap H) := fun b o q => seen (KX b o q) (Decidable.byContradiction fun n => by
    cases r : H b with
    | none => exact n r
    | some u =>
      rcases en.dom b u r with ⟨rfl, _⟩ | ⟨p, hp, rfl⟩
      · rw [en.own n] at q
        cases q
      · rw [(ti p hp).2.2] at q
        cases q)
  have isTab : ∀ b u, H b = some u → ∀ q, u = .tbl q → s.heap.get? b = some (PySem.W.tabObj #[]) ∧ q = #[] := fun b u r q e => by
    rcases en.dom b u r with ⟨_, z⟩ | ⟨p, hp, rfl⟩
    · rw [e] at z
      cases z
    · refine ⟨(ti p hp).2.1, ?_⟩
      have z := en.tab p hp
      rw [r, e] at z
      cases z
      rfl
  have ok : HOk P w H s.heap := fun b u r => by
    rcases en.dom b u r with ⟨rfl, rfl⟩ | ⟨p, hp, rfl⟩
    · exact ⟨oa, by rw [List.length_map]; exact few, vs, _, rv, oa⟩
    · rw [en.tab p hp] at r
      cases r
      exact (ti p hp).2.1
  have TB : ∀ p ∈ cs, TabB (hidT s.heap H) mg p.1 p.2 := fun p hp => by
    obtain ⟨C, tp, _⟩ := ti p hp
    refine ⟨?_, ?_, fun z => ?_⟩
    · obtain ⟨o, us, file, tf, flags, tg, inF, text, tt, e1, r1, r2, r3, r⟩ := C
      refine ⟨o, us, file, tf, flags, tg, inF, text, tt, seen e1 (loose e1 (fun vs n z => nomatch r2.symm.trans z) fun z => ?_), r1, r2, r3, r⟩
      have e := r2.symm.trans z
      cases e
      simp at r3
    · obtain ⟨bm, ob, b1, b2, b3, b4, b5, b6⟩ := bmain
      refine ⟨bm, ob, b1, b2, fun q => ?_, fun q => ?_, seen b3 (loose b3 (fun vs n z => nomatch b6.symm.trans z) fun z => nomatch b6.symm.trans z), b4, b5, b6⟩
      · obtain ⟨o, es, ep, e, hd, _⟩ := hns
        rw [q, e] at b3
        cases b3
        cases hd.symm.trans b6
      · rw [q, tp] at b3
        cases b3
        cases b6
    · obtain ⟨o, es, ep, e, hd, _⟩ := hns
      rw [z, tp] at e
      cases e
      cases hd
  have e0 : Env0 P w K mg (hidT s.heap H) callerA [] s H :=
    ⟨rfl, ⟨KT, nsT hns, ⟨mb, nsT hb, hbb⟩, let ⟨m, z1, z2⟩ := lim; ⟨m, nsT z1, z2⟩⟩, fun b o q => of_hidT q, Nat.le_of_eq (hidT_size _ _), trivial, fun b z => absurd (show b ∈ ([] : List Addr) from z) (by simp), ok, .of_eq gens⟩
  refine codeAny_mono ((F _ KT (nsT hns) TB).run callerA [] s H ⟨[.ref a], []⟩ [.ref a] [.ref a] _ _ rfl room e0 (bind s (.ref a)) (.cons rfl .nil) want) fun r s' z => ?_
  match r, z with
  | .error _, z => exact z.elim
  | .ok .next, z => exact z.elim
  | .ok .brk, z => exact z.elim
  | .ok .cont, z => exact z.elim
  | .ok (.ret u), ⟨v, H', os, bare, un, ok', rv', q⟩ =>
    obtain rfl : v = .bl true := q
    obtain rfl : u = Value.bool true := rv'
    -- an object stays, or is a table that has grown
    have way : ∀ b o, s.heap.get? b = some o → s'.heap.get? b = some o ∨ ∃ p ∈ cs, b = p.2 ∧ ∃ more : Array Value, s'.heap.get? b = some (PySem.W.tabObj more) := fun b o q => by
      cases r : H b with
      | none => exact .inl (un.keep b o q r (fun z => absurd (show b ∈ ([] : List Addr) from z) (by simp)) (by simp))
      | some u =>
        rcases en.dom b u r with ⟨rfl, rfl⟩ | ⟨p, hp, rfl⟩
        · have q1 := (ok b _ r).1
          rw [q] at q1
          cases q1
          exact .inl (ok' b _ (un.frzs b _ _ r)).1
        · obtain ⟨more, z⟩ := un.tbls p.2 #[] (en.tab p hp)
          exact .inr ⟨p, hp, rfl, _, ok' p.2 _ z⟩
    refine ⟨rfl, ⟨fun b o q => ?_, fun b o q => ?_⟩, os, bare⟩
    · rcases way b o q with z | ⟨p, hp, rfl, more, z⟩
      · exact .inl z
      · obtain ⟨C, tp, _⟩ := ti p hp
        rw [tp] at q
        cases q
        exact .inr (.inl ⟨(C.tab tp).isCodeTable, rfl, #[], more, rfl, by rw [Array.empty_append]; exact z⟩)
    · rcases way b o q with z | ⟨_, _, _, more, z⟩
      · exact ⟨o, z⟩
      · exact ⟨_, z⟩
end
/-- the law's promise with its tables -/
def LawTG (l : PySem.W.OpenLaw) (w : World) (K : PySem.W.Frag) (k n : Nat) (x : Str) (mg : Str → Option Value) (fa : Addr) (h : Heap) : Prop :=
  ∃ (fd : FuncData) (cs : List (Addr × Addr)) (sp : Sp), TabsIn K h cs ∧ (∀ (s : Shared) (u : Value), BindsTo s fd ⟨[u], []⟩ [(x, u)]) ∧
    (∀ (H : Hp) (a : Addr) (ns : List Int), ns.length ≤ n → (∀ p ∈ cs, H p.2 = some (.tbl #[])) → SqL K H a (ns.map V.int) → sp [.ref a] H (fun v _ => v = .bl true) fun _ _ _ => False) ∧
    ∀ base : Heap, K.In base → base.Ns mainGlobals mg → (∀ p ∈ cs, TabB base mg p.1 p.2) → FnG l.prog w K mg base CX0 k fa fd [x] sp
/-- what the head tells of a def's table -/
abbrev TabsOf (q : Program) (K : PySem.W.Frag) (h : Heap) : Prop := ∀ (y : Str) (c P : Addr), ((recsOf q).find? (fun e => e.name == y)).isSome = true → PySem.W.tabIn K y = some (c, P) → PySem.W.CodeHd h c P ∧ h.get? P = some (PySem.W.tabObj #[])
/-- the goal behind the head, from such a promise -/
theorem walk_tabG {l : PySem.W.OpenLaw} {n k : Nat} {q : Program} {loose : List Str} {XP : (Str → Option Value) → Heap → Prop} {YP : World → Heap → Prop} {d : DefRec} {K : Params → PySem.W.Frag} {x : Str}
    (most : l.most = some n) (few : n ≤ sizeLine) (nodf : d.params.defaults = []) (room : Room k callerA) (hY : ∀ (w : World) (h : Heap), YP w h → (K w.params).In h)
    (F : ∀ (w : World) (mg : Str → Option Value) (fa : Addr) (h : Heap), (K w.params).In h → h.Ns mainGlobals mg → mg d.name = some (.ref fa) → TabsOf q (K w.params) h → XP mg h → LawTG l w (K w.params) k n x mg fa h) :
    PySem.W.WalkO q loose XP YP l.row.toRowW d [] (fun f vs => PySem.call f vs) :=
  Att.attach_call most nodf fun w _ s mg mb fa _ _ _ _ a vs ns G Y _ _ _ hmg hobj hints hlen hg => by
    have KX := hY w _ Y
    obtain ⟨fd, cs, sp, ti, bind, hsp, hF⟩ := F w mg fa _ KX G.T.g hmg (fun y c P hr ht => let ⟨d', hd⟩ := Option.isSome_iff_exists.mp hr; PySem.W.tab_of G.T KX hd ht) G.X
    have rv := vals_ints hints
    have len := hints.length
    have tne : ∀ p ∈ cs, p.2 ≠ a := fun p hp z => by
      have e := (ti p hp).2.1
      rw [z, hobj] at e
      cases e
    cases own : (K w.params).lookup a with
    | some o =>
      have e := KX a o own
      rw [hobj] at e
      cases e
      obtain ⟨H, eH⟩ : ∃ H : Hp, H = fun b => if b ∈ cs.map (·.2) then some (.tbl #[]) else none := ⟨_, rfl⟩
      have inT : ∀ p ∈ cs, H p.2 = some (.tbl #[]) := fun p hp => by
        rw [eH]
        exact if_pos (List.mem_map.mpr ⟨p, hp, rfl⟩)
      have outT : ∀ b, b ∉ cs.map (·.2) → H b = none := fun b n => by
        rw [eH]
        exact if_neg n
      have na : a ∉ cs.map (·.2) := fun m => by
        obtain ⟨p, hp, e⟩ := List.mem_map.mp m
        exact tne p hp e
      refine entT_run KX G.T.g G.T.b G.T.builtins G.T.nolimit hg ti G.T.bmain hobj rv (Nat.le_trans hlen few) room hF bind (H := H) ⟨inT, fun b u r => .inr ?_, fun z => absurd (outT a na) z⟩
        (hsp H a ns hlen inT (.inr ⟨_, vs.toArray, _, own, rfl, rfl, rfl, by rw [List.size_toArray, len]; exact Nat.le_trans hlen few, by simpa using rv⟩))
      refine Decidable.byContradiction fun n => ?_
      rw [outT b fun m => n (let ⟨p, hp, e⟩ := List.mem_map.mp m; ⟨p, hp, e.symm⟩)] at r
      cases r
    | none =>
      obtain ⟨H, eH⟩ : ∃ H : Hp, H = fun b => if b = a then some (.frz { cls := .type "list", data := .seq vs.toArray } (.lst (ns.map V.int))) else if b ∈ cs.map (·.2) then some (.tbl #[]) else none := ⟨_, rfl⟩
      have atA : H a = some (.frz { cls := .type "list", data := .seq vs.toArray } (.lst (ns.map V.int))) := by rw [eH]; exact if_pos rfl
      have inT : ∀ p ∈ cs, H p.2 = some (.tbl #[]) := fun p hp => by
        rw [eH]
        exact (if_neg (tne p hp)).trans (if_pos (List.mem_map.mpr ⟨p, hp, rfl⟩))
      refine entT_run KX G.T.g G.T.b G.T.builtins G.T.nolimit hg ti G.T.bmain hobj rv (Nat.le_trans hlen few) room hF bind (H := H) ⟨inT, fun b u r => ?_, fun _ => own⟩ (hsp H a ns hlen inT (.inl (.inr ⟨_, atA⟩)))
      by_cases n : b = a
      · subst n
        rw [atA] at r
        exact .inl ⟨rfl, (Option.some.inj r).symm⟩
      · refine .inr (Decidable.byContradiction fun m => ?_)
        rw [eH] at r
        have r' := (if_neg n).symm.trans r
        rw [if_neg fun z => m (let ⟨p, hp, e⟩ := List.mem_map.mp z; ⟨p, hp, e.symm⟩)] at r'
        cases r'
end L2


namespace FT
open PySem L2 TL ClX LamX NdefX
/-! ### tables -/
/-- as Keep, but for the tables of code objects -/
def KeepN (d c : Addr) (H H' : Hp) : Prop := ∀ b o, b ≠ d → b ≠ c → H b = some o → (∀ ps, o ≠ .tbl ps) → H' b = some o
theorem KeepN.trans {d c : Addr} {H H1 H2 : Hp} (a : KeepN d c H H1) (b : KeepN d c H1 H2) : KeepN d c H H2 := fun x o h h' e n => b x o h h' (a x o h h' e n) n
theorem Keep.n {d c : Addr} {H H' : Hp} (k : Keep d c H H') : KeepN d c H H' := fun b o h h' e _ => k b o h h' e
theorem KeepN.of_ext {d c : Addr} {H H' : Hp} (e : ExtN H H') : KeepN d c H H' := fun b o _ _ q n => e b o q n
theorem KeepN.free {d c p : Addr} {H H' : Hp} (k : KeepN d c H H') (n : H' p = none) (n1 : p ≠ d) (n2 : p ≠ c) (t : ∀ ps, H p ≠ some (.tbl ps)) : H p = none := by
  cases e : H p with
  | none => rfl
  | some o =>
    rw [k p o n1 n2 e (fun ps z => t ps (by rw [e, z]))] at n
    cases n
theorem tabs_keep {T : List (Addr × Str)} {d c : Addr} {H H' : Hp} (t : Tabs T H) (dr : DrawAt H d c) (k : Keep d c H H') : Tabs T H' := fun p hp => by
  obtain ⟨nx, mx, ct, cells, h1, h2, _⟩ := dr
  obtain ⟨ps, e1, e2, e3⟩ := t p hp
  have off : ∀ {b : Addr} {o : HO}, H b = some o → (∀ xs, o ≠ .lst xs) → H' b = some o := fun {b o} e n => k b o (fun z => by
    rw [z, h1] at e
    exact n _ (Option.some.inj e).symm) (fun z => by
    rw [z, h2] at e
    exact n _ (Option.some.inj e).symm) e
  refine ⟨ps, off e1 (fun xs z => nomatch z), e2, fun pos cv hc => ?_⟩
  obtain ⟨c', q1, q2⟩ := e3 pos cv hc
  exact ⟨c', q1, off q2 (fun xs z => by unfold CodeO at z; cases z)⟩
/-- neither a table nor a code object -/
def NTab (u : HO) : Prop := (∀ ps, u ≠ .tbl ps) ∧ ∀ c q, u ≠ CodeO c q
theorem NTab.dK {kvs : List (Key × V)} : NTab (.dK kvs) := ⟨fun ps z => (nomatch z), fun c q z => (by unfold CodeO at z; cases z)⟩
theorem NTab.lst {xs : List V} : NTab (.lst xs) := ⟨fun ps z => (nomatch z), fun c q z => (by unfold CodeO at z; cases z)⟩
theorem NTab.ins {C dx : Addr} {fs : List (Str × V)} : NTab (.ins C dx fs) := ⟨fun ps z => (nomatch z), fun c q z => (by unfold CodeO at z; cases z)⟩
theorem tabs_put {T : List (Addr × Str)} {H : Hp} {p : Addr} {u o : HO} (t : Tabs T H) (e : H p = some u) (n : NTab u) : Tabs T (upd H p o) := fun x hx => by
  obtain ⟨ps, e1, e2, e3⟩ := t x hx
  refine ⟨ps, ?_, e2, fun pos cv hc => ?_⟩
  · rw [upd_ne fun z => ?_]
    · exact e1
    · rw [z, e] at e1
      exact n.1 _ (Option.some.inj e1)
  · obtain ⟨c, q1, q2⟩ := e3 pos cv hc
    refine ⟨c, q1, ?_⟩
    rw [upd_ne fun z => ?_]
    · exact q2
    · rw [z, e] at q2
      exact n.2 _ _ (Option.some.inj q2)
theorem tabs_new {T : List (Addr × Str)} {H : Hp} {p : Addr} {o : HO} (t : Tabs T H) (n : H p = none) : Tabs T (upd H p o) := t.ext (same_new n)
theorem DrawAt.ext {H H' : Hp} {d c : Addr} (x : DrawAt H d c) (e : ExtN H H') : DrawAt H' d c := by
  obtain ⟨nx, mx, ct, cells, h1, h2, r⟩ := x
  exact ⟨nx, mx, ct, cells, e _ _ h1 (fun ps z => nomatch z), e _ _ h2 (fun ps z => nomatch z), r⟩
theorem capt_by {sc scope : Scope} (h : (scope.names.all fun y => !decide (y.2 = .free) || decide (sc.names.lookup y.1 = some .cell) || decide (sc.names.lookup y.1 = some .free)) = true) :
    ∀ y ∈ scope.names, y.2 = .free → sc.names.lookup y.1 = some .cell ∨ sc.names.lookup y.1 = some .free := fun y hy e => by
  have z := List.all_eq_true.mp h y hy
  simp only [Bool.or_eq_true, Bool.not_eq_true', decide_eq_false_iff_not, decide_eq_true_eq] at z
  rcases z with (z | z) | z
  · exact absurd e z
  · exact .inl z
  · exact .inr z
def rLenS (K : PySem.W.Frag) : List V → Hp → VK → Prop := fun xs H Q => ∃ p ys, xs = [.ref p] ∧ (SqL K H p ys ∨ SqT K H p ys) ∧ Q (.int ys.length) H
def spSizes (T : List (Addr × Str)) : Sp := fun vs H Q _ => ∃ (d c q : Addr) (n : Int) (t : List (Str × Str)), vs = [.ref d, .ref q, .int n] ∧ DrawAt H d c ∧ H q = some (.dK (prs t)) ∧ TreeOk t ∧ 0 ≤ n ∧ n ≤ 10 ^ 30 ∧ Tabs T H ∧
  ∀ (p : Addr) (l : List Str) (sz : Str → Int) (H' : Hp), l.Perm (t.map Prod.fst) → Fea t n sz → (∀ b o, H b = some o → (∀ ps, o ≠ .tbl ps) → b ≠ p) → H' p = some (.dK (tblI l sz)) → DrawAt H' d c → Tabs T H' → KeepN d c H H' → Q (.ref p) H'
section
variable {P : Program} {w : World} {K : PySem.W.Frag} {mg : Str → Option Value} {base : Heap}
theorem scPath : FnScope ["_law_above", "_law_spot", "_law_way"] ["_law_above", "_law_spot"] (defScope s__law_path) := ⟨rfl, rfl, rfl, by decide +kernel, rfl, by decide +kernel, by decide +kernel⟩
def rankP (t : List (Str × Str)) (rk : Str → Nat) (σ : St) : Nat := match σ[1]? with
  | some (some (V.str a)) => if a ∈ t.map Prod.fst then rk a + 1 else 0
  | _ => 0
theorem ok_path {f : Addr} {fd : FuncData} (F : Fun K "_law_path" "_law_path" s__law_path f fd) : FnOk P w K mg base CX0 1 f fd ["_law_above", "_law_spot"] spPath := by
  refine F.ok scPath (fun vs H Q E h => ?_) (fun cdv A outer s H vs Q E hr h => ?_)
  · obtain ⟨q, a, t, rfl, _⟩ := h
    rfl
  · obtain ⟨q, a, t, rfl, hq, o, pl, k⟩ := h
    have hu := hu_of hr
    obtain ⟨rk, r⟩ := o.up
    refine ⟨_, pss_cons (ps_set (i := 2) scPath.nd rfl (.inl rfl) (pe_tup pa_nil))
      (pss_cons (ps_while PassesOwn.never (pt_cmpR op_ne (pv 1) pe_str (nomark _))
        (pss_cons (ps_set (i := 2) scPath.nd rfl (.inl rfl) (pe_op op_catT (pe_tup (pa_cons (pv 1) pa_nil)) (pv 2)))
        (pss_one (ps_set (i := 1) scPath.nd rfl (.inl rfl) (pe_dget hu (pv 0) (pv 1) (fun _ _ => rfl))))))
      (pss_one (ps_ret (pv 2)))), ?_⟩
    have big : 1000 ≤ sizeLine := by decide
    have few := o.few
    have rdm : ∀ {H'}, Same H H' → Rd H' q (.dK (prs t)) := fun s => hq.imp (s _ _) fun ⟨ob, e⟩ => ⟨ob, s _ _ e⟩
    refine ⟨by show 0 ≤ sizeLine; omega, fun p0 n0 => ?_⟩
    refine while_by (fun σ H' => ∃ (x : Str) (pw : Addr) (ws : List Str), σ = [some (.ref q), some (.str x), some (.ref pw)] ∧ Same H H' ∧ H pw = none ∧ H' pw = some (.tup (ws.map V.str)) ∧ Pl t x ∧ pathOf t a = pathOf t x ++ ws)
      (fun σ _ => rankP t rk σ) ⟨a, p0, [], rfl, same_new n0, n0, upd_same, pl, by rw [List.append_nil]⟩ ?_ ?_
    · rintro σ H1 ⟨x, pw, ws, rfl, s1, npw, aw, px, epath⟩
      refine ⟨_, rfl, rfl, _, rfl, ?_⟩
      have lws : ws.length ≤ 12 := by
        have z := congrArg List.length epath
        rw [List.length_append] at z
        have := path_len t a
        omega
      by_cases e : x = ""
      · rw [decide_eq_true (show V.str x = V.str "" by rw [e])]
        refine iteF ?_
        rw [e, path_root, List.nil_append] at epath
        exact ⟨_, rfl, k pw H1 s1 npw (by rw [epath]; exact aw)⟩
      · rw [decide_eq_false (show ¬ V.str x = V.str "" from fun z => e (V.str.inj z))]
        show if true = true then _ else _
        rw [if_pos rfl]
        have mx := px.resolve_left e
        obtain ⟨pa, ep, hpa, lx⟩ := o.step r mx
        have st := path_step o mx ep
        have fin : ∀ (p3 : Addr) (H3 : Hp), Same H1 H3 → H p3 = none → H3 p3 = some (.tup ((x :: ws).map V.str)) →
            DGet H3 q (.str x) (some (.str pa)) ∧ (∃ (x' : Str) (pw' : Addr) (ws' : List Str), ([some (.ref q), some (.str pa), some (.ref p3)] : St) = [some (.ref q), some (.str x'), some (.ref pw')] ∧ Same H H3 ∧ H pw' = none ∧ H3 pw' = some (.tup (ws'.map V.str)) ∧ Pl t x' ∧ pathOf t a = pathOf t x' ++ ws') ∧
            rankP t rk [some (.ref q), some (.str pa), some (.ref p3)] < rankP t rk [some (.ref q), some (.str x), some (.ref pw)] := fun p3 H3 s3 n3 a3 => by
          refine ⟨.inl ⟨_, Sum.inr x, rdm (s1.trans s3), rfl, by rw [val_prs, ep] <;> rfl⟩, ⟨pa, p3, x :: ws, rfl, s1.trans s3, n3, a3, hpa.imp id And.left, by rw [epath, st, List.append_assoc] <;> rfl⟩, ?_⟩
          have e1 : rankP t rk [some (.ref q), some (.str x), some (.ref pw)] = rk x + 1 := if_pos mx
          rw [e1]
          rcases hpa with z | ⟨mp, lp⟩
          · have e2 : rankP t rk [some (.ref q), some (.str pa), some (.ref p3)] = 0 := if_neg (by rw [z]; exact o.root)
            show rankP t rk [some (.ref q), some (.str pa), some (.ref p3)] < _
            rw [e2]
            omega
          · have e2 : rankP t rk [some (.ref q), some (.str pa), some (.ref p3)] = rk pa + 1 := if_pos mp
            show rankP t rk [some (.ref q), some (.str pa), some (.ref p3)] < _
            rw [e2]
            omega
        refine ⟨_, rfl, by show 1 ≤ sizeLine; omega, fun p2 n2 => ⟨_, rfl, p2, pw, [.str x], ws.map V.str, rfl, rfl, .inl (.inl upd_same), .inl (.inl (by rw [upd_ne (ne_of_none aw n2)]; exact aw)), by simp, by rw [List.length_map]; show 1 + _ ≤ sizeLine; omega, fun ew => ?_, fun _ p3 n3 => ?_⟩⟩
        · have ew' : ws = [] := List.map_eq_nil_iff.mp ew
          obtain ⟨f1, f2, f3⟩ := fin p2 _ (same_new n2) (s1.free n2) (by rw [upd_same, ew'] <;> rfl)
          exact ⟨_, rfl, _, rfl, q, .str pa, rfl, f1, f2, f3⟩
        · obtain ⟨f1, f2, f3⟩ := fin p3 _ ((same_new n2).trans (same_new n3)) (s1.free ((same_new n2).free n3)) upd_same
          exact ⟨_, rfl, _, rfl, q, .str pa, rfl, f1, f2, f3⟩
    · rintro σ H' Qa Qb h ⟨v, e1, e2, b, e3, z⟩
      exact ⟨v, e1, e2, b, e3, h _ _ z⟩
end
end FT


/-! _law_residents -/
namespace FT
open PySem L2 TL ClX LiI
def spLawRes : Sp := fun vs H Q _ => ∃ (q qh : Addr) (n : Int) (t : List (Str × Str)) (l : List Str) (s : Str → Int), vs = [.ref q, .int n, .ref qh] ∧ H q = some (.dK (prs t)) ∧ TreeOk t ∧ H qh = some (.dK (tblI l s)) ∧ l.Perm (t.map Prod.fst) ∧
  ∀ (p : Addr) (H' : Hp) (ks : List Str), Same H H' → H p = none → ks.Perm (t.map Prod.fst) → PyProof.Rows.sortedS ks = true → H' p = some (.dK (tblI (("" : Str) :: ks) (resid t n s))) → Q (.ref p) H'
abbrev NLr : List Str := ["_law_above", "_law_many", "_law_how", "_law_found", "_law_name"]
theorem resid_nil (n : Int) (s : Str → Int) (a : Str) : resid [] n s a = if a = "" then n else s a := by
  unfold resid
  show (if a = "" then n else s a) - 0 = _
  omega
section
variable {P : Program} {w : World} {K : PySem.W.Frag} {mg : Str → Option Value} {base : Heap}
theorem scLr : FnScope NLr ["_law_above", "_law_many", "_law_how"] (defScope s__law_residents) := ⟨rfl, rfl, rfl, by decide +kernel, rfl, by decide +kernel, by decide +kernel⟩
theorem ok_lawRes {f : Addr} {fd : FuncData} (F : Fun K "_law_residents" "_law_residents" s__law_residents f fd) (N : Nm mg) : FnOk P w K mg base CX0 1 f fd ["_law_above", "_law_many", "_law_how"] spLawRes := by
  refine F.ok scLr (fun vs H Q E h => ?_) (fun cdv A outer s H vs Q E hr h => ?_)
  · obtain ⟨q, qh, n, t, l, s, rfl, _⟩ := h
    rfl
  · obtain ⟨q, qh, n, t, l, s, rfl, hq, o, hh, pl, k⟩ := h
    have hu := hu_of hr
    have nd := scLr.nd
    have big : 1000 ≤ sizeLine := by decide
    have few := o.few
    refine ⟨_, pss_cons (ps_set (i := 3) nd rfl (.inl rfl) (pe_disp (pps_cons pe_str (pv 1) pps_nil) (by rfl) (by rfl) (fun z => by cases z) (by decide)))
      (pss_cons (ps_for PassesOwn.never rfl (pi_list (pe_callB (call_sortedD rfl) (by rfl) N.srt (by decide +kernel) (pa_cons (pv 0) pa_nil))) (pg_name (i := 4) nd rfl (.inl rfl))
        (pss_one (ps_dput hu (pv 3) (pv 4) (pe_dget hu (pv 2) (pv 4) (fun _ _ => rfl)) rfl)))
      (pss_cons (ps_lock (ps_for PassesOwn.never rfl (pi_keys (pv 0)) (pg_name (i := 4) nd rfl (.inl rfl))
        (pss_one (ps_dput hu (pv 3) (pe_dget hu (pv 0) (pv 4) (fun _ _ => rfl)) (pe_op op_sub (pe_dget hu (pv 3) (pe_dget hu (pv 0) (pv 4) (fun _ _ => rfl)) (fun _ _ => rfl)) (pe_dget hu (pv 2) (pv 4) (fun _ _ => rfl))) rfl))))
      (pss_one (ps_ret (pv 3))))), ?_⟩
    refine fun D nD => ⟨_, rfl, upd_same, [(Sum.inr "", V.int n)], rfl, by show 1 ≤ 15; omega, ?_⟩
    obtain ⟨H1, e1⟩ : ∃ X, X = upd (upd H D (.dK [])) D (.dK (mergeK [] [(Sum.inr "", V.int n)])) := ⟨_, rfl⟩
    have s1 : Same H H1 := e1 ▸ (same_new nD).put nD
    have a1 : H1 D = some (.dK (tblI [""] (resid [] n s))) := by
      rw [e1, upd_same]
      show some (HO.dK [(Sum.inr "", V.int n)]) = some (HO.dK [(Sum.inr "", V.int (resid [] n s ""))])
      rw [resid_nil, if_pos rfl]
    rw [← e1]
    have Dq : D ≠ q := (ne_of_none hq nD).symm
    refine ⟨_, rfl, q, prs t, t.map Prod.fst, rfl, .inl (s1 _ _ hq), prs_keys t, by rw [List.length_map]; omega, fun ks p perm srt np => ⟨p, rfl, ⟨_, SqL.of upd_same⟩, ?_⟩⟩
    have lk := perm.length_eq
    rw [List.length_map] at lk
    have ndk : ks.Nodup := perm.nodup_iff.mpr o.nd
    have rk0 : ("" : Str) ∉ ks := fun z => o.root (perm.mem_iff.mp z)
    have pD : p ≠ D := (ne_of_none a1 np).symm
    obtain ⟨H2, e2⟩ : ∃ X, X = upd H1 p (.lst (ks.map V.str)) := ⟨_, rfl⟩
    have s12 : Same H1 H2 := e2 ▸ same_new np
    have a2 : H2 p = some (.lst (ks.map V.str)) := by rw [e2]; exact upd_same
    rw [← e2]
    refine for_it walk_list (fun j σ' H' => (∃ u4, σ' = [some (.ref q), some (.int n), some (.ref qh), some (.ref D), u4]) ∧ Same H H' ∧ H' p = some (.lst (ks.map V.str)) ∧ H' D = some (.dK (tblI ("" :: ks.take j) (resid [] n s))))
      ⟨⟨_, rfl⟩, s1.trans s12, a2, s12 _ _ a1⟩ (fun j σ' H' _ z => SqL.of z.2.2.1) ?_ ?_
    · intro j y σ' Ha Hb hj ⟨⟨u4, e⟩, sa, ap, aD⟩ ⟨eb, ex⟩
      subst e
      subst eb
      obtain ⟨a, ha, rfl⟩ := map_of ex
      have ma := List.mem_of_getElem? ha
      have mt := perm.mem_iff.mp ma
      have an : a ≠ "" := fun z => rk0 (by rw [← z]; exact ma)
      have dg : DGet Hb qh (.str a) (some (.int (s a))) := by
        have z := DGet.k (k := Sum.inr a) (sa _ _ hh)
        rw [tblI_val (pl.mem_iff.mpr mt)] at z
        exact z
      have fresh : a ∉ ("" : Str) :: ks.take j := fun m => (List.mem_cons.mp m).elim an (fresh_at ndk ha rfl)
      refine ⟨_, rfl, _, rfl, qh, .int (s a), rfl, dg, _, rfl, _, rfl, D, _, rfl, DPut.k (k := Sum.inr a) aD (by rw [tblI_len, List.length_cons, List.length_take]; omega), ⟨_, rfl⟩, Same.put sa nD, by rw [upd_ne pD]; exact ap, ?_⟩
      rw [upd_same, tblI_snoc fresh (by rw [resid_nil, if_neg an]), take_more ha] <;> rfl
    intro σ' H3 ⟨⟨u4, e⟩, sa, ap, aD⟩
    subst e
    rw [List.length_map, List.take_length] at aD
    have hq3 := sa _ _ hq
    refine ⟨q, _, hq3, trivial, fun od => ⟨_, rfl, q, od, rfl, .inl ⟨_, upd_same, ?_⟩⟩⟩
    have Dq' : D ≠ q := Dq
    have qhq : qh ≠ D := ne_of_none hh nD
    refine for_it walk_keys (fun j σ' H' => (∃ u4, σ' = [some (.ref q), some (.int n), some (.ref qh), some (.ref D), u4]) ∧ H' q = some (.frz od (.dK (prs t))) ∧ (∀ b u, b ≠ q → H b = some u → H' b = some u) ∧ H' D = some (.dK (tblI ("" :: ks) (resid (t.take j) n s))))
      ⟨⟨_, rfl⟩, upd_same, fun b u nb e => by rw [upd_ne nb]; exact sa _ _ e, by rw [upd_ne Dq]; exact aD⟩ (fun j σ' H' _ z => z.2.1) ?_ ?_
    · intro j y σ' Ha Hb hj ⟨⟨u4, e⟩, aq, sb, aD⟩ ⟨eb, kk, vv, hk, ey⟩
      subst e
      subst eb
      subst ey
      obtain ⟨⟨a, pa⟩, hp, ee⟩ : ∃ x : Str × Str, t[j]? = some x ∧ (kk, vv) = (Sum.inr x.1, V.str x.2) := by
        unfold prs kvT at hk
        rw [List.map_map, List.getElem?_map] at hk
        obtain ⟨x, hx, z⟩ := Option.map_eq_some_iff.mp hk
        exact ⟨x, hx, z.symm⟩
      cases ee
      rw [show kV (Sum.inr a) = V.str a from rfl]
      have mp := List.mem_of_getElem? hp
      have mk : a ∈ t.map Prod.fst := List.mem_map.mpr ⟨_, mp, rfl⟩
      have ep := par_of o.nd mp
      obtain ⟨rk, r⟩ := o.up
      have mpa : pa ∈ ("" : Str) :: ks := List.mem_cons.mpr ((r _ mp).2.imp id fun z => perm.mem_iff.mpr z.1)
      have dg : DGet Hb q (.str a) (some (.str pa)) := .inl ⟨_, Sum.inr a, .inr ⟨od, aq⟩, rfl, by rw [val_prs, ep] <;> rfl⟩
      have nqh : qh ≠ q := ne_of hh hq (by
        intro z
        have := HO.dK.inj z
        have l1 := congrArg List.length this
        cases t with
        | nil => cases mp
        | cons x t =>
          cases l with
          | nil => cases l1
          | cons y l => cases this)
      refine ⟨_, rfl, _, rfl, _, rfl, q, _, rfl, dg, D, .int (resid (t.take j) n s pa), rfl, ?_, ?_⟩
      · have z := DGet.k (k := Sum.inr pa) aD
        rw [tblI_val mpa] at z
        exact z
      · refine ⟨_, rfl, _, rfl, qh, .int (s a), rfl, ?_, _, _, rfl, rfl, ?_⟩
        · have z := DGet.k (k := Sum.inr a) (sb _ _ nqh hh)
          rw [tblI_val (pl.mem_iff.mpr mk)] at z
          exact z
        · refine ⟨_, rfl, _, rfl, _, rfl, q, _, rfl, dg, D, _, rfl, DPut.k (k := Sum.inr pa) aD (by rw [tblI_len, List.length_cons]; omega), ⟨_, rfl⟩, by rw [upd_ne Dq.symm]; exact aq, fun b u nb e => ?_, ?_⟩
          · rw [upd_ne (ne_of_none e nD)]
            exact sb b u nb e
          · rw [upd_same, tblI_put mpa, take_more hp]
            congr 2
            refine tblI_congr fun b hb => ?_
            rw [resid_snoc]
            show (if b = pa then _ else _) = if pa = b then _ else _
            by_cases e : b = pa
            · rw [if_pos e, if_pos e.symm, e]
            · rw [if_neg e, if_neg fun z => e z.symm]
    · intro σ' H4 ⟨⟨u4, e⟩, aq, sb, aD⟩
      subst e
      rw [show (prs t).length = t.length from prs_len t, List.take_length] at aD
      refine ⟨aq, _, rfl, k D _ ks (fun b u e => ?_) nD perm srt (by rw [upd_ne Dq]; exact aD)⟩
      by_cases z : b = q
      · subst z
        rw [hq] at e
        rw [upd_same]
        exact e
      · rw [upd_ne z]
        exact sb b u z e
end
end FT


/-! amounts and errors of tables (plain part of FtAm) -/
namespace FT
open PySem L2 TL ClX LamX NdefX LiI
theorem sz_tbl {K : PySem.W.Frag} {H : Hp} {q : Addr} {l : List Str} {s : Str → Int} (h : H q = some (.dK (tblI l s))) : SzV K H (.ref q) (some (tblI l s)) :=
  ⟨q, rfl, h, fun p hp => by
    obtain ⟨i, hi⟩ := List.mem_iff_getElem?.mp hp
    obtain ⟨k, v⟩ := p
    obtain ⟨a, _, _, rfl⟩ := tblI_at hi
    exact ⟨_, .int _⟩⟩
end FT


/-! amounts and errors of tables; what stands while the draws go on. -/
namespace FT
open PySem L2 TL ClX LamX NdefX LiI
theorem DrawAt.notD {H : Hp} {d c b : Addr} {o : HO} (x : DrawAt H d c) (e : H b = some o) (n : ∀ xs, o ≠ .lst xs) : b ≠ d ∧ b ≠ c := by
  obtain ⟨nx, mx, ct, cells, z1, z2, _⟩ := x
  exact ⟨ne_of e z1 (n _), ne_of e z2 (n _)⟩
theorem Dat.keepN {K : PySem.W.Frag} {H H' : Hp} {d c : Addr} {v : V} {T : String} (dr : DrawAt H d c) (dr' : DrawAt H' d c) (k : KeepN d c H H') (x : Dat K H v T) : Dat K H' v T := by
  cases x with
  | non => exact .non
  | bl b => exact .bl b
  | int i => exact .int i
  | str z => exact .str z
  | @lst a xs h =>
    obtain ⟨nx, mx, ct, cells, z1, z2, _⟩ := dr'
    by_cases e1 : a = d
    · subst e1
      exact .lst z1
    · by_cases e2 : a = c
      · subst e2
        exact .lst z2
      · exact .lst (k _ _ e1 e2 h fun ps z => nomatch z)
  | tup h => exact let ⟨e1, e2⟩ := dr.notD h (fun xs z => nomatch z); .tup (k _ _ e1 e2 h fun ps z => nomatch z)
  | dct h => exact let ⟨e1, e2⟩ := dr.notD h (fun xs z => nomatch z); .dct (k _ _ e1 e2 h fun ps z => nomatch z)
theorem SzV.keepN {K : PySem.W.Frag} {H H' : Hp} {d c : Addr} {sv : V} {o : Option (List (Key × V))} (dr : DrawAt H d c) (dr' : DrawAt H' d c) (k : KeepN d c H H') (x : SzV K H sv o) : SzV K H' sv o := by
  cases o with
  | none => exact let ⟨T, x, n⟩ := x; ⟨T, x.keepN dr dr' k, n⟩
  | some kvs =>
    obtain ⟨q, e, h, a⟩ := x
    obtain ⟨e1, e2⟩ := dr.notD h (fun xs z => nomatch z)
    exact ⟨q, e, k _ _ e1 e2 h (fun ps z => nomatch z), fun p hp => let ⟨T, x⟩ := a p hp; ⟨T, x.keepN dr dr' k⟩⟩
theorem FAt.keepN {CF x : Addr} {H H' : Hp} {d c : Addr} {ts : List (Str × Str)} (dr : DrawAt H d c) (k : KeepN d c H H') (h : FAt CF H x ts) : FAt CF H' x ts := by
  obtain ⟨dx, dq, h1, h2⟩ := h
  obtain ⟨a1, a2⟩ := dr.notD h1 (fun xs z => nomatch z)
  obtain ⟨b1, b2⟩ := dr.notD h2 (fun xs z => nomatch z)
  exact ⟨dx, dq, k _ _ a1 a2 h1 (fun ps z => nomatch z), k _ _ b1 b2 h2 (fun ps z => nomatch z)⟩
theorem KeepN.dk {H H' : Hp} {d c b : Addr} {kvs : List (Key × V)} (dr : DrawAt H d c) (k : KeepN d c H H') (h : H b = some (.dK kvs)) : H' b = some (.dK kvs) := let ⟨a1, a2⟩ := dr.notD h (fun xs z => nomatch z); k _ _ a1 a2 h (fun ps z => nomatch z)
theorem keys_walk {t : List (Str × Str)} {i : Nat} {k : Key} {v : V} (h : (prs t)[i]? = some (k, v)) : ∃ a p : Str, k = Sum.inr a ∧ v = .str p ∧ t[i]? = some (a, p) := by
  unfold prs kvT at h
  rw [List.map_map, List.getElem?_map] at h
  obtain ⟨⟨a, p⟩, hp, e⟩ := Option.map_eq_some_iff.mp h
  cases e
  exact ⟨a, p, rfl, rfl, hp⟩
end FT


/-! == of two lists of other lengths -/
namespace L2
open PySem PySem.Spec PyProof.Rows
section
variable {X : Cx}
def rEqLen : R2 := fun x y H Q => ∃ a b xs ys, x = .ref a ∧ y = .ref b ∧ H a = some (.lst xs) ∧ H b = some (.lst ys) ∧ xs.length ≠ ys.length ∧ Q (.bl false) H
end
end L2


/-! xs == [] and xs != [], whatever the items -/
namespace L2
open PySem PySem.Spec PyProof.Rows
section
variable {X : Cx}
def rNeLen : R2 := fun x y H Q => ∃ a b xs ys, x = .ref a ∧ y = .ref b ∧ H a = some (.lst xs) ∧ H b = some (.lst ys) ∧ xs.length ≠ ys.length ∧ Q (.bl true) H
theorem op_neLen (hu : X.A.units < cLine) : OpR X (compareOp .NotEq) rNeLen := by
  intro pins s σ H x y v u Q I rx ry h
  obtain ⟨a, b, xs, ys, rfl, rfl, ea, eb, ne, q⟩ := h
  obtain rfl : v = Value.ref a := rx
  obtain rfl : u = Value.ref b := ry
  obtain ⟨za, ia, na, ra, la, da⟩ := I.lstM ea
  obtain ⟨zb, ib, nb, rb, lb, db⟩ := I.lstM eb
  refine PySem.SeqAt.RcNeAt.lists_lengths (items := ia.toArray) (items2 := ib.toArray) ⟨_, da, rfl, _, rfl⟩ ⟨_, db, rfl, _, rfl⟩ ?_ hu _ _ _ _ ⟨.bl _, H, I, rfl, q⟩
  rw [List.size_toArray, List.size_toArray, bne_iff_ne]
  have h1 : xs.length = ia.length := by first | exact la | exact ra.length | exact la.symm
  have h2 : ys.length = ib.length := by first | exact lb | exact rb.length | exact lb.symm
  omega
def rEqNil : R2 := fun x y H Q => ∃ a b xs, x = .ref a ∧ y = .ref b ∧ H a = some (.lst xs) ∧ H b = some (.lst []) ∧ Q (.bl (decide (xs.length = 0))) H
def rNeNil : R2 := fun x y H Q => ∃ a b xs, x = .ref a ∧ y = .ref b ∧ H a = some (.lst xs) ∧ H b = some (.lst []) ∧ Q (.bl (!decide (xs.length = 0))) H
theorem op_neNil (hu : X.A.units + 64 < cLine) : OpR X (compareOp .NotEq) rNeNil := by
  intro pins s σ H x y v u Q I rx ry h
  obtain ⟨a, b, xs, rfl, rfl, ea, eb, q⟩ := h
  cases xs with
  | nil => exact op_neD hu pins s σ H _ _ v u Q I rx ry ⟨.list [], .list [], .lst (SqL.of ea) .nil, .lst (SqL.of eb) .nil, rfl, rfl, q⟩
  | cons x xs => exact op_neLen (by omega) pins s σ H _ _ v u Q I rx ry ⟨a, b, _, _, rfl, rfl, ea, eb, Nat.succ_ne_zero _, q⟩
end
end L2


/-! sizes of any kind: data, or a dict with a key of another kind -/
namespace FT
open PySem L2 TL ClX
/-- a value for sizes of m flags: a dict with the entries o, or no dict of as many entries -/
def SzM (K : PySem.W.Frag) (H : Hp) (m : Nat) (sv : V) (o : Option (List (Key × V))) : Prop := SzV K H sv o ∨ (o = none ∧ ∃ b rows, sv = .ref b ∧ H b = some (RawO b rows) ∧ rows.length ≠ m)
theorem SzM.mono {K : PySem.W.Frag} {H H' : Hp} {m : Nat} {sv : V} {o : Option (List (Key × V))} (s : Same H H') (h : SzM K H m sv o) : SzM K H' m sv o := by
  rcases h with h | ⟨e, b, rows, e1, e2, e3⟩
  · exact .inl (h.mono s)
  · exact .inr ⟨e, b, rows, e1, s _ _ e2, e3⟩
theorem SzM.some {K : PySem.W.Frag} {H : Hp} {m : Nat} {sv : V} {kvs : List (Key × V)} (h : SzM K H m sv (some kvs)) : SzV K H sv (some kvs) := by
  rcases h with h | ⟨e, _⟩
  · exact h
  · cases e
def spFeasZ (K : PySem.W.Frag) (CF CS : Addr) : Sp := fun vs H Q E => ∃ (x : Addr) (n : Int) (sv : V) (ts : List (Str × Str)) (o : Option (List (Key × V))), vs = [.ref x, .int n, sv] ∧ FAt CF H x ts ∧ TreeOk ts ∧ SzM K H ts.length sv o ∧ Res H Q E (feE CS ts n o)
/-! ### sizes that a law has bent -/
def KeyB : Key → Prop
  | .inl i => i = 3
  | .inr z => NameL z ∨ z = ""
def RawK (H : Hp) (x : V) : Prop := x = .non ∨ (∃ z, x = .str z ∧ NameL z) ∨ ∃ c, x = .ref c ∧ H c = some (.tup [.str "a"])
def BentV (K : PySem.W.Frag) (H : Hp) (m : Nat) (sv : V) : Option (List (Key × V)) → Prop
  | some kvs => ∃ q, sv = .ref q ∧ H q = some (.dK kvs) ∧ (∀ p ∈ kvs, IsDat K H p.2) ∧ (kvs.map (·.1)).Nodup ∧ kvs.length ≤ 13 ∧ ∀ p ∈ kvs, KeyB p.1
  | none => (∃ T, Dat K H sv T ∧ T ≠ "dict") ∨ ∃ b rows, sv = .ref b ∧ H b = some (RawO b rows) ∧ rows.length = m + 1 ∧ rows.length ≤ 13 ∧ ∀ r ∈ rows, RawK H r.1
theorem BentV.mono {K : PySem.W.Frag} {H H' : Hp} {m : Nat} {sv : V} {o : Option (List (Key × V))} (s : Same H H') (h : BentV K H m sv o) : BentV K H' m sv o := by
  cases o with
  | some kvs =>
    obtain ⟨q, e, h1, h2, h3⟩ := h
    exact ⟨q, e, s _ _ h1, fun p hp => (h2 p hp).mono s, h3⟩
  | none =>
    rcases h with ⟨T, d, n⟩ | ⟨b, rows, e, h1, h2, h4, h3⟩
    · exact .inl ⟨T, d.mono s, n⟩
    · refine .inr ⟨b, rows, e, s _ _ h1, h2, h4, fun r hr => ?_⟩
      rcases h3 r hr with z | z | ⟨c, z, hc⟩
      · exact .inl z
      · exact .inr (.inl z)
      · exact .inr (.inr ⟨c, z, s _ _ hc⟩)
end FT


/-! what repr shows of a key: different keys, different texts -/
namespace FT
open PySem L2 TL ClX
theorem subset_perm {α : Type} [DecidableEq α] : ∀ {a b : List α}, a.Nodup → (∀ x ∈ a, x ∈ b) → b.length ≤ a.length → a.Perm b
  | [], b, _, _, h => by
    have : b = [] := List.length_eq_zero_iff.mp (Nat.le_zero.mp h)
    rw [this]
  | x :: a, b, nd, sub, h => by
    obtain ⟨h1, h2⟩ := List.nodup_cons.mp nd
    have hx := sub x List.mem_cons_self
    have p := List.perm_cons_erase hx
    refine List.Perm.trans (.cons x (subset_perm h2 (fun y hy => ?_) ?_)) p.symm
    · exact (List.mem_erase_of_ne fun e => h1 (by rw [← e]; exact hy)).mpr (sub y (List.mem_cons_of_mem _ hy))
    · rw [List.length_erase_of_mem hx]
      rw [List.length_cons] at h
      omega
def Low (z : Str) : Prop := ∀ c ∈ tl z, 97 ≤ c ∧ c ≤ 122
theorem NameL.low {z : Str} (h : NameL z ∨ z = "") : Low z := by
  rcases h with h | rfl
  · exact h.1
  · intro c hc
    cases hc
/-- what is shown of a key -/
def keyD : Key → PyData
  | .inl i => .int i
  | .inr z => .str z
def shK (k : Key) : Str := (keyD k).shown
end FT


namespace FT
open PySem L2 TL ClX LiI
/-! ### crossings -/
def crs (g : Str → Int) (ts : List (Str × Str)) : List (Str × Str × Int) := ts.flatMap fun p => if 0 < g p.1 then [(p.2, p.1, g p.1)] else if g p.1 < 0 then [(p.1, p.2, - g p.1)] else []
def EdG (H : Hp) (rs : List Addr) (es : List (Str × Str × Int)) : Prop := Paired (fun (r : Addr) (e : Str × Str × Int) => H r = some (.tup [.str e.1, .str e.2.1, .int e.2.2])) rs es
theorem EdG.mono {H H' : Hp} (s : Same H H') : ∀ {rs : List Addr} {es : List (Str × Str × Int)}, EdG H rs es → EdG H' rs es
  | _, _, .nil => .nil
  | _, _, .cons h t => .cons (s _ _ h) (EdG.mono s t)
theorem EdG.push {H : Hp} {D : Addr} {xs : List V} {o : HO} (e : H D = some (.lst xs)) : ∀ {rs : List Addr} {es : List (Str × Str × Int)}, EdG H rs es → EdG (upd H D o) rs es
  | _, _, .nil => .nil
  | _, _, .cons h t => .cons (by rw [upd_ne (ne_of h e (by intro z; cases z))]; exact h) (EdG.push e t)
theorem EdG.snoc {H : Hp} {r : Addr} {e : Str × Str × Int} (h : H r = some (.tup [.str e.1, .str e.2.1, .int e.2.2])) : ∀ {rs : List Addr} {es : List (Str × Str × Int)}, EdG H rs es → EdG H (rs ++ [r]) (es ++ [e])
  | _, _, .nil => .cons h .nil
  | _, _, .cons q t => .cons q (EdG.snoc h t)
theorem EdG.len {H : Hp} : ∀ {rs : List Addr} {es : List (Str × Str × Int)}, EdG H rs es → rs.length = es.length
  | _, _, .nil => rfl
  | _, _, .cons _ t => congrArg (· + 1) (EdG.len t)
theorem EdG.at_ {H : Hp} {rs : List Addr} {es : List (Str × Str × Int)} (p : EdG H rs es) {i : Nat} {r : Addr} (h : rs[i]? = some r) : ∃ e, es[i]? = some e ∧ H r = some (.tup [.str e.1, .str e.2.1, .int e.2.2]) := LiI.paired_get p h
def spCross (CF : Addr) : Sp := fun vs H Q _ => ∃ (x q : Addr) (ts : List (Str × Str)) (g : Str → Int), vs = [.ref x, .ref q] ∧ FAt CF H x ts ∧ TreeOk ts ∧ H q = some (.dK (tblI (ts.map Prod.fst) g)) ∧
  ∀ p rs H', Same H H' → H p = none → H' p = some (.lst (rs.map V.ref)) → EdG H' rs (crs g ts) → Q (.ref p) H'
end FT


/-! plain: lists of users by place, how a change of sizes moves them, that the way back restores them. No program here. -/
namespace FT
open PySem L2 TL
/-! ### sums -/
/-! ### places, neighbours -/
def pls (ts : List (Str × Str)) : List Str := "" :: ts.map Prod.fst
/-- the other ends of the edges of a place -/
def adj (ts : List (Str × Str)) (p : Str) : List Str := (if p = "" then [] else [(par ts p).getD ""]) ++ kids ts p
/-! ### how many users cross an edge -/
def lv (ts : List (Str × Str)) (c : Str → Int) (p o : Str) : Nat := if par ts o = some p ∧ 0 < c o then (c o).toNat else if par ts p = some o ∧ c p < 0 then (- c p).toNat else 0
/-! ### an order of the places that all moves follow -/
def sg (z : Int) : Int := if 0 < z then 1 else if z < 0 then -1 else 0
def phi (ts : List (Str × Str)) (c : Str → Int) (p : Str) : Int := ((pathOf ts p).map fun x => sg (c x)).sum
def lvl (ts : List (Str × Str)) (c : Str → Int) (p : Str) : Nat := (phi ts c p + 12).toNat
/-! ### a change moves the lists -/
/-- groups that come to a place, in the order in which they are put behind its list -/
def ins (ts : List (Str × Str)) (G : Str → Str → List Int) (p : Str) : List Int := ((adj ts p).reverse.map fun o => G o p).flatten
/-- groups that leave a place -/
def outs (ts : List (Str × Str)) (G : Str → Str → List Int) (p : Str) : List Int := ((adj ts p).reverse.map fun o => G p o).flatten
def Moved (ts : List (Str × Str)) (c : Str → Int) (L L' : Str → List Int) : Prop := ∃ G : Str → Str → List Int, (∀ p, Pl ts p → ∀ o ∈ adj ts p, (G p o).length = lv ts c p o) ∧ ∀ p, Pl ts p → L p ++ ins ts G p = L' p ++ outs ts G p
/-- the lengths are the residents -/
def Lens (ts : List (Str × Str)) (n : Int) (sz : Str → Int) (L : Str → List Int) : Prop := ∀ p, Pl ts p → ((L p).length : Int) = resid ts n sz p
end FT


/-! sums -/
namespace FT
open PySem
theorem pair_lenZ {α β : Type} {F : α → β → Prop} : ∀ {xs : List α} {ys : List β}, Paired F xs ys → xs.length = ys.length
  | _, _, .nil => rfl
  | _, _, .cons _ t => congrArg (· + 1) (pair_lenZ t)
theorem filter_more {c : Str → Bool} {l : List Str} {i : Nat} {a : Str} (h : l[i]? = some a) : (l.take (i + 1)).filter c = (l.take i).filter c ++ if c a = true then [a] else [] := by
  rw [take_more h, List.filter_append, List.filter_cons, List.filter_nil]
end FT


/-! the law's own judgement of sizes (k03): _law_is_number, _law_due -/
namespace FT
open PySem L2 TL ClX LiI
/-- what stands for sizes in the law: at most m rows -/
def ItM (m : Nat) (P : Program) (w : World) (K : PySem.W.Frag) (H : Hp) (sv : V) : Option (List (Key × V)) → Prop
  | some kvs => ∃ q, sv = .ref q ∧ H q = some (.dK kvs) ∧ (∀ p ∈ kvs, IsDat K H p.2) ∧ (kvs.map (·.1)).Nodup ∧ kvs.length ≤ m
  | none => (∃ T, Dat K H sv T ∧ T ≠ "dict") ∨ ∃ (b : Addr) (kvs : List (Option Key × V)), sv = .ref b ∧ H b = some (DN P w b kvs) ∧ (kvs.map (·.1)).Nodup ∧ none ∈ kvs.map (·.1) ∧ kvs.length ≤ m ∧ ∀ p ∈ kvs, IsDat K H p.2
abbrev ItV (P : Program) (w : World) (K : PySem.W.Frag) (H : Hp) (sv : V) (o : Option (List (Key × V))) : Prop := ItM 20 P w K H sv o
theorem ItM.up {m n : Nat} {P : Program} {w : World} {K : PySem.W.Frag} {H : Hp} {sv : V} {o : Option (List (Key × V))} (z : m ≤ n) (h : ItM m P w K H sv o) : ItM n P w K H sv o := by
  cases o with
  | some kvs => exact let ⟨q, e, hq, d, nd, l⟩ := h; ⟨q, e, hq, d, nd, Nat.le_trans l z⟩
  | none =>
    rcases h with h | ⟨b, kvs, e, hb, nd, mn, l, r⟩
    · exact .inl h
    · exact .inr ⟨b, kvs, e, hb, nd, mn, Nat.le_trans l z, r⟩
theorem ItV.szN {P : Program} {w : World} {K : PySem.W.Frag} {H : Hp} {sv : V} {o : Option (List (Key × V))} (h : ItV P w K H sv o) : SzN P w K H sv o := by
  cases o with
  | some kvs => exact let ⟨q, e, hq, d, _⟩ := h; .inl ⟨q, e, hq, d⟩
  | none =>
    rcases h with h | ⟨b, kvs, e, hb, nd, mn, _⟩
    · exact .inl h
    · exact .inr ⟨rfl, b, kvs, e, hb, nd, mn⟩
theorem ItV.mono {P : Program} {w : World} {K : PySem.W.Frag} {H H' : Hp} {sv : V} {o : Option (List (Key × V))} (s : Same H H') (h : ItV P w K H sv o) : ItV P w K H' sv o := by
  cases o with
  | some kvs => exact let ⟨q, e, hq, d, r⟩ := h; ⟨q, e, s _ _ hq, fun p hp => (d p hp).mono s, r⟩
  | none =>
    rcases h with ⟨T, d, n⟩ | ⟨b, kvs, e, hb, nd, mn, l, d⟩
    · exact .inl ⟨T, d.mono s, n⟩
    · exact .inr ⟨b, kvs, e, s _ _ hb, nd, mn, l, fun p hp => (d p hp).mono s⟩
/-- all keys are the flags: a table -/
theorem dk_tbl {t : List (Str × Str)} (o : TreeOk t) {kvs : List (Key × V)} {s : Str → Int} (nd : (kvs.map (·.1)).Nodup) (l : kvs.length = t.length) (h : ∀ a ∈ t.map Prod.fst, valV kvs (Sum.inr a) = some (.int (s a))) : ∃ ks : List Str, ks.Perm (t.map Prod.fst) ∧ kvs = tblI ks s := by
  have nd2 : ((t.map Prod.fst).map fun a => (Sum.inr a : Key)).Nodup := by
    rw [List.nodup_iff_pairwise_ne, List.pairwise_map]
    exact (List.nodup_iff_pairwise_ne.mp o.nd).imp fun h q => h (Sum.inr.inj q)
  have sub : ∀ k ∈ ((t.map Prod.fst).map fun a => (Sum.inr a : Key)), k ∈ kvs.map (·.1) := fun k hk => by
    obtain ⟨a, ha, rfl⟩ := List.mem_map.mp hk
    have e := valV_any (Sum.inr a : Key) kvs
    rw [h a ha] at e
    obtain ⟨p, hp, e⟩ := List.any_eq_true.mp e
    exact List.mem_map.mpr ⟨p, hp, of_decide_eq_true e⟩
  have back : ∀ k ∈ kvs.map (·.1), k ∈ ((t.map Prod.fst).map fun a => (Sum.inr a : Key)) := fun k hk => by
    by_cases m : k ∈ ((t.map Prod.fst).map fun a => (Sum.inr a : Key))
    · exact m
    · have := nodup_leN (a := k :: ((t.map Prod.fst).map fun a => (Sum.inr a : Key))) (b := kvs.map (·.1)) (List.nodup_cons.mpr ⟨m, nd2⟩) fun x hx => (List.mem_cons.mp hx).elim (fun e => e ▸ hk) (sub x)
      rw [List.length_cons, List.length_map, List.length_map, List.length_map, l] at this
      omega
  let nm : Key × V → Str := fun p => match p.1 with
    | .inr a => a
    | .inl _ => ""
  have each : ∀ p ∈ kvs, nm p ∈ t.map Prod.fst ∧ p = (Sum.inr (nm p), V.int (s (nm p))) := fun p hp => by
    obtain ⟨a, ha, e⟩ := List.mem_map.mp (back p.1 (List.mem_map.mpr ⟨p, hp, rfl⟩))
    have e1 : nm p = a := by show (match p.1 with | .inr a => a | .inl _ => ("" : Str)) = a; rw [← e]
    rw [e1]
    refine ⟨ha, Prod.ext e.symm ?_⟩
    have v := h a ha
    have f : valV kvs p.1 = some p.2 := by
      obtain ⟨i, hi⟩ := List.mem_iff_getElem?.mp hp
      have : ∀ (l : List (Key × V)) (i : Nat), (l.map (·.1)).Nodup → l[i]? = some p → valV l p.1 = some p.2 := by
        intro l
        induction l with
        | nil => intro i _ h; cases h
        | cons z l ih =>
          intro i nd h
          rw [List.map_cons, List.nodup_cons] at nd
          cases i with
          | zero =>
            have e : z = p := Option.some.inj h
            rw [e, valV_pos rfl]
          | succ i =>
            have hz : l[i]? = some p := h
            rw [valV_neg fun e => nd.1 (by rw [e]; exact List.mem_map.mpr ⟨p, List.mem_of_getElem? hz, rfl⟩)]
            exact ih i nd.2 hz
      exact this kvs i nd hi
    rw [← e, v] at f
    exact (Option.some.inj f).symm
  have ek : (kvs.map nm).map (fun a => (Sum.inr a : Key)) = kvs.map (·.1) := by
    rw [List.map_map]
    exact List.map_congr_left fun p hp => (congrArg Prod.fst (each p hp).2).symm
  refine ⟨kvs.map nm, ?_, ?_⟩
  · have ndm : (kvs.map nm).Nodup := by
      rw [← ek] at nd
      rw [List.nodup_iff_pairwise_ne] at nd ⊢
      exact (List.pairwise_map.mp nd).imp fun h e => h (by rw [e])
    refine subset_perm ndm (fun a ha => ?_) (by rw [List.length_map, List.length_map, l]; exact Nat.le_refl _)
    obtain ⟨p, hp, rfl⟩ := List.mem_map.mp ha
    exact (each p hp).1
  · unfold tblI kvT
    rw [List.map_map, List.map_map]
    conv => lhs; rw [← List.map_id kvs]
    exact List.map_congr_left fun p hp => (each p hp).2
theorem pair_snocT {H H' : Hp} {rs : List Addr} {xs : List Str} {r : Addr} {x : Str} (p : Paired (fun (r : Addr) (z : Str) => H r = some (.tup [.str z])) rs xs) (m : ∀ (b : Addr) (v : V), H b = some (.tup [v]) → H' b = some (.tup [v])) (h : H' r = some (.tup [.str x])) :
    Paired (fun (r : Addr) (z : Str) => H' r = some (.tup [.str z])) (rs ++ [r]) (xs ++ [x]) := by
  induction p with
  | nil => exact .cons h .nil
  | cons e _ ih => exact .cons (m _ _ e) ih
/-- the tuple of one place, or None -/
def TellT (H : Hp) (Q : VK) : Option V → Prop
  | none => ∀ H', Same H H' → Q .non H'
  | some v => ∀ p H', Same H H' → H p = none → H' p = some (.tup [v]) → Q (.ref p) H'
def spIsNum (K : PySem.W.Frag) : Sp := fun vs H Q _ => ∃ v : V, vs = [v] ∧ IsDat K H v ∧ Q (.bl (isGe v 0)) H
def spDueN (P : Program) (w : World) (K : PySem.W.Frag) : Sp := fun vs H Q _ => ∃ (q : Addr) (n : Int) (sv : V) (t ts : List (Str × Str)) (o : Option (List (Key × V))), vs = [.ref q, .int n, sv] ∧ sv ≠ .ref q ∧ H q = some (.dK (prs t)) ∧ TreeOk t ∧ ts.Perm t ∧ Asc ts ∧ ItV P w K H sv o ∧ TellT H Q (feas ts n o)
abbrev NDu : List Str := ["_law_above", "_law_many", "_law_item", "_law_name", "_law_left", "_law_spot"]
section
variable {P : Program} {w : World} {K : PySem.W.Frag} {mg : Str → Option Value} {base : Heap}
theorem scIsN : FnScope ["_law_item"] ["_law_item"] (defScope s__law_is_number) := ⟨rfl, rfl, rfl, by decide +kernel, rfl, by decide +kernel, by decide +kernel⟩
theorem ok_isNum {f : Addr} {fd : FuncData} (F : Fun K "_law_is_number" "_law_is_number" s__law_is_number f fd) (T : Nm mg) : FnOk P w K mg base CX0 1 f fd ["_law_item"] (spIsNum K) := by
  refine F.ok scIsN (fun vs H Q E h => ?_) (fun cdv A outer s H vs Q E hr h => ?_)
  · obtain ⟨v, rfl, _⟩ := h
    rfl
  · obtain ⟨v, rfl, ⟨t, d⟩, k⟩ := h
    refine ⟨_, pss_one (ps_ret (pe_and (pe_callB call_isi (by rfl) T.isi (by decide +kernel) (pa_cons (pv 0) (pa_cons (pe_bltn (v := .ty "int") (u := .type "int") (by rfl) T.int (by decide +kernel) rfl) pa_nil)))
      (pe_and (pe_not (pe_callB call_isi (by rfl) T.isi (by decide +kernel) (pa_cons (pv 0) (pa_cons (pe_bltn (v := .ty "bool") (u := .type "bool") (by rfl) T.bool (by decide +kernel) rfl) pa_nil)))) (pe_one (pe_cmpR op_ge (pv 0) pe_int (nomark _)))))), ?_⟩
    refine ⟨_, rfl, v, _, _, _, _, rfl, .ty _, d.ty, d.int_, _, rfl, ?_⟩
    refine ite2 (fun yes => ⟨_, rfl, v, _, _, _, _, rfl, .ty _, d.ty, d.bool_, _, rfl, _, rfl, ?_⟩) (fun no => ?_)
    · refine ite2 (fun yes2 => ?_) (fun no2 => ?_)
      · cases v with
        | int i => exact ⟨_, rfl, i, 0, rfl, rfl, k⟩
        | bl b => cases yes2
        | _ => cases yes
      · cases v with
        | int i => exact absurd rfl no2
        | bl b => exact k
        | _ => cases yes
    · cases v with
      | int i => exact absurd rfl no
      | bl b => exact absurd rfl no
      | _ => exact k
theorem scDu : FnScope NDu ["_law_above", "_law_many", "_law_item"] (defScope s__law_due) := ⟨rfl, rfl, rfl, by decide +kernel, rfl, by decide +kernel, by decide +kernel⟩
theorem ok_dueN {f fN fR : Addr} {fd fdN fdR : FuncData} (F : Fun K "_law_due" "_law_due" s__law_due f fd) (T : Nm mg) (DN' : Dn P w K mg base CX0 1 "_law_is_number" ["_law_item"] (spIsNum K) fN fdN) (DR : Dn P w K mg base CX0 1 "_law_residents" ["_law_above", "_law_many", "_law_how"] spLawRes fR fdR) :
    FnOk P w K mg base CX0 2 f fd ["_law_above", "_law_many", "_law_item"] (spDueN P w K) := by
  refine F.ok scDu (fun vs H Q E h => ?_) (fun cdv A outer s H vs Q E hr h => ?_)
  · obtain ⟨q, n, sv, t, ts, so, rfl, _⟩ := h
    rfl
  · obtain ⟨q, n, sv, t, ts, so, rfl, svq, hq, o, pm, asc, iv, k⟩ := h
    have hu := hu_of hr
    have nd := scDu.nd
    have big : 1000 ≤ sizeLine := by decide
    have few := o.few
    have ot : TreeOk ts := o.perm pm.symm
    have etl : ts.length = t.length := pm.length_eq
    have pk : (ts.map Prod.fst).Perm (t.map Prod.fst) := pm.map _
    cases so with
    | none =>
      rcases iv with ⟨TT, d, ne⟩ | ⟨b, kvs, rfl, hb, ndk, mn, lk, dat⟩
      · -- of another kind
        refine ⟨_, pss_cons (ps_if (PW.pt (pw_or (pt_not (pt_val (pe_callB call_isi (by rfl) T.isi (by decide +kernel) (pa_cons (pv 2) (pa_cons (pe_bltn (v := .ty "dict") (u := .type "dict") (by rfl) T.dct (by decide +kernel) rfl) pa_nil)))))
            (pw_or1 (pt_cmpR op_ne (pe_callB call_lenD (by rfl) T.len PySem.boot_len (pa_cons (pv 2) pa_nil)) (pe_callB call_lenD (by rfl) T.len PySem.boot_len (pa_cons (pv 0) pa_nil)) (nomark _)))))
            (pss_one (ps_ret (pe_tup (pa_cons pe_non pa_nil)))) pss_nil) pss_never, ?_⟩
        refine ⟨_, rfl, sv, _, _, _, _, rfl, .ty _, d.ty, d.dict_, _, rfl, ?_⟩
        rw [decide_eq_false ne]
        show if true = true then _ else _
        rw [if_pos rfl]
        exact iteT ⟨by show 1 ≤ sizeLine; omega, fun p np => k p _ (same_new np) np upd_same⟩
      · -- with None among the keys
        refine ⟨_, pss_cons (ps_if (PW.pt (pw_or (pt_not (pt_val (pe_callB call_isiN (by rfl) T.isi (by decide +kernel) (pa_cons (pv 2) (pa_cons (pe_bltn (v := .ty "dict") (u := .type "dict") (by rfl) T.dct (by decide +kernel) rfl) pa_nil)))))
            (pw_or1 (pt_cmpR op_ne (pe_callB call_lenN (by rfl) T.len PySem.boot_len (pa_cons (pv 2) pa_nil)) (pe_callB call_lenD (by rfl) T.len PySem.boot_len (pa_cons (pv 0) pa_nil)) (nomark _)))))
            (pss_one (ps_ret (pe_tup (pa_cons pe_non pa_nil)))) pss_nil)
          (pss_cons (ps_if (pt_cmpR (op_neNil hr.units) (pe_lock (pe_lc (own := [("_law_name", 3)]) (g := gName 3) (tt := tB (tNotInK P w (tVar 3) (tVar 2))) (te := tVar 3) rfl nd (pi_keys (pv 0))
              (blkOk_by (N := NDu) (sc := defScope s__law_due) (by decide +kernel)) (fun _ _ _ _ _ => pg_name (i := 3) nd rfl (Or.inl rfl)) (fun _ _ _ _ _ => pts_one (pt_cmp (pc_dnotinK (pv 3) (pv 2)) rfl)) (fun _ _ _ _ _ => pv 3))) (pe_lst pa_nil) (nomark _))
              (pss_one (ps_ret (pe_tup (pa_cons pe_non pa_nil)))) pss_nil) pss_never), ?_⟩
        refine ⟨_, rfl, b, kvs, rfl, .inl hb, _, rfl, iteF ?_⟩
        refine ⟨_, rfl, b, kvs, rfl, .inl hb, _, rfl, q, _, rfl, hq, rfl, _, rfl, ?_⟩
        by_cases el : kvs.length = t.length
        · rw [decide_eq_true (show V.int (kvs.length : Int) = V.int ((prs t).length : Int) by rw [prs_len, el])]
          refine iteF ?_
          refine ⟨q, .dK (prs t), hq, trivial, fun od => ⟨_, rfl, q, od, rfl, .inl ⟨prs t, upd_same, fun D nD => ?_⟩⟩⟩
          have Dq : D ≠ q := (ne_of_none upd_same nD).symm
          have bq : b ≠ q := ne_of hb hq (by intro z; cases z)
          have hb1 : (upd H q (.frz od (.dK (prs t)))) b = some (DN P w b kvs) := by rw [upd_ne bq]; exact hb
          refine lc_it walk_keys (fun i H' => Same (upd H q (.frz od (.dK (prs t)))) H' ∧ H' D = some (.lst ((((t.map Prod.fst).take i).filter fun a => !(valV kvs (some (Sum.inr a))).isSome).map V.str))) ⟨same_new nD, upd_same⟩ (fun i H' _ z => z.1 _ _ upd_same) ?_ ?_
          · intro i y Ha Hb hi ⟨q1, q2⟩ ⟨eb, kk, vv, hk, ey⟩
            subst eb
            subst ey
            obtain ⟨a, pa, rfl, rfl, hp⟩ := keys_walk hk
            rw [show kV (Sum.inr a) = V.str a from rfl]
            have ha : (t.map Prod.fst)[i]? = some a := by rw [List.getElem?_map, hp] <;> rfl
            have more := filter_more (c := fun a => !(valV kvs (some (Sum.inr a))).isSome) ha
            have lf := List.length_filter_le (fun a => !(valV kvs (some (Sum.inr a))).isSome) ((t.map Prod.fst).take i)
            rw [List.length_take] at lf
            have il := (List.getElem?_eq_some_iff.mp hp).1
            refine ⟨rfl, ?_⟩
            refine ⟨_, rfl, _, rfl, b, kvs, some (Sum.inr a), rfl, rfl, .inl (q1 _ _ hb1), _, rfl, ?_⟩
            refine ite2 (fun yes => ?_) (fun no => ?_)
            · rw [if_pos yes] at more
              exact ⟨_, rfl, _, q2, by rw [List.length_map]; omega, q1.put nD, by rw [upd_same, more, List.map_append] <;> rfl⟩
            · rw [if_neg no, List.append_nil] at more
              exact ⟨q1, by rw [more]; exact q2⟩
          · intro H' ⟨q1, q2⟩
            rw [prs_len, ← List.length_map (f := Prod.fst) (as := t), List.take_length] at q2
            refine ⟨q1 _ _ upd_same, ?_⟩
            have su := unlock_same hq q1
            refine ⟨by show 0 ≤ sizeLine; omega, fun e0 ne0 => ?_⟩
            have te := same_new (o := .lst ([] : List V)) ne0
            refine ⟨D, e0, _, rfl, rfl, te _ _ (by rw [upd_ne Dq]; exact q2), upd_same, _, rfl, ?_⟩
            have miss : ¬ (((t.map Prod.fst).filter fun a => !(valV kvs (some (Sum.inr a))).isSome).map V.str).length = 0 := fun z => by
              rw [List.length_map, List.length_eq_zero_iff, List.filter_eq_nil_iff] at z
              have s1 := dn_short o ndk mn el
              rw [Bool.eq_false_iff] at s1
              exact s1 (List.all_eq_true.mpr fun a ha => by
                have := z a ha
                cases h : (valV kvs (some (Sum.inr a))).isSome with
                | true => rfl
                | false => rw [h] at this; exact absurd rfl this)
            rw [decide_eq_false miss]
            exact iteT ⟨by show 1 ≤ sizeLine; omega, fun p np => k p _ (su.trans (te.trans (same_new np))) ((su.trans te).free np) upd_same⟩
        · rw [decide_eq_false (show ¬ V.int (kvs.length : Int) = V.int ((prs t).length : Int) from fun z => el (by have := V.int.inj z; rw [prs_len] at this; omega))]
          exact iteT ⟨by show 1 ≤ sizeLine; omega, fun p np => k p _ (same_new np) np upd_same⟩
    | some kvs =>
      obtain ⟨qs, rfl, hs, dat, ndk, lk⟩ := iv
      refine ⟨_, pss_cons (ps_if (PW.pt (pw_or (pt_not (pt_val (pe_callB call_isi (by rfl) T.isi (by decide +kernel) (pa_cons (pv 2) (pa_cons (pe_bltn (v := .ty "dict") (u := .type "dict") (by rfl) T.dct (by decide +kernel) rfl) pa_nil)))))
          (pw_or1 (pt_cmpR op_ne (pe_callB call_lenD (by rfl) T.len PySem.boot_len (pa_cons (pv 2) pa_nil)) (pe_callB call_lenD (by rfl) T.len PySem.boot_len (pa_cons (pv 0) pa_nil)) (nomark _)))))
          (pss_one (ps_ret (pe_tup (pa_cons pe_non pa_nil)))) pss_nil)
        (pss_cons (ps_if (pt_cmpR (op_neNil hr.units) (pe_lock (pe_lc (own := [("_law_name", 3)]) (g := gName 3) (tt := tB (tDNotIn (tVar 3) (tVar 2))) (te := tVar 3) rfl nd (pi_keys (pv 0))
            (blkOk_by (N := NDu) (sc := defScope s__law_due) (by decide +kernel)) (fun _ _ _ _ _ => pg_name (i := 3) nd rfl (Or.inl rfl)) (fun _ _ _ _ _ => pts_one (pt_cmp (pc_dnotin hu (pv 3) (pv 2)) rfl)) (fun _ _ _ _ _ => pv 3))) (pe_lst pa_nil) (nomark _))
            (pss_one (ps_ret (pe_tup (pa_cons pe_non pa_nil)))) pss_nil)
        (pss_cons (ps_for PassesOwn.never rfl (pi_list (pe_callB (call_sortedD rfl) (by rfl) T.srt (by decide +kernel) (pa_cons (pv 0) pa_nil))) (pg_name (i := 3) nd rfl (.inl rfl))
          (pss_one (ps_if (pt_not (pt_val (pe_call DN'.ok hr rfl DN'.mgn DN'.kp DN'.bn .nil pass0 (pa_cons (pe_dget hu (pv 2) (pv 3) (fun _ _ => rfl)) pa_nil)))) (pss_one (ps_ret (pe_tup (pa_cons (pv 3) pa_nil)))) pss_nil)))
        (pss_cons (ps_set (i := 4) nd rfl (.inr rfl) (pe_call DR.ok hr rfl DR.mgn DR.kp DR.bn .nil pass0 (pa_cons (pv 0) (pa_cons (pv 1) (pa_cons (pv 2) pa_nil)))))
        (pss_one (ps_ret (pe_ix ix_list (pe_op op_cat (pe_lc (own := [("_law_spot", 5)]) (g := gName 5) (tt := tTest (tOp (rI0 fun i j => .bl (decide (i < j))) (tDGet (tVar 4) (tVar 5)) (tC (.int 0)))) (te := tTup (tCons (tVar 5) tNil)) rfl nd
            (pi_list (pe_op op_cat (pe_lst (pa_cons pe_str pa_nil)) (pe_callB (call_sortedD rfl) (by rfl) T.srt (by decide +kernel) (pa_cons (pv 0) pa_nil))))
            (blkOk_by (N := NDu) (sc := defScope s__law_due) (by decide +kernel)) (fun _ _ _ _ _ => pg_name (i := 5) nd rfl (Or.inl rfl)) (fun _ _ _ _ _ => pts_one (pt_cmpR op_lt (pe_dget hu (pv 4) (pv 5) (fun _ _ => rfl)) pe_int (nomark _))) (fun _ _ _ _ _ => pe_tup (pa_cons (pv 5) pa_nil)))
            (pe_lst (pa_cons pe_non pa_nil))) pe_int (fun _ _ => rfl))))))), ?_⟩
      refine ⟨_, rfl, .ref qs, _, _, _, _, rfl, .ty _, (Dat.dct (K := K) hs).ty, (Dat.dct (K := K) hs).dict_, _, rfl, ?_⟩
      rw [decide_eq_true rfl]
      refine iteF ?_
      refine ⟨_, rfl, qs, kvs, rfl, hs, _, rfl, q, _, rfl, hq, rfl, _, rfl, ?_⟩
      rw [feas_some] at k
      by_cases el : kvs.length = t.length
      rotate_left
      · rw [decide_eq_false (show ¬ V.int (kvs.length : Int) = V.int ((prs t).length : Int) from fun z => el (by have := V.int.inj z; rw [prs_len] at this; omega))]
        rw [if_pos (by rw [etl]; exact el)] at k
        exact iteT ⟨by show 1 ≤ sizeLine; omega, fun p np => k p _ (same_new np) np upd_same⟩
      rw [decide_eq_true (show V.int (kvs.length : Int) = V.int ((prs t).length : Int) by rw [prs_len, el])]
      rw [if_neg (by rw [etl]; exact fun z => z el)] at k
      refine iteF ?_
      refine ⟨q, .dK (prs t), hq, trivial, fun od => ⟨_, rfl, q, od, rfl, .inl ⟨prs t, upd_same, fun D nD => ?_⟩⟩⟩
      have Dq : D ≠ q := (ne_of_none upd_same nD).symm
      have eqq : qs ≠ q := fun z => svq (by rw [z])
      have hs1 : (upd H q (.frz od (.dK (prs t)))) qs = some (.dK kvs) := by rw [upd_ne eqq]; exact hs
      refine lc_it walk_keys (fun i H' => Same (upd H q (.frz od (.dK (prs t)))) H' ∧ H' D = some (.lst ((((t.map Prod.fst).take i).filter fun a => !(valV kvs (Sum.inr a)).isSome).map V.str))) ⟨same_new nD, upd_same⟩ (fun i H' _ z => z.1 _ _ upd_same) ?_ ?_
      · intro i y Ha Hb hi ⟨q1, q2⟩ ⟨eb, kk, vv, hk, ey⟩
        subst eb
        subst ey
        obtain ⟨a, pa, rfl, rfl, hp⟩ := keys_walk hk
        rw [show kV (Sum.inr a) = V.str a from rfl]
        have ha : (t.map Prod.fst)[i]? = some a := by rw [List.getElem?_map, hp] <;> rfl
        have more := filter_more (c := fun a => !(valV kvs (Sum.inr a)).isSome) ha
        have lf := List.length_filter_le (fun a => !(valV kvs (Sum.inr a)).isSome) ((t.map Prod.fst).take i)
        rw [List.length_take] at lf
        have il := (List.getElem?_eq_some_iff.mp hp).1
        refine ⟨rfl, ?_⟩
        refine ⟨_, rfl, _, rfl, qs, _, rfl, DGet.k (k := Sum.inr a) (q1 _ _ hs1), _, rfl, ?_⟩
        refine ite2 (fun yes => ?_) (fun no => ?_)
        · rw [if_pos yes] at more
          exact ⟨_, rfl, _, q2, by rw [List.length_map]; omega, q1.put nD, by rw [upd_same, more, List.map_append] <;> rfl⟩
        · rw [if_neg no, List.append_nil] at more
          exact ⟨q1, by rw [more]; exact q2⟩
      intro H' ⟨q1, q2⟩
      rw [prs_len, ← List.length_map (f := Prod.fst) (as := t), List.take_length] at q2
      refine ⟨q1 _ _ upd_same, ?_⟩
      have su := unlock_same hq q1
      refine ⟨by show 0 ≤ sizeLine; omega, fun e0 ne0 => ?_⟩
      have te := same_new (o := .lst ([] : List V)) ne0
      refine ⟨D, e0, _, rfl, rfl, te _ _ (by rw [upd_ne Dq]; exact q2), upd_same, _, rfl, ?_⟩
      have s1 : Same H (upd (upd H' q (.dK (prs t))) e0 (.lst [])) := su.trans te
      obtain ⟨H1, e1⟩ : ∃ X, X = upd (upd H' q (.dK (prs t))) e0 (.lst []) := ⟨_, rfl⟩
      rw [← e1] at s1 ⊢
      clear e1 te
      have missE : (((t.map Prod.fst).filter fun a => !(valV kvs (Sum.inr a)).isSome).map V.str).length = 0 ↔ ((ts.map Prod.fst).all fun a => (valV kvs (Sum.inr a)).isSome) = true := by
        rw [List.length_map, List.length_eq_zero_iff, List.filter_eq_nil_iff, List.all_eq_true]
        constructor
        · intro z a ha
          have := z a (pk.mem_iff.mp ha)
          cases h : (valV kvs (Sum.inr a)).isSome with
          | true => rfl
          | false => rw [h] at this; exact absurd rfl this
        · intro z a ha
          rw [z a (pk.mem_iff.mpr ha)]
          decide
      cases ea : (ts.map Prod.fst).all fun a => (valV kvs (Sum.inr a)).isSome with
      | false =>
        rw [if_pos ea] at k
        rw [decide_eq_false (fun z => by have := missE.mp z; rw [ea] at this; cases this)]
        exact iteT ⟨by show 1 ≤ sizeLine; omega, fun p np => k p _ (s1.trans (same_new np)) (s1.free np) upd_same⟩
      | true =>
        rw [if_neg (by rw [ea]; decide)] at k
        rw [decide_eq_true (missE.mpr ea)]
        refine iteF ?_
        have there : ∀ a ∈ ts.map Prod.fst, ∃ v, valV kvs (Sum.inr a) = some v := fun a ha => Option.isSome_iff_exists.mp (List.all_eq_true.mp ea a ha)
        -- one by one
        refine ⟨_, rfl, q, prs t, t.map Prod.fst, rfl, .inl (s1 _ _ hq), prs_keys t, by rw [List.length_map]; omega, fun ks pf perm srt nf => ⟨pf, rfl, ⟨_, SqL.of upd_same⟩, ?_⟩⟩
        have eks : ks = ts.map Prod.fst := sorted_one (perm.trans pk.symm) srt asc
        subst eks
        obtain ⟨H2, e2⟩ : ∃ X, X = upd H1 pf (.lst ((ts.map Prod.fst).map V.str)) := ⟨_, rfl⟩
        have s2 : Same H H2 := e2 ▸ s1.trans (same_new nf)
        have a2 : H2 pf = some (.lst ((ts.map Prod.fst).map V.str)) := by rw [e2]; exact upd_same
        rw [← e2]
        refine for_it walk_list (fun j σ' H' => (∃ u3, σ' = [some (.ref q), some (.int n), some (.ref qs), u3, none, none]) ∧ Same H2 H' ∧ ((ts.map Prod.fst).take j).find? (badKey kvs) = none)
          ⟨⟨none, rfl⟩, Same.refl, rfl⟩ (fun j σ' H' _ z => SqL.of (z.2.1 _ _ a2)) ?_ ?_
        · intro j y σ' Ha Hb hj ⟨⟨u3, e⟩, sa, good⟩ ⟨eb, ex⟩
          subst e
          subst eb
          obtain ⟨a, ha, rfl⟩ := map_of ex
          obtain ⟨v, hv⟩ := there a (List.mem_of_getElem? ha)
          have s0 := s2.trans sa
          refine ⟨_, rfl, _, rfl, qs, v, rfl, by have z := DGet.k (k := Sum.inr a) (s0 _ _ hs); rw [hv] at z; exact z, v, rfl, (dat _ (valV_mem hv)).mono s0, _, rfl, ?_⟩
          cases eg : isGe v 0 with
          | true => exact iteF ⟨⟨_, rfl⟩, sa, find_more ha good (by unfold badKey; rw [hv]; show (!isGe v 0) = false; rw [eg] <;> rfl)⟩
          | false =>
            rw [find_at ha good (by unfold badKey; rw [hv]; show (!isGe v 0) = true; rw [eg] <;> rfl)] at k
            exact iteT ⟨_, rfl, by show 1 ≤ sizeLine; omega, fun p np => k p _ (s0.trans (same_new np)) (s0.free np) upd_same⟩
        · intro σ' H5 ⟨⟨u3, e⟩, sa, good⟩
          subst e
          rw [List.length_map, List.take_length] at good
          rw [good] at k
          have s5 := s2.trans sa
          have allI : ∀ a ∈ t.map Prod.fst, valV kvs (Sum.inr a) = some (.int (szOf kvs a)) := fun a ha => by
            have ma := pk.mem_iff.mpr ha
            obtain ⟨v, hv⟩ := there a ma
            have nb := List.find?_eq_none.mp good a ma
            unfold badKey at nb
            rw [hv] at nb
            unfold szOf
            rw [hv]
            cases v with
            | int i => rfl
            | _ => exact absurd rfl nb
          obtain ⟨l, pl, etb⟩ := dk_tbl o ndk el allI
          have hs5 : H5 qs = some (.dK (tblI l (szOf kvs))) := by rw [← etb]; exact s5 _ _ hs
          refine ⟨_, rfl, _, rfl, _, rfl, q, qs, n, t, l, szOf kvs, rfl, s5 _ _ hq, o, hs5, pl, fun pr0 H6 ks s6 npr perm6 srt6 hpr => ?_⟩
          have eks6 : ks = ts.map Prod.fst := sorted_one (perm6.trans pk.symm) srt6 asc
          subst eks6
          have s06 := s5.trans s6
          obtain ⟨pls, epl⟩ : ∃ l, l = (("" : Str) :: ts.map Prod.fst) := ⟨_, rfl⟩
          rw [← epl] at hpr k
          have lpl : pls.length = ts.length + 1 := by rw [epl, List.length_cons, List.length_map]
          -- the places
          refine ⟨by show 1 ≤ sizeLine; omega, fun pa npa => ?_⟩
          have s7 := same_new (o := .lst [.str ""]) npa
          refine ⟨_, rfl, q, prs t, t.map Prod.fst, rfl, .inl (s7 _ _ (s06 _ _ hq)), prs_keys t, by rw [List.length_map]; omega, fun ks pb perm7 srt7 npb => ?_⟩
          have eks7 : ks = ts.map Prod.fst := sorted_one (perm7.trans pk.symm) srt7 asc
          subst eks7
          have s8 := same_new (o := .lst ((ts.map Prod.fst).map V.str)) npb
          refine ⟨pa, pb, _, _, rfl, rfl, s8 _ _ upd_same, upd_same, by rw [List.length_map, List.length_map]; show 1 + _ ≤ sizeLine; omega, fun pc npc => ⟨pc, rfl, ⟨_, SqL.of upd_same⟩, fun D2 nD2 => ?_⟩⟩
          have s9 := same_new (o := .lst ([V.str ""] ++ (ts.map Prod.fst).map V.str)) npc
          obtain ⟨H9, e9⟩ : ∃ X, X = upd (upd (upd H6 pa (.lst [.str ""])) pb (.lst ((ts.map Prod.fst).map V.str))) pc (.lst ([V.str ""] ++ (ts.map Prod.fst).map V.str)) := ⟨_, rfl⟩
          have s69 : Same H6 H9 := e9 ▸ (s7.trans s8).trans s9
          have hpc : H9 pc = some (.lst (pls.map V.str)) := by rw [e9, upd_same, epl] <;> rfl
          rw [← e9] at nD2 ⊢
          clear e9
          have hpr9 := s69 _ _ hpr
          let neg : Str → Bool := fun a => decide (resid t n (szOf kvs) a < 0)
          refine lc_it walk_list (fun i H' => Same H9 H' ∧ ∃ rs : List Addr, H' D2 = some (.lst (rs.map V.ref)) ∧ Paired (fun (r : Addr) (z : Str) => H' r = some (.tup [.str z])) rs ((pls.take i).filter neg) ∧ ∀ r ∈ rs, H9 r = none) ⟨same_new nD2, [], upd_same, .nil, fun r hr => by cases hr⟩ (fun i H' _ z => SqL.of (z.1 _ _ hpc)) ?_ ?_
          · intro i y Ha Hb hi ⟨q1, rs, hD, pr, fr⟩ ⟨eb, ex⟩
            subst eb
            obtain ⟨a, ha, rfl⟩ := map_of ex
            have ma := List.mem_of_getElem? ha
            have more := filter_more (c := neg) ha
            have lr := pair_lenZ pr
            have lf := List.length_filter_le neg (pls.take i)
            rw [List.length_take] at lf
            refine ⟨rfl, ?_⟩
            refine ⟨_, rfl, _, rfl, pr0, _, rfl, by have z := DGet.k (k := Sum.inr a) (q1 _ _ hpr9); rw [tblI_val ma] at z; exact z, _, _, rfl, rfl, _, rfl, ?_⟩
            refine ite2 (fun yes => ?_) (fun no => ?_)
            · rw [if_pos yes] at more
              refine ⟨_, rfl, by show 1 ≤ sizeLine; omega, fun r nr => ?_⟩
              have tr := same_new (o := .tup [.str a]) nr
              refine ⟨_, tr _ _ hD, by rw [List.length_map]; omega, (q1.trans tr).put nD2, rs ++ [r], by rw [upd_same, List.map_append] <;> rfl, ?_, fun z hz => ?_⟩
              · rw [more]
                refine pair_snocT pr (fun b v e => ?_) ?_
                · rw [upd_ne (ne_of e hD (by intro z; cases z))]
                  exact tr _ _ e
                · rw [upd_ne (ne_of_none hD nr).symm, upd_same]
              · rcases List.mem_append.mp hz with hz | hz
                · exact fr z hz
                · rw [List.mem_singleton.mp hz]
                  exact q1.free nr
            · rw [if_neg no, List.append_nil] at more
              exact ⟨q1, rs, hD, by rw [more]; exact pr, fr⟩
          · intro HA ⟨q1, rs, hD, pr, fr⟩
            rw [List.length_map, List.take_length] at pr
            have lr := pair_lenZ pr
            have lf := List.length_filter_le neg pls
            refine ⟨by show 1 ≤ sizeLine; omega, fun pn npn => ?_⟩
            have sn := same_new (o := .lst [V.non]) npn
            refine ⟨D2, pn, _, _, rfl, rfl, sn _ _ hD, upd_same, by rw [List.length_map]; show _ + 1 ≤ sizeLine; omega, fun pz npz => ?_⟩
            have sz := same_new (o := .lst (rs.map V.ref ++ [V.non])) npz
            have sA9 : Same H9 (upd (upd HA pn (.lst [V.non])) pz (.lst (rs.map V.ref ++ [V.non]))) := q1.trans (sn.trans sz)
            have sAll : Same H (upd (upd HA pn (.lst [V.non])) pz (.lst (rs.map V.ref ++ [V.non]))) := s06.trans (s69.trans sA9)
            have en : neg = fun a => decide (resid ts n (szOf kvs) a < 0) := funext fun a => by show decide (resid t n (szOf kvs) a < 0) = _; rw [resid_perm pm]
            cases hf : pls.find? fun p => decide (resid ts n (szOf kvs) p < 0) with
            | none =>
              have e0 : pls.filter neg = [] := by
                rw [en, List.filter_eq_nil_iff]
                exact List.find?_eq_none.mp hf
              rw [e0] at pr
              cases pr
              rw [hf] at k
              exact ⟨pz, _, 0, .non, rfl, rfl, SqL.of upd_same, rfl, k _ sAll⟩
            | some a =>
              obtain ⟨hp, as, bs, epls, hn⟩ := List.find?_eq_some_iff_append.mp hf
              have e0 : pls.filter neg = a :: bs.filter neg := by
                rw [epls, List.filter_append, List.filter_cons, if_pos (by rw [en]; exact hp), List.filter_eq_nil_iff.mpr (fun x hx c => by
                  have := hn x hx
                  rw [en] at c
                  have c' : decide (resid ts n (szOf kvs) x < 0) = true := c
                  rw [c'] at this
                  cases this), List.nil_append]
              rw [e0] at pr
              cases pr with
              | @cons r _ rs' _ hr pr' =>
                rw [hf] at k
                exact ⟨pz, _, 0, .ref r, rfl, rfl, SqL.of upd_same, by unfold atI ixN; rw [if_pos (Int.le_refl 0), if_pos (by simp <;> omega)] <;> rfl, k r _ sAll (s06.trans s69 |>.free (fr r List.mem_cons_self)) (sz _ _ (sn _ _ hr))⟩
end
end FT


/-! _law_bent of k03: sizes with one change, or another value -/
namespace FT
open PySem L2 TL ClX LiI
/-- d[y] = v: the dict stays one of ints and texts, or becomes one with None -/
def sMPut (P : Program) (w : World) (td ty tv : TE) : TS := fun D σ H => tv σ H fun v H1 => td σ H1 fun x H2 => ty σ H2 fun y H3 => ∃ a H4, x = .ref a ∧ (DPut H3 a y v H4 ∨ ∃ k, y = kN k ∧ NPut P w H3 a k v H4) ∧ D.nx σ H4
theorem ps_mput {X : Cx} {i o value : Expr} {td ty tv : TE} {pos pos' : Pos} (hu : X.A.units + 1 < cLine) (ho : PE X o td) (hi : PE X i ty) (hv : PE X value tv) (hs : swapsWith value (some (.Subscript o i pos')) pos.line X.env = pure false) :
    PS X (.Assign [.Subscript o i pos'] value pos) (sMPut X.prog X.w td ty tv) := by
  refine ⟨fun pins s σ H D I h => ?_⟩
  refine wpAny_Assign_Subscript (thn (hv.run pins s σ H _ I h) fun r s1 ⟨v, H1, I1, rv, q1⟩ => thn (ho.run pins s1 σ H1 _ I1 q1) fun u s2 ⟨x, H2, I2, rx, q2⟩ => thn (hi.run pins s2 σ H2 _ I2 q2) fun iv s3 ⟨y, H3, I3, ry, a, H4, ex, g, q3⟩ => ?_) hs
  subst ex
  obtain rfl : u = Value.ref a := rx
  rcases g with g | ⟨k, rfl, g⟩
  · exact d_setItem hu I3 g ry rv fun s4 I4 => ⟨σ, H4, I4, q3⟩
  · exact d_setN I3 g ry rv fun s4 I4 => ⟨σ, H4, I4, q3⟩
/-! ### what is bent -/
theorem DN_ne {P : Program} {w : World} {b : Addr} {kvs : List (Option Key × V)} (xs : List V) : DN P w b kvs ≠ .lst xs := fun z => by
  unfold DN at z
  cases z
theorem IsDat.keep {K : PySem.W.Frag} {H H' : Hp} {d c : Addr} {v : V} (dr : DrawAt H d c) (dr' : DrawAt H' d c) (k : Keep d c H H') (x : IsDat K H v) : IsDat K H' v := let ⟨T, x⟩ := x; ⟨T, x.keepN dr dr' k.n⟩
theorem ItM.keep {m : Nat} {P : Program} {w : World} {K : PySem.W.Frag} {H H' : Hp} {d c : Addr} {sv : V} {o : Option (List (Key × V))} (dr : DrawAt H d c) (dr' : DrawAt H' d c) (k : Keep d c H H') (h : ItM m P w K H sv o) : ItM m P w K H' sv o := by
  cases o with
  | some kvs =>
    obtain ⟨q, e, hq, dt, r⟩ := h
    obtain ⟨a1, a2⟩ := dr.notD hq (fun xs z => nomatch z)
    exact ⟨q, e, k _ _ a1 a2 hq, fun p hp => (dt p hp).keep dr dr' k, r⟩
  | none =>
    rcases h with ⟨T, x, n⟩ | ⟨b, kvs, e, hb, nd, mn, l, dt⟩
    · exact .inl ⟨T, x.keepN dr dr' k.n, n⟩
    · obtain ⟨a1, a2⟩ := dr.notD hb DN_ne
      exact .inr ⟨b, kvs, e, k _ _ a1 a2 hb, nd, mn, l, fun p hp => (dt p hp).keep dr dr' k⟩
def spBentN (P : Program) (w : World) (K : PySem.W.Frag) : Sp := fun vs H Q _ => ∃ (d c q : Addr) (t : List (Str × Str)) (sv : V) (o : Option (List (Key × V))) (m : Nat), vs = [.ref d, .ref q, sv] ∧ DrawAt H d c ∧ H q = some (.dK (prs t)) ∧ TreeOk t ∧ ItM m P w K H sv o ∧ m < 100 ∧
  ∀ (sv' : V) (o' : Option (List (Key × V))) (H' : Hp), ItM (m + 1) P w K H' sv' o' → sv' ≠ .ref q → DrawAt H' d c → Keep d c H H' → Q sv' H'
abbrev NBn : List Str := ["_law_draw", "_law_above", "_law_item", "_law_way", "_law_name", "_law_found", "_law_each"]
/-- put keeps the keys apart -/
theorem putN_nd {α : Type} [DecidableEq α] : ∀ {kvs : List (α × V)} {k : α} {v : V}, (kvs.map (·.1)).Nodup → ((putK kvs k v).map (·.1)).Nodup ∧ (∀ x ∈ kvs.map (·.1), x ∈ (putK kvs k v).map (·.1)) ∧ k ∈ (putK kvs k v).map (·.1) ∧ ∀ p ∈ putK kvs k v, p.2 = v ∨ p ∈ kvs := by
  intro kvs k v nd
  unfold putK
  by_cases h : (kvs.any fun kv => decide (kv.1 = k)) = true
  · rw [if_pos h]
    have e : (kvs.map fun kv => if kv.1 = k then (kv.1, v) else kv).map (·.1) = kvs.map (·.1) := by
      rw [List.map_map]
      refine List.map_congr_left fun c _ => ?_
      show (if c.1 = k then (c.1, v) else c).1 = c.1
      split <;> rfl
    rw [e]
    refine ⟨nd, fun x hx => hx, ?_, fun p hp => ?_⟩
    · obtain ⟨c, hc, ec⟩ := List.any_eq_true.mp h
      exact List.mem_map.mpr ⟨c, hc, of_decide_eq_true ec⟩
    · obtain ⟨c, hc, ec⟩ := List.mem_map.mp hp
      by_cases z : c.1 = k
      · rw [if_pos z] at ec
        exact .inl (by rw [← ec])
      · rw [if_neg z] at ec
        exact .inr (ec ▸ hc)
  · rw [if_neg h]
    have nk : k ∉ kvs.map (·.1) := fun m => h (let ⟨c, hc, ec⟩ := List.mem_map.mp m; List.any_eq_true.mpr ⟨c, hc, decide_eq_true ec⟩)
    rw [List.map_append]
    refine ⟨?_, fun x hx => List.mem_append_left _ hx, List.mem_append_right _ (List.mem_singleton.mpr rfl), fun p hp => ?_⟩
    · refine List.nodup_append.mpr ⟨nd, (List.nodup_cons.mpr ⟨(fun h => by cases h), List.nodup_nil⟩), fun a ha b hb e => ?_⟩
      have hb : b = k := List.mem_singleton.mp hb
      exact nk (by rw [← hb, ← e]; exact ha)
    · rcases List.mem_append.mp hp with hp | hp
      · exact .inr hp
      · exact .inl (by rw [List.mem_singleton.mp hp])
theorem someP_keys (kvs : List (Key × V)) : (kvs.map someP).map (·.1) = (kvs.map (·.1)).map some := by rw [List.map_map, List.map_map] <;> rfl
/-- pairs with different keys, merged, are the pairs -/
theorem merge_ndN {α : Type} [DecidableEq α] : ∀ (more kvs : List (α × V)), ((kvs ++ more).map (·.1)).Nodup → more.foldl (fun acc kv => putK acc kv.1 kv.2) kvs = kvs ++ more
  | [], kvs, _ => (List.append_nil _).symm
  | p :: more, kvs, nd => by
    have np : p.1 ∉ kvs.map (·.1) := fun m => by
      rw [List.map_append, List.nodup_append] at nd
      exact nd.2.2 _ m _ (List.mem_map.mpr ⟨p, List.mem_cons_self, rfl⟩) rfl
    have e : putK kvs p.1 p.2 = kvs ++ [p] := by
      unfold putK
      rw [if_neg]
      intro h
      obtain ⟨c, hc, ec⟩ := List.any_eq_true.mp h
      exact np (List.mem_map.mpr ⟨c, hc, of_decide_eq_true ec⟩)
    rw [List.foldl_cons, e, merge_ndN more (kvs ++ [p]) (by rw [List.append_assoc]; exact nd), List.append_assoc] <;> rfl
theorem pair_impN {α β : Type} {F G : α → β → Prop} (m : ∀ x y, F x y → G x y) : ∀ {xs : List α} {ys : List β}, Paired F xs ys → Paired G xs ys
  | _, _, .nil => .nil
  | _, _, .cons h t => .cons (m _ _ h) (pair_impN m t)
theorem paired_snocA {α β : Type} {F F' : α → β → Prop} {xs : List α} {ys : List β} {x : α} {y : β} (p : Paired F xs ys) (m : ∀ a b, F a b → F' a b) (h : F' x y) : Paired F' (xs ++ [x]) (ys ++ [y]) := by
  induction p with
  | nil => exact .cons h .nil
  | cons e _ ih => exact .cons (m _ _ e) ih
/-! ### either kind of dict -/
theorem PT.or {X : Cx} {e : Expr} {t1 t2 : TT} (h1 : PT X e t1) (h2 : PT X e t2) : PT X e (fun σ H Q => t1 σ H Q ∨ t2 σ H Q) := ⟨fun pins s σ H Q I h => h.elim (h1.run pins s σ H Q I) (h2.run pins s σ H Q I)⟩
theorem CallR.or {X : Cx} {f : Value} {r1 r2 : List V → Hp → VK → Prop} (h1 : CallR X f r1) (h2 : CallR X f r2) : CallR X f (fun xs H Q => r1 xs H Q ∨ r2 xs H Q) := fun pins s σ H xs us Q I r h => h.elim (h1 pins s σ H xs us Q I r) (h2 pins s σ H xs us Q I r)
def tGetD (P : Program) (w : World) (td ty : TE) : TE := fun σ H Q => tDGet td ty σ H Q ∨ tGetN P w td ty σ H Q
def tInD (P : Program) (w : World) (ty td : TE) : TE := fun σ H Q => tDIn ty td σ H Q ∨ tInK P w ty td σ H Q
theorem pe_dgetD {X : Cx} {o i : Expr} {td ty : TE} {pos : Pos} (hu : X.A.units + 1 < cLine) (ho : PE X o td) (hi : PE X i ty) (hs : NoSl i) : PE X (.Subscript o i pos) (tGetD X.prog X.w td ty) := PE.or (pe_dget hu ho hi hs) (pe_dgetN ho hi hs)
/-- a dict of ints and texts, or one with None: what is read of it -/
def FR (P : Program) (w : World) (H : Hp) (p : Addr) (R : List (Option Key × V)) : Prop := Rd H p (DN P w p R) ∨ ∃ ks, Rd H p (.dK ks) ∧ R = ks.map someP
/-- .. what stands there -/
def FD (P : Program) (w : World) (H : Hp) (p : Addr) (R : List (Option Key × V)) : Prop := (H p = some (DN P w p R) ∧ none ∈ R.map (·.1)) ∨ ∃ ks, H p = some (.dK ks) ∧ R = ks.map someP
theorem FD.fr {P : Program} {w : World} {H : Hp} {p : Addr} {R : List (Option Key × V)} (h : FD P w H p R) : FR P w H p R := h.elim (fun h => .inl (.inl h.1)) (fun ⟨ks, h, e⟩ => .inr ⟨ks, .inl h, e⟩)
theorem FD.of {P : Program} {w : World} {H H' : Hp} {p : Addr} {R : List (Option Key × V)} (h : FD P w H p R) (k : ∀ u, H p = some u → H' p = some u) : FD P w H' p R := h.elim (fun h => .inl ⟨k _ h.1, h.2⟩) (fun ⟨ks, h, e⟩ => .inr ⟨ks, k _ h, e⟩)
theorem valV_someP (ks : List (Key × V)) (k : Key) : valV (ks.map someP) (some k) = valV ks k := by
  induction ks with
  | nil => rfl
  | cons p r ih =>
    rw [List.map_cons]
    by_cases e : p.1 = k
    · rw [valV_pos (p := someP p) (congrArg some e), valV_pos e]
    · rw [valV_neg (p := someP p) (fun z => e (Option.some.inj z)), valV_neg e, ih]
theorem fr_get {P : Program} {w : World} {H : Hp} {p : Addr} {R : List (Option Key × V)} {i j : Nat} {σ : St} {k : Option Key} {v : V} {Q : VK} (h : FR P w H p R) (hi : σ[i]? = some (some (.ref p))) (hj : σ[j]? = some (some (kN k))) (hv : valV R k = some v) (q : Q v H) : tGetD P w (tVar i) (tVar j) σ H Q := by
  rcases h with h | ⟨ks, h, rfl⟩
  · exact .inr ⟨_, hi, _, hj, p, R, k, v, rfl, rfl, h, hv, q⟩
  · cases k with
    | none =>
      exfalso
      have : none ∈ (ks.map someP).map (·.1) := by
        have e := valV_any (none : Option Key) (ks.map someP)
        rw [hv] at e
        obtain ⟨c, hc, ec⟩ := List.any_eq_true.mp e
        exact List.mem_map.mpr ⟨c, hc, of_decide_eq_true ec⟩
      rw [someP_keys] at this
      obtain ⟨_, _, z⟩ := List.mem_map.mp this
      cases z
    | some k =>
      rw [valV_someP] at hv
      exact .inl ⟨_, hi, _, hj, p, v, rfl, .inl ⟨ks, k, h, rfl, hv.symm⟩, q⟩
theorem fr_in {P : Program} {w : World} {H : Hp} {p : Addr} {R : List (Option Key × V)} {i j : Nat} {σ : St} {k : Key} {Q : VK} (h : FR P w H p R) (hi : σ[i]? = some (some (.ref p))) (hj : σ[j]? = some (some (kV k))) (q : Q (.bl (valV R (some k)).isSome) H) : tInD P w (tVar j) (tVar i) σ H Q := by
  rcases h with h | ⟨ks, h, rfl⟩
  · exact .inr ⟨_, hj, _, hi, p, R, some k, rfl, rfl, h, q⟩
  · rw [valV_someP] at q
    exact .inl ⟨_, hj, _, hi, p, _, rfl, .inl ⟨ks, k, h, rfl, rfl⟩, q⟩
theorem fr_inT {P : Program} {w : World} {H : Hp} {p : Addr} {R : List (Option Key × V)} {i j : Nat} {σ : St} {k : Key} {Q : Bool → Hp → Prop} (h : FR P w H p R) (hi : σ[i]? = some (some (.ref p))) (hj : σ[j]? = some (some (kV k))) (q : Q (valV R (some k)).isSome H) : tB (tDIn (tVar j) (tVar i)) σ H Q ∨ tB (tInK P w (tVar j) (tVar i)) σ H Q :=
  (fr_in h hi hj (Q := fun x H1 => ∃ c, x = .bl c ∧ Q c H1) ⟨_, rfl, q⟩).imp id id
theorem FD.it {P : Program} {w : World} {K : PySem.W.Frag} {H : Hp} {p : Addr} {R : List (Option Key × V)} {m : Nat} (h : FD P w H p R) (nd : (R.map (·.1)).Nodup) (l : R.length ≤ m) (dt : ∀ r ∈ R, IsDat K H r.2) : ∃ o, ItM m P w K H (.ref p) o := by
  rcases h with ⟨h, mn⟩ | ⟨ks, h, rfl⟩
  · exact ⟨none, .inr ⟨p, R, rfl, h, nd, mn, l, dt⟩⟩
  · refine ⟨some ks, p, rfl, h, fun r hr => dt (someP r) (List.mem_map.mpr ⟨r, hr, rfl⟩), ?_, by rw [List.length_map] at l; exact l⟩
    rw [someP_keys, List.nodup_iff_pairwise_ne, List.pairwise_map] at nd
    rw [List.nodup_iff_pairwise_ne]
    exact nd.imp fun h e => h (congrArg some e)
theorem putK_someP (ks : List (Key × V)) (k : Key) (v : V) : (putK ks k v).map someP = putK (ks.map someP) (some k) v := by
  have e : ((ks.map someP).any fun kv => decide (kv.1 = some k)) = ks.any fun kv => decide (kv.1 = k) := by
    rw [List.any_map]
    congr 1
    funext kv
    show decide (some kv.1 = some k) = decide (kv.1 = k)
    rw [Bool.eq_iff_iff, decide_eq_true_eq, decide_eq_true_eq]
    exact ⟨Option.some.inj, congrArg some⟩
  unfold putK
  rw [e]
  split
  · rw [List.map_map, List.map_map]
    refine List.map_congr_left fun c _ => ?_
    show someP (if c.1 = k then (c.1, v) else c) = if some c.1 = some k then (some c.1, v) else someP c
    by_cases z : c.1 = k
    · rw [if_pos z, if_pos (congrArg some z)]
    · rw [if_neg z, if_neg fun y => z (Option.some.inj y)]
  · rw [List.map_append] <;> rfl
/-- a value is written -/
theorem FD.put {P : Program} {w : World} {H : Hp} {p : Addr} {R : List (Option Key × V)} {k : Option Key} {v : V} (h : FD P w H p R) (nd : (R.map (·.1)).Nodup) (l : R.length < sizeLine) :
    ∃ u, (DPut H p (kN k) v (upd H p u) ∨ ∃ k', kN k = kN k' ∧ NPut P w H p k' v (upd H p u)) ∧ FD P w (upd H p u) p (putK R k v) ∧ ∀ xs, u ≠ .lst xs := by
  rcases h with ⟨h, mn⟩ | ⟨ks, h, rfl⟩
  · exact ⟨_, .inr ⟨k, rfl, R, .inl h, l, rfl⟩, .inl ⟨upd_same, (putN_nd nd).2.1 _ mn⟩, DN_ne⟩
  · rw [List.length_map] at l
    cases k with
    | none => exact ⟨_, .inr ⟨none, rfl, ks.map someP, .inr ⟨ks, h, rfl⟩, by rw [List.length_map]; exact l, rfl⟩, .inl ⟨upd_same, (putN_nd nd).2.2.1⟩, DN_ne⟩
    | some k => exact ⟨_, .inl (DPut.k (k := k) h l), .inr ⟨_, upd_same, (putK_someP ks k v).symm⟩, fun xs z => nomatch z⟩
def iKeysD (P : Program) (w : World) (td : TE) : TI := fun σ H R => td σ H fun x H1 => ∃ (d : Addr) (o : Obj) (u : HO) (rows : List (Option Key × V)), x = .ref d ∧ H1 d = some (.frz o u) ∧ ((∃ ks, u = .dK ks ∧ rows = ks.map someP) ∨ u = DN P w d rows) ∧
  ∀ J, Walk J rows.length (fun H => H d = some (.frz o u)) (fun i H x H' => H' = H ∧ ∃ k v, rows[i]? = some (k, v) ∧ x = kN k) → R J H1
theorem walk_keysS {d : Addr} {o : Obj} {kvs : List (Key × V)} : Walk (Itk d o kvs) (kvs.map someP).length (fun H => H d = some (.frz o (.dK kvs))) (fun i H x H' => H' = H ∧ ∃ k v, (kvs.map someP)[i]? = some (k, v) ∧ x = kN k) := by
  rw [List.length_map]
  refine walk_keys.mono (fun _ h => h) fun i H x H' hi h y => ?_
  obtain ⟨rfl, k, v, hk, rfl⟩ := y
  exact ⟨rfl, some k, v, by rw [List.getElem?_map, hk] <;> rfl, rfl⟩
theorem pi_keysD {X : Cx} {tg e : Expr} {td : TE} (he : PE X e td) : PI X tg e (iKeysD X.prog X.w td) := by
  refine ⟨fun pins s σ H R I h => ?_⟩
  refine thn (he.run pins s σ H _ I h) fun u s1 ⟨x, H1, I1, rx, d, o, ob, rows, ex, hd, ro, q⟩ => ?_
  subst ex
  obtain rfl : u = Value.ref d := rx
  rcases ro with ⟨kvs, rfl, rfl⟩ | rfl
  · obtain ⟨hs, hgd, hx, es, ep, vs, hdt, hsz, kv, hm⟩ := I1.frzK hd
    refine iter_keys hs hgd hx hdt (pi_one (tk := s1.toks) I1 _ (turn_keys _ hdt) ⟨_, Heap.get?_push_size _ rfl, rfl, ?_⟩ (q _ walk_keysS))
    rw [hsz] <;> rfl
  · obtain ⟨hs, hgd, hx, es, ep, hdt, hsz, ent⟩ := I1.frzN hd
    refine iter_keys hs hgd hx hdt (pi_one (tk := s1.toks) I1 _ (turn_keysN _ hdt) ⟨_, Heap.get?_push_size _ rfl, rfl, ?_⟩ (q _ walk_keysN))
    rw [hsz] <;> rfl
/-- dict(pairs), of either kind -/
theorem call_dictPD {X : Cx} (hcalm : X.calm = true) : CallR X (.type "dict") (fun xs H Q => ∃ (a : Addr) (ps : List Addr) (R : List (Option Key × V)), xs = [.ref a] ∧ SqL X.K H a (ps.map V.ref) ∧ Paired (fun p kv => SqT X.K H p [kN kv.1, kv.2]) ps R ∧ (R.map (·.1)).Nodup ∧
    ((∃ ks : List (Key × V), R = ks.map someP) ∨ none ∈ R.map (·.1)) ∧ ∀ p u, H p = none → FD X.prog X.w (upd H p u) p R → Q (.ref p) (upd H p u)) := by
  intro pins s σ H xs us Q I r ⟨a, ps, R, e, hq, pr, nd, al, q⟩
  rcases al with ⟨ks, rfl⟩ | mn
  · refine call_dictP hcalm pins s σ H xs us Q I r ⟨a, ps, ks, e, hq, ?_, fun p np => q p _ np (.inr ⟨_, upd_same, ?_⟩)⟩
    · clear q nd hq
      induction ks generalizing ps with
      | nil => cases pr; exact .nil
      | cons k ks ih => cases pr with
        | cons h t => exact .cons h (ih _ t)
    · have nd' : (ks.map (·.1)).Nodup := by
        rw [someP_keys, List.nodup_iff_pairwise_ne, List.pairwise_map] at nd
        rw [List.nodup_iff_pairwise_ne]
        exact nd.imp fun h e => h (congrArg some e)
      have := merge_ndN ks [] (by rw [List.nil_append]; exact nd')
      unfold mergeK
      rw [this, List.nil_append]
  · refine call_dictPN hcalm pins s σ H xs us Q I r ⟨a, ps, R, e, hq, pr, fun p np => q p _ np (.inl ⟨?_, mn⟩)⟩
    have := merge_ndN R [] (by rw [List.nil_append]; exact nd)
    rw [upd_same]
    unfold mergeN
    rw [this, List.nil_append]
/-- isinstance(x, dict), x of any kind -/
theorem call_isiD {X : Cx} : CallR X (.builtin "isinstance") (fun xs H Q => rIsi X.K xs H Q ∨ ∃ (a : Addr) (R : List (Option Key × V)), xs = [.ref a, .ty "dict"] ∧ FD X.prog X.w H a R ∧ Q (.bl true) H) := by
  intro pins s σ H xs us Q I r h
  rcases h with h | ⟨a, R, rfl, fd, q⟩
  · exact call_isi pins s σ H xs us Q I r h
  · rcases fd with ⟨ha, _⟩ | ⟨ks, ha, _⟩
    · exact call_isiN pins s σ H _ us Q I r ⟨a, R, rfl, .inl ha, q⟩
    · exact call_isi pins s σ H _ us Q I r ⟨.ref a, _, _, _, _, rfl, .ty _, (Dat.dct (K := X.K) ha).ty, (Dat.dct (K := X.K) ha).dict_, q⟩
/-- dict(d), d of either kind -/
theorem call_dictDD {X : Cx} : CallR X (.type "dict") (fun xs H Q => ∃ (a : Addr) (R : List (Option Key × V)), xs = [.ref a] ∧ FD X.prog X.w H a R ∧ ∀ p u, H p = none → FD X.prog X.w (upd H p u) p R → (∀ xs, u ≠ .lst xs) → Q (.ref p) (upd H p u)) := by
  intro pins s σ H xs us Q I r ⟨a, R, e, fd, q⟩
  rcases fd with ⟨ha, mn⟩ | ⟨ks, ha, rfl⟩
  · exact call_dictN pins s σ H xs us Q I r ⟨a, R, e, .inl ha, fun p np => q p _ np (.inl ⟨upd_same, mn⟩) DN_ne⟩
  · exact call_dictD pins s σ H xs us Q I r ⟨a, ks, e, .inl ha, fun p np => q p _ np (.inr ⟨ks, upd_same, rfl⟩) (fun xs z => nomatch z)⟩
theorem dat_ne {K : PySem.W.Frag} {H : Hp} {v : V} {p : Addr} (h : IsDat K H v) (n : H p = none) : v ≠ .ref p := fun e => by
  subst e
  obtain ⟨T, h⟩ := h
  cases h with
  | lst h => rw [n] at h; cases h
  | tup h => rw [n] at h; cases h
  | dct h => rw [n] at h; cases h
theorem dat_put {K : PySem.W.Frag} {H : Hp} {v : V} {p : Addr} {u : HO} (h : IsDat K H v) (n : v ≠ .ref p) : IsDat K (upd H p u) v := by
  obtain ⟨T, h⟩ := h
  have nep : ∀ {y : Addr}, V.ref y ≠ .ref p → y ≠ p := fun h e => h (by rw [e])
  cases h with
  | non => exact ⟨_, .non⟩
  | bl b => exact ⟨_, .bl b⟩
  | int i => exact ⟨_, .int i⟩
  | str z => exact ⟨_, .str z⟩
  | lst h => exact ⟨_, .lst (by rw [upd_ne (nep n)]; exact h)⟩
  | tup h => exact ⟨_, .tup (by rw [upd_ne (nep n)]; exact h)⟩
  | dct h => exact ⟨_, .dct (by rw [upd_ne (nep n)]; exact h)⟩
theorem ItM.fd {m : Nat} {P : Program} {w : World} {K : PySem.W.Frag} {H : Hp} {sv : V} {o : Option (List (Key × V))} (h : ItM m P w K H sv o) : (∃ T, Dat K H sv T ∧ T ≠ "dict") ∨ ∃ b R, sv = .ref b ∧ FD P w H b R ∧ (R.map (·.1)).Nodup ∧ R.length ≤ m ∧ ∀ r ∈ R, IsDat K H r.2 := by
  cases o with
  | none =>
    rcases h with h | ⟨b, kvs, e, hb, nd, mn, l, dt⟩
    · exact .inl h
    · exact .inr ⟨b, kvs, e, .inl ⟨hb, mn⟩, nd, l, dt⟩
  | some ks =>
    obtain ⟨q, e, hq, dt, nd, l⟩ := h
    refine .inr ⟨q, ks.map someP, e, .inr ⟨ks, hq, rfl⟩, ?_, by rw [List.length_map]; exact l, fun r hr => ?_⟩
    · rw [someP_keys, List.nodup_iff_pairwise_ne, List.pairwise_map]
      exact (List.nodup_iff_pairwise_ne.mp nd).imp fun h e => h (Option.some.inj e)
    · obtain ⟨x, hx, rfl⟩ := List.mem_map.mp hr
      exact dt x hx
theorem valV_nd {α : Type} [DecidableEq α] : ∀ {l : List (α × V)} {i : Nat} {k : α} {v : V}, (l.map (·.1)).Nodup → l[i]? = some (k, v) → valV l k = some v
  | [], i, k, v, _, h => by cases h
  | z :: l, 0, k, v, nd, h => by
    have e : z = (k, v) := Option.some.inj h
    rw [e, valV_pos rfl]
  | z :: l, i + 1, k, v, nd, h => by
    have hz : l[i]? = some (k, v) := h
    rw [List.map_cons, List.nodup_cons] at nd
    rw [valV_neg fun e => nd.1 (by rw [e]; exact List.mem_map.mpr ⟨(k, v), List.mem_of_getElem? hz, rfl⟩)]
    exact valV_nd nd.2 hz
theorem valV_memN {α : Type} [DecidableEq α] {l : List (α × V)} {k : α} {v : V} (h : valV l k = some v) : (k, v) ∈ l := by
  unfold valV at h
  obtain ⟨p, hp, rfl⟩ := Option.map_eq_some_iff.mp h
  have e : p.1 = k := of_decide_eq_true (List.find?_some (p := fun kv : α × V => decide (kv.1 = k)) hp)
  have m := List.mem_of_find?_eq_some hp
  rw [← e]
  exact m
def teBn (P : Program) (w : World) : TE := tTup (tCons (tVar 6) (tCons (tGetD P w (tVar 5) (tVar 6)) tNil))
section
variable {P : Program} {w : World} {K : PySem.W.Frag} {mg : Str → Option Value} {base : Heap}
theorem scBn : FnScope NBn ["_law_draw", "_law_above", "_law_item"] (defScope s__law_bent) := ⟨rfl, rfl, rfl, by decide +kernel, rfl, by decide +kernel, by decide +kernel⟩
/-- another value -/
theorem bent_odd {d c q : Addr} {v' : HO} {H : Hp} {D : Ends} {σ : St} {m : Nat} (h0 : σ[0]? = some (some (.ref d))) (dr : DrawAt H d c) (hq : H q = some v')
    (k : ∀ (sv' : V) (o' : Option (List (Key × V))) (H' : Hp), ItM m P w K H' sv' o' → sv' ≠ .ref q → DrawAt H' d c → Keep d c H H' → D.rt sv' H') :
    tRet (tCall (spPick K) [] E0 (tCons (tVar 0) (tCons (tLst (tCons (tC .non) (tCons (tLst tNil) (tCons (tC (.int 5)) (tCons (tC (.str "sizes")) (tCons (tTup (tCons (tTup (tCons (tC (.str "a")) (tCons (tC (.int 1)) tNil))) tNil)) (tCons tDNewK (tCons (tLst (tCons (tTup (tCons (tC (.str "a")) (tCons (tC (.int 1)) tNil))) tNil)) tNil)))))))) tNil))) D σ H := by
  have big : 1000 ≤ sizeLine := by decide
  refine ⟨_, h0, by show 0 ≤ sizeLine; omega, fun p1 n1 => ⟨by show 2 ≤ sizeLine; omega, fun t1 m1 => ⟨by show 1 ≤ sizeLine; omega, fun t2 m2 d1 n2 => ⟨by show 2 ≤ sizeLine; omega, fun t3 m3 => ⟨by show 1 ≤ sizeLine; omega, fun p2 n3 => ⟨by show 7 ≤ sizeLine; omega, fun pl npl => ?_⟩⟩⟩⟩⟩⟩
  have s1 := same_new (o := .lst []) n1
  have s2 := same_new (o := .tup [.str "a", .int 1]) m1
  have s3 := same_new (o := .tup [.ref t1]) m2
  have s4 := same_new (o := .dK []) n2
  have s5 := same_new (o := .tup [.str "a", .int 1]) m3
  have s6 := same_new (o := .lst [.ref t3]) n3
  have s7 := same_new (o := .lst [.non, .ref p1, .int 5, .str "sizes", .ref t2, .ref d1, .ref p2]) npl
  have s06 := ((((s1.trans s2).trans s3).trans s4).trans s5).trans s6
  have s07 := s06.trans s7
  have a1 := s7 _ _ (s6 _ _ (s5 _ _ (s4 _ _ (s3 _ _ (s2 _ _ (upd_same (H := H) (a := p1) (o := .lst [])))))))
  have a2 := s7 _ _ (s6 _ _ (s5 _ _ (s4 _ _ (upd_same (H := upd (upd H p1 (.lst [])) t1 (.tup [.str "a", .int 1])) (a := t2) (o := .tup [.ref t1])))))
  have a3 := s7 _ _ (s6 _ _ (s5 _ _ (upd_same (H := upd (upd (upd H p1 (.lst [])) t1 (.tup [.str "a", .int 1])) t2 (.tup [.ref t1])) (a := d1) (o := .dK []))))
  have a4 := s7 _ _ (upd_same (H := upd (upd (upd (upd (upd H p1 (.lst [])) t1 (.tup [.str "a", .int 1])) t2 (.tup [.ref t1])) d1 (.dK [])) t3 (.tup [.str "a", .int 1])) (a := p2) (o := .lst [.ref t3]))
  obtain ⟨H7, e7⟩ : ∃ X, X = upd (upd (upd (upd (upd (upd (upd H p1 (.lst [])) t1 (.tup [.str "a", .int 1])) t2 (.tup [.ref t1])) d1 (.dK [])) t3 (.tup [.str "a", .int 1])) p2 (.lst [.ref t3])) pl (.lst [.non, .ref p1, .int 5, .str "sizes", .ref t2, .ref d1, .ref p2]) := ⟨_, rfl⟩
  have a7 : H7 pl = some (.lst [.non, .ref p1, .int 5, .str "sizes", .ref t2, .ref d1, .ref p2]) := by rw [e7]; exact upd_same
  rw [← e7] at s07 a1 a2 a3 a4 ⊢
  have dr7 := dr.mono s07
  have pld := (dr.mono s06).apart npl
  have z1 := dr.apart n1
  have z4 := (dr.mono ((((s1.trans s2).trans s3).trans s4).trans s5)).apart n3
  refine ⟨d, c, .ref pl, 7, fun _ u => u ∈ [V.non, .ref p1, .int 5, .str "sizes", .ref t2, .ref d1, .ref p2], rfl, dr7, .inl ⟨pl, _, rfl, pld.1, pld.2, a7, rfl, fun i u hu => List.mem_of_getElem? hu⟩, by decide, by decide, fun i x H8 xm dr8 kp8 => ?_⟩
  have kf : Keep d c H H8 := (Keep.of_same s07).trans kp8
  have neq : ∀ p, H p = none → V.ref p ≠ .ref q := fun p n z => by
    cases z
    rw [hq] at n
    cases n
  have f12 := s1.free m1
  have f2 := (s1.trans s2).free m2
  have f3 := ((s1.trans s2).trans s3).free n2
  have f4 := ((((s1.trans s2).trans s3).trans s4).trans s5).free n3
  have oth : ∀ (T : String), Dat K H8 x T → T ≠ "dict" → x ≠ .ref q → D.rt x H8 := fun T dd n nq => k x none H8 (.inl ⟨T, dd, n⟩) nq dr8 kf
  simp only [List.mem_cons, List.not_mem_nil, or_false] at xm
  rcases xm with rfl | rfl | rfl | rfl | rfl | rfl | rfl
  · exact oth _ .non (by decide) (fun z => nomatch z)
  · exact oth _ (.lst (kp8 _ _ z1.1 z1.2 a1)) (by decide) (neq _ n1)
  · exact oth _ (.int _) (by decide) (fun z => nomatch z)
  · exact oth _ (.str _) (by decide) (fun z => nomatch z)
  · obtain ⟨b1, b2⟩ := dr7.notD a2 (fun xs z => nomatch z)
    exact oth _ (.tup (kp8 _ _ b1 b2 a2)) (by decide) (neq _ f2)
  · obtain ⟨b1, b2⟩ := dr7.notD a3 (fun xs z => nomatch z)
    exact k (.ref d1) (some []) H8 ⟨d1, rfl, kp8 _ _ b1 b2 a3, (fun p hp => by cases hp), List.nodup_nil, Nat.zero_le _⟩ (neq _ f3) dr8 kf
  · exact oth _ (.lst (kp8 _ _ z4.1 z4.2 a4)) (by decide) (neq _ f4)
theorem ok_bentN {f fT fP fN : Addr} {fd fdT fdP fdN : FuncData} (F : Fun K "_law_bent" "_law_bent" s__law_bent f fd) (T : Nm mg) (DT : Dn P w K mg base CX0 1 "_law_take" ["_law_draw", "_law_size"] spDraw fT fdT) (DP : Dn P w K mg base CX0 2 "_law_pick" ["_law_draw", "_law_some"] (spPick K) fP fdP) (DN' : Dn P w K mg base CX0 1 "_law_is_number" ["_law_item"] (spIsNum K) fN fdN) :
    FnOk P w K mg base CX0 3 f fd ["_law_draw", "_law_above", "_law_item"] (spBentN P w K) := by
  refine F.ok scBn (fun vs H Q E h => ?_) (fun cdv A outer s H vs Q E hr h => ?_)
  · obtain ⟨d, c, q, t, sv, o, m, rfl, _⟩ := h
    rfl
  · obtain ⟨d, c, q, t, sv, o, m, rfl, hD, hq, ot, iv, lm, k⟩ := h
    have hu := hu_of hr
    have hr1 : Room 1 _ := hr.mono (by decide)
    have nd := scBn.nd
    have big : 1000 ≤ sizeLine := by decide
    have few := ot.few
    have one := ot.one
    refine ⟨_, pss_cons (ps_asg (pe_tup (pa_cons (pe_call DT.ok hr1 rfl DT.mgn DT.kp DT.bn .nil pass0 (pa_cons (pv 0) (pa_cons pe_int pa_nil))) (pa_cons (pe_call DP.ok hr rfl DP.mgn DP.kp DP.bn .nil pass0 (pa_cons (pv 0) (pa_cons (pe_callB (call_sortedD rfl) (by rfl) T.srt (by decide +kernel) (pa_cons (pv 1) pa_nil)) pa_nil))) pa_nil)))
        (pg_tup rfl (pgs_cons (pg_name (i := 3) nd rfl (.inl rfl)) (pgs_cons (pg_name (i := 4) nd rfl (.inr rfl)) pgs_nil))))
      (pss_cons (ps_if (PW.pt (pw_or (pt_not (pt_val (pe_callB call_isiD (by rfl) T.isi (by decide +kernel) (pa_cons (pv 2) (pa_cons (pe_bltn (v := .ty "dict") (u := .type "dict") (by rfl) T.dct (by decide +kernel) rfl) pa_nil))))) (pw_or1 (pt_cmpR op_eq (pv 3) pe_int (nomark _)))))
        (pss_one (ps_ret (pe_call DP.ok hr rfl DP.mgn DP.kp DP.bn .nil pass0 (pa_cons (pv 0) (pa_cons (pe_lst (pa_cons pe_non (pa_cons (pe_lst pa_nil) (pa_cons pe_int (pa_cons pe_str (pa_cons (pe_tup (pa_cons (pe_tup (pa_cons pe_str (pa_cons pe_int pa_nil))) pa_nil)) (pa_cons pe_dnewK (pa_cons (pe_lst (pa_cons (pe_tup (pa_cons pe_str (pa_cons pe_int pa_nil))) pa_nil)) pa_nil)))))))) pa_nil))))) pss_nil)
      (pss_cons (ps_set (i := 5) nd rfl (.inr rfl) (pe_callTy call_dictDD (by rfl) T.dct (by decide +kernel) (pa_cons (pv 2) pa_nil)))
      (pss_cons (ps_if (PW.pt (pw_and (pt_cmpR op_eq (pv 3) pe_int (nomark _)) (pw_and1 (PT.or (pt_cmp (pc_din hu (pv 4) (pv 5)) rfl) (pt_cmp (pc_dinK (pv 4) (pv 5)) rfl)))))
        (pss_one (ps_ret (pe_callTy (call_dictPD rfl) (by rfl) T.dct (by decide +kernel) (pa_cons (pe_lock (pe_lc (own := [("_law_each", 6)]) (g := gName 6) (tt := tTest (tOp rNe (tVar 6) (tVar 4))) (te := teBn P w) rfl nd (pi_keysD (pv 5)) (blkOk_by (N := NBn) (sc := defScope s__law_bent) (by decide +kernel))
          (fun _ _ _ _ _ => pg_name (i := 6) nd rfl (Or.inl rfl)) (fun _ _ _ _ _ => pts_one (pt_cmpR op_ne (pv 6) (pv 4) (nomark _))) (fun _ _ _ _ _ => pe_tup (pa_cons (pv 6) (pa_cons (pe_dgetD hu (pv 5) (pv 6) (fun _ _ => rfl)) pa_nil))))) pa_nil)))) pss_nil)
      (pss_cons (ps_if (pt_cmpR op_eq (pv 3) pe_int (nomark _))
        (pss_one (ps_mput hu (pv 5) (pe_call DP.ok hr rfl DP.mgn DP.kp DP.bn .nil pass0 (pa_cons (pv 0) (pa_cons (pe_lst (pa_cons pe_str (pa_cons pe_str (pa_cons pe_int (pa_cons pe_non pa_nil))))) pa_nil))) pe_int rfl))
        (pss_one (ps_if (pt_cmpR op_eq (pv 3) pe_int (nomark _))
          (pss_one (ps_mput hu (pv 5) (pv 4) (pe_call DP.ok hr rfl DP.mgn DP.kp DP.bn .nil pass0 (pa_cons (pv 0) (pa_cons (pe_lst (pa_cons (pe_un un_neg pe_int) (pa_cons pe_bl (pa_cons pe_non (pa_cons pe_str (pa_cons (pe_tup (pa_cons pe_int pa_nil)) (pa_cons (pe_lst (pa_cons pe_int pa_nil)) (pa_cons pe_dnewK (pa_cons (pe_op op_pow pe_int pe_int) pa_nil))))))))) pa_nil))) rfl))
          (pss_one (ps_if (PW.pt (pw_and (PT.or (pt_cmp (pc_din hu (pv 4) (pv 5)) rfl) (pt_cmp (pc_dinK (pv 4) (pv 5)) rfl)) (pw_and1 (pt_val (pe_call DN'.ok hr1 rfl DN'.mgn DN'.kp DN'.bn .nil pass0 (pa_cons (pe_dgetD hu (pv 5) (pv 4) (fun _ _ => rfl)) pa_nil))))))
            (pss_one (ps_mput hu (pv 5) (pv 4) (pe_op op_add (pe_dgetD hu (pv 5) (pv 4) (fun _ _ => rfl)) (pe_call DP.ok hr rfl DP.mgn DP.kp DP.bn .nil pass0 (pa_cons (pv 0) (pa_cons (pe_lst (pa_cons pe_int (pa_cons (pe_un un_neg pe_int) (pa_cons pe_int pa_nil)))) pa_nil)))) rfl)) pss_nil)))))
      (pss_one (ps_ret (pv 5))))))), ?_⟩
    obtain ⟨qd, qc⟩ := hD.notD hq (fun xs z => nomatch z)
    refine ⟨_, rfl, d, c, 8, rfl, hD, by decide, by decide, fun wy H1 w0 w8 dr1 kp1 => ?_⟩
    have hq1 := kp1 _ _ qd qc hq
    refine ⟨_, rfl, _, rfl, q, prs t, t.map Prod.fst, rfl, .inl hq1, prs_keys t, by rw [List.length_map]; omega, fun ks pn pks srt npn => ?_⟩
    have s2 := same_new (o := .lst (ks.map V.str)) npn
    have pnd := dr1.apart npn
    have lks := pks.length_eq
    rw [List.length_map] at lks
    refine ⟨d, c, .ref pn, ks.length, fun _ u => u ∈ ks.map V.str, rfl, dr1.mono s2, .inl ⟨pn, ks.map V.str, rfl, pnd.1, pnd.2, upd_same, List.length_map _, fun i u hu => List.mem_of_getElem? hu⟩, by omega, by omega, fun i0 u H2 um dr2 kp2 => ?_⟩
    obtain ⟨a, ma, rfl⟩ := List.mem_map.mp um
    refine ⟨by show 2 ≤ sizeLine; omega, fun tp ntp => ⟨tp, _, rfl, .inl (.inl upd_same), rfl, _, _, rfl, _, _, rfl, rfl, ?_⟩⟩
    obtain ⟨H3, e3⟩ : ∃ X, X = upd H2 tp (.tup [.int wy, .str a]) := ⟨_, rfl⟩
    have s3 : Same H2 H3 := e3 ▸ same_new ntp
    rw [← e3]
    have dr3 := dr2.mono s3
    have kp03 : Keep d c H H3 := ((kp1.trans (Keep.of_same s2)).trans kp2).trans (Keep.of_same s3)
    have iv3 := iv.keep hD dr3 kp03
    have hq3 := kp03 _ _ qd qc hq
    clear e3 s3
    rcases iv3.fd with ⟨TT, dd, ne⟩ | ⟨b, R, rfl, fd, ndR, lR, dtR⟩
    · -- no dict
      refine ⟨_, rfl, .inl ⟨_, _, _, _, _, rfl, .ty _, dd.ty, dd.dict_, _, rfl, ?_⟩⟩
      rw [decide_eq_false ne]
      exact iteT (bent_odd rfl dr3 hq3 fun sv' o' H' it nq dr' kp => k sv' o' H' it nq dr' (kp03.trans kp))
    refine ⟨_, rfl, .inr ⟨b, R, rfl, fd, _, rfl, iteF ?_⟩⟩
    refine ⟨_, rfl, rfl, _, rfl, ?_⟩
    by_cases c0 : wy = 0
    · subst c0
      rw [decide_eq_true rfl]
      exact iteT (bent_odd rfl dr3 hq3 fun sv' o' H' it nq dr' kp => k sv' o' H' it nq dr' (kp03.trans kp))
    rw [decide_eq_false (show ¬ V.int wy = V.int 0 from fun z => c0 (V.int.inj z))]
    refine iteF ?_
    -- a copy
    refine ⟨_, rfl, b, R, rfl, fd, fun p u np fdp nul => ?_⟩
    have s4 := same_new (o := u) np
    obtain ⟨H4, e4⟩ : ∃ X, X = upd H3 p u := ⟨_, rfl⟩
    have pd := dr3.apart np
    have hp4 : H4 p = some u := by rw [e4]; exact upd_same
    rw [← e4] at s4 fdp ⊢
    have dr4 := dr3.mono s4
    have kp04 := kp03.trans (Keep.of_same s4)
    have dt4 : ∀ r ∈ R, IsDat K H4 r.2 := fun r hr => (dtR r hr).mono s4
    have pq : V.ref p ≠ .ref q := fun z => by
      cases z
      rw [hq3] at np
      cases np
    clear e4
    have fin : ∀ (R' : List (Option Key × V)) (H' : Hp), FD P w H' p R' → (R'.map (·.1)).Nodup → R'.length ≤ m + 1 → (∀ r ∈ R', IsDat K H' r.2) → DrawAt H' d c → Keep d c H H' → Q (.ref p) H' := fun R' H' h1 h2 h3 h4 h5 h6 => by
      obtain ⟨o', it⟩ := FD.it h1 h2 h3 h4
      exact k _ o' H' it pq h5 h6
    have wrote : ∀ (kk : Option Key) (v : V) (H5 : Hp), IsDat K H5 v → v ≠ .ref p → DrawAt H5 d c → Keep d c H4 H5 → ∃ u', (DPut H5 p (kN kk) v (upd H5 p u') ∨ ∃ k', kN kk = kN k' ∧ NPut P w H5 p k' v (upd H5 p u')) ∧ Q (.ref p) (upd H5 p u') := fun kk v H5 dv nv dr5 kp5 => by
      have fd5 : FD P w H5 p R := fdp.of fun u hu => kp5 _ _ pd.1 pd.2 hu
      have hp5 := kp5 _ _ pd.1 pd.2 hp4
      obtain ⟨u', put, fd6, nul'⟩ := fd5.put (k := kk) (v := v) ndR (by omega)
      have pn := putN_nd (k := kk) (v := v) ndR
      have dr6 : DrawAt (upd H5 p u') d c := dr5.off pd.1 pd.2
      have kp56 : Keep d c H (upd H5 p u') := fun b' o' h1 h2 e => by
        have bp : b' ≠ p := fun z => by
          subst z
          have := kp03 _ _ h1 h2 e
          rw [np] at this
          cases this
        rw [upd_ne bp]
        exact kp5 _ _ h1 h2 (kp04 _ _ h1 h2 e)
      refine ⟨u', put, fin _ _ fd6 pn.1 (Nat.le_trans (length_putK _ _ _) (by omega)) (fun r hr => ?_) dr6 kp56⟩
      rcases pn.2.2.2 r hr with e | hr
      · rw [e]
        exact dat_put dv nv
      · exact dat_put ((dt4 r hr).keep dr4 dr5 kp5) (dat_ne (dtR r hr) np)
    have isn : ∀ {z : Int} {y : Int}, wy = y → z ≠ y → decide (V.int wy = V.int z) = false := fun e n => decide_eq_false fun w => n ((V.int.inj w).symm.trans e)
    refine ⟨_, rfl, rfl, _, rfl, ?_⟩
    by_cases c1 : wy = 1
    · rw [show decide (V.int wy = V.int 1) = true by rw [c1]; exact decide_eq_true rfl]
      refine iteT ?_
      refine fr_inT (i := 5) (j := 4) (k := Sum.inr a) fdp.fr rfl rfl ?_
      cases hv : valV R (some (Sum.inr a)) with
      | none =>
        refine iteF ?_
        refine ⟨_, rfl, rfl, _, rfl, ?_⟩
        rw [isn c1 (by decide)]
        refine iteF ⟨_, rfl, rfl, _, rfl, ?_⟩
        rw [isn c1 (by decide)]
        refine iteF ?_
        refine fr_inT (i := 5) (j := 4) (k := Sum.inr a) fdp.fr rfl rfl ?_
        rw [hv]
        exact iteF (iteF ⟨_, rfl, fin R H4 fdp ndR (by omega) dt4 dr4 kp04⟩)
      | some v =>
        refine iteT ?_
        refine ⟨p, u, hp4, ?_, fun od => ?_⟩
        · rcases fdp with ⟨z, _⟩ | ⟨_, z, _⟩ <;> rw [Option.some.inj (hp4.symm.trans z)] <;> exact True.intro
        have lkR : (∃ ks, u = HO.dK ks ∧ R = ks.map someP) ∨ u = DN P w p R := by
          rcases fdp with ⟨z, _⟩ | ⟨ks, z, e⟩
          · exact .inr (Option.some.inj (hp4.symm.trans z))
          · exact .inl ⟨ks, Option.some.inj (hp4.symm.trans z), e⟩
        refine ⟨_, rfl, p, od, u, R, rfl, upd_same, lkR, fun J wJ D nD => ?_⟩
        have Dp : D ≠ p := (ne_of_none upd_same nD).symm
        have frk : ∀ {H' : Hp}, H' p = some (.frz od u) → FR P w H' p R := fun h => by
          rcases lkR with ⟨ks, rfl, e⟩ | rfl
          · exact .inr ⟨ks, .inr ⟨_, h⟩, e⟩
          · exact .inl (.inr ⟨_, h⟩)
        let c : Option Key × V → Bool := fun r => !decide (kN r.1 = V.str a)
        refine lc_it wJ (fun i H' => Same (upd H4 p (.frz od u)) H' ∧ ∃ rs : List Addr, H' D = some (.lst (rs.map V.ref)) ∧ Paired (fun (r : Addr) (z : Option Key × V) => H' r = some (.tup [kN z.1, z.2])) rs ((R.take i).filter c)) ⟨same_new nD, [], upd_same, .nil⟩ (fun i H' _ z => z.1 _ _ upd_same) ?_ ?_
        · intro i y Ha Hb hi ⟨q1, rs, hD', pr⟩ ⟨eb, kk, vv, hk, ey⟩
          subst eb
          subst ey
          have lr : rs.length ≤ R.length := by
            rw [Paired.length pr]
            exact Nat.le_trans (List.length_filter_le _ _) (by rw [List.length_take]; omega)
          have more : (R.take (i + 1)).filter c = (R.take i).filter c ++ if c (kk, vv) = true then [(kk, vv)] else [] := by
            rw [take_more hk, List.filter_append, List.filter_cons, List.filter_nil]
          refine ⟨rfl, ?_⟩
          refine ⟨_, rfl, _, rfl, by cases kk with | none => rfl | some kk => cases kk <;> rfl, _, rfl, ?_⟩
          refine ite2 (fun yes => ?_) (fun no => ?_)
          · rw [if_pos (show c (kk, vv) = true from yes)] at more
            have hget : valV R kk = some vv := valV_nd ndR hk
            refine ⟨_, rfl, fr_get (i := 5) (j := 6) (k := kk) (frk (q1 _ _ upd_same)) rfl rfl hget ⟨by show 2 ≤ sizeLine; omega, fun r nr => ?_⟩⟩
            have tr := same_new (o := .tup [kN kk, vv]) nr
            refine ⟨_, tr _ _ hD', by rw [List.length_map]; omega, (q1.trans tr).put nD, rs ++ [r], by rw [upd_same, List.map_append] <;> rfl, ?_⟩
            rw [more]
            refine paired_snocA pr (fun b' z e => ?_) ?_
            · rw [upd_ne (ne_of e hD' (by intro z; cases z))]
              exact tr _ _ e
            · rw [upd_ne (ne_of_none hD' nr).symm, upd_same]
          · rw [if_neg (show ¬ c (kk, vv) = true from no), List.append_nil] at more
            exact ⟨q1, rs, hD', by rw [more]; exact pr⟩
        intro H5 ⟨q1, rs, hD', pr⟩
        rw [List.take_length] at pr
        refine ⟨q1 _ _ upd_same, ?_⟩
        have su := unlock_same hp4 q1
        obtain ⟨H6, e6⟩ : ∃ X, X = upd H5 p u := ⟨_, rfl⟩
        have hD6 : H6 D = some (.lst (rs.map V.ref)) := by rw [e6, upd_ne Dp]; exact hD'
        have pr6 : Paired (fun (r : Addr) (z : Option Key × V) => SqT K H6 r [kN z.1, z.2]) rs (R.filter c) := by
          refine pair_impN (fun r z e => SqT.of ?_) pr
          rw [e6, upd_ne (ne_of e (q1 _ _ upd_same) (by intro z; cases z))]
          exact e
        rw [← e6] at su ⊢
        have dr6 := dr4.mono su
        have ndf : ((R.filter c).map (·.1)).Nodup := ndR.sublist ((List.filter_sublist).map _)
        have lf := List.length_filter_le c R
        refine ⟨D, rs, R.filter c, rfl, SqL.of hD6, pr6, ndf, ?_, fun p2 u2 np2 fd2 => ?_⟩
        · rcases fdp with ⟨_, mn⟩ | ⟨ks, _, rfl⟩
          · refine .inr ?_
            obtain ⟨r, hr, e⟩ := List.mem_map.mp mn
            refine List.mem_map.mpr ⟨r, List.mem_filter.mpr ⟨hr, ?_⟩, e⟩
            show (!decide (kN r.1 = V.str a)) = true
            rw [e] <;> rfl
          · exact .inl ⟨ks.filter (c ∘ someP), (List.filter_map).trans rfl⟩
        · obtain ⟨o', it⟩ := FD.it (K := K) (m := m + 1) fd2 ndf (by omega) (fun r hr => ((dt4 r (List.mem_filter.mp hr).1).mono (su.trans (same_new np2))))
          refine k _ o' _ it (fun z => ?_) (dr6.mono (same_new np2)) ((kp04.trans (Keep.of_same su)).trans (Keep.of_same (same_new np2)))
          cases z
          have hq6 := su _ _ (s4 _ _ hq3)
          rw [hq6] at np2
          cases np2
    rw [decide_eq_false (show ¬ V.int wy = V.int 1 from fun z => c1 (V.int.inj z))]
    refine iteF (iteF ?_)
    refine ⟨_, rfl, rfl, _, rfl, ?_⟩
    by_cases c2 : wy = 2
    · rw [show decide (V.int wy = V.int 2) = true by rw [c2]; exact decide_eq_true rfl]
      refine iteT ?_
      refine ⟨_, rfl, _, rfl, by show 4 ≤ sizeLine; omega, fun pl npl => ?_⟩
      have s5 := same_new (o := .lst [.str "nobody", .str "", .int 5, .non]) npl
      have pld := dr4.apart npl
      refine ⟨d, c, .ref pl, 4, fun _ u => u ∈ [V.str "nobody", .str "", .int 5, .non], rfl, dr4.mono s5, .inl ⟨pl, _, rfl, pld.1, pld.2, upd_same, rfl, fun i u hu => List.mem_of_getElem? hu⟩, by decide, by decide, fun i1 y H6 ym dr6 kp6 => ?_⟩
      obtain ⟨kk, rfl⟩ : ∃ kk, y = kN kk := by
        simp only [List.mem_cons, List.not_mem_nil, or_false] at ym
        rcases ym with rfl | rfl | rfl | rfl
        · exact ⟨some (Sum.inr "nobody"), rfl⟩
        · exact ⟨some (Sum.inr ""), rfl⟩
        · exact ⟨some (Sum.inl 5), rfl⟩
        · exact ⟨none, rfl⟩
      obtain ⟨u', put, fq⟩ := wrote kk (.int 0) H6 ⟨_, .int 0⟩ (fun z => nomatch z) dr6 ((Keep.of_same s5).trans kp6)
      exact ⟨p, _, rfl, put, _, rfl, fq⟩
    rw [decide_eq_false (show ¬ V.int wy = V.int 2 from fun z => c2 (V.int.inj z))]
    refine iteF ⟨_, rfl, rfl, _, rfl, ?_⟩
    by_cases c3 : wy = 3
    · rw [show decide (V.int wy = V.int 3) = true by rw [c3]; exact decide_eq_true rfl]
      refine iteT ?_
      refine ⟨_, rfl, 1, rfl, by show 1 ≤ sizeLine; omega, fun t1 m1 => ⟨by show 1 ≤ sizeLine; omega, fun l1 m2 d1 m3 => ⟨_, _, rfl, rfl, ⟨by decide, by decide, by decide⟩, by show 8 ≤ sizeLine; omega, fun pl npl => ?_⟩⟩⟩
      have s5 := same_new (o := .tup [.int 1]) m1
      have s6 := same_new (o := .lst [.int 1]) m2
      have s7 := same_new (o := .dK []) m3
      have s8 := same_new (o := .lst [.int (-1), .bl true, .non, .str "1", .ref t1, .ref l1, .ref d1, .int (10 ^ (31 : Int).toNat)]) npl
      have a1 := s8 _ _ (s7 _ _ (s6 _ _ (upd_same (H := H4) (a := t1) (o := .tup [.int 1]))))
      have a2 := s8 _ _ (s7 _ _ (upd_same (H := upd H4 t1 (.tup [.int 1])) (a := l1) (o := .lst [.int 1])))
      have a3 := s8 _ _ (upd_same (H := upd (upd H4 t1 (.tup [.int 1])) l1 (.lst [.int 1])) (a := d1) (o := .dK []))
      have s47 := (s5.trans s6).trans s7
      have s48 := s47.trans s8
      obtain ⟨H5, e5⟩ : ∃ X, X = upd (upd (upd (upd H4 t1 (.tup [.int 1])) l1 (.lst [.int 1])) d1 (.dK [])) pl (.lst [.int (-1), .bl true, .non, .str "1", .ref t1, .ref l1, .ref d1, .int (10 ^ (31 : Int).toNat)]) := ⟨_, rfl⟩
      have hpl : H5 pl = some (.lst [.int (-1), .bl true, .non, .str "1", .ref t1, .ref l1, .ref d1, .int (10 ^ (31 : Int).toNat)]) := by rw [e5]; exact upd_same
      rw [← e5] at s48 a1 a2 a3 ⊢
      have pld := (dr4.mono s47).apart npl
      have z2 := (dr4.mono s5).apart m2
      have dr5 := dr4.mono s48
      refine ⟨d, c, .ref pl, 8, fun _ u => u ∈ [V.int (-1), .bl true, .non, .str "1", .ref t1, .ref l1, .ref d1, .int (10 ^ (31 : Int).toNat)], rfl, dr5, .inl ⟨pl, _, rfl, pld.1, pld.2, hpl, rfl, fun i u hu => List.mem_of_getElem? hu⟩, by decide, by decide, fun i1 y H6 ym dr6 kp6 => ?_⟩
      obtain ⟨dy, ny⟩ : IsDat K H6 y ∧ y ≠ .ref p := by
        have off : ∀ {x : Addr} {Hx : Hp}, Same H4 Hx → Hx x = none → V.ref x ≠ .ref p := fun sx n z => by
          cases z
          rw [sx _ _ hp4] at n
          cases n
        simp only [List.mem_cons, List.not_mem_nil, or_false] at ym
        rcases ym with rfl | rfl | rfl | rfl | rfl | rfl | rfl | rfl
        · exact ⟨⟨_, .int _⟩, fun z => nomatch z⟩
        · exact ⟨⟨_, .bl _⟩, fun z => nomatch z⟩
        · exact ⟨⟨_, .non⟩, fun z => nomatch z⟩
        · exact ⟨⟨_, .str _⟩, fun z => nomatch z⟩
        · obtain ⟨b1, b2⟩ := dr5.notD a1 (fun xs z => nomatch z)
          exact ⟨⟨_, .tup (kp6 _ _ b1 b2 a1)⟩, off Same.refl m1⟩
        · exact ⟨⟨_, .lst (kp6 _ _ z2.1 z2.2 a2)⟩, off s5 m2⟩
        · obtain ⟨b1, b2⟩ := dr5.notD a3 (fun xs z => nomatch z)
          exact ⟨⟨_, .dct (kp6 _ _ b1 b2 a3)⟩, off (s5.trans s6) m3⟩
        · exact ⟨⟨_, .int _⟩, fun z => nomatch z⟩
      obtain ⟨u', put, fq⟩ := wrote (some (Sum.inr a)) y H6 dy ny dr6 ((Keep.of_same s48).trans kp6)
      exact ⟨_, rfl, _, rfl, p, _, rfl, put, _, rfl, fq⟩
    rw [decide_eq_false (show ¬ V.int wy = V.int 3 from fun z => c3 (V.int.inj z))]
    refine iteF ?_
    refine fr_inT (i := 5) (j := 4) (k := Sum.inr a) fdp.fr rfl rfl ?_
    cases hv : valV R (some (Sum.inr a)) with
    | none => exact iteF (iteF ⟨_, rfl, fin R H4 fdp ndR (by omega) dt4 dr4 kp04⟩)
    | some v =>
      refine iteT ?_
      have dv := dt4 _ (valV_memN hv)
      refine fr_get (i := 5) (j := 4) (k := some (Sum.inr a)) fdp.fr rfl rfl hv ⟨v, rfl, dv, _, rfl, ?_⟩
      cases eg : isGe v 0 with
      | false => exact iteF ⟨_, rfl, fin R H4 fdp ndR (by omega) dt4 dr4 kp04⟩
      | true =>
        refine iteT ?_
        cases v with
        | int z =>
          refine fr_get (i := 5) (j := 4) (k := some (Sum.inr a)) fdp.fr rfl rfl hv ?_
          refine ⟨_, rfl, 1, rfl, by show 3 ≤ sizeLine; omega, fun pl npl => ?_⟩
          have s5 := same_new (o := .lst [.int 1, .int (-1), .int 1]) npl
          have pld := dr4.apart npl
          refine ⟨d, c, .ref pl, 3, fun _ u => u ∈ [V.int 1, .int (-1), .int 1], rfl, dr4.mono s5, .inl ⟨pl, _, rfl, pld.1, pld.2, upd_same, rfl, fun i u hu => List.mem_of_getElem? hu⟩, by decide, by decide, fun i1 y H6 ym dr6 kp6 => ?_⟩
          obtain ⟨y', rfl⟩ : ∃ y', y = .int y' := by
            simp only [List.mem_cons, List.not_mem_nil, or_false] at ym
            rcases ym with rfl | rfl | rfl <;> exact ⟨_, rfl⟩
          obtain ⟨u', put, fq⟩ := wrote (some (Sum.inr a)) (.int (z + y')) H6 ⟨_, .int _⟩ (fun z => nomatch z) dr6 ((Keep.of_same s5).trans kp6)
          exact ⟨_, _, rfl, rfl, _, rfl, _, rfl, p, _, rfl, put, _, rfl, fq⟩
        | _ => cases eg
end
end FT


/-! xs.count(y), flat items -/
namespace L2
open PySem PySem.Spec PyProof.Rows
theorem countP_eqU {x : V} : ∀ {xs : List V} {us : List Value}, Vals xs us → xs.all flatV = true → us.countP (eqU x) = xs.countP fun y => eqV y x
  | _, _, .nil, _ => rfl
  | y :: xs, u :: us, .cons r t, f => by
    rw [List.all_cons, Bool.and_eq_true] at f
    rw [List.countP_cons, List.countP_cons, countP_eqU t f.2, eqU_of r f.1]
def rCntF (K : PySem.W.Frag) : V → List V → Hp → VK → Prop := fun x xs H Q => ∃ (a : Addr) (ys : List V) (y : V), x = .ref a ∧ xs = [y] ∧ SqL K H a ys ∧ flatV y = true ∧ ys.all flatV = true ∧ Q (.int ((ys.countP fun z => eqV z y : Nat) : Int)) H
variable {X : Cx}
theorem mt_countF : MtR X "list.count" (rCntF X.K) := by
  intro pins s σ H x xs v us Q I rx rxs ⟨a, ys, y, ex, exs, hs, fy, fys, q⟩
  subst ex
  subst exs
  cases rx
  match us, rxs with
  | [uy], .cons ry .nil =>
    obtain ⟨its, rv, ⟨⟨cls, dd, data, sl⟩, n, ho, hc, hdn, hd⟩, hlen⟩ := I.list hs
    simp only at hc hd
    subst hc hd
    refine call_meets PySem.F.slot_list_count ⟨_, ho, rfl⟩ PySem.F.entry_list_count (PySem.F.args_list_count_2 _ _)
      (SeqAt.list_countAt a its.toArray n dd sl uy (eqU y)) ⟨ho, fun u hu => mem_eqAt ry fy rv fys u (by simpa using hu), ?_⟩
    refine ⟨.int ((ys.countP fun z => eqV z y : Nat) : Int), H, I.tok _, ⟨s.toks, ?_⟩, q⟩
    show Value.int ((its.toArray.toList.countP (eqU y) : Nat) : Int) s.toks = Value.int ((ys.countP fun z => eqV z y : Nat) : Int) s.toks
    rw [show its.toArray.toList = its from rfl, countP_eqU rv fys]
end L2


/-! Own: a lambda handed to a def that calls it in a try: what is raised is wished for at the caller's very slots (the library's rule asks it for all slots). -/
namespace L2
open PySem PySem.Spec PyProof.Rows LamX
section
variable {X : Cx} {pins : List (Addr × Obj)} {σ : St} {H : Hp} {s : Shared}
theorem pe_actS {CXg : CXT} {Eg : XK} {Ng : List Str} {qg : Str} {sg : Scope} {g f c' : Addr} {cdg pm ctv : Value} {params : Arguments} {body : Expr} {scope : Scope} {k i : Nat} {a : Str} {pn : List (Addr × Obj)} {xe : Value → Shared → Prop} {W : WX} {tb : XK → TE} {p1 p2 : Pos}
    (I : Inv X pins σ H s) (L : LamS X.env.scope scope) (here : s.heap.get? f = some (PySem.W.kla_obj "<lambda>" (X.env.qual ++ "<lambda>") params body scope (cloFrom X.env.cells scope.names []) pm c' ctv)) (fno : H f = none) (ffr : f ∉ frs X.stack)
    (bd : bindArgs (PySem.W.kla_fn "<lambda>" (X.env.qual ++ "<lambda>") params body scope (cloFrom X.env.cells scope.names []) pm (.ref c') ctv) ⟨[], []⟩ = pure []) (tk : Takes ((cxOf CXg X.prog X.w X.K X.mg X.base Ng qg sg g cdg X.A X.stack s H Eg).tr pn xe) W)
    (room : Room (k + 1) (X.A.deeper (envOfC qg sg s.heap.objs.size g cdg))) (walk : ∀ (A : Around) (outer : List Env) (s : Shared) (H : Hp) (E : XK), Room k (A.deeper (lamEnv X scope s.heap.objs.size f c')) → PE (lamCx X A outer s H E scope f c') body (tb E))
    (hN : Ng[i]? = some a) (hv : Vis sg a) (hd : (a == ("__debug__" : Str)) = false := by decide) (hcd : (a == ("__classdict__" : Str)) = false := by decide) :
    PE ((cxOf CXg X.prog X.w X.K X.mg X.base Ng qg sg g cdg X.A X.stack s H Eg).tr pn xe) (.Call (.Name a p1) [] [] p2)
      (fun τ HZ Q => ∃ (Ech : XK) (Qn : VK), (∀ cls d H', Ech cls d H' → W cls d τ H') ∧ (∀ v H', Qn v H' → Q v H') ∧ τ[i]? = some (some (.ref f)) ∧ HZ c' = some (CodeO c' (X.env.qual ++ "<lambda>")) ∧ tb Ech σ HZ Qn) := by
  constructor
  intro pz sz τ HZ Q IZ ⟨Ech, Qn, imp, impQ, slot, code, want⟩
  refine wpAny_Call_Name_kw (thn ((pe_var (pos := p1) (i := i) hN hv hd hcd).run pz sz τ HZ (fun v H1 => v = .ref f ∧ H1 = HZ) IZ ⟨.ref f, slot, rfl, rfl⟩) fun u s1 ⟨v, H1, I1, r1, ev, eH⟩ => ?_)
  subst ev
  subst eH
  cases (show u = Value.ref f from r1)
  have still : s1.heap.get? f = some (PySem.W.kla_obj "<lambda>" (X.env.qual ++ "<lambda>") params body scope (cloFrom X.env.cells scope.names []) pm c' ctv) := I1.base.keep f _ here fno ffr (by simp [cxOf, Cx.tr])
  have grown : Un (frs X.stack) [] H H1 s.heap s1.heap := I1.base
  obtain ⟨⟨oc, ws, t, e1, e2, e3⟩, _, _⟩ := I1.hok c' _ code
  refine PySem.W.callWith_F0 ⟨_, _, _, _, still⟩ (wpAny_call (codeAny_mono (R := CR (L2.CX X.prog X.w) (envOfC qg sg s.heap.objs.size g cdg :: X.stack) X.prog X.w H1 s1 Qn Ech) ?_ fun r s' z => ?_))
  · show codeAny _ _ (.call (.ref f) ⟨[], []⟩) _ s1
    refine PySem.W.kla_callFunE room.depth still rfl L.co L.gen rfl ⟨c', oc, ws, t, rfl, e1, e2, e3⟩ ?_
    rw [bd]
    refine wpAny_pure (wpAny_newFunctionEnv (fun y hy => (L.own y hy).2) (fun y hy => absurd hy (by simp)) (fun h₁ ns sb => ⟨I1.nolimit.fresh _ sb, ?_⟩) L.kind)
    have kp : ∀ b o, s1.heap.get? b = some o → h₁.get? b = some o := fun b o e => sb.extBut b o (Nat.ne_of_lt (Heap.lt_size e)) (Heap.get?_push_of_some _ e)
    have J : Inv (lamCx X (X.A.deeper (envOfC qg sg s.heap.objs.size g cdg)) (envOfC qg sg s.heap.objs.size g cdg :: X.stack) s1 H1 Ech scope f c') [] σ H1 { s1 with heap := h₁, toks := s1.toks + ([] : List (Str × Value)).length } := lam_start2 I L I1.env0 room.hd grown ns kp
    exact PySem.W.kla_codeExpr (wpAny_mono ((walk _ _ s1 H1 _ (room.deeper _)).run [] _ _ H1 Qn J want) (fun v s' ⟨w, H', J', rv, q⟩ => ⟨w, H', J'.os, J'.bare, J'.base, J'.hok, rv, q⟩) fun _ _ z => z)
  · match r, z with
    | .error e, z => exact tk e s' (XE.of_call I1 (fun cls d H' h => imp cls d H' h) z)
    | .ok (.ret u), z =>
      obtain ⟨v, H2, J2, rv, q⟩ := I1.after z
      exact ⟨v, H2, J2, rv, impQ v H2 q⟩
    | .ok .next, z => exact z.elim
    | .ok .brk, z => exact z.elim
    | .ok .cont, z => exact z.elim
end
/-- the def that calls what it got, in its slot 0 -/
def GivesS (X : Cx) (Ng : List Str) (x : Str) (sg : Scope) (g : Addr) (cdg : Value) (bg : List Stmt) (a : Str) (q : Str) (TT : (XK → Hp → VK → Prop) → Hp → VK → Prop) : Prop :=
  ∀ (f c' : Addr) (s : Shared) (H : Hp) (Q : VK) (tl : XK → Hp → VK → Prop),
    (∀ (W : WX) (pn : List (Addr × Obj)) (xe : Value → Shared → Prop) (p1 p2 : Pos), Takes ((cxOf C8.CX0 X.prog X.w X.K X.mg X.base Ng x sg g cdg X.A X.stack s H C8.E0).tr pn xe) W →
      PE ((cxOf C8.CX0 X.prog X.w X.K X.mg X.base Ng x sg g cdg X.A X.stack s H C8.E0).tr pn xe) (.Call (.Name a p1) [] [] p2) (fun τ HZ Q => ∃ (Ech : XK) (Qn : VK), (∀ cls d H', Ech cls d H' → W cls d τ H') ∧ (∀ v H', Qn v H' → Q v H') ∧ τ[0]? = some (some (.ref f)) ∧ HZ c' = some (CodeO c' q) ∧ tl Ech HZ Qn)) →
    H c' = some (CodeO c' q) → TT tl H Q → ∃ t, PSs (cxOf C8.CX0 X.prog X.w X.K X.mg X.base Ng x sg g cdg X.A X.stack s H C8.E0).nox bg t ∧ t { nx := fun _ H' => Q .non H', rt := Q } (L2.start Ng [.ref f]) H
/-- x(lambda: body), x such a def -/
theorem pe_lamS {X : Cx} {T : List (Addr × Str)} {TT : (XK → Hp → VK → Prop) → Hp → VK → Prop} {x a : Str} {g c P : Addr} {k : Nat} {st : Stmt} {fd : FuncData} {Ng : List Str} {params : Arguments} {body : Expr} {scope : Scope} {t : XK → TE} {p lpos pos : Pos} (hg : Gl X x) (hm : X.mg x = some (.ref g))
    (F : Fun X.K x x st g fd) (hb : Binds X.K fd [a] []) (Sg : FnScope Ng [a] (defScope st)) (hNg : Ng[0]? = some a) (hva : Vis (defScope st) a) (gives : ∀ cdg, GivesS X Ng x (defScope st) g cdg (defBody st) a (X.env.qual ++ "<lambda>") TT)
    (TB : TabB X.base X.mg c P) (code : X.env.code = .ref c) (mT : (P, X.env.qual ++ "<lambda>") ∈ T) (uT : ∀ p ∈ T, p.1 = P → p.2 = X.env.qual ++ "<lambda>") (room : Room (k + 2) X.A) (L : LamS X.env.scope scope) (dfl : defaultsOf params X.env = ([], []))
    (bd : ∀ (q : Str) (cl : List (Str × Addr)) (pm cv ctv : Value), bindArgs (PySem.W.kla_fn "<lambda>" q params body scope cl pm cv ctv) ⟨[], []⟩ = pure [])
    (walk : ∀ (A : Around) (outer : List Env) (s : Shared) (H : Hp) (E : XK) (f c' : Addr), Room k (A.deeper (lamEnv X scope s.heap.objs.size f c')) → PE (lamCx X A outer s H E scope f c') body (t E))
    (hdb : (x == ("__debug__" : Str)) = false := by decide) (hd : (a == ("__debug__" : Str)) = false := by decide) (hcd : (a == ("__classdict__" : Str)) = false := by decide) : PE X (.Call (.Name x p) [.Lambda params body scope lpos] [] pos) (tLam T TT t) := by
  constructor
  intro pins s σ H Q I ⟨hT, want⟩
  refine wpAny_Call_Name_kw (ld_glob I hg hm ?_ hdb)
  refine PySem.W.callWith_K (h₀ := X.base) I.ok.mod.kin F.kp (pos := pos) ?_ (by rfl) (by rfl)
  show wpAny _ _ (spliced ((false, eval (.Lambda params body scope lpos) X.env) :: backTo pos (starEach [] X.env))) _ _ s
  refine Calls.spliced_cons (lam_make2 I TB code mT uT hT dfl (L.has I.ok) fun f c' pm' ctv H1 s' I1 eN T1 of fn fr co => Calls.spliced_nil ⟨I1.kIn, wpAny_call (codeAny_mono (R := CR C8.CX0 X.stack X.prog X.w H1 s' Q C8.E0) ?_ fun r s2 z => ?_)⟩)
  · obtain ⟨oc, od, kV, doc, pm, an, cdv, ct, osl, rfl, lk, cin⟩ := F.ex
    refine run_ofS (N := Ng) (ps := [a]) (us := [.ref f]) (vs := [.ref f]) lk cin Sg room I1.env0 (hb s' [.ref f] I1.kIn rfl) (.cons rfl .nil) rfl fun room' => ?_
    obtain ⟨t', term, q⟩ := gives cdv f c' s' H1 Q (fun E H' Q' => t E σ H' Q') (fun W pn xe p1 p2 tk => pe_actS (i := 0) I1 L of fn fr (bd _ _ _ _ _) tk room' (fun A outer s H E hr2 => walk A outer s H E f c' hr2) hNg hva hd hcd) co (want H1 eN T1)
    exact ⟨t', term.nox, q⟩
  · match r, z with
    | .error e, z => exact (show False from z).elim
    | .ok (.ret u), z => exact I1.after z
    | .ok .next, z => exact z.elim
    | .ok .brk, z => exact z.elim
    | .ok .cont, z => exact z.elim
end L2


/-! isinstance of an exception of an own class, by a tuple of classes -/
namespace L2
open PySem PySem.Spec PyProof.Rows
section
variable {X : Cx}
def rIsXT (K : PySem.W.Frag) : List V → Hp → VK → Prop := fun xs H Q => ∃ (a C : Addr) (fs : List (Str × V)) (tp : Addr) (cs : List V) (ws : List Value) (b : Bool), xs = [.ref a, .ref tp] ∧ H tp = some (.tup cs) ∧ Paired ClsV cs ws ∧ XCls K C ∧ XV H a C fs ∧ PySem.W.kitAny K (.ref C) ws = some b ∧ Q (.bl b) H
theorem call_isXT : CallR X (.builtin "isinstance") (rIsXT X.K) := by
  intro pins s σ H xs us Q I r h
  obtain ⟨a, C, fs, tp, cs, ws, b, rfl, hT, k, T, xv, e, q⟩ := h
  obtain ⟨u1, u2, rfl, r1, r2⟩ := vals2 r
  cases (show u2 = Value.ref tp from r2)
  obtain rfl : u1 = Value.ref a := r1
  obtain ⟨ox, od, J⟩ := xv.inst I.hok
  have hcl : (PySem.W.clsIn X.K C).isSome = true := by
    obtain ⟨cd, hc, _⟩ := PySem.W.any_some T.hdC
    rw [hc] <;> rfl
  obtain ⟨_, its, rv, o, h1, h2, n, h3⟩ := (show ObjOk X.prog X.w H s.heap tp (.tup cs) from I.hok tp _ hT)
  have e3 := ClsV.all k rv
  subst e3
  obtain ⟨oc, od2, dt, sl⟩ := o
  simp only at h2 h3
  subst h2 h3
  exact PySem.W.kia_tup (PySem.W.kitx_exc hcl T.ga T.gg T.exC T.ha T.hn T.ht T.hm) I.kIn J h1 e (fun z => nomatch z) fun tk => ⟨.bl b, H, I.tok tk, rfl, q⟩
end
end L2


/-! _law_word of k03: what it makes of a lambda -/
namespace FT
open PySem L2 TL ClX LamX NdefX
def cnW (i : Nat) : Str := (["InvalidUsers", "InvalidSizes", "InvalidForest", "Mismatch"] : List Str).getD i ""
def wdW (i : Nat) : Str := (["users", "sizes"] : List Str).getD i ""
/-- the attribute that is told -/
def FldW (H : Hp) (d : Option Addr) (v : V) : Nat → Prop
  | 0 => v = .non ∧ (d = none ∨ ∃ dd fs, d = some dd ∧ H dd = some (.xd fs))
  | _ => ∃ dd, d = some dd ∧ H dd = some (.xd [("place", v)])
def TWord (C : Nat → Addr) : (XK → Hp → VK → Prop) → Hp → VK → Prop := fun tl H Q =>
  tl (fun cls d H' => ∃ i v, i < 2 ∧ cls = .ref (C i) ∧ FldW H' d v i ∧ ∀ p H'', Same H' H'' → H' p = none → H'' p = some (.tup [.str (wdW i), v]) → Q (.ref p) H'') H
    fun v H' => ∀ H'', Same H' H'' → Q .non H''
structure Cl4 (K : PySem.W.Frag) (mg : Str → Option Value) (R : Addr) (C : Nat → Addr) : Prop where
  gR : mg "RolloutError" = some (.ref R)
  g : ∀ i, i < 4 → mg (cnW i) = some (.ref (C i))
  x : ∀ i, i < 2 → XCls K (C i)
  kit : ∀ i j, i < 2 → j < 4 → PySem.W.kitOne K (.ref (C i)) (.ref (C j)) = some (decide (i = j))
  kitV : ∀ i, i < 2 → PySem.W.kitOne K (.ref (C i)) (.type "ValueError") = some true
  te : ∀ i, i < 2 → PySem.W.exmOne K (.ref (C i)) (.ref R) = some true
  no : PySem.W.findIn K (.ref (C 1)) "place" = some none
theorem XV_monoW {H H' : Hp} {a C : Addr} {fs : List (Str × V)} (s : Same H H') (x : XV H a C fs) : XV H' a C fs := by
  rcases x with ⟨x, e⟩ | ⟨dx, x, y⟩
  · exact .inl ⟨x.elim (fun q => .inl (s _ _ q)) (fun q => .inr (s _ _ q)), e⟩
  · exact .inr ⟨dx, x.elim (fun q => .inl (s _ _ q)) (fun q => .inr (s _ _ q)), y.elim (fun q => .inl (s _ _ q)) (fun q => .inr (s _ _ q))⟩
abbrev NWo : List Str := ["_law_work", "_law_error", "e", "_law_marks"]
theorem scWo : FnScope NWo ["_law_work"] (defScope s__law_word) := ⟨rfl, rfl, rfl, by decide +kernel, rfl, by decide +kernel, by decide +kernel⟩
theorem isi_rdW {K : PySem.W.Frag} {σ : St} {H : Hp} {a Ci D : Addr} {fs : List (Str × V)} {b : Bool} {Q : VK} (h0 : σ[1]? = some (some (.ref a))) (X : XCls K Ci) (xv : XV H a Ci fs) (kit : PySem.W.kitOne K (.ref Ci) (.ref D) = some b) (q : Q (.bl b) H) :
    tCB (rIsX K) (tCons (tVar 1) (tCons (tC (.ref D)) tNil)) σ H Q := ⟨_, h0, a, Ci, fs, .ref D, _, b, rfl, .own _, X, xv, kit, q⟩
theorem word_gives {X : Cx} {g R : Addr} {C : Nat → Addr} {cdg : Value} {q : Str} (N : Nm X.mg) (L : Cl4 X.K X.mg R C) : GivesS X NWo "_law_word" (defScope s__law_word) g cdg (defBody s__law_word) "_law_work" q (TWord C) := by
  intro f c' s H Q tl act hc h
  have big : 1000 ≤ sizeLine := by decide
  refine ⟨_, pss_cons (ps_set (i := 1) scWo.nd rfl (.inl rfl) pe_non)
    (pss_cons (ps_try_keep (X := (cxOf C8.CX0 X.prog X.w X.K X.mg X.base NWo "_law_word" (defScope s__law_word) g cdg X.A X.stack s H C8.E0).nox) (c := .ref R) (i := 2)
      rfl rfl rfl scWo.nd rfl rfl ⟨rfl, by decide, .inl L.gR⟩ LamX.takes0 (fun W pn xe tk _ => pss_one (ps_expr (act W pn xe _ _ tk))) (fun a oe cls d pn hz hf => pss_one (ps_set (i := 1) scWo.nd rfl (.inl rfl) (pv 2))))
    (pss_cons (ps_if (pt_cmpR op_isN (pv 1) pe_non (nomark _)) (pss_one (ps_ret pe_non)) pss_nil)
    (pss_cons (ps_set (i := 3) scWo.nd rfl (.inl rfl) (pe_lst (pa_cons (pe_callB call_isX (by rfl) N.isi (by decide +kernel) (pa_cons (pv 1) (pa_cons (pe_glob (v := .ref (C 0)) rfl (L.g 0 (by decide)) rfl) pa_nil))) (pa_cons (pe_callB call_isX (by rfl) N.isi (by decide +kernel) (pa_cons (pv 1) (pa_cons (pe_glob (v := .ref (C 1)) rfl (L.g 1 (by decide)) rfl) pa_nil))) pa_nil))))
    (pss_cons (ps_if (PW.pt (pw_or (pt_cmpR op_ne (pe_bm PySem.F.plainAttrs_list PySem.F.slot_list_count PySem.F.type_list_count mt_countF (pv 3) (pa_cons pe_bl pa_nil)) pe_int (nomark _))
        (pw_or (pt_val (pe_callB call_isXT (by rfl) N.isi (by decide +kernel) (pa_cons (pv 1) (pa_cons (pe_tup (pa_cons (pe_glob (v := .ref (C 2)) rfl (L.g 2 (by decide)) rfl) (pa_cons (pe_glob (v := .ref (C 3)) rfl (L.g 3 (by decide)) rfl) pa_nil))) pa_nil))))
        (pw_or1 (pt_not (pt_val (pe_callB call_isX (by rfl) N.isi (by decide +kernel) (pa_cons (pv 1) (pa_cons (pe_bltn (v := .ty "ValueError") (u := .type "ValueError") (by rfl) N.vE (by decide +kernel) rfl) pa_nil))))))))) (pss_one (ps_ret (pe_tup (pa_cons pe_str (pa_cons pe_non pa_nil))))) pss_nil)
    (pss_one (ps_ret (pe_ifExp (pt_val (pe_ix ix_list (pv 3) pe_int (fun _ _ => rfl))) (pe_tup (pa_cons pe_str (pa_cons pe_non pa_nil))) (pe_tup (pa_cons pe_str (pa_cons (pe_xfld (pv 1)) pa_nil)))))))))), ?_⟩
  refine ⟨_, _, fun cls d H' z => ?_, fun v H' z => ?_, rfl, hc, h⟩
  · obtain ⟨i, v, hi, rfl, hd, k⟩ := z
    refine ⟨true, C i, rfl, L.te i hi, fun _ a ha => ⟨_, rfl, ?_⟩, fun z => nomatch z⟩
    obtain ⟨H2, e2⟩ : ∃ X, X = upd H' a (exg a (C i) d) := ⟨_, rfl⟩
    have s2 : Same H' H2 := e2 ▸ same_new ha
    obtain ⟨fs, xv, hfs⟩ : ∃ fs, XV H2 a (C i) fs ∧ ((i = 0 ∧ v = .non) ∨ (i = 1 ∧ fs.lookup ("place" : Str) = some v)) := by
      match i, hi with
      | 0, _ =>
        obtain ⟨ev, hd⟩ := hd
        rcases hd with rfl | ⟨dd, fs, rfl, hdd⟩
        · exact ⟨[], .inl ⟨.inr (by rw [e2]; exact upd_same), rfl⟩, .inl ⟨rfl, ev⟩⟩
        · exact ⟨fs, .inr ⟨dd, .inr (by rw [e2]; exact upd_same), .inr (s2 _ _ hdd)⟩, .inl ⟨rfl, ev⟩⟩
      | 1, _ =>
        obtain ⟨dd, rfl, hdd⟩ := hd
        exact ⟨[("place", v)], .inr ⟨dd, .inr (by rw [e2]; exact upd_same), .inr (s2 _ _ hdd)⟩, .inr ⟨rfl, by simp [List.lookup]⟩⟩
    subst e2
    have Xi := L.x i hi
    refine ⟨_, rfl, rfl, _, rfl, iteF ?_⟩
    refine isi_rdW rfl Xi xv (L.kit i 0 hi (by decide)) (isi_rdW rfl Xi xv (L.kit i 1 hi (by decide)) ⟨by show 2 ≤ sizeLine; omega, fun p1 n1 => ?_⟩)
    have s3 := same_new (o := .lst ([.bl (decide (i = 0)), .bl (decide (i = 1))] : List V)) n1
    have a3 := upd_same (H := upd H' a (exg a (C i) d)) (a := p1) (o := .lst ([.bl (decide (i = 0)), .bl (decide (i = 1))] : List V))
    have xv3 := XV_monoW s3 xv
    have s03 := s2.trans s3
    refine ⟨_, rfl, .inl ⟨rfl, _, SqL.of a3⟩, p1, _, .bl true, rfl, rfl, SqL.of a3, rfl, rfl, rfl, _, rfl, ?_⟩
    have ecount : ([V.bl (decide (i = 0)), V.bl (decide (i = 1))] : List V).countP (fun z => eqV z (.bl true)) = 1 := by
      match i, hi with
      | 0, _ => rfl
      | 1, _ => rfl
    rw [ecount]
    refine iteF ?_
    refine ⟨_, rfl, by show 2 ≤ sizeLine; omega, fun tp ntp => ?_⟩
    have s4 := same_new (o := .tup [.ref (C 2), .ref (C 3)]) ntp
    have i2 : ¬ i = 2 := by omega
    have i3 : ¬ i = 3 := by omega
    have kA : PySem.W.kitAny X.K (.ref (C i)) [.ref (C 2), .ref (C 3)] = some false := by
      refine kitAny_cons (L.kit i 2 hi (by decide)) (fun _ => kitAny_cons (L.kit i 3 hi (by decide)) (fun _ => rfl) fun z => ?_) fun z => ?_
      · exact absurd (of_decide_eq_true z) i3
      · exact absurd (of_decide_eq_true z) i2
    refine ⟨a, C i, fs, tp, _, _, false, rfl, upd_same, .cons (.own _) (.cons (.own _) .nil), Xi, XV_monoW s4 xv3, kA, false, rfl, iteF ?_⟩
    have xv4 := XV_monoW s4 xv3
    refine ⟨_, rfl, a, C i, fs, .ty "ValueError", .type "ValueError", true, rfl, .ty _, Xi, xv4, L.kitV i hi, true, rfl, iteF ?_⟩
    have s04 := s03.trans s4
    refine ⟨_, rfl, p1, _, 0, .bl (decide (i = 0)), rfl, rfl, SqL.of (s4 _ _ a3), rfl, _, rfl, ?_⟩
    rcases hfs with ⟨rfl, rfl⟩ | ⟨rfl, hl⟩
    · refine iteT ⟨by show 2 ≤ sizeLine; omega, fun r nr => ?_⟩
      exact k r _ (s04.trans (same_new nr)) (s04.free nr) upd_same
    · refine iteF ⟨_, rfl, a, C 1, fs, v, rfl, xv4, Xi, L.no, hl, by show 2 ≤ sizeLine; omega, fun r nr => ?_⟩
      exact k r _ (s04.trans (same_new nr)) (s04.free nr) upd_same
  · exact ⟨_, rfl, rfl, _, rfl, iteT (z H' Same.refl)⟩
end FT


namespace FT
open PySem L2 TL ClX LamX NdefX
/-- the name of the lambdas of a def -/
abbrev lamQ (x : Str) : Str := x ++ ".<locals>." ++ "<lambda>"
def keyP (t : List (Str × Str)) (a : Str) : Int × Str := (((pathOf t a).length : Int), a)
/-- a parent stands ahead of its children -/
theorem par_ahead {t : List (Str × Str)} (o : TreeOk t) {ys : List Str} (pm : ys.Perm (t.map Prod.fst)) (pw : ys.Pairwise (fun x y => SrtKy.isLt (keyP t y) (keyP t x) = false)) {j : Nat} {a pa : Str} (hj : ys[j]? = some a) (hp : par t a = some pa) : pa = "" ∨ pa ∈ ys.take j := by
  obtain ⟨rk, r⟩ := o.up
  have ma := pm.mem_iff.mp (List.mem_of_getElem? hj)
  obtain ⟨p', e', hpa, _⟩ := o.step r ma
  cases hp.symm.trans e'
  rcases hpa with z | ⟨mp, _⟩
  · exact .inl z
  · refine .inr ?_
    obtain ⟨i, hi⟩ := List.mem_iff_getElem?.mp (pm.mem_iff.mpr mp)
    have il := (List.getElem?_eq_some_iff.mp hi).1
    have jl := (List.getElem?_eq_some_iff.mp hj).1
    have st := congrArg List.length (path_step o ma hp)
    rw [List.length_append] at st
    have st' : (pathOf t a).length = (pathOf t pa).length + 1 := st
    have lt : SrtKy.isLt (keyP t pa) (keyP t a) = true := SrtKy.isLt_iff.mpr (.inl (by show ((pathOf t pa).length : Int) < ((pathOf t a).length : Int); omega))
    have ij : i < j := by
      refine Decidable.byContradiction fun n => ?_
      by_cases e : i = j
      · subst e
        rw [hi] at hj
        cases hj
        omega
      · have g := List.pairwise_iff_getElem.mp pw j i jl il (by omega)
        rw [(List.getElem?_eq_some_iff.mp hi).2, (List.getElem?_eq_some_iff.mp hj).2, lt] at g
        cases g
    rw [List.mem_take_iff_getElem]
    exact ⟨i, by omega, (List.getElem?_eq_some_iff.mp hi).2⟩
section
variable {P : Program} {w : World} {K : PySem.W.Frag} {mg : Str → Option Value} {base : Heap}
abbrev NSz : List Str := ["_law_draw", "_law_above", "_law_many", "_law_found", "_law_left", "_law_name", "_law_most", "_law_size"]
theorem scSz : FnScope NSz ["_law_draw", "_law_above", "_law_many"] (defScope s__law_sizes) := ⟨rfl, rfl, rfl, by decide +kernel, rfl, by decide +kernel, by decide +kernel⟩
theorem ok_sizes {f fT fP fO fH co ta : Addr} {T : List (Addr × Str)} {fd fdT fdP fdO fdH : FuncData} (F : FunC K "_law_sizes" "_law_sizes" s__law_sizes f fd co) (N : Nm mg) (DT : Dn P w K mg base CX0 1 "_law_take" ["_law_draw", "_law_size"] spDraw fT fdT) (DP : Dn P w K mg base CX0 2 "_law_pick" ["_law_draw", "_law_some"] (spPick K) fP fdP)
    (DO : Dn P w K mg base CX0 2 "_law_order" ["_law_draw", "_law_some"] (spOrder K) fO fdO) (DH : Dn P w K mg base CX0 1 "_law_path" ["_law_above", "_law_spot"] spPath fH fdH) (TB : TabB base mg co ta) (hmT : (ta, lamQ "_law_sizes") ∈ T) (hut : ∀ p ∈ T, p.1 = ta → p.2 = lamQ "_law_sizes") :
    FnOk P w K mg base CX0 5 f fd ["_law_draw", "_law_above", "_law_many"] (spSizes T) := by
  refine F.ok scSz (fun vs H Q E h => ?_) (fun A outer s H vs Q E hr h => ?_)
  · obtain ⟨d, c, q, n, t, rfl, _⟩ := h
    rfl
  · obtain ⟨d, c, q, n, t, rfl, dr, hq, o, n0, n1, tT, k⟩ := h
    have hu := hu_of hr
    have hr1 : Room 1 _ := hr.mono (by decide)
    have hr2 : Room 2 _ := hr.mono (by decide)
    have big : 1000 ≤ sizeLine := by decide
    have few := o.few
    refine ⟨_, pss_cons (ps_asg (pe_tup (pa_cons pe_dnewK (pa_cons (pe_disp (pps_cons pe_str (pv 2) pps_nil) (by rfl) (by rfl) (fun z => by cases z) (by decide)) pa_nil)))
        (pg_tup rfl (pgs_cons (pg_name (i := 3) scSz.nd rfl (.inr rfl)) (pgs_cons (pg_name (i := 4) scSz.nd rfl (.inl rfl)) pgs_nil))))
      (pss_cons (ps_for PassesOwn.never rfl (pi_list (pe_sortedLam (T := T) (N := ["_law_each", "_law_above"]) (fr := ["_law_above"]) (js := [1]) (each := "_law_each") (k := 1) rfl N.srt rfl (pa_cons (pv 1) pa_nil) TB rfl hmT hut rfl
          (capt_by (sc := defScope s__law_sizes) (by decide +kernel)) (by decide +kernel) rfl (nscope_by (by decide +kernel)) (fun _ _ _ _ _ _ => rfl) hr
          (tb := tTup (tCons (tCB (rLenS K) (tCons (tCall spPath [] E0 (tCons (tVar 1) (tCons (tVar 0) tNil))) tNil)) (tCons (tVar 0) tNil)))
          (fun A outer s H f c' hr2 => pe_tup (pa_cons (pe_callB call_len_seq (by rfl) N.len PySem.boot_len (pa_cons (pe_call DH.ok hr2 rfl DH.mgn DH.kp DH.bn .nil pass0 (pa_cons (pv 1) (pa_cons (pv 0) pa_nil))) pa_nil)) (pa_cons (pv 0) pa_nil))))) (pg_name (i := 5) scSz.nd rfl (.inl rfl))
        (pss_cons (ps_set (i := 6) scSz.nd rfl (.inl rfl) (pe_dget hu (pv 4) (pe_dget hu (pv 1) (pv 5) (fun _ _ => rfl)) (fun _ _ => rfl)))
        (pss_cons (ps_set (i := 7) scSz.nd rfl (.inl rfl) (pe_call DP.ok hr2 rfl DP.mgn DP.kp DP.bn .nil pass0 (pa_cons (pv 0) (pa_cons (pe_lst (pa_cons pe_int (pa_cons (pv 6) (pa_cons (pe_call DT.ok hr1 rfl DT.mgn DT.kp DT.bn .nil pass0 (pa_cons (pv 0) (pa_cons (pe_op op_add (pv 6) pe_int) pa_nil)))
          (pa_cons (pe_call DT.ok hr1 rfl DT.mgn DT.kp DT.bn .nil pass0 (pa_cons (pv 0) (pa_cons (pe_op op_add (pv 6) pe_int) pa_nil))) (pa_cons (pe_op op_fdiv (pv 6) pe_int) pa_nil)))))) pa_nil))))
        (pss_cons (ps_asg (pe_tup (pa_cons (pv 7) (pa_cons (pv 7) pa_nil))) (pg_tup rfl (pgs_cons (pg_sub (pv 3) (pv 5) (set_dict hu)) (pgs_cons (pg_sub (pv 4) (pv 5) (set_dict hu)) pgs_nil))))
        (pss_one (ps_dput hu (pv 4) (pe_dget hu (pv 1) (pv 5) (fun _ _ => rfl)) (pe_op op_sub (pv 6) (pv 7)) rfl))))))
      (pss_one (ps_ret (pe_callTy (call_dictP rfl) (by rfl) N.dct (by decide +kernel) (pa_cons (pe_lc (own := [("_law_name", 5)]) (g := gName 5) (tt := tYes) (te := tTup (tCons (tVar 5) (tCons (tDGet (tVar 3) (tVar 5)) tNil))) rfl scSz.nd (pi_list (pe_call DO.ok hr2 rfl DO.mgn DO.kp DO.bn .nil pass0 (pa_cons (pv 0) (pa_cons (pv 1) pa_nil))))
        (blkOk_by (N := NSz) (sc := defScope s__law_sizes) (by decide +kernel))
        (fun _ _ _ _ _ => pg_name (i := 5) scSz.nd rfl (Or.inl rfl)) (fun _ _ _ _ _ => pts_nil) (fun _ _ _ _ _ => pe_tup (pa_cons (pv 5) (pa_cons (pe_dget hu (pv 3) (pv 5) (fun _ _ => rfl)) pa_nil)))) pa_nil))))), ?_⟩
    -- the two tables
    refine fun qf nqf ql nql => ⟨_, rfl, upd_same, [(Sum.inr "", V.int n)], rfl, by show 1 ≤ 15; omega, ?_⟩
    refine ⟨by show 2 ≤ sizeLine; omega, fun tp ntp => ⟨tp, _, rfl, .inl (.inl upd_same), rfl, _, _, rfl, _, _, rfl, rfl, ?_⟩⟩
    have qfl : qf ≠ ql := ne_of_none upd_same nql
    obtain ⟨H3, e3⟩ : ∃ X, X = upd (upd (upd (upd H qf (.dK [])) ql (.dK [])) ql (.dK (mergeK [] [(Sum.inr "", V.int n)]))) tp (.tup [.ref qf, .ref ql]) := ⟨_, rfl⟩
    have nql0 : H ql = none := by rw [upd_ne qfl.symm] at nql; exact nql
    have s0l : Same H (upd (upd (upd H qf (.dK [])) ql (.dK [])) ql (.dK (mergeK [] [(Sum.inr "", V.int n)]))) := ((same_new nqf).put nql0).put nql0
    have s03 : Same H H3 := e3 ▸ s0l.trans (same_new ntp)
    have hf3 : H3 qf = some (.dK (tblI [] fun _ => 0)) := by
      rw [e3, upd_ne (ne_of_none (by rw [upd_ne qfl, upd_ne qfl, upd_same]) ntp), upd_ne qfl, upd_ne qfl, upd_same] <;> rfl
    have hl3 : H3 ql = some (.dK (tblI [""] (resid [] n fun _ => 0))) := by
      rw [e3, upd_ne (ne_of_none upd_same ntp), upd_same]
      show some (HO.dK [(Sum.inr "", V.int n)]) = some (HO.dK [(Sum.inr "", V.int (n - 0))])
      rw [Int.sub_zero]
    have dr3 := dr.mono s03
    have qfd := dr.apart nqf
    have qld := dr.apart nql0
    have qqf : q ≠ qf := ne_of_none hq nqf
    have qql : q ≠ ql := ne_of_none hq nql0
    rw [← e3]
    -- in the order of their paths
    refine ⟨_, rfl, .ref q, rfl, tT.ext s03, fun c' H4 x34 t4 hc4 => ⟨q, prs t, t.map Prod.fst, keyP t, rfl, .inl (x34 _ _ (s03 _ _ hq) (fun ps z => nomatch z)), prs_keys t, by rw [List.length_map]; omega, ?_, fun ys H5 p pm pw k45 np => ⟨p, rfl, ⟨_, SqL.of upd_same⟩, ?_⟩⟩⟩
    · intro a ha H' k'
      refine ⟨_, rfl, _, rfl, q, a, t, rfl, .inl (k' _ _ (x34 _ _ (s03 _ _ hq) (fun ps z => nomatch z))), o, .inr ha, fun p2 H2 s2 n2 a2 => ⟨p2, _, rfl, .inr (.inl (.inl a2)), _, rfl, by show 2 ≤ sizeLine; omega, fun t2 nt2 => ⟨fun b u e => ?_, t2, rfl, ?_⟩⟩⟩
      · rw [upd_ne (ne_of_none (s2 _ _ e) nt2)]
        exact s2 _ _ e
      · rw [upd_same]
        show some (HO.tup [V.int (((pathOf t a).map V.str).length : Int), V.str a]) = some (HO.tup [V.int ((pathOf t a).length : Int), V.str a])
        rw [List.length_map]
    obtain ⟨H6, e6⟩ : ∃ X, X = upd H5 p (.lst (ys.map V.str)) := ⟨_, rfl⟩
    have x36 : ExtN H3 H6 := x34.trans (ExtN.of fun b u e => by rw [e6, upd_ne (ne_of_none (k45 b u e) np)]; exact k45 b u e)
    have t6 : Tabs T H6 := t4.ext fun b u e => by rw [e6, upd_ne (ne_of_none (k45 b u e) np)]; exact k45 b u e
    have a6 : H6 p = some (.lst (ys.map V.str)) := by rw [e6]; exact upd_same
    have dr6 := dr3.ext x36
    have pd : p ≠ d ∧ p ≠ c := ((dr3.ext x34).mono k45).apart np
    have hq6 := x36 _ _ (s03 _ _ hq) (fun ps z => nomatch z)
    have hf6 := x36 _ _ hf3 (fun ps z => nomatch z)
    have hl6 := x36 _ _ hl3 (fun ps z => nomatch z)
    have kn6 : KeepN d c H H6 := (Keep.of_same s03).n.trans (KeepN.of_ext x36)
    rw [← e6]
    have qd : q ≠ d ∧ q ≠ c := by
      obtain ⟨nx, mx, ct, cells, z1, z2, _⟩ := dr
      exact ⟨ne_of hq z1 (by intro z; cases z), ne_of hq z2 (by intro z; cases z)⟩
    have ppf : p ≠ qf := ne_of a6 hf6 (by intro z; cases z)
    have ppl : p ≠ ql := ne_of a6 hl6 (by intro z; cases z)
    have ly := pm.length_eq
    rw [List.length_map] at ly
    have ndy : ys.Nodup := pm.nodup_iff.mpr o.nd
    -- the loop's state
    refine for_it walk_list (fun j σ' H' => (∃ u5 u6 u7, σ' = [some (.ref d), some (.ref q), some (.int n), some (.ref qf), some (.ref ql), u5, u6, u7]) ∧ DrawAt H' d c ∧ Tabs T H' ∧ KeepN d c H H' ∧ H' p = some (.lst (ys.map V.str)) ∧ H' q = some (.dK (prs t)) ∧
      ∃ (t' : List (Str × Str)) (sz : Str → Int), Dealt t n (ys.take j) t' sz ∧ H' qf = some (.dK (tblI (ys.take j) sz)) ∧ H' ql = some (.dK (tblI ("" :: ys.take j) (resid t' n sz))))
      ⟨⟨_, _, _, rfl⟩, dr6, t6, kn6, a6, hq6, [], (fun _ => 0), Dealt.nil n0, hf6, hl6⟩ (fun j σ' H' _ z => SqL.of z.2.2.2.2.1) ?_ ?_
    · intro j y σ' Ha Hb hj ⟨⟨u5, u6, u7, e⟩, da, ta', ka, apa, aqa, t', sz, dl, hfa, hla⟩ ⟨eb, ex⟩
      subst e
      subst eb
      obtain ⟨a, hja, rfl⟩ := map_of ex
      have ma : a ∈ t.map Prod.fst := pm.mem_iff.mp (List.mem_of_getElem? hja)
      have anr : a ≠ "" := fun z => o.root (by rw [← z]; exact ma)
      have fresh : a ∉ ys.take j := fresh_at ndy hja rfl
      have jl := (List.getElem?_eq_some_iff.mp hja).1
      obtain ⟨pa, hpa⟩ := par_some o.nd ma
      have mpa := par_ahead o pm pw hja hpa
      have mpl : pa ∈ (("" : Str) :: ys.take j) := List.mem_cons.mpr mpa
      obtain ⟨m, em⟩ : ∃ m, m = resid t' n sz pa := ⟨_, rfl⟩
      have m0 : 0 ≤ m := by rw [em]; exact dl.res pa mpl
      have mn : m ≤ 10 ^ 30 := by
        have := dl.top_ pa mpl
        omega
      have dgp : ∀ {H'}, H' q = some (.dK (prs t)) → DGet H' q (.str a) (some (.str pa)) := fun {H'} hq' => by
        have z := DGet.k (k := Sum.inr a) hq'
        rw [val_prs, hpa] at z
        exact z
      refine ⟨_, rfl, _, rfl, _, rfl, q, .str pa, rfl, dgp aqa, ql, .int m, rfl, ?_, ?_⟩
      · have z := DGet.k (k := Sum.inr pa) hla
        rw [tblI_val mpl, ← em] at z
        exact z
      have bnd : (m + 1).natAbs < 2 ^ 200 := by omega
      refine ⟨_, rfl, _, rfl, _, rfl, _, rfl, _, _, rfl, rfl, d, c, m + 1, rfl, da, by omega, bnd, fun k1 H7 k10 k11 d7 kp7 => ?_⟩
      refine ⟨_, rfl, _, rfl, _, _, rfl, rfl, d, c, m + 1, rfl, d7, by omega, bnd, fun k2 H8 k20 k21 d8 kp8 => ?_⟩
      refine ⟨_, rfl, _, _, rfl, rfl, ⟨by decide, by decide⟩, by show 5 ≤ sizeLine; omega, fun pl npl => ?_⟩
      have pld := d8.apart npl
      refine ⟨d, c, _, 5, (fun _ x => ∃ z, x = .int z ∧ 0 ≤ z ∧ z ≤ m), rfl, d8.off pld.1 pld.2, .inl ⟨pl, ([0, m, k1, k2, m / 2] : List Int).map V.int, rfl, pld.1, pld.2, upd_same, rfl, items_ints fun z hz => ?_⟩, by decide, by decide, fun i x H9 px d9 k9 => ?_⟩
      · simp only [List.mem_cons, List.not_mem_nil, or_false] at hz
        rcases hz with rfl | rfl | rfl | rfl | rfl <;> omega
      obtain ⟨z, rfl, z0, z1⟩ := px
      have kpa9 : Keep d c Hb H9 := ((kp7.trans kp8).trans (Keep.of_same (same_new npl))).trans k9
      have hf9 := kpa9 _ _ qfd.1 qfd.2 hfa
      have hl9 := kpa9 _ _ qld.1 qld.2 hla
      have hq9 := kpa9 _ _ qd.1 qd.2 aqa
      have hp9 := kpa9 _ _ pd.1 pd.2 apa
      have t9 : Tabs T H9 := tabs_keep ta' da kpa9
      have kn9 : KeepN d c H H9 := ka.trans kpa9.n
      obtain ⟨dl', req⟩ := dl.step fresh anr (par_mem hpa) mpa z0 (by rw [← em]; exact z1)
      refine ⟨_, rfl, _, rfl, by show 2 ≤ sizeLine; omega, fun t2 nt2 => ⟨t2, _, rfl, .inl (.inl upd_same), rfl, ?_⟩⟩
      obtain ⟨H10, e10⟩ : ∃ X, X = upd H9 t2 (.tup [.int z, .int z]) := ⟨_, rfl⟩
      have s10 : Same H9 H10 := e10 ▸ same_new nt2
      rw [← e10]
      refine ⟨_, _, rfl, _, rfl, _, rfl, qf, _, rfl, DPut.k (k := Sum.inr a) (s10 _ _ hf9) (by rw [tblI_len, List.length_take]; omega), ?_⟩
      rw [tblI_congr (g' := fun x => if x = a then z else sz x) (fun b hb => (if_neg fun e => fresh (by rw [← e]; exact hb)).symm), tblI_snoc (g := fun x => if x = a then z else sz x) fresh (if_pos rfl).symm, ← take_more hja]
      refine ⟨_, _, rfl, _, rfl, _, rfl, ql, _, rfl, DPut.k (k := Sum.inr a) (by rw [upd_ne qfl.symm]; exact s10 _ _ hl9) (by rw [tblI_len, List.length_cons, List.length_take]; omega), rfl, ?_⟩
      have lkeep : (ys.take j).length = j := by rw [List.length_take]; omega
      have nin : a ∉ (("" : Str) :: ys.take j) := fun h => (List.mem_cons.mp h).elim anr fresh
      obtain ⟨g, eg⟩ : ∃ g : Str → Int, g = fun p => if p = a then z else resid t' n sz p := ⟨_, rfl⟩
      rw [tblI_congr (l := "" :: ys.take j) (g' := g) (fun b hb => by rw [eg]; exact (if_neg fun e => nin (by rw [← e]; exact hb)).symm), tblI_snoc (g := g) nin (by rw [eg]; exact (if_pos rfl).symm), List.cons_append, ← take_more hja]
      obtain ⟨H11, e11⟩ : ∃ X, X = upd (upd H10 qf (.dK (tblI (ys.take (j + 1)) fun x => if x = a then z else sz x))) ql (.dK (tblI ("" :: ys.take (j + 1)) g)) := ⟨_, rfl⟩
      have hq11 : H11 q = some (.dK (prs t)) := by rw [e11, upd_ne qql, upd_ne qqf]; exact s10 _ _ hq9
      have hl11 : H11 ql = some (.dK (tblI ("" :: ys.take (j + 1)) g)) := by rw [e11]; exact upd_same
      have mpl' : pa ∈ (("" : Str) :: ys.take (j + 1)) := by rw [take_more hja]; exact (List.mem_cons.mp mpl).elim (fun e => e ▸ List.mem_cons_self ..) fun m => List.mem_cons_of_mem _ (List.mem_append_left _ m)
      rw [← e11]
      refine ⟨_, rfl, _, rfl, _, _, rfl, rfl, _, rfl, _, rfl, _, rfl, q, .str pa, rfl, dgp hq11, ql, _, rfl, DPut.k (k := Sum.inr pa) hl11 (by rw [tblI_len, List.length_cons, List.length_take]; omega), ?_⟩
      rw [tblI_put mpl']
      refine ⟨⟨_, _, _, rfl⟩, ?_, ?_, fun b u b1 b2 eb nt => ?_, ?_, ?_, t' ++ [(a, pa)], (fun x => if x = a then z else sz x), by rw [take_more hja]; exact dl', ?_, ?_⟩
      · rw [e11]
        exact (((d9.mono s10).off qfd.1 qfd.2).off qld.1 qld.2).off qld.1 qld.2
      · refine tabs_put (u := .dK (tblI ("" :: ys.take (j + 1)) g)) ?_ hl11 NTab.dK
        rw [e11]
        exact tabs_put (tabs_put (t9.ext s10) (s10 _ _ hf9) NTab.dK) (by rw [upd_ne qfl.symm]; exact s10 _ _ hl9) NTab.dK
      · have n1 : b ≠ qf := ne_of_none eb nqf
        have n2 : b ≠ ql := ne_of_none eb nql0
        rw [upd_ne n2, e11, upd_ne n2, upd_ne n1]
        exact s10 _ _ (kn9 b u b1 b2 eb nt)
      · rw [upd_ne ppl, e11, upd_ne ppl, upd_ne ppf]
        exact s10 _ _ hp9
      · rw [upd_ne qql]
        exact hq11
      · rw [upd_ne qfl, e11, upd_ne qfl, upd_same]
      · rw [upd_same]
        congr 2
        refine tblI_congr fun b hb => ?_
        rw [take_more hja] at hb
        rw [req b hb, eg, em]
    · intro σ' H7 ⟨⟨u5, u6, u7, e⟩, da, ta', ka, apa, aqa, t', sz, dl, hfa, hla⟩
      subst e
      rw [List.length_map, List.take_length] at dl hfa
      have fe : Fea t n sz := by
        have pt : t'.Perm t := perm_pairs o.nd (by rw [dl.keys]; exact pm) dl.sub
        exact Fea.perm pt ⟨fun a ha => dl.nn a (by rw [← dl.keys]; exact ha), fun p hp => dl.res p (by rw [← dl.keys]; exact hp)⟩
      refine ⟨_, rfl, _, rfl, d, c, q, t.map Prod.fst, rfl, da, .inr ⟨prs t, .inl aqa, prs_keys t⟩, by rw [List.length_map]; omega, fun z hz => strOk_name (o.nm z hz), fun r zs H8 pz nr er d8 k8 => ⟨r, rfl, ⟨_, SqL.of er⟩, fun D nD => ?_⟩⟩
      have hf8 := k8 _ _ qfd.1 qfd.2 hfa
      have lz := pz.length_eq
      rw [List.length_map] at lz
      refine lc_it walk_list (fun i H' => Same H8 H' ∧ ∃ rs : List Addr, H' D = some (.lst (rs.map V.ref)) ∧ PrG (fun a => .int (sz a)) H' rs (zs.take i)) ⟨same_new nD, [], upd_same, .nil⟩ (fun i H' _ z => SqL.of (z.1 _ _ er)) ?_ ?_
      · intro i y Ha Hb hi ⟨q1, rs, hD, pr⟩ ⟨eb, ex⟩
        subst eb
        obtain ⟨a, ha, rfl⟩ := map_of ex
        have ma : a ∈ ys := pm.mem_iff.mpr (pz.mem_iff.mp (List.mem_of_getElem? ha))
        have lr := pr.len
        rw [List.length_take] at lr
        refine ⟨rfl, ?_⟩
        refine ⟨_, rfl, _, rfl, _, rfl, qf, .int (sz a), rfl, ?_, by show 2 ≤ sizeLine; omega, fun tq ntq => ?_⟩
        · have z := DGet.k (k := Sum.inr a) (q1 _ _ hf8)
          rw [tblI_val ma] at z
          exact z
        · have sq : Same Hb (upd Hb tq (.tup [.str a, .int (sz a)])) := same_new ntq
          refine ⟨_, sq _ _ hD, by rw [List.length_map]; omega, (q1.trans sq).put nD, rs ++ [tq], by rw [upd_same, List.map_append] <;> rfl, ?_⟩
          rw [take_more ha]
          exact PrG.push (sq _ _ hD) (PrG.snoc upd_same (pr.mono sq))
      · intro H9 ⟨q1, rs, hD, pr⟩
        rw [List.length_map, List.take_length] at pr
        refine ⟨D, rs, _, rfl, SqL.of hD, pr.kvs, fun p np => ?_⟩
        have ndz : zs.Nodup := pz.nodup_iff.mpr o.nd
        rw [merge_nd (by rw [map_fst]; exact ndz)]
        have K9 : Keep d c H7 H9 := k8.trans (Keep.of_same q1)
        have d9 := d8.mono q1
        have pd := d9.apart np
        have t9 : Tabs T H9 := tabs_keep ta' da K9
        have np7 := K9.free np pd.1 pd.2
        have npH : ∀ b o, H b = some o → (∀ ps, o ≠ .tbl ps) → b ≠ p := fun b u e nt z => by
          subst z
          rw [ka b u pd.1 pd.2 e nt] at np7
          cases np7
        exact k p zs sz _ pz fe npH upd_same (d9.mono (same_new np)) (tabs_new t9 np) (ka.trans (K9.trans (Keep.of_same (same_new np))).n)
end
end FT


/-! Own: calls with keywords alone, two or four of them turned; pairs of a text and an int as data. -/
namespace FT
open PySem L2 TL ClX
def tCallK0 (m : Nat) (sp : Sp) (gV : List V → List V → List V) (E : XK) (tk : TA) : TE := fun σ H Q => tk σ H fun zs H1 => zs.length = m ∧ sp (gV [] zs) H1 Q E
/-- f(k = v, ..), no value by place -/
theorem pe_callK0 {X : Cx} {CX : CXT} {k : Nat} {f : Addr} {fd : FuncData} {ps ks : List Str} {sp : Sp} {E : XK} {x : Str} {p pos : Pos} {kw : Keyword} {kws : List Keyword} {tk : TA} {g : List Value → List Value → List Value} {gV : List V → List V → List V}
    (F : FnOk X.prog X.w X.K X.mg X.base CX k f fd ps sp) (hr : Room k X.A) (hg : Gl X x) (hm : X.mg x = some (.ref f)) (hk : PySem.W.keepIn X.K (.ref f) = true) (hb : KBn X.K fd ps 0 ks g gV) (hx : Passes CX X E)
    (hkw : PK X (kw :: kws) tk) (hall : (backToKw pos (keywordEach (kw :: kws) X.env)).all (·.1.isSome) = true := by rfl) (hks : (backToKw pos (keywordEach (kw :: kws) X.env)).filterMap (·.1) = ks := by rfl)
    (hdb : (x == ("__debug__" : Str)) = false := by decide) (hpl : ((backTo pos (starEach [] X.env)).any (·.1) || (backToKw pos (keywordEach (kw :: kws) X.env)).any (·.1.isNone)) = false := by rfl) : PE X (.Call (.Name x p) [] (kw :: kws) pos) (tCallK0 ks.length sp gV E tk) := by
  refine ⟨fun pins s σ H Q I h => ?_⟩
  refine wpAny_Call_Name_kw (ld_glob I hg hm ?_ hdb)
  refine PySem.W.callWith_KW0 (h₀ := X.base) I.ok.mod.kin hk hall ?_ hpl
  refine thn (hkw.run pos pins s σ H _ I h) fun ws s2 ⟨zs, H2, J, rz, l2, want⟩ => ⟨J.kIn, ?_⟩
  rw [hks]
  exact run_fnN (us := []) (vs := []) F hr hb hx J .nil rz rfl l2 want
/-- four values, turned -/
def turn4 {α : Type} : List α → List α
  | [a, b, c, d] => [d, c, b, a]
  | l => l
end FT


namespace FT
open PySem L2 TL ClX LiI
/-- the pair of a text and its number -/
def pairZ (g : Str → Int) (a : Str) : PyData := .tuple [.str a, .int (g a)]
theorem pairZ_lay {g : Str → Int} : ∀ {fl : List Str}, (∀ a ∈ fl, PyData.strOk a = true) → PyData.canLayAll0 (fl.map (pairZ g)) = true ∧ PyData.depthAll (fl.map (pairZ g)) ≤ 1
  | [], _ => ⟨rfl, Nat.zero_le _⟩
  | a :: fl, h => by
    obtain ⟨h1, h2⟩ := pairZ_lay (g := g) (fl := fl) fun b hb => h b (List.mem_cons_of_mem _ hb)
    have ok := h a (List.mem_cons_self ..)
    constructor
    · show ((PyData.strOk a && (true && true)) && PyData.canLayAll0 (fl.map (pairZ g))) = true
      rw [ok, h1] <;> rfl
    · show max (max 0 (max 0 0) + 1) (PyData.depthAll (fl.map (pairZ g))) ≤ 1
      omega
theorem pairZ_shaped {g : Str → Int} {fl : List Str} (h : ∀ a ∈ fl, PyData.strOk a = true) : (PyData.list (fl.map (pairZ g))).canLay0 = true ∧ SeqAt.shaped (.list (fl.map (pairZ g))) = true := by
  obtain ⟨h1, h2⟩ := pairZ_lay (g := g) h
  have c : (PyData.list (fl.map (pairZ g))).canLay0 = true := h1
  refine ⟨c, ?_⟩
  unfold SeqAt.shaped
  rw [c]
  have d : (PyData.list (fl.map (pairZ g))).depth ≤ 64 := by
    show PyData.depthAll (fl.map (pairZ g)) + 1 ≤ 64
    omega
  rw [decide_eq_true d] <;> rfl
theorem tblI_items {K : PySem.W.Frag} {H : Hp} {g : Str → Int} : ∀ {fl : List Str} {rs : List Addr}, Paired (fun (t : Addr) (q : Key × V) => H t = some (.tup [kV q.1, q.2])) rs (tblI fl g) → DpAll K H (rs.map V.ref) (fl.map (pairZ g))
  | [], [], _ => .nil
  | a :: fl, r :: rs, .cons h t => .cons (.tup (.inl (.inl h)) (.cons (.str a) (.cons (.int _) .nil))) (tblI_items t)
end FT


/-! three keywords, turned -/
namespace FT
open PySem L2 TL ClX
def turn3 {α : Type} : List α → List α
  | [a, b, c] => [c, b, a]
  | l => l
theorem turn3_rel {vs : List V} {us : List Value} (r : Vals vs us) : Vals (turn3 vs) (turn3 us) := by
  match vs, us, r with
  | [], _, .nil => exact .nil
  | [_], _, .cons a .nil => exact .cons a .nil
  | [_, _], _, .cons a (.cons b .nil) => exact .cons a (.cons b .nil)
  | [_, _, _], _, .cons a (.cons b (.cons c .nil)) => exact .cons c (.cons b (.cons a .nil))
  | _ :: _ :: _ :: _ :: _, _, .cons a (.cons b (.cons c (.cons d r))) => exact .cons a (.cons b (.cons c (.cons d r)))
abbrev tn3 (α : Type) : List α → List α → List α := fun _ ws => turn3 ws
theorem kw3 {K : PySem.W.Frag} {x qual a b c : Str} {st : Stmt} {f : Addr} {fd : FuncData} {ps : List Str} (F : L2.Fun K x qual st f fd)
    (h : ∀ (kV doc pm : Value) (an : Option Addr) (cdv ct u v y : Value), bindArgs (PySem.W.fnOf x qual (defArgs st) (defBody st) (defScope st) .none kV doc pm an cdv ct) ⟨[], [(a, u), (b, v), (c, y)]⟩ = pure (ps.zip [y, v, u])) :
    KBn K fd ps 0 [a, b, c] (tn3 Value) (tn3 V) := by
  obtain ⟨oc, od, kV, doc, pm, an, cdv, ct, osl, rfl, lk, hcd⟩ := F.ex
  refine ⟨fun s us ws _ h1 h2 => ?_, fun _ r => turn3_rel r⟩
  match us, ws, h1, h2 with
  | [], [u, v, y], _, _ => exact .of_eq (h kV doc pm an cdv ct u v y)
end FT


/-! the law of k03 -/
namespace FT
open PySem L2 TL ClX LamX NdefX LiI
/-! ### keywords: users, sizes, forest -/
def rot3 {α : Type} : List α → List α
  | [a, b, c] => [c, a, b]
  | l => l
theorem rot3_rel {vs : List V} {us : List Value} (r : Vals vs us) : Vals (rot3 vs) (rot3 us) := by
  match vs, us, r with
  | [], _, .nil => exact .nil
  | [_], _, .cons a .nil => exact .cons a .nil
  | [_, _], _, .cons a (.cons b .nil) => exact .cons a (.cons b .nil)
  | [_, _, _], _, .cons a (.cons b (.cons c .nil)) => exact .cons c (.cons a (.cons b .nil))
  | _ :: _ :: _ :: _ :: _, _, .cons a (.cons b (.cons c (.cons d r))) => exact .cons a (.cons b (.cons c (.cons d r)))
abbrev rn3 (α : Type) : List α → List α → List α := fun _ ws => rot3 ws
theorem kwR3 {K : PySem.W.Frag} {x qual a b c : Str} {st : Stmt} {f : Addr} {fd : FuncData} {ps : List Str} (F : L2.Fun K x qual st f fd)
    (h : ∀ (kV doc pm : Value) (an : Option Addr) (cdv ct u v y : Value), bindArgs (PySem.W.fnOf x qual (defArgs st) (defBody st) (defScope st) .none kV doc pm an cdv ct) ⟨[], [(a, u), (b, v), (c, y)]⟩ = pure (ps.zip [y, u, v])) :
    KBn K fd ps 0 [a, b, c] (rn3 Value) (rn3 V) := by
  obtain ⟨oc, od, kV, doc, pm, an, cdv, ct, osl, rfl, lk, hcd⟩ := F.ex
  refine ⟨fun s us ws _ h1 h2 => ?_, fun _ r => rot3_rel r⟩
  match us, ws, h1, h2 with
  | [], [u, v, y], _, _ => exact .of_eq (h kV doc pm an cdv ct u v y)
structure Ge (K : PySem.W.Frag) (mg : Str → Option Value) (x : Str) (st : Stmt) (f : Addr) (fd : FuncData) : Prop where
  fn : Fun K x x st f fd
  bn : Binds K fd ["_law_work"] []
  mgn : mg x = some (.ref f)
/-! ### what stands -/
/-- what is due, and the word of it -/
def DueV (H : Hp) (dv wv : V) : Option V → Prop
  | none => dv = .non ∧ wv = .non
  | some v => ∃ p1 p2, dv = .ref p1 ∧ H p1 = some (.tup [v]) ∧ wv = .ref p2 ∧ H p2 = some (.tup [.str "sizes", v])
theorem DueV.is {H : Hp} {dv wv : V} {r : Option V} (h : DueV H dv wv r) : decide (dv = .non) = r.isNone := by
  cases r with
  | none => rw [h.1] <;> rfl
  | some v => obtain ⟨p1, p2, e, _⟩ := h; rw [e] <;> rfl
structure S03 (P : Program) (w : World) (K : PySem.W.Frag) (T : List (Addr × Str)) (CF d c q x : Addr) (t ts : List (Str × Str)) (sv : V) (so : Option (List (Key × V))) (dv wv : V) (r : Option V) (H : Hp) : Prop where
  dr : DrawAt H d c
  tb : Tabs T H
  fa : FAt CF H x ts
  hq : H q = some (.dK (prs t))
  it : ItM 20 P w K H sv so
  du : DueV H dv wv r
theorem ItM.keepN {m : Nat} {P : Program} {w : World} {K : PySem.W.Frag} {H H' : Hp} {d c : Addr} {sv : V} {o : Option (List (Key × V))} (dr : DrawAt H d c) (dr' : DrawAt H' d c) (k : KeepN d c H H') (h : ItM m P w K H sv o) : ItM m P w K H' sv o := by
  have kd : ∀ {v : V}, IsDat K H v → IsDat K H' v := fun ⟨T, x⟩ => ⟨T, x.keepN dr dr' k⟩
  cases o with
  | some kvs =>
    obtain ⟨q, e, hq, dt, r⟩ := h
    exact ⟨q, e, k.dk dr hq, fun p hp => kd (dt p hp), r⟩
  | none =>
    rcases h with ⟨T, x, n⟩ | ⟨b, kvs, e, hb, nd, mn, l, dt⟩
    · exact .inl ⟨T, x.keepN dr dr' k, n⟩
    · obtain ⟨a1, a2⟩ := dr.notD hb DN_ne
      exact .inr ⟨b, kvs, e, k _ _ a1 a2 hb (fun ps z => by unfold DN at z; cases z), nd, mn, l, fun p hp => kd (dt p hp)⟩
theorem tup_keepN {H H' : Hp} {d c p : Addr} {xs : List V} (dr : DrawAt H d c) (k : KeepN d c H H') (h : H p = some (.tup xs)) : H' p = some (.tup xs) := let ⟨a1, a2⟩ := dr.notD h (fun xs z => nomatch z); k _ _ a1 a2 h (fun ps z => nomatch z)
theorem DueV.keepN {H H' : Hp} {d c : Addr} {dv wv : V} {r : Option V} (dr : DrawAt H d c) (k : KeepN d c H H') (h : DueV H dv wv r) : DueV H' dv wv r := by
  cases r with
  | none => exact h
  | some v => exact let ⟨p1, p2, e1, h1, e2, h2⟩ := h; ⟨p1, p2, e1, tup_keepN dr k h1, e2, tup_keepN dr k h2⟩
section
variable {P : Program} {w : World} {K : PySem.W.Frag} {T : List (Addr × Str)} {CF d c q x : Addr} {t ts : List (Str × Str)} {sv : V} {so : Option (List (Key × V))} {dv wv : V} {r : Option V} {H H' : Hp}
theorem S03.keepN (h : S03 P w K T CF d c q x t ts sv so dv wv r H) (dr : DrawAt H' d c) (tb : Tabs T H') (k : KeepN d c H H') : S03 P w K T CF d c q x t ts sv so dv wv r H' :=
  ⟨dr, tb, h.fa.keepN h.dr k, k.dk h.dr h.hq, h.it.keepN h.dr dr k, h.du.keepN h.dr k⟩
theorem S03.ext (h : S03 P w K T CF d c q x t ts sv so dv wv r H) (e : ExtN H H') (tb : Tabs T H') : S03 P w K T CF d c q x t ts sv so dv wv r H' := h.keepN (h.dr.ext e) tb (KeepN.of_ext e)
theorem S03.same (h : S03 P w K T CF d c q x t ts sv so dv wv r H) (s : Same H H') : S03 P w K T CF d c q x t ts sv so dv wv r H' := h.keepN (h.dr.mono s) (h.tb.ext s) (Keep.of_same s).n
theorem S03.keep (h : S03 P w K T CF d c q x t ts sv so dv wv r H) (dr : DrawAt H' d c) (k : Keep d c H H') : S03 P w K T CF d c q x t ts sv so dv wv r H' := h.keepN dr (tabs_keep h.tb h.dr k) k.n
end
/-- a place that is told, and how it is shown -/
theorem feas_pl {ts : List (Str × Str)} (ot : TreeOk ts) {n : Int} {o : Option (List (Key × V))} {v : V} (h : feas ts n o = some v) : v = .non ∨ ∃ z, v = .str z ∧ (NameL z ∨ z = "") := by
  cases o with
  | none => exact .inl (Option.some.inj h).symm
  | some kvs =>
    rw [feas_some] at h
    split at h
    · exact .inl (Option.some.inj h).symm
    · split at h
      · exact .inl (Option.some.inj h).symm
      · split at h
        · rename_i a ha
          exact .inr ⟨a, (Option.some.inj h).symm, .inl (ot.nm a (List.mem_of_find?_eq_some ha))⟩
        · obtain ⟨a, ha, e⟩ := Option.map_eq_some_iff.mp h
          exact .inr ⟨a, e.symm, (List.mem_cons.mp (List.mem_of_find?_eq_some ha)).elim .inr fun m => .inl (ot.nm a m)⟩
theorem str_leafW {z : Str} (h : NameL z ∨ z = "") : PyData.leavesShort 8 (.str z) = true := by
  show (z.cps.toList.all fun c => decide (c < 16 ^ 8)) = true
  rw [List.all_eq_true]
  intro c hc
  rcases h with h | rfl
  · have := h.1 c hc
    exact decide_eq_true (by omega)
  · cases hc
/-- the data of the word -/
theorem word_data {v : V} (h : v = .non ∨ ∃ z, v = .str z ∧ (NameL z ∨ z = "")) : ∃ dv : PyData, (∀ K H, Dp K H v dv) ∧ (PyData.tuple [.str "sizes", dv]).hasDict = false ∧ (PyData.tuple [.str "sizes", dv]).showable = true ∧ (PyData.tuple [.str "sizes", dv]).depth ≤ 60 ∧ (PyData.tuple [.str "sizes", dv]).shown.length ≤ sizeLine := by
  rcases h with rfl | ⟨z, rfl, hz⟩
  · exact ⟨.none, fun K H => .non, rfl, by decide +kernel, by decide, by decide +kernel⟩
  · refine ⟨.str z, fun K H => .str z, rfl, by show (PyData.showable (.str "sizes") && (true && true)) = true; decide +kernel, by show 1 ≤ 60; omega, PyData.shown_fits_bulk (B := 8) (by decide) (by decide) ?_ ?_⟩
    · show (PyData.leavesShort 8 (.str "sizes") && (PyData.leavesShort 8 (.str z) && true)) = true
      rw [str_leafW hz, show PyData.leavesShort 8 (.str "sizes") = true by decide +kernel] <;> rfl
    · show PyData.bulk (.str "sizes") + 1 + (z.cps.size + 1 + 0) ≤ 2 ^ 20
      have e : PyData.bulk (.str "sizes") = 5 := by decide +kernel
      have : z.cps.size = z.length := rfl
      have l : z.length ≤ 8 := by
        rcases hz with hz | rfl
        · exact hz.len.2
        · decide
      omega
/-! ### the checks' readings -/
/-- what a call under the lambda must answer -/
def Ans (CS : Addr) (H : Hp) (E : XK) (Q : VK) : Option V → Prop
  | none => ∀ v H', Same H H' → Q v H'
  | some v => Out H E (.e1 CS "place" v)
theorem chk_word {P : Program} {w : World} {K : PySem.W.Frag} {T : List (Addr × Str)} {CF CS d c q x : Addr} {t ts : List (Str × Str)} {sv : V} {so : Option (List (Key × V))} {dv wv : V} {r : Option V} {H1 : Hp} {C : Nat → Addr} {σ : St} {tt : XK → TE} {tr : TS} {D : Ends} {i : Nat} (e1 : C 1 = CS) (hi : σ[i]? = some (some wv)) (S : S03 P w K T CF d c q x t ts sv so dv wv r H1)
    (pl : ∀ v, r = some v → v = .non ∨ ∃ z, v = .str z ∧ (NameL z ∨ z = "")) (call : ∀ H2, S03 P w K T CF d c q x t ts sv so dv wv r H2 → ∀ (E : XK) (Q' : VK), Ans CS H2 E Q' r → tt E σ H2 Q') (k : ∀ H3, S03 P w K T CF d c q x t ts sv so dv wv r H3 → D.nx σ H3) :
    tIfS (tTest (tOp rNe (tCB (rRepr K) (tCons (tLam T (TWord C) tt) tNil)) (tCB (rRepr K) (tCons (tVar i) tNil)))) tr tNext D σ H1 := by
  refine ⟨S.tb, fun H2 e2 t2 => ?_⟩
  have S2 := S.ext e2 t2
  refine call H2 S2 _ _ ?_
  cases r with
  | none =>
    obtain ⟨_, rfl⟩ := S.du
    intro v H3 s3 H4 s4
    refine ⟨.non, .none, rfl, .inl ⟨.non, rfl⟩, rfl, by decide, by decide +kernel, _, hi, .non, .none, rfl, .inl ⟨.non, rfl⟩, rfl, by decide, by decide +kernel, rfl, _, rfl, ?_⟩
    rw [decide_eq_true rfl]
    exact iteF (k _ ((S2.same s3).same s4))
  | some v =>
    obtain ⟨p1, p2, rfl, h1, rfl, h2⟩ := S2.du
    obtain ⟨da, dp, nd, ok, dep, few⟩ := word_data (pl v rfl)
    intro dd H3 s3 nd3 hd3
    refine ⟨1, v, by decide, by rw [e1], ⟨dd, rfl, hd3⟩, fun p H4 s4 np hp => ?_⟩
    have sh : ∀ {b : Addr}, H4 b = some (.tup [.str "sizes", v]) → Shw K H4 (.ref b) (.tuple [.str "sizes", da]) := fun hb => .inl ⟨.tup (SqT.of hb) (.cons (.str _) (.cons (dp _ _) .nil)), nd⟩
    refine ⟨.ref p, _, rfl, sh hp, ok, dep, few, _, hi, .ref p2, _, rfl, sh (s4 _ _ (s3 _ _ h2)), ok, dep, few, rfl, _, rfl, ?_⟩
    rw [decide_eq_true rfl]
    exact iteF (k _ ((S2.same s3).same s4))
theorem chk_users {K : PySem.W.Frag} {T : List (Addr × Str)} {CU : Addr} {H1 : Hp} {C : Nat → Addr} {σ : St} {tt : XK → TE} {tr : TS} {D : Ends} (e0 : C 0 = CU) (G : Hp → Prop) (g1 : G H1) (gt : ∀ H, G H → Tabs T H) (ge : ∀ H H', G H → ExtN H H' → Tabs T H' → G H')
    (call : ∀ H2, G H2 → ∀ (E : XK) (Q' : VK), Out H2 E (.e0 CU) → tt E σ H2 Q') (k : ∀ H3, G H3 → D.nx σ H3) :
    tIfS (tTest (tOp (rNeD K) (tLam T (TWord C) tt) (tTup (tCons (tC (.str "users")) (tCons (tC .non) tNil))))) tr tNext D σ H1 := by
  have big : 1000 ≤ sizeLine := by decide
  refine ⟨gt _ g1, fun H2 e2 t2 => ?_⟩
  have g2 := ge _ _ g1 e2 t2
  refine call H2 g2 _ _ ?_
  intro H3 s3
  refine ⟨0, .non, by decide, by rw [e0], ⟨rfl, .inl rfl⟩, fun p H4 s4 np hp => ⟨by show 2 ≤ sizeLine; omega, fun p' np' => ?_⟩⟩
  have s5 := same_new (o := .tup [.str "users", .non]) np'
  have sh : SeqAt.shaped (.tuple [.str "users", .none]) = true := by decide +kernel
  refine ⟨.tuple [.str "users", .none], .tuple [.str "users", .none], .tup (SqT.of (s5 _ _ hp)) (.cons (.str _) (.cons .non .nil)), .tup (SqT.of upd_same) (.cons (.str _) (.cons .non .nil)), sh, sh, _, rfl, ?_⟩
  rw [SeqAt.eqv_refl _ (SeqAt.canLay_of_shaped sh)]
  have e := ExtN.of ((s3.trans s4).trans s5)
  exact iteF (k _ (ge _ _ g2 e ((gt _ g2).ext ((s3.trans s4).trans s5))))
theorem tell_of {H : Hp} {Q : VK} {r : Option V} (h : ∀ dv H', Same H H' → (match r with | none => dv = .non | some v => ∃ p, dv = .ref p ∧ H' p = some (.tup [v])) → Q dv H') : TellT H Q r := by
  cases r with
  | none => exact fun H' s => h _ H' s rfl
  | some v => exact fun p H' s np hp => h _ H' s ⟨p, rfl, hp⟩
theorem word_of {K : PySem.W.Frag} {σ : St} {H : Hp} {dv : V} {r : Option V} {Q : VK} {i : Nat} (hi : σ[i]? = some (some dv)) (hd : match r with | none => dv = .non | some v => ∃ p, dv = .ref p ∧ H p = some (.tup [v])) (k : ∀ wv H', Same H H' → DueV H' dv wv r → Q wv H') :
    tIf (tTest (tOp (fun x y H Q => y = .non ∧ Q (.bl (decide (x = .non))) H) (tVar i) (tC .non))) (tC .non) (tTup (tCons (tC (.str "sizes")) (tCons (tOp (rIxT K) (tVar i) (tC (.int 0))) tNil))) σ H Q := by
  have big : 1000 ≤ sizeLine := by decide
  refine ⟨_, hi, rfl, _, rfl, ?_⟩
  cases r with
  | none =>
    have hd : dv = .non := hd
    subst hd
    exact iteT (k .non H Same.refl ⟨rfl, rfl⟩)
  | some v =>
    obtain ⟨p, rfl, hp⟩ := hd
    refine iteF ⟨_, hi, p, _, 0, v, rfl, rfl, SqT.of hp, rfl, by show 2 ≤ sizeLine; omega, fun p2 np2 => ?_⟩
    have s := same_new (o := .tup [.str "sizes", v]) np2
    exact k (.ref p2) _ s ⟨p, p2, rfl, s _ _ hp, rfl, upd_same⟩
theorem ans_res {CU CS : Addr} {H : Hp} {E : XK} {Q : VK} {ts : List (Str × Str)} {n : Int} {so : Option (List (Key × V))} (u : usersOk (.int n) (10 ^ 30) = true) (h : Ans CS H E Q (feas ts n so)) : Res H Q E (szE CU CS ts (.int n) so) := by
  unfold szE feE
  rw [if_pos u]
  show Res H Q E (Option.map _ (feas ts n so))
  cases e : feas ts n so with
  | none => rw [e] at h; exact fun H' s => h _ _ s
  | some v => rw [e] at h; exact h
theorem ans_resN {CU CS : Addr} {H : Hp} {E : XK} {Q : VK} {ts : List (Str × Str)} {n : Int} {so : Option (List (Key × V))} (u : usersOk (.int n) (10 ^ 30) = true) (h : Ans CS H E Q (feas ts n so)) :
    match szE CU CS ts (.int n) so with
    | none => ∃ (n' : Int) (kvs : List (Key × V)), V.int n = .int n' ∧ so = some kvs ∧ ∀ p H', Same H H' → H p = none → H' p = some (.dK (tblI ("" :: ts.map Prod.fst) (resid ts n' (szOf kvs)))) → Q (.ref p) H'
    | some e => Out H E e := by
  have ez : szE CU CS ts (.int n) so = (feas ts n so).map fun v => .e1 CS "place" v := by
    unfold szE feE
    rw [if_pos u]
  rw [ez]
  cases e : feas ts n so with
  | none =>
    rw [e] at h
    cases so with
    | none => cases e
    | some kvs => exact ⟨n, kvs, rfl, rfl, fun p H' s _ _ => h _ _ s⟩
  | some v => rw [e] at h; exact h
theorem szE_bad {CU CS : Addr} {ts : List (Str × Str)} {uv : V} {so : Option (List (Key × V))} (u : usersOk uv (10 ^ 30) = false) : szE CU CS ts uv so = some (.e0 CU) := by
  unfold szE
  rw [u, if_neg (by decide)]
theorem chk_if {P : Program} {w : World} {K : PySem.W.Frag} {T : List (Addr × Str)} {CF d c q x : Addr} {t ts : List (Str × Str)} {sv : V} {so : Option (List (Key × V))} {dv wv : V} {r : Option V} {H1 : Hp} {σ : St} {tb : TS} {D : Ends} {i : Nat} (G : St → Hp → Prop) (hi : σ[i]? = some (some dv)) (S : S03 P w K T CF d c q x t ts sv so dv wv r H1)
    (hb : r = none → ∀ D' : Ends, (∀ σ' H', G σ' H' → D'.nx σ' H') → tb D' σ H1) (g : G σ H1) (k : ∀ σ' H', G σ' H' → D.nx σ' H') : tIfS (tTest (tOp (fun x y H Q => y = .non ∧ Q (.bl (decide (x = .non))) H) (tVar i) (tC .non))) tb tNext D σ H1 := by
  refine ⟨_, hi, rfl, _, rfl, ?_⟩
  rw [S.du.is]
  cases r with
  | none => exact iteT (hb rfl D k)
  | some v => exact iteF (k _ _ g)
theorem one_tree : TreeOk [("a", "")] := ⟨by decide, by decide, by decide +kernel, by decide +kernel, fun _ => 0, fun q hq => by
  rw [List.mem_singleton.mp hq]
  exact ⟨Nat.zero_lt_one, .inl rfl⟩⟩
theorem one_fea : Fea [("a", "")] (10 ^ 30) (fun _ => 10 ^ 30) := ⟨fun a _ => by decide, fun p hp => by
  have hp : p ∈ (["", "a"] : List Str) := hp
  simp only [List.mem_cons, List.not_mem_nil, or_false] at hp
  rcases hp with rfl | rfl
  · decide +kernel
  · decide +kernel⟩
theorem bool_len (b : Bool) : (PyData.bool b).shown.length ≤ sizeLine := by cases b <;> decide +kernel
structure W03 (P : Program) (w : World) (K : PySem.W.Frag) (mg : Str → Option Value) (base : Heap) (CF CU CS : Addr) (mc : Value) (T : List (Addr × Str)) (f : Nat → Addr) (fd : Nat → FuncData) : Prop where
  Z : Fc K mg CF mc
  bg : Dn P w K mg base CX0 1 "_law_begin" ["_law_script"] (spBegin K) (f 0) (fd 0)
  dt : Dn P w K mg base CX0 1 "_law_take" ["_law_draw", "_law_size"] spDraw (f 1) (fd 1)
  dp : Dn P w K mg base CX0 2 "_law_pick" ["_law_draw", "_law_some"] (spPick K) (f 2) (fd 2)
  pa : Dn P w K mg base CX0 4 "_law_parents" ["_law_draw", "_law_many"] spParents (f 3) (fd 3)
  fi : FnOk P w K mg base CX0 3 (f 4) (fd 4) ["self", "parents"] (spFInit CF)
  fim : Mk K CF (f 4)
  fib : Binds K (fd 4) ["self", "parents"] []
  sz : Dn P w K mg base CX0 5 "_law_sizes" ["_law_draw", "_law_above", "_law_many"] (spSizes T) (f 5) (fd 5)
  be : Dn P w K mg base CX0 3 "_law_bent" ["_law_draw", "_law_above", "_law_item"] (spBentN P w K) (f 6) (fd 6)
  du : Dn P w K mg base CX0 2 "_law_due" ["_law_above", "_law_many", "_law_item"] (spDueN P w K) (f 7) (fd 7)
  lr : Dn P w K mg base CX0 1 "_law_residents" ["_law_above", "_law_many", "_law_how"] spLawRes (f 8) (fd 8)
  ns : Dn P w K mg base (L2.CX P w) 6 "need_sizes" ["forest", "users", "sizes"] (spNSizesN P w K CF CU CS) (f 9) (fd 9)
  nsk : KBn K (fd 9) ["forest", "users", "sizes"] 0 ["sizes", "users", "forest"] (tn3 Value) (tn3 V)
  isf : Dn P w K mg base (L2.CX P w) 6 "is_feasible" ["forest", "users", "sizes"] (spIsFea P w K CF CU) (f 10) (fd 10)
  isk : KBn K (fd 10) ["forest", "users", "sizes"] 0 ["sizes", "users", "forest"] (tn3 Value) (tn3 V)
  rs : Dn P w K mg base (L2.CX P w) 7 "residents" ["forest", "users", "sizes"] (spResN P w K CF CU CS) (f 11) (fd 11)
  rsk : KBn K (fd 11) ["forest", "users", "sizes"] 0 ["users", "sizes", "forest"] (rn3 Value) (rn3 V)
def spLaw03 (K : PySem.W.Frag) (T : List (Addr × Str)) : Sp := fun vs H Q _ => ∃ (a : Addr) (ns : List Int), vs = [.ref a] ∧ SqL K H a (ns.map V.int) ∧ ns.length ≤ 63 ∧ Tabs T H ∧ ∀ H', Q (.bl true) H'
abbrev N03 : List Str := ["_law_script", "_law_draw", "_law_turn", "_law_above", "_law_many", "_law_grove", "_law_item", "_law_change", "_law_due_here", "_law_word_here", "_law_told", "_law_odd"]
section
variable {P : Program} {w : World} {K : PySem.W.Frag} {mg : Str → Option Value} {base : Heap}
theorem sc03 : FnScope N03 ["_law_script"] (defScope s_law) := ⟨rfl, rfl, rfl, by decide +kernel, rfl, by decide +kernel, by decide +kernel⟩
theorem ok_law03 {f0 fWo CF CU CS R co ta : Addr} {mc : Value} {C4 : Nat → Addr} {T : List (Addr × Str)} {f : Nat → Addr} {fd : Nat → FuncData} {fd0 fdWo : FuncData} (F : FunC K "law" "law" s_law f0 fd0 co) (N : Nm mg) (L : W03 P w K mg base CF CU CS mc T f fd)
    (GW : Ge K mg "_law_word" s__law_word fWo fdWo) (C : Cl4 K mg R C4) (e0 : C4 0 = CU) (e1 : C4 1 = CS) (TB : TabB base mg co ta) (hmT : (ta, lamQ "law") ∈ T) (hut : ∀ p ∈ T, p.1 = ta → p.2 = lamQ "law") : FnG P w K mg base CX0 10 f0 fd0 ["_law_script"] (spLaw03 K T) := by
  refine F.okG sc03 (fun vs H Q E h => ?_) (fun A outer s H vs Q E clr hr h => ?_)
  · obtain ⟨a, ns, rfl, _⟩ := h
    rfl
  · obtain ⟨a, ns, rfl, hS, hlen, tT, k⟩ := h
    have hu := hu_of hr
    have hr1 : Room 1 _ := hr.mono (by decide)
    have hr2 : Room 2 _ := hr.mono (by decide)
    have hr3 : Room 3 _ := hr.mono (by decide)
    have hr4 : Room 4 _ := hr.mono (by decide)
    have hr5 : Room 5 _ := hr.mono (by decide)
    have hr6 : Room 6 _ := hr.mono (by decide)
    have hr7 : Room 7 _ := hr.mono (by decide)
    have nd := sc03.nd
    have big : 1000 ≤ sizeLine := by decide
    refine ⟨_, pss_cons (ps_set (i := 1) nd rfl (.inl rfl) (pe_call L.bg.ok hr1 rfl L.bg.mgn L.bg.kp L.bg.bn .nil pass0 (pa_cons (pv 0) pa_nil)))
      (pss_cons (ps_for PassesOwn.never rfl (pi_range1 rfl N.rng (pa_cons (pe_op op_add pe_int (pe_callB (call_min2 rfl) (by rfl) N.min (by decide +kernel) (pa_cons (pe_callB call_len_seq (by rfl) N.len PySem.boot_len (pa_cons (pv 0) pa_nil)) (pa_cons pe_int pa_nil)))) pa_nil)) (pg_name (i := 2) nd rfl (.inl rfl))
        (pss_cons (ps_set (i := 3) nd rfl (.inl rfl) (pe_call L.pa.ok hr4 rfl L.pa.mgn L.pa.kp L.pa.bn .nil pass0 (pa_cons (pv 1) (pa_cons (pe_op op_add pe_int (pe_call L.dt.ok hr1 rfl L.dt.mgn L.dt.kp L.dt.bn .nil pass0 (pa_cons (pv 1) (pa_cons pe_int pa_nil)))) pa_nil))))
        (pss_cons (ps_set (i := 4) nd rfl (.inr rfl) (pe_op op_add pe_int (pe_call L.dt.ok hr1 rfl L.dt.mgn L.dt.kp L.dt.bn .nil pass0 (pa_cons (pv 1) (pa_cons (pe_call L.dp.ok hr2 rfl L.dp.mgn L.dp.kp L.dp.bn .nil pass0 (pa_cons (pv 1) (pa_cons (pe_lst (pa_cons pe_int (pa_cons pe_int (pa_cons pe_int (pa_cons (pe_op op_pow pe_int pe_int) (pa_cons (pe_op op_pow pe_int pe_int) pa_nil)))))) pa_nil))) pa_nil)))))
        (pss_cons (ps_asg (pe_tup (pa_cons (pe_make L.fim L.fi hr4 (by rfl) L.Z.gF L.fib .nil pass0 (pa_cons (pv 3) pa_nil)) (pa_cons (pe_call L.sz.ok hr5 rfl L.sz.mgn L.sz.kp L.sz.bn .nil pass0 (pa_cons (pv 1) (pa_cons (pv 3) (pa_cons (pv 4) pa_nil)))) pa_nil)))
          (pg_tup rfl (pgs_cons (pg_name (i := 5) nd rfl (.inr rfl)) (pgs_cons (pg_name (i := 6) nd rfl (.inr rfl)) pgs_nil))))
        (pss_cons (ps_for PassesOwn.never rfl (pi_range1 rfl N.rng (pa_cons (pe_call L.dp.ok hr2 rfl L.dp.mgn L.dp.kp L.dp.bn .nil pass0 (pa_cons (pv 1) (pa_cons (pe_lst (pa_cons pe_int (pa_cons pe_int (pa_cons pe_int (pa_cons pe_int (pa_cons pe_int (pa_cons pe_int pa_nil))))))) pa_nil))) pa_nil)) (pg_name (i := 7) nd rfl (.inl rfl))
          (pss_one (ps_set (i := 6) nd rfl (.inr rfl) (pe_call L.be.ok hr3 rfl L.be.mgn L.be.kp L.be.bn .nil pass0 (pa_cons (pv 1) (pa_cons (pv 3) (pa_cons (pv 6) pa_nil)))))))
        (pss_cons (ps_set (i := 8) nd rfl (.inl rfl) (pe_call L.du.ok hr2 rfl L.du.mgn L.du.kp L.du.bn .nil pass0 (pa_cons (pv 3) (pa_cons (pv 4) (pa_cons (pv 6) pa_nil)))))
        (pss_cons (ps_set (i := 9) nd rfl (.inl rfl) (pe_ifExp (pt_cmpR op_isN (pv 8) pe_non (nomark _)) pe_non (pe_tup (pa_cons pe_str (pa_cons (pe_ix ix_tup (pv 8) pe_int (fun _ _ => rfl)) pa_nil)))))
        (pss_cons (ps_if (pt_cmpR op_ne (pe_callB (call_repr clr.deeper hr.units) (by rfl) N.rep (by decide +kernel) (pa_cons (pe_lamS (T := T) (k := 7) (t := fun E => tCall (spNSizesN P w K CF CU CS) [] E (tCons (tVar 5) (tCons (tVar 4) (tCons (tVar 6) tNil)))) rfl GW.mgn GW.fn GW.bn scWo rfl (.inl rfl) (fun cdg => word_gives N C) TB rfl hmT hut hr (lamS_by (sc := defScope s_law) (by decide +kernel)) rfl (fun _ _ _ _ _ => rfl)
            (fun A outer s H E f c' hr2 => pe_call L.ns.ok (hr2.mono (by decide)) rfl L.ns.mgn L.ns.kp L.ns.bn .nil (passes_call (takes_of rfl rfl rfl rfl) (fun _ _ _ _ h => h)) (pa_cons (pv 5) (pa_cons (pv 4) (pa_cons (pv 6) pa_nil))))) pa_nil)) (pe_callB (call_repr clr.deeper hr.units) (by rfl) N.rep (by decide +kernel) (pa_cons (pv 9) pa_nil)) (nomark _)) (pss_one (ps_ret pe_bl)) pss_nil)
        (pss_cons (ps_if (pt_cmpR op_ne (pe_callB (call_repr clr.deeper hr.units) (by rfl) N.rep (by decide +kernel) (pa_cons (pe_call (E := E0) L.isf.ok hr6 rfl L.isf.mgn L.isf.kp L.isf.bn .nil L2.passL (pa_cons (pv 5) (pa_cons (pv 4) (pa_cons (pv 6) pa_nil)))) pa_nil)) (pe_callB (call_repr clr.deeper hr.units) (by rfl) N.rep (by decide +kernel) (pa_cons (pe_cmpR op_isN (pv 8) pe_non (nomark _)) pa_nil)) (nomark _)) (pss_one (ps_ret pe_bl)) pss_nil)
        (pss_cons (ps_if (pt_cmpR op_ne (pe_callK0 (E := E0) L.isf.ok hr6 rfl L.isf.mgn L.isf.kp L.isk L2.passL (pk_cons (pv 6) (pk_cons (pv 4) (pk_cons (pv 5) pk_nil)))) (pe_cmpR op_isN (pv 8) pe_non (nomark _)) (nomark _)) (pss_one (ps_ret pe_bl)) pss_nil)
        (pss_cons (ps_if (pt_cmpR op_ne (pe_callB (call_repr clr.deeper hr.units) (by rfl) N.rep (by decide +kernel) (pa_cons (pe_lamS (T := T) (k := 7) (t := fun E => tCallK0 (["sizes", "users", "forest"] : List Str).length (spNSizesN P w K CF CU CS) (tn3 V) E (tCons (tVar 6) (tCons (tVar 4) (tCons (tVar 5) tNil)))) rfl GW.mgn GW.fn GW.bn scWo rfl (.inl rfl) (fun cdg => word_gives N C) TB rfl hmT hut hr (lamS_by (sc := defScope s_law) (by decide +kernel)) rfl (fun _ _ _ _ _ => rfl)
            (fun A outer s H E f c' hr2 => pe_callK0 L.ns.ok (hr2.mono (by decide)) rfl L.ns.mgn L.ns.kp L.nsk (passes_call (takes_of rfl rfl rfl rfl) (fun _ _ _ _ h => h)) (pk_cons (pv 6) (pk_cons (pv 4) (pk_cons (pv 5) pk_nil))))) pa_nil)) (pe_callB (call_repr clr.deeper hr.units) (by rfl) N.rep (by decide +kernel) (pa_cons (pv 9) pa_nil)) (nomark _)) (pss_one (ps_ret pe_bl)) pss_nil)
        (pss_cons (ps_if (pt_cmpR op_ne (pe_callB (call_repr clr.deeper hr.units) (by rfl) N.rep (by decide +kernel) (pa_cons (pe_lamS (T := T) (k := 7) (t := fun E => tCallK0 (["users", "sizes", "forest"] : List Str).length (spResN P w K CF CU CS) (rn3 V) E (tCons (tVar 4) (tCons (tVar 6) (tCons (tVar 5) tNil)))) rfl GW.mgn GW.fn GW.bn scWo rfl (.inl rfl) (fun cdg => word_gives N C) TB rfl hmT hut hr (lamS_by (sc := defScope s_law) (by decide +kernel)) rfl (fun _ _ _ _ _ => rfl)
            (fun A outer s H E f c' hr2 => pe_callK0 L.rs.ok hr2 rfl L.rs.mgn L.rs.kp L.rsk (passes_call (takes_of rfl rfl rfl rfl) (fun _ _ _ _ h => h)) (pk_cons (pv 4) (pk_cons (pv 6) (pk_cons (pv 5) pk_nil))))) pa_nil)) (pe_callB (call_repr clr.deeper hr.units) (by rfl) N.rep (by decide +kernel) (pa_cons (pv 9) pa_nil)) (nomark _)) (pss_one (ps_ret pe_bl)) pss_nil)
        (pss_cons (ps_if (pt_cmpR op_isN (pv 8) pe_non (nomark _))
          (pss_cons (ps_set (i := 10) nd rfl (.inl rfl) (pe_call (E := E0) L.rs.ok hr7 rfl L.rs.mgn L.rs.kp L.rs.bn .nil L2.passL (pa_cons (pv 5) (pa_cons (pv 4) (pa_cons (pv 6) pa_nil)))))
          (pss_cons (ps_if (pt_cmpR (op_neD hr.units) (pe_listItems rfl (pv 10) (by rfl) N.lst (by decide +kernel)) (pe_listItems rfl (pe_call L.lr.ok hr1 rfl L.lr.mgn L.lr.kp L.lr.bn .nil pass0 (pa_cons (pv 3) (pa_cons (pv 4) (pa_cons (pv 6) pa_nil)))) (by rfl) N.lst (by decide +kernel)) (nomark _)) (pss_one (ps_ret pe_bl)) pss_nil)
          (pss_one (ps_expr (pe_dclear (pv 10)))))) pss_nil)
        (pss_cons (ps_set (i := 11) nd rfl (.inr rfl) (pe_call L.dp.ok hr2 rfl L.dp.mgn L.dp.kp L.dp.bn .nil pass0 (pa_cons (pv 1) (pa_cons (pe_lst (pa_cons pe_int (pa_cons (pe_un un_neg pe_int) (pa_cons (pe_op op_add (pe_op op_pow pe_int pe_int) pe_int) (pa_cons pe_bl (pa_cons pe_non (pa_cons pe_str (pa_cons (pe_tup (pa_cons pe_int pa_nil)) (pa_cons (pe_lst pa_nil) (pa_cons pe_dnewK pa_nil)))))))))) pa_nil))))
        (pss_cons (ps_if (pt_cmpR (op_neD hr.units) (pe_lamS (T := T) (k := 7) (t := fun E => tCall (spNSizesN P w K CF CU CS) [] E (tCons (tVar 5) (tCons (tVar 11) (tCons (tC .non) tNil)))) rfl GW.mgn GW.fn GW.bn scWo rfl (.inl rfl) (fun cdg => word_gives N C) TB rfl hmT hut hr (lamS_by (sc := defScope s_law) (by decide +kernel)) rfl (fun _ _ _ _ _ => rfl)
            (fun A outer s H E f c' hr2 => pe_call L.ns.ok (hr2.mono (by decide)) rfl L.ns.mgn L.ns.kp L.ns.bn .nil (passes_call (takes_of rfl rfl rfl rfl) (fun _ _ _ _ h => h)) (pa_cons (pv 5) (pa_cons (pv 11) (pa_cons pe_non pa_nil))))) (pe_tup (pa_cons pe_str (pa_cons pe_non pa_nil))) (nomark _)) (pss_one (ps_ret pe_bl)) pss_nil)
        (pss_cons (ps_if (pt_cmpR (op_neD hr.units) (pe_lamS (T := T) (k := 7) (t := fun E => tCall (spIsFea P w K CF CU) [] E (tCons (tVar 5) (tCons (tVar 11) (tCons (tVar 6) tNil)))) rfl GW.mgn GW.fn GW.bn scWo rfl (.inl rfl) (fun cdg => word_gives N C) TB rfl hmT hut hr (lamS_by (sc := defScope s_law) (by decide +kernel)) rfl (fun _ _ _ _ _ => rfl)
            (fun A outer s H E f c' hr2 => pe_call L.isf.ok (hr2.mono (by decide)) rfl L.isf.mgn L.isf.kp L.isf.bn .nil (passes_call (takes_of rfl rfl rfl rfl) (fun _ _ _ _ h => h)) (pa_cons (pv 5) (pa_cons (pv 11) (pa_cons (pv 6) pa_nil))))) (pe_tup (pa_cons pe_str (pa_cons pe_non pa_nil))) (nomark _)) (pss_one (ps_ret pe_bl)) pss_nil)
        (pss_one (ps_if (pt_cmpR (op_neD hr.units) (pe_lamS (T := T) (k := 7) (t := fun E => tCall (spResN P w K CF CU CS) [] E (tCons (tVar 5) (tCons (tVar 11) (tCons (tVar 6) tNil)))) rfl GW.mgn GW.fn GW.bn scWo rfl (.inl rfl) (fun cdg => word_gives N C) TB rfl hmT hut hr (lamS_by (sc := defScope s_law) (by decide +kernel)) rfl (fun _ _ _ _ _ => rfl)
            (fun A outer s H E f c' hr2 => pe_call L.rs.ok hr2 rfl L.rs.mgn L.rs.kp L.rs.bn .nil (passes_call (takes_of rfl rfl rfl rfl) (fun _ _ _ _ h => h)) (pa_cons (pv 5) (pa_cons (pv 11) (pa_cons (pv 6) pa_nil))))) (pe_tup (pa_cons pe_str (pa_cons pe_non pa_nil))) (nomark _)) (pss_one (ps_ret pe_bl)) pss_nil))))))))))))))))))
      (pss_one (ps_ret (pe_cmpR op_isN (pe_call (E := E0) L.ns.ok hr6 rfl L.ns.mgn L.ns.kp L.ns.bn .nil L2.passL (pa_cons (pe_make L.fim L.fi hr4 (by rfl) L.Z.gF L.fib .nil pass0 (pa_cons (pe_disp (pps_cons pe_str pe_str pps_nil) (by rfl) (by rfl) (fun z => by cases z) (by decide)) pa_nil)) (pa_cons (pe_op op_pow pe_int pe_int) (pa_cons (pe_disp (pps_cons pe_str (pe_op op_pow pe_int pe_int) pps_nil) (by rfl) (by rfl) (fun z => by cases z) (by decide)) pa_nil)))) pe_non (nomark _))))), ?_⟩
    refine ⟨_, rfl, a, ns, rfl, hS, hlen, fun H0 d c s0 ndd ncc dr0 => ?_⟩
    have tT0 : Tabs T H0 := tT.ext s0
    refine ⟨_, rfl, a, _, rfl, .inl (Same.sql s0 hS), _, _, rfl, _, _, rfl, rfl, ?_⟩
    obtain ⟨m, em⟩ : ∃ m : Int, m = 5 + (if (15 : Int) < ((ns.map V.int).length : Int) then 15 else ((ns.map V.int).length : Int)) := ⟨_, rfl⟩
    have lm : 0 ≤ m ∧ m ≤ 20 := by
      rw [List.length_map] at em
      subst em
      split <;> constructor <;> omega
    refine ⟨m, by rw [em] <;> rfl, by omega, by omega, ?_⟩
    refine for_it (walk_range (lo := 0) (n := m.toNat)) (fun j σ' H' => (∃ u2 u3 u4 u5 u6 u7 u8 u9 u10 u11, σ' = [some (.ref a), some (.ref d), u2, u3, u4, u5, u6, u7, u8, u9, u10, u11]) ∧ DrawAt H' d c ∧ Tabs T H') ⟨⟨_, _, _, _, _, _, _, _, _, _, rfl⟩, dr0, tT0⟩ (fun _ _ _ _ _ => trivial) ?_ ?_
    rotate_left
    · -- the end
      intro σ' He ⟨⟨u2, u3, u4, u5, u6, u7, u8, u9, u10, u11, e⟩, dr, tb⟩
      subst e
      refine fun p np => ⟨upd_same, [(Sum.inr "a", .str "")], rfl, by decide, ?_⟩
      refine fun x dx nx ndx nxd => ?_
      obtain ⟨H1, e1'⟩ : ∃ X, X = upd (upd He p (.dK [])) p (.dK (mergeK [] [(Sum.inr "a", .str "")])) := ⟨_, rfl⟩
      have hp1 : H1 p = some (.dK (prs [("a", "")])) := by rw [e1']; exact upd_same
      rw [← e1'] at nx ndx ⊢
      have sN : Same H1 (upd (upd H1 dx (.own x)) x (.ins CF dx [])) := fun b u e => by
        rw [upd_ne (ne_of_none e nx), upd_ne (ne_of_none e ndx)]
        exact e
      refine ⟨x, p, dx, [("a", "")], rfl, upd_same, sN _ _ hp1, one_tree, fun H2 ts pts asc fa oth => ⟨rfl, ?_⟩⟩
      have ets : ts = [(("a" : Str), ("" : Str))] := List.perm_singleton.mp pts
      subst ets
      refine ⟨_, _, rfl, rfl, ⟨by decide, by decide, by decide⟩, fun p2 np2 => ⟨_, _, rfl, rfl, ⟨by decide, by decide, by decide⟩, upd_same, [(Sum.inr "a", .int (10 ^ (30 : Int).toNat))], rfl, by decide, ?_⟩⟩
      obtain ⟨H3, e3'⟩ : ∃ X, X = upd (upd H2 p2 (.dK [])) p2 (.dK (mergeK [] [(Sum.inr "a", .int (10 ^ (30 : Int).toNat))])) := ⟨_, rfl⟩
      have hp3 : H3 p2 = some (.dK (tblI ["a"] fun _ => 10 ^ 30)) := by rw [e3']; exact upd_same
      have fa3 : FAt CF H3 x [("a", "")] := fa.mono (by rw [e3']; exact Same.put (same_new np2) np2)
      rw [← e3']
      refine ⟨x, .int (10 ^ 30), .ref p2, [("a", "")], some (tblI ["a"] fun _ => 10 ^ 30), rfl, fa3, one_tree, ⟨_, .int _⟩, .inl (sz_tbl hp3), ?_⟩
      have ez : szE CU CS [("a", "")] (.int (10 ^ 30)) (some (tblI ["a"] fun _ => 10 ^ 30)) = none := by
        unfold szE
        rw [if_pos (by decide)]
        exact one_fea.ok (.refl _)
      rw [ez]
      exact fun H4 s4 => ⟨rfl, k H4⟩
    intro jj xj σ' Ha Hb hj ⟨⟨u2, u3, u4, u5, u6, u7, u8, u9, u10, u11, e⟩, dr, tb⟩ ⟨e1', e2'⟩
    subst e
    subst e1'
    subst e2'
    clear hj
    -- the tree
    refine ⟨_, rfl, _, rfl, d, c, 12, rfl, dr, by decide, by decide, fun k1 H1 k10 k11 dr1 kp1 => ⟨_, _, rfl, rfl, ?_⟩⟩
    refine ⟨d, c, (1 + k1).toNat, by rw [Int.toNat_of_nonneg (by omega)] <;> rfl, dr1, by omega, by omega, fun q t H2 o lt nq hq dr2 kp2 => ?_⟩
    have tb1 := tabs_keep tb dr kp1
    have tb2 := tabs_keep tb1 dr1 kp2
    have few := o.few
    -- the users
    refine ⟨_, rfl, _, rfl, _, _, rfl, rfl, ⟨by decide, by decide, by decide⟩, _, _, rfl, rfl, ⟨by decide, by decide, by decide⟩, by show 5 ≤ sizeLine; omega, fun pl npl => ?_⟩
    have pld := dr2.apart npl
    have sp := same_new (o := .lst [.int 1, .int 5, .int 60, .int (10 ^ 6), .int (10 ^ 30)]) npl
    refine ⟨d, c, .ref pl, 5, (fun _ u => ∃ z : Int, u = .int z ∧ 1 ≤ z ∧ z ≤ 10 ^ 30), rfl, dr2.mono sp, .inl ⟨pl, _, rfl, pld.1, pld.2, upd_same, rfl, fun i u hu => ?_⟩, by decide, by decide, fun i u H3 pu dr3 kp3 => ?_⟩
    · have mm := List.mem_of_getElem? hu
      simp only [List.mem_cons, List.not_mem_nil, or_false] at mm
      rcases mm with rfl | rfl | rfl | rfl | rfl
      · exact ⟨_, rfl, by decide, by decide⟩
      · exact ⟨_, rfl, by decide, by decide⟩
      · exact ⟨_, rfl, by decide, by decide⟩
      · exact ⟨_, rfl, by decide, by decide⟩
      · exact ⟨_, rfl, by decide, by decide⟩
    obtain ⟨mx, rfl, mx0, mx1⟩ := pu
    refine ⟨d, c, mx, rfl, dr3, by omega, by omega, fun k2 H4 k20 k21 dr4 kp4 => ⟨_, _, rfl, rfl, ?_⟩⟩
    obtain ⟨n, en⟩ : ∃ n, n = 1 + k2 := ⟨_, rfl⟩
    have n1 : 1 ≤ n := by omega
    have n2 : n ≤ 10 ^ 30 := by omega
    show gName 4 (V.int (1 + k2)) _ _ _
    rw [← en]
    have kp24 : Keep d c H2 H4 := ((Keep.of_same sp).trans kp3).trans kp4
    have tb4 := tabs_keep tb2 dr2 kp24
    have hq4 : H4 q = some (.dK (prs t)) := let ⟨b1, b2⟩ := dr2.notD hq (fun xs z => nomatch z); kp24 _ _ b1 b2 hq
    clear kp24 kp4 kp3 sp kp2 kp1
    -- the forest
    refine ⟨_, rfl, fun x dx nx ndx nxd => ?_⟩
    have sN : Same H4 (upd (upd H4 dx (.own x)) x (.ins CF dx [])) := fun b u e => by
      rw [upd_ne (ne_of_none e nx), upd_ne (ne_of_none e ndx)]
      exact e
    refine ⟨x, q, dx, t, rfl, upd_same, sN _ _ hq4, o, fun H5 ts pts asc fa5 oth => ⟨rfl, ?_⟩⟩
    have s45 : Same H4 H5 := fun b u e => oth b u (ne_of_none e nx) (sN _ _ e)
    have dr5 := dr4.mono s45
    have tb5 := tb4.ext s45
    have ot : TreeOk ts := o.perm pts.symm
    have pk : (ts.map Prod.fst).Perm (t.map Prod.fst) := pts.map _
    have hq5 := s45 _ _ hq4
    -- the sizes
    refine ⟨_, rfl, _, rfl, _, rfl, d, c, q, n, t, rfl, dr5, hq5, o, by omega, n2, tb5, fun qo lo sz H6 plo fo fro ho dr6 tb6 kn6 => ⟨by show 2 ≤ sizeLine; omega, fun tp ntp => ⟨tp, _, rfl, .inl (.inl upd_same), rfl, _, _, rfl, _, _, rfl, rfl, ?_⟩⟩⟩
    have qoq : qo ≠ q := fun z => fro q _ hq5 (fun ps z => nomatch z) z.symm
    obtain ⟨H7, e7⟩ : ∃ X, X = upd H6 tp (.tup [.ref x, .ref qo]) := ⟨_, rfl⟩
    have s67 : Same H6 H7 := e7 ▸ same_new ntp
    rw [← e7]
    clear e7
    have it7 : ItM 12 P w K H7 (.ref qo) (some (tblI lo sz)) := ⟨qo, rfl, s67 _ _ ho, fun p hp => by
      obtain ⟨i, hi⟩ := List.mem_iff_getElem?.mp hp
      obtain ⟨kk, vv⟩ := p
      obtain ⟨b, hb, rfl, rfl⟩ := tblI_at hi
      exact ⟨_, .int _⟩, by
      rw [tblI_keys]
      exact List.Pairwise.map _ (fun a b n e => n (Sum.inr.inj e)) (plo.nodup_iff.mpr o.nd), by rw [tblI_len, plo.length_eq, List.length_map]; exact few⟩
    have dr7 := dr6.mono s67
    have tb7 := tb6.ext s67
    have hq7 := s67 _ _ (kn6.dk dr5 hq5)
    have fa7 := (fa5.keepN dr5 kn6).mono s67
    -- the changes
    refine ⟨_, rfl, by show 6 ≤ sizeLine; omega, fun pl npl => ?_⟩
    have pld := dr7.apart npl
    have sp := same_new (o := .lst [.int 0, .int 0, .int 1, .int 1, .int 2, .int 3]) npl
    refine ⟨d, c, .ref pl, 6, (fun _ u => ∃ z : Int, u = .int z ∧ 0 ≤ z ∧ z ≤ 3), rfl, dr7.mono sp, .inl ⟨pl, _, rfl, pld.1, pld.2, upd_same, rfl, fun i u hu => ?_⟩, by decide, by decide, fun i u H8 pu dr8 kp8 => ?_⟩
    · have mm := List.mem_of_getElem? hu
      simp only [List.mem_cons, List.not_mem_nil, or_false] at mm
      rcases mm with rfl | rfl | rfl | rfl | rfl | rfl <;> exact ⟨_, rfl, by decide, by decide⟩
    obtain ⟨z, rfl, z0, z3⟩ := pu
    have kp78 : Keep d c H7 H8 := (Keep.of_same sp).trans kp8
    refine ⟨z, rfl, by omega, by omega, ?_⟩
    refine for_it (walk_range (lo := 0) (n := z.toNat)) (fun j σ' H' => ∃ (sv : V) (so : Option (List (Key × V))), (∃ u7, σ' = [some (.ref a), some (.ref d), some (.int (0 + (jj : Int))), some (.ref q), some (.int n), some (.ref x), some sv, u7, u8, u9, u10, u11]) ∧ DrawAt H' d c ∧ Tabs T H' ∧ FAt CF H' x ts ∧ H' q = some (.dK (prs t)) ∧ ItM (12 + j) P w K H' sv so ∧ sv ≠ .ref q)
      ⟨.ref qo, _, ⟨_, rfl⟩, dr8, tabs_keep tb7 dr7 kp78, fa7.keepN dr7 kp78.n, kp78.n.dk dr7 hq7, it7.keep dr7 dr8 kp78, fun z => qoq (V.ref.inj z)⟩ (fun _ _ _ _ _ => trivial) ?_ ?_
    · intro j y σ' Hc Hd hj ⟨sv, so, ⟨u7, e⟩, drc, tbc, fac, hqc, itc, svq⟩ ⟨eb, ey⟩
      subst e
      subst eb
      subst ey
      refine ⟨_, rfl, _, rfl, _, rfl, d, c, q, t, sv, so, 12 + j, rfl, drc, hqc, o, itc, by omega, fun sv' so' He it' nq' dre kpe => ?_⟩
      exact ⟨sv', so', ⟨_, rfl⟩, dre, tabs_keep tbc drc kpe, fac.keepN drc kpe.n, kpe.n.dk drc hqc, it', nq'⟩
    intro σ' H9 ⟨sv, so, ⟨u7, e⟩, dr9, tb9, fa9, hq9, it9, svq⟩
    subst e
    have it9 : ItM 20 P w K H9 sv so := it9.up (show 12 + z.toNat ≤ 20 by omega)
    clear kp78 kp8 it7 hq7 fa7 tb7 dr7 s67 kn6 tb6 dr6 ho fro fo plo hq5 tb5 dr5 s45 oth fa5 sN nx ndx nxd hq4 tb4 dr4 dr3 pld sp tb2 tb1 dr2 dr1 dr tb hq nq
    -- due
    refine ⟨_, rfl, _, rfl, _, rfl, q, n, sv, t, ts, so, rfl, svq, hq9, o, pts, asc, it9, ?_⟩
    have uo : usersOk (.int n) (10 ^ 30) = true := by
      show (decide (1 ≤ n) && decide (n ≤ 10 ^ 30)) = true
      rw [decide_eq_true n1, decide_eq_true n2] <;> rfl
    have pl : ∀ v, feas ts n so = some v → v = .non ∨ ∃ z, v = .str z ∧ (NameL z ∨ z = "") := fun v e => feas_pl ot e
    refine tell_of fun dv H10 s10 hd10 => ?_
    refine word_of (i := 8) rfl hd10 fun wv H11 s11 du11 => ?_
    have s911 := s10.trans s11
    have S11 : S03 P w K T CF d c q x t ts sv so dv wv (feas ts n so) H11 := ⟨dr9.mono s911, tb9.ext s911, fa9.mono s911, s911 _ _ hq9, ItV.mono s911 it9, du11⟩
    clear du11 s911 s11 hd10 s10 it9 hq9 fa9 tb9 dr9
    -- need_sizes
    refine chk_word e1 (i := 9) rfl S11 pl (fun H2 S2 E' Q' an => ⟨_, rfl, _, rfl, _, rfl, x, .int n, sv, ts, so, rfl, S2.fa, ot, ⟨_, .int n⟩, ItV.szN S2.it, ans_res uo an⟩) fun H12 S12 => ?_
    -- is_feasible
    refine ⟨_, rfl, _, rfl, _, rfl, x, .int n, sv, ts, so, rfl, S12.fa, ot, ⟨_, .int n⟩, ItV.szN S12.it, ?_⟩
    rw [if_pos uo]
    refine ⟨n, rfl, fun H13 s13 => ⟨.bl _, .bool _, rfl, .inl ⟨.bl _, rfl⟩, rfl, by show 0 ≤ 60; omega, bool_len _, _, rfl, rfl, .bl _, .bool _, rfl, .inl ⟨.bl _, rfl⟩, rfl, by show 0 ≤ 60; omega, bool_len _, rfl, _, rfl, ?_⟩⟩
    rw [S12.du.is, decide_eq_true rfl]
    refine iteF ?_
    have S13 := S12.same s13
    refine ⟨_, rfl, _, rfl, _, rfl, rfl, x, .int n, sv, ts, so, rfl, S13.fa, ot, ⟨_, .int n⟩, ItV.szN S13.it, ?_⟩
    rw [if_pos uo]
    refine ⟨n, rfl, fun H14 s14 => ⟨_, rfl, rfl, rfl, _, rfl, ?_⟩⟩
    rw [S12.du.is, decide_eq_true rfl]
    refine iteF ?_
    have S14 := S13.same s14
    -- by keywords
    refine chk_word e1 (i := 9) rfl S14 pl (fun H2 S2 E' Q' an => ⟨_, rfl, _, rfl, _, rfl, rfl, x, .int n, sv, ts, so, rfl, S2.fa, ot, ⟨_, .int n⟩, ItV.szN S2.it, ans_res uo an⟩) fun H15 S15 => ?_
    refine chk_word e1 (i := 9) rfl S15 pl (fun H2 S2 E' Q' an => ⟨_, rfl, _, rfl, _, rfl, rfl, x, .int n, sv, ts, so, rfl, S2.fa, ot, ⟨_, .int n⟩, ItV.szN S2.it, ans_resN uo an⟩) fun H16 S16 => ?_
    -- the residents
    refine chk_if (fun σ' H' => (∃ u10, σ' = [some (.ref a), some (.ref d), some (.int (0 + (jj : Int))), some (.ref q), some (.int n), some (.ref x), some sv, u7, some dv, some wv, u10, u11]) ∧ S03 P w K T CF d c q x t ts sv so dv wv (feas ts n so) H') (i := 8) rfl S16 (fun en D' nxD => ?_) ⟨⟨_, rfl⟩, S16⟩ ?_
    · have eN : szE CU CS ts (.int n) so = none := by
        unfold szE feE
        rw [if_pos uo]
        show Option.map _ (feas ts n so) = none
        rw [en] <;> rfl
      obtain ⟨n', e', kvs, rfl, _⟩ := szE_parts eN
      cases e'
      refine ⟨_, rfl, _, rfl, _, rfl, x, .int n, sv, ts, some kvs, rfl, S16.fa, ot, ⟨_, .int n⟩, ItV.szN S16.it, ?_⟩
      rw [eN]
      refine ⟨n, kvs, rfl, rfl, fun p H17 s17 np hp => ?_⟩
      have S17 := S16.same s17
      obtain ⟨qs, rfl, hqs, dtq, ndq, lq⟩ := S17.it
      obtain ⟨f1, f2, f3⟩ := feE_ok (CS := CS) (show feE CS ts n (some kvs) = none by unfold feE; rw [en] <;> rfl)
      obtain ⟨l, pl', etb⟩ := dk_tbl ot ndq f1 (s := szOf kvs) fun b hb => (f2 b hb).1
      refine ⟨_, rfl, p, _, rfl, hp, fun Hg pg rg sg npg nrg prg hpg pdg => ?_⟩
      have S18 := S17.same sg
      refine ⟨_, rfl, _, rfl, _, rfl, q, qs, n, t, l, szOf kvs, rfl, S18.hq, o, by rw [← etb]; exact sg _ _ hqs, pl'.trans pk, fun p2 H19 ks s19 np2 pks srt hp2 => ⟨p2, _, rfl, hp2, fun Hh ph rh sh nph nrh prh hph pdh => ?_⟩⟩
      have eks : ks = ts.map Prod.fst := sorted_one (pks.trans pk.symm) srt asc
      subst eks
      have rw1 : resid t n (szOf kvs) = resid ts n (szOf kvs) := funext fun b => by rw [resid_perm pts]
      rw [rw1] at pdh
      have s1h : Same Hg Hh := s19.trans sh
      obtain ⟨lay, shp⟩ := pairZ_shaped (g := resid ts n (szOf kvs)) (fl := ("" : Str) :: ts.map Prod.fst) fun b hb => by
        rcases List.mem_cons.mp hb with rfl | hb
        · exact strOk_root
        · exact strOk_name (ot.nm b hb)
      refine ⟨.list ((("" : Str) :: ts.map Prod.fst).map (pairZ (resid ts n (szOf kvs)))), .list ((("" : Str) :: ts.map Prod.fst).map (pairZ (resid ts n (szOf kvs)))), .lst (SqL.of (s1h _ _ hpg)) (tblI_items (pair_impN (fun r z e => s1h _ _ e) pdg)), .lst (SqL.of hph) (tblI_items pdh), shp, shp, _, rfl, ?_⟩
      rw [SeqAt.eqv_refl _ lay]
      refine iteF ?_
      have hee := s1h _ _ (sg _ _ hp)
      refine ⟨_, rfl, .inr (.inr (.inl ⟨rfl, .inl ⟨_, hee⟩⟩)), p, _, rfl, rfl, hee, nxD _ _ ⟨⟨_, rfl⟩, ?_⟩⟩
      exact S16.same (Same.put ((s17.trans sg).trans s1h) np)
    intro σ' H17 ⟨⟨u10, e⟩, S17⟩
    subst e
    -- odd users
    refine ⟨_, rfl, 1, rfl, _, _, rfl, rfl, ⟨by decide, by decide, by decide⟩, _, _, rfl, rfl, by show 1 ≤ sizeLine; omega, fun t1 m1 => ⟨by show 0 ≤ sizeLine; omega, fun l1 m2 d1 m3 => ⟨by show 9 ≤ sizeLine; omega, fun pl npl => ?_⟩⟩⟩
    have s1 := same_new (o := .tup [.int 5]) m1
    have s2 := same_new (o := .lst []) m2
    have s3 := same_new (o := .dK []) m3
    obtain ⟨xs, exs⟩ : ∃ xs : List V, xs = [.int 0, .int (-1), .int (10 ^ (30 : Int).toNat + 1), .bl true, .non, .str "5", .ref t1, .ref l1, .ref d1] := ⟨_, rfl⟩
    have s4 : Same (upd (upd (upd H17 t1 (.tup [.int 5])) l1 (.lst [])) d1 (.dK [])) (upd (upd (upd (upd H17 t1 (.tup [.int 5])) l1 (.lst [])) d1 (.dK [])) pl (.lst xs)) := same_new npl
    have a1 := s4 _ _ (s3 _ _ (s2 _ _ (upd_same (H := H17) (a := t1) (o := .tup [.int 5]))))
    have a2 := s4 _ _ (s3 _ _ (upd_same (H := upd H17 t1 (.tup [.int 5])) (a := l1) (o := .lst [])))
    have a3 := s4 _ _ (upd_same (H := upd (upd H17 t1 (.tup [.int 5])) l1 (.lst [])) (a := d1) (o := .dK []))
    have s03 := (s1.trans s2).trans s3
    have s04 := s03.trans s4
    obtain ⟨H18, e18⟩ : ∃ X, X = upd (upd (upd (upd H17 t1 (.tup [.int 5])) l1 (.lst [])) d1 (.dK [])) pl (.lst xs) := ⟨_, rfl⟩
    have hpl : H18 pl = some (.lst xs) := by rw [e18]; exact upd_same
    rw [← e18] at s04 a1 a2 a3
    have S18 := S17.same s04
    have pld := (S17.same s03).dr.apart npl
    have l1d := (S17.dr.mono s1).apart m2
    rw [exs] at e18 hpl
    rw [← e18]
    refine ⟨d, c, .ref pl, 9, fun _ u => u ∈ ([.int 0, .int (-1), .int (10 ^ (30 : Int).toNat + 1), .bl true, .non, .str "5", .ref t1, .ref l1, .ref d1] : List V), rfl, S18.dr, .inl ⟨pl, _, rfl, pld.1, pld.2, hpl, rfl, fun i u hu => List.mem_of_getElem? hu⟩, by decide, by decide, fun i u H19 um dr19 kp19 => ?_⟩
    have S19 := S18.keep dr19 kp19
    obtain ⟨bad, dat⟩ : usersOk u (10 ^ 30) = false ∧ IsDat K H19 u := by
      simp only [List.mem_cons, List.not_mem_nil, or_false] at um
      rcases um with rfl | rfl | rfl | rfl | rfl | rfl | rfl | rfl | rfl
      · exact ⟨by decide, _, .int _⟩
      · exact ⟨by decide, _, .int _⟩
      · exact ⟨by decide, _, .int _⟩
      · exact ⟨rfl, _, .bl _⟩
      · exact ⟨rfl, _, .non⟩
      · exact ⟨rfl, _, .str _⟩
      · exact ⟨rfl, _, .tup (tup_keepN S18.dr kp19.n a1)⟩
      · exact ⟨rfl, _, .lst (kp19 _ _ l1d.1 l1d.2 a2)⟩
      · exact ⟨rfl, _, .dct (kp19.n.dk S18.dr a3)⟩
    have gt : ∀ H, (S03 P w K T CF d c q x t ts sv so dv wv (feas ts n so) H ∧ IsDat K H u) → Tabs T H := fun H g => g.1.tb
    have ge : ∀ H H', (S03 P w K T CF d c q x t ts sv so dv wv (feas ts n so) H ∧ IsDat K H u) → ExtN H H' → Tabs T H' → (S03 P w K T CF d c q x t ts sv so dv wv (feas ts n so) H' ∧ IsDat K H' u) := fun H H' g e t => ⟨g.1.ext e t, let ⟨TT, dd⟩ := g.2; ⟨TT, dd.keepN g.1.dr (g.1.dr.ext e) (KeepN.of_ext e)⟩⟩
    refine chk_users e0 _ ⟨S19, dat⟩ gt ge (fun H2 g E' Q' an => ⟨_, rfl, _, rfl, x, u, .non, ts, none, rfl, g.1.fa, ot, g.2, .inl ⟨_, .non, by decide⟩, by rw [szE_bad bad]; exact an⟩) fun H20 g20 => ?_
    refine chk_users e0 _ g20 gt ge (fun H2 g E' Q' an => ⟨_, rfl, _, rfl, _, rfl, x, u, sv, ts, so, rfl, g.1.fa, ot, g.2, ItV.szN g.1.it, by rw [bad, if_neg (by decide)]; exact an⟩) fun H21 g21 => ?_
    refine chk_users e0 _ g21 gt ge (fun H2 g E' Q' an => ⟨_, rfl, _, rfl, _, rfl, x, u, sv, ts, so, rfl, g.1.fa, ot, g.2, ItV.szN g.1.it, by rw [szE_bad bad]; exact an⟩) fun H22 g22 => ?_
    exact ⟨⟨_, _, _, _, _, _, _, _, _, _, rfl⟩, g22.1.dr, g22.1.tb⟩
end
end FT


/-! places_of -/
namespace FT
open PySem L2 TL ClX
section
variable {P : Program} {w : World} {K : PySem.W.Frag} {mg : Str → Option Value} {base : Heap}
theorem scPlacesOf : FnScope ["forest"] ["forest"] (defScope s_places_of) := ⟨rfl, rfl, rfl, by decide +kernel, rfl, by decide +kernel, by decide +kernel⟩
theorem ok_placesOf {f CF p1 g1 : Addr} {mc : Value} {fd fd1 : FuncData} (F : Fun K "places_of" "places_of" s_places_of f fd) (T : Nm mg) (O : FoC K CF) (Z : Fc K mg CF mc) (L : Pr1 P w K mg base CF "flags" (spFFlags CF) p1 g1 fd1) :
    FnOk P w K mg base CX0 3 f fd ["forest"] (spPlacesOf CF) := by
  obtain ⟨ur, cr⟩ := Z.root
  refine F.ok scPlacesOf (fun vs H Q E h => ?_) (fun cdv A outer s H vs Q E hr h => ?_)
  · obtain ⟨x, ts, rfl, _⟩ := h
    rfl
  · obtain ⟨x, ts, rfl, fa, few, k⟩ := h
    obtain ⟨dx, dq, hx, hd⟩ := id fa
    have big : 1000 ≤ sizeLine := by decide
    refine ⟨_, pss_one (ps_ret (pe_op op_cat (pe_lst (pa_cons (pe_cval (pe_glob (v := .ref CF) (by rfl) Z.gF rfl)) pa_nil)) (pe_prop (pv 0) O.cl L.pr L.fn hr L.bn .nil pass0 (by rfl)))), ?_⟩
    refine ⟨CF, mc, _, ur, rfl, Z.rd, cr, by show 1 ≤ sizeLine; omega, fun p1 n1 => ?_⟩
    have s1 : Same H (upd H p1 (.lst [.str ""])) := same_new n1
    refine ⟨_, rfl, x, dx, _, rfl, s1 _ _ hx, x, ts, rfl, fa.mono s1, fun p2 n2 => ⟨p1, p2, [.str ""], (ts.map Prod.fst).map V.str, rfl, rfl, by rw [upd_ne (ne_of_none upd_same n2), upd_same], upd_same, ?_, fun p3 n3 => ?_⟩⟩
    · rw [List.length_map, List.length_map]
      show 1 + _ ≤ sizeLine
      omega
    · have s3 : Same H (upd (upd (upd H p1 (.lst [.str ""])) p2 (.lst ((ts.map Prod.fst).map V.str))) p3 (.lst ([.str ""] ++ (ts.map Prod.fst).map V.str))) := (s1.trans (same_new n2)).trans (same_new n3)
      exact k p3 _ s3 (Same.free (s1.trans (same_new n2)) n3) upd_same
end
end FT


/-! Own: C.m(..) where m is a staticmethod of the class. -/
namespace L2
open PySem PySem.Spec PyProof.Rows
/-- C.m is a staticmethod: its record at p, its def at f -/
structure SMet (K : PySem.W.Frag) (C : Addr) (mc : Value) (m : Str) (p f : Addr) : Prop where
  at_ : PySem.W.findCls K (.ref C) mc m = some (.get (.builtin "staticmethod.__get__") (.ref p) .none (.ref C))
  rc : ∃ rest, PySem.W.recIn K p "staticmethod" = some (.ref f :: rest)
def tSMeth (C : Addr) (sp : Sp) (dvs : List V) (E : XK) (ta : TE) (t : TA) : TE := fun σ H Q => ta σ H fun x H1 => x = .ref C ∧ t σ H1 fun vs H2 => sp (vs ++ dvs) H2 Q E
section
variable {X : Cx} {CX : CXT} {k : Nat} {C p f : Addr} {mc : Value} {fd : FuncData} {ps : List Str} {sp : Sp} {dvs : List V} {ds : List Value} {E : XK} {o e : Expr} {es : List Expr} {m : Str} {pos apos : Pos} {ta : TE} {t : TA} {pl : Sem Bool}
end
end L2


/-! what the module's top says of classes, of defs: the form that the row's end asks for. -/
namespace FT
open PySem L2 TL ClX
abbrev exTail : List Value := [.type "ValueError", .type "Exception", .type "BaseException", .type "object"]
/-- an own class at C, its chain behind it -/
def ClsAt (K : PySem.W.Frag) (C : Addr) (bm : List Value) : Prop := ∃ nm q N bs sn sub ab col dd k0 k1 k2 k3 k5, K.lookup C = some (excClassObj nm q C N bs bm true sn sub ab col dd k0 k1 k2 k3 k5 "ValueError.__new__")
section
variable {K : PySem.W.Frag} {C : Addr} {bm : List Value}
theorem ClsAt.cls (h : ClsAt K C bm) : ∃ cd : ClassData, PySem.W.clsIn K C = some cd ∧ cd.mro = .ref C :: bm ∧ cd.hasDict = true := by
  obtain ⟨nm, q, N, bs, sn, sub, ab, col, dd, k0, k1, k2, k3, k5, e⟩ := h
  refine ⟨{ name := nm, bases := bs, mro := .ref C :: bm, ns := N, qualname := q, hasDict := true, slotNames := sn, subclasses := sub, abstract := ab, collection := col }, ?_, rfl, rfl⟩
  unfold PySem.W.clsIn
  rw [e]
theorem ClsAt.ty (h : ClsAt K C bm) : PySem.W.typeIn K (.ref C) = some (.type "type") := by
  obtain ⟨nm, q, N, bs, sn, sub, ab, col, dd, k0, k1, k2, k3, k5, e⟩ := h
  show (K.lookup C).map (·.cls) = _
  rw [e] <;> rfl
theorem ClsAt.mroIs (h : ClsAt K C bm) (b : Value) : PySem.W.mroIn K C b = some ((Value.ref C :: bm).contains b) := by
  obtain ⟨cd, e1, e2, _⟩ := h.cls
  unfold PySem.W.mroIn
  rw [e1]
  show (if cd.mro.isEmpty then none else some (cd.mro.contains b)) = _
  rw [e2] <;> rfl
theorem ClsAt.sub (h : ClsAt K C bm) (b : Value) : PySem.W.subIn K (.ref C) b = some ((Value.ref C :: bm).contains b) := h.mroIs b
theorem ClsAt.hd (h : ClsAt K C bm) : PySem.W.hasDictIn K C = true := by
  obtain ⟨cd, e1, _, e3⟩ := h.cls
  show (PySem.W.clsIn K C).any (·.hasDict) = true
  rw [e1]
  exact e3
theorem ClsAt.isC (h : ClsAt K C bm) : (PySem.W.clsIn K C).isSome = true := by
  obtain ⟨cd, e1, _⟩ := h.cls
  rw [e1] <;> rfl
/-- isinstance of the class at C against the class at D -/
theorem ClsAt.kit {D : Addr} {bn : List Value} (h : ClsAt K C bm) (g : ClsAt K D bn) : PySem.W.kitOne K (.ref C) (.ref D) = some ((Value.ref C :: bm).contains (.ref D)) := by
  unfold PySem.W.kitOne
  by_cases e : (Value.ref C == Value.ref D) = true
  · rw [if_pos e, beq_iff_eq.mp e, List.contains_cons, beq_self_eq_true] <;> rfl
  · rw [if_neg e]
    have e2 : ((PySem.W.clsIn K D).isSome && PySem.W.typeIn K (.ref D) == some (.type "type")) = true := by rw [g.isC, g.ty] <;> rfl
    show (if _ then PySem.W.subIn K (.ref C) (.ref D) else none) = _
    rw [if_pos e2, h.sub]
theorem ClsAt.exm {D : Addr} {bn : List Value} (h : ClsAt K C bm) (g : ClsAt K D bn) (eD : (Value.ref D :: bn).contains (.type "BaseException") = true) : PySem.W.exmOne K (.ref C) (.ref D) = some ((Value.ref C :: bm).contains (.ref D)) :=
  PySem.W.exm_ref (by rw [g.sub, eD]) g.hd g.ty (h.sub _)
end
/-- what the top says of one error class -/
structure ClsF (K : PySem.W.Frag) (nm f : Str) (C I R : Addr) : Prop where
  nsn : PySem.W.nsIn K mainGlobals nm = some (some (.ref C))
  at_ : ClsAt K C (.ref R :: exTail)
  sa : PySem.W.findIn K (.ref C) "__setattr__" = some (some (.builtin "object.__setattr__"))
  ga : PySem.W.findIn K (.ref C) "__getattribute__" = some (some (.builtin "BaseException.__getattribute__"))
  gg : PySem.W.findIn K (.ref C) "__getattr__" = some none
  ha : PySem.W.findIn K (.ref C) "__class__" = some (some (.builtin "object.__class__"))
  kC : PySem.W.keepIn K (.ref C) = true
  no : PySem.W.findIn K (.ref C) f = some none
  ini : PySem.W.findIn K (.ref C) "__init__" = some (some (.ref I))
  ity : PySem.W.typeIn K (.ref I) = some (.type "function")
/-- and of what they share -/
structure RootF (K : PySem.W.Frag) (R : Addr) : Prop where
  nsn : PySem.W.nsIn K mainGlobals "RolloutError" = some (some (.ref R))
  at_ : ClsAt K R exTail
  rd : PySem.W.readsIn K R (.type "type") = true
  ga : PySem.W.specialIn K (.ref R) "__getattribute__" = some (some (.builtin "type.__getattribute__"))
  ini : PySem.W.findCls K (.ref R) (.type "type") "__init__" = some (.val (.builtin "ValueError.__init__"))
  hn : PySem.W.specialIn K (.builtin "object.__class__") "__get__" = some (some (.builtin "getset_descriptor.__get__"))
  ht : PySem.W.takesIn K (.builtin "object.__class__") = some true
theorem ClsF.x {K : PySem.W.Frag} {nm f : Str} {C I R : Addr} (c : ClsF K nm f C I R) (r : RootF K R) : XCls K C where
  cls := by
    obtain ⟨nm, q, N, bs, sn, sub, ab, col, dd, k0, k1, k2, k3, k5, e⟩ := c.at_
    exact ⟨nm, q, N, bs, _, sn, sub, ab, col, dd, k0, k1, k2, k3, k5, e, rfl⟩
  sa := c.sa
  exC := by rw [c.at_.sub] <;> rfl
  tyC := c.at_.ty
  kC := c.kC
  ga := c.ga
  gg := c.gg
  hdC := c.at_.hd
  ha := c.ha
  hn := r.hn
  ht := r.ht
  hm := by rw [c.at_.mroIs] <;> rfl
theorem has_cls {C R D : Addr} {b : Bool} (h : decide (C = D) = b) (n : R ≠ D) : (Value.ref C :: Value.ref R :: exTail).contains (.ref D) = b := by
  subst h
  by_cases e : C = D
  · subst e
    rw [List.contains_cons, beq_self_eq_true, decide_eq_true rfl] <;> rfl
  · have e1 : (Value.ref D == Value.ref C) = false := beq_eq_false_iff_ne.mpr fun z => e (Value.ref.inj z).symm
    have e2 : (Value.ref D == Value.ref R) = false := beq_eq_false_iff_ne.mpr fun z => n (Value.ref.inj z).symm
    rw [decide_eq_false e, List.contains_cons, e1, List.contains_cons, e2] <;> rfl
theorem has_root {C R : Addr} : (Value.ref C :: Value.ref R :: exTail).contains (.ref R) = true := by
  rw [List.contains_cons, List.contains_cons, beq_self_eq_true, Bool.true_or, Bool.or_true]
theorem kit_bt {K : PySem.W.Frag} {C R : Addr} (c : ClsAt K C (.ref R :: exTail)) : PySem.W.kitOne K (.ref C) (.type "ValueError") = some true := by
  unfold PySem.W.kitOne
  rw [if_neg (show ¬ (Value.ref C == Value.type "ValueError") = true from fun z => nomatch (show false = true from z))]
  have e2 : PySem.W.kitMeta "ValueError" = true := by decide +kernel
  show (if PySem.W.kitMeta "ValueError" = true then PySem.W.subIn K (.ref C) (.type "ValueError") else none) = _
  rw [if_pos e2, c.sub] <;> rfl
/-- what the top says of a class with a constant MOST -/
structure ClsK (K : PySem.W.Frag) (nm : Str) (C : Addr) (n : Int) (t : Nat) : Prop where
  nsn : PySem.W.nsIn K mainGlobals nm = some (some (.ref C))
  rd : PySem.W.readsIn K C (.type "type") = true
  ga : PySem.W.specialIn K (.ref C) "__getattribute__" = some (some (.builtin "type.__getattribute__"))
  most : PySem.W.findCls K (.ref C) (.type "type") "MOST" = some (.val (.int n t))
  pg : PySem.W.plainGet K C Str.empty = true
  hd : PySem.W.hasDictIn K C = true
  po : PySem.W.plainOver K C = true
  sa : PySem.W.findIn K (.ref C) "__setattr__" = some (some (.builtin "object.__setattr__"))
  mks : PySem.W.makesIn K C = true
  kp : PySem.W.keepIn K (.ref C) = true
  ha : PySem.W.findIn K (.ref C) "__class__" = some (some (.builtin "object.__class__"))
  hn : PySem.W.specialIn K (.builtin "object.__class__") "__get__" = some (some (.builtin "getset_descriptor.__get__"))
  ht : PySem.W.takesIn K (.builtin "object.__class__") = some true
  hm : PySem.W.mroIn K C (.type "object") = some true
/-- a method -/
structure MetK (K : PySem.W.Frag) (C : Addr) (m : Str) (f : Addr) : Prop where
  at_ : PySem.W.findIn K (.ref C) m = some (some (.ref f))
  fn : PySem.W.isFn K (.ref f) = true
/-- a property -/
structure PrK (K : PySem.W.Frag) (C : Addr) (m : Str) (p g : Addr) (rest : List Value) : Prop where
  at_ : PySem.W.findIn K (.ref C) m = some (some (.ref p))
  get : PySem.W.specialIn K (.ref p) "__get__" = some (some (.builtin "property.__get__"))
  tak : PySem.W.takesIn K (.ref p) = some true
  rec_ : PySem.W.recIn K p "property" = some (.ref g :: rest)
theorem ClsF.er {K : PySem.W.Frag} {h : Heap} {mg : Str → Option Value} {nm f : Str} {C I R : Addr} (X : K.In h) (G : h.Ns mainGlobals mg) (c : ClsF K nm f C I R) (r : RootF K R) : Er K mg nm f C I :=
  ⟨PySem.W.mg_of X G c.nsn, c.x r, c.ini, c.ity, c.no⟩
theorem RootF.rt {K : PySem.W.Frag} {h : Heap} {mg : Str → Option Value} {R : Addr} (X : K.In h) (G : h.Ns mainGlobals mg) (r : RootF K R) : Rt K mg R := ⟨PySem.W.mg_of X G r.nsn, ⟨r.rd, r.ga, r.ini⟩⟩
theorem ClsK.fc {K : PySem.W.Frag} {h : Heap} {mg : Str → Option Value} {CF : Addr} {t t2 : Nat} (X : K.In h) (G : h.Ns mainGlobals mg) (k : ClsK K "Forest" CF 12 t) (root : PySem.W.findCls K (.ref CF) (.type "type") "ROOT" = some (.val (.str "" t2))) : Fc K mg CF (.type "type") :=
  ⟨PySem.W.mg_of X G k.nsn, ⟨k.rd, k.ga⟩, ⟨_, k.most, ⟨_, rfl⟩⟩, ⟨_, root, ⟨_, rfl⟩⟩⟩
theorem ClsK.cls {K : PySem.W.Frag} {nm : Str} {C : Addr} {n : Int} {t : Nat} (k : ClsK K nm C n t) : Cls K C := ⟨k.pg, k.hd, k.po, k.sa⟩
/-- an int that the top computes -/
theorem loose_int {p : Program} {lv : List (Str × PySem.W.WData)} {mg : Str → Option Value} {h : Heap} {nm : Str} {n : Int} (x : PySem.W.XL p lv mg h) (m : (nm, PySem.W.WData.int n) ∈ lv) : ∃ t, mg nm = some (.int n t) := by
  obtain ⟨v, e, r⟩ := x.2.val _ m
  cases r with
  | int i t => exact ⟨t, e⟩
/-- a def with its code object and the table of that -/
structure TabK (K : PySem.W.Frag) (x : Str) (c P : Addr) : Prop where
  at_ : PySem.W.tabIn K x = some (c, P)
  no : K.lookup P = none
end FT


/-! what the top says of a class without a constant, of a static method -/
namespace FT
open PySem L2 TL ClX
structure ClsN (K : PySem.W.Frag) (nm : Str) (C : Addr) : Prop where
  nsn : PySem.W.nsIn K mainGlobals nm = some (some (.ref C))
  rd : PySem.W.readsIn K C (.type "type") = true
  ga : PySem.W.specialIn K (.ref C) "__getattribute__" = some (some (.builtin "type.__getattribute__"))
  pg : PySem.W.plainGet K C Str.empty = true
  hd : PySem.W.hasDictIn K C = true
  po : PySem.W.plainOver K C = true
  sa : PySem.W.findIn K (.ref C) "__setattr__" = some (some (.builtin "object.__setattr__"))
  mks : PySem.W.makesIn K C = true
  kp : PySem.W.keepIn K (.ref C) = true
theorem ClsN.cls {K : PySem.W.Frag} {nm : Str} {C : Addr} (k : ClsN K nm C) : Cls K C := ⟨k.pg, k.hd, k.po, k.sa⟩
/-- a static method -/
structure StK (K : PySem.W.Frag) (C : Addr) (m : Str) (p f : Addr) (rest : List Value) : Prop where
  at_ : PySem.W.findCls K (.ref C) (.type "type") m = some (.get (.builtin "staticmethod.__get__") (.ref p) .none (.ref C))
  rec_ : PySem.W.recIn K p "staticmethod" = some (.ref f :: rest)
theorem StK.sm {K : PySem.W.Frag} {C p f : Addr} {m : Str} {rest : List Value} (s : StK K C m p f rest) : SMet K C (.type "type") m p f := ⟨s.at_, _, s.rec_⟩
end FT


namespace FT
open PySem PySem.Spec PyProof.Rows L2 TL ClX LamX NdefX
section
variable {q : Program} {l : PySem.W.OpenLaw} {w : World} {K : PySem.W.Frag} {h : Heap} {mg : Str → Option Value} {fa : Addr}
theorem all_mk {f_bgA f_dtA f_dpA f_doA f_nmA f_paA f_isn f_isa f_nd f_fi f_phA f_szA f_inu f_beN f_lrA f_duN f_ii f_nu f_fl f_po f_fp f_rs f_nfN f_nsN f_isf f_rsN f_wo f_law p_fl p_fp C_InvalidUsers C_InvalidSizes C_InvalidForest C_Mismatch I_InvalidUsers I_InvalidSizes I_InvalidForest I_Mismatch R c_szA c_law t_szA t_law CF : Addr} {d_bgA d_dtA d_dpA d_doA d_nmA d_paA d_isn d_isa d_nd d_fi d_phA d_szA d_inu d_beN d_lrA d_duN d_ii d_nu d_fl d_po d_fp d_rs d_nfN d_nsN d_isf d_rsN d_wo d_law D_InvalidUsers D_InvalidSizes D_InvalidForest D_Mismatch : FuncData} {tL tT tR tCF : Nat} {r_fl r_fp : List Value} (X : K.In h) (G : h.Ns mainGlobals mg) (hfa : mg "law" = some (.ref fa)) (TO : TabsOf q K h)
    (kCF : ClsK K "Forest" CF 12 tCF)
    (noCF_above : PySem.W.findIn K (.ref CF) "above" = some none)
    (root : PySem.W.findCls K (.ref CF) (.type "type") "ROOT" = some (.val (.str "" tR)))
    (cL : PySem.W.nsIn K mainGlobals "LONGEST" = some (some (.int 8 tL)))
    (cT : PySem.W.nsIn K mainGlobals "LETTERS" = some (some (.str letters tT)))
    (gMC : ∃ t, mg "MOST_COUNTED" = some (.int (10 ^ 30) t))
    (n_bgA : PySem.W.nsIn K mainGlobals "_law_begin" = some (some (.ref f_bgA)))
    (u_bgA : L2.Fun K "_law_begin" "_law_begin" s__law_begin f_bgA d_bgA)
    (n_dtA : PySem.W.nsIn K mainGlobals "_law_take" = some (some (.ref f_dtA)))
    (u_dtA : L2.Fun K "_law_take" "_law_take" s__law_take f_dtA d_dtA)
    (n_dpA : PySem.W.nsIn K mainGlobals "_law_pick" = some (some (.ref f_dpA)))
    (u_dpA : L2.Fun K "_law_pick" "_law_pick" s__law_pick f_dpA d_dpA)
    (n_doA : PySem.W.nsIn K mainGlobals "_law_order" = some (some (.ref f_doA)))
    (u_doA : L2.Fun K "_law_order" "_law_order" s__law_order f_doA d_doA)
    (n_nmA : PySem.W.nsIn K mainGlobals "_law_names" = some (some (.ref f_nmA)))
    (u_nmA : L2.Fun K "_law_names" "_law_names" s__law_names f_nmA d_nmA)
    (n_paA : PySem.W.nsIn K mainGlobals "_law_parents" = some (some (.ref f_paA)))
    (u_paA : L2.Fun K "_law_parents" "_law_parents" s__law_parents f_paA d_paA)
    (n_isn : PySem.W.nsIn K mainGlobals "is_name" = some (some (.ref f_isn)))
    (u_isn : L2.Fun K "is_name" "is_name" s_is_name f_isn d_isn)
    (n_isa : PySem.W.nsIn K mainGlobals "is_ancestor" = some (some (.ref f_isa)))
    (u_isa : L2.Fun K "is_ancestor" "is_ancestor" s_is_ancestor f_isa d_isa)
    (n_nd : PySem.W.nsIn K mainGlobals "need_parents" = some (some (.ref f_nd)))
    (u_nd : L2.Fun K "need_parents" "need_parents" s_need_parents f_nd d_nd)
    (n_phA : PySem.W.nsIn K mainGlobals "_law_path" = some (some (.ref f_phA)))
    (u_phA : L2.Fun K "_law_path" "_law_path" s__law_path f_phA d_phA)
    (n_szA : PySem.W.nsIn K mainGlobals "_law_sizes" = some (some (.ref f_szA)))
    (u_szA : FunC K "_law_sizes" "_law_sizes" s__law_sizes f_szA d_szA c_szA)
    (t1_szA : PySem.W.tabIn K "_law_sizes" = some (c_szA, t_szA))
    (t2_szA : K.lookup t_szA = none)
    (t3_szA : ((recsOf q).find? (fun e => e.name == ("_law_sizes" : Str))).isSome = true)
    (n_inu : PySem.W.nsIn K mainGlobals "_law_is_number" = some (some (.ref f_inu)))
    (u_inu : L2.Fun K "_law_is_number" "_law_is_number" s__law_is_number f_inu d_inu)
    (n_beN : PySem.W.nsIn K mainGlobals "_law_bent" = some (some (.ref f_beN)))
    (u_beN : L2.Fun K "_law_bent" "_law_bent" s__law_bent f_beN d_beN)
    (n_lrA : PySem.W.nsIn K mainGlobals "_law_residents" = some (some (.ref f_lrA)))
    (u_lrA : L2.Fun K "_law_residents" "_law_residents" s__law_residents f_lrA d_lrA)
    (n_duN : PySem.W.nsIn K mainGlobals "_law_due" = some (some (.ref f_duN)))
    (u_duN : L2.Fun K "_law_due" "_law_due" s__law_due f_duN d_duN)
    (n_ii : PySem.W.nsIn K mainGlobals "is_integer" = some (some (.ref f_ii)))
    (u_ii : L2.Fun K "is_integer" "is_integer" s_is_integer f_ii d_ii)
    (n_nu : PySem.W.nsIn K mainGlobals "need_users" = some (some (.ref f_nu)))
    (u_nu : L2.Fun K "need_users" "need_users" s_need_users f_nu d_nu)
    (n_po : PySem.W.nsIn K mainGlobals "places_of" = some (some (.ref f_po)))
    (u_po : L2.Fun K "places_of" "places_of" s_places_of f_po d_po)
    (n_rs : PySem.W.nsIn K mainGlobals "residents_of" = some (some (.ref f_rs)))
    (u_rs : L2.Fun K "residents_of" "residents_of" s_residents_of f_rs d_rs)
    (n_nfN : PySem.W.nsIn K mainGlobals "need_feasible" = some (some (.ref f_nfN)))
    (u_nfN : L2.Fun K "need_feasible" "need_feasible" s_need_feasible f_nfN d_nfN)
    (n_nsN : PySem.W.nsIn K mainGlobals "need_sizes" = some (some (.ref f_nsN)))
    (u_nsN : L2.Fun K "need_sizes" "need_sizes" s_need_sizes f_nsN d_nsN)
    (n_isf : PySem.W.nsIn K mainGlobals "is_feasible" = some (some (.ref f_isf)))
    (u_isf : L2.Fun K "is_feasible" "is_feasible" s_is_feasible f_isf d_isf)
    (n_rsN : PySem.W.nsIn K mainGlobals "residents" = some (some (.ref f_rsN)))
    (u_rsN : L2.Fun K "residents" "residents" s_residents f_rsN d_rsN)
    (n_wo : PySem.W.nsIn K mainGlobals "_law_word" = some (some (.ref f_wo)))
    (u_wo : L2.Fun K "_law_word" "_law_word" s__law_word f_wo d_wo)
    (n_law : PySem.W.nsIn K mainGlobals "law" = some (some (.ref f_law)))
    (u_law : FunC K "law" "law" s_law f_law d_law c_law)
    (t1_law : PySem.W.tabIn K "law" = some (c_law, t_law))
    (t2_law : K.lookup t_law = none)
    (t3_law : ((recsOf q).find? (fun e => e.name == ("law" : Str))).isSome = true)
    (ne_szA_law : t_szA ≠ t_law)
    (m_fi : MetK K CF "__init__" f_fi)
    (m_fl : PrK K CF "flags" p_fl f_fl r_fl)
    (m_fp : PrK K CF "parents" p_fp f_fp r_fp)
    (u_fi : L2.Fun K "__init__" "Forest.__init__" s_Forest___init__ f_fi d_fi)
    (u_fl : L2.Fun K "flags" "Forest.flags" s_Forest_flags f_fl d_fl)
    (u_fp : L2.Fun K "parents" "Forest.parents" s_Forest_parents f_fp d_fp)
    (rt0 : RootF K R)
    (e_InvalidUsers : ClsF K "InvalidUsers" "" C_InvalidUsers I_InvalidUsers R)
    (i_InvalidUsers : L2.Fun K "__init__" "InvalidUsers.__init__" s_InvalidUsers___init__ I_InvalidUsers D_InvalidUsers)
    (e_InvalidSizes : ClsF K "InvalidSizes" "place" C_InvalidSizes I_InvalidSizes R)
    (i_InvalidSizes : L2.Fun K "__init__" "InvalidSizes.__init__" s_InvalidSizes___init__ I_InvalidSizes D_InvalidSizes)
    (e_InvalidForest : ClsF K "InvalidForest" "name" C_InvalidForest I_InvalidForest R)
    (i_InvalidForest : L2.Fun K "__init__" "InvalidForest.__init__" s_InvalidForest___init__ I_InvalidForest D_InvalidForest)
    (e_Mismatch : ClsF K "Mismatch" "" C_Mismatch I_Mismatch R)
    (i_Mismatch : L2.Fun K "__init__" "Mismatch.__init__" s_Mismatch___init__ I_Mismatch D_Mismatch)
    (apart : ∀ i : Fin 4, R ≠ ([C_InvalidUsers, C_InvalidSizes, C_InvalidForest, C_Mismatch] : List Nat).getD i.1 0)
    (dist : ∀ i j : Fin 4, decide (([C_InvalidUsers, C_InvalidSizes, C_InvalidForest, C_Mismatch] : List Nat).getD i.1 0 = ([C_InvalidUsers, C_InvalidSizes, C_InvalidForest, C_Mismatch] : List Nat).getD j.1 0) = decide (i.1 = j.1))
    (z_abs : PySem.W.nsIn K mainGlobals "abs" = some none)
    (z_len : PySem.W.nsIn K mainGlobals "len" = some none)
    (z_rng : PySem.W.nsIn K mainGlobals "range" = some none)
    (z_enu : PySem.W.nsIn K mainGlobals "enumerate" = some none)
    (z_zip : PySem.W.nsIn K mainGlobals "zip" = some none)
    (z_isi : PySem.W.nsIn K mainGlobals "isinstance" = some none)
    (z_all : PySem.W.nsIn K mainGlobals "all" = some none)
    (z_srt : PySem.W.nsIn K mainGlobals "sorted" = some none)
    (z_lst : PySem.W.nsIn K mainGlobals "list" = some none)
    (z_dct : PySem.W.nsIn K mainGlobals "dict" = some none)
    (z_str : PySem.W.nsIn K mainGlobals "str" = some none)
    (z_int : PySem.W.nsIn K mainGlobals "int" = some none)
    (z_tup : PySem.W.nsIn K mainGlobals "tuple" = some none)
    (z_sum : PySem.W.nsIn K mainGlobals "sum" = some none)
    (z_min : PySem.W.nsIn K mainGlobals "min" = some none)
    (z_max : PySem.W.nsIn K mainGlobals "max" = some none)
    (z_rep : PySem.W.nsIn K mainGlobals "repr" = some none)
    (z_bool : PySem.W.nsIn K mainGlobals "bool" = some none)
    (z_any : PySem.W.nsIn K mainGlobals "any" = some none)
    (z_vE : PySem.W.nsIn K mainGlobals "ValueError" = some none)
    : LawTG l w K 10 63 "_law_script" mg fa h := by
  cases hfa.symm.trans (PySem.W.mg_of X G n_law)
  have N : Nm mg := ⟨PySem.W.mg_none_of X G z_abs, PySem.W.mg_none_of X G z_len, PySem.W.mg_none_of X G z_rng, PySem.W.mg_none_of X G z_enu, PySem.W.mg_none_of X G z_zip, PySem.W.mg_none_of X G z_isi, PySem.W.mg_none_of X G z_all, PySem.W.mg_none_of X G z_srt, PySem.W.mg_none_of X G z_lst, PySem.W.mg_none_of X G z_dct, PySem.W.mg_none_of X G z_str, PySem.W.mg_none_of X G z_int, PySem.W.mg_none_of X G z_tup, PySem.W.mg_none_of X G z_sum, PySem.W.mg_none_of X G z_min, PySem.W.mg_none_of X G z_max, PySem.W.mg_none_of X G z_rep, PySem.W.mg_none_of X G z_bool, PySem.W.mg_none_of X G z_any, PySem.W.mg_none_of X G z_vE⟩
  have Cs_ : Cs mg := ⟨⟨_, PySem.W.mg_of X G cL⟩, ⟨_, PySem.W.mg_of X G cT⟩⟩
  obtain ⟨tm, gM⟩ := gMC
  have O : FoC K CF := ⟨kCF.cls, noCF_above⟩
  have Z : Fc K mg CF (.type "type") := kCF.fc X G root
  have b_bgA := u_bgA.binds (ps := ["_law_script"]) fun _ _ _ _ _ _ us hl => match us, hl with | [_], _ => rfl
  have b_dtA := u_dtA.binds (ps := ["_law_draw", "_law_size"]) fun _ _ _ _ _ _ us hl => match us, hl with | [_, _], _ => rfl
  have b_dpA := u_dpA.binds (ps := ["_law_draw", "_law_some"]) fun _ _ _ _ _ _ us hl => match us, hl with | [_, _], _ => rfl
  have b_doA := u_doA.binds (ps := ["_law_draw", "_law_some"]) fun _ _ _ _ _ _ us hl => match us, hl with | [_, _], _ => rfl
  have b_nmA := u_nmA.binds (ps := ["_law_draw", "_law_many"]) fun _ _ _ _ _ _ us hl => match us, hl with | [_, _], _ => rfl
  have b_paA := u_paA.binds (ps := ["_law_draw", "_law_many"]) fun _ _ _ _ _ _ us hl => match us, hl with | [_, _], _ => rfl
  have b_isn := u_isn.binds (ps := ["value"]) fun _ _ _ _ _ _ us hl => match us, hl with | [_], _ => rfl
  have b_isa := u_isa.binds (ps := ["parents", "name"]) fun _ _ _ _ _ _ us hl => match us, hl with | [_, _], _ => rfl
  have b_nd := u_nd.binds (ps := ["parents"]) fun _ _ _ _ _ _ us hl => match us, hl with | [_], _ => rfl
  have b_fi := u_fi.binds (ps := ["self", "parents"]) fun _ _ _ _ _ _ us hl => match us, hl with | [_, _], _ => rfl
  have b_phA := u_phA.binds (ps := ["_law_above", "_law_spot"]) fun _ _ _ _ _ _ us hl => match us, hl with | [_, _], _ => rfl
  have b_szA := (u_szA.fun).binds (ps := ["_law_draw", "_law_above", "_law_many"]) fun _ _ _ _ _ _ us hl => match us, hl with | [_, _, _], _ => rfl
  have b_inu := u_inu.binds (ps := ["_law_item"]) fun _ _ _ _ _ _ us hl => match us, hl with | [_], _ => rfl
  have b_beN := u_beN.binds (ps := ["_law_draw", "_law_above", "_law_item"]) fun _ _ _ _ _ _ us hl => match us, hl with | [_, _, _], _ => rfl
  have b_lrA := u_lrA.binds (ps := ["_law_above", "_law_many", "_law_how"]) fun _ _ _ _ _ _ us hl => match us, hl with | [_, _, _], _ => rfl
  have b_duN := u_duN.binds (ps := ["_law_above", "_law_many", "_law_item"]) fun _ _ _ _ _ _ us hl => match us, hl with | [_, _, _], _ => rfl
  have b_ii := u_ii.binds (ps := ["value", "least"]) fun _ _ _ _ _ _ us hl => match us, hl with | [_, _], _ => rfl
  have b_nu := u_nu.binds (ps := ["users", "most"]) fun _ _ _ _ _ _ us hl => match us, hl with | [_, _], _ => rfl
  have b_fl := u_fl.binds (ps := ["self"]) fun _ _ _ _ _ _ us hl => match us, hl with | [_], _ => rfl
  have b_po := u_po.binds (ps := ["forest"]) fun _ _ _ _ _ _ us hl => match us, hl with | [_], _ => rfl
  have b_fp := u_fp.binds (ps := ["self"]) fun _ _ _ _ _ _ us hl => match us, hl with | [_], _ => rfl
  have b_rs := u_rs.binds (ps := ["forest", "users", "sizes"]) fun _ _ _ _ _ _ us hl => match us, hl with | [_, _, _], _ => rfl
  have b_nfN := u_nfN.binds (ps := ["forest", "users", "sizes"]) fun _ _ _ _ _ _ us hl => match us, hl with | [_, _, _], _ => rfl
  have b_nsN := u_nsN.binds (ps := ["forest", "users", "sizes"]) fun _ _ _ _ _ _ us hl => match us, hl with | [_, _, _], _ => rfl
  have b_isf := u_isf.binds (ps := ["forest", "users", "sizes"]) fun _ _ _ _ _ _ us hl => match us, hl with | [_, _, _], _ => rfl
  have b_rsN := u_rsN.binds (ps := ["forest", "users", "sizes"]) fun _ _ _ _ _ _ us hl => match us, hl with | [_, _, _], _ => rfl
  have b_wo := u_wo.binds (ps := ["_law_work"]) fun _ _ _ _ _ _ us hl => match us, hl with | [_], _ => rfl
  have g_bgA := PySem.W.mg_of X G n_bgA
  have g_dtA := PySem.W.mg_of X G n_dtA
  have g_dpA := PySem.W.mg_of X G n_dpA
  have g_doA := PySem.W.mg_of X G n_doA
  have g_nmA := PySem.W.mg_of X G n_nmA
  have g_paA := PySem.W.mg_of X G n_paA
  have g_isn := PySem.W.mg_of X G n_isn
  have g_isa := PySem.W.mg_of X G n_isa
  have g_nd := PySem.W.mg_of X G n_nd
  have g_phA := PySem.W.mg_of X G n_phA
  have g_szA := PySem.W.mg_of X G n_szA
  have g_inu := PySem.W.mg_of X G n_inu
  have g_beN := PySem.W.mg_of X G n_beN
  have g_lrA := PySem.W.mg_of X G n_lrA
  have g_duN := PySem.W.mg_of X G n_duN
  have g_ii := PySem.W.mg_of X G n_ii
  have g_nu := PySem.W.mg_of X G n_nu
  have g_po := PySem.W.mg_of X G n_po
  have g_rs := PySem.W.mg_of X G n_rs
  have g_nfN := PySem.W.mg_of X G n_nfN
  have g_nsN := PySem.W.mg_of X G n_nsN
  have g_isf := PySem.W.mg_of X G n_isf
  have g_rsN := PySem.W.mg_of X G n_rsN
  have g_wo := PySem.W.mg_of X G n_wo
  have rt := rt0.rt X G
  have at_ : ∀ i, i < 4 → ClsAt K (([C_InvalidUsers, C_InvalidSizes, C_InvalidForest, C_Mismatch] : List Nat).getD i 0) (.ref R :: exTail) := fun i hi => match i, hi with
    | 0, _ => e_InvalidUsers.at_
    | 1, _ => e_InvalidSizes.at_
    | 2, _ => e_InvalidForest.at_
    | 3, _ => e_Mismatch.at_
  have xs_ : ∀ i, i < 4 → XCls K (([C_InvalidUsers, C_InvalidSizes, C_InvalidForest, C_Mismatch] : List Nat).getD i 0) := fun i hi => match i, hi with
    | 0, _ => e_InvalidUsers.x rt0
    | 1, _ => e_InvalidSizes.x rt0
    | 2, _ => e_InvalidForest.x rt0
    | 3, _ => e_Mismatch.x rt0
  have kits : ∀ i j, i < 4 → j < 4 → PySem.W.kitOne K (.ref (([C_InvalidUsers, C_InvalidSizes, C_InvalidForest, C_Mismatch] : List Nat).getD i 0)) (.ref (([C_InvalidUsers, C_InvalidSizes, C_InvalidForest, C_Mismatch] : List Nat).getD j 0)) = some (decide (i = j)) := fun i j hi hj => by rw [(at_ i hi).kit (at_ j hj), has_cls (dist ⟨i, hi⟩ ⟨j, hj⟩) (apart ⟨j, hj⟩)]
  have exs : ∀ i j, i < 4 → j < 4 → PySem.W.exmOne K (.ref (([C_InvalidUsers, C_InvalidSizes, C_InvalidForest, C_Mismatch] : List Nat).getD i 0)) (.ref (([C_InvalidUsers, C_InvalidSizes, C_InvalidForest, C_Mismatch] : List Nat).getD j 0)) = some (decide (i = j)) := fun i j hi hj => by rw [(at_ i hi).exm (at_ j hj) rfl, has_cls (dist ⟨i, hi⟩ ⟨j, hj⟩) (apart ⟨j, hj⟩)]
  obtain ⟨T, eT⟩ : ∃ T : List (Addr × Str), T = [(t_szA, lamQ "_law_sizes"), (t_law, lamQ "law")] := ⟨_, rfl⟩
  have m_szA : (t_szA, lamQ "_law_sizes") ∈ T := by rw [eT]; simp
  have un_szA : ∀ p ∈ T, p.1 = t_szA → p.2 = lamQ "_law_sizes" := fun p hp e => by
    rw [eT] at hp
    simp only [List.mem_cons, List.not_mem_nil, or_false] at hp
    rcases hp with rfl | rfl
    · rfl
    · exact absurd e (Ne.symm ne_szA_law)
  have m_law : (t_law, lamQ "law") ∈ T := by rw [eT]; simp
  have un_law : ∀ p ∈ T, p.1 = t_law → p.2 = lamQ "law" := fun p hp e => by
    rw [eT] at hp
    simp only [List.mem_cons, List.not_mem_nil, or_false] at hp
    rcases hp with rfl | rfl
    · exact absurd e ne_szA_law
    · rfl
  refine ⟨d_law, ([(c_szA, t_szA), (c_law, t_law)] : List (Addr × Addr)), spLaw03 K T, fun p hp => ?_, fun s u => ?_, fun H a ns hl hts hS => ?_, fun base KB GB TBs => ?_⟩
  · simp only [List.mem_cons, List.not_mem_nil, or_false] at hp
    rcases hp with rfl | rfl
    · exact ⟨(TO _ _ _ t3_szA t1_szA).1, (TO _ _ _ t3_szA t1_szA).2, t2_szA⟩
    · exact ⟨(TO _ _ _ t3_law t1_law).1, (TO _ _ _ t3_law t1_law).2, t2_law⟩
  · obtain ⟨oc, od, kV, doc, pm, an, cdv, ct, osl, rfl, lk, hcd⟩ := u_law.fun.ex
    exact .of_eq rfl
  · refine ⟨a, ns, rfl, hS, hl, ?_, fun _ => rfl⟩
    intro p hp
    rw [eT] at hp
    simp only [List.mem_cons, List.not_mem_nil, or_false] at hp
    rcases hp with rfl | rfl
    · exact TabS.nil (hts (c_szA, t_szA) (by simp))
    · exact TabS.nil (hts (c_law, t_law) (by simp))
  have E_InvalidUsers : Er0 l.prog w K mg base "InvalidUsers" C_InvalidUsers I_InvalidUsers D_InvalidUsers := ⟨e_InvalidUsers.er X G rt0, ok_InvalidUsers i_InvalidUsers rt (e_InvalidUsers.er X G rt0), i_InvalidUsers.binds (ps := ["self"]) fun _ _ _ _ _ _ us hl => match us, hl with | [_], _ => rfl⟩
  have E_InvalidSizes : Er1 l.prog w K mg base "InvalidSizes" "place" C_InvalidSizes I_InvalidSizes D_InvalidSizes := ⟨e_InvalidSizes.er X G rt0, ok_InvalidSizes i_InvalidSizes rt (e_InvalidSizes.er X G rt0), i_InvalidSizes.binds (ps := ["self", "place"]) fun _ _ _ _ _ _ us hl => match us, hl with | [_, _], _ => rfl⟩
  have D_bgA : Dn l.prog w K mg base CX0 1 "_law_begin" ["_law_script"] (spBegin K) f_bgA d_bgA := ⟨ok_begin u_bgA N, u_bgA.kp, b_bgA, g_bgA⟩
  have D_dtA : Dn l.prog w K mg base CX0 1 "_law_take" ["_law_draw", "_law_size"] (spDraw) f_dtA d_dtA := ⟨ok_draw u_dtA N, u_dtA.kp, b_dtA, g_dtA⟩
  have D_dpA : Dn l.prog w K mg base CX0 2 "_law_pick" ["_law_draw", "_law_some"] (spPick K) f_dpA d_dpA := ⟨ok_pick u_dpA N u_dtA b_dtA g_dtA, u_dpA.kp, b_dpA, g_dpA⟩
  have D_doA : Dn l.prog w K mg base CX0 2 "_law_order" ["_law_draw", "_law_some"] (spOrder K) f_doA d_doA := ⟨ok_order u_doA N u_dtA b_dtA g_dtA, u_doA.kp, b_doA, g_doA⟩
  have D_nmA : Dn l.prog w K mg base CX0 3 "_law_names" ["_law_draw", "_law_many"] (spNames) f_nmA d_nmA := ⟨ok_names u_nmA N u_dtA b_dtA g_dtA u_doA b_doA g_doA, u_nmA.kp, b_nmA, g_nmA⟩
  have D_paA : Dn l.prog w K mg base CX0 4 "_law_parents" ["_law_draw", "_law_many"] (spParents) f_paA d_paA := ⟨ok_parents u_paA N D_dtA D_dpA D_doA D_nmA, u_paA.kp, b_paA, g_paA⟩
  have D_isn : Dn l.prog w K mg base CX0 1 "is_name" ["value"] (spIsName) f_isn d_isn := ⟨ok_isName u_isn N Cs_, u_isn.kp, b_isn, g_isn⟩
  have D_isa : Dn l.prog w K mg base CX0 1 "is_ancestor" ["parents", "name"] (spIsAnc) f_isa d_isa := ⟨ok_isAnc u_isa, u_isa.kp, b_isa, g_isa⟩
  have D_nd : Dn l.prog w K mg base CX0 2 "need_parents" ["parents"] (spNeed) f_nd d_nd := ⟨ok_need u_nd N Cs_ Z D_isn D_isa, u_nd.kp, b_nd, g_nd⟩
  have F_fi : FnOk l.prog w K mg base CX0 3 f_fi d_fi ["self", "parents"] (spFInit CF) := ok_finit u_fi N O D_nd
  have MK_fi : Mk K CF f_fi := ⟨kCF.mks, m_fi.at_, m_fi.fn, kCF.kp⟩
  have D_phA : Dn l.prog w K mg base CX0 1 "_law_path" ["_law_above", "_law_spot"] (spPath) f_phA d_phA := ⟨ok_path u_phA, u_phA.kp, b_phA, g_phA⟩
  have D_szA : Dn l.prog w K mg base CX0 5 "_law_sizes" ["_law_draw", "_law_above", "_law_many"] (spSizes T) f_szA d_szA := ⟨ok_sizes u_szA N D_dtA D_dpA D_doA D_phA (TBs (c_szA, t_szA) (by simp)) m_szA un_szA, u_szA.kp, b_szA, g_szA⟩
  have D_inu : Dn l.prog w K mg base CX0 1 "_law_is_number" ["_law_item"] (spIsNum K) f_inu d_inu := ⟨ok_isNum u_inu N, u_inu.kp, b_inu, g_inu⟩
  have D_beN : Dn l.prog w K mg base CX0 3 "_law_bent" ["_law_draw", "_law_above", "_law_item"] (spBentN l.prog w K) f_beN d_beN := ⟨ok_bentN u_beN N D_dtA D_dpA D_inu, u_beN.kp, b_beN, g_beN⟩
  have D_lrA : Dn l.prog w K mg base CX0 1 "_law_residents" ["_law_above", "_law_many", "_law_how"] (spLawRes) f_lrA d_lrA := ⟨ok_lawRes u_lrA N, u_lrA.kp, b_lrA, g_lrA⟩
  have D_duN : Dn l.prog w K mg base CX0 2 "_law_due" ["_law_above", "_law_many", "_law_item"] (spDueN l.prog w K) f_duN d_duN := ⟨ok_dueN u_duN N D_inu D_lrA, u_duN.kp, b_duN, g_duN⟩
  have D_ii : Dn l.prog w K mg base CX0 1 "is_integer" ["value", "least"] (spIsInt K) f_ii d_ii := ⟨ok_isInt u_ii N, u_ii.kp, b_ii, g_ii⟩
  have D_nu : Dn l.prog w K mg base (L2.CX l.prog w) 3 "need_users" ["users", "most"] (spUsers K C_InvalidUsers) f_nu d_nu := ⟨ok_users u_nu N D_ii E_InvalidUsers, u_nu.kp, b_nu, g_nu⟩
  have P_fl : Pr1 l.prog w K mg base CF "flags" (spFFlags CF) p_fl f_fl d_fl := ⟨⟨m_fl.at_, m_fl.get, m_fl.tak, ⟨_, m_fl.rec_⟩⟩, ok_fflags u_fl N O, b_fl⟩
  have D_po : Dn l.prog w K mg base CX0 3 "places_of" ["forest"] (spPlacesOf CF) f_po d_po := ⟨ok_placesOf u_po N O Z P_fl, u_po.kp, b_po, g_po⟩
  have P_fp : Pr1 l.prog w K mg base CF "parents" (spFParents CF) p_fp f_fp d_fp := ⟨⟨m_fp.at_, m_fp.get, m_fp.tak, ⟨_, m_fp.rec_⟩⟩, ok_fparents u_fp N O, b_fp⟩
  have D_rs : Dn l.prog w K mg base CX0 4 "residents_of" ["forest", "users", "sizes"] (spResid CF) f_rs d_rs := ⟨ok_resid u_rs N O Z D_po P_fl P_fp, u_rs.kp, b_rs, g_rs⟩
  have D_nfN : Dn l.prog w K mg base (L2.CX l.prog w) 5 "need_feasible" ["forest", "users", "sizes"] (spFeasN l.prog w K CF C_InvalidSizes) f_nfN d_nfN := ⟨ok_feasN u_nfN N O E_InvalidSizes D_rs D_ii P_fl, u_nfN.kp, b_nfN, g_nfN⟩
  have D_nsN : Dn l.prog w K mg base (L2.CX l.prog w) 6 "need_sizes" ["forest", "users", "sizes"] (spNSizesN l.prog w K CF C_InvalidUsers C_InvalidSizes) f_nsN d_nsN := ⟨ok_nsizesN u_nsN gM D_nu D_nfN, u_nsN.kp, b_nsN, g_nsN⟩
  have D_isf : Dn l.prog w K mg base (L2.CX l.prog w) 6 "is_feasible" ["forest", "users", "sizes"] (spIsFea l.prog w K CF C_InvalidUsers) f_isf d_isf := ⟨ok_isFea u_isf gM D_nu D_nfN (PySem.W.mg_of X G e_InvalidSizes.nsn) (exs 1 1 (by decide) (by decide)), u_isf.kp, b_isf, g_isf⟩
  have D_rsN : Dn l.prog w K mg base (L2.CX l.prog w) 7 "residents" ["forest", "users", "sizes"] (spResN l.prog w K CF C_InvalidUsers C_InvalidSizes) f_rsN d_rsN := ⟨ok_resN u_rsN D_nsN D_rs, u_rsN.kp, b_rsN, g_rsN⟩
  have GW : Ge K mg "_law_word" s__law_word f_wo d_wo := ⟨u_wo, b_wo, g_wo⟩
  have C4 : Cl4 K mg R (fun i => ([C_InvalidUsers, C_InvalidSizes, C_InvalidForest, C_Mismatch] : List Nat).getD i 0) := ⟨rt.g, fun i hi => match i, hi with
    | 0, _ => PySem.W.mg_of X G e_InvalidUsers.nsn
    | 1, _ => PySem.W.mg_of X G e_InvalidSizes.nsn
    | 2, _ => PySem.W.mg_of X G e_InvalidForest.nsn
    | 3, _ => PySem.W.mg_of X G e_Mismatch.nsn, fun i hi => xs_ i (by omega), fun i j hi hj => kits i j (by omega) hj, fun i hi => kit_bt (at_ i (by omega)), fun i hi => by rw [(at_ i (by omega)).exm rt0.at_ rfl, has_root], e_InvalidSizes.no⟩
  have W : W03 l.prog w K mg base CF C_InvalidUsers C_InvalidSizes (.type "type") T (fun i => ([f_bgA, f_dtA, f_dpA, f_paA, f_fi, f_szA, f_beN, f_duN, f_lrA, f_nsN, f_isf, f_rsN] : List Nat).getD i 0) (fun i => ([d_bgA, d_dtA, d_dpA, d_paA, d_fi, d_szA, d_beN, d_duN, d_lrA, d_nsN, d_isf, d_rsN] : List FuncData).getD i d_bgA) := { Z := Z, bg := D_bgA, dt := D_dtA, dp := D_dpA, pa := D_paA, fi := F_fi, fim := MK_fi, fib := b_fi, sz := D_szA, be := D_beN, du := D_duN, lr := D_lrA, ns := D_nsN, nsk := kw3 u_nsN (fun _ _ _ _ _ _ _ _ _ => rfl), isf := D_isf, isk := kw3 u_isf (fun _ _ _ _ _ _ _ _ _ => rfl), rs := D_rsN, rsk := kwR3 u_rsN (fun _ _ _ _ _ _ _ _ _ => rfl) }
  exact ok_law03 u_law N W GW C4 rfl rfl (TBs (c_law, t_law) (by simp)) m_law un_law
end
theorem walk {l : PySem.W.OpenLaw} {q : Program} {loose : List Str} {XP : (Str → Option Value) → Heap → Prop} {YP : World → Heap → Prop} {d : DefRec} {K : Params → PySem.W.Frag} (hn : l.most = some 63) (hdf : d.params.defaults = [])
    (hY : ∀ (w : World) (h : Heap), YP w h → (K w.params).In h)
    (F : ∀ (w : World) (mg : Str → Option Value) (fa : Addr) (h : Heap), (K w.params).In h → h.Ns mainGlobals mg → mg d.name = some (.ref fa) → TabsOf q (K w.params) h → XP mg h → LawTG l w (K w.params) 10 63 "_law_script" mg fa h) :
    PySem.W.WalkO q loose XP YP l.row.toRowW d [] (fun f vs => PySem.call f vs) :=
  walk_tabG (n := 63) (k := 10) (x := "_law_script") hn (by decide) hdf ⟨rfl, by decide, by decide⟩ hY F
end FT


open PySem PySem.W PyProof.Rows
set_option maxRecDepth 100000 in
set_option maxHeartbeats 0 in
theorem PySem.Challenge.cw_flagtrees_k03_sizes_holds : PySem.Challenge.rw_flagtrees_k03_sizes.Holds := by
  w_on; o_law; k_head; (case hw => w_witness2)
  k_fill
  refine FT.walk (l := PySem.Challenge.rw_flagtrees_k03_sizes) rfl rfl (fun w h Y => PySem.W.km_in_of Y) ?F
  case F =>
    intro w mg fa h KX G hm TO XX
    have hmg : mg "law" = some (.ref fa) := hm
    clear hm
    refine' FT.all_mk KX G hmg TO ?kCF ?noCF_above ?root ?cL ?cT ?gMC ?n_bgA ?u_bgA ?n_dtA ?u_dtA ?n_dpA ?u_dpA ?n_doA ?u_doA ?n_nmA ?u_nmA ?n_paA ?u_paA ?n_isn ?u_isn ?n_isa ?u_isa ?n_nd ?u_nd ?n_phA ?u_phA ?n_szA ?u_szA ?t1_szA ?t2_szA ?t3_szA ?n_inu ?u_inu ?n_beN ?u_beN ?n_lrA ?u_lrA ?n_duN ?u_duN ?n_ii ?u_ii ?n_nu ?u_nu ?n_po ?u_po ?n_rs ?u_rs ?n_nfN ?u_nfN ?n_nsN ?u_nsN ?n_isf ?u_isf ?n_rsN ?u_rsN ?n_wo ?u_wo ?n_law ?u_law ?t1_law ?t2_law ?t3_law ?ne_szA_law ?m_fi ?m_fl ?m_fp ?u_fi ?u_fl ?u_fp ?rt0 ?e_InvalidUsers ?i_InvalidUsers ?e_InvalidSizes ?i_InvalidSizes ?e_InvalidForest ?i_InvalidForest ?e_Mismatch ?i_Mismatch ?apart ?dist ?z_abs ?z_len ?z_rng ?z_enu ?z_zip ?z_isi ?z_all ?z_srt ?z_lst ?z_dct ?z_str ?z_int ?z_tup ?z_sum ?z_min ?z_max ?z_rep ?z_bool ?z_any ?z_vE
    (case kCF => (refine' ⟨?nsn, ?rd, ?ga, ?most, ?pg, ?hd, ?po, ?sa, ?mks, ?kp, ?ha, ?hn, ?ht, ?hm⟩; (case nsn => k_is); (case rd => k_is); (case ga => k_is); (case most => k_is); (case pg => k_is); (case hd => k_is); (case po => k_is); (case sa => k_is); (case mks => k_is); (case kp => k_is); (case ha => k_is); (case hn => k_is); (case ht => k_is); (case hm => k_is)))
    (case noCF_above => k_is)
    (case root => k_is)
    (case cL => k_is)
    (case cT => k_is)
    (case gMC => (rw [show (10 : Int) ^ 30 = 1000000000000000000000000000000 by decide]; exact FT.loose_int XX (List.mem_cons_self ..)))
    (case n_bgA => k_is)
    (case u_bgA => (refine' L2.fun_mk ?l ?c ?k; (case l => k_is); (case c => k_is); (case k => k_is)))
    (case n_dtA => k_is)
    (case u_dtA => (refine' L2.fun_mk ?l ?c ?k; (case l => k_is); (case c => k_is); (case k => k_is)))
    (case n_dpA => k_is)
    (case u_dpA => (refine' L2.fun_mk ?l ?c ?k; (case l => k_is); (case c => k_is); (case k => k_is)))
    (case n_doA => k_is)
    (case u_doA => (refine' L2.fun_mk ?l ?c ?k; (case l => k_is); (case c => k_is); (case k => k_is)))
    (case n_nmA => k_is)
    (case u_nmA => (refine' L2.fun_mk ?l ?c ?k; (case l => k_is); (case c => k_is); (case k => k_is)))
    (case n_paA => k_is)
    (case u_paA => (refine' L2.fun_mk ?l ?c ?k; (case l => k_is); (case c => k_is); (case k => k_is)))
    (case n_isn => k_is)
    (case u_isn => (refine' L2.fun_mk ?l ?c ?k; (case l => k_is); (case c => k_is); (case k => k_is)))
    (case n_isa => k_is)
    (case u_isa => (refine' L2.fun_mk ?l ?c ?k; (case l => k_is); (case c => k_is); (case k => k_is)))
    (case n_nd => k_is)
    (case u_nd => (refine' L2.fun_mk ?l ?c ?k; (case l => k_is); (case c => k_is); (case k => k_is)))
    (case n_phA => k_is)
    (case u_phA => (refine' L2.fun_mk ?l ?c ?k; (case l => k_is); (case c => k_is); (case k => k_is)))
    (case n_szA => k_is)
    (case u_szA => (refine' L2.funC_mk ?l ?e ?k; (case l => k_is); (case e => k_is); (case k => k_is)))
    (case t1_szA => rfl)
    (case t2_szA => rfl)
    (case t3_szA => rfl)
    (case n_inu => k_is)
    (case u_inu => (refine' L2.fun_mk ?l ?c ?k; (case l => k_is); (case c => k_is); (case k => k_is)))
    (case n_beN => k_is)
    (case u_beN => (refine' L2.fun_mk ?l ?c ?k; (case l => k_is); (case c => k_is); (case k => k_is)))
    (case n_lrA => k_is)
    (case u_lrA => (refine' L2.fun_mk ?l ?c ?k; (case l => k_is); (case c => k_is); (case k => k_is)))
    (case n_duN => k_is)
    (case u_duN => (refine' L2.fun_mk ?l ?c ?k; (case l => k_is); (case c => k_is); (case k => k_is)))
    (case n_ii => k_is)
    (case u_ii => (refine' L2.fun_mk ?l ?c ?k; (case l => k_is); (case c => k_is); (case k => k_is)))
    (case n_nu => k_is)
    (case u_nu => (refine' L2.fun_mk ?l ?c ?k; (case l => k_is); (case c => k_is); (case k => k_is)))
    (case n_po => k_is)
    (case u_po => (refine' L2.fun_mk ?l ?c ?k; (case l => k_is); (case c => k_is); (case k => k_is)))
    (case n_rs => k_is)
    (case u_rs => (refine' L2.fun_mk ?l ?c ?k; (case l => k_is); (case c => k_is); (case k => k_is)))
    (case n_nfN => k_is)
    (case u_nfN => (refine' L2.fun_mk ?l ?c ?k; (case l => k_is); (case c => k_is); (case k => k_is)))
    (case n_nsN => k_is)
    (case u_nsN => (refine' L2.fun_mk ?l ?c ?k; (case l => k_is); (case c => k_is); (case k => k_is)))
    (case n_isf => k_is)
    (case u_isf => (refine' L2.fun_mk ?l ?c ?k; (case l => k_is); (case c => k_is); (case k => k_is)))
    (case n_rsN => k_is)
    (case u_rsN => (refine' L2.fun_mk ?l ?c ?k; (case l => k_is); (case c => k_is); (case k => k_is)))
    (case n_wo => k_is)
    (case u_wo => (refine' L2.fun_mk ?l ?c ?k; (case l => k_is); (case c => k_is); (case k => k_is)))
    (case n_law => k_is)
    (case u_law => (refine' L2.funC_mk ?l ?e ?k; (case l => k_is); (case e => k_is); (case k => k_is)))
    (case t1_law => rfl)
    (case t2_law => rfl)
    (case t3_law => rfl)
    (case ne_szA_law => decide)
    (case m_fi => (refine' ⟨?at_, ?fn⟩; (case at_ => k_is); (case fn => k_is)))
    (case m_fl => (refine' ⟨?at_, ?get, ?tak, ?rec_⟩; (case at_ => k_is); (case get => k_is); (case tak => k_is); (case rec_ => k_is)))
    (case m_fp => (refine' ⟨?at_, ?get, ?tak, ?rec_⟩; (case at_ => k_is); (case get => k_is); (case tak => k_is); (case rec_ => k_is)))
    (case u_fi => (refine' L2.fun_mk ?l ?c ?k; (case l => k_is); (case c => k_is); (case k => k_is)))
    (case u_fl => (refine' L2.fun_mk ?l ?c ?k; (case l => k_is); (case c => k_is); (case k => k_is)))
    (case u_fp => (refine' L2.fun_mk ?l ?c ?k; (case l => k_is); (case c => k_is); (case k => k_is)))
    (case rt0 => (refine' ⟨?nsn, ?at_, ?rd, ?ga, ?ini, ?hn, ?ht⟩; (case nsn => k_is); (case at_ => (refine' ⟨_, _, _, _, _, _, _, _, _, _, _, _, _, _, ?xl⟩; (case xl => rfl))); (case rd => k_is); (case ga => k_is); (case ini => k_is); (case hn => k_is); (case ht => k_is)))
    (case e_InvalidUsers => (refine' ⟨?nsn, ?at_, ?sa, ?ga, ?gg, ?ha, ?kC, ?no, ?ini, ?ity⟩; (case nsn => k_is); (case at_ => (refine' ⟨_, _, _, _, _, _, _, _, _, _, _, _, _, _, ?xl⟩; (case xl => rfl))); (case sa => k_is); (case ga => k_is); (case gg => k_is); (case ha => k_is); (case kC => k_is); (case no => k_is); (case ini => k_is); (case ity => k_is)))
    (case i_InvalidUsers => (refine' L2.fun_mk ?l ?c ?k; (case l => k_is); (case c => k_is); (case k => k_is)))
    (case e_InvalidSizes => (refine' ⟨?nsn, ?at_, ?sa, ?ga, ?gg, ?ha, ?kC, ?no, ?ini, ?ity⟩; (case nsn => k_is); (case at_ => (refine' ⟨_, _, _, _, _, _, _, _, _, _, _, _, _, _, ?xl⟩; (case xl => rfl))); (case sa => k_is); (case ga => k_is); (case gg => k_is); (case ha => k_is); (case kC => k_is); (case no => k_is); (case ini => k_is); (case ity => k_is)))
    (case i_InvalidSizes => (refine' L2.fun_mk ?l ?c ?k; (case l => k_is); (case c => k_is); (case k => k_is)))
    (case e_InvalidForest => (refine' ⟨?nsn, ?at_, ?sa, ?ga, ?gg, ?ha, ?kC, ?no, ?ini, ?ity⟩; (case nsn => k_is); (case at_ => (refine' ⟨_, _, _, _, _, _, _, _, _, _, _, _, _, _, ?xl⟩; (case xl => rfl))); (case sa => k_is); (case ga => k_is); (case gg => k_is); (case ha => k_is); (case kC => k_is); (case no => k_is); (case ini => k_is); (case ity => k_is)))
    (case i_InvalidForest => (refine' L2.fun_mk ?l ?c ?k; (case l => k_is); (case c => k_is); (case k => k_is)))
    (case e_Mismatch => (refine' ⟨?nsn, ?at_, ?sa, ?ga, ?gg, ?ha, ?kC, ?no, ?ini, ?ity⟩; (case nsn => k_is); (case at_ => (refine' ⟨_, _, _, _, _, _, _, _, _, _, _, _, _, _, ?xl⟩; (case xl => rfl))); (case sa => k_is); (case ga => k_is); (case gg => k_is); (case ha => k_is); (case kC => k_is); (case no => k_is); (case ini => k_is); (case ity => k_is)))
    (case i_Mismatch => (refine' L2.fun_mk ?l ?c ?k; (case l => k_is); (case c => k_is); (case k => k_is)))
    (case apart => decide +kernel)
    (case dist => decide +kernel)
    (case z_abs => k_is)
    (case z_len => k_is)
    (case z_rng => k_is)
    (case z_enu => k_is)
    (case z_zip => k_is)
    (case z_isi => k_is)
    (case z_all => k_is)
    (case z_srt => k_is)
    (case z_lst => k_is)
    (case z_dct => k_is)
    (case z_str => k_is)
    (case z_int => k_is)
    (case z_tup => k_is)
    (case z_sum => k_is)
    (case z_min => k_is)
    (case z_max => k_is)
    (case z_rep => k_is)
    (case z_bool => k_is)
    (case z_any => k_is)
    (case z_vE => k_is)
