import PyProof.Rows.All
import Wide.All
import OpenK.AllK
import Wide.FinOn
import KE.KExcSuper
import HandS.ForMost
import HandS.ForExc
import HandS.TryMany
import HandS.IsInst
import HandS.Walk
import PySem.Challenge.RW_onesilent_k85_whole_pattern_texts_bent
set_option Elab.async false
set_option linter.all false
set_option maxRecDepth 100000
set_option maxHeartbeats 2000000
/-! Two own errors whose __init__ says super().__init__(a text): what a call of such a class leaves. -/
namespace PySem
namespace E85
open PySem.W PySem.Calls PyProof.Rows PySem.HandSPX

/-- super().__init__(t) -/
def supSt (t : Str) (p0 p1 p2 p3 p4 p5 : Pos) : Stmt :=
  .Expr (.Call (.Attribute (.Call (.Name "super" p0) [] [] p1) "__init__" p2) [.Constant (.str t) 0 p3] [] p4) p5
/-- self.line = line -/
def fldSt (q0 q1 q2 q3 : Pos) : Stmt := .Assign [.Attribute (.Name "self" q0) "line" q1] (.Name "line" q2) q3
def aOne (p : Pos) : Arguments := { posonlyargs := [], args := [{ arg := "self", annotation := none, pos := p }], vararg := none, kwonlyargs := [], kw_defaults := [], kwarg := none, defaults := [] }
def aTwo (p q : Pos) : Arguments := { posonlyargs := [], args := [{ arg := "self", annotation := none, pos := p }, { arg := "line", annotation := none, pos := q }], vararg := none, kwonlyargs := [], kw_defaults := [], kwarg := none, defaults := [] }
def sOne : Scope := { kind := .function, names := [(PySem.Str.ofString "self", .local), (PySem.Str.ofString "__class__", .free), (PySem.Str.ofString "super", .globalImplicit)], isGenerator := false, isCoroutine := false, more := [] }
def sTwo : Scope := { kind := .function, names := [(PySem.Str.ofString "self", .local), (PySem.Str.ofString "line", .local), (PySem.Str.ofString "__class__", .free), (PySem.Str.ofString "super", .globalImplicit)], isGenerator := false, isCoroutine := false, more := [] }

/-- the two bodies, as they stand in the text -/
def bOne : List Stmt := [supSt "a number that is not as told" ⟨16, 8, 16, 13⟩ ⟨16, 8, 16, 15⟩ ⟨16, 8, 16, 24⟩ ⟨16, 25, 16, 55⟩ ⟨16, 8, 16, 56⟩ ⟨16, 8, 16, 56⟩]
def bTwo : List Stmt := [supSt "a text that can't be read" ⟨20, 8, 20, 13⟩ ⟨20, 8, 20, 15⟩ ⟨20, 8, 20, 24⟩ ⟨20, 25, 20, 52⟩ ⟨20, 8, 20, 53⟩ ⟨20, 8, 20, 53⟩, fldSt ⟨21, 8, 21, 12⟩ ⟨21, 8, 21, 17⟩ ⟨21, 20, 21, 24⟩ ⟨21, 8, 21, 24⟩]
/-- what the written part says of such a class at C; its __init__ at fI, the code of that at cda, its cell at cc -/
structure ClsT (K : Frag) (mainFile : Str) (C fI cda cc : Addr) (qual : Str) (ar : Arguments) (bd : List Stmt) (sc : Scope) : Prop where
  cls : ∃ nm q N bs bm sn sub ab col dd k0 k1 k2 k3 k5, K.lookup C = some (excClassObj nm q C N bs bm true sn sub ab col dd k0 k1 k2 k3 k5 "ValueError.__new__") ∧ refsVE bm = true
  sa : findIn K (.ref C) "__setattr__" = some (some (.builtin "object.__setattr__"))
  iC : findIn K (.ref C) "__init__" = some (some (.ref fI))
  tC : typeIn K (.ref fI) = some (.type "function")
  kC : keepIn K (.ref C) = true
  exC : subIn K (.ref C) (.type "BaseException") = some true
  veC : subIn K (.ref C) (.type "ValueError") = some true
  tyC : typeIn K (.ref C) = some (.type "type")
  me : mroIn K C (.ref C) = some true
  te : exmOne K (.ref C) (.ref C) = some true
  up : ks_superIn K C C "__init__" = some (some (.builtin "ValueError.__init__"))
  thp : nsIn K cStatics "thirdparty.any" = some none
  cell : ∃ cl cld csl, K.lookup cc = some ⟨cl, cld, .cell (some (.ref C)), csl⟩
  code : ∃ ccl cdd vs ccs file tf, K.lookup cda = some ⟨ccl, cdd, .fields vs, ccs⟩ ∧ vs[2]? = some (.str file tf) ∧ (mainFile == file) = true
  fn : ∃ (oc : Value) (od : Option Addr) (dV kV doc pm : Value) (an : Option Addr) (ct : Value) (osl : Array (Option Value)),
    K.lookup fI = some ⟨oc, od, .func (ksFn "__init__" qual ar bd sc .none .none doc pm an (.ref cda) ct cc), osl⟩ ∧ codeIn K (.ref cda) qual = true

theorem kept_but {K : Frag} {h h' : Heap} {x : Addr} (X : K.In h) (hx : K.lookup x = none) (k : ∀ b o, b ≠ x → h.get? b = some o → h'.get? b = some o) : K.In h' := fun a o e =>
  k a o (fun z => by rw [z, hx] at e; cases e) (X a o e)
theorem ldX {M : Model} {s : Shared} {name : Str} {scope : Scope} {L a cc : Addr} {cd : Value} {m : Str → Option Value} {x : Str} {pos : Pos} {v : Value} {Q : Value → Shared → Prop} {A : Around} {E : Value → Shared → Prop} (hn : s.heap.Ns L m) (hv : m x = some v) (h : Q v s)
    (hk : scope.kind = .function := by rfl) (hl : (ksEnv name scope L a cd cc).kindOf x = some .local := by rfl) (hd : (x == ("__debug__" : Str)) = false := by decide) :
    wpAny M A (eval (.Name x pos) (ksEnv name scope L a cd cc)) Q E s := wpAny_Name (wpAny_loadName_local hk hl hn hv h) hd
section
variable {prog : Program} {w : World} {A : Around} {E : Value → Shared → Prop} {R : Result → Shared → Prop} {s : Shared} {K : Frag} {mg mb : Str → Option Value} {C fI cda cc : Addr} {qual : Str} {ar : Arguments} {bd : List Stmt} {sc : Scope}

/-- the bound ValueError.__init__ called -/
theorem call_up {h : Heap} {g : Array GenState} {d : Drawn} {t : Nat} {os : OsState} {u e t0 : Addr} {rest : List Value} {Q : Value → Shared → Prop}
    (X : K.In h) (T : ClsT K prog.main.file C fI cda cc qual ar bd sc) (he : h.get? e = some (excO C t0)) (hu : h.get? u = some (kxs_mw "ValueError.__init__" e)) (hz : rest.length ≤ sizeLine)
    (hq : ∀ h' t1, (∀ b o, b ≠ e → h.get? b = some o → h'.get? b = some o) → h'.get? e = some (excO C t1) → Q .none ⟨h', g, d, t, os⟩) :
    wpAny (model prog w) A (call (.ref u) rest) Q E ⟨h, g, d, t, os⟩ := by
  rcases T.cls with ⟨_, _, _, _, _, _, _, _, _, _, _, _, _, _, _, own, _⟩
  have wraps : (Value.type "method-wrapper" == Value.type "method" || Value.type "method-wrapper" == Value.type "builtin_function_or_method" || Value.type "method-wrapper" == Value.type "method-wrapper") = true := by decide
  refine wpAny_call (codeAny_of_tree (show wpAny _ A.in1 (callAny (.ref u) ⟨rest, []⟩) _ _ _ from ?_))
  simp only [callAny]
  apply wpAny_bind (wpAny_load hu _)
  simp only [kxs_mw, wraps, if_true]
  refine KFB.if_so (by decide) (wpAny_bind (check_bound_init F.excBase_ValueError.toExcCallFacts (X C _ own) he rfl (wpAny_bind (wpAny_pure (wpAny_pure ⟨plainId_quiet F.excBase_ValueError.init.plain _, ?_⟩)))))
  refine codeAny_builtin F.excBase_ValueError.initEntry (exc_init_tree (cls := .ref C) (t0 := t0) (dv := none) (c2 := .none) (c3 := .none) (b4 := .bool false) he hz fun h1 kept now _ => ?_)
  exact hq h1 h.objs.size kept now

/-- the statement super().__init__(t) in the body of such an __init__ -/
theorem sup_stmt {h : Heap} {g : Array GenState} {d : Drawn} {t : Nat} {os : OsState} {L x t0 : Addr} {m : Str → Option Value} {body : List Stmt} {ar0 : Arg} {txt : Str} {p0 p1 p2 p3 p4 p5 : Pos} {pl : Sem Bool} {Q : Flow → Shared → Prop}
    (X : K.In h) (T : ClsT K prog.main.file C fI cda cc qual ar bd sc) (hG : h.Ns mainGlobals mg) (hm : mg "super" = none) (hB : h.Ns builtinsNs mb) (hb : mb "super" = some (.type "super"))
    (hL : h.Ns L m) (hv : m "self" = some (.ref x)) (hx : h.get? x = some (excO C t0)) (hp : (ar.posonlyargs ++ ar.args).head? = some ar0) (hp0 : ar0.arg = "self")
    (htop : (prog.main.scope.names.lookup ("super" : Str)).isSome = false)
    (hks : sc.names.lookup ("super" : Str) = some .globalImplicit) (hkc : sc.names.lookup ("__class__" : Str) = some .free) (hka : sc.names.lookup ("self" : Str) = some .local) (hk : sc.kind = .function)
    (hq : ∀ h' tk t1, (∀ b o, b ≠ x → h.get? b = some o → h'.get? b = some o) → h'.get? x = some (excO C t1) → Q .next ⟨h', g, d, tk, os⟩)
    (he : eval (.Call (.Attribute (.Call (.Name "super" p0) [] [] p1) "__init__" p2) [.Constant (.str txt) 0 p3] [] p4) (ksEnv qual sc L fI (.ref cda) cc) = (do
      let ov ← attributeBase (.Call (.Name "super" p0) [] [] p1) "__init__" (ksEnv qual sc L fI (.ref cda) cc) (eval (.Call (.Name "super" p0) [] [] p1) (ksEnv qual sc L fI (.ref cda) cc))
      standAt p2.atName
      let (f, first) ← holding [ov] (getMethod ov "__init__" pl)
      callWith p4 f first (backTo p4 (starEach [.Constant (.str txt) 0 p3] (ksEnv qual sc L fI (.ref cda) cc))) []))
    (hi : interactive (ksEnv qual sc L fI (.ref cda) cc) = false := by rfl)
    (hs : swapsWith (.Call (.Attribute (.Call (.Name "super" p0) [] [] p1) "__init__" p2) [.Constant (.str txt) 0 p3] [] p4) none p5.line (ksEnv qual sc L fI (.ref cda) cc) = pure false := by rfl) :
    _root_.PySem.wpAt (model prog w) A (.func body (ksEnv qual sc L fI (.ref cda) cc)) (exec (supSt txt p0 p1 p2 p3 p4 p5) (ksEnv qual sc L fI (.ref cda) cc)) Q E ⟨h, g, d, t, os⟩ := by
  obtain ⟨oc, od, dV, kV, doc, pm, an, ct, osl, hfn, hcd⟩ := T.fn
  obtain ⟨cl, cld, csl, hcell⟩ := T.cell
  obtain ⟨ccl, cdd, vs, ccs, file, tf, hcode, hvs, hfile⟩ := T.code
  obtain ⟨nm, q, N, bs, bm, sn, sub, ab, col, dd, k0, k1, k2, k3, k5, hK, hbm⟩ := T.cls
  have hC := X _ _ hK
  have hxC : x ≠ C := fun z => by
    rw [z, hC] at hx
    cases hx
  have I : W.InstAt h x (excO C t0) C none := ⟨hx, rfl, rfl, trivial⟩
  obtain ⟨cd, hcd1, hal⟩ := Option.bind_eq_some_iff.mp T.up
  unfold supSt
  refine ks_wpAt_Expr_any ?_ hi hs
  refine ks_wpAt_MethodCall ?_ he
  refine ks_wpAt_super_base (env := ksEnv qual sc L fI (.ref cda) cc) hks hkc (by decide) rfl (X _ _ hfn) rfl hp rfl (X _ _ hcode) rfl hvs hfile htop ?_
  refine ks_loadName_global hk hks (loadGlobal_builtin (env := ksEnv qual sc L fI (.ref cda) cc) hG hm hB hb ⟨rfl, ?_⟩)
  refine wpAny_loadName_free hk hkc rfl ⟨_, X _ _ hcell, rfl⟩ ?_
  rw [hp0]
  refine wpAny_loadName_local hk hka hL hv ?_
  refine ks_wpAny_isType_cls hC rfl ⟨rfl, ?_⟩
  refine ks_wpAny_call_super hC rfl hx rfl (fun c e => by cases e) (looks_mroIn X T.me) (fun h1 e1 up1 => ?_)
  have X1 := X.keeps up1
  have hx1 := up1 _ _ hx
  have I1 : W.InstAt h1 x (excO C t0) C none := ⟨hx1, rfl, rfl, trivial⟩
  refine kxs_getMethod kxs_ValueError e1 (looks_opaque X1 T.thp) (l₀ := cd.mro) ((looks_clsIn X1 hcd1).andThen .now) rfl X1 hal (I1.type.andThen (looks_subIn X1 T.veC)) hxC (by decide) ?_
  have up2 : ∀ b o, h1.get? b = some o → (h1.push (kxs_mw "ValueError.__init__" x)).get? b = some o := fun b o e => Heap.get?_push_of_some _ e
  have hu : (h1.push (kxs_mw "ValueError.__init__" x)).get? h1.objs.size = some (kxs_mw "ValueError.__init__" x) := Heap.get?_push_size h1 rfl
  have hst : starEach [.Constant (.str txt) 0 p3] (ksEnv qual sc L fI (.ref cda) cc) = [(false, eval (.Constant (.str txt) 0 p3) (ksEnv qual sc L fI (.ref cda) cc))] := rfl
  rw [hst]
  refine kxs_callWith (i := "ValueError.__init__") (x := x) rfl (evalArgs_plain (spliced_cons (Constant_str (k := 0) (pos := p3) (spliced_nil ⟨hu, ?_⟩))))
  refine call_up (X1.keeps up2) T (up2 _ _ hx1) hu (by show 1 ≤ sizeLine; rw [sizeLine_eq]; decide) fun h' t1 k' e' => ?_
  exact hq h' _ t1 (fun b o hb e => k' b o hb (up2 _ _ (up1 _ _ e))) e'

/-- NoNumber.__init__(x) -/
theorem init_one {h : Heap} {g : Array GenState} {d : Drawn} {t : Nat} {os : OsState} {x t0 : Addr} {p : Pos}
    (X : K.In h) (hlim : h.NoLimit) (T : ClsT K prog.main.file C fI cda cc qual (aOne p) bOne sOne) (hG : h.Ns mainGlobals mg) (hm : mg "super" = none) (hB : h.Ns builtinsNs mb) (hb : mb "super" = some (.type "super"))
    (hx : h.get? x = some (excO C t0)) (hroom : A.depth < recursionLimit) (htop : (prog.main.scope.names.lookup ("super" : Str)).isSome = false)
    (hq : ∀ h' tk t1, (∀ b o, b ≠ x → h.get? b = some o → h'.get? b = some o) → h'.get? x = some (excO C t1) → R (.ok (.ret .none)) ⟨h', g, d, tk, os⟩) :
    codeAny (model prog w) A (.call (.ref fI) ⟨[.ref x], []⟩) R ⟨h, g, d, t, os⟩ := by
  obtain ⟨oc, od, dV, kV, doc, pm, an, ct, osl, hfn, hcd⟩ := T.fn
  refine ks_codeAny_call_defAt (fd := ksFn "__init__" qual (aOne p) bOne sOne .none .none doc pm an (.ref cda) ct cc) (body := bOne) (binds := [("self", .ref x)]) hroom (X _ _ hfn) rfl hlim (codeRec_of X hcd) rfl (BindsTo.of_eq rfl) (show ∀ x ∈ sOne.names, x.2 ≠ .cell by decide) (fun y hy => by rw [List.mem_singleton.mp hy]; rfl) (fun h1 hns hk1 => ?_) rfl rfl rfl
  show _root_.PySem.wpAt _ (A.deeper (ksEnv qual sOne h.objs.size fI (.ref cda) cc)) (.func bOne (ksEnv qual sOne h.objs.size fI (.ref cda) cc)) (execs bOne (ksEnv qual sOne h.objs.size fI (.ref cda) cc)) _ _ _
  refine ks_wpAt_execs_cons (sup_stmt (X.keeps hk1) T (hG.keeps hk1) hm (hB.keeps hk1) hb hns (by first | rfl | with_unfolding_all rfl | kernel_rfl) (hk1 _ _ hx) rfl rfl htop (by decide) (by decide) (by decide) rfl (fun h' tk t1 k' e' => ?_) (by rfl))
  show _root_.PySem.wpAt _ _ _ (execs [] _) _ _ _
  exact wpAt_of_wpAny (wpAny_execs_nil (hq h' _ t1 (fun b o hb' e => k' b o hb' (hk1 b o e)) e'))

/-- what BadText.__init__ leaves of a fresh exception at x -/
structure InitEnd (h h' : Heap) (x C dx t1 : Addr) (v : Value) : Prop where
  keep : ∀ b o, b ≠ x → h.get? b = some o → h'.get? b = some o
  obj : h'.get? x = some { cls := .ref C, dict := some dx, data := .fields #[.ref t1, .none, .none, .none, .bool false, .none] }
  dbig : h.objs.size ≤ dx
  dne : dx ≠ x
  ns : h'.Ns1 dx (fun y => if y = "line" then some v else none)

/-- BadText.__init__(x, v) -/
theorem init_two {h : Heap} {g : Array GenState} {d : Drawn} {t : Nat} {os : OsState} {x t0 : Addr} {v : Value} {p p' : Pos}
    (X : K.In h) (hlim : h.NoLimit) (T : ClsT K prog.main.file C fI cda cc qual (aTwo p p') bTwo sTwo) (hno : findIn K (.ref C) "line" = some none) (hG : h.Ns mainGlobals mg) (hm : mg "super" = none) (hB : h.Ns builtinsNs mb) (hb : mb "super" = some (.type "super"))
    (hx : h.get? x = some (excO C t0)) (hnx : K.lookup x = none) (hroom : A.depth < recursionLimit) (htop : (prog.main.scope.names.lookup ("super" : Str)).isSome = false)
    (hq : ∀ h' tk dx t1, InitEnd h h' x C dx t1 v → R (.ok (.ret .none)) ⟨h', g, d, tk, os⟩) :
    codeAny (model prog w) A (.call (.ref fI) ⟨[.ref x, v], []⟩) R ⟨h, g, d, t, os⟩ := by
  obtain ⟨oc, od, dV, kV, doc, pm, an, ct, osl, hfn, hcd⟩ := T.fn
  obtain ⟨nm, q, N, bs, bm, sn, sub, ab, col, dd, k0, k1, k2, k3, k5, hC, hbm⟩ := T.cls
  have hcl : clsIn K C = some { name := nm, bases := bs, mro := .ref C :: bm, ns := N, qualname := q, hasDict := true, slotNames := sn, subclasses := sub, abstract := ab, collection := col, hasDel := false } := by unfold clsIn; rw [hC] <;> rfl
  refine ks_codeAny_call_defAt (fd := ksFn "__init__" qual (aTwo p p') bTwo sTwo .none .none doc pm an (.ref cda) ct cc) (body := bTwo) (binds := [("self", .ref x), ("line", v)]) hroom (X _ _ hfn) rfl hlim (codeRec_of X hcd) rfl (BindsTo.of_eq rfl) (show ∀ x ∈ sTwo.names, x.2 ≠ .cell by decide) (fun y hy => by
    rcases List.mem_cons.mp hy with e | hy
    · rw [e]; rfl
    · rw [List.mem_singleton.mp hy]; rfl) (fun h1 hns hk1 => ?_) rfl rfl rfl
  show _root_.PySem.wpAt _ (A.deeper (ksEnv qual sTwo h.objs.size fI (.ref cda) cc)) (.func bTwo (ksEnv qual sTwo h.objs.size fI (.ref cda) cc)) (execs bTwo (ksEnv qual sTwo h.objs.size fI (.ref cda) cc)) _ _ _
  have hxL : h.objs.size ≠ x := Nat.ne_of_gt (Heap.lt_size hx)
  refine ks_wpAt_execs_cons (sup_stmt (X.keeps hk1) T (hG.keeps hk1) hm (hB.keeps hk1) hb hns (by first | rfl | with_unfolding_all rfl | kernel_rfl) (hk1 _ _ hx) rfl rfl htop (by decide) (by decide) (by decide) rfl (fun h2 tk t1 k2 e2 => ?_) (by rfl))
  obtain ⟨oL, es, ep, hoL, rL⟩ := id hns
  have hns2 : h2.Ns h.objs.size (fun y => ([("self", .ref x), ("line", v)] : List (Str × Value)).reverse.lookup y) := ⟨oL, es, ep, k2 _ _ hxL hoL, rL⟩
  have X2 : K.In h2 := kept_but (X.keeps hk1) hnx k2
  have nx2 : h2.get? x = some (excO C t1) := e2
  show _root_.PySem.wpAt _ _ _ (execs [fldSt _ _ _ _] _) _ _ _
  refine wpAt_of_wpAny (wpAny_execs_cons (plainObj_wpAny_Assign_Attribute ?_))
  refine ldX (v := v) hns2 (by first | rfl | with_unfolding_all rfl | kernel_rfl) (ldX (v := .ref x) hns2 (by first | rfl | with_unfolding_all rfl | kernel_rfl) ?_)
  refine set_plain X2 (ox := excO C t1) (od := none) ⟨nx2, rfl, rfl, trivial⟩ T.sa ?_
  refine exc_osa X2 nx2 hcl (show refsVE (.ref C :: bm) = true from hbm) rfl hno (fun h3 tk3 dx k3 dn dne hx3 hn3 => ?_)
  show wpAny _ _ (execs _ _) _ _ _
  have z1 : h.objs.size ≤ h2.objs.size := Nat.le_of_lt hns2.lt
  exact wpAny_execs_nil (hq h3 tk3 dx t1 ⟨fun b o hb' e => k3 b o hb' (k2 b o hb' (hk1 b o e)), hx3, Nat.le_trans z1 dn, dne, hn3⟩)
end
end E85
end PySem

/-! A try whose except clauses are of both kinds, with a name and without one. Each clause is shown alone, as a promise (PH) over the clauses behind it;
the kit has a rule for one clause with a name and a rule for clauses that all bear none. -/
namespace E85
open PySem L2 PyProof.Rows PySem.Spec

/-- the ends of a suite whose clause bound slot i: behind it the slot is empty -/
def offI (i : Nat) (D : Ends) : Ends := { nx := fun t G => D.nx (t.set i none) G, rt := D.rt, bk := fun t G => D.bk (t.set i none) G, ct := fun t G => D.ct (t.set i none) G }
abbrev Suite := Addr → Value → Option Addr → TS
/-- a clause without a name for the class c: its suite does t; what no clause takes, W wishes -/
def wBare (K : PySem.W.Frag) (c : Value) (t : Suite) (W : Ends → WX) (D : Ends) : WX := fun cls d σ H =>
  ∃ b, PySem.W.exmOne K cls c = some b ∧ (b = true → ∀ a, H a = none → t a cls d D σ H) ∧ (b = false → W D cls d σ H)
/-- a clause for the class c that binds slot i -/
def wNamed (K : PySem.W.Frag) (c : Value) (i : Nat) (t : Suite) (W : Ends → WX) (D : Ends) : WX := fun cls d σ H =>
  ∃ b, PySem.W.exmOne K cls c = some b ∧ (b = true → ∀ a, H a = none → t a cls d (offI i D) (σ.set i (some (.ref a))) H) ∧ (b = false → W D cls d σ H)

/-- the exception at a has been looked at by the frame of X and lies in the heap of z; y: the state without it; B: the ground -/
structure Caught (X : Cx) (pins : List (Addr × Obj)) (σ : L2.St) (H : Hp) (cls : Value) (d : Option Addr) (a : Addr) (B : Heap) (y z : Shared) : Prop where
  was : Inv X pins σ H y
  ground : ∀ b o, y.heap.get? b = some o → b ∉ frs X.stack → B.get? b = some o
  since : y.heap.UpToSlots z.heap
  air : HandSPX.FlyingZ B (X.env :: X.outer) a (Zc cls d) z.heap
  mine : H a = none
  sameOs : z.os = y.os
  gens : AllBare z.gens

/-- what an except suite may count on -/
def SuiteOk (X : Cx) (b : Stmt) (l : List Stmt) (t : Suite) : Prop :=
  ∀ (a : Addr) (oe : Obj) (cls : Value) (d : Option Addr) (pn : List (Addr × Obj)), Zc cls d oe → (∃ vs, oe.data = .fields vs) → PSs (X.suite a ((a, oe) :: pn)) (b :: l) (t a cls d)

section
variable {X : Cx} {pins : List (Addr × Obj)} {σ : L2.St} {H : Hp} {cls : Value} {d : Option Addr} {a : Addr} {B : Heap} {y z : Shared}

theorem Caught.upTo (C : Caught X pins σ H cls d a B y z) {h : Heap} (f : HandSPX.FlyingZ B (X.env :: X.outer) a (Zc cls d) h) (u : z.heap.UpToSlots h) : Caught X pins σ H cls d a B y { z with heap := h } :=
  ⟨C.was, C.ground, Heap.UpToSlots.trans C.since u, f, C.mine, C.sameOs, C.gens⟩

/-- the exception's object, and the suite's invariant with it pinned -/
theorem Caught.seen (C : Caught X pins σ H cls d a B y z) (hf : X.env.frame = some X.env.locals) :
    ∃ oe : Obj, (∃ vs, oe.data = .fields vs) ∧ z.heap.get? a = some oe ∧ Zc cls d oe ∧ Inv (X.suite a ((a, oe) :: (X.pn ++ pins))) [] σ H z := by
  rcases C.air.there with ⟨oe, vs, at_, zc, dat⟩
  have apart : ∀ e, e ∈ X.env :: X.outer → e.frame ≠ some a := fun e he q => by
    rcases C.air.2.2.1.mem (List.mem_filterMap.mpr ⟨e, he, q⟩) with ⟨_, o, e1, nf⟩
    rw [at_] at e1
    exact nf vs (Option.some.inj e1 ▸ dat)
  have now : Inv X pins σ H z := C.was.landed C.ground C.air.1 C.since C.sameOs C.gens
  refine ⟨oe, ⟨vs, dat⟩, at_, zc, now.suite at_ dat C.mine (fun q => apart _ (.head _) (q ▸ hf)) fun m => ?_⟩
  rcases List.mem_filterMap.mp m with ⟨e, he, q⟩
  exact apart e (.tail _ he) q

/-- the class that a clause names is loaded -/
theorem Caught.name (C : Caught X pins σ H cls d a B y z) (hf : X.env.frame = some X.env.locals) {x : Str} {c : Value} {np : Pos} {Q E : Value → Shared → Prop} (hc : Names X x c) (q : Q c z) :
    wpAny (model X.prog X.w) (X.A.mark (some (.ref a))) (eval (.Name x np) X.env) Q E z := by
  rcases C.seen hf with ⟨oe, _, _, _, S⟩
  rcases hc with ⟨g, nd, m | ⟨m, v, ne⟩⟩
  · exact ld_glob (X := X.suite a _) S g m q nd
  · exact ld_blt (X := X.suite a _) S g m v q ne nd

/-- the question of a clause: its suite, or the clauses behind it -/
theorem Caught.ask (C : Caught X pins σ H cls d a B y z) (hf : X.env.frame = some X.env.locals) {x : Str} {c : Value} {np p : Pos} {nm : Option Str} {l : List Stmt} {rest : List ExceptHandler} {b : Bool} {Q : Flow → Shared → Prop}
    (hc : Names X x c) (hb : PySem.W.exmOne X.K cls c = some b)
    (yes : b = true → codeAny (model X.prog X.w) (X.A.mark (some (.ref a))) (.handlers (.ref a) [.ExceptHandler none nm l p] X.env) (fun r s2 => match r with
      | .ok f => (match nm with
        | none => Q f s2
        | some n => wpAny (model X.prog X.w) X.A (do bindName X.env n .none; unbindBehindTheSuite X.env n p) (fun _ s3 => Q f s3) X.xe s2)
      | .error e => cameBackBy (model X.prog X.w) X.A X.env X.xe e s2) z)
    (no : b = false → wpAny (model X.prog X.w) X.A (handleBy (.ref a) X.env rest) Q X.xe z) :
    wpAny (model X.prog X.w) X.A (handleBy (.ref a) X.env (.ExceptHandler (some (.Name x np)) nm l p :: rest)) Q X.xe z := by
  rcases C.seen hf with ⟨oe, _, at_, zc, S⟩
  have knows : PySem.W.Looks (model X.prog X.w) z.heap (typeOf (.ref a)) cls := fun _ _ _ _ k q => wpAny_typeOf_ref (k a oe at_) (zc.1.symm ▸ q)
  refine wpAny_handleBy_cons (codeAny_handlers_test (C.name hf hc ((PySem.W.exm_one (M := model X.prog X.w) S.kIn knows hb).here ?_))) (fun q => nomatch q)
  match b, yes, no with
  | true, yes, _ => exact yes rfl
  | false, _, no => exact no rfl

/-- no clause took it: it flies on -/
theorem Caught.on (C : Caught X pins σ H cls d a B y z) (hs : X.stack = X.env :: X.outer) (hf : X.env.frame = some X.env.locals) {W : WX} {Q : Flow → Shared → Prop} (tk : Takes X W) (w : W cls d σ H) :
    wpAny (model X.prog X.w) X.A (handleBy (.ref a) X.env []) Q X.xe z := by
  rcases id C.air with ⟨_, _, _, oe, vs, T, _, _, at_, _, dat, tb, _⟩
  have goes : wpAny (model X.prog X.w) X.A (setFlight (.ref a) X.env.frame) (fun _ s => wpAny (model X.prog X.w) X.A (throw (.ref a) : Sem Flow) Q X.xe s) X.xe z :=
    hf ▸ HandSPX.setFlight_upZ C.air fun h held u => wpAny_throw (tk _ _ ⟨a, B, y, pins, σ, H, cls, d, rfl, C.was, C.ground, Heap.UpToSlots.trans C.since u, .inr (.inr (hs ▸ held)), C.mine, C.sameOs, C.gens, w⟩)
  refine wpAny_handleBy_nil ?_
  rw [PySem.passOn]
  refine wpAny_bind (wpAny_field at_ dat tb ?_)
  rw [show (Value.ref T == Value.none) = false from by simp]
  first
    | exact wpAny_bind goes
    | exact wpAny_bind (wpAny_pure (wpAny_bind goes))
end

/-! ## the ends of a suite, seen from outside -/
section
variable {X X' : Cx} {p p' : List (Addr × Obj)} {D : Ends} {f : Flow} {s : Shared}
theorem sp_back (k : ∀ σ H, Inv X' p' σ H s → Inv X p σ H s) (h : SP X' p' D f s) : SP X p D f s := by
  cases f
  all_goals first
    | (rcases h with ⟨σ, H, J, w⟩; exact ⟨σ, H, k σ H J, w⟩)
    | (rcases h with ⟨v, σ, H, J, r, w⟩; exact ⟨v, σ, H, k σ H J, r, w⟩)
theorem sp_off {n : Str} {i : Nat} {pos : Pos} (hN : X.N.Nodup) (hi : X.N[i]? = some n) (hl : X.env.kindOf n = some .local) (h : SP X p (offI i D) f s) :
    wpAny (model X.prog X.w) X.A (do bindName X.env n .none; unbindBehindTheSuite X.env n pos) (fun _ s' => SP X p D f s') X.xe s := by
  cases f
  all_goals first
    | (rcases h with ⟨σ, H, J, w⟩; exact gone_ok J hN hi hl fun s' J' => ⟨σ.set i none, H, J', w⟩)
    | (rcases h with ⟨v, σ, H, J, r, w⟩; exact gone_ok J hN hi hl fun s' J' => ⟨v, σ.set i none, H, J', r, w⟩)
end

/-! ## the promise of a list of clauses -/
structure PH (X : Cx) (hds : List ExceptHandler) (W : Ends → WX) : Prop where
  run : ∀ (pins : List (Addr × Obj)) (σ : L2.St) (H : Hp) (cls : Value) (d : Option Addr) (a : Addr) (B : Heap) (y z : Shared) (D : Ends),
    Caught X pins σ H cls d a B y z → W D cls d σ H → wpAny (model X.prog X.w) X.A (handleBy (.ref a) X.env hds) (SP X pins D) X.xe z

section
variable {X : Cx} {x n : Str} {c : Value} {i : Nat} {b : Stmt} {l : List Stmt} {np pos : Pos} {t : Suite} {rest : List ExceptHandler} {W : Ends → WX}
theorem ph_nil (hs : X.stack = X.env :: X.outer) (hf : X.env.frame = some X.env.locals) {V : WX} (tk : Takes X V) : PH X [] (fun _ => V) := ⟨fun _ _ _ _ _ _ _ _ _ _ C w => C.on hs hf tk w⟩

theorem ph_bare (hf : X.env.frame = some X.env.locals) (hc : Names X x c) (hsu : SuiteOk X b l t) (r : PH X rest W) :
    PH X (.ExceptHandler (some (.Name x np)) none (b :: l) pos :: rest) (wBare X.K c t W) := by
  refine ⟨fun pins σ H cls d a B y z D C ⟨q, hq, yes, no⟩ => C.ask hf hc hq (fun e => codeAny_handlers_suite ?_) fun e => r.run _ _ _ _ _ _ _ _ _ _ C (no e)⟩
  refine HandSPX.lands_againZ C.air fun h fl u => ?_
  rcases (C.upTo fl u).seen hf with ⟨oe, flds, _, zc, S⟩
  exact wpAny_mono ((hsu a oe cls d (X.pn ++ pins) zc flds).run [] _ σ H D S (yes e a C.mine)) (fun f s6 w => sp_back (fun _ _ J => J.unsuite C.was.ok) w) (fun _ _ v => v.elim)

theorem ph_named (hf : X.env.frame = some X.env.locals) (hN : X.N.Nodup) (hi : X.N[i]? = some n) (hl : X.env.kindOf n = some .local) (hc : Names X x c) (hsu : SuiteOk X b l t) (r : PH X rest W) :
    PH X (.ExceptHandler (some (.Name x np)) (some n) (b :: l) pos :: rest) (wNamed X.K c i t W) := by
  refine ⟨fun pins σ H cls d a B y z D C ⟨q, hq, yes, no⟩ => C.ask hf hc hq (fun e => codeAny_handlers_suite_as ?_) fun e => r.run _ _ _ _ _ _ _ _ _ _ C (no e)⟩
  refine HandSPX.lands_againZ C.air fun h fl u => ?_
  rcases (C.upTo fl u).seen hf with ⟨oe, flds, _, zc, S⟩
  refine store_ok (X := X.suite a _) (v := .ref a) S hN hi (.inl hl) rfl (fun s5 S5 => ?_) (.inr hl)
  exact wpAny_mono ((hsu a oe cls d (X.pn ++ pins) zc flds).run [] s5 _ H (offI i D) S5 (yes e a C.mine)) (fun f s6 w => sp_off hN hi hl (sp_back (fun _ _ J => J.unsuite C.was.ok) w)) (fun _ _ v => v.elim)
end

section
variable {X : Cx} {body : List Stmt} {hd : ExceptHandler} {hds : List ExceptHandler} {W : Ends → WX} {pos : Pos} {tb : WX → TS}
/-- what the clauses are asked of an exception of the body -/
abbrev askXe (X : Cx) (hds : List ExceptHandler) (pins : List (Addr × Obj)) (D : Ends) : Value → Shared → Prop := fun e s1 =>
  wpAny (model X.prog X.w) X.A (noteFrame e X.env) (fun _ s2 => wpAny (model X.prog X.w) X.A (setFlight e none) (fun _ s3 => wpAny (model X.prog X.w) X.A (handleBy e X.env hds) (SP X pins D) X.xe s3) X.xe s2) X.xe s1

theorem takes_ask (hs : X.stack = X.env :: X.outer) (hf : X.env.frame = some X.env.locals) (ok : X.Ok) (P : PH X hds W) (pins : List (Addr × Obj)) (D : Ends) : Takes (X.tr (X.pn ++ pins) (askXe X hds pins D)) (W D) := by
  rintro u s' ⟨a, B, y, pins', σ, H, cls, d, rfl, J, nb, up, sky, na, os, ag, w⟩
  refine Sky.land (Z := Zc cls d) Zc.steady (ok.frames.trans (congrArg some hs)) hf (hs ▸ sky) fun h fl u => ?_
  exact P.run pins σ H cls d a B y _ D ⟨J.ofTry ok, nb, Heap.UpToSlots.trans up u, fl, na, os, ag⟩ w

theorem ps_try_ph (hs : X.stack = X.env :: X.outer) (hf : X.env.frame = some X.env.locals)
    (hb : ∀ (V : WX) (pn : List (Addr × Obj)) (xe : Value → Shared → Prop), Takes (X.tr pn xe) V → PassesOwn (model X.prog X.w) X.A X.env xe → PSs (X.tr pn xe) body (tb V)) (P : PH X (hd :: hds) W) :
    PS X (.Try body (hd :: hds) [] [] pos) (fun D σ H => tb (W D) D σ H) := by
  constructor
  intro pins s σ H D I h
  have main := (hb (W D) _ _ (takes_ask hs hf I.ok P pins D) PassesOwn.looking).run [] s σ H D (I.toTry _) h
  refine wpAny_Try_except (wpAny_mono main (fun f s1 w => ?_) fun _ _ v => v)
  have w' : SP X pins D f s1 := sp_back (fun _ _ J => J.ofTry I.ok) w
  cases f
  case next => exact wpAny_execs_nil w'
  all_goals exact w'
end

/-! ## two clauses, the first with a name -/
abbrev wTwo (K : PySem.W.Frag) (c1 : Value) (i : Nat) (t1 : Suite) (c2 : Value) (t2 : Suite) (Wout : WX) : Ends → WX := wNamed K c1 i t1 (wBare K c2 t2 fun _ => Wout)
section
variable {X : Cx} {x1 x2 n : Str} {c1 c2 : Value} {i : Nat} {body s1 s2 : List Stmt} {b1 b2 : Stmt} {np1 np2 pos p1 p2 : Pos} {tb : WX → TS} {t1 t2 : Suite} {Wout : WX}
theorem ps_try_two (hs : X.stack = X.env :: X.outer) (hf : X.env.frame = some X.env.locals) (hN : X.N.Nodup) (hi : X.N[i]? = some n) (hln : X.env.kindOf n = some .local) (hc1 : Names X x1 c1) (hc2 : Names X x2 c2) (tk : Takes X Wout)
    (hb : ∀ (V : WX) (pn : List (Addr × Obj)) (xe : Value → Shared → Prop), Takes (X.tr pn xe) V → PassesOwn (model X.prog X.w) X.A X.env xe → PSs (X.tr pn xe) body (tb V)) (hs1 : SuiteOk X b1 s1 t1) (hs2 : SuiteOk X b2 s2 t2) :
    PS X (.Try body [.ExceptHandler (some (.Name x1 np1)) (some n) (b1 :: s1) p1, .ExceptHandler (some (.Name x2 np2)) none (b2 :: s2) p2] [] [] pos) (fun D σ H => tb (wTwo X.K c1 i t1 c2 t2 Wout D) D σ H) :=
  ps_try_ph hs hf hb (ph_named hf hN hi hln hc1 hs1 (ph_bare hf hc2 hs2 (ph_nil hs hf tk)))
end
end E85

namespace PySem
namespace E85
open PySem.W PySem.Calls PyProof.Rows PySem.HandSPX
/-- a made NoNumber -/
structure MadeOne (h h' : Heap) (e C : Addr) : Prop where
  keep : ∀ b o, h.get? b = some o → h'.get? b = some o
  new : h.objs.size ≤ e
  obj : ∃ t1, h'.get? e = some (excO C t1)
/-- a made BadText -/
structure MadeTwo (h h' : Heap) (e C d : Addr) (v : Value) : Prop where
  keep : ∀ b o, h.get? b = some o → h'.get? b = some o
  new : h.objs.size ≤ e
  obj : ∃ oe vs, h'.get? e = some oe ∧ oe.cls = .ref C ∧ oe.dict = some d ∧ oe.data = .fields vs ∧ vs[1]? = some .none
  dbig : h.objs.size ≤ d
  dne : d ≠ e
  ns : h'.Ns1 d (fun y => if y = "line" then some v else none)
theorem fresh_none {K : Frag} {hp : Heap} {b : Addr} (X : K.In hp) (hb : hp.objs.size ≤ b) : K.lookup b = none := by
  cases e : K.lookup b with
  | none => rfl
  | some o => exact absurd (Nat.lt_of_lt_of_le (Heap.lt_size (X _ _ e)) hb) (Nat.lt_irrefl _)
section
variable {prog : Program} {w : World} {A : Around} {E : Value → Shared → Prop} {R : Result → Shared → Prop} {s : Shared} {K : Frag} {mg mb : Str → Option Value} {C fI cda cc : Addr} {qual : Str}
theorem made_one {p : Pos} (T : ClsT K prog.main.file C fI cda cc qual (aOne p) bOne sOne) (X : K.In s.heap) (hlim : s.heap.NoLimit) (hG : s.heap.Ns mainGlobals mg) (hm : mg "super" = none) (hB : s.heap.Ns builtinsNs mb) (hb : mb "super" = some (.type "super"))
    (htop : (prog.main.scope.names.lookup ("super" : Str)).isSome = false) (hroom : A.depth + 1 < recursionLimit)
    (hq : ∀ h' tk e, MadeOne s.heap h' e C → R (.ok (.ret (.ref e))) { s with heap := h', toks := tk }) :
    codeAny (model prog w) A (.call (.ref C) ⟨[], []⟩) R s := by
  obtain ⟨nm, q, N, bs, bm, sn, sub, ab, col, dd, k0, k1, k2, k3, k5, hC, hbm⟩ := T.cls
  obtain ⟨hp, g, dr, tk, os⟩ := s
  have k : ∀ b o, hp.get? b = some o → ((hp.push (kdv_tup [])).push (excO C hp.objs.size)).get? b = some o := fun b o e => Heap.get?_push_of_some _ (Heap.get?_push_of_some _ e)
  have hget : ((hp.push (kdv_tup [])).push (excO C hp.objs.size)).get? (hp.objs.size + 1) = some (excO C hp.objs.size) := by heap_get
  refine call_own F.excBase_ValueError (fun X => refsVE_contains X bm hbm) (X _ _ hC) (looks_findIn X T.iC) (fun self => bind_fn X self T.tC) (Nat.zero_le _) ?_
  refine init_one (X.keeps k) (hlim.keeps k) T (hG.keeps k) hm (hB.keeps k) hb hget (by show A.depth + 1 < recursionLimit; exact hroom) htop fun h' tk' t1 k' hx => ?_
  have old : ∀ b o, hp.get? b = some o → h'.get? b = some o := fun b o e => k' b o (Nat.ne_of_lt (Nat.lt_succ_of_lt (Heap.lt_size e))) (k b o e)
  exact ⟨rfl, hq h' tk' (hp.objs.size + 1) ⟨old, Nat.le_succ _, _, hx⟩⟩
theorem made_two {v : Value} {p p' : Pos} (T : ClsT K prog.main.file C fI cda cc qual (aTwo p p') bTwo sTwo) (hno : findIn K (.ref C) "line" = some none) (X : K.In s.heap) (hlim : s.heap.NoLimit) (hG : s.heap.Ns mainGlobals mg) (hm : mg "super" = none) (hB : s.heap.Ns builtinsNs mb) (hb : mb "super" = some (.type "super"))
    (htop : (prog.main.scope.names.lookup ("super" : Str)).isSome = false) (hroom : A.depth + 1 < recursionLimit)
    (hq : ∀ h' tk e d, MadeTwo s.heap h' e C d v → R (.ok (.ret (.ref e))) { s with heap := h', toks := tk }) :
    codeAny (model prog w) A (.call (.ref C) ⟨[v], []⟩) R s := by
  obtain ⟨nm, q, N, bs, bm, sn, sub, ab, col, dd, k0, k1, k2, k3, k5, hC, hbm⟩ := T.cls
  obtain ⟨hp, g, dr, tk, os⟩ := s
  have k : ∀ b o, hp.get? b = some o → ((hp.push (kdv_tup [v])).push (excO C hp.objs.size)).get? b = some o := fun b o e => Heap.get?_push_of_some _ (Heap.get?_push_of_some _ e)
  have hget : ((hp.push (kdv_tup [v])).push (excO C hp.objs.size)).get? (hp.objs.size + 1) = some (excO C hp.objs.size) := by heap_get
  refine call_own F.excBase_ValueError (fun X => refsVE_contains X bm hbm) (X _ _ hC) (looks_findIn X T.iC) (fun self => bind_fn X self T.tC) (by show 1 ≤ sizeLine; rw [sizeLine_eq]; decide) ?_
  refine init_two (v := v) (X.keeps k) (hlim.keeps k) T hno (hG.keeps k) hm (hB.keeps k) hb hget (fresh_none X (Nat.le_succ _)) (by show A.depth + 1 < recursionLimit; exact hroom) htop fun h' tk' dx t1 ⟨k', hx, dn, dne, hns⟩ => ?_
  have old : ∀ b o, hp.get? b = some o → h'.get? b = some o := fun b o e => k' b o (Nat.ne_of_lt (Nat.lt_succ_of_lt (Heap.lt_size e))) (k b o e)
  have z : hp.objs.size + 1 + 1 ≤ dx := by
    first
      | (simpa only [Heap.size_push] using dn)
      | exact dn
      | (have q := dn; rw [Heap.size_push, Heap.size_push] at q; exact q)
  exact ⟨rfl, hq h' tk' (hp.objs.size + 1) dx ⟨old, Nat.le_succ _, ⟨_, _, hx, rfl, rfl, rfl, rfl⟩, Nat.le_trans (Nat.le_trans (Nat.le_succ _) (Nat.le_succ _)) z, dne, hns⟩⟩
end
end E85
end PySem

namespace E85
open PySem PySem.Spec PyProof.Rows L2
theorem relO_line {v : V} {v' : Value} (r : RelV v v') (f : Str) : RelO (List.lookup f [(("line" : Str), v)]) (if f = "line" then some v' else none) := by
  by_cases hw : f = "line"
  · subst hw
    rw [if_pos rfl]
    have q : List.lookup ("line" : Str) [(("line" : Str), v)] = some v := by simp [List.lookup]
    rw [q]
    exact r
  · rw [if_neg hw]
    have qw : (f == ("line" : Str)) = false := by simpa using hw
    have q2 : List.lookup f [(("line" : Str), v)] = none := by simp [List.lookup, qw]
    rw [q2]
    trivial
/-- what is asked of the module for the two classes -/
structure ExcT (P : Program) (K : PySem.W.Frag) (mg : Str → Option Value) (CN CB : Addr) : Prop where
  gN : mg "NoNumber" = some (.ref CN)
  gB : mg "BadText" = some (.ref CB)
  su : mg "super" = none
  top : (P.main.scope.names.lookup ("super" : Str)).isSome = false
  one : ∃ fI cda cc p, PySem.E85.ClsT K P.main.file CN fI cda cc "NoNumber.__init__" (PySem.E85.aOne p) PySem.E85.bOne PySem.E85.sOne
  two : ∃ fI cda cc p p', PySem.E85.ClsT K P.main.file CB fI cda cc "BadText.__init__" (PySem.E85.aTwo p p') PySem.E85.bTwo PySem.E85.sTwo
  noB : PySem.W.findIn K (.ref CB) "line" = some none
  gaB : PySem.W.findIn K (.ref CB) "__getattribute__" = some (some (.builtin "BaseException.__getattribute__"))
  ggB : PySem.W.findIn K (.ref CB) "__getattr__" = some none
  hdB : PySem.W.hasDictIn K CB = true
  ne : PySem.W.exmOne K (.ref CN) (.ref CB) = some false
section
variable {X : Cx} {CN CB : Addr}
theorem boot_super : bootBuiltins "super" = some (.type "super") := by decide +kernel
theorem blt_super {pins : List (Addr × Obj)} {σ : L2.St} {H : Hp} {s : Shared} (I : Inv X pins σ H s) : ∃ mb, s.heap.Ns builtinsNs mb ∧ mb "super" = some (.type "super") := by
  obtain ⟨mb, h1, h2⟩ := I.mod.blt
  exact ⟨mb, h1.keeps I.bk, (h2 "super" (by decide)).trans boot_super⟩
/-- NoNumber() -/
def tMkNo (CN : Addr) : L2.St → Hp → XK → Prop := fun _ H Q => Q (.ref CN) none H
theorem pmk_no {p pos : Pos} {k : Nat} (T : ExcT X.prog X.K X.mg CN CB) (hr : Room k X.A) (hg : Gl X "NoNumber" := by rfl) :
    PMk X (.Call (.Name "NoNumber" p) [] [] pos) (tMkNo CN) := by
  intro pins s σ H Q I h
  obtain ⟨fI, cda, cc, pp, T1⟩ := T.one
  refine wpAny_Call_Name_kw (ld_glob I hg T.gN ?_)
  refine PySem.W.callWith_K0 I.kIn T1.kC ?_
  show wpAny _ _ (call (.ref CN) []) _ _ _
  have hlim := I.nolimit
  obtain ⟨mb, hB, hb⟩ := blt_super I
  obtain ⟨hp, g, dr, tk, os⟩ := s
  refine wpAny_call (PySem.E85.made_one T1 I.kIn hlim (I.mod.glob.keeps I.bk) T.su hB hb T.top (by have := hr.dp; omega) fun h' tk' e M => ?_)
  show MkP X pins σ Q (.ref e) ⟨h', g, dr, tk', os⟩
  obtain ⟨t1, hoe⟩ := M.obj
  obtain ⟨G', g1, g2⟩ := restrict h' fun b => decide (b ≠ e)
  have gk : ∀ b, b ≠ e → G'.get? b = h'.get? b := fun b hb => g1 b (decide_eq_true hb)
  have ge : G'.get? e = none := g2 e (by simp)
  have old : ∀ b o, hp.get? b = some o → G'.get? b = some o := fun b o q => (gk b (Nat.ne_of_lt (Nat.lt_of_lt_of_le (Heap.lt_size q) M.new))).trans (M.keep b o q)
  have J : Inv X pins σ H ⟨G', g, dr, tk', os⟩ := I.kept (t' := tk') old
  refine ⟨e, _, _, ⟨G', g, dr, tk', os⟩, _, .ref CN, none, rfl, J, fun b o q => ?_, ge, hoe, ⟨rfl, rfl⟩, rfl, rfl, ?_, rfl, I.bare, raises_own T1.exC T1.tyC, h⟩
  · by_cases hb : b = e
    · have q' : G'.get? b = some o := q
      rw [hb, ge] at q'; cases q'
    · exact (gk b hb).symm.trans q
  · exact I.hok.fresh M.new
/-- BadText(e) -/
def tMkBad (CB : Addr) (ta : TA) : L2.St → Hp → XK → Prop := fun σ H Q => ta σ H fun vs H1 => ∃ v, vs = [v] ∧ ∀ d, H1 d = none → Q (.ref CB) (some d) (upd H1 d (.xd [(("line" : Str), v)]))
theorem pmk_bad {a : Expr} {ta : TA} {p pos : Pos} {k : Nat} (T : ExcT X.prog X.K X.mg CN CB) (hr : Room k X.A) (ha : PA X [a] ta) (hg : Gl X "BadText" := by rfl)
    (he : starEach (a :: []) X.env = (false, eval a X.env) :: starEach [] X.env := by rfl) (hpl : (backTo pos (starEach [] X.env)).any (·.1) = false := by rfl) :
    PMk X (.Call (.Name "BadText" p) [a] [] pos) (tMkBad CB ta) := by
  intro pins s σ H Q I h
  obtain ⟨fI, cda, cc, pp, pp', T1⟩ := T.two
  refine wpAny_Call_Name_kw (ld_glob I hg T.gB ?_)
  refine PySem.W.callWith_K (h₀ := X.base) I.ok.mod.kin T1.kC (thn (ha.run pos pins s σ H _ I h) fun us s1 hh => ?_) he hpl
  obtain ⟨vs, H1, I1, r1, v, ev, q1⟩ := hh
  subst ev
  refine ⟨I1.kIn, ?_⟩
  obtain ⟨v', rfl, rv⟩ := vals1 r1
  show wpAny _ _ (call (.ref CB) [v']) _ _ _
  have hlim := I1.nolimit
  obtain ⟨mb, hB, hb⟩ := blt_super I1
  obtain ⟨hp, g, dr, tk, os⟩ := s1
  refine wpAny_call (PySem.E85.made_two T1 T.noB I1.kIn hlim (I1.mod.glob.keeps I1.bk) T.su hB hb T.top (by have := hr.dp; omega) fun h' tk' e d M => ?_)
  show MkP X pins σ Q (.ref e) ⟨h', g, dr, tk', os⟩
  obtain ⟨oe, fv, hoe, hc, hd, hdat, h1⟩ := M.obj
  have hns := M.ns
  obtain ⟨G', g1, g2⟩ := restrict h' fun b => decide (b ≠ e)
  have gk : ∀ b, b ≠ e → G'.get? b = h'.get? b := fun b hb => g1 b (decide_eq_true hb)
  have ge : G'.get? e = none := g2 e (by simp)
  have old : ∀ b o, hp.get? b = some o → G'.get? b = some o := fun b o q => (gk b (Nat.ne_of_lt (Nat.lt_of_lt_of_le (Heap.lt_size q) M.new))).trans (M.keep b o q)
  have ob : ObjOk X.prog X.w (upd H1 d (.xd [(("line" : Str), v)])) G' d (.xd [(("line" : Str), v)]) :=
    ⟨_, hns.at (fun o q => (gk d M.dne).trans q), fun f => relO_line rv f⟩
  have J : Inv X pins σ (upd H1 d (.xd [(("line" : Str), v)])) ⟨G', g, dr, tk', os⟩ := I1.laid (t' := tk') old M.dbig ob
  refine ⟨e, oe, fv, ⟨G', g, dr, tk', os⟩, _, .ref CB, some d, rfl, J, fun b o q => ?_, ge, hoe, ⟨hc, hd⟩, hdat, h1, ?_, rfl, I1.bare, raises_own T1.exC T1.tyC, q1 d (I1.hok.fresh M.dbig)⟩
  · by_cases hb : b = e
    · have q' : G'.get? b = some o := q
      rw [hb, ge] at q'; cases q'
    · exact (gk b hb).symm.trans q
  · rw [upd_ne (Ne.symm M.dne)]
    exact I1.hok.fresh M.new
/-- raise NoNumber() -/
def tRaiseNo (CN : Addr) (W : WX) : TS := fun _ σ H => W (.ref CN) none σ H
theorem ps_raiseNo {W : WX} {p pos pos2 : Pos} {k : Nat} (hc : X.calm = true) (T : ExcT X.prog X.K X.mg CN CB) (hr : Room k X.A) (tk : Takes X W) (hg : Gl X "NoNumber" := by rfl) :
    PS X (.Raise (some (.Call (.Name "NoNumber" p) [] [] pos)) none pos2) (tRaiseNo CN W) := ps_raise hc tk (pmk_no T hr hg)
/-- raise BadText(e) -/
def tRaiseBad (CB : Addr) (W : WX) (ta : TA) : TS := fun _ σ H => tMkBad CB ta σ H fun cls d H' => W cls d σ H'
theorem ps_raiseBad {a : Expr} {ta : TA} {W : WX} {p pos pos2 : Pos} {k : Nat} (hc : X.calm = true) (T : ExcT X.prog X.K X.mg CN CB) (hr : Room k X.A) (tk : Takes X W) (ha : PA X [a] ta) (hg : Gl X "BadText" := by rfl)
    (he : starEach (a :: []) X.env = (false, eval a X.env) :: starEach [] X.env := by rfl) (hpl : (backTo pos (starEach [] X.env)).any (·.1) = false := by rfl) :
    PS X (.Raise (some (.Call (.Name "BadText" p) [a] [] pos)) none pos2) (tRaiseBad CB W ta) := ps_raise hc tk (pmk_bad T hr ha hg he hpl)
/-- error.line, error the exception that the suite holds (at a; its class cls, its dict d) -/
def tLine (CB : Addr) (a : Addr) (cls : Value) (d : Option Addr) (te : TE) : TE := fun σ H Q => te σ H fun x H1 => x = .ref a ∧ cls = .ref CB ∧ ∃ (dd : Addr) (v : V), d = some dd ∧ H1 dd = some (.xd [(("line" : Str), v)]) ∧ Q v H1
theorem pe_line {a : Addr} {oe : Obj} {cls : Value} {d : Option Addr} {pn : List (Addr × Obj)} {e : Expr} {te : TE} {pos : Pos} (T : ExcT X.prog X.K X.mg CN CB) (hz : Zc cls d oe) (hf : ∃ vs, oe.data = .fields vs) (he : PE (X.suite a ((a, oe) :: pn)) e te)
    (hb : attributeBase e "line" X.env (eval e X.env) = eval e X.env := by rfl) :
    PE (X.suite a ((a, oe) :: pn)) (.Attribute e "line" pos) (tLine CB a cls d te) := by
  refine ⟨fun pins s σ H Q I h => ?_⟩
  obtain ⟨fI, cda, cc, pp, pp', T1⟩ := T.two
  refine attr_of hb (thn (he.run pins s σ H _ I h) fun u s1 hh => ?_)
  obtain ⟨x, H1, I1, rx, ex, ec, dd, v, ed, ea, q⟩ := hh
  subst ex
  obtain rfl : u = Value.ref a := rx
  subst ec
  subst ed
  obtain ⟨ha, _⟩ := I1.pin (a, oe) (List.mem_append_left _ List.mem_cons_self)
  obtain ⟨vs, hd⟩ := hf
  have hx : ObjOk X.prog X.w H1 s1.heap dd (.xd [(("line" : Str), v)]) := I1.hok dd _ ea
  obtain ⟨mA, hns, hr⟩ := hx
  obtain ⟨od, ho, hl⟩ := lookIn_ns hns
  have l : List.lookup ("line" : Str) [(("line" : Str), v)] = some v := by simp [List.lookup]
  obtain ⟨u, hu, ru⟩ := RelO.some_of (v := v) (o := mA "line") (by rw [← l]; exact hr "line")
  have J : PySem.W.InstAt s1.heap a oe CB (some od) := ⟨ha, hz.1, by unfold PySem.W.notCls; rw [hd] <;> rfl, by rw [hz.2]; exact ho⟩
  exact HandSPX.exc_get I1.kIn J T.gaB T.ggB T1.exC (PySem.W.findObj_own T.hdB T.noB rfl (by rw [hl, hu])) (handed_of ru) ⟨v, H1, I1.tok _, ru, q⟩
end
end E85

/-! The mathematics: what a word tells, what a line tells, what a text tells; lengths of split and joined texts. -/
namespace E85
open PySem PySem.Spec PyProof.Rows L2 TL NumText

/-! ### words -/
def digs : Str := "0123456789"
theorem tl_digs : tl digs = [48, 49, 50, 51, 52, 53, 54, 55, 56, 57] := by decide +kernel
def isNumB (w : Str) : Bool := decide (0 < w.length) && ((tl w).all (fun c => decide (c ∈ tl digs)) && (decide (w = "0") || !decide ((tl w).head? = some 48)))
def valS (w : Str) : Int := (digitsVal (tl w) : Nat)
def numTold (w : Str) : Option Int := if w.length ≤ 12 ∧ isNumB w = true then some (valS w) else none
def five : List Str := ["0", "1", "2", "3", "4"]
/-- what a word tells of machine me: none: nothing; some none: nobody; some (some k): machine k. By the program -/
def entM (many me : Int) (w : Str) : Option (Option Int) := if w = "-" then some none else
  match numTold w with
  | none => none
  | some e => if e ≥ many ∨ e = me then none else some (some e)
/-- by the law -/
def entL (many me : Int) (w : Str) : Option (Option Int) := if w = "-" then some none else if w ∈ five ∧ valS w < many ∧ valS w ≠ me then some (some (valS w)) else none

theorem mem_digs {c : Nat} (h : c ∈ tl digs) : 48 ≤ c ∧ c ≤ 57 := by
  rw [tl_digs] at h
  simp only [List.mem_cons, List.not_mem_nil, or_false] at h
  omega
theorem isNum_digits {w : Str} (h : isNumB w = true) : AllDigits (tl w) := by
  unfold isNumB at h
  rw [Bool.and_eq_true, Bool.and_eq_true] at h
  have h2 := h.2.1
  rw [List.all_eq_true] at h2
  exact fun c hc => mem_digs (of_decide_eq_true (h2 c hc))
theorem isNum_ne {w : Str} (h : isNumB w = true) : tl w ≠ [] := by
  unfold isNumB at h
  rw [Bool.and_eq_true] at h
  have h1 : 0 < w.length := of_decide_eq_true h.1
  intro e
  rw [len_tl, e] at h1
  exact absurd h1 (Nat.lt_irrefl _)
/-- int(word) of such a word -/
theorem int_of {w : Str} (h : isNumB w = true) (hl : w.length ≤ 12) : PySem.intText? w = some (valS w) := intText_digits (isNum_digits h) (isNum_ne h) (by omega)
theorem fold_ge : ∀ (l : List Nat) (a : Nat), a ≤ l.foldl (fun acc c => acc * 10 + (c - 48)) a
  | [], a => Nat.le_refl _
  | c :: r, a => Nat.le_trans (by omega) (fold_ge r (a * 10 + (c - 48)))
theorem val_one {c : Nat} (h : 48 ≤ c) : digitsVal [c] = c - 48 := by
  show 0 * 10 + (c - 48) = c - 48
  omega
theorem val_two {c d : Nat} {r : List Nat} (h : 49 ≤ c) : 10 ≤ digitsVal (c :: d :: r) := by
  show 10 ≤ r.foldl (fun acc c => acc * 10 + (c - 48)) ((0 * 10 + (c - 48)) * 10 + (d - 48))
  exact Nat.le_trans (by omega) (fold_ge r _)
theorem str_one {w : Str} {c : Nat} (h : tl w = [c]) : w = ⟨#[c]⟩ := ext_tl h
theorem five_val : ∀ w ∈ five, isNumB w = true ∧ w.length ≤ 12 := by decide +kernel
theorem zero_five : ("0" : Str) ∈ five := by decide +kernel
/-- a plain number that is none of 0 to 4 is 5 or more -/
theorem val_big {w : Str} (h : isNumB w = true) (hf : w ∉ five) : 5 ≤ valS w := by
  have hd := isNum_digits h
  have hn := isNum_ne h
  cases e : tl w with
  | nil => exact absurd e hn
  | cons c r =>
    cases r with
    | nil =>
      rw [e] at hd
      have hc := hd c (by simp)
      unfold valS
      rw [e, val_one hc.1]
      by_cases h5 : 53 ≤ c
      · omega
      · refine absurd ?_ hf
        rw [str_one e]
        have h6 : c = 48 ∨ c = 49 ∨ c = 50 ∨ c = 51 ∨ c = 52 := by omega
        rcases h6 with rfl | rfl | rfl | rfl | rfl <;> decide +kernel
    | cons d r =>
      have h48 : c ≠ 48 := fun z => by
        unfold isNumB at h
        rw [Bool.and_eq_true, Bool.and_eq_true, Bool.or_eq_true] at h
        rcases h.2.2 with h3 | h3
        · have h4 : w = "0" := of_decide_eq_true h3
          rw [h4] at e
          have z2 : tl ("0" : Str) = [48] := by decide +kernel
          rw [z2] at e
          cases e
        · rw [e, z] at h3
          simp at h3
      rw [e] at hd
      have hc := hd c (by simp)
      unfold valS
      rw [e]
      have := val_two (c := c) (d := d) (r := r) (by omega)
      omega
theorem ent_eq {many me : Int} (w : Str) (hm : many ≤ 5) : entM many me w = entL many me w := by
  unfold entM entL
  by_cases h0 : w = "-"
  · rw [if_pos h0, if_pos h0]
  · rw [if_neg h0, if_neg h0]
    by_cases h5 : w ∈ five
    · obtain ⟨n1, n2⟩ := five_val w h5
      have e : numTold w = some (valS w) := if_pos ⟨n2, n1⟩
      rw [e]
      show (if valS w ≥ many ∨ valS w = me then none else some (some (valS w))) = _
      by_cases hc : valS w ≥ many ∨ valS w = me
      · rw [if_pos hc, if_neg (by rintro ⟨_, a, b⟩; omega)]
      · rw [if_neg hc, if_pos ⟨h5, by omega, by omega⟩]
    · rw [if_neg (fun z => h5 z.1)]
      cases e : numTold w with
      | none => rfl
      | some k =>
        show (if k ≥ many ∨ k = me then none else some (some k)) = none
        have hk : 5 ≤ k := by
          unfold numTold at e
          by_cases hc : w.length ≤ 12 ∧ isNumB w = true
          · rw [if_pos hc] at e
            rw [← Option.some.inj e]
            exact val_big hc.2 h5
          · rw [if_neg hc] at e
            cases e
        rw [if_pos (.inl (by omega))]

/-! ### lines -/
def oV : Option Int → V
  | none => .non
  | some i => .int i
abbrev Row := List (Option Int)
def goL (many : Int) : Int → List Str → Option Row
  | _, [] => some []
  | me, w :: r => match entL many me w with
    | none => none
    | some e => match goL many (me + 1) r with
      | none => none
      | some es => some (e :: es)
def rowL (many : Int) (ws : List Str) : Option Row := if (ws.length : Int) = many then goL many 0 ws else none
theorem goL_len {many : Int} : ∀ {ws : List Str} {me : Int} {es : Row}, goL many me ws = some es → es.length = ws.length
  | [], me, es, h => by
    have e : [] = es := Option.some.inj h
    rw [← e]
    rfl
  | w :: r, me, es, h => by
    unfold goL at h
    cases e1 : entL many me w with
    | none => rw [e1] at h; cases h
    | some e =>
      rw [e1] at h
      cases e2 : goL many (me + 1) r with
      | none => rw [e2] at h; cases h
      | some es' =>
        rw [e2] at h
        have e3 : e :: es' = es := Option.some.inj h
        rw [← e3, List.length_cons, List.length_cons, goL_len e2]
/-- read so far fs, the rest to come -/
def andRow (fs : Row) : Option Row → Option Row
  | none => none
  | some es => some (fs ++ es)
theorem goL_bad {many me : Int} {w : Str} {r : List Str} {fs : Row} (h : entL many me w = none) : andRow fs (goL many me (w :: r)) = none := by
  unfold goL
  rw [h]
  rfl
theorem goL_good {many me : Int} {w : Str} {r : List Str} {fs : Row} {e : Option Int} (h : entL many me w = some e) : andRow fs (goL many me (w :: r)) = andRow (fs ++ [e]) (goL many (me + 1) r) := by
  show andRow fs (match entL many me w with
    | none => none
    | some e => match goL many (me + 1) r with
      | none => none
      | some es => some (e :: es)) = _
  rw [h]
  cases goL many (me + 1) r with
  | none => rfl
  | some es => show some (fs ++ e :: es) = some (fs ++ [e] ++ es); rw [List.append_assoc]; rfl
theorem goL_end {many me : Int} {fs : Row} : andRow fs (goL many me []) = some fs := by
  show some (fs ++ []) = some fs
  rw [List.append_nil]

/-! ### texts -/
inductive Out where
  | bad (line : Int)
  | told (rows : List Row)
def bl1 : Str := " "
def nl1 : Str := "\n"
def goR (many : Int) : Nat → List Str → Out
  | _, [] => .told []
  | i, l :: r => match rowL many (Txt.split l bl1) with
    | none => .bad (i + 1)
    | some row => if 30 ≤ i then .bad (i + 1) else match goR many (i + 1) r with
      | .bad k => .bad k
      | .told rs => .told (row :: rs)
def readL (many : Int) (z : Str) : Out := match goR many 0 (Txt.split z nl1).dropLast with
  | .bad k => .bad k
  | .told rs => if (Txt.split z nl1).getLast? = some ("" : Str) then .told rs else .bad ((Txt.split z nl1).length : Int)
def andOut (fs : List Row) : Out → Out
  | .bad k => .bad k
  | .told rs => .told (fs ++ rs)
theorem goR_bad {many : Int} {i : Nat} {l : Str} {r : List Str} {fs : List Row} (h : rowL many (Txt.split l bl1) = none) : andOut fs (goR many i (l :: r)) = .bad (i + 1) := by
  unfold goR
  rw [h]
  rfl
theorem goR_late {many : Int} {i : Nat} {l : Str} {r : List Str} {fs : List Row} {row : Row} (h : rowL many (Txt.split l bl1) = some row) (hi : 30 ≤ i) : andOut fs (goR many i (l :: r)) = .bad (i + 1) := by
  unfold goR
  rw [h]
  show andOut fs (if 30 ≤ i then _ else _) = _
  rw [if_pos hi]
  rfl
theorem goR_good {many : Int} {i : Nat} {l : Str} {r : List Str} {fs : List Row} {row : Row} (h : rowL many (Txt.split l bl1) = some row) (hi : ¬ 30 ≤ i) : andOut fs (goR many i (l :: r)) = andOut (fs ++ [row]) (goR many (i + 1) r) := by
  show andOut fs (match rowL many (Txt.split l bl1) with
    | none => .bad (i + 1)
    | some row => if 30 ≤ i then .bad (i + 1) else match goR many (i + 1) r with
      | .bad k => .bad k
      | .told rs => .told (row :: rs)) = _
  rw [h]
  show andOut fs (if 30 ≤ i then _ else _) = _
  rw [if_neg hi]
  cases goR many (i + 1) r with
  | bad k => rfl
  | told rs => show Out.told (fs ++ row :: rs) = Out.told (fs ++ [row] ++ rs); rw [List.append_assoc]; rfl
theorem goR_end {many : Int} {i : Nat} {fs : List Row} : andOut fs (goR many i []) = .told fs := by
  show Out.told (fs ++ []) = Out.told fs
  rw [List.append_nil]

/-! ### lengths -/
/-- the signs of some texts, one more for each -/
def tot (ls : List Str) : Nat := (ls.map fun l => l.length + 1).sum
theorem tot_nil : tot [] = 0 := rfl
theorem tot_cons (l : Str) (r : List Str) : tot (l :: r) = l.length + 1 + tot r := by
  unfold tot
  rw [List.map_cons, List.sum_cons]
theorem tot_append (a b : List Str) : tot (a ++ b) = tot a + tot b := by
  unfold tot
  rw [List.map_append, List.sum_append]
theorem tot_len (ls : List Str) : ls.length ≤ tot ls := by
  induction ls with
  | nil => exact Nat.zero_le _
  | cons l r ih => rw [tot_cons, List.length_cons]; omega
theorem tot_mem {l : Str} {ls : List Str} (h : l ∈ ls) : l.length + 1 ≤ tot ls := by
  induction ls with
  | nil => cases h
  | cons a r ih =>
    rw [tot_cons]
    rcases List.mem_cons.mp h with rfl | h
    · omega
    · have := ih h
      omega
theorem tot_rep (k : Nat) (l : Str) : tot (List.replicate k l) = k * (l.length + 1) := by
  induction k with
  | zero => rw [Nat.zero_mul]; rfl
  | succ k ih => rw [List.replicate_succ, tot_cons, ih, Nat.succ_mul]; omega
theorem sum_lens (ls : List Str) : (ls.map (·.length)).sum + ls.length = tot ls := by
  induction ls with
  | nil => rfl
  | cons l r ih =>
    rw [tot_cons, List.map_cons, List.sum_cons, List.length_cons]
    omega
def totL (ls : List (List Nat)) : Nat := (ls.map fun l => l.length + 1).sum
theorem totL_cons (l : List Nat) (r : List (List Nat)) : totL (l :: r) = l.length + 1 + totL r := by
  unfold totL
  rw [List.map_cons, List.sum_cons]
theorem tot_tl (ls : List Str) : totL (ls.map tl) = tot ls := by
  induction ls with
  | nil => rfl
  | cons l r ih => rw [List.map_cons, totL_cons, tot_cons, ih, len_tl]
theorem spl_tot (s : Nat) : ∀ (l acc : List Nat), totL (spl [s] 0 acc l) = acc.length + l.length + 1
  | [], acc => by
    rw [spl_nil]
    show acc.length + 1 + 0 = _
    simp
  | c :: r, acc => by
    cases h : pre [s] (c :: r) with
    | true =>
      rw [spl_hit h, totL_cons]
      show acc.length + 1 + totL (spl [s] 0 [] r) = _
      rw [spl_tot s r []]
      simp only [List.length_nil, List.length_cons]
      omega
    | false =>
      rw [spl_miss h, spl_tot s r (acc ++ [c])]
      simp only [List.length_append, List.length_nil, List.length_cons]
      omega
theorem split_tot {y : Str} {s : Nat} (ey : tl y = [s]) (hk : y.cps.all (· < 256) = true) (x : Str) : tot (Txt.split x y) = x.length + 1 := by
  rw [← tot_tl, split_spl x y (by rw [ey]; simp) (kind_ok hk), ey, spl_tot, len_tl]
  simp
theorem nl_tot (x : Str) : tot (Txt.split x nl1) = x.length + 1 := split_tot (s := 10) (by decide +kernel) (by decide +kernel) x
theorem bl_tot (x : Str) : tot (Txt.split x bl1) = x.length + 1 := split_tot (s := 32) (by decide +kernel) (by decide +kernel) x
theorem ne_of_tot {ls : List Str} {n : Nat} (h : tot ls = n + 1) : ls ≠ [] := fun z => by
  rw [z, tot_nil] at h
  cases h
theorem join_len (y : Str) (ls : List Str) : (Txt.join y ls).length ≤ (ls.map (·.length)).sum + ls.length * y.length := by
  rw [join_eq]
  exact StrLaws.join_length_le y ls
theorem join_one {y : Str} (hy : y.length ≤ 1) (ls : List Str) : (Txt.join y ls).length ≤ tot ls := by
  have h1 := join_len y ls
  have h2 := sum_lens ls
  have h3 : ls.length * y.length ≤ ls.length * 1 := Nat.mul_le_mul_left _ hy
  omega
/-- room for a join -/
theorem join_room {y : Str} {ls : List Str} {n : Nat} (hy : y.length ≤ 1) (h : tot ls ≤ n) (hn : n ≤ 16777216) : (ls.map (·.length)).sum + ls.length * y.length ≤ 16777216 := by
  have h2 := sum_lens ls
  have h3 : ls.length * y.length ≤ ls.length * 1 := Nat.mul_le_mul_left _ hy
  omega
theorem tot_dropLast (ls : List Str) : tot ls.dropLast ≤ tot ls := by
  induction ls with
  | nil => exact Nat.le_refl _
  | cons l r ih =>
    cases r with
    | nil => exact Nat.zero_le _
    | cons a r => rw [List.dropLast_cons_cons, tot_cons, tot_cons l (a :: r)]; omega
theorem tot_take (ls : List Str) (n : Nat) : tot (ls.take n) + tot (ls.drop n) = tot ls := by
  rw [← tot_append, List.take_append_drop]
theorem tot_set {ls : List Str} {i : Nat} {a b : Str} (h : ls[i]? = some a) : tot (ls.set i b) + a.length = tot ls + b.length := by
  induction ls generalizing i with
  | nil => simp at h
  | cons l r ih =>
    cases i with
    | zero =>
      have e : l = a := Option.some.inj h
      rw [List.set_cons_zero, tot_cons, tot_cons, e]
      omega
    | succ i =>
      rw [List.set_cons_succ, tot_cons, tot_cons]
      have := ih (i := i) (by simpa using h)
      omega
end E85

/-! The text by its statements, and how a def is called. -/
namespace E85
open PySem PySem.Spec PyProof.Rows L2
def topS (i : Nat) : Stmt := PySem.Challenge.pw_onesilent_k85_whole_pattern_texts_bent.main.body.getD i (.Pass ⟨0, 0, 0, 0⟩)
abbrev sIsInteger : Stmt := topS 3
abbrev nIsInteger : List Str := ["thing"]
theorem scIsInteger : FnScope nIsInteger ["thing"] (defScope sIsInteger) := ⟨rfl, rfl, rfl, by decide +kernel, rfl, by decide +kernel, by decide +kernel⟩
abbrev sIsWithin : Stmt := topS 4
abbrev nIsWithin : List Str := ["thing", "least", "most"]
theorem scIsWithin : FnScope nIsWithin ["thing", "least", "most"] (defScope sIsWithin) := ⟨rfl, rfl, rfl, by decide +kernel, rfl, by decide +kernel, by decide +kernel⟩
abbrev sIsMany : Stmt := topS 5
abbrev nIsMany : List Str := ["thing"]
theorem scIsMany : FnScope nIsMany ["thing"] (defScope sIsMany) := ⟨rfl, rfl, rfl, by decide +kernel, rfl, by decide +kernel, by decide +kernel⟩
abbrev sIsNumber : Stmt := topS 15
abbrev nIsNumber : List Str := ["word", "sign"]
theorem scIsNumber : FnScope nIsNumber ["word"] (defScope sIsNumber) := ⟨rfl, rfl, rfl, by decide +kernel, rfl, by decide +kernel, by decide +kernel⟩
abbrev sNumberTold : Stmt := topS 16
abbrev nNumberTold : List Str := ["word"]
theorem scNumberTold : FnScope nNumberTold ["word"] (defScope sNumberTold) := ⟨rfl, rfl, rfl, by decide +kernel, rfl, by decide +kernel, by decide +kernel⟩
abbrev sLinesTold : Stmt := topS 17
abbrev nLinesTold : List Str := ["text", "pieces"]
theorem scLinesTold : FnScope nLinesTold ["text"] (defScope sLinesTold) := ⟨rfl, rfl, rfl, by decide +kernel, rfl, by decide +kernel, by decide +kernel⟩
abbrev sEntriesTold : Stmt := topS 18
abbrev nEntriesTold : List Str := ["words", "many", "found", "me", "word", "entry"]
theorem scEntriesTold : FnScope nEntriesTold ["words", "many"] (defScope sEntriesTold) := ⟨rfl, rfl, rfl, by decide +kernel, rfl, by decide +kernel, by decide +kernel⟩
abbrev sReadPattern : Stmt := topS 19
abbrev nReadPattern : List Str := ["many", "text", "lines", "rest", "found", "at", "line", "entries"]
theorem scReadPattern : FnScope nReadPattern ["many", "text"] (defScope sReadPattern) := ⟨rfl, rfl, rfl, by decide +kernel, rfl, by decide +kernel, by decide +kernel⟩
abbrev sLawDeck : Stmt := topS 21
abbrev nLawDeck : List Str := ["_law_script", "_law_seed", "_law_cell"]
theorem scLawDeck : FnScope nLawDeck ["_law_script"] (defScope sLawDeck) := ⟨rfl, rfl, rfl, by decide +kernel, rfl, by decide +kernel, by decide +kernel⟩
abbrev sLawMixed : Stmt := topS 22
abbrev nLawMixed : List Str := ["_law_cell", "_law_turn", "_law_number"]
theorem scLawMixed : FnScope nLawMixed ["_law_cell", "_law_turn"] (defScope sLawMixed) := ⟨rfl, rfl, rfl, by decide +kernel, rfl, by decide +kernel, by decide +kernel⟩
abbrev sLawDraw : Stmt := topS 23
abbrev nLawDraw : List Str := ["_law_deck_here", "_law_many", "_law_cell", "_law_found"]
theorem scLawDraw : FnScope nLawDraw ["_law_deck_here", "_law_many"] (defScope sLawDraw) := ⟨rfl, rfl, rfl, by decide +kernel, rfl, by decide +kernel, by decide +kernel⟩
abbrev sLawPattern : Stmt := topS 24
abbrev nLawPattern : List Str := ["_law_deck_here", "_law_many", "_law_rounds", "_law_found", "_law_turn", "_law_row_here", "_law_me", "_law_other"]
theorem scLawPattern : FnScope nLawPattern ["_law_deck_here", "_law_many"] (defScope sLawPattern) := ⟨rfl, rfl, rfl, by decide +kernel, rfl, by decide +kernel, by decide +kernel⟩
abbrev sLawPatternText : Stmt := topS 25
abbrev nLawPatternText : List Str := ["_law_pattern_here", "_law_lines", "_law_row_here", "_law_missed", "_law_line"]
theorem scLawPatternText : FnScope nLawPatternText ["_law_pattern_here"] (defScope sLawPatternText) := ⟨rfl, rfl, rfl, by decide +kernel, rfl, by decide +kernel, by decide +kernel⟩
abbrev sLawSame : Stmt := topS 26
abbrev nLawSame : List Str := ["_law_one", "_law_other", "_law_k"]
theorem scLawSame : FnScope nLawSame ["_law_one", "_law_other"] (defScope sLawSame) := ⟨rfl, rfl, rfl, by decide +kernel, rfl, by decide +kernel, by decide +kernel⟩
abbrev sLawRow : Stmt := topS 27
abbrev nLawRow : List Str := ["_law_many", "_law_line", "_law_words", "_law_found", "_law_me"]
theorem scLawRow : FnScope nLawRow ["_law_many", "_law_line"] (defScope sLawRow) := ⟨rfl, rfl, rfl, by decide +kernel, rfl, by decide +kernel, by decide +kernel⟩
abbrev sLawRead : Stmt := topS 28
abbrev nLawRead : List Str := ["_law_many", "_law_text", "_law_lines", "_law_found", "_law_at", "_law_row_here"]
theorem scLawRead : FnScope nLawRead ["_law_many", "_law_text"] (defScope sLawRead) := ⟨rfl, rfl, rfl, by decide +kernel, rfl, by decide +kernel, by decide +kernel⟩
abbrev sLawBent : Stmt := topS 29
abbrev nLawBent : List Str := ["_law_deck_here", "_law_many", "_law_text", "_law_lines", "_law_at", "_law_words", "_law_place", "_law_kind", "_law_word", "_law_line"]
theorem scLawBent : FnScope nLawBent ["_law_deck_here", "_law_many", "_law_text"] (defScope sLawBent) := ⟨rfl, rfl, rfl, by decide +kernel, rfl, by decide +kernel, by decide +kernel⟩
abbrev sLawTold : Stmt := topS 30
abbrev nLawTold : List Str := ["_law_many", "_law_text", "_law_found", "error"]
theorem scLawTold : FnScope nLawTold ["_law_many", "_law_text"] (defScope sLawTold) := ⟨rfl, rfl, rfl, by decide +kernel, rfl, by decide +kernel, by decide +kernel⟩
abbrev sLaw : Stmt := topS 31
abbrev nLaw : List Str := ["_law_script", "_law_deck_here", "_law_many", "_law_text", "_law_turn", "_law_bent_here", "_law_other", "_law_odd", "_law_none"]
theorem scLaw : FnScope nLaw ["_law_script"] (defScope sLaw) := ⟨rfl, rfl, rfl, by decide +kernel, rfl, by decide +kernel, by decide +kernel⟩

/-- the def x of the module keeps the promise sp -/
structure Cal (P : Program) (w : World) (K : PySem.W.Frag) (mg : Str → Option Value) (base : Heap) (CX : CXT) (k : Nat) (x : Str) (ps : List Str) (sp : Sp) : Prop where
  ex : ∃ f fd, mg x = some (.ref f) ∧ PySem.W.keepIn K (.ref f) = true ∧ Binds K fd ps [] ∧ FnOk P w K mg base CX k f fd ps sp
section
variable {X : Cx} {x : Str} {ps : List Str} {sp : Sp} {k : Nat} {p pos : Pos} {e : Expr} {es : List Expr} {t : TA}
/-- a call of a def that raises nothing -/
theorem pe_cal (C : Cal X.prog X.w X.K X.mg X.base CX0 k x ps sp) (hr : Room k X.A) (hg : Gl X x) (ha : PA X (e :: es) t) (hdb : (x == ("__debug__" : Str)) = false := by decide)
    (he : starEach (e :: es) X.env = (false, eval e X.env) :: starEach es X.env := by rfl) (hpl : (backTo pos (starEach es X.env)).any (·.1) = false := by rfl) : PE X (.Call (.Name x p) (e :: es) [] pos) (tCall sp [] E0 t) := by
  obtain ⟨f, fd, h1, h2, h3, h4⟩ := C.ex
  exact pe_call h4 hr hg h1 h2 h3 .nil pass0 ha hdb he hpl
end
theorem Cal.mono {P : Program} {w : World} {K : PySem.W.Frag} {mg : Str → Option Value} {base : Heap} {CX : CXT} {j k : Nat} {x : Str} {ps : List Str} {sp : Sp} (C : Cal P w K mg base CX j x ps sp) (h : j ≤ k) : Cal P w K mg base CX k x ps sp := by
  obtain ⟨f, fd, h1, h2, h3, h4⟩ := C.ex
  exact ⟨f, fd, h1, h2, h3, h4.mono h⟩
/-- what is built in stays so -/
structure Blt (mg : Str → Option Value) : Prop where
  isi : mg "isinstance" = none
  int : mg "int" = none
  bool : mg "bool" = none
  str : mg "str" = none
  list : mg "list" = none
  tuple : mg "tuple" = none
  len : mg "len" = none
  all : mg "all" = none
  range : mg "range" = none
  enum : mg "enumerate" = none
  abs : mg "abs" = none
/-- the module's constants -/
structure Kon (mg : Str → Option Value) : Prop where
  least : ∃ t, mg "LEAST_MANY" = some (.int 3 t)
  most : ∃ t, mg "MOST_MANY" = some (.int 5 t)
  figs : ∃ t, mg "FIGURES" = some (.str "0123456789" t)
  mfig : ∃ t, mg "MOST_FIGURES" = some (.int 12 t)
  mrnd : ∃ t, mg "MOST_ROUNDS" = some (.int 30 t)
  nob : ∃ t, mg "NOBODY" = some (.str "-" t)
end E85

/-! is_integer, is_within, is_many -/
namespace E85
open PySem PySem.Spec PyProof.Rows L2
/-- the kinds of values that are looked at -/
inductive Fit (H : Hp) : V → String → Prop where
  | non : Fit H .non "NoneType"
  | bl (b : Bool) : Fit H (.bl b) "bool"
  | int (i : Int) : Fit H (.int i) "int"
  | str (z : Str) : Fit H (.str z) "str"
  | lst {a : Addr} {xs : List V} (h : H a = some (.lst xs)) : Fit H (.ref a) "list"
  | tup {a : Addr} {xs : List V} (h : H a = some (.tup xs)) : Fit H (.ref a) "tuple"
  | dK {a : Addr} {kvs : List (Key × V)} (h : H a = some (.dK kvs)) : Fit H (.ref a) "dict"
theorem Fit.ty {K : PySem.W.Frag} {H : Hp} {x : V} {n : String} (f : Fit H x n) : TyX K H x (.type n) := by
  cases f with
  | non => exact .base .non
  | bl b => exact .base (.bl b)
  | int i => exact .base (.int i)
  | str z => exact .base (.str z)
  | lst h => exact .base (.lst h)
  | tup h => exact .base (.tup h)
  | dK h => exact .base (.dK h)
theorem Fit.same {H H' : Hp} {x : V} {n : String} (f : Fit H x n) (s : Same H H') : Fit H' x n := by
  cases f with
  | non => exact .non
  | bl b => exact .bl b
  | int i => exact .int i
  | str z => exact .str z
  | lst h => exact .lst (s _ _ h)
  | tup h => exact .tup (s _ _ h)
  | dK h => exact .dK (s _ _ h)
def isIntV : V → Bool
  | .int _ => true
  | _ => false
def isStrV : V → Bool
  | .str _ => true
  | _ => false
/-- isinstance(x, T) -/
theorem isi_ok {K : PySem.W.Frag} {H : Hp} {x : V} {n T : String} {b : Bool} {Q : VK} (f : Fit H x n) (h : kitB n T = some b) (q : Q (.bl b) H) : rIsi K [x, .ty T] H Q :=
  ⟨_, _, _, _, b, rfl, .ty T, f.ty, kit_ty h, q⟩
theorem kit_int {H : Hp} {x : V} {n : String} (f : Fit H x n) : ∃ b, kitB n "int" = some b ∧ (b = true → (∃ i, x = .int i) ∨ ∃ k, x = .bl k) ∧ (b = false → isIntV x = false) := by
  cases f <;> first
    | exact ⟨true, by decide +kernel, fun _ => .inl ⟨_, rfl⟩, fun z => Bool.noConfusion z⟩
    | exact ⟨true, by decide +kernel, fun _ => .inr ⟨_, rfl⟩, fun z => Bool.noConfusion z⟩
    | exact ⟨false, by decide +kernel, fun z => Bool.noConfusion z, fun _ => rfl⟩
section
variable {P : Program} {w : World} {K : PySem.W.Frag} {mg : Str → Option Value} {base : Heap}
def spIsInt : Sp := fun vs H Q _ => ∃ x n, vs = [x] ∧ Fit H x n ∧ Q (.bl (isIntV x)) H
theorem ok_is_integer {f : Addr} {fd : FuncData} (F : Fun K "is_integer" "is_integer" sIsInteger f fd) (B : Blt mg) : FnOk P w K mg base CX0 1 f fd ["thing"] spIsInt := by
  refine F.ok scIsInteger (fun vs H Q E h => ?_) (fun cdv A outer s H vs Q E hr h => ?_)
  · obtain ⟨x, n, rfl, _⟩ := h
    rfl
  · obtain ⟨x, n, rfl, ft, q⟩ := h
    refine ⟨_, pss_one (ps_ret (pe_and (pe_callB call_isi (by rfl) B.isi (by decide +kernel) (pa_cons (pv 0) (pa_cons (pe_bltn (v := .ty "int") (by rfl) B.int boot_int rfl) pa_nil)))
      (pe_one (pe_not (pe_callB call_isi (by rfl) B.isi (by decide +kernel) (pa_cons (pv 0) (pa_cons (pe_bltn (v := .ty "bool") (by rfl) B.bool (by decide +kernel) rfl) pa_nil))))))), ?_⟩
    obtain ⟨b, e1, e2, e3⟩ := kit_int ft
    refine ⟨x, rfl, _, _, _, _, b, rfl, .ty "int", ft.ty, kit_ty e1, b, rfl, ?_⟩
    cases b with
    | false =>
      refine iteF ?_
      rw [← e3 rfl]
      exact q
    | true =>
      refine iteT ⟨x, rfl, ?_⟩
      rcases e2 rfl with ⟨i, e⟩ | ⟨i, e⟩
      · subst e
        exact ⟨_, _, _, _, false, rfl, .ty "bool", (Fit.int _).ty (H := H), kit_ty (by decide +kernel), false, rfl, q⟩
      · subst e
        exact ⟨_, _, _, _, true, rfl, .ty "bool", (Fit.bl _).ty (H := H), kit_ty (by decide +kernel), true, rfl, q⟩
/-- what is_within hands back -/
def within (x : V) (a b : Int) : Bool := match x with
  | .int i => decide (a ≤ i) && decide (i ≤ b)
  | _ => false
def spWithin : Sp := fun vs H Q _ => ∃ x n a b, vs = [x, .int a, .int b] ∧ Fit H x n ∧ Q (.bl (within x a b)) H
theorem ok_is_within {f : Addr} {fd : FuncData} (F : Fun K "is_within" "is_within" sIsWithin f fd) (C : Cal P w K mg base CX0 1 "is_integer" ["thing"] spIsInt) : FnOk P w K mg base CX0 2 f fd ["thing", "least", "most"] spWithin := by
  refine F.ok scIsWithin (fun vs H Q E h => ?_) (fun cdv A outer s H vs Q E hr h => ?_)
  · obtain ⟨x, n, a, b, rfl, _⟩ := h
    rfl
  · obtain ⟨x, n, a, b, rfl, ft, q⟩ := h
    refine ⟨_, pss_one (ps_ret (pe_and (pe_cal C hr (by rfl) (pa_cons (pv 0) pa_nil)) (pe_one (pe_chain op_le op_le (pv 1) (pv 0) (pv 2))))), ?_⟩
    refine ⟨x, rfl, x, n, rfl, ft, _, rfl, ?_⟩
    cases ft with
    | int i =>
      refine iteT ⟨_, rfl, _, rfl, _, _, rfl, rfl, _, rfl, ?_⟩
      show if decide (a ≤ i) = true then _ else _
      by_cases c : a ≤ i
      · rw [decide_eq_true c]
        refine iteT ⟨_, rfl, _, _, rfl, rfl, ?_⟩
        have e : within (.int i) a b = decide (i ≤ b) := by
          show (decide (a ≤ i) && decide (i ≤ b)) = _
          rw [decide_eq_true c, Bool.true_and]
        show Q _ H
        rw [e] at q
        exact q
      · rw [decide_eq_false c]
        refine iteF ?_
        have e : within (.int i) a b = false := by
          show (decide (a ≤ i) && decide (i ≤ b)) = _
          rw [decide_eq_false c, Bool.false_and]
        show Q _ H
        rw [e] at q
        exact q
    | non => exact iteF q
    | bl b => exact iteF q
    | str z => exact iteF q
    | lst h => exact iteF q
    | tup h => exact iteF q
    | dK h => exact iteF q
/-- how many machines: 3 to 5 -/
def isMany (x : V) : Bool := within x 3 5
def spIsMany : Sp := fun vs H Q _ => ∃ x n, vs = [x] ∧ Fit H x n ∧ Q (.bl (isMany x)) H
theorem ok_is_many {f : Addr} {fd : FuncData} (F : Fun K "is_many" "is_many" sIsMany f fd) (N : Kon mg) (C : Cal P w K mg base CX0 2 "is_within" ["thing", "least", "most"] spWithin) : FnOk P w K mg base CX0 3 f fd ["thing"] spIsMany := by
  obtain ⟨t1, e1⟩ := N.least
  obtain ⟨t2, e2⟩ := N.most
  refine F.ok scIsMany (fun vs H Q E h => ?_) (fun cdv A outer s H vs Q E hr h => ?_)
  · obtain ⟨x, n, rfl, _⟩ := h
    rfl
  · obtain ⟨x, n, rfl, ft, q⟩ := h
    refine ⟨_, pss_one (ps_ret (pe_cal C hr (by rfl) (pa_cons (pv 0) (pa_cons (pe_glob (v := .int 3) rfl e1 ⟨_, rfl⟩) (pa_cons (pe_glob (v := .int 5) rfl e2 ⟨_, rfl⟩) pa_nil))))), ?_⟩
    exact ⟨x, rfl, x, n, 3, 5, rfl, ft, q⟩
end
end E85

/-! is_number, number_told -/
namespace E85
open PySem PySem.Spec PyProof.Rows L2 TL
theorem same_new {H : Hp} {p : Addr} {o : HO} (h : H p = none) : Same H (upd H p o) := fun b x e => by
  rw [upd_ne (ne_of_none e h)]
  exact e
theorem take_more {α : Type} {l : List α} {i : Nat} {x : α} (h : l[i]? = some x) : l.take (i + 1) = l.take i ++ [x] := by
  rw [List.take_add_one, h]
  rfl
/-- a write at an address that was new ahead of H0 keeps what H0 has -/
theorem same_at {H0 H : Hp} {D : Addr} {o : HO} (s : Same H0 H) (h : H0 D = none) : Same H0 (upd H D o) := fun b x e => by
  rw [upd_ne (ne_of_none e h)]
  exact s _ _ e
theorem cps_at {z : Str} {i c : Nat} (h : z.cps[i]? = some c) : (tl z)[i]? = some c := by
  show z.cps.toList[i]? = some c
  rw [Array.getElem?_toList]
  exact h
theorem size_tl (z : Str) : z.cps.size = (tl z).length := by
  show z.cps.size = z.cps.toList.length
  rw [Array.length_toList]
theorem str_zero {c : Nat} : decide (V.str ⟨#[c]⟩ = V.str "0") = decide (c = 48) := by
  by_cases h : c = 48
  · subst h
    have e : (⟨#[48]⟩ : Str) = "0" := by decide +kernel
    rw [e]
    simp
  · have e : ¬ V.str ⟨#[c]⟩ = V.str "0" := fun z => h (by
      have z1 : (⟨#[c]⟩ : Str) = "0" := V.str.inj z
      have z2 := congrArg tl z1
      have z3 : tl ("0" : Str) = [48] := by decide +kernel
      rw [z3] at z2
      have z4 : [c] = [48] := z2
      exact (List.cons.inj z4).1)
    rw [decide_eq_false h, decide_eq_false e]
section
variable {P : Program} {w : World} {K : PySem.W.Frag} {mg : Str → Option Value} {base : Heap}
def spIsNum : Sp := fun vs H Q _ => ∃ z : Str, vs = [.str z] ∧ z.length < sizeLine ∧ ∀ H', Same H H' → Q (.bl (isNumB z)) H'
theorem ok_is_number {f : Addr} {fd : FuncData} (F : Fun K "is_number" "is_number" sIsNumber f fd) (B : Blt mg) (N : Kon mg) : FnOk P w K mg base CX0 1 f fd ["word"] spIsNum := by
  obtain ⟨t1, e1⟩ := N.figs
  refine F.ok scIsNumber (fun vs H Q E h => ?_) (fun cdv A outer s H vs Q E hr h => ?_)
  · obtain ⟨z, rfl, _⟩ := h
    rfl
  · obtain ⟨z, rfl, hz, q⟩ := h
    refine ⟨_, pss_one (ps_ret (pe_and (pe_cmpR op_gt (pe_callB call_len_str (by rfl) B.len PySem.boot_len (pa_cons (pv 0) pa_nil)) pe_int (nomark _))
      (pe_and (pe_callB (cr_all rfl) (by rfl) B.all (by decide +kernel) (pa_cons (pe_lc (own := [("sign", 1)]) (g := gName 1) (tt := tYes) rfl scIsNumber.nd (pi_str (pv 0)) (blkOk_by (N := nIsNumber) (sc := defScope sIsNumber) (by decide +kernel))
          (fun _ _ _ _ _ => pg_name (i := 1) scIsNumber.nd rfl (Or.inl rfl)) (fun _ _ _ _ _ => pts_nil) (fun _ _ _ _ _ => pe_cmpR op_in_sign (pv 1) (pe_glob (v := .str "0123456789") rfl e1 ⟨_, rfl⟩) rfl)) pa_nil))
        (pe_one (pe_or (pe_cmpR op_eq (pv 0) pe_str (nomark _)) (pe_one (pe_cmpR op_ne (pe_ix ix_str (pv 0) pe_int (fun _ _ => rfl)) pe_str (nomark _)))))))), ?_⟩
    refine ⟨.str z, rfl, z, rfl, Nat.le_of_lt hz, _, _, rfl, rfl, _, rfl, ?_⟩
    show if decide ((0 : Int) < (z.length : Nat)) = true then _ else _
    by_cases c0 : 0 < z.length
    · rw [decide_eq_true (show (0 : Int) < (z.length : Nat) by omega)]
      refine iteT ⟨.str z, rfl, z, rfl, fun D nD => lc_it walk_str (fun i G => Same H G ∧ G D = some (.lst ((((tl z).take i).map fun c => decide (c ∈ tl digs)).map V.bl))) ⟨same_new nD, upd_same⟩ (fun _ _ _ _ => trivial) ?_ ?_⟩
      · rintro i x G G' hi ⟨sG, eG⟩ ⟨rfl, c, hc, rfl⟩
        have ht := take_more (cps_at hc)
        refine ⟨rfl, _, rfl, c, digs, rfl, rfl, _, eG, ?_, same_at sG nD, ?_⟩
        · rw [List.length_map, List.length_map, List.length_take]
          have h1 := size_tl z
          have h2 := len_tl z
          omega
        · rw [upd_same, ht]
          simp
      · rintro G ⟨sG, eG⟩
        rw [size_tl, List.take_length] at eG
        refine ⟨D, _, rfl, .inl (.inl eG), _, rfl, ?_⟩
        have e : isNumB z = ((((tl z).map fun c => decide (c ∈ tl digs)).all id) && (decide (z = "0") || !decide ((tl z).head? = some 48))) := by
          unfold isNumB
          rw [decide_eq_true c0, Bool.true_and, List.all_map]
          rfl
        have q2 := q G sG
        rw [e] at q2
        cases e2 : ((tl z).map fun c => decide (c ∈ tl digs)).all id with
        | false =>
          rw [e2, Bool.false_and] at q2
          exact iteF q2
        | true =>
          rw [e2, Bool.true_and] at q2
          refine iteT ⟨.str z, rfl, rfl, _, rfl, ?_⟩
          show if decide (V.str z = V.str "0") = true then _ else _
          by_cases c1 : z = "0"
          · rw [decide_eq_true (show V.str z = V.str "0" from congrArg V.str c1)]
            rw [decide_eq_true c1, Bool.true_or] at q2
            exact iteT q2
          · rw [decide_eq_false (show ¬ V.str z = V.str "0" from fun y => c1 (V.str.inj y))]
            rw [decide_eq_false c1, Bool.false_or] at q2
            obtain ⟨c, hc⟩ : ∃ c, (tl z)[0]? = some c := ⟨(tl z)[0]'(by rw [← len_tl]; exact c0), List.getElem?_eq_getElem _⟩
            have hh : (tl z).head? = some c := by rw [List.head?_eq_getElem?]; exact hc
            refine iteF ⟨.str z, rfl, z, 0, c, rfl, rfl, Nat.le_of_lt hz, atI_nat (j := 0) hc, rfl, ?_⟩
            have e3 : (!decide (V.str ⟨#[c]⟩ = V.str "0")) = !decide ((tl z).head? = some 48) := by
              rw [str_zero, hh]
              simp
            show Q (.bl (!decide (V.str ⟨#[c]⟩ = V.str "0"))) G
            rw [e3]
            exact q2
    · rw [decide_eq_false (show ¬ (0 : Int) < (z.length : Nat) by omega)]
      refine iteF ?_
      have e : isNumB z = false := by
        unfold isNumB
        rw [decide_eq_false c0, Bool.false_and]
      have q2 := q H (Same.refl H)
      rw [e] at q2
      exact q2
def spNumTold : Sp := fun vs H Q _ => ∃ z : Str, vs = [.str z] ∧ z.length < sizeLine ∧ ∀ H', Same H H' → Q (oV (numTold z)) H'
theorem ok_number_told {f : Addr} {fd : FuncData} (F : Fun K "number_told" "number_told" sNumberTold f fd) (B : Blt mg) (N : Kon mg) (C : Cal P w K mg base CX0 1 "is_number" ["word"] spIsNum) : FnOk P w K mg base CX0 2 f fd ["word"] spNumTold := by
  obtain ⟨t1, e1⟩ := N.mfig
  refine F.ok scNumberTold (fun vs H Q E h => ?_) (fun cdv A outer s H vs Q E hr h => ?_)
  · obtain ⟨z, rfl, _⟩ := h
    rfl
  · obtain ⟨z, rfl, hz, q⟩ := h
    refine ⟨_, pss_one (ps_ret (pe_ifExp (PW.pt (pw_and (pt_cmpR op_le (pe_callB call_len_str (by rfl) B.len PySem.boot_len (pa_cons (pv 0) pa_nil)) (pe_glob (v := .int 12) rfl e1 ⟨_, rfl⟩) (nomark _)) (pw_and1 (pt_val (pe_cal C hr (by rfl) (pa_cons (pv 0) pa_nil))))))
      (pe_callTy call_int_str (by rfl) B.int (by decide +kernel) (pa_cons (pv 0) pa_nil)) pe_non)), ?_⟩
    refine ⟨.str z, rfl, z, rfl, Nat.le_of_lt hz, _, _, rfl, rfl, _, rfl, ?_⟩
    show if decide (((z.length : Nat) : Int) ≤ 12) = true then _ else _
    by_cases c0 : z.length ≤ 12
    · rw [decide_eq_true (show ((z.length : Nat) : Int) ≤ 12 by omega)]
      refine iteT ⟨.str z, rfl, z, rfl, hz, fun G sG => ⟨_, rfl, ?_⟩⟩
      cases e2 : isNumB z with
      | true =>
        have e3 : numTold z = some (valS z) := if_pos ⟨c0, e2⟩
        have q2 := q G sG
        rw [e3] at q2
        exact iteT ⟨.str z, rfl, z, _, rfl, int_of e2 c0, by omega, q2⟩
      | false =>
        have e3 : numTold z = none := if_neg (fun y => by rw [e2] at y; exact Bool.false_ne_true y.2)
        have q2 := q G sG
        rw [e3] at q2
        exact iteF q2
    · rw [decide_eq_false (show ¬ ((z.length : Nat) : Int) ≤ 12 by omega)]
      have e3 : numTold z = none := if_neg (fun y => c0 y.1)
      have q2 := q H (Same.refl H)
      rw [e3] at q2
      exact iteF (iteF q2)
end
end E85

/-! lines_told, entries_told -/
namespace E85
open PySem PySem.Spec PyProof.Rows L2 TL
/-- xs[:-1] -/
theorem cut_last (xs : List V) : cutV xs none (some (-1)) = xs.dropLast := by
  have h := HT.clip_eq (-1) xs.length xs.length
  rw [if_pos (by decide)] at h
  have e : HT.sIx xs.length xs.length (some (-1)) = xs.length - 1 := by omega
  unfold cutV
  rw [e, HT.sIx_none, List.drop_zero, Nat.sub_zero, List.dropLast_eq_take]
/-- xs[-1] -/
theorem at_last {α : Type} {xs : List α} {y : α} (h : xs.getLast? = some y) : atI xs (-1) = some y := by
  obtain ⟨r, rfl⟩ : ∃ r, xs = r ++ [y] := by
    cases xs with
    | nil => cases h
    | cons a l =>
      rw [List.getLast?_eq_some_getLast (List.cons_ne_nil a l)] at h
      exact ⟨(a :: l).dropLast, by rw [← Option.some.inj h]; exact (List.dropLast_concat_getLast _).symm⟩
  exact atI_last r y
theorem map_last {xs : List Str} {y : Str} (h : xs.getLast? = some y) : (xs.map V.str).getLast? = some (V.str y) := by
  rw [List.getLast?_map, h]
  rfl
section
variable {P : Program} {w : World} {K : PySem.W.Frag} {mg : Str → Option Value} {base : Heap} {CN CB : Addr}
/-- lines_told(text) -/
def spLines (CB : Addr) : Sp := fun vs H Q E => ∃ x n, vs = [x] ∧ Fit H x n ∧ (isStrV x = false → ∀ d, H d = none → E (.ref CB) (some d) (upd H d (.xd [(("line" : Str), .int 0)]))) ∧
  ∀ z, x = .str z → z.length ≤ 2000000 ∧ ∀ H' p t last, Same H H' → (Txt.split z nl1).getLast? = some last → H' p = some (.lst ((Txt.split z nl1).dropLast.map V.str)) → H' t = some (.tup [.ref p, .str last]) → Q (.ref t) H'
theorem ok_lines_told {f : Addr} {fd : FuncData} (F : Fun K "lines_told" "lines_told" sLinesTold f fd) (B : Blt mg) (T : ExcT P K mg CN CB) : FnOk P w K mg base (L2.CX P w) 3 f fd ["text"] (spLines CB) := by
  refine F.okX scLinesTold (fun vs H Q E h => ?_) (fun cdv A outer s H vs Q E hr h => ?_)
  · obtain ⟨x, n, rfl, _⟩ := h
    rfl
  · obtain ⟨x, n, rfl, ft, qx, qs⟩ := h
    refine ⟨_, pss_cons (ps_if (pt_not (pt_val (pe_callB call_isi (by rfl) B.isi (by decide +kernel) (pa_cons (pv 0) (pa_cons (pe_bltn (v := .ty "str") (by rfl) B.str (by decide +kernel) rfl) pa_nil)))))
        (pss_one (ps_raiseBad rfl T hr (takes_of rfl rfl rfl rfl) (by exact (pa_cons pe_int pa_nil)))) pss_nil)
      (pss_cons (ps_set (i := 1) scLinesTold.nd rfl (.inl rfl) (pe_split (pv 0) pe_str))
      (pss_one (ps_ret (pe_tup (pa_cons (pe_slice sl_list (pv 1) po_none (po_some (pe_un un_neg pe_int))) (pa_cons (pe_ix ix_list (pv 1) (pe_un un_neg pe_int) (fun _ _ => rfl)) pa_nil)))))), ?_⟩
    cases ft with
    | str z =>
      obtain ⟨hz, q⟩ := qs z rfl
      refine ⟨.str z, rfl, _, _, _, _, true, rfl, .ty "str", (Fit.str z).ty (H := H), kit_ty (by decide +kernel), true, rfl, ?_⟩
      refine iteF ?_
      refine ⟨.str z, rfl, ⟨z, rfl⟩, z, nl1, rfl, rfl, by decide +kernel, by rw [sizeLine_eq]; omega, fun p hp => ?_⟩
      have s1 : Same H (upd H p (.lst ((Txt.split z nl1).map V.str))) := same_new hp
      obtain ⟨last, hl⟩ : ∃ last, (Txt.split z nl1).getLast? = some last := ⟨_, List.getLast?_eq_some_getLast (ne_of_tot (nl_tot z))⟩
      refine ⟨.ref p, rfl, 1, rfl, -1, rfl, p, _, rfl, .inl (.inl upd_same), fun c hc => ?_⟩
      have np : p ≠ c := fun e => by
        rw [← e, upd_same] at hc
        cases hc
      have s2 := same_at (o := .lst (cutV ((Txt.split z nl1).map V.str) none (some (-1)))) (D := c) s1 (s1.free hc)
      refine ⟨.ref p, rfl, 1, rfl, p, _, -1, .str last, rfl, rfl, .inl (.inl (by rw [upd_ne np]; exact upd_same)), at_last (map_last hl), by show 2 ≤ sizeLine; decide, fun t ht => ?_⟩
      have nc : c ≠ t := fun e => by
        rw [← e, upd_same] at ht
        cases ht
      refine q _ c t last (same_at s2 (s2.free ht)) hl ?_ upd_same
      rw [upd_ne nc, upd_same]
      show some (HO.lst (cutV ((Txt.split z nl1).map V.str) none (some (-1)))) = _
      rw [cut_last, List.map_dropLast]
    | non => exact ⟨_, rfl, _, _, _, _, false, rfl, .ty "str", Fit.non.ty (H := H), kit_ty (by decide +kernel), false, rfl, iteT ⟨_, rfl, fun d hd => qx rfl d hd⟩⟩
    | bl b => exact ⟨_, rfl, _, _, _, _, false, rfl, .ty "str", (Fit.bl b).ty (H := H), kit_ty (by decide +kernel), false, rfl, iteT ⟨_, rfl, fun d hd => qx rfl d hd⟩⟩
    | int i => exact ⟨_, rfl, _, _, _, _, false, rfl, .ty "str", (Fit.int i).ty (H := H), kit_ty (by decide +kernel), false, rfl, iteT ⟨_, rfl, fun d hd => qx rfl d hd⟩⟩
    | lst h => exact ⟨_, rfl, _, _, _, _, false, rfl, .ty "str", (Fit.lst h).ty, kit_ty (by decide +kernel), false, rfl, iteT ⟨_, rfl, fun d hd => qx rfl d hd⟩⟩
    | tup h => exact ⟨_, rfl, _, _, _, _, false, rfl, .ty "str", (Fit.tup h).ty, kit_ty (by decide +kernel), false, rfl, iteT ⟨_, rfl, fun d hd => qx rfl d hd⟩⟩
    | dK h => exact ⟨_, rfl, _, _, _, _, false, rfl, .ty "str", (Fit.dK h).ty, kit_ty (by decide +kernel), false, rfl, iteT ⟨_, rfl, fun d hd => qx rfl d hd⟩⟩
/-- entries_told(words, many) -/
def spEnt (K : PySem.W.Frag) : Sp := fun vs H Q _ => ∃ (a : Addr) (m : Int) (ws : List Str), vs = [.ref a, .int m] ∧ SqL K H a (ws.map V.str) ∧ ws.length ≤ 2000000 ∧ (∀ w ∈ ws, w.length ≤ 2000000) ∧ m ≤ 5 ∧
  (rowL m ws = none → ∀ H', Same H H' → Q .non H') ∧ ∀ row, rowL m ws = some row → ∀ H' p, Same H H' → H' p = some (.tup (row.map oV)) → Q (.ref p) H'
theorem ok_entries_told {f : Addr} {fd : FuncData} (F : Fun K "entries_told" "entries_told" sEntriesTold f fd) (B : Blt mg) (N : Kon mg) (C : Cal P w K mg base CX0 2 "number_told" ["word"] spNumTold) : FnOk P w K mg base CX0 3 f fd ["words", "many"] (spEnt K) := by
  obtain ⟨t1, e1⟩ := N.nob
  refine F.ok scEntriesTold (fun vs H Q E h => ?_) (fun cdv A outer s H vs Q E hr h => ?_)
  · obtain ⟨a, m, ws, rfl, _⟩ := h
    rfl
  · obtain ⟨a, m, ws, rfl, hS, hlen, hw, hm, qn, qs⟩ := h
    refine ⟨_, pss_cons (ps_set (i := 2) scEntriesTold.nd rfl (.inl rfl) (pe_lst pa_nil))
      (pss_cons (ps_for PassesOwn.never rfl (pi_enum (by rfl) B.enum (pa_cons (pv 0) pa_nil))
          (pg_tup rfl (pgs_cons (pg_name (i := 3) scEntriesTold.nd rfl (.inl rfl)) (pgs_cons (pg_name (i := 4) scEntriesTold.nd rfl (.inl rfl)) pgs_nil)))
          (pss_cons (ps_set (i := 5) scEntriesTold.nd rfl (.inl rfl) (pe_ifExp (pt_cmpR op_eq (pv 4) (pe_glob (v := .str "-") rfl e1 ⟨_, rfl⟩) (nomark _)) pe_non (pe_cal C hr (by rfl) (pa_cons (pv 4) pa_nil))))
          (pss_cons (ps_if (PW.pt (pw_and (pt_cmpR op_ne (pv 4) (pe_glob (v := .str "-") rfl e1 ⟨_, rfl⟩) (nomark _))
              (pw_and1 (PW.pt (pw_or (pt_cmpR op_isN (pv 5) pe_non (nomark _)) (pw_or (pt_cmpR op_ge (pv 5) (pv 1) (nomark _)) (pw_or1 (pt_cmpR op_eq (pv 5) (pv 3) (nomark _)))))))))
            (pss_one (ps_ret pe_non)) pss_nil)
          (pss_one (ps_expr (pe_bm PySem.F.plainAttrs_list PySem.F.slot_list_append PySem.F.type_list_append mt_append (pv 2) (pa_cons (pv 5) pa_nil)))))))
      (pss_one (ps_ret (pe_ifExp (pt_cmpR op_eq (pe_callB call_len_seq (by rfl) B.len PySem.boot_len (pa_cons (pv 2) pa_nil)) (pv 1) (nomark _))
        (pe_callTy call_tuple_of (by rfl) B.tuple (by decide +kernel) (pa_cons (pv 2) pa_nil)) pe_non)))), ?_⟩
    -- found = []
    refine ⟨Nat.zero_le _, fun o no => ?_⟩
    have s1 : Same H (upd H o (.lst [])) := same_new no
    have noneOf : goL m 0 ws = none → rowL m ws = none := fun e => by
      unfold rowL
      by_cases c : (ws.length : Int) = m
      · rw [if_pos c, e]
      · rw [if_neg c]
    refine ⟨.ref a, rfl, a, ws.map V.str, rfl, s1.seq hS, for_it (walk_enum (xs := ws.map V.str)) (fun i σ G => ∃ fs y3 y4 y5, σ = [some (.ref a), some (.int m), some (.ref o), y3, y4, y5] ∧ Same H G ∧ G o = some (.lst (fs.map oV)) ∧ fs.length = i ∧ goL m 0 ws = andRow fs (goL m (i : Nat) (ws.drop i)))
      ⟨[], none, none, none, rfl, s1, upd_same, rfl, ?_⟩ (fun i σ G hi hP => ?_) ?_ ?_⟩
    · show goL m 0 ws = andRow [] (goL m 0 ws)
      cases goL m 0 ws <;> rfl
    · obtain ⟨fs, y3, y4, y5, _, sG, _⟩ := hP
      exact sG.seq hS
    · -- a turn
      rintro i v σ G G' hi ⟨fs, y3, y4, y5, rfl, sG, eo, hf, hg⟩ ⟨T, x, y, rfl, nT, rfl, ex, ey⟩
      obtain rfl : V.int (i : Nat) = x := Option.some.inj ex
      obtain ⟨wd, hwd, rfl⟩ : ∃ wd, ws[i]? = some wd ∧ y = V.str wd := by
        have ey : (ws.map V.str)[i]? = some y := ey
        rw [List.getElem?_map] at ey
        cases e : ws[i]? with
        | none => rw [e] at ey; cases ey
        | some wd => rw [e] at ey; exact ⟨wd, rfl, (Option.some.inj ey).symm⟩
      have hwl := hw wd (List.mem_of_getElem? hwd)
      have hz : wd.length < sizeLine := by rw [sizeLine_eq]; omega
      have hd : ws.drop i = wd :: ws.drop (i + 1) := by
        obtain ⟨h1, h2⟩ := List.getElem?_eq_some_iff.mp hwd
        rw [List.drop_eq_getElem_cons h1, h2]
      rw [hd] at hg
      have nTo : o ≠ T := ne_of_none eo nT
      have sT : Same G (upd G T (.tup [.int (i : Nat), .str wd])) := same_new nT
      have eoT : (upd G T (.tup [.int (i : Nat), .str wd])) o = some (.lst (fs.map oV)) := by
        rw [upd_ne nTo]
        exact eo
      refine ⟨T, [.int (i : Nat), .str wd], rfl, .inl (.inl upd_same), rfl, .int (i : Nat), [.str wd], rfl, .str wd, [], rfl, rfl, ?_⟩
      -- what follows once the entry is known good
      have good : ∀ (e : Option Int) (G2 : Hp), entL m (i : Nat) wd = some e → Same (upd G T (.tup [.int (i : Nat), .str wd])) G2 →
          ∃ fs' z3 z4 z5, [some (.ref a), some (.int m), some (.ref o), some (.int (i : Nat)), some (.str wd), some (oV e)] = [some (V.ref a), some (.int m), some (.ref o), z3, z4, z5] ∧ Same H (upd G2 o (.lst (fs.map oV ++ [oV e]))) ∧
            (upd G2 o (.lst (fs.map oV ++ [oV e]))) o = some (.lst (fs'.map oV)) ∧ fs'.length = i + 1 ∧ goL m 0 ws = andRow fs' (goL m ((i + 1 : Nat) : Int) (ws.drop (i + 1))) := fun e G2 he s2 => by
        refine ⟨fs ++ [e], some (.int (i : Nat)), some (.str wd), some (oV e), rfl, fun b z hb => ?_, ?_, ?_, ?_⟩
        · rw [upd_ne (ne_of_none hb no)]
          exact s2 _ _ (sT _ _ (sG _ _ hb))
        · rw [upd_same, List.map_append]
          rfl
        · rw [List.length_append, hf]
          rfl
        · rw [hg, goL_good he]
          rfl
      have bad : entL m (i : Nat) wd = none → goL m 0 ws = none := fun e => by
        rw [hg]
        exact goL_bad e
      have hlt : (fs.map oV).length < sizeLine := by
        rw [List.length_map, hf, sizeLine_eq]
        rw [List.length_map] at hi
        omega
      refine ⟨.str wd, rfl, rfl, _, rfl, ?_⟩
      by_cases c0 : wd = "-"
      · rw [decide_eq_true (show V.str wd = V.str "-" from congrArg V.str c0)]
        refine iteT ?_
        refine ⟨.str wd, rfl, rfl, _, rfl, ?_⟩
        rw [decide_eq_true (show V.str wd = V.str "-" from congrArg V.str c0)]
        refine iteF (iteF ?_)
        have he : entL m (i : Nat) wd = some none := by
          unfold entL
          rw [if_pos c0]
        exact ⟨.ref o, rfl, .inl ⟨rfl, _, .inl (.inl eoT)⟩, .non, rfl, o, _, .non, rfl, rfl, eoT, hlt, good none _ he (Same.refl _)⟩
      · rw [decide_eq_false (show ¬ V.str wd = V.str "-" from fun y => c0 (V.str.inj y))]
        refine iteF ⟨.str wd, rfl, wd, rfl, hz, fun G2 s2 => ?_⟩
        refine ⟨.str wd, rfl, rfl, _, rfl, ?_⟩
        rw [decide_eq_false (show ¬ V.str wd = V.str "-" from fun y => c0 (V.str.inj y))]
        have he0 : entM m (i : Nat) wd = match numTold wd with
            | none => none
            | some e => if e ≥ m ∨ e = (i : Nat) then none else some (some e) := by
          unfold entM
          refine (if_neg c0).trans ?_
          cases numTold wd <;> rfl
        rw [ent_eq wd hm] at he0
        have eo2 := s2 _ _ eoT
        have sG2 : Same H G2 := fun b z hb => s2 _ _ (sT _ _ (sG _ _ hb))
        refine iteT ⟨oV (numTold wd), rfl, rfl, _, rfl, ?_⟩
        cases e3 : numTold wd with
        | none =>
          rw [e3] at he0
          exact iteT (iteT (qn (noneOf (bad he0)) _ sG2))
        | some k =>
          rw [e3] at he0
          refine iteF ⟨.int k, rfl, .int m, rfl, k, m, rfl, rfl, _, rfl, ?_⟩
          show if decide (m ≤ k) = true then _ else _
          by_cases c1 : m ≤ k
          · rw [decide_eq_true c1]
            have he1 : entL m (i : Nat) wd = none := he0.trans (if_pos (.inl c1))
            exact iteT (iteT (qn (noneOf (bad he1)) _ sG2))
          · rw [decide_eq_false c1]
            refine iteF ⟨.int k, rfl, .int (i : Nat), rfl, rfl, _, rfl, ?_⟩
            by_cases c2 : k = ((i : Nat) : Int)
            · rw [decide_eq_true (show V.int k = V.int (i : Nat) from congrArg V.int c2)]
              have he1 : entL m (i : Nat) wd = none := he0.trans (if_pos (.inr c2))
              exact iteT (qn (noneOf (bad he1)) _ sG2)
            · rw [decide_eq_false (show ¬ V.int k = V.int (i : Nat) from fun y => c2 (V.int.inj y))]
              have he1 : entL m (i : Nat) wd = some (some k) := he0.trans (if_neg (by omega))
              refine iteF ?_
              exact ⟨.ref o, rfl, .inl ⟨rfl, _, .inl (.inl eo2)⟩, .int k, rfl, o, _, .int k, rfl, rfl, eo2, hlt, good (some k) _ he1 s2⟩
    · -- the end
      rintro σ G ⟨fs, y3, y4, y5, rfl, sG, eo, hf, hg⟩
      rw [List.length_map] at hf hg
      rw [List.drop_length, goL_end] at hg
      refine ⟨.ref o, rfl, o, fs.map oV, rfl, .inl (.inl (.inl eo)), .int m, rfl, rfl, _, rfl, ?_⟩
      rw [List.length_map, hf]
      by_cases c : (ws.length : Int) = m
      · rw [decide_eq_true (show V.int (ws.length : Nat) = V.int m from congrArg V.int c)]
        have er : rowL m ws = some fs := by
          unfold rowL
          rw [if_pos c]
          exact hg
        refine iteT ⟨.ref o, rfl, o, fs.map oV, rfl, .inl ⟨.inl (.inl eo), fun t ht => ?_⟩⟩
        exact qs fs er _ t (same_at sG (sG.free ht)) upd_same
      · rw [decide_eq_false (show ¬ V.int (ws.length : Nat) = V.int m from fun y => c (V.int.inj y))]
        have er : rowL m ws = none := by
          unfold rowL
          rw [if_neg c]
        exact iteF (qn er _ sG)
end
end E85

/-! read_pattern -/
namespace E85
open PySem PySem.Spec PyProof.Rows L2 TL
section
variable {X : Cx} {x : Str} {ps : List Str} {sp : Sp} {k : Nat} {p pos : Pos} {e : Expr} {es : List Expr} {t : TA} {W : WX} {E : XK}
/-- a call of a def that may raise, in a def that lets it out -/
theorem pe_calX (C : Cal X.prog X.w X.K X.mg X.base (L2.CX X.prog X.w) k x ps sp) (hr : Room k X.A) (hg : Gl X x) (tk : Takes X W) (hW : ∀ cls d σ H, E cls d H → W cls d σ H) (ha : PA X (e :: es) t) (hdb : (x == ("__debug__" : Str)) = false := by decide)
    (he : starEach (e :: es) X.env = (false, eval e X.env) :: starEach es X.env := by rfl) (hpl : (backTo pos (starEach es X.env)).any (·.1) = false := by rfl) : PE X (.Call (.Name x p) (e :: es) [] pos) (tCall sp [] E t) := by
  obtain ⟨f, fd, h1, h2, h3, h4⟩ := C.ex
  exact pe_call h4 hr hg h1 h2 h3 .nil (passes_call tk hW) ha hdb he hpl
end
/-- references to tuples of such rows -/
inductive RowsAt (H : Hp) : List V → List Row → Prop where
  | nil : RowsAt H [] []
  | cons {a : Addr} {r : Row} {xs : List V} {rs : List Row} (h : H a = some (.tup (r.map oV))) (t : RowsAt H xs rs) : RowsAt H (.ref a :: xs) (r :: rs)
theorem RowsAt.imp {H H' : Hp} {xs : List V} {rs : List Row} (h : RowsAt H xs rs) (k : ∀ a ys, H a = some (.tup ys) → H' a = some (.tup ys)) : RowsAt H' xs rs := by
  induction h with
  | nil => exact .nil
  | cons h t ih => exact .cons (k _ _ h) ih
theorem RowsAt.same {H H' : Hp} {xs : List V} {rs : List Row} (h : RowsAt H xs rs) (s : Same H H') : RowsAt H' xs rs := h.imp fun _ _ e => s _ _ e
theorem RowsAt.upd {H : Hp} {o : Addr} {ys : List V} {u : HO} {xs : List V} {rs : List Row} (h : RowsAt H xs rs) (ho : H o = some (.lst ys)) : RowsAt (upd H o u) xs rs := h.imp fun a zs e => by
  rw [upd_ne (ne_of e ho (by intro z; cases z))]
  exact e
theorem RowsAt.snoc {H : Hp} {xs : List V} {rs : List Row} {a : Addr} {r : Row} (h : RowsAt H xs rs) (e : H a = some (.tup (r.map oV))) : RowsAt H (xs ++ [.ref a]) (rs ++ [r]) := by
  induction h with
  | nil => exact .cons e .nil
  | cons h t ih => exact .cons h ih
theorem RowsAt.len {H : Hp} {xs : List V} {rs : List Row} (h : RowsAt H xs rs) : xs.length = rs.length := by
  induction h with
  | nil => rfl
  | cons h t ih => rw [List.length_cons, List.length_cons, ih]
/-- a pattern at p -/
def PatAt (H : Hp) (p : Addr) (rs : List Row) : Prop := ∃ xs, H p = some (.tup xs) ∧ RowsAt H xs rs
theorem PatAt.same {H H' : Hp} {p : Addr} {rs : List Row} (h : PatAt H p rs) (s : Same H H') : PatAt H' p rs := by
  obtain ⟨xs, e, r⟩ := h
  exact ⟨xs, s _ _ e, r.same s⟩
theorem tot_items {ls : List Str} {n : Nat} (h : tot ls = n + 1) : ls.length ≤ n + 1 ∧ ∀ l ∈ ls, l.length ≤ n := by
  refine ⟨by rw [← h]; exact tot_len ls, fun l hl => ?_⟩
  have := tot_mem hl
  omega
def isInt3 (m : Int) : Prop := 3 ≤ m ∧ m ≤ 5
theorem many_int {m : Int} : isMany (.int m) = true ↔ isInt3 m := by
  show (decide ((3 : Int) ≤ m) && decide (m ≤ 5)) = true ↔ _
  rw [Bool.and_eq_true, decide_eq_true_eq, decide_eq_true_eq]
  rfl
theorem many_only {x : V} (h : isMany x = true) : ∃ m, x = .int m ∧ isInt3 m := by
  cases x with
  | int m => exact ⟨m, rfl, many_int.mp h⟩
  | _ => exact absurd h (by intro z; cases z)
theorem str_only {x : V} (h : isStrV x = true) : ∃ z, x = .str z := by
  cases x with
  | str z => exact ⟨z, rfl⟩
  | _ => exact absurd h (by intro z; cases z)
section
variable {P : Program} {w : World} {K : PySem.W.Frag} {mg : Str → Option Value} {base : Heap} {CN CB : Addr}
/-- read_pattern(many, text) -/
def spRead (CN CB : Addr) : Sp := fun vs H Q E => ∃ x y n n', vs = [x, y] ∧ Fit H x n ∧ Fit H y n' ∧ (isMany x = false → E (.ref CN) none H) ∧
  (isMany x = true → isStrV y = false → ∀ d, H d = none → E (.ref CB) (some d) (upd H d (.xd [(("line" : Str), .int 0)]))) ∧
  ∀ m z, x = .int m → y = .str z → isInt3 m → z.length ≤ 1000000 ∧ (∀ k, readL m z = .bad k → ∀ H' d, Same H H' → H' d = some (.xd [(("line" : Str), .int k)]) → E (.ref CB) (some d) H') ∧
    ∀ rs, readL m z = .told rs → ∀ H' p, Same H H' → PatAt H' p rs → Q (.ref p) H'
theorem ok_read_pattern {f : Addr} {fd : FuncData} (F : Fun K "read_pattern" "read_pattern" sReadPattern f fd) (B : Blt mg) (N : Kon mg) (T : ExcT P K mg CN CB) (CM : Cal P w K mg base CX0 3 "is_many" ["thing"] spIsMany)
    (CL : Cal P w K mg base (L2.CX P w) 3 "lines_told" ["text"] (spLines CB)) (CE : Cal P w K mg base CX0 3 "entries_told" ["words", "many"] (spEnt K)) : FnOk P w K mg base (L2.CX P w) 4 f fd ["many", "text"] (spRead CN CB) := by
  obtain ⟨t1, e1⟩ := N.mrnd
  refine F.okX scReadPattern (fun vs H Q E h => ?_) (fun cdv A outer s H vs Q E hr h => ?_)
  · obtain ⟨x, y, n, n', rfl, _⟩ := h
    rfl
  · obtain ⟨x, y, n, n', rfl, fx, fy, qn, q0, qs⟩ := h
    refine ⟨_, pss_cons (ps_if (pt_not (pt_val (pe_cal CM hr (by rfl) (pa_cons (pv 0) pa_nil)))) (pss_one (ps_raiseNo rfl T hr (takes_of rfl rfl rfl rfl))) pss_nil)
      (pss_cons (ps_asg (pe_calX (E := E) CL hr (by rfl) (takes_of rfl rfl rfl rfl) (fun _ _ _ _ h => h) (pa_cons (pv 1) pa_nil))
          (pg_tup rfl (pgs_cons (pg_name (i := 2) scReadPattern.nd rfl (.inl rfl)) (pgs_cons (pg_name (i := 3) scReadPattern.nd rfl (.inl rfl)) pgs_nil))))
      (pss_cons (ps_set (i := 4) scReadPattern.nd rfl (.inl rfl) (pe_lst pa_nil))
      (pss_cons (ps_for (passes_of rfl) rfl (pi_enum (by rfl) B.enum (pa_cons (pv 2) pa_nil))
          (pg_tup rfl (pgs_cons (pg_name (i := 5) scReadPattern.nd rfl (.inl rfl)) (pgs_cons (pg_name (i := 6) scReadPattern.nd rfl (.inl rfl)) pgs_nil)))
          (pss_cons (ps_set (i := 7) scReadPattern.nd rfl (.inl rfl) (pe_cal CE hr (by rfl) (pa_cons (pe_split (pv 6) pe_str) (pa_cons (pv 0) pa_nil))))
          (pss_cons (ps_if (PW.pt (pw_or (pt_cmpR op_isN (pv 7) pe_non (nomark _)) (pw_or1 (pt_cmpR op_eq (pv 5) (pe_glob (v := .int 30) rfl e1 ⟨_, rfl⟩) (nomark _)))))
            (pss_one (ps_raiseBad rfl T hr (takes_of rfl rfl rfl rfl) (by exact (pa_cons (pe_op op_add (pv 5) pe_int) pa_nil)))) pss_nil)
          (pss_one (ps_expr (pe_bm PySem.F.plainAttrs_list PySem.F.slot_list_append PySem.F.type_list_append mt_append (pv 4) (pa_cons (pv 7) pa_nil)))))))
      (pss_cons (ps_if (pt_cmpR op_ne (pv 3) pe_str (nomark _))
        (pss_one (ps_raiseBad rfl T hr (takes_of rfl rfl rfl rfl) (by exact (pa_cons (pe_op op_add (pe_callB call_len_seq (by rfl) B.len PySem.boot_len (pa_cons (pv 2) pa_nil)) pe_int) pa_nil)))) pss_nil)
      (pss_one (ps_ret (pe_callTy call_tuple_of (by rfl) B.tuple (by decide +kernel) (pa_cons (pv 4) pa_nil)))))))), ?_⟩
    refine ⟨x, rfl, x, n, rfl, fx, _, rfl, ?_⟩
    cases hm : isMany x with
    | false => exact iteT (qn hm)
    | true =>
      refine iteF ⟨y, rfl, y, n', rfl, fy, fun hs d hd => q0 hm hs d hd, fun z hz => ?_⟩
      obtain ⟨m, rfl, h3⟩ := many_only hm
      subst hz
      obtain ⟨hl, qb, qt⟩ := qs m z rfl rfl h3
      refine ⟨by omega, fun H1 p t last s1 elast ep et => ?_⟩
      obtain ⟨ls, els⟩ : ∃ ls, ls = (Txt.split z nl1).dropLast := ⟨_, rfl⟩
      rw [← els] at ep
      have hti := tot_items (nl_tot z)
      have hlslen : ls.length + 1 = (Txt.split z nl1).length := by
        rw [els, List.length_dropLast]
        have : 0 < (Txt.split z nl1).length := List.length_pos_iff.mpr (ne_of_tot (nl_tot z))
        omega
      have hlen2 := hti.1
      have hitems : ∀ l ∈ ls, l.length ≤ 1000000 := fun l hl2 => by
        rw [els] at hl2
        have := hti.2 l (List.dropLast_subset _ hl2)
        omega
      refine ⟨t, [.ref p, .str last], rfl, .inl (.inl et), rfl, .ref p, [.str last], rfl, .str last, [], rfl, rfl, ?_⟩
      -- found = []
      refine ⟨Nat.zero_le _, fun o no => ?_⟩
      refine ⟨.ref p, rfl, p, ls.map V.str, rfl, .inl (.inl (same_new no _ _ ep)), for_it (walk_enum (xs := ls.map V.str)) (fun i σ G => ∃ xs fs y5 y6 y7, σ = [some (.int m), some (.str z), some (.ref p), some (.str last), some (.ref o), y5, y6, y7] ∧ Same H1 G ∧ G o = some (.lst xs) ∧ RowsAt G xs fs ∧ fs.length = i ∧ i ≤ 30 ∧ goR m 0 ls = andOut fs (goR m i (ls.drop i)))
        ⟨[], [], none, none, none, rfl, same_new no, upd_same, .nil, rfl, by omega, ?_⟩ (fun i σ G hi hP => ?_) ?_ ?_⟩
      · rw [List.drop_zero]
        cases goR m 0 ls <;> rfl
      · obtain ⟨xs, fs, y5, y6, y7, _, sG, _⟩ := hP
        exact .inl (.inl (sG _ _ ep))
      · -- a turn
        rintro i v σ G G' hi ⟨xs, fs, y5, y6, y7, rfl, sG, eo, hR, hf, h30, hg⟩ ⟨T', x', y', rfl, nT, rfl, ex, ey⟩
        obtain rfl : V.int (i : Nat) = x' := Option.some.inj ex
        obtain ⟨l, hl2, rfl⟩ : ∃ l, ls[i]? = some l ∧ y' = V.str l := by
          have ey : (ls.map V.str)[i]? = some y' := ey
          rw [List.getElem?_map] at ey
          cases e : ls[i]? with
          | none => rw [e] at ey; cases ey
          | some l => rw [e] at ey; exact ⟨l, rfl, (Option.some.inj ey).symm⟩
        have hll := hitems l (List.mem_of_getElem? hl2)
        have hd : ls.drop i = l :: ls.drop (i + 1) := by
          obtain ⟨h1, h2⟩ := List.getElem?_eq_some_iff.mp hl2
          rw [List.drop_eq_getElem_cons h1, h2]
        rw [hd] at hg
        have sT : Same G (upd G T' (.tup [.int (i : Nat), .str l])) := same_new nT
        refine ⟨T', [.int (i : Nat), .str l], rfl, .inl (.inl upd_same), rfl, .int (i : Nat), [.str l], rfl, .str l, [], rfl, rfl, ?_⟩
        refine ⟨.str l, rfl, ⟨l, rfl⟩, l, bl1, rfl, rfl, by decide +kernel, by rw [sizeLine_eq]; omega, fun c hc => ?_⟩
        have htw := tot_items (bl_tot l)
        have s2 : Same G (upd (upd G T' (.tup [.int (i : Nat), .str l])) c (.lst ((Txt.split l bl1).map V.str))) := sT.trans (same_new hc)
        have badly : goR m 0 ls = .bad ((i : Int) + 1) → ∀ G2 d, Same G G2 → G2 d = some (.xd [(("line" : Str), .int ((i : Int) + 1))]) → E (.ref CB) (some d) G2 := fun hb G2 d sg ed => by
          refine qb ((i : Int) + 1) ?_ G2 d (s1.trans (sG.trans sg)) ed
          unfold readL
          rw [← els, hb]
        refine ⟨.int m, rfl, c, m, Txt.split l bl1, rfl, .inl (.inl upd_same), by have := htw.1; omega, fun w hw => by have := htw.2 w hw; omega, h3.2, fun er G2 sg2 => ?_, fun row er G2 b sg2 eb => ?_⟩
        · have sg3 := s2.trans sg2
          refine ⟨.non, rfl, rfl, _, rfl, ?_⟩
          refine iteT ⟨.int (i : Nat), rfl, _, _, rfl, rfl, _, rfl, fun d hd2 => ?_⟩
          exact badly (by rw [hg]; exact goR_bad er) _ d (same_at sg3 (sg3.free hd2)) upd_same
        · have sg3 := s2.trans sg2
          refine ⟨.ref b, rfl, rfl, _, rfl, ?_⟩
          refine iteF ⟨.int (i : Nat), rfl, rfl, _, rfl, ?_⟩
          by_cases c30 : i = 30
          · rw [decide_eq_true (show V.int (i : Nat) = V.int 30 by rw [c30]; rfl)]
            refine iteT ⟨.int (i : Nat), rfl, _, _, rfl, rfl, _, rfl, fun d hd2 => ?_⟩
            exact badly (by rw [hg]; exact goR_late er (by omega)) _ d (same_at sg3 (sg3.free hd2)) upd_same
          · rw [decide_eq_false (show ¬ V.int (i : Nat) = V.int 30 from fun z => c30 (by have := V.int.inj z; omega))]
            refine iteF ?_
            have eo3 := sg3 _ _ eo
            have hxs := hR.len
            refine ⟨.ref o, rfl, .inl ⟨rfl, _, .inl (.inl eo3)⟩, .ref b, rfl, o, xs, .ref b, rfl, rfl, eo3, by rw [sizeLine_eq]; omega, ?_⟩
            refine ⟨xs ++ [.ref b], fs ++ [row], some (.int (i : Nat)), some (.str l), some (.ref b), rfl, same_at (sG.trans sg3) no, upd_same, ((hR.same sg3).snoc eb).upd eo3, ?_, by omega, ?_⟩
            · rw [List.length_append, hf]
              rfl
            · rw [hg]
              exact goR_good er (by omega)
      · -- behind the loop
        rintro σ G ⟨xs, fs, y5, y6, y7, rfl, sG, eo, hR, hf, h30, hg⟩
        rw [List.length_map, List.drop_length, goR_end] at hg
        refine ⟨.str last, rfl, rfl, _, rfl, ?_⟩
        by_cases c : last = ""
        · rw [decide_eq_true (show V.str last = V.str "" from congrArg V.str c)]
          refine iteF ⟨.ref o, rfl, o, xs, rfl, .inl ⟨.inl (.inl eo), fun t2 ht2 => ?_⟩⟩
          refine qt fs ?_ _ t2 (s1.trans (same_at sG (sG.free ht2))) ⟨xs, upd_same, hR.same (same_new ht2)⟩
          unfold readL
          rw [← els, hg]
          show (if (Txt.split z nl1).getLast? = some ("" : Str) then _ else _) = _
          rw [elast, c]
          exact if_pos rfl
        · rw [decide_eq_false (show ¬ V.str last = V.str "" from fun z => c (V.str.inj z))]
          refine iteT ⟨.ref p, rfl, p, ls.map V.str, rfl, .inl (.inl (.inl (sG _ _ ep))), _, _, rfl, rfl, _, rfl, fun d hd2 => ?_⟩
          refine qb ((Txt.split z nl1).length : Int) ?_ _ d (s1.trans (same_at sG (sG.free hd2))) ?_
          · unfold readL
            rw [← els, hg]
            show (if (Txt.split z nl1).getLast? = some ("" : Str) then _ else _) = _
            rw [elast]
            exact if_neg (fun z => c (Option.some.inj z))
          · rw [upd_same, List.length_map, ← hlslen]
            rfl
end
end E85

/-! _law_row, _law_read, _law_told -/
namespace E85
open PySem PySem.Spec PyProof.Rows L2 TL
theorem in_five (z : Str) : inV (.str z) [.str "0", .str "1", .str "2", .str "3", .str "4"] = decide (z ∈ five) := by
  show five.any (fun y => y == z) = decide (z ∈ five)
  by_cases h : z ∈ five
  · rw [decide_eq_true h]
    exact List.any_eq_true.mpr ⟨z, h, beq_self_eq_true z⟩
  · rw [decide_eq_false h]
    refine Bool.eq_false_iff.mpr fun e => ?_
    obtain ⟨y, hy, e2⟩ := List.any_eq_true.mp e
    rw [beq_iff_eq.mp e2] at hy
    exact h hy
/-- what a reader hands back, at t -/
def OutAt (H : Hp) (t : Addr) : Out → Prop
  | .bad k => H t = some (.tup [.str "text", .int k])
  | .told rs => ∃ p, H t = some (.tup [.str "told", .ref p]) ∧ PatAt H p rs
section
variable {P : Program} {w : World} {K : PySem.W.Frag} {mg : Str → Option Value} {base : Heap} {CN CB : Addr}
/-- _law_row(many, line) -/
def spRow : Sp := fun vs H Q _ => ∃ (m : Int) (z : Str), vs = [.int m, .str z] ∧ isInt3 m ∧ z.length ≤ 1000000 ∧
  (rowL m (Txt.split z bl1) = none → ∀ H', Same H H' → Q .non H') ∧ ∀ row, rowL m (Txt.split z bl1) = some row → ∀ H' p, Same H H' → H' p = some (.tup (row.map oV)) → Q (.ref p) H'
theorem ok_law_row {f : Addr} {fd : FuncData} (F : Fun K "_law_row" "_law_row" sLawRow f fd) (B : Blt mg) : FnOk P w K mg base CX0 1 f fd ["_law_many", "_law_line"] spRow := by
  refine F.ok scLawRow (fun vs H Q E h => ?_) (fun cdv A outer s H vs Q E hr h => ?_)
  · obtain ⟨m, z, rfl, _⟩ := h
    rfl
  · obtain ⟨m, z, rfl, h3, hz, qn, qs⟩ := h
    refine ⟨_, pss_cons (ps_set (i := 2) scLawRow.nd rfl (.inl rfl) (pe_split (pv 1) pe_str))
      (pss_cons (ps_if (pt_cmpR op_ne (pe_callB call_len_seq (by rfl) B.len PySem.boot_len (pa_cons (pv 2) pa_nil)) (pv 0) (nomark _)) (pss_one (ps_ret pe_non)) pss_nil)
      (pss_cons (ps_set (i := 3) scLawRow.nd rfl (.inl rfl) (pe_lst pa_nil))
      (pss_cons (ps_for PassesOwn.never rfl (pi_range1 rfl B.range (pa_cons (pv 0) pa_nil)) (pg_name (i := 4) scLawRow.nd rfl (.inl rfl))
        (pss_one (ps_if (pt_cmpR op_eq (pe_ix ix_list (pv 2) (pv 4) (fun _ _ => rfl)) pe_str (nomark _))
          (pss_one (ps_expr (pe_bm PySem.F.plainAttrs_list PySem.F.slot_list_append PySem.F.type_list_append mt_append (pv 3) (pa_cons pe_non pa_nil))))
          (pss_one (ps_if (PW.pt (pw_and (pt_cmpR op_in_seq (pe_ix ix_list (pv 2) (pv 4) (fun _ _ => rfl)) (pe_tup (pa_cons pe_str (pa_cons pe_str (pa_cons pe_str (pa_cons pe_str (pa_cons pe_str pa_nil)))))) rfl)
              (pw_and (pt_cmpR op_lt (pe_callTy call_int_str (by rfl) B.int (by decide +kernel) (pa_cons (pe_ix ix_list (pv 2) (pv 4) (fun _ _ => rfl)) pa_nil)) (pv 0) (nomark _))
                (pw_and1 (pt_cmpR op_ne (pe_callTy call_int_str (by rfl) B.int (by decide +kernel) (pa_cons (pe_ix ix_list (pv 2) (pv 4) (fun _ _ => rfl)) pa_nil)) (pv 4) (nomark _))))))
            (pss_one (ps_expr (pe_bm PySem.F.plainAttrs_list PySem.F.slot_list_append PySem.F.type_list_append mt_append (pv 3) (pa_cons (pe_callTy call_int_str (by rfl) B.int (by decide +kernel) (pa_cons (pe_ix ix_list (pv 2) (pv 4) (fun _ _ => rfl)) pa_nil)) pa_nil))))
            (pss_one (ps_ret pe_non)))))))
      (pss_one (ps_ret (pe_callTy call_tuple_of (by rfl) B.tuple (by decide +kernel) (pa_cons (pv 3) pa_nil))))))), ?_⟩
    obtain ⟨ws, ews⟩ : ∃ ws, ws = Txt.split z bl1 := ⟨_, rfl⟩
    have htw := tot_items (bl_tot z)
    rw [← ews] at qn qs htw
    refine ⟨.str z, rfl, ⟨z, rfl⟩, z, bl1, rfl, rfl, by decide +kernel, by rw [sizeLine_eq]; omega, fun p hp => ?_⟩
    rw [← ews]
    have s1 : Same H (upd H p (.lst (ws.map V.str))) := same_new hp
    refine ⟨.ref p, rfl, p, ws.map V.str, rfl, .inl (.inl (.inl upd_same)), .int m, rfl, rfl, _, rfl, ?_⟩
    rw [List.length_map]
    by_cases c : (ws.length : Int) = m
    · rw [decide_eq_true (show V.int (ws.length : Nat) = V.int m from congrArg V.int c)]
      refine iteF ⟨Nat.zero_le _, fun o no => ?_⟩
      have npo : p ≠ o := fun e => by
        rw [← e, upd_same] at no
        cases no
      have s2 := same_at (o := .lst []) s1 (s1.free no)
      have hrow : ∀ r, goL m 0 ws = r → rowL m ws = r := fun r e => by
        unfold rowL
        rw [if_pos c]
        exact e
      refine ⟨.int m, rfl, m, rfl, by have := h3.1; omega, by have := h3.2; omega, for_it (walk_range (lo := 0) (n := m.toNat)) (fun i σ G => ∃ fs y4, σ = [some (.int m), some (.str z), some (.ref p), some (.ref o), y4] ∧ Same H G ∧ G p = some (.lst (ws.map V.str)) ∧ G o = some (.lst (fs.map oV)) ∧ fs.length = i ∧ goL m 0 ws = andRow fs (goL m (i : Nat) (ws.drop i)))
        ⟨[], none, rfl, s2, by rw [upd_ne npo]; exact upd_same, upd_same, rfl, ?_⟩ (fun _ _ _ _ _ => trivial) ?_ ?_⟩
      · show goL m 0 ws = andRow [] (goL m 0 ws)
        cases goL m 0 ws <;> rfl
      · rintro i v σ G0 G hi ⟨fs, y4, rfl, sG, ep, eo, hf, hg⟩ ⟨rfl, rfl⟩
        have hil : i < ws.length := by omega
        obtain ⟨wd, hwd⟩ : ∃ wd, ws[i]? = some wd := ⟨_, List.getElem?_eq_getElem hil⟩
        have hwl := htw.2 wd (List.mem_of_getElem? hwd)
        have hd : ws.drop i = wd :: ws.drop (i + 1) := by
          obtain ⟨h1, h2⟩ := List.getElem?_eq_some_iff.mp hwd
          rw [List.drop_eq_getElem_cons h1, h2]
        rw [hd] at hg
        have ax : ∀ {G2 : Hp}, Same G G2 → SqL K G2 p (ws.map V.str) := fun sg => .inl (.inl (sg _ _ ep))
        have ai : atI (ws.map V.str) (0 + ((i : Nat) : Int)) = some (.str wd) := by rw [Int.zero_add]; exact atI_nat (by rw [List.getElem?_map, hwd]; rfl)
        have hlt : (fs.map oV).length < sizeLine := by
          rw [List.length_map, hf, sizeLine_eq]
          have := htw.1
          omega
        have good : ∀ (e : Option Int) (G2 : Hp), entL m (i : Nat) wd = some e → Same G G2 →
          ∃ fs' z4, [some (V.int m), some (.str z), some (.ref p), some (.ref o), some (.int (0 + (i : Nat)))] = [some (V.int m), some (.str z), some (.ref p), some (.ref o), z4] ∧ Same H (upd G2 o (.lst (fs.map oV ++ [oV e]))) ∧
            (upd G2 o (.lst (fs.map oV ++ [oV e]))) p = some (.lst (ws.map V.str)) ∧ (upd G2 o (.lst (fs.map oV ++ [oV e]))) o = some (.lst (fs'.map oV)) ∧ fs'.length = i + 1 ∧ goL m 0 ws = andRow fs' (goL m ((i + 1 : Nat) : Int) (ws.drop (i + 1))) := fun e G2 he sg => by
          refine ⟨fs ++ [e], _, rfl, same_at (sG.trans sg) (s1.free no), ?_, ?_, ?_, ?_⟩
          · rw [upd_ne npo]
            exact sg _ _ ep
          · rw [upd_same, List.map_append]
            rfl
          · rw [List.length_append, hf]
            rfl
          · rw [hg, goL_good he]
            rfl
        have bad : entL m (i : Nat) wd = none → rowL m ws = none := fun e => by
          refine hrow _ ?_
          rw [hg]
          exact goL_bad e
        refine ⟨.ref p, rfl, _, rfl, p, _, _, _, rfl, rfl, ax (Same.refl _), ai, rfl, _, rfl, ?_⟩
        by_cases c0 : wd = "-"
        · rw [decide_eq_true (show V.str wd = V.str "-" from congrArg V.str c0)]
          have he : entL m (i : Nat) wd = some none := by
            unfold entL
            rw [if_pos c0]
          exact iteT ⟨.ref o, rfl, .inl ⟨rfl, _, .inl (.inl eo)⟩, o, _, .non, rfl, rfl, eo, hlt, good none _ he (Same.refl _)⟩
        · rw [decide_eq_false (show ¬ V.str wd = V.str "-" from fun y => c0 (V.str.inj y))]
          refine iteF ⟨.ref p, rfl, _, rfl, p, _, _, _, rfl, rfl, ax (Same.refl _), ai, by show 5 ≤ sizeLine; decide, fun T nT => ?_⟩
          have sT : Same G (upd G T (.tup [.str "0", .str "1", .str "2", .str "3", .str "4"])) := same_new nT
          refine ⟨T, _, rfl, .inr (.inl (.inl upd_same)), rfl, rfl, _, rfl, ?_⟩
          show if inV (.str wd) [.str "0", .str "1", .str "2", .str "3", .str "4"] = true then _ else _
          rw [in_five]
          have he0 : entL m (i : Nat) wd = if wd ∈ five ∧ valS wd < m ∧ valS wd ≠ ((i : Nat) : Int) then some (some (valS wd)) else none := by
            unfold entL
            rw [if_neg c0]
          by_cases c1 : wd ∈ five
          · rw [decide_eq_true c1]
            obtain ⟨n1, n2⟩ := five_val wd c1
            have hint := int_of n1 n2
            refine iteT ⟨.ref p, rfl, _, rfl, p, _, _, _, rfl, rfl, ax sT, ai, wd, valS wd, rfl, hint, by omega, .int m, rfl, _, _, rfl, rfl, _, rfl, ?_⟩
            show if decide (valS wd < m) = true then _ else _
            by_cases c2 : valS wd < m
            · rw [decide_eq_true c2]
              refine iteT ⟨.ref p, rfl, _, rfl, p, _, _, _, rfl, rfl, ax sT, ai, wd, valS wd, rfl, hint, by omega, _, rfl, rfl, _, rfl, ?_⟩
              by_cases c3 : valS wd = ((i : Nat) : Int)
              · rw [decide_eq_true (show V.int (valS wd) = V.int (0 + ((i : Nat) : Int)) by rw [c3, Int.zero_add])]
                rw [if_neg (fun y => y.2.2 c3)] at he0
                exact iteF (qn (bad he0) _ (sG.trans sT))
              · rw [decide_eq_false (show ¬ V.int (valS wd) = V.int (0 + ((i : Nat) : Int)) from fun y => c3 (by have := V.int.inj y; omega))]
                rw [if_pos ⟨c1, c2, c3⟩] at he0
                have eo2 := sT _ _ eo
                exact iteT ⟨.ref o, rfl, .inl ⟨rfl, _, .inl (.inl eo2)⟩, .ref p, rfl, _, rfl, p, _, _, _, rfl, rfl, ax sT, ai, wd, valS wd, rfl, hint, by omega, o, _, .int (valS wd), rfl, rfl, eo2, hlt, good (some (valS wd)) _ he0 sT⟩
            · rw [decide_eq_false c2]
              rw [if_neg (fun y => c2 y.2.1)] at he0
              exact iteF (iteF (qn (bad he0) _ (sG.trans sT)))
          · rw [decide_eq_false c1]
            rw [if_neg (fun y => c1 y.1)] at he0
            exact iteF (iteF (qn (bad he0) _ (sG.trans sT)))
      · rintro σ G ⟨fs, y4, rfl, sG, ep, eo, hf, hg⟩
        have hml : m.toNat = ws.length := by omega
        rw [hml, List.drop_length, goL_end] at hg
        refine ⟨.ref o, rfl, o, fs.map oV, rfl, .inl ⟨.inl (.inl eo), fun t ht => ?_⟩⟩
        exact qs fs (hrow _ hg) _ t (same_at sG (sG.free ht)) upd_same
    · rw [decide_eq_false (show ¬ V.int (ws.length : Nat) = V.int m from fun y => c (V.int.inj y))]
      refine iteT (qn ?_ _ s1)
      unfold rowL
      rw [if_neg c]
/-- _law_read(many, text) -/
def spLRead : Sp := fun vs H Q _ => ∃ (m : Int) (z : Str), vs = [.int m, .str z] ∧ isInt3 m ∧ z.length ≤ 1000000 ∧ ∀ H' t, Same H H' → OutAt H' t (readL m z) → Q (.ref t) H'
theorem ok_law_read {f : Addr} {fd : FuncData} (F : Fun K "_law_read" "_law_read" sLawRead f fd) (B : Blt mg) (C : Cal P w K mg base CX0 1 "_law_row" ["_law_many", "_law_line"] spRow) : FnOk P w K mg base CX0 2 f fd ["_law_many", "_law_text"] spLRead := by
  refine F.ok scLawRead (fun vs H Q E h => ?_) (fun cdv A outer s H vs Q E hr h => ?_)
  · obtain ⟨m, z, rfl, _⟩ := h
    rfl
  · obtain ⟨m, z, rfl, h3, hz, q⟩ := h
    refine ⟨_, pss_cons (ps_set (i := 2) scLawRead.nd rfl (.inl rfl) (pe_split (pv 1) pe_str))
      (pss_cons (ps_set (i := 3) scLawRead.nd rfl (.inl rfl) (pe_lst pa_nil))
      (pss_cons (ps_for PassesOwn.never rfl (pi_range1 rfl B.range (pa_cons (pe_op op_sub (pe_callB call_len_seq (by rfl) B.len PySem.boot_len (pa_cons (pv 2) pa_nil)) pe_int) pa_nil)) (pg_name (i := 4) scLawRead.nd rfl (.inl rfl))
        (pss_cons (ps_set (i := 5) scLawRead.nd rfl (.inl rfl) (pe_cal C hr (by rfl) (pa_cons (pv 0) (pa_cons (pe_ix ix_list (pv 2) (pv 4) (fun _ _ => rfl)) pa_nil))))
        (pss_cons (ps_if (PW.pt (pw_or (pt_cmpR op_isN (pv 5) pe_non (nomark _)) (pw_or1 (pt_cmpR op_ge (pv 4) pe_int (nomark _)))))
          (pss_one (ps_ret (pe_tup (pa_cons pe_str (pa_cons (pe_op op_add (pv 4) pe_int) pa_nil))))) pss_nil)
        (pss_one (ps_expr (pe_bm PySem.F.plainAttrs_list PySem.F.slot_list_append PySem.F.type_list_append mt_append (pv 3) (pa_cons (pv 5) pa_nil)))))))
      (pss_one (ps_ret (pe_ifExp (pt_cmpR op_ne (pe_ix ix_list (pv 2) (pe_un un_neg pe_int) (fun _ _ => rfl)) pe_str (nomark _))
        (pe_tup (pa_cons pe_str (pa_cons (pe_callB call_len_seq (by rfl) B.len PySem.boot_len (pa_cons (pv 2) pa_nil)) pa_nil)))
        (pe_tup (pa_cons pe_str (pa_cons (pe_callTy call_tuple_of (by rfl) B.tuple (by decide +kernel) (pa_cons (pv 3) pa_nil)) pa_nil)))))))), ?_⟩
    obtain ⟨pcs, epcs⟩ : ∃ pcs, pcs = Txt.split z nl1 := ⟨_, rfl⟩
    have hti := tot_items (nl_tot z)
    have hne : pcs ≠ [] := by rw [epcs]; exact ne_of_tot (nl_tot z)
    rw [← epcs] at hti
    obtain ⟨last, elast⟩ : ∃ last, pcs.getLast? = some last := ⟨_, List.getLast?_eq_some_getLast hne⟩
    have hpos : 0 < pcs.length := List.length_pos_iff.mpr hne
    have hlen2 := hti.1
    have eread : readL m z = match goR m 0 pcs.dropLast with
        | .bad k => .bad k
        | .told rs => if pcs.getLast? = some ("" : Str) then .told rs else .bad (pcs.length : Int) := by
      rw [epcs]
      rfl
    refine ⟨.str z, rfl, ⟨z, rfl⟩, z, nl1, rfl, rfl, by decide +kernel, by rw [sizeLine_eq]; omega, fun p hp => ?_⟩
    rw [← epcs]
    have s1 : Same H (upd H p (.lst (pcs.map V.str))) := same_new hp
    refine ⟨Nat.zero_le _, fun o no => ?_⟩
    have npo : p ≠ o := fun e => by
      rw [← e, upd_same] at no
      cases no
    have s2 := same_at (o := .lst []) s1 (s1.free no)
    have ep0 : (upd (upd H p (.lst (pcs.map V.str))) o (.lst [])) p = some (.lst (pcs.map V.str)) := by
      rw [upd_ne npo]
      exact upd_same
    refine ⟨.ref p, rfl, p, pcs.map V.str, rfl, .inl (.inl (.inl ep0)), _, _, rfl, rfl, _, rfl, by rw [List.length_map]; omega, by rw [List.length_map]; omega, for_it (walk_range (lo := 0) (n := ((((pcs.map V.str).length : Nat) : Int) - 1).toNat)) (fun i σ G => ∃ xs fs y4 y5, σ = [some (.int m), some (.str z), some (.ref p), some (.ref o), y4, y5] ∧ Same H G ∧ G p = some (.lst (pcs.map V.str)) ∧ G o = some (.lst xs) ∧ RowsAt G xs fs ∧ fs.length = i ∧ goR m 0 pcs.dropLast = andOut fs (goR m i (pcs.dropLast.drop i)))
      ⟨[], [], none, none, rfl, s2, ep0, upd_same, .nil, rfl, ?_⟩ (fun _ _ _ _ _ => trivial) ?_ ?_⟩
    · rw [List.drop_zero]
      cases goR m 0 pcs.dropLast <;> rfl
    · rintro i v σ G0 G hi ⟨xs, fs, y4, y5, rfl, sG, ep, eo, hR, hf, hg⟩ ⟨rfl, rfl⟩
      rw [List.length_map] at hi
      have hil : i < pcs.dropLast.length := by
        rw [List.length_dropLast]
        omega
      obtain ⟨l, hl2⟩ : ∃ l, pcs.dropLast[i]? = some l := ⟨_, List.getElem?_eq_getElem hil⟩
      have hl3 : pcs[i]? = some l := by
        rw [List.dropLast_eq_take, List.getElem?_take] at hl2
        split at hl2
        · exact hl2
        · cases hl2
      have hll := hti.2 l (List.mem_of_getElem? hl3)
      have hd : pcs.dropLast.drop i = l :: pcs.dropLast.drop (i + 1) := by
        obtain ⟨h1, h2⟩ := List.getElem?_eq_some_iff.mp hl2
        rw [List.drop_eq_getElem_cons h1, h2]
      rw [hd] at hg
      have ai : atI (pcs.map V.str) (0 + ((i : Nat) : Int)) = some (.str l) := by rw [Int.zero_add]; exact atI_nat (by rw [List.getElem?_map, hl3]; rfl)
      have badly : goR m 0 pcs.dropLast = .bad ((i : Int) + 1) → ∀ G2 t, Same G G2 → G2 t = some (.tup [.str "text", .int (0 + (i : Nat) + 1)]) → Q (.ref t) G2 := fun hb G2 t sg et => by
        refine q G2 t (sG.trans sg) ?_
        rw [eread, hb]
        show G2 t = some (.tup [.str "text", .int ((i : Int) + 1)])
        rw [et, Int.zero_add]
      refine ⟨.int m, rfl, .ref p, rfl, _, rfl, p, _, _, _, rfl, rfl, .inl (.inl ep), ai, m, l, rfl, h3, by omega, fun er G2 sg2 => ?_, fun row er G2 b sg2 eb => ?_⟩
      · refine ⟨.non, rfl, rfl, _, rfl, ?_⟩
        refine iteT (iteT ⟨_, rfl, _, _, rfl, rfl, by show 2 ≤ sizeLine; decide, fun t ht => ?_⟩)
        exact badly (by rw [hg]; exact goR_bad er) _ t (same_at sg2 (sg2.free ht)) upd_same
      · refine ⟨.ref b, rfl, rfl, _, rfl, ?_⟩
        refine iteF ⟨_, rfl, _, _, rfl, rfl, _, rfl, ?_⟩
        show if decide ((30 : Int) ≤ 0 + ((i : Nat) : Int)) = true then _ else _
        by_cases c30 : 30 ≤ i
        · rw [decide_eq_true (show (30 : Int) ≤ 0 + ((i : Nat) : Int) by omega)]
          refine iteT ⟨_, rfl, _, _, rfl, rfl, by show 2 ≤ sizeLine; decide, fun t ht => ?_⟩
          exact badly (by rw [hg]; exact goR_late er c30) _ t (same_at sg2 (sg2.free ht)) upd_same
        · rw [decide_eq_false (show ¬ (30 : Int) ≤ 0 + ((i : Nat) : Int) by omega)]
          have eo3 := sg2 _ _ eo
          have hxs := hR.len
          refine iteF ⟨.ref o, rfl, .inl ⟨rfl, _, .inl (.inl eo3)⟩, .ref b, rfl, o, xs, .ref b, rfl, rfl, eo3, by rw [sizeLine_eq]; omega, ?_⟩
          refine ⟨xs ++ [.ref b], fs ++ [row], _, _, rfl, same_at (sG.trans sg2) (s1.free no), by rw [upd_ne npo]; exact sg2 _ _ ep, upd_same, ((hR.same sg2).snoc eb).upd eo3, ?_, ?_⟩
          · rw [List.length_append, hf]
            rfl
          · rw [hg]
            exact goR_good er c30
    · rintro σ G ⟨xs, fs, y4, y5, rfl, sG, ep, eo, hR, hf, hg⟩
      have hn : ((((pcs.map V.str).length : Nat) : Int) - 1).toNat = pcs.dropLast.length := by
        rw [List.length_map, List.length_dropLast]
        omega
      rw [hn, List.drop_length, goR_end] at hg
      refine ⟨.ref p, rfl, 1, rfl, p, _, -1, .str last, rfl, rfl, .inl (.inl ep), at_last (map_last elast), rfl, _, rfl, ?_⟩
      by_cases c : last = ""
      · rw [decide_eq_true (show V.str last = V.str "" from congrArg V.str c)]
        refine iteF ⟨.ref o, rfl, o, xs, rfl, .inl ⟨.inl (.inl eo), fun t1 ht1 => ⟨by show 2 ≤ sizeLine; decide, fun t2 ht2 => ?_⟩⟩⟩
        have n12 : t1 ≠ t2 := fun e => by
          rw [← e, upd_same] at ht2
          cases ht2
        have sg1 := same_at (o := .tup xs) sG (sG.free ht1)
        refine q _ t2 (same_at sg1 (sg1.free ht2)) ?_
        rw [eread, hg]
        show OutAt _ t2 (if pcs.getLast? = some ("" : Str) then Out.told fs else _)
        rw [elast, c, if_pos rfl]
        exact ⟨t1, upd_same, xs, by rw [upd_ne n12]; exact upd_same, (hR.same (same_new ht1)).same (same_new ht2)⟩
      · rw [decide_eq_false (show ¬ V.str last = V.str "" from fun y => c (V.str.inj y))]
        refine iteT ⟨.ref p, rfl, p, pcs.map V.str, rfl, .inl (.inl (.inl ep)), by show 2 ≤ sizeLine; decide, fun t2 ht2 => ?_⟩
        refine q _ t2 (same_at sG (sG.free ht2)) ?_
        rw [eread, hg]
        show OutAt _ t2 (if pcs.getLast? = some ("" : Str) then Out.told fs else _)
        rw [elast, if_neg (fun y => c (Option.some.inj y))]
        show upd G t2 _ t2 = _
        rw [upd_same, List.length_map]
end
end E85

/-! _law_told, _law_same -/
namespace E85
open PySem PySem.Spec PyProof.Rows L2 TL
section
variable {P : Program} {w : World} {K : PySem.W.Frag} {mg : Str → Option Value} {base : Heap} {CN CB : Addr}
/-- _law_told(many, text) -/
def spTold : Sp := fun vs H Q _ => ∃ x y n n', vs = [x, y] ∧ Fit H x n ∧ Fit H y n' ∧ (isMany x = false → ∀ H' t, Same H H' → H' t = some (.tup [.str "number"]) → Q (.ref t) H') ∧
  (isMany x = true → isStrV y = false → ∀ H' t, Same H H' → H' t = some (.tup [.str "text", .int 0]) → Q (.ref t) H') ∧
  ∀ m z, x = .int m → y = .str z → isInt3 m → z.length ≤ 1000000 ∧ ∀ H' t, Same H H' → OutAt H' t (readL m z) → Q (.ref t) H'
/-- the suites -/
def tSuB (CB : Addr) : Suite := fun a cls d => tRet (tTup (tCons (tC (.str "text")) (tCons (tLine CB a cls d (tVar 3)) tNil)))
def tSuN : Suite := fun _ _ _ => tRet (tTup (tCons (tC (.str "number")) tNil))
theorem ok_law_told {f : Addr} {fd : FuncData} (F : Fun K "_law_told" "_law_told" sLawTold f fd) (T : ExcT P K mg CN CB) (C : Cal P w K mg base (L2.CX P w) 4 "read_pattern" ["many", "text"] (spRead CN CB)) : FnOk P w K mg base CX0 5 f fd ["_law_many", "_law_text"] spTold := by
  obtain ⟨fr, fdr, gR, kR, bR, GR⟩ := C.ex
  obtain ⟨_, _, _, _, T1⟩ := T.one
  obtain ⟨_, _, _, _, _, T2⟩ := T.two
  refine F.ok scLawTold (fun vs H Q E h => ?_) (fun cdv A outer s H vs Q E hr h => ?_)
  · obtain ⟨x, y, n, n', rfl, _⟩ := h
    rfl
  · obtain ⟨x, y, n, n', rfl, fx, fy, qn, q0, qs⟩ := h
    refine ⟨_, pss_cons (ps_try_two (i := 3) (tb := fun W => tAsg (tCallS (spRead CN CB) (WE W) (tCons (tVar 0) (tCons (tVar 1) tNil))) (gName 2)) (t1 := tSuB CB) (t2 := tSuN) (Wout := fun _ _ _ _ => False)
        rfl rfl scLawTold.nd rfl rfl ⟨rfl, by decide, Or.inl T.gB⟩ ⟨rfl, by decide, Or.inl T.gN⟩ takes0
        (fun W pn xe tk _ => pss_one (ps_set (i := 2) scLawTold.nd rfl (Or.inl rfl) (by exact (pe_callS GR hr rfl gR kR bR (fun σ => passAt tk σ) (by exact (pa_cons (pv 0) (pa_cons (pv 1) pa_nil)))))))
        (fun a oe cls d pn hz hf => pss_one (ps_ret (by exact (pe_tup (pa_cons pe_str (pa_cons (pe_line T hz hf (pv 3)) pa_nil))))))
        (fun a oe cls d pn hz hf => pss_one (ps_ret (by exact (pe_tup (pa_cons pe_str pa_nil))))))
      (pss_one (ps_ret (pe_tup (pa_cons pe_str (pa_cons (pv 2) pa_nil))))), ?_⟩
    -- what the first clause does with a BadText
    have bad : ∀ (k : Int) (H' : Hp) (d : Addr) (σ : L2.St), H' d = some (.xd [(("line" : Str), .int k)]) → Same H H' → (∀ H2 t, Same H H2 → H2 t = some (.tup [.str "text", .int k]) → Q (.ref t) H2) → σ.length = 4 →
        ∀ D : Ends, D.rt = Q → WE (wTwo K (.ref CB) 3 (tSuB CB) (.ref CN) tSuN (fun _ _ _ _ => False) D) σ (.ref CB) (some d) H' := fun k H' d σ ed sd qq hl D hD => by
      refine ⟨true, T2.te, fun _ a na => ?_, fun z => Bool.noConfusion z⟩
      have hσ : (σ.set 3 (some (.ref a)))[3]? = some (some (.ref a)) := List.getElem?_set_self (by omega)
      refine ⟨.ref a, hσ, rfl, rfl, d, .int k, rfl, ed, by show 2 ≤ sizeLine; decide, fun t ht => ?_⟩
      show D.rt (.ref t) _
      rw [hD]
      exact qq _ t (same_at sd (sd.free ht)) upd_same
    refine ⟨x, rfl, y, rfl, x, y, n, n', rfl, fx, fy, fun hm => ?_, fun hm hs d hd => ?_, fun m z ex ey h3 => ?_⟩
    · refine ⟨false, T.ne, fun z => Bool.noConfusion z, fun _ => ⟨true, T1.te, fun _ a na => ?_, fun z => Bool.noConfusion z⟩⟩
      refine ⟨by show 1 ≤ sizeLine; decide, fun t ht => ?_⟩
      exact qn hm _ t (same_new ht) upd_same
    · exact bad 0 _ d _ upd_same (same_new hd) (q0 hm hs) rfl _ rfl
    · obtain ⟨hl, q⟩ := qs m z ex ey h3
      refine ⟨hl, fun k hk H' d sd ed => ?_, fun rs hk H' p sp hp => ?_⟩
      · refine bad k H' d _ ed sd (fun H2 t s2 e2 => q H2 t s2 ?_) rfl _ rfl
        rw [hk]
        exact e2
      · refine ⟨.ref p, rfl, by show 2 ≤ sizeLine; decide, fun t ht => ?_⟩
        refine q _ t (same_at sp (sp.free ht)) ?_
        rw [hk]
        exact ⟨p, upd_same, hp.same (same_new ht)⟩
end
end E85

/-! _law_same -/
namespace E85
open PySem PySem.Spec PyProof.Rows L2 TL
def Flat (x y : V) : Prop := x = y ∧ (x = .non ∨ (∃ i, x = .int i) ∨ ∃ z, x = .str z)
/-- tuples of like things, at most so deep -/
def Deep : Nat → Hp → V → V → Prop
  | 0, _, _, _ => False
  | n + 1, H, x, y => ∃ (a b : Addr) (xs ys : List V), x = .ref a ∧ y = .ref b ∧ H a = some (.tup xs) ∧ H b = some (.tup ys) ∧ xs.length = ys.length ∧ xs.length ≤ 2000000 ∧ ∀ (i : Nat) (u v : V), xs[i]? = some u → ys[i]? = some v → Flat u v ∨ Deep n H u v
def Alike (n : Nat) (H : Hp) (x y : V) : Prop := Flat x y ∨ Deep n H x y
theorem Deep.same {H H' : Hp} (s : Same H H') : ∀ {n : Nat} {x y : V}, Deep n H x y → Deep n H' x y
  | 0, _, _, h => h.elim
  | n + 1, x, y, h => by
    obtain ⟨a, b, xs, ys, ex, ey, ha, hb, hl, hz, h⟩ := h
    exact ⟨a, b, xs, ys, ex, ey, s _ _ ha, s _ _ hb, hl, hz, fun i u v hu hv => (h i u v hu hv).imp id (Deep.same s)⟩
theorem Alike.same {n : Nat} {H H' : Hp} {x y : V} (s : Same H H') (h : Alike n H x y) : Alike n H' x y := h.imp id (Deep.same s)
def thenOf : List Stmt → List Stmt
  | .If _ b _ _ :: _ => b
  | _ => []
theorem kit_lt {K : PySem.W.Frag} {n : String} {b : Bool} (h1 : kitB n "list" = some false) (h2 : kitB n "tuple" = some b) : PySem.W.kitAny K (.type n) [.type "list", .type "tuple"] = some b :=
  kitAny_cons (kit_ty h1) (fun _ => kitAny_cons (kit_ty h2) (fun e => by rw [e]; exact kitAny_nil) (fun e => e)) (fun e => Bool.noConfusion e)
section
variable {P : Program} {w : World} {K : PySem.W.Frag} {mg : Str → Option Value} {base : Heap}
def spSame (n : Nat) : Sp := fun vs H Q _ => ∃ x y, vs = [x, y] ∧ Alike n H x y ∧ ∀ H', Same H H' → Q (.bl true) H'
theorem all_true (n : Nat) : (List.replicate n true).all id = true := by
  rw [List.all_eq_true]
  intro b hb
  exact (List.mem_replicate.mp hb).2
abbrev cxSame (P : Program) (w : World) (K : PySem.W.Frag) (mg : Str → Option Value) (base : Heap) (f : Addr) (cdv : Value) (A : Around) (outer : List Env) (s : Shared) (H : Hp) (E : XK) : Cx :=
  (cxOf CX0 P w K mg base nLawSame "_law_same" (defScope sLawSame) f cdv A outer s H E).nox
theorem same_of {f : Addr} {fd : FuncData} {n k : Nat} (F : Fun K "_law_same" "_law_same" sLawSame f fd) (B : Blt mg)
    (inner : ∀ (cdv : Value) (A : Around) (outer : List Env) (s : Shared) (H : Hp) (E : XK), Room k (A.deeper (envOfC "_law_same" (defScope sLawSame) s.heap.objs.size f cdv)) →
      ∃ tI, PSs (cxSame P w K mg base f cdv A outer s H E) (thenOf (defBody sLawSame)) tI ∧ ∀ (x y : V) (G : Hp) (D : Ends), Deep n G x y → (∀ H', Same G H' → D.rt (.bl true) H') → tI D (start nLawSame [x, y]) G) :
    FnOk P w K mg base CX0 (k + 1) f fd ["_law_one", "_law_other"] (spSame n) := by
  refine F.ok scLawSame (fun vs H Q E h => ?_) (fun cdv A outer s H vs Q E hr h => ?_)
  · obtain ⟨x, y, rfl, _⟩ := h
    rfl
  · obtain ⟨x, y, rfl, hal, q⟩ := h
    obtain ⟨tI, hI, rI⟩ := inner cdv A outer s H E hr
    refine ⟨_, pss_cons (ps_if (pt_val (pe_callB call_isiT (by rfl) B.isi (by decide +kernel) (pa_cons (pv 1) (pa_cons (pe_tup (pa_cons (pe_bltn (v := .ty "list") (by rfl) B.list (by decide +kernel) rfl) (pa_cons (pe_bltn (v := .ty "tuple") (by rfl) B.tuple (by decide +kernel) rfl) pa_nil))) pa_nil)))) hI pss_nil)
      (pss_cons (ps_if (PW.pt (pw_or (pt_cmpR op_isN (pv 1) pe_non (nomark _)) (pw_or1 (pt_cmpR op_ne
            (pe_callB call_isi (by rfl) B.isi (by decide +kernel) (pa_cons (pv 0) (pa_cons (pe_bltn (v := .ty "bool") (by rfl) B.bool (by decide +kernel) rfl) pa_nil)))
            (pe_callB call_isi (by rfl) B.isi (by decide +kernel) (pa_cons (pv 1) (pa_cons (pe_bltn (v := .ty "bool") (by rfl) B.bool (by decide +kernel) rfl) pa_nil))) (nomark _)))))
          (pss_one (ps_ret (pe_and (pe_cmpR op_isN (pv 0) pe_non (nomark _)) (pe_one (pe_cmpR op_isN (pv 1) pe_non (nomark _)))))) pss_nil)
      (pss_cons (ps_if (pt_val (pe_callB call_isi (by rfl) B.isi (by decide +kernel) (pa_cons (pv 1) (pa_cons (pe_bltn (v := .ty "int") (by rfl) B.int (by decide +kernel) rfl) pa_nil))))
          (pss_one (ps_ret (pe_and (pe_callB call_isi (by rfl) B.isi (by decide +kernel) (pa_cons (pv 0) (pa_cons (pe_bltn (v := .ty "int") (by rfl) B.int (by decide +kernel) rfl) pa_nil))) (pe_one (pe_cmpR op_eq (pv 0) (pv 1) (nomark _)))))) pss_nil)
      (pss_one (ps_ret (pe_and (pe_callB call_isi (by rfl) B.isi (by decide +kernel) (pa_cons (pv 0) (pa_cons (pe_bltn (v := .ty "str") (by rfl) B.str (by decide +kernel) rfl) pa_nil))) (pe_one (pe_cmpR op_eq (pv 0) (pv 1) (nomark _)))))))), ?_⟩
    rcases hal with ⟨rfl, hx⟩ | hd
    · rcases hx with rfl | ⟨i, rfl⟩ | ⟨z, rfl⟩
      · refine ⟨.non, rfl, by show 2 ≤ sizeLine; decide, fun T nT => ?_⟩
        have s1 : Same H (upd H T (.tup [.ty "list", .ty "tuple"])) := same_new nT
        refine ⟨.non, T, _, _, _, false, rfl, upd_same, .cons (.ty "list") (.cons (.ty "tuple") .nil), (Fit.non).ty (H := upd H T (.tup [.ty "list", .ty "tuple"])), kit_lt (by decide +kernel) (by decide +kernel), false, rfl, ?_⟩
        exact iteF ⟨.non, rfl, rfl, _, rfl, iteT (iteT ⟨.non, rfl, rfl, true, rfl, iteT ⟨.non, rfl, rfl, q _ s1⟩⟩)⟩
      · refine ⟨.int i, rfl, by show 2 ≤ sizeLine; decide, fun T nT => ?_⟩
        have s1 : Same H (upd H T (.tup [.ty "list", .ty "tuple"])) := same_new nT
        have ft := (Fit.int (H := upd H T (.tup [.ty "list", .ty "tuple"])) i).ty (K := K)
        refine ⟨.int i, T, _, _, _, false, rfl, upd_same, .cons (.ty "list") (.cons (.ty "tuple") .nil), ft, kit_lt (by decide +kernel) (by decide +kernel), false, rfl, ?_⟩
        refine iteF ⟨.int i, rfl, rfl, _, rfl, iteF ?_⟩
        refine ⟨.int i, rfl, _, _, _, _, false, rfl, .ty "bool", ft, kit_ty (by decide +kernel), .int i, rfl, _, _, _, _, false, rfl, .ty "bool", ft, kit_ty (by decide +kernel), rfl, _, rfl, iteF ?_⟩
        refine ⟨.int i, rfl, _, _, _, _, true, rfl, .ty "int", ft, kit_ty (by decide +kernel), true, rfl, iteT ?_⟩
        refine ⟨.int i, rfl, _, _, _, _, true, rfl, .ty "int", ft, kit_ty (by decide +kernel), true, rfl, iteT ?_⟩
        refine ⟨.int i, rfl, .int i, rfl, rfl, ?_⟩
        rw [decide_eq_true rfl]
        exact q _ s1
      · refine ⟨.str z, rfl, by show 2 ≤ sizeLine; decide, fun T nT => ?_⟩
        have s1 : Same H (upd H T (.tup [.ty "list", .ty "tuple"])) := same_new nT
        have ft := (Fit.str (H := upd H T (.tup [.ty "list", .ty "tuple"])) z).ty (K := K)
        refine ⟨.str z, T, _, _, _, false, rfl, upd_same, .cons (.ty "list") (.cons (.ty "tuple") .nil), ft, kit_lt (by decide +kernel) (by decide +kernel), false, rfl, ?_⟩
        refine iteF ⟨.str z, rfl, rfl, _, rfl, iteF ?_⟩
        refine ⟨.str z, rfl, _, _, _, _, false, rfl, .ty "bool", ft, kit_ty (by decide +kernel), .str z, rfl, _, _, _, _, false, rfl, .ty "bool", ft, kit_ty (by decide +kernel), rfl, _, rfl, iteF ?_⟩
        refine ⟨.str z, rfl, _, _, _, _, false, rfl, .ty "int", ft, kit_ty (by decide +kernel), false, rfl, iteF ?_⟩
        refine ⟨.str z, rfl, _, _, _, _, true, rfl, .ty "str", ft, kit_ty (by decide +kernel), true, rfl, iteT ?_⟩
        refine ⟨.str z, rfl, .str z, rfl, rfl, ?_⟩
        rw [decide_eq_true rfl]
        exact q _ s1
    · refine ⟨y, rfl, by show 2 ≤ sizeLine; decide, fun T nT => ?_⟩
      have s1 : Same H (upd H T (.tup [.ty "list", .ty "tuple"])) := same_new nT
      have hd1 := hd.same s1
      obtain ⟨b, ys, rfl, hb⟩ : ∃ b ys, y = .ref b ∧ (upd H T (.tup [.ty "list", .ty "tuple"])) b = some (.tup ys) := by
        cases n with
        | zero => exact hd1.elim
        | succ n =>
          obtain ⟨a, b, xs, ys, ex, ey, ha, hb, _⟩ := hd1
          exact ⟨b, ys, ey, hb⟩
      refine ⟨.ref b, T, _, _, _, true, rfl, upd_same, .cons (.ty "list") (.cons (.ty "tuple") .nil), (Fit.tup hb).ty, kit_lt (by decide +kernel) (by decide +kernel), true, rfl, ?_⟩
      exact iteT (rI _ _ _ _ hd1 fun H' sH => q H' (s1.trans sH))
theorem ok_law_same {f : Addr} {fd : FuncData} (F : Fun K "_law_same" "_law_same" sLawSame f fd) (B : Blt mg) (gS : mg "_law_same" = some (.ref f)) (bS : Binds K fd ["_law_one", "_law_other"] []) :
    ∀ n : Nat, FnOk P w K mg base CX0 (n + 1) f fd ["_law_one", "_law_other"] (spSame n)
  | 0 => same_of F B fun _ _ _ _ _ _ _ => ⟨tNever, pss_never, fun _ _ _ _ h => h.elim⟩
  | n + 1 => same_of F B fun cdv A outer s H E hr => by
    have C : Cal P w K mg base CX0 (n + 1) "_law_same" ["_law_one", "_law_other"] (spSame n) := ⟨f, fd, gS, F.kp, bS, ok_law_same F B gS bS n⟩
    refine ⟨_, pss_cons (ps_if (PW.pt (pw_or (pt_cmpR op_ne
            (pe_callB call_isi (by rfl) B.isi (by decide +kernel) (pa_cons (pv 0) (pa_cons (pe_bltn (v := .ty "list") (by rfl) B.list (by decide +kernel) rfl) pa_nil)))
            (pe_callB call_isi (by rfl) B.isi (by decide +kernel) (pa_cons (pv 1) (pa_cons (pe_bltn (v := .ty "list") (by rfl) B.list (by decide +kernel) rfl) pa_nil))) (nomark _)) (pw_or1 (pt_cmpR op_ne
            (pe_callB call_isi (by rfl) B.isi (by decide +kernel) (pa_cons (pv 0) (pa_cons (pe_bltn (v := .ty "tuple") (by rfl) B.tuple (by decide +kernel) rfl) pa_nil)))
            (pe_callB call_isi (by rfl) B.isi (by decide +kernel) (pa_cons (pv 1) (pa_cons (pe_bltn (v := .ty "tuple") (by rfl) B.tuple (by decide +kernel) rfl) pa_nil))) (nomark _)))))
          (pss_one (ps_ret pe_bl)) pss_nil)
      (pss_one (ps_ret (pe_and (pe_cmpR op_eq (pe_callB call_len_seq (by rfl) B.len PySem.boot_len (pa_cons (pv 0) pa_nil)) (pe_callB call_len_seq (by rfl) B.len PySem.boot_len (pa_cons (pv 1) pa_nil)) (nomark _))
        (pe_one (pe_callB (cr_all rfl) (by rfl) B.all (by decide +kernel) (pa_cons (pe_lc (own := [("_law_k", 2)]) (g := gName 2) (tt := tYes) rfl scLawSame.nd (pi_range1 rfl B.range (pa_cons (pe_callB call_len_seq (by rfl) B.len PySem.boot_len (pa_cons (pv 1) pa_nil)) pa_nil)) (blkOk_by (N := nLawSame) (sc := defScope sLawSame) (by decide +kernel))
          (fun _ _ _ _ _ => pg_name (i := 2) scLawSame.nd rfl (Or.inl rfl)) (fun _ _ _ _ _ => pts_nil)
          (fun _ _ _ _ _ => pe_cal C hr (by rfl) (pa_cons (pe_ix (r := rIxT K) ix_tup (pv 0) (pv 2) (fun _ _ => rfl)) (pa_cons (pe_ix (r := rIxT K) ix_tup (pv 1) (pv 2) (fun _ _ => rfl)) pa_nil)))) pa_nil)))))), ?_⟩
    rintro x y G D ⟨a, b, xs, ys, rfl, rfl, ha, hb, hl, hz, hk⟩ q
    have fa := (Fit.tup ha).ty (K := K)
    have fb := (Fit.tup hb).ty (K := K)
    refine ⟨.ref a, rfl, _, _, _, _, false, rfl, .ty "list", fa, kit_ty (by decide +kernel), .ref b, rfl, _, _, _, _, false, rfl, .ty "list", fb, kit_ty (by decide +kernel), rfl, _, rfl, iteF ?_⟩
    refine ⟨.ref a, rfl, _, _, _, _, true, rfl, .ty "tuple", fa, kit_ty (by decide +kernel), .ref b, rfl, _, _, _, _, true, rfl, .ty "tuple", fb, kit_ty (by decide +kernel), rfl, _, rfl, iteF ?_⟩
    refine ⟨.ref a, rfl, a, xs, rfl, .inr (.inl (.inl ha)), .ref b, rfl, b, ys, rfl, .inr (.inl (.inl hb)), rfl, _, rfl, ?_⟩
    rw [decide_eq_true (show V.int (xs.length : Nat) = V.int (ys.length : Nat) by rw [hl])]
    refine iteT ⟨.ref b, rfl, b, ys, rfl, .inr (.inl (.inl hb)), _, rfl, by omega, by omega, fun L nL => lc_it (walk_range (lo := 0) (n := ((ys.length : Nat) : Int).toNat)) (fun i G2 => Same G G2 ∧ G2 L = some (.lst ((List.replicate i true).map V.bl)))
      ⟨same_new nL, upd_same⟩ (fun _ _ _ _ => trivial) ?_ ?_⟩
    · rintro i v G0 G2 hi ⟨s2, e2⟩ ⟨rfl, rfl⟩
      have hiy : i < ys.length := by omega
      have hix : i < xs.length := by omega
      have ax : atI xs (0 + ((i : Nat) : Int)) = some xs[i] := by rw [Int.zero_add]; exact atI_nat (List.getElem?_eq_getElem hix)
      have ay : atI ys (0 + ((i : Nat) : Int)) = some ys[i] := by rw [Int.zero_add]; exact atI_nat (List.getElem?_eq_getElem hiy)
      have hki := hk i _ _ (List.getElem?_eq_getElem hix) (List.getElem?_eq_getElem hiy)
      refine ⟨rfl, .ref a, rfl, _, rfl, a, xs, _, _, rfl, rfl, .inl (.inl (s2 _ _ ha)), ax, .ref b, rfl, _, rfl, b, ys, _, _, rfl, rfl, .inl (.inl (s2 _ _ hb)), ay, _, _, rfl, Alike.same s2 hki, fun G3 s3 => ?_⟩
      refine ⟨_, s3 _ _ e2, ?_, same_at (s2.trans s3) nL, ?_⟩
      · rw [List.length_map, List.length_replicate, sizeLine_eq]
        omega
      · rw [upd_same, List.replicate_succ', List.map_append]
        rfl
    · rintro G2 ⟨s2, e2⟩
      refine ⟨L, _, rfl, .inl (.inl e2), ?_⟩
      rw [all_true]
      exact q G2 s2
end
end E85

/-! _law_deck, _law_mixed, _law_draw -/
namespace E85
open PySem PySem.Spec PyProof.Rows L2 TL
/-- the deck at d -/
def DeckAt (H : Hp) (d c : Addr) : Prop := ∃ (ns : List Int) (i j t s : Int), H d = some (.lst [.ref c, .int i, .int j, .int t, .int s]) ∧ H c = some (.lst (ns.map V.int)) ∧ c ≠ d ∧ 0 ≤ i ∧ 0 ≤ j
/-- all but d is as it was -/
def But (d : Addr) (H H' : Hp) : Prop := ∀ b o, b ≠ d → H b = some o → H' b = some o
theorem But.refl (d : Addr) (H : Hp) : But d H H := fun _ _ _ e => e
theorem But.trans {d : Addr} {H H1 H2 : Hp} (a : But d H H1) (b : But d H1 H2) : But d H H2 := fun c o n e => b c o n (a c o n e)
theorem But.of {d : Addr} {H H' : Hp} (s : Same H H') : But d H H' := fun b o _ e => s b o e
theorem but_upd (d : Addr) (H : Hp) (o : HO) : But d H (upd H d o) := fun b u n e => by rw [upd_ne n]; exact e
theorem DeckAt.same {H H' : Hp} {d c : Addr} (h : DeckAt H d c) (s : Same H H') : DeckAt H' d c := by
  obtain ⟨ns, i, j, t, u, h1, h2, r⟩ := h
  exact ⟨ns, i, j, t, u, s _ _ h1, s _ _ h2, r⟩
theorem DeckAt.ex {H : Hp} {d c : Addr} (h : DeckAt H d c) : ∃ xs, H d = some (.lst xs) := by
  obtain ⟨ns, i, j, t, u, h1, _⟩ := h
  exact ⟨_, h1⟩
theorem DeckAt.ne {H : Hp} {d c o : Addr} (h : DeckAt H d c) (n : H o = none) : d ≠ o ∧ c ≠ o := by
  obtain ⟨ns, i, j, t, u, h1, h2, _⟩ := h
  exact ⟨ne_of_none h1 n, ne_of_none h2 n⟩
theorem DeckAt.put {H : Hp} {d c o : Addr} {u : HO} (h : DeckAt H d c) (nd : d ≠ o) (nc : c ≠ o) : DeckAt (upd H o u) d c := by
  obtain ⟨ns, i, j, t, v, h1, h2, r⟩ := h
  exact ⟨ns, i, j, t, v, by rw [upd_ne nd]; exact h1, by rw [upd_ne nc]; exact h2, r⟩
theorem But.free {d c o : Addr} {H G : Hp} (b : But d H G) (k : DeckAt G d c) (h : G o = none) : o ≠ d ∧ H o = none := by
  obtain ⟨xs, e⟩ := k.ex
  have nd : o ≠ d := fun z => by
    rw [z, e] at h
    cases h
  refine ⟨nd, ?_⟩
  cases q : H o with
  | none => rfl
  | some u =>
    rw [b o u nd q] at h
    cases h
theorem But.at {d o : Addr} {H G : Hp} {u : HO} (b : But d H G) (h : H o = none) : But d H (upd G o u) := fun x v n e => by
  rw [upd_ne (ne_of_none e h)]
  exact b x v n e
theorem RowsAt.but {H H' : Hp} {d : Addr} {ys : List V} {xs : List V} {rs : List Row} (h : RowsAt H xs rs) (b : But d H H') (e : H d = some (.lst ys)) : RowsAt H' xs rs := h.imp fun a zs ea =>
  b a _ (ne_of ea e (by intro z; cases z)) ea
theorem mul_mod (x y : Int) : CMul (x % 2147483647) y := .inl ⟨by omega, by omega⟩
theorem fin_nn (x : Int) : 0 ≤ (x % 2147483399) / 16 := Int.ediv_nonneg (Int.emod_nonneg _ (by decide)) (by decide)
section
variable {P : Program} {w : World} {K : PySem.W.Frag} {mg : Str → Option Value} {base : Heap}
def spDeck (K : PySem.W.Frag) : Sp := fun vs H Q _ => ∃ (a : Addr) (ns : List Int), vs = [.ref a] ∧ SqL K H a (ns.map V.int) ∧ ∀ H' d c, Same H H' → H d = none → H c = none → DeckAt H' d c → Q (.ref d) H'
theorem ok_law_deck {f : Addr} {fd : FuncData} (F : Fun K "_law_deck" "_law_deck" sLawDeck f fd) (B : Blt mg) : FnOk P w K mg base CX0 1 f fd ["_law_script"] (spDeck K) := by
  refine F.ok scLawDeck (fun vs H Q E h => ?_) (fun cdv A outer s H vs Q E hr h => ?_)
  · obtain ⟨a, ns, rfl, _⟩ := h
    rfl
  · obtain ⟨a, ns, rfl, hS, q⟩ := h
    refine ⟨_, pss_cons (ps_set (i := 1) scLawDeck.nd rfl (.inl rfl) pe_int)
      (pss_cons (ps_for PassesOwn.never rfl (pi_list (pv 0)) (pg_name (i := 2) scLawDeck.nd rfl (.inl rfl))
        (pss_one (ps_set (i := 1) scLawDeck.nd rfl (.inl rfl) (pe_op op_mod (pe_callTy call_int1 (by rfl) B.int (by decide +kernel) (pa_cons (pe_op op_add (pe_op op_mul (pv 1) pe_int) (pv 2)) pa_nil)) pe_int))))
      (pss_one (ps_ret (pe_lst (pa_cons (pe_callTy call_list_of (by rfl) B.list (by decide +kernel) (pa_cons (pv 0) pa_nil)) (pa_cons pe_int (pa_cons pe_int (pa_cons pe_int (pa_cons (pv 1) pa_nil))))))))), ?_⟩
    refine ⟨.ref a, rfl, a, rfl, ⟨_, hS⟩, for_it (walk_list (xs := ns.map V.int)) (fun i σ G => G = H ∧ ∃ sd y2, σ = [some (.ref a), some (.int sd), y2]) ⟨rfl, 1, none, rfl⟩ (fun i σ G _ hP => by rw [hP.1]; exact hS) ?_ ?_⟩
    · rintro i v σ G G2 hi ⟨rfl, sd, y2, rfl⟩ ⟨rfl, ev⟩
      obtain ⟨z, rfl⟩ : ∃ z, v = V.int z := by
        rw [List.getElem?_map] at ev
        cases e : ns[i]? with
        | none => rw [e] at ev; cases ev
        | some z => rw [e] at ev; exact ⟨z, (Option.some.inj ev).symm⟩
      refine ⟨_, rfl, _, _, rfl, rfl, .inr ⟨by decide, by decide⟩, _, rfl, _, _, rfl, rfl, .inl ⟨_, rfl, _, _, rfl, rfl, (by show (0 : Int) < 998244353; decide), ?_⟩⟩
      exact ⟨rfl, _, _, rfl⟩
    · rintro σ G ⟨rfl, sd, y2, rfl⟩
      refine ⟨.ref a, rfl, a, ns.map V.int, rfl, .inl hS, fun c nc => ⟨.int sd, rfl, by show 5 ≤ sizeLine; decide, fun d nd => ?_⟩⟩
      have ncd : c ≠ d := fun e => by
        rw [← e, upd_same] at nd
        cases nd
      have s1 := same_new (o := .lst (ns.map V.int)) nc
      refine q _ d c (same_at s1 (s1.free nd)) (s1.free nd) nc ⟨ns, 0, 0, 0, sd, upd_same, ?_, ncd, by decide, by decide⟩
      rw [upd_ne ncd]
      exact upd_same
def spMixed : Sp := fun vs H Q _ => ∃ c t : Int, vs = [.int c, .int t] ∧ ∀ k : Int, 0 ≤ k → Q (.int k) H
theorem ok_law_mixed {f : Addr} {fd : FuncData} (F : Fun K "_law_mixed" "_law_mixed" sLawMixed f fd) (B : Blt mg) : FnOk P w K mg base CX0 1 f fd ["_law_cell", "_law_turn"] spMixed := by
  refine F.ok scLawMixed (fun vs H Q E h => ?_) (fun cdv A outer s H vs Q E hr h => ?_)
  · obtain ⟨c, t, rfl, _⟩ := h
    rfl
  · obtain ⟨c, t, rfl, q⟩ := h
    refine ⟨_, pss_cons (ps_set (i := 2) scLawMixed.nd rfl (.inl rfl) (pe_op op_mod (pe_callTy call_int1 (by rfl) B.int (by decide +kernel) (pa_cons (pe_op op_mul
          (pe_callTy call_int1 (by rfl) B.int (by decide +kernel) (pa_cons (pe_op op_add (pe_op op_add (pv 0) (pe_op op_mul pe_int (pv 1))) pe_int) pa_nil)) pe_int) pa_nil)) pe_int))
      (pss_cons (ps_set (i := 2) scLawMixed.nd rfl (.inl rfl) (pe_op op_mod (pe_callTy call_int1 (by rfl) B.int (by decide +kernel) (pa_cons (pe_op op_mul (pv 2) (pe_op op_add (pe_op op_fdiv (pv 2) pe_int) pe_int)) pa_nil)) pe_int))
      (pss_cons (ps_set (i := 2) scLawMixed.nd rfl (.inl rfl) (pe_op op_mod (pe_callTy call_int1 (by rfl) B.int (by decide +kernel) (pa_cons (pe_op op_mul (pv 2) (pe_op op_add (pe_op op_add (pe_op op_fdiv (pv 2) pe_int) pe_int) (pv 1))) pa_nil)) pe_int))
      (pss_one (ps_ret (pe_op op_fdiv (pv 2) pe_int))))), ?_⟩
    refine ⟨_, rfl, _, rfl, _, _, rfl, rfl, .inl ⟨by decide, by decide⟩, _, _, rfl, rfl, _, _, rfl, rfl, .inl ⟨_, rfl, _, _, rfl, rfl, .inr ⟨by decide, by decide⟩, .inl ⟨_, rfl, _, _, rfl, rfl, (by show (0 : Int) < 2147483647; decide), ?_⟩⟩⟩
    refine ⟨_, rfl, _, rfl, _, _, rfl, rfl, ⟨by decide, by decide⟩, _, _, rfl, rfl, _, _, rfl, rfl, mul_mod _ _, .inl ⟨_, rfl, _, _, rfl, rfl, (by show (0 : Int) < 2147483647; decide), ?_⟩⟩
    refine ⟨_, rfl, _, rfl, _, _, rfl, rfl, ⟨by decide, by decide⟩, _, _, rfl, rfl, _, rfl, _, _, rfl, rfl, _, _, rfl, rfl, mul_mod _ _, .inl ⟨_, rfl, _, _, rfl, rfl, (by show (0 : Int) < 2147483399; decide), ?_⟩⟩
    exact ⟨_, rfl, _, _, rfl, rfl, ⟨by decide, by decide⟩, q _ (fin_nn _)⟩
/-- _law_draw(deck, many): some number below many -/
def spDraw : Sp := fun vs H Q _ => ∃ (d c : Addr) (n : Int), vs = [.ref d, .int n] ∧ DeckAt H d c ∧ 0 < n ∧ n < 1073741824 ∧ ∀ k H', 0 ≤ k → k < n → DeckAt H' d c → But d H H' → Q (.int k) H'
theorem ok_law_draw {f : Addr} {fd : FuncData} (F : Fun K "_law_draw" "_law_draw" sLawDraw f fd) (B : Blt mg) (C : Cal P w K mg base CX0 1 "_law_mixed" ["_law_cell", "_law_turn"] spMixed) : FnOk P w K mg base CX0 2 f fd ["_law_deck_here", "_law_many"] spDraw := by
  refine F.ok scLawDraw (fun vs H Q E h => ?_) (fun cdv A outer s H vs Q E hr h => ?_)
  · obtain ⟨d, c, n, rfl, _⟩ := h
    rfl
  · obtain ⟨d, c, n, rfl, ⟨ns, i, j, t, sd, ed, ec, ncd, hi, hj⟩, hn, hn2, q⟩ := h
    have mod_ok : ∀ x : Int, 0 ≤ x % n ∧ x % n < n := fun x => ⟨Int.emod_nonneg _ (by omega), Int.emod_lt_of_pos _ hn⟩
    have deckOf : ∀ {H2 : Hp} {i2 j2 t2 : Int}, H2 d = some (.lst [.ref c, .int i2, .int j2, .int t2, .int sd]) → But d H H2 → 0 ≤ i2 → 0 ≤ j2 → DeckAt H2 d c := fun e b h1 h2 =>
      ⟨ns, _, _, _, sd, e, b _ _ ncd ec, ncd, h1, h2⟩
    -- the second half, from any such deck
    obtain ⟨tR, hR, rR⟩ : ∃ tR, PSs (cxOf CX0 P w K mg base nLawDraw "_law_draw" (defScope sLawDraw) f cdv A outer s H E).nox ((defBody sLawDraw).drop 2) tR ∧
        ∀ (H2 : Hp) (i2 j2 t2 : Int) (y2 : Option V) (nx : L2.St → Hp → Prop), H2 d = some (.lst [.ref c, .int i2, .int j2, .int t2, .int sd]) → But d H H2 → 0 ≤ i2 → 0 ≤ j2 → tR { nx := nx, rt := Q } [some (.ref d), some (.int n), y2, none] H2 := by
      refine ⟨_, pss_cons (ps_if (pt_cmpR op_gt (pe_ix ix_list (pv 0) pe_int (fun _ _ => rfl)) pe_int (nomark _))
          (pss_cons (ps_set (i := 3) scLawDraw.nd rfl (.inl rfl) (pe_op op_mod (pe_callTy call_int1 (by rfl) B.int (by decide +kernel) (pa_cons (pe_ix ix_list (pv 0) pe_int (fun _ _ => rfl)) pa_nil)) (pv 1)))
          (pss_cons (ps_asg (pe_op op_fdiv (pe_ix ix_list (pv 0) pe_int (fun _ _ => rfl)) (pv 1)) (pg_sub (pv 0) pe_int set_list))
          (pss_one (ps_ret (pv 3))))) pss_nil)
        (pss_one (ps_ret (pe_op op_mod (pe_callTy call_int1 (by rfl) B.int (by decide +kernel) (pa_cons (pe_cal C hr (by rfl) (pa_cons (pe_ix ix_list (pv 0) pe_int (fun _ _ => rfl)) (pa_cons (pe_ix ix_list (pv 0) pe_int (fun _ _ => rfl)) pa_nil))) pa_nil)) (pv 1)))), ?_⟩
      intro H2 i2 j2 t2 y2 nx e2 b2 h1 h2
      have dk := deckOf e2 b2 h1 h2
      refine ⟨.ref d, rfl, d, _, 2, _, rfl, rfl, .inl (.inl e2), rfl, _, _, rfl, rfl, _, rfl, ite2 (fun _ => ?_) (fun _ => ?_)⟩
      · refine ⟨.ref d, rfl, d, _, 2, _, rfl, rfl, .inl (.inl e2), rfl, .inl ⟨_, rfl, .int n, rfl, _, _, rfl, rfl, hn, ?_⟩⟩
        refine ⟨.ref d, rfl, d, _, 2, _, rfl, rfl, .inl (.inl e2), rfl, .int n, rfl, _, _, rfl, rfl, ⟨hn, hn2⟩, .ref d, rfl, d, _, 2, 2, rfl, rfl, e2, rfl, ?_⟩
        refine ⟨_, rfl, ?_⟩
        exact q _ _ (mod_ok _).1 (mod_ok _).2 (deckOf upd_same (b2.trans (but_upd _ _ _)) h1 (Int.ediv_nonneg h2 (by omega))) (b2.trans (but_upd _ _ _))
      · refine ⟨.ref d, rfl, d, _, 4, _, rfl, rfl, .inl (.inl e2), rfl, .ref d, rfl, d, _, 3, _, rfl, rfl, .inl (.inl e2), rfl, _, _, rfl, fun k hk => .inl ⟨_, rfl, .int n, rfl, _, _, rfl, rfl, hn, ?_⟩⟩
        exact q _ _ (mod_ok _).1 (mod_ok _).2 dk b2
    refine ⟨_, pss_cons (ps_asg (pe_op op_add (pe_ix ix_list (pv 0) pe_int (fun _ _ => rfl)) pe_int) (pg_sub (pv 0) pe_int set_list))
      (pss_cons (ps_if (PW.pt (pw_and (pt_cmpR op_eq (pe_ix ix_list (pv 0) pe_int (fun _ _ => rfl)) pe_int (nomark _)) (pw_and1 (pt_cmpR op_lt (pe_ix ix_list (pv 0) pe_int (fun _ _ => rfl)) (pe_callB call_len_seq (by rfl) B.len PySem.boot_len (pa_cons (pe_ix ix_list (pv 0) pe_int (fun _ _ => rfl)) pa_nil)) (nomark _)))))
        (pss_cons (ps_set (i := 2) scLawDraw.nd rfl (.inl rfl) (pe_ix ix_list (pe_ix ix_list (pv 0) pe_int (fun _ _ => rfl)) (pe_ix ix_list (pv 0) pe_int (fun _ _ => rfl)) (fun _ _ => rfl)))
        (pss_cons (ps_asg (pe_op op_add (pe_ix ix_list (pv 0) pe_int (fun _ _ => rfl)) pe_int) (pg_sub (pv 0) pe_int set_list))
        (pss_cons (ps_if (pt_chain op_lt op_lt (pe_un un_neg (pe_op op_pow pe_int pe_int)) (pv 2) (pe_op op_pow pe_int pe_int))
          (pss_one (ps_ret (pe_op op_mod (pe_callTy call_int1 (by rfl) B.int (by decide +kernel) (pa_cons (pe_cal C hr (by rfl) (pa_cons (pv 2) (pa_cons (pe_ix ix_list (pv 0) pe_int (fun _ _ => rfl)) pa_nil))) pa_nil)) (pv 1)))) pss_nil)
        (pss_one (ps_asg (pe_callB call_abs (by rfl) B.abs (by decide +kernel) (pa_cons (pv 2) pa_nil)) (pg_sub (pv 0) pe_int set_list)))))) pss_nil) hR), ?_⟩
    -- deck[3] = deck[3] + 1
    refine ⟨.ref d, rfl, d, _, 3, _, rfl, rfl, .inl (.inl ed), rfl, _, _, rfl, rfl, .ref d, rfl, d, _, 3, 3, rfl, rfl, ed, rfl, ?_⟩
    generalize hH1 : upd H d (HO.lst ([V.ref c, V.int i, V.int j, V.int t, V.int sd].set 3 ((fun i j => V.int (i + j)) t 1))) = H1
    have ed1 : H1 d = some (.lst [.ref c, .int i, .int j, .int (t + 1), .int sd]) := by
      rw [← hH1]
      exact upd_same
    have bt1 : But d H H1 := by
      rw [← hH1]
      exact but_upd _ _ _
    have ec1 : H1 c = some (.lst (ns.map V.int)) := bt1 _ _ ncd ec
    refine ⟨.ref d, rfl, d, _, 2, _, rfl, rfl, .inl (.inl ed1), rfl, rfl, _, rfl, ?_⟩
    by_cases c1 : j = 0
    · rw [decide_eq_true (show V.int j = V.int 0 by rw [c1])]
      refine iteT ⟨.ref d, rfl, d, _, 1, _, rfl, rfl, .inl (.inl ed1), rfl, .ref d, rfl, d, _, 0, _, rfl, rfl, .inl (.inl ed1), rfl, c, ns.map V.int, rfl, .inl (.inl (.inl ec1)), _, _, rfl, rfl, _, rfl, ?_⟩
      rw [List.length_map]
      show if decide (i < ((ns.length : Nat) : Int)) = true then _ else _
      by_cases c2 : i < ((ns.length : Nat) : Int)
      · rw [decide_eq_true c2]
        obtain ⟨cell, hat⟩ : ∃ cell, atI (ns.map V.int) i = some (.int cell) := by
          obtain ⟨i', rfl⟩ : ∃ i' : Nat, i = i' := ⟨i.toNat, by omega⟩
          have hin : i' < ns.length := by omega
          exact ⟨ns[i'], atI_nat (by rw [List.getElem?_map, List.getElem?_eq_getElem hin]; rfl)⟩
        refine iteT ⟨.ref d, rfl, d, _, 0, _, rfl, rfl, .inl (.inl ed1), rfl, .ref d, rfl, d, _, 1, _, rfl, rfl, .inl (.inl ed1), rfl, c, ns.map V.int, i, _, rfl, rfl, .inl (.inl ec1), hat, ?_⟩
        refine ⟨.ref d, rfl, d, _, 1, _, rfl, rfl, .inl (.inl ed1), rfl, _, _, rfl, rfl, .ref d, rfl, d, _, 1, 1, rfl, rfl, ed1, rfl, ?_⟩
        generalize hH2 : upd H1 d (HO.lst ([V.ref c, V.int i, V.int j, V.int (t + 1), V.int sd].set 1 ((fun i j => V.int (i + j)) i 1))) = H2
        have ed2 : H2 d = some (.lst [.ref c, .int (i + 1), .int j, .int (t + 1), .int sd]) := by
          rw [← hH2]
          exact upd_same
        have bt2 : But d H H2 := bt1.trans (by
          rw [← hH2]
          exact but_upd _ _ _)
        have dk2 := deckOf ed2 bt2 (by omega) hj
        refine ⟨_, _, rfl, rfl, ⟨by decide, by decide, by decide⟩, _, rfl, .int cell, rfl, _, _, rfl, rfl, _, rfl, ite2 (fun _ => ?_) (fun _ => ?_)⟩
        · refine ⟨_, _, rfl, rfl, ⟨by decide, by decide, by decide⟩, _, _, rfl, rfl, _, rfl, ite2 (fun _ => ?_) (fun _ => ?_)⟩
          · refine ⟨.int cell, rfl, .ref d, rfl, d, _, 3, _, rfl, rfl, .inl (.inl ed2), rfl, _, _, rfl, fun k hk => .inl ⟨_, rfl, .int n, rfl, _, _, rfl, rfl, hn, ?_⟩⟩
            exact q _ _ (mod_ok _).1 (mod_ok _).2 dk2 bt2
          · refine ⟨.int cell, rfl, cell, rfl, .ref d, rfl, d, _, 2, 2, rfl, rfl, ed2, rfl, ?_⟩
            exact rR _ (i + 1) _ (t + 1) _ _ upd_same (bt2.trans (but_upd _ _ _)) (by omega) (by split <;> omega)
        · refine ⟨_, rfl, iteF ⟨.int cell, rfl, cell, rfl, .ref d, rfl, d, _, 2, 2, rfl, rfl, ed2, rfl, ?_⟩⟩
          exact rR _ (i + 1) _ (t + 1) _ _ upd_same (bt2.trans (but_upd _ _ _)) (by omega) (by split <;> omega)
      · rw [decide_eq_false c2]
        exact iteF (rR H1 i j (t + 1) _ _ ed1 bt1 hi hj)
    · rw [decide_eq_false (show ¬ V.int j = V.int 0 from fun z => c1 (V.int.inj z))]
      exact iteF (iteF (rR H1 i j (t + 1) _ _ ed1 bt1 hi hj))
end
end E85

/-! _law_pattern, _law_pattern_text -/
namespace E85
open PySem PySem.Spec PyProof.Rows L2 TL
/-- a row of a pattern -/
def okRow (r : Row) : Prop := r.length ≤ 5 ∧ ∀ e ∈ r, ∀ i, e = some i → 0 ≤ i ∧ i < 5
/-- a block's names of which none is captured: whatever stands around -/
theorem blk_any {N : List Str} {sc scope : Scope} {own : List (Str × Nat)} (h : BlkOk N { kind := .function, names := [], isGenerator := false, isCoroutine := false } scope own) (nf : ∀ y ∈ scope.names, y.2 ≠ .free) : BlkOk N sc scope own :=
  ⟨h.kind, h.uniq, h.ix, fun y hy e => absurd e (nf y hy), h.own⟩
def rJoin (K : PySem.W.Frag) : V → List V → Hp → VK → Prop := fun x xs H Q => ∃ a p, ∃ ys : List Str, x = .str a ∧ xs = [.ref p] ∧ (SqL K H p (ys.map V.str) ∨ SqT K H p (ys.map V.str)) ∧
    (ys.map (·.length)).sum + ys.length * a.length ≤ 16777216 ∧ Q (.str (Txt.join a ys)) H
section
variable {X : Cx} {o e : Expr} {to te : TE}
theorem pe_joinK (K : PySem.W.Frag) {apos pos : Pos} (ho : PE X o to) (he : PE X e te) (hK : X.K = K := by rfl) (hs : starEach [e] X.env = [(false, eval e X.env)] := by rfl) (hbase : attributeBase o "join" X.env (eval o X.env) = eval o X.env := by rfl) (hline : (apos.endLine == pos.line) = true := by rfl) :
    PE X (.Call (.Attribute o "join" apos) [e] [] pos) (tM1 (rJoin K) to te) := by
  subst hK
  exact pe_join ho he hs hbase hline
theorem pi_tupK (K : PySem.W.Frag) {tg l : Expr} {tl : TE} (hl : PE X l tl) (hK : X.K = K := by rfl) : PI X tg l (iTup K tl) := by
  subst hK
  exact pi_tup hl
end
theorem sum_le {ws : List Str} {b : Nat} (h : ∀ w ∈ ws, w.length ≤ b) : (ws.map (·.length)).sum ≤ ws.length * b := by
  induction ws with
  | nil => exact Nat.zero_le _
  | cons a r ih =>
    rw [List.map_cons, List.sum_cons, List.length_cons, Nat.succ_mul]
    have h1 := h a (by simp)
    have h2 := ih fun w hw => h w (List.mem_cons_of_mem _ hw)
    omega
theorem len_app (a b : Str) : (a ++ b).length = a.length + b.length := by
  rw [len_tl, tl_append, List.length_append, ← len_tl, ← len_tl]
theorem len_small {i : Int} (h0 : 0 ≤ i) (h5 : i < 5) : (Str.ofString (toString i)).length = 1 := by
  have h : i = 0 ∨ i = 1 ∨ i = 2 ∨ i = 3 ∨ i = 4 := by omega
  rcases h with rfl | rfl | rfl | rfl | rfl <;> decide +kernel
def rAddS : R2 := fun x y H Q => ∃ i j, x = .str i ∧ y = .str j ∧ i.length + j.length ≤ sizeLine ∧ Q (.str (i ++ j)) H
theorem tot_bound {ls : List Str} {n : Nat} (h : ∀ l ∈ ls, l.length ≤ n) : tot ls ≤ ls.length * (n + 1) := by
  induction ls with
  | nil => exact Nat.zero_le _
  | cons a r ih =>
    rw [tot_cons, List.length_cons, Nat.succ_mul]
    have h1 := h a (by simp)
    have h2 := ih fun l hl => h l (List.mem_cons_of_mem _ hl)
    omega
theorem nl_sum (zs : List Str) : ((zs.map fun z => z ++ nl1).map (·.length)).sum = tot zs := by
  have h1 : nl1.length = 1 := by decide +kernel
  induction zs with
  | nil => rfl
  | cons a r ih =>
    rw [List.map_cons, List.map_cons, List.sum_cons, ih, tot_cons, len_app, h1]
/-- ''.join([line + '\n' for line in lines]), lines in slot i, line in slot k -/
theorem read_nl {K : PySem.W.Frag} {σ : L2.St} {G : Hp} {Q : VK} {i k : Nat} {L : Addr} {zs : List Str} (hk : k < σ.length) (hi : σ[i]? = some (some (.ref L))) (hz : G L = some (.lst (zs.map V.str))) (ht : tot zs ≤ 16000000)
    (q : ∀ z G', z.length ≤ tot zs → Same G G' → Q (.str z) G') :
    tM1 (rJoin K) (tC (.str "")) (tLc (iList K (tVar i)) (gName k) tYes (tOp rAddS (tVar k) (tC (.str nl1))) [k]) σ G Q := by
  have hzl := tot_len zs
  have hnl : nl1.length = 1 := by decide +kernel
  refine ⟨⟨_, rfl⟩, .ref L, hi, L, rfl, ⟨_, .inl (.inl hz)⟩, fun M nM => lc_it (walk_list (xs := zs.map V.str)) (fun j G2 => Same G G2 ∧ G2 M = some (.lst (((zs.take j).map fun z => z ++ nl1).map V.str))) ⟨same_new nM, upd_same⟩ (fun j G2 _ hP => .inl (.inl (hP.1 _ _ hz))) ?_ ?_⟩
  · rintro j v G1 G2 hj ⟨s2, e2⟩ ⟨rfl, ev⟩
    obtain ⟨z, hzj, rfl⟩ : ∃ z, zs[j]? = some z ∧ v = V.str z := by
      rw [List.getElem?_map] at ev
      cases e : zs[j]? with
      | none => rw [e] at ev; cases ev
      | some z => rw [e] at ev; exact ⟨z, rfl, (Option.some.inj ev).symm⟩
    have hlen := tot_mem (List.mem_of_getElem? hzj)
    have hw : wipe ((wipe σ [k]).set k (some (V.str z))) [k] = wipe σ [k] := by
      show ((wipe σ [k]).set k (some (V.str z))).set k none = wipe σ [k]
      rw [List.set_set]
      show (σ.set k none).set k none = σ.set k none
      rw [List.set_set]
    have hs : ((wipe σ [k]).set k (some (V.str z)))[k]? = some (some (V.str z)) := List.getElem?_set_self (by rw [wipe_length]; exact hk)
    refine ⟨hw, _, hs, z, nl1, rfl, rfl, by rw [hnl, sizeLine_eq]; omega, _, e2, ?_, same_at s2 nM, ?_⟩
    · rw [List.length_map, List.length_map, List.length_take, sizeLine_eq]
      omega
    · rw [upd_same, take_more hzj, List.map_append, List.map_append]
      rfl
  · rintro G2 ⟨s2, e2⟩
    rw [List.length_map, List.take_length] at e2
    have hsum := nl_sum zs
    refine ⟨"", M, zs.map (fun z => z ++ nl1), rfl, rfl, .inl (.inl (.inl e2)), ?_, q _ _ ?_ s2⟩
    · rw [hsum]
      show _ + _ * 0 ≤ _
      omega
    · have h := join_len "" (zs.map fun z => z ++ nl1)
      rw [hsum] at h
      have h0 : ("" : Str).length = 0 := by decide +kernel
      rw [h0] at h
      omega
theorem RowsAt.get {H : Hp} {xs : List V} {rs : List Row} (h : RowsAt H xs rs) : ∀ {i : Nat} {v : V}, xs[i]? = some v → ∃ a r, v = .ref a ∧ H a = some (.tup (r.map oV)) ∧ rs[i]? = some r := by
  induction h with
  | nil => intro i v e; simp at e
  | @cons a r xs rs h t ih =>
    intro i v e
    cases i with
    | zero => exact ⟨a, r, (Option.some.inj e).symm, h, rfl⟩
    | succ i => exact ih (by simpa using e)
theorem small_log {i : Int} (h0 : 0 ≤ i) (h5 : i < 5) : i.natAbs.log2 < 1920 := by
  have h : i = 0 ∨ i = 1 ∨ i = 2 ∨ i = 3 ∨ i = 4 := by omega
  rcases h with rfl | rfl | rfl | rfl | rfl <;> decide +kernel
section
variable {P : Program} {w : World} {K : PySem.W.Frag} {mg : Str → Option Value} {base : Heap}
def spPat : Sp := fun vs H Q _ => ∃ (d c : Addr) (m : Int), vs = [.ref d, .int m] ∧ DeckAt H d c ∧ isInt3 m ∧
  ∀ H' p rs, But d H H' → DeckAt H' d c → PatAt H' p rs → rs.length ≤ 30 → (∀ r ∈ rs, okRow r) → Q (.ref p) H'
theorem ok_law_pattern {f : Addr} {fd : FuncData} (F : Fun K "_law_pattern" "_law_pattern" sLawPattern f fd) (B : Blt mg) (C : Cal P w K mg base CX0 2 "_law_draw" ["_law_deck_here", "_law_many"] spDraw) : FnOk P w K mg base CX0 3 f fd ["_law_deck_here", "_law_many"] spPat := by
  refine F.ok scLawPattern (fun vs H Q E h => ?_) (fun cdv A outer s H vs Q E hr h => ?_)
  · obtain ⟨d, c, m, rfl, _⟩ := h
    rfl
  · obtain ⟨d, c, m, rfl, hd, h3, q⟩ := h
    obtain ⟨m3, m5⟩ := h3
    -- behind the number of rounds
    obtain ⟨tR, hR, rR⟩ : ∃ tR, PSs (cxOf CX0 P w K mg base nLawPattern "_law_pattern" (defScope sLawPattern) f cdv A outer s H E).nox ((defBody sLawPattern).drop 1) tR ∧
        ∀ (G : Hp) (k : Int) (nx : L2.St → Hp → Prop), But d H G → DeckAt G d c → 0 ≤ k → k < 31 → tR { nx := nx, rt := Q } [some (.ref d), some (.int m), some (.int k), none, none, none, none, none] G := by
      refine ⟨_, pss_cons (ps_set (i := 3) scLawPattern.nd rfl (.inl rfl) (pe_lst pa_nil))
        (pss_cons (ps_for PassesOwn.never rfl (pi_range1 rfl B.range (pa_cons (pv 2) pa_nil)) (pg_name (i := 4) scLawPattern.nd rfl (.inl rfl))
          (pss_cons (ps_set (i := 5) scLawPattern.nd rfl (.inl rfl) (pe_lst pa_nil))
          (pss_cons (ps_for PassesOwn.never rfl (pi_range1 rfl B.range (pa_cons (pv 1) pa_nil)) (pg_name (i := 6) scLawPattern.nd rfl (.inl rfl))
            (pss_cons (ps_set (i := 7) scLawPattern.nd rfl (.inl rfl) (pe_op op_mod (pe_callTy call_int1 (by rfl) B.int (by decide +kernel) (pa_cons (pe_op op_add (pv 6) (pe_cal C hr (by rfl) (pa_cons (pv 0) (pa_cons (pv 1) pa_nil)))) pa_nil)) (pv 1)))
            (pss_one (ps_expr (pe_bm PySem.F.plainAttrs_list PySem.F.slot_list_append PySem.F.type_list_append mt_append (pv 5) (pa_cons (pe_ifExp (pt_cmpR op_eq (pv 7) (pv 6) (nomark _)) pe_non (pv 7)) pa_nil))))))
          (pss_one (ps_expr (pe_bm PySem.F.plainAttrs_list PySem.F.slot_list_append PySem.F.type_list_append mt_append (pv 3) (pa_cons (pe_callTy call_tuple_of (by rfl) B.tuple (by decide +kernel) (pa_cons (pv 5) pa_nil)) pa_nil)))))))
        (pss_one (ps_ret (pe_callTy call_tuple_of (by rfl) B.tuple (by decide +kernel) (pa_cons (pv 3) pa_nil))))), ?_⟩
      intro G0 k nx b0 d0 hk0 hk31
      -- found = []
      refine ⟨Nat.zero_le _, fun o no => ?_⟩
      obtain ⟨nod, Ho⟩ := b0.free d0 no
      have nco := d0.ne no
      refine ⟨.int k, rfl, k, rfl, by omega, by omega, for_it (walk_range (lo := 0) (n := k.toNat)) (fun i σ G => ∃ xs fs y4 y5 y6 y7, σ = [some (.ref d), some (.int m), some (.int k), some (.ref o), y4, y5, y6, y7] ∧ But d H G ∧ DeckAt G d c ∧ G o = some (.lst xs) ∧ RowsAt G xs fs ∧ fs.length = i ∧ ∀ r ∈ fs, okRow r)
        ⟨[], [], none, none, none, none, rfl, b0.at Ho, d0.put nco.1 nco.2, upd_same, .nil, rfl, fun r hr => by cases hr⟩ (fun _ _ _ _ _ => trivial) ?_ ?_⟩
      · -- a round
        rintro i v σ G1 G hi ⟨xs, fs, y4, y5, y6, y7, rfl, bG, dG, eo, hR, hf, hok⟩ ⟨rfl, rfl⟩
        -- row = []
        refine ⟨Nat.zero_le _, fun r nr => ?_⟩
        obtain ⟨nrd, Hr⟩ := bG.free dG nr
        have ncr := dG.ne nr
        have nor : o ≠ r := ne_of_none eo nr
        refine ⟨.int m, rfl, m, rfl, by omega, by omega, for_it (walk_range (lo := 0) (n := m.toNat)) (fun j σ G2 => ∃ (es : Row) (y6 y7 : Option V), σ = [some (.ref d), some (.int m), some (.int k), some (.ref o), some (.int (0 + (i : Nat))), some (.ref r), y6, y7] ∧ But d H G2 ∧ DeckAt G2 d c ∧ G2 o = some (.lst xs) ∧ RowsAt G2 xs fs ∧ G2 r = some (.lst (es.map oV)) ∧ es.length = j ∧ ∀ e ∈ es, ∀ z : Int, e = some z → 0 ≤ z ∧ z < 5)
          ⟨[], y6, y7, rfl, bG.at Hr, dG.put ncr.1 ncr.2, by rw [upd_ne nor]; exact eo, hR.same (same_new nr), upd_same, rfl, fun e he => by cases he⟩ (fun _ _ _ _ _ => trivial) ?_ ?_⟩
        · rintro j v2 σ2 G3 G2 hj ⟨es, y6, y7, rfl, b2, d2, eo2, hR2, er, hes, hoke⟩ ⟨rfl, rfl⟩
          refine ⟨_, rfl, .ref d, rfl, .int m, rfl, d, c, m, rfl, d2, by omega, by omega, fun k2 G4 _ _ d4 b4 => ⟨_, _, rfl, rfl, .inl ⟨_, rfl, .int m, rfl, _, _, rfl, rfl, (by show (0 : Int) < m; omega), ?_⟩⟩⟩
          have hx := Int.emod_nonneg (0 + ((j : Nat) : Int) + k2) (show m ≠ 0 by omega)
          have hy := Int.emod_lt_of_pos (0 + ((j : Nat) : Int) + k2) (show (0 : Int) < m by omega)
          obtain ⟨ds, ed2⟩ := d2.ex
          have er4 := b4 r _ nrd er
          have eo4 := b4 o _ nod eo2
          have d4r := d4.put (u := .lst (es.map oV)) ncr.1 ncr.2
          have lts : (es.map oV).length < sizeLine := by
            rw [List.length_map, sizeLine_eq]
            omega
          have fin : ∀ e : Option Int, (∀ z : Int, e = some z → 0 ≤ z ∧ z < 5) → ∀ y7' : Option V, ∃ (es' : Row) (z6 z7 : Option V), [some (V.ref d), some (.int m), some (.int k), some (.ref o), some (.int (0 + (i : Nat))), some (.ref r), some (.int (0 + (j : Nat))), y7'] = [some (V.ref d), some (.int m), some (.int k), some (.ref o), some (.int (0 + (i : Nat))), some (.ref r), z6, z7] ∧
              But d H (upd G4 r (.lst (es.map oV ++ [oV e]))) ∧ DeckAt (upd G4 r (.lst (es.map oV ++ [oV e]))) d c ∧ (upd G4 r (.lst (es.map oV ++ [oV e]))) o = some (.lst xs) ∧ RowsAt (upd G4 r (.lst (es.map oV ++ [oV e]))) xs fs ∧
                (upd G4 r (.lst (es.map oV ++ [oV e]))) r = some (.lst (es'.map oV)) ∧ es'.length = j + 1 ∧ ∀ e ∈ es', ∀ z : Int, e = some z → 0 ≤ z ∧ z < 5 := fun e he y7' => by
            refine ⟨es ++ [e], _, _, rfl, (b2.trans b4).at Hr, d4.put ncr.1 ncr.2, by rw [upd_ne nor]; exact eo4, (hR2.but b4 ed2).upd er4, ?_, ?_, fun e' he' => ?_⟩
            · rw [upd_same, List.map_append]
              rfl
            · rw [List.length_append, hes]
              rfl
            · rcases List.mem_append.mp he' with h | h
              · exact hoke e' h
              · rw [List.mem_singleton.mp h]
                exact he
          refine ⟨.ref r, rfl, .inl ⟨rfl, _, .inl (.inl er4)⟩, _, rfl, _, rfl, rfl, _, rfl, ite2 (fun _ => ?_) (fun _ => ?_)⟩
          · exact ⟨r, _, .non, rfl, rfl, er4, lts, fin none (fun z hz => by cases hz) _⟩
          · refine ⟨_, rfl, r, _, _, rfl, rfl, er4, lts, fin (some ((0 + ((j : Nat) : Int) + k2) % m)) (fun z hz => ?_) _⟩
            rw [← Option.some.inj hz]
            exact ⟨hx, by omega⟩
        · rintro σ2 G2 ⟨es, y6, y7, rfl, b2, d2, eo2, hR2, er, hes, hoke⟩
          refine ⟨.ref o, rfl, .inl ⟨rfl, _, .inl (.inl eo2)⟩, .ref r, rfl, r, es.map oV, rfl, .inl ⟨.inl (.inl er), fun T nT => ?_⟩⟩
          obtain ⟨nTd, HT⟩ := b2.free d2 nT
          have ncT := d2.ne nT
          have noT : o ≠ T := ne_of_none eo2 nT
          have eoT : (upd G2 T (.tup (es.map oV))) o = some (.lst xs) := by
            rw [upd_ne noT]
            exact eo2
          have hxs := hR2.len
          refine ⟨o, xs, .ref T, rfl, rfl, eoT, by rw [sizeLine_eq]; omega, ?_⟩
          refine ⟨xs ++ [.ref T], fs ++ [es], _, _, _, _, rfl, (b2.at HT).at Ho, (d2.put ncT.1 ncT.2).put nco.1 nco.2, upd_same, ((hR2.same (same_new nT)).snoc upd_same).upd eoT, ?_, fun r' hr' => ?_⟩
          · rw [List.length_append, hf]
            rfl
          · rcases List.mem_append.mp hr' with h | h
            · exact hok r' h
            · rw [List.mem_singleton.mp h]
              exact ⟨by omega, hoke⟩
      · rintro σ G ⟨xs, fs, y4, y5, y6, y7, rfl, bG, dG, eo, hR, hf, hok⟩
        refine ⟨.ref o, rfl, o, xs, rfl, .inl ⟨.inl (.inl eo), fun T nT => ?_⟩⟩
        obtain ⟨nTd, HT⟩ := bG.free dG nT
        have ncT := dG.ne nT
        exact q _ T fs (bG.at HT) (dG.put ncT.1 ncT.2) ⟨xs, upd_same, hR.same (same_new nT)⟩ (by omega) hok
    refine ⟨_, pss_cons (ps_set (i := 2) scLawPattern.nd rfl (.inl rfl) (pe_ifExp (pt_cmpR op_eq (pe_cal C hr (by rfl) (pa_cons (pv 0) (pa_cons pe_int pa_nil))) pe_int (nomark _))
          (pe_cal C hr (by rfl) (pa_cons (pv 0) (pa_cons pe_int pa_nil))) (pe_cal C hr (by rfl) (pa_cons (pv 0) (pa_cons pe_int pa_nil))))) hR, ?_⟩
    refine ⟨.ref d, rfl, d, c, 6, rfl, hd, by decide, by decide, fun k0 G0 _ _ hd0 b0 => ⟨rfl, _, rfl, ite2 (fun _ => ?_) (fun _ => ?_)⟩⟩
    · exact ⟨.ref d, rfl, d, c, 31, rfl, hd0, by decide, by decide, fun k1 G1 h0 h1 hd1 b1 => rR G1 k1 _ (b0.trans b1) hd1 h0 h1⟩
    · exact ⟨.ref d, rfl, d, c, 5, rfl, hd0, by decide, by decide, fun k1 G1 h0 h1 hd1 b1 => rR G1 k1 _ (b0.trans b1) hd1 h0 (by omega)⟩
/-- _law_pattern_text(pattern) -/
def spPTxt : Sp := fun vs H Q _ => ∃ (p : Addr) (rs : List Row), vs = [.ref p] ∧ PatAt H p rs ∧ rs.length ≤ 30 ∧ (∀ r ∈ rs, okRow r) ∧ ∀ z H', z.length ≤ 400 → Same H H' → Q (.str z) H'
def missStr : Option Int → Str
  | none => "-"
  | some i => Str.ofString (toString i)
theorem miss_len {r : Row} (h : okRow r) : ∀ e ∈ r, (missStr e).length = 1 := fun e he => by
  cases e with
  | none => decide +kernel
  | some i =>
    obtain ⟨a, b⟩ := h.2 _ he i rfl
    exact len_small a b
theorem row_str {r : Row} (h : okRow r) : (Txt.join bl1 (r.map missStr)).length ≤ 10 ∧ ((r.map missStr).map (·.length)).sum + (r.map missStr).length * bl1.length ≤ 16777216 := by
  have h1 : ((r.map missStr).map (·.length)).sum ≤ (r.map missStr).length * 1 := sum_le fun w hw => by
    obtain ⟨e, he, rfl⟩ := List.mem_map.mp hw
    exact Nat.le_of_eq (miss_len h e he)
  have h2 := join_len bl1 (r.map missStr)
  have h3 : bl1.length = 1 := by decide +kernel
  rw [List.length_map] at h1 h2 ⊢
  rw [h3] at h2 ⊢
  have := h.1
  exact ⟨by omega, by omega⟩
theorem ok_law_pattern_text {f : Addr} {fd : FuncData} (F : Fun K "_law_pattern_text" "_law_pattern_text" sLawPatternText f fd) (B : Blt mg) : FnOk P w K mg base CX0 1 f fd ["_law_pattern_here"] spPTxt := by
  refine F.ok scLawPatternText (fun vs H Q E h => ?_) (fun cdv A outer s H vs Q E hr h => ?_)
  · obtain ⟨p, rs, rfl, _⟩ := h
    rfl
  · obtain ⟨p, rs, rfl, ⟨xs, ep, hR⟩, h30, hok, q⟩ := h
    refine ⟨_, pss_cons (ps_setLc (i := 1) (own := [("_law_row_here", 2)]) (g := gName 2) (tt := tYes) rfl scLawPatternText.nd rfl rfl (sw_true rfl rfl rfl (by decide +kernel)) (pi_tup (pv 0)) (blkOk_by (N := nLawPatternText) (sc := defScope sLawPatternText) (by decide +kernel))
          (fun _ _ _ _ _ => pg_name (i := 2) scLawPatternText.nd rfl (Or.inl rfl)) (fun _ _ _ _ _ => pts_nil)
          (fun _ _ _ _ _ => pe_joinK K pe_str (pe_lc (own := [("_law_missed", 3)]) (g := gName 3) (tt := tYes) rfl scLawPatternText.nd (pi_tupK K (pv 2)) (blk_any (blkOk_by (N := nLawPatternText) (by decide +kernel)) (by decide +kernel))
            (fun _ _ _ _ _ => pg_name (i := 3) scLawPatternText.nd rfl (Or.inl rfl)) (fun _ _ _ _ _ => pts_nil)
            (fun _ _ _ _ _ => pe_ifExp (pt_cmpR op_isN (pv 3) pe_non (nomark _)) pe_str (pe_callTy call_str_int (by rfl) B.str (by decide +kernel) (pa_cons (pv 3) pa_nil))))))
      (pss_one (ps_ret (pe_join pe_str (pe_lc (own := [("_law_line", 4)]) (g := gName 4) (tt := tYes) rfl scLawPatternText.nd (pi_list (pv 1)) (blkOk_by (N := nLawPatternText) (sc := defScope sLawPatternText) (by decide +kernel))
          (fun _ _ _ _ _ => pg_name (i := 4) scLawPatternText.nd rfl (Or.inl rfl)) (fun _ _ _ _ _ => pts_nil) (fun _ _ _ _ _ => pe_op op_add_str (pv 4) pe_str))))), ?_⟩
    refine ⟨.ref p, rfl, p, rfl, ⟨_, .inl (.inl ep)⟩, fun L nL => lc_it (walk_tup (xs := xs)) (fun i G => Same H G ∧ G L = some (.lst (((rs.take i).map fun r => Txt.join bl1 (r.map missStr)).map V.str))) ⟨same_new nL, upd_same⟩ (fun i G _ hP => .inl (.inl (hP.1 _ _ ep))) ?_ ?_⟩
    · rintro i v G1 G hi ⟨sG, eL⟩ ⟨rfl, ev⟩
      obtain ⟨a, r, rfl, ea, hr2⟩ := hR.get ev
      have hok1 := hok r (List.mem_of_getElem? hr2)
      obtain ⟨hl10, hroom⟩ := row_str hok1
      refine ⟨rfl, ⟨_, rfl⟩, .ref a, rfl, a, rfl, ⟨_, .inl (.inl (sG _ _ ea))⟩, fun M nM => lc_it (walk_tup (xs := r.map oV)) (fun j G2 => Same G G2 ∧ G2 M = some (.lst (((r.take j).map missStr).map V.str))) ⟨same_new nM, upd_same⟩ (fun j G2 _ hP => .inl (.inl (hP.1 _ _ (sG _ _ ea)))) ?_ ?_⟩
      · rintro j v G3 G2 hj ⟨s2, e2⟩ ⟨rfl, ev2⟩
        obtain ⟨e, hej, rfl⟩ : ∃ e, r[j]? = some e ∧ v = oV e := by
          rw [List.getElem?_map] at ev2
          cases e : r[j]? with
          | none => rw [e] at ev2; cases ev2
          | some z => rw [e] at ev2; exact ⟨z, rfl, (Option.some.inj ev2).symm⟩
        have hl5 := hok1.1
        have fin : ∃ acc, G2 M = some (HO.lst acc) ∧ acc.length < sizeLine ∧ Same G (upd G2 M (.lst (acc ++ [V.str (missStr e)]))) ∧ (upd G2 M (.lst (acc ++ [V.str (missStr e)]))) M = some (.lst (((r.take (j + 1)).map missStr).map V.str)) := by
          refine ⟨_, e2, ?_, same_at s2 nM, ?_⟩
          · rw [List.length_map, List.length_map, List.length_take, sizeLine_eq]
            omega
          · rw [upd_same, take_more hej, List.map_append, List.map_append]
            rfl
        refine ⟨rfl, _, rfl, rfl, _, rfl, ?_⟩
        cases e with
        | none => exact iteT fin
        | some z =>
          obtain ⟨z0, z5⟩ := hok1.2 _ (List.mem_of_getElem? hej) z rfl
          exact iteF ⟨.int z, rfl, z, rfl, small_log z0 z5, fin⟩
      · rintro G2 ⟨s2, e2⟩
        rw [List.length_map, List.take_length] at e2
        refine ⟨bl1, M, r.map missStr, rfl, rfl, .inl (.inl (.inl e2)), hroom, _, s2 _ _ eL, ?_, same_at (sG.trans s2) nL, ?_⟩
        · rw [List.length_map, List.length_map, List.length_take, sizeLine_eq]
          omega
        · rw [upd_same, take_more hr2, List.map_append, List.map_append]
          rfl
    · rintro G ⟨sG, eL⟩
      rw [hR.len, List.take_length] at eL
      have hb : tot (rs.map fun r => Txt.join bl1 (r.map missStr)) ≤ 330 := by
        have h1 := tot_bound (ls := rs.map fun r => Txt.join bl1 (r.map missStr)) (n := 10) fun l hl => by
          obtain ⟨r, hr3, rfl⟩ := List.mem_map.mp hl
          exact (row_str (hok r hr3)).1
        rw [List.length_map] at h1
        omega
      exact read_nl (i := 1) (k := 4) (show 4 < 5 by decide) rfl eL (by omega) fun z G' hz sz => q z G' (by omega) (sG.trans sz)
end
end E85

/-! _law_bent -/
namespace E85
open PySem PySem.Spec PyProof.Rows L2 TL
def rDash : R2 := fun x y H Q => ∃ n : Int, x = .str "- " ∧ y = .int n ∧ 2 ≤ n ∧ n ≤ 4 ∧ ∀ z : Str, z.length ≤ 8 → Q (.str z) H
theorem op_dash {X : Cx} : OpR X (binaryOp .Mult) rDash := by
  intro pins s σ H x y v u Q I rx ry h
  obtain ⟨n, rfl, rfl, h2, h4, q⟩ := h
  obtain ⟨t, rfl⟩ := rx
  obtain ⟨t', rfl⟩ := ry
  have hn : n = 2 ∨ n = 3 ∨ n = 4 := by omega
  rcases hn with rfl | rfl | rfl <;>
  · refine PySem.P.mul_str (by decide) (fun _ _ => by decide +kernel) (fun _ _ => by decide +kernel) ?_
    rw [if_neg (by decide), if_neg (by decide +kernel)]
    exact ⟨by decide +kernel, ⟨.str _, H, I.tok _, ⟨_, rfl⟩, q _ (by decide +kernel)⟩⟩
theorem num_len {n : Nat} (h : n < 1000000) : (Str.ofString (toString ((n : Nat) : Int))).length ≤ 6 := by
  rw [len_tl, tl_num]
  exact numL_len (k := 6) (by decide) (by omega)
theorem num_log {n : Nat} (h : n < 1000000) : ((n : Nat) : Int).natAbs.log2 < 1920 := by
  rw [Int.natAbs_natCast]
  by_cases h0 : n = 0
  · subst h0
    decide +kernel
  · exact (Nat.log2_lt h0).mpr (Nat.lt_of_lt_of_le h (Nat.le_trans (by decide : 1000000 ≤ 2 ^ 20) (Nat.pow_le_pow_right (by decide) (by decide))))
theorem int_len {i : Int} (h0 : 0 ≤ i) (h : i < 1000000) : (Str.ofString (toString i)).length ≤ 6 := by
  obtain ⟨n, rfl⟩ : ∃ n : Nat, i = n := ⟨i.toNat, by omega⟩
  exact num_len (by omega)
theorem int_log {i : Int} (h0 : 0 ≤ i) (h : i < 1000000) : i.natAbs.log2 < 1920 := by
  obtain ⟨n, rfl⟩ : ∃ n : Nat, i = n := ⟨i.toNat, by omega⟩
  exact num_log (by omega)
theorem cut_take (ws : List Str) (p : Nat) : cutV (ws.map V.str) none (some ((p : Nat) : Int)) = (ws.take p).map V.str := by
  unfold cutV
  rw [HT.sIx_none, HT.sIx_nat, List.drop_zero, Nat.sub_zero, List.length_map, List.map_take, List.take_eq_take_iff]
  rw [List.length_map]
  omega
theorem cut_drop (ws : List Str) (p : Nat) : cutV (ws.map V.str) (some ((p : Nat) : Int)) none = (ws.drop p).map V.str := by
  unfold cutV
  rw [HT.sIx_none, HT.sIx_nat, List.length_map, ← List.map_drop]
  by_cases h : p ≤ ws.length
  · rw [Nat.min_eq_left h]
    exact List.take_of_length_le (by rw [List.length_map, List.length_drop]; omega)
  · rw [Nat.min_eq_right (by omega), List.drop_length, List.drop_eq_nil_of_le (show ws.length ≤ p by omega)]
    exact List.take_nil
theorem cut_drop1 (ws : List Str) (p : Nat) : cutV (ws.map V.str) (some (((p : Nat) : Int) + 1)) none = (ws.drop (p + 1)).map V.str := cut_drop ws (p + 1)
theorem ne_new {H : Hp} {p q : Addr} {o : HO} (n : upd H p o q = none) : p ≠ q := fun e => by
  rw [← e, upd_same] at n
  cases n
theorem nat_of {k : Int} (h : 0 ≤ k) : ∃ i : Nat, k = i := ⟨k.toNat, by omega⟩
theorem drop_le (ls : List Str) (p : Nat) : tot (ls.drop (p + 1)) ≤ tot (ls.drop p) := by
  rw [← List.drop_drop]
  have := tot_take (ls.drop p) 1
  omega
theorem flat_rep (k : Nat) (l : Str) : (List.replicate k [V.str l]).flatten = (List.replicate k l).map V.str := by
  induction k with
  | zero => rfl
  | succ k ih =>
    rw [List.replicate_succ, List.replicate_succ, List.flatten_cons, ih]
    rfl
/-- what stands while a text is bent: the lines at L, the words at W -/
structure BSt (H G : Hp) (d c L W : Addr) (ls ws : List Str) : Prop where
  but : But d H G
  deck : DeckAt G d c
  el : G L = some (.lst (ls.map V.str))
  ew : G W = some (.lst (ws.map V.str))
  hL : H L = none
  nLd : L ≠ d
  nLc : c ≠ L
  nWd : W ≠ d
  nWL : W ≠ L
section
variable {H G : Hp} {d c L W o : Addr} {ls ws ls' : List Str} {u : HO}
theorem BSt.new (b : BSt H G d c L W ls ws) (n : G o = none) : BSt H (upd G o u) d c L W ls ws := by
  obtain ⟨nd, h⟩ := b.but.free b.deck n
  have ncd := b.deck.ne n
  exact ⟨b.but.at h, b.deck.put ncd.1 ncd.2, by rw [upd_ne (ne_of_none b.el n)]; exact b.el, by rw [upd_ne (ne_of_none b.ew n)]; exact b.ew, b.hL, b.nLd, b.nLc, b.nWd, b.nWL⟩
theorem BSt.draw {G' : Hp} (b : BSt H G d c L W ls ws) (k : But d G G') (e : DeckAt G' d c) : BSt H G' d c L W ls ws :=
  ⟨b.but.trans k, e, k _ _ b.nLd b.el, k _ _ b.nWd b.ew, b.hL, b.nLd, b.nLc, b.nWd, b.nWL⟩
theorem BSt.set (b : BSt H G d c L W ls ws) : BSt H (upd G L (.lst (ls'.map V.str))) d c L W ls' ws :=
  ⟨b.but.at b.hL, b.deck.put (Ne.symm b.nLd) b.nLc, upd_same, by rw [upd_ne b.nWL]; exact b.ew, b.hL, b.nLd, b.nLc, b.nWd, b.nWL⟩
end
theorem map_set (ls : List Str) (i : Nat) (b : Str) : (ls.map V.str).set i (.str b) = (ls.set i b).map V.str := by
  rw [List.map_set]
theorem str_at {ls : List Str} {i : Nat} {l : Str} (h : ls[i]? = some l) : atI (ls.map V.str) ((i : Nat) : Int) = some (.str l) := atI_nat (by rw [List.getElem?_map, h]; rfl)
theorem ix_at {n i : Nat} (h : i < n) : ixN n ((i : Nat) : Int) = some i := by
  unfold ixN
  rw [if_pos (by omega), if_pos (by omega)]
  simp
section
variable {P : Program} {w : World} {K : PySem.W.Frag} {mg : Str → Option Value} {base : Heap}
def spBent : Sp := fun vs H Q _ => ∃ (d c : Addr) (m : Int) (z : Str), vs = [.ref d, .int m, .str z] ∧ DeckAt H d c ∧ isInt3 m ∧ z.length ≤ 20000 ∧
  ∀ z' H', z'.length ≤ 40 * (z.length + 20) → But d H H' → DeckAt H' d c → Q (.str z') H'
theorem ok_law_bent {f : Addr} {fd : FuncData} (F : Fun K "_law_bent" "_law_bent" sLawBent f fd) (B : Blt mg) (C : Cal P w K mg base CX0 2 "_law_draw" ["_law_deck_here", "_law_many"] spDraw) : FnOk P w K mg base CX0 3 f fd ["_law_deck_here", "_law_many", "_law_text"] spBent := by
  refine F.ok scLawBent (fun vs H Q E h => ?_) (fun cdv A outer s H vs Q E hr h => ?_)
  · obtain ⟨d, c, m, z, rfl, _⟩ := h
    rfl
  · obtain ⟨d, c, m, z, rfl, hd, h3, hz, q⟩ := h
    refine ⟨_, pss_cons (ps_set (i := 3) scLawBent.nd rfl (.inl rfl) (pe_op op_cat (pe_slice sl_list (pe_split (pv 2) pe_str) po_none (po_some (pe_un un_neg pe_int)))
          (pe_lst (pa_cons (pe_op op_add_str (pe_op op_dash pe_str (pe_op op_sub (pv 1) pe_int)) pe_str) pa_nil))))
      (pss_cons (ps_set (i := 4) scLawBent.nd rfl (.inl rfl) (pe_cal C hr (by rfl) (pa_cons (pv 0) (pa_cons (pe_callB call_len_seq (by rfl) B.len PySem.boot_len (pa_cons (pv 3) pa_nil)) pa_nil))))
      (pss_cons (ps_set (i := 5) scLawBent.nd rfl (.inl rfl) (pe_split (pe_ix ix_list (pv 3) (pv 4) (fun _ _ => rfl)) pe_str))
      (pss_cons (ps_set (i := 6) scLawBent.nd rfl (.inl rfl) (pe_cal C hr (by rfl) (pa_cons (pv 0) (pa_cons (pe_callB call_len_seq (by rfl) B.len PySem.boot_len (pa_cons (pv 5) pa_nil)) pa_nil))))
      (pss_cons (ps_set (i := 7) scLawBent.nd rfl (.inl rfl) (pe_cal C hr (by rfl) (pa_cons (pv 0) (pa_cons pe_int pa_nil))))
      (pss_cons (ps_if (pt_cmpR op_lt (pv 7) pe_int (nomark _))
          (pss_cons (ps_set (i := 8) scLawBent.nd rfl (.inl rfl) (pe_ix ix_list (pe_lst (pa_cons (pe_callTy call_str_int (by rfl) B.str (by decide +kernel) (pa_cons (pv 6) pa_nil)) (pa_cons (pe_callTy call_str_int (by rfl) B.str (by decide +kernel) (pa_cons (pv 1) pa_nil)) (pa_cons pe_str (pa_cons pe_str (pa_cons (pe_callTy call_str_int (by rfl) B.str (by decide +kernel) (pa_cons (pe_cal C hr (by rfl) (pa_cons (pv 0) (pa_cons pe_int pa_nil))) pa_nil)) (pa_cons pe_str pa_nil))))))) (pv 7) (fun _ _ => rfl)))
            (pss_one (ps_asg (pe_join pe_str (pe_op op_cat (pe_op op_cat (pe_slice sl_list (pv 5) po_none (po_some (pv 6))) (pe_lst (pa_cons (pv 8) pa_nil))) (pe_slice sl_list (pv 5) (po_some (pe_op op_add (pv 6) pe_int)) po_none))) (pg_sub (pv 3) (pv 4) set_list))))
        (pss_one (ps_if (pt_cmpR op_eq (pv 7) pe_int (nomark _))
          (pss_one (ps_asg (pe_join pe_str (pe_op op_cat (pv 5) (pe_lst (pa_cons pe_str pa_nil)))) (pg_sub (pv 3) (pv 4) set_list)))
        (pss_one (ps_if (pt_cmpR op_eq (pv 7) pe_int (nomark _))
          (pss_one (ps_asg (pe_join pe_str (pe_slice sl_list (pv 5) po_none (po_some (pe_un un_neg pe_int)))) (pg_sub (pv 3) (pv 4) set_list)))
        (pss_one (ps_if (pt_cmpR op_eq (pv 7) pe_int (nomark _))
          (pss_one (ps_asg (pe_ix ix_list (pe_lst (pa_cons pe_str (pa_cons pe_str (pa_cons (pe_op op_add_str (pe_ix ix_list (pv 3) (pv 4) (fun _ _ => rfl)) pe_str) (pa_cons (pe_op op_add_str pe_str (pe_ix ix_list (pv 3) (pv 4) (fun _ _ => rfl))) (pa_cons pe_str pa_nil)))))) (pe_cal C hr (by rfl) (pa_cons (pv 0) (pa_cons pe_int pa_nil))) (fun _ _ => rfl)) (pg_sub (pv 3) (pv 4) set_list)))
        (pss_one (ps_if (pt_cmpR op_eq (pv 7) pe_int (nomark _))
          (pss_one (ps_set (i := 3) scLawBent.nd rfl (.inl rfl) (pe_op op_cat (pv 3) (pe_op op_rep (pe_lst (pa_cons (pe_ix ix_list (pv 3) (pv 4) (fun _ _ => rfl)) pa_nil)) (pe_cal C hr (by rfl) (pa_cons (pv 0) (pa_cons pe_int pa_nil)))))))
        (pss_one (ps_if (pt_cmpR op_eq (pv 7) pe_int (nomark _))
          (pss_one (ps_ret (pe_op op_add_str (pe_join pe_str (pv 3)) (pe_ix ix_list (pe_lst (pa_cons pe_str (pa_cons pe_str (pa_cons pe_str pa_nil)))) (pe_cal C hr (by rfl) (pa_cons (pv 0) (pa_cons pe_int pa_nil))) (fun _ _ => rfl)))))
        (pss_one (ps_ret (pe_op op_add_str (pv 2) (pe_ix ix_list (pe_lst (pa_cons pe_str (pa_cons pe_str (pa_cons pe_str (pa_cons pe_str pa_nil))))) (pe_cal C hr (by rfl) (pa_cons (pv 0) (pa_cons pe_int pa_nil))) (fun _ _ => rfl))))))))))))))))
      (pss_one (ps_ret (pe_join pe_str (pe_lc (own := [("_law_line", 9)]) (g := gName 9) (tt := tYes) rfl scLawBent.nd (pi_list (pv 3)) (blkOk_by (N := nLawBent) (sc := defScope sLawBent) (by decide +kernel))
          (fun _ _ _ _ _ => pg_name (i := 9) scLawBent.nd rfl (Or.inl rfl)) (fun _ _ _ _ _ => pts_nil) (fun _ _ _ _ _ => pe_op op_add_str (pv 9) pe_str)))))))))), ?_⟩
    obtain ⟨m3, m5⟩ := h3
    obtain ⟨N, eN⟩ : ∃ N, N = z.length := ⟨_, rfl⟩
    rw [← eN] at hz q
    have hfin : ∀ (σ : L2.St) (L' : Addr) (ls' : List Str) (G : Hp), 9 < σ.length → σ[3]? = some (some (.ref L')) → G L' = some (.lst (ls'.map V.str)) → tot ls' ≤ 34 * (N + 12) → But d H G → DeckAt G d c →
        tM1 (rJoin K) (tC (.str "")) (tLc (iList K (tVar 3)) (gName 9) tYes (tOp rAddS (tVar 9) (tC (.str nl1))) [9]) σ G Q := fun σ L' ls' G h9 hs hl ht hb hk =>
      read_nl h9 hs hl (by omega) fun z' G' hz' sG => q z' G' (by omega) (hb.trans (But.of sG)) (hk.same sG)
    -- lines
    have hnl := nl_tot z
    rw [← eN] at hnl
    refine ⟨.str z, rfl, ⟨z, rfl⟩, z, nl1, rfl, rfl, by decide +kernel, by rw [← eN, sizeLine_eq]; omega, fun p0 n0 => ?_⟩
    have hpos0 : 0 < (Txt.split z nl1).length := List.length_pos_iff.mpr (ne_of_tot (nl_tot z))
    have s0 : Same H (upd H p0 (.lst ((Txt.split z nl1).map V.str))) := same_new n0
    refine ⟨1, rfl, -1, rfl, p0, _, rfl, .inl (.inl upd_same), fun p1 n1 => ?_⟩
    have s1 := same_at (o := .lst (cutV ((Txt.split z nl1).map V.str) none (some (-1)))) s0 (s0.free n1)
    refine ⟨.int m, rfl, _, _, rfl, rfl, m - 1, rfl, rfl, by omega, by omega, fun dz hdz => ⟨_, _, rfl, rfl, ?_, by show 1 ≤ sizeLine; decide, fun p2 n2 => ?_⟩⟩
    · have h1 : ("-" : Str).length = 1 := by decide +kernel
      rw [h1, sizeLine_eq]
      omega
    have s2 := same_at (o := .lst [V.str (dz ++ "-")]) s1 (s1.free n2)
    have hn12 := ne_new n2
    refine ⟨p1, p2, _, _, rfl, rfl, by rw [upd_ne hn12]; exact upd_same, upd_same, ?_, fun L nL => ?_⟩
    · rw [cut_last, List.length_dropLast, List.length_map, sizeLine_eq]
      have := tot_len (Txt.split z nl1)
      simp only [List.length_cons, List.length_nil]
      omega
    have hL : H L = none := s2.free nL
    have s3 := same_at (o := .lst (cutV ((Txt.split z nl1).map V.str) none (some (-1)) ++ [V.str (dz ++ "-")])) s2 hL
    obtain ⟨ls, els⟩ : ∃ ls, ls = (Txt.split z nl1).dropLast ++ [dz ++ "-"] := ⟨_, rfl⟩
    have elst : cutV ((Txt.split z nl1).map V.str) none (some (-1)) ++ [V.str (dz ++ "-")] = ls.map V.str := by
      rw [cut_last, els, List.map_append, List.map_dropLast]
      rfl
    have htot : tot ls ≤ N + 11 := by
      have h1 := tot_dropLast (Txt.split z nl1)
      have h2 : ("-" : Str).length = 1 := by decide +kernel
      rw [els, tot_append, tot_cons, tot_nil, len_app, h2]
      omega
    have hlen := tot_len ls
    have hpos : 0 < ls.length := by
      rw [els, List.length_append]
      exact Nat.lt_of_lt_of_le Nat.zero_lt_one (Nat.le_add_left _ _)
    rw [elst] at s3
    show tSeq _ _ _ _ (upd _ L (.lst (cutV ((Txt.split z nl1).map V.str) none (some (-1)) ++ [V.str (dz ++ "-")])))
    rw [elst]
    have e0 : (upd (upd (upd (upd H p0 (.lst ((Txt.split z nl1).map V.str))) p1 (.lst (cutV ((Txt.split z nl1).map V.str) none (some (-1))))) p2 (.lst [V.str (dz ++ "-")])) L (.lst (ls.map V.str))) L = some (.lst (ls.map V.str)) := upd_same
    generalize upd (upd (upd (upd H p0 (.lst ((Txt.split z nl1).map V.str))) p1 (.lst (cutV ((Txt.split z nl1).map V.str) none (some (-1))))) p2 (.lst [V.str (dz ++ "-")])) L (.lst (ls.map V.str)) = G0 at s3 e0 ⊢
    obtain ⟨nLd, nLc⟩ := hd.ne hL
    have dk0 := hd.same s3
    -- at = _law_draw(deck, len(lines))
    refine ⟨.ref d, rfl, .ref L, rfl, L, _, rfl, .inl (.inl (.inl e0)), d, c, _, rfl, dk0, by rw [List.length_map]; omega, by rw [List.length_map]; omega, fun k1 G1 hk1 hk1' dk1 b1 => ?_⟩
    rw [List.length_map] at hk1'
    obtain ⟨i, rfl⟩ := nat_of hk1
    have hi : i < ls.length := by omega
    obtain ⟨l, hl⟩ : ∃ l, ls[i]? = some l := ⟨_, List.getElem?_eq_getElem hi⟩
    have hll := tot_mem (List.mem_of_getElem? hl)
    have e1 := b1 L _ (Ne.symm nLd) e0
    have bb1 : But d H G1 := (But.of s3).trans b1
    -- words
    refine ⟨.ref L, rfl, .int (i : Nat), rfl, L, _, _, .str l, rfl, rfl, .inl (.inl e1), str_at hl, ⟨l, rfl⟩, l, bl1, rfl, rfl, by decide +kernel, by rw [sizeLine_eq]; omega, fun W nW => ?_⟩
    have hbl := bl_tot l
    obtain ⟨ws, ews⟩ : ∃ ws, ws = Txt.split l bl1 := ⟨_, rfl⟩
    rw [← ews] at hbl
    have hwlen := tot_len ws
    have hwpos : 0 < ws.length := List.length_pos_iff.mpr (ne_of_tot hbl)
    obtain ⟨nWd, HW⟩ := bb1.free dk1 nW
    have ncW := dk1.ne nW
    have nWL : W ≠ L := fun e => by
      rw [e, e1] at nW
      cases nW
    rw [← ews]
    have st2 : BSt H (upd G1 W (.lst (ws.map V.str))) d c L W ls ws := ⟨bb1.at HW, dk1.put ncW.1 ncW.2, by rw [upd_ne (Ne.symm nWL)]; exact e1, upd_same, hL, Ne.symm nLd, nLc, nWd, nWL⟩
    generalize upd G1 W (.lst (ws.map V.str)) = G2 at st2 ⊢
    -- place
    refine ⟨.ref d, rfl, .ref W, rfl, W, _, rfl, .inl (.inl (.inl st2.ew)), d, c, _, rfl, st2.deck, by rw [List.length_map]; omega, by rw [List.length_map]; omega, fun k3 G3 hk3 hk3' dk3 b3 => ?_⟩
    rw [List.length_map] at hk3'
    obtain ⟨pl, rfl⟩ := nat_of hk3
    have hpl : pl < ws.length := by omega
    have st3 := st2.draw b3 dk3
    -- kind
    refine ⟨.ref d, rfl, d, c, 12, rfl, dk3, by decide, by decide, fun kd G hkd hkd' dkG bG => ?_⟩
    have st := st3.draw bG dkG
    clear st2 st3
    -- a line is written back
    have put : ∀ (b : Str) (G' : Hp) (σ : L2.St), b.length ≤ l.length + 20 → BSt H G' d c L W ls ws → 9 < σ.length → σ[3]? = some (some (.ref L)) →
        tM1 (rJoin K) (tC (.str "")) (tLc (iList K (tVar 3)) (gName 9) tYes (tOp rAddS (tVar 9) (tC (.str nl1))) [9]) σ (upd G' L (.lst ((ls.map V.str).set i (.str b)))) Q := fun b G' σ hb sb h9 hσ => by
      have st' := sb.set (ls' := ls.set i b)
      have ht := tot_set (b := b) hl
      rw [map_set]
      exact hfin σ L (ls.set i b) _ h9 hσ st'.el (by omega) st'.but st'.deck
    have hbl1 : bl1.length = 1 := by decide +kernel
    have len1 : ∀ ys : List Str, tot ys ≤ 2000000 → (ys.map (·.length)).sum + ys.length * bl1.length ≤ 16777216 := fun ys h => join_room (by omega) h (by omega)
    refine ⟨.int kd, rfl, _, _, rfl, rfl, _, rfl, ite2 (fun c1 => ?_) (fun c1 => ?_)⟩
    · -- another word in that place
      have c1 : kd < 6 := of_decide_eq_true c1
      refine ⟨.int (pl : Nat), rfl, _, rfl, int_log (by omega) (by omega), .int m, rfl, _, rfl, int_log (by omega) (by omega), .ref d, rfl, d, c, 12, rfl, dkG, by decide, by decide, fun k5 G5 h50 h51 dk5 b5 =>
        ⟨_, rfl, int_log (by omega) (by omega), by show 6 ≤ sizeLine; decide, fun wl nwl => ?_⟩⟩
      have st6 := (st.draw b5 dk5).new (u := .lst [V.str (toString ((pl : Nat) : Int)), .str (toString m), .str "00", .str "--", .str (toString k5), .str ""]) nwl
      obtain ⟨wd, hat, hwd⟩ : ∃ wd : Str, atI [V.str (toString ((pl : Nat) : Int)), .str (toString m), .str "00", .str "--", .str (toString k5), .str ""] kd = some (.str wd) ∧ wd.length ≤ 6 := by
        have h6 : kd = 0 ∨ kd = 1 ∨ kd = 2 ∨ kd = 3 ∨ kd = 4 ∨ kd = 5 := by omega
        rcases h6 with rfl | rfl | rfl | rfl | rfl | rfl
        · exact ⟨_, rfl, int_len (by omega) (by omega)⟩
        · exact ⟨_, rfl, int_len (by omega) (by omega)⟩
        · exact ⟨_, rfl, by decide +kernel⟩
        · exact ⟨_, rfl, by decide +kernel⟩
        · exact ⟨_, rfl, int_len (by omega) (by omega)⟩
        · exact ⟨_, rfl, by decide +kernel⟩
      refine ⟨.int kd, rfl, wl, _, _, _, rfl, rfl, .inl (.inl upd_same), hat, ?_⟩
      generalize upd G5 wl (.lst [V.str (toString ((pl : Nat) : Int)), .str (toString m), .str "00", .str "--", .str (toString k5), .str ""]) = G6 at st6 ⊢
      have ht1 := tot_take ws pl
      have ht2 := drop_le ws pl
      have hys : tot (ws.take pl ++ [wd] ++ ws.drop (pl + 1)) ≤ l.length + 20 := by
        rw [tot_append, tot_append, tot_cons, tot_nil]
        omega
      refine ⟨⟨_, rfl⟩, .ref W, rfl, .int (pl : Nat), rfl, _, rfl, W, _, rfl, .inl (.inl st6.ew), fun a1 n1 => ?_⟩
      refine ⟨.str wd, rfl, by show 1 ≤ sizeLine; decide, fun a2 n2 => ?_⟩
      refine ⟨a1, a2, _, _, rfl, rfl, by rw [upd_ne (ne_new n2)]; exact upd_same, upd_same, ?_, fun a3 n3 => ?_⟩
      · rw [cut_take, List.length_map, List.length_take, sizeLine_eq]
        simp only [List.length_cons, List.length_nil]
        omega
      refine ⟨.ref W, rfl, .int (pl : Nat), rfl, _, _, rfl, rfl, _, rfl, W, _, rfl, .inl (.inl (((st6.new n1).new n2).new n3).ew), fun a4 n4 => ?_⟩
      refine ⟨a3, a4, _, _, rfl, rfl, by rw [upd_ne (ne_new n4)]; exact upd_same, upd_same, ?_, fun a5 n5 => ?_⟩
      · rw [cut_take, cut_drop1, List.length_append, List.length_map, List.length_map, List.length_take, List.length_drop, sizeLine_eq]
        simp only [List.length_cons, List.length_nil]
        omega
      refine ⟨bl1, a5, ws.take pl ++ [wd] ++ ws.drop (pl + 1), rfl, rfl, .inl (.inl (.inl ?_)), len1 _ (by omega), .ref L, rfl, .int (i : Nat), rfl, L, _, _, i, rfl, rfl, (((((st6.new n1).new n2).new n3).new n4).new n5).el, by rw [List.length_map]; exact ix_at hi, ?_⟩
      · rw [upd_same, cut_take, cut_drop1, List.map_append, List.map_append]
        rfl
      · exact put _ _ _ (Nat.le_trans (join_one (by omega) _) hys) (((((st6.new n1).new n2).new n3).new n4).new n5) (show 9 < 10 by decide) rfl
    refine ⟨.int kd, rfl, rfl, _, rfl, ite2 (fun c2 => ?_) (fun c2 => ?_)⟩
    · -- one word more
      have hys : tot (ws ++ [("-" : Str)]) ≤ l.length + 20 := by
        have h1 : ("-" : Str).length = 1 := by decide +kernel
        rw [tot_append, tot_cons, tot_nil]
        omega
      refine ⟨⟨_, rfl⟩, .ref W, rfl, by show 1 ≤ sizeLine; decide, fun a1 n1 => ?_⟩
      refine ⟨W, a1, _, _, rfl, rfl, (st.new n1).ew, upd_same, ?_, fun a2 n2 => ?_⟩
      · rw [List.length_map, sizeLine_eq]
        simp only [List.length_cons, List.length_nil]
        omega
      refine ⟨bl1, a2, ws ++ [("-" : Str)], rfl, rfl, .inl (.inl (.inl ?_)), len1 _ (by omega), .ref L, rfl, .int (i : Nat), rfl, L, _, _, i, rfl, rfl, ((st.new n1).new n2).el, by rw [List.length_map]; exact ix_at hi, ?_⟩
      · rw [upd_same, List.map_append]
        rfl
      · exact put _ _ _ (Nat.le_trans (join_one (by omega) _) hys) ((st.new n1).new n2) (show 9 < 10 by decide) rfl
    refine ⟨.int kd, rfl, rfl, _, rfl, ite2 (fun c3 => ?_) (fun c3 => ?_)⟩
    · -- one word less
      have hys : tot ws.dropLast ≤ l.length + 20 := by
        have := tot_dropLast ws
        omega
      refine ⟨⟨_, rfl⟩, .ref W, rfl, 1, rfl, -1, rfl, W, _, rfl, .inl (.inl st.ew), fun a1 n1 => ?_⟩
      refine ⟨bl1, a1, ws.dropLast, rfl, rfl, .inl (.inl (.inl ?_)), len1 _ (by omega), .ref L, rfl, .int (i : Nat), rfl, L, _, _, i, rfl, rfl, (st.new n1).el, by rw [List.length_map]; exact ix_at hi, ?_⟩
      · rw [upd_same]
        show some (HO.lst (cutV (ws.map V.str) none (some (-1)))) = _
        rw [cut_last, List.map_dropLast]
      · exact put _ _ _ (Nat.le_trans (join_one (by omega) _) hys) (st.new n1) (show 9 < 10 by decide) rfl
    refine ⟨.int kd, rfl, rfl, _, rfl, ite2 (fun c4 => ?_) (fun c4 => ?_)⟩
    · -- another line
      have hb1 : (" " : Str).length = 1 := by decide +kernel
      refine ⟨.ref L, rfl, .int (i : Nat), rfl, L, _, _, .str l, rfl, rfl, .inl (.inl st.el), str_at hl, l, " ", rfl, rfl, by rw [hb1, sizeLine_eq]; omega, .ref L, rfl, .int (i : Nat), rfl, L, _, _, .str l, rfl, rfl, .inl (.inl st.el), str_at hl, " ", l, rfl, rfl, by rw [hb1, sizeLine_eq]; omega,
        by show 5 ≤ sizeLine; decide, fun wl nwl => ?_⟩
      have st6 := st.new (u := .lst [V.str "", .str " ", .str (l ++ " "), .str (" " ++ l), .str "x"]) nwl
      obtain ⟨nwd, _⟩ := st.but.free st.deck nwl
      refine ⟨.ref d, rfl, d, c, 5, rfl, st6.deck, by decide, by decide, fun k5 G5 h50 h51 dk5 b5 => ?_⟩
      obtain ⟨wd, hat, hwd⟩ : ∃ wd : Str, atI [V.str "", .str " ", .str (l ++ " "), .str (" " ++ l), .str "x"] k5 = some (.str wd) ∧ wd.length ≤ l.length + 20 := by
        have h5 : k5 = 0 ∨ k5 = 1 ∨ k5 = 2 ∨ k5 = 3 ∨ k5 = 4 := by omega
        rcases h5 with rfl | rfl | rfl | rfl | rfl
        · exact ⟨_, rfl, Nat.zero_le _⟩
        · exact ⟨_, rfl, by omega⟩
        · exact ⟨_, rfl, by rw [len_app]; omega⟩
        · exact ⟨_, rfl, by rw [len_app]; omega⟩
        · exact ⟨_, rfl, by have h1 : ("x" : Str).length = 1 := by decide +kernel
                            omega⟩
      refine ⟨wl, _, _, _, rfl, rfl, .inl (.inl (b5 wl _ nwd upd_same)), hat, .ref L, rfl, .int (i : Nat), rfl, L, _, _, i, rfl, rfl, (st6.draw b5 dk5).el, by rw [List.length_map]; exact ix_at hi, ?_⟩
      exact put _ _ _ hwd (st6.draw b5 dk5) (show 9 < 10 by decide) rfl
    refine ⟨.int kd, rfl, rfl, _, rfl, ite2 (fun c5 => ?_) (fun c5 => ?_)⟩
    · -- a line many times more
      refine ⟨.ref L, rfl, .ref L, rfl, .int (i : Nat), rfl, L, _, _, .str l, rfl, rfl, .inl (.inl st.el), str_at hl, by show 1 ≤ sizeLine; decide, fun a1 n1 => ?_⟩
      have st6 := st.new (u := .lst [V.str l]) n1
      obtain ⟨n1d, _⟩ := st.but.free st.deck n1
      refine ⟨.ref d, rfl, d, c, 33, rfl, st6.deck, by decide, by decide, fun k5 G5 h50 h51 dk5 b5 => ?_⟩
      have st7 := st6.draw b5 dk5
      refine ⟨a1, k5, _, rfl, rfl, b5 a1 _ n1d upd_same, by omega, by omega, ?_, fun a2 n2 => ?_⟩
      · rw [sizeLine_eq]
        simp only [List.length_cons, List.length_nil]
        omega
      refine ⟨L, a2, _, _, rfl, rfl, (st7.new n2).el, upd_same, ?_, fun a3 n3 => ?_⟩
      · rw [flat_rep, List.length_map, List.length_map, List.length_replicate, sizeLine_eq]
        omega
      have st9 := (st7.new (u := .lst (List.replicate k5.toNat [V.str l]).flatten) n2).new (u := .lst (ls.map V.str ++ (List.replicate k5.toNat [V.str l]).flatten)) n3
      refine hfin _ a3 (ls ++ List.replicate k5.toNat l) _ (show 9 < 10 by decide) rfl ?_ ?_ st9.but st9.deck
      · rw [upd_same, flat_rep, List.map_append]
      · rw [tot_append, tot_rep]
        have h1 : k5.toNat * (l.length + 1) ≤ 32 * (l.length + 1) := Nat.mul_le_mul_right _ (by omega)
        omega
    refine ⟨.int kd, rfl, rfl, _, rfl, ite2 (fun c6 => ?_) (fun c6 => ?_)⟩
    · -- no line feed at the end
      have hn1 : nl1.length = 1 := by decide +kernel
      have hj := join_one (y := nl1) (by omega) ls
      refine ⟨⟨_, rfl⟩, .ref L, rfl, nl1, L, ls, rfl, rfl, .inl (.inl (.inl st.el)), join_room (by omega) htot (by omega), by show 3 ≤ sizeLine; decide, fun wl nwl => ?_⟩
      have st6 := st.new (u := .lst [V.str "", .str "x", .str "-"]) nwl
      obtain ⟨nwd, _⟩ := st.but.free st.deck nwl
      refine ⟨.ref d, rfl, d, c, 3, rfl, st6.deck, by decide, by decide, fun k5 G5 h50 h51 dk5 b5 => ?_⟩
      obtain ⟨wd, hat, hwd⟩ : ∃ wd : Str, atI [V.str "", .str "x", .str "-"] k5 = some (.str wd) ∧ wd.length ≤ 1 := by
        have h5 : k5 = 0 ∨ k5 = 1 ∨ k5 = 2 := by omega
        rcases h5 with rfl | rfl | rfl <;> exact ⟨_, rfl, by decide +kernel⟩
      have st7 := st6.draw b5 dk5
      refine ⟨wl, _, _, _, rfl, rfl, .inl (.inl (b5 wl _ nwd upd_same)), hat, _, wd, rfl, rfl, ?_, q _ _ ?_ st7.but st7.deck⟩
      · rw [sizeLine_eq]
        omega
      · rw [len_app]
        omega
    · -- something behind it
      refine ⟨.str z, rfl, by show 4 ≤ sizeLine; decide, fun wl nwl => ?_⟩
      have st6 := st.new (u := .lst [V.str "", .str " ", .str "-", .str "\n"]) nwl
      obtain ⟨nwd, _⟩ := st.but.free st.deck nwl
      refine ⟨.ref d, rfl, d, c, 4, rfl, st6.deck, by decide, by decide, fun k5 G5 h50 h51 dk5 b5 => ?_⟩
      obtain ⟨wd, hat, hwd⟩ : ∃ wd : Str, atI [V.str "", .str " ", .str "-", .str "\n"] k5 = some (.str wd) ∧ wd.length ≤ 1 := by
        have h5 : k5 = 0 ∨ k5 = 1 ∨ k5 = 2 ∨ k5 = 3 := by omega
        rcases h5 with rfl | rfl | rfl | rfl <;> exact ⟨_, rfl, by decide +kernel⟩
      have st7 := st6.draw b5 dk5
      refine ⟨wl, _, _, _, rfl, rfl, .inl (.inl (b5 wl _ nwd upd_same)), hat, z, wd, rfl, rfl, ?_, q _ _ ?_ st7.but st7.deck⟩
      · rw [← eN, sizeLine_eq]
        omega
      · rw [len_app, ← eN]
        omega
end
end E85

/-! law -/
namespace E85
open PySem PySem.Spec PyProof.Rows L2 TL
theorem rowL_small {m : Int} {ws : List Str} {row : Row} (h : rowL m ws = some row) (hm : m ≤ 5) : row.length ≤ 5 := by
  unfold rowL at h
  by_cases c : (ws.length : Int) = m
  · rw [if_pos c] at h
    have := goL_len h
    omega
  · rw [if_neg c] at h
    cases h
theorem goR_small {m : Int} (hm : m ≤ 5) : ∀ {ls : List Str} {i : Nat} {rs : List Row}, goR m i ls = .told rs → rs.length = ls.length ∧ ∀ r ∈ rs, r.length ≤ 5
  | [], i, rs, h => by
    have e : [] = rs := by injection h
    rw [← e]
    exact ⟨rfl, fun r hr => by cases hr⟩
  | l :: ls, i, rs, h => by
    unfold goR at h
    cases e1 : rowL m (Txt.split l bl1) with
    | none => rw [e1] at h; cases h
    | some row =>
      rw [e1] at h
      have h : (if 30 ≤ i then Out.bad (i + 1) else match goR m (i + 1) ls with
        | .bad k => .bad k
        | .told rs => .told (row :: rs)) = .told rs := h
      by_cases c : 30 ≤ i
      · rw [if_pos c] at h
        cases h
      · rw [if_neg c] at h
        cases e2 : goR m (i + 1) ls with
        | bad k => rw [e2] at h; cases h
        | told rs' =>
          rw [e2] at h
          have e3 : row :: rs' = rs := by injection h
          obtain ⟨h1, h2⟩ := goR_small hm e2
          rw [← e3]
          refine ⟨by rw [List.length_cons, List.length_cons, h1], fun r hr => ?_⟩
          rcases List.mem_cons.mp hr with rfl | hr
          · exact rowL_small e1 hm
          · exact h2 r hr
theorem read_small {m : Int} {z : Str} {rs : List Row} (hm : m ≤ 5) (hz : z.length ≤ 1000000) (h : readL m z = .told rs) : rs.length ≤ 2000000 ∧ ∀ r ∈ rs, r.length ≤ 5 := by
  unfold readL at h
  cases e : goR m 0 (Txt.split z nl1).dropLast with
  | bad k => rw [e] at h; cases h
  | told rs' =>
    rw [e] at h
    have h : (if (Txt.split z nl1).getLast? = some ("" : Str) then Out.told rs' else .bad ((Txt.split z nl1).length : Int)) = .told rs := h
    by_cases c : (Txt.split z nl1).getLast? = some ("" : Str)
    · rw [if_pos c] at h
      have e3 : rs' = rs := by injection h
      obtain ⟨h1, h2⟩ := goR_small hm e
      rw [← e3]
      refine ⟨?_, h2⟩
      rw [h1, List.length_dropLast]
      have := (tot_items (nl_tot z)).1
      omega
    · rw [if_neg c] at h
      cases h
theorem flat_row : ∀ (r : Row) (i : Nat) (u v : V), (r.map oV)[i]? = some u → (r.map oV)[i]? = some v → Flat u v ∨ Deep 0 H0 u v := fun r i u v hu hv => by
  rw [hu] at hv
  have e := Option.some.inj hv
  subst e
  refine .inl ⟨rfl, ?_⟩
  rw [List.getElem?_map] at hu
  cases h : r[i]? with
  | none => rw [h] at hu; cases hu
  | some o =>
    rw [h] at hu
    have e2 := Option.some.inj hu
    rw [← e2]
    cases o with
    | none => exact .inl rfl
    | some k => exact .inr (.inl ⟨k, rfl⟩)
/-- two that read the same -/
theorem out_alike {H : Hp} {t t' : Addr} {o : Out} (h : OutAt H t o) (h' : OutAt H t' o) (hs : ∀ rs, o = .told rs → rs.length ≤ 2000000 ∧ ∀ r ∈ rs, r.length ≤ 5) : Alike 3 H (.ref t) (.ref t') := by
  refine .inr ?_
  cases o with
  | bad k =>
    refine ⟨t, t', _, _, rfl, rfl, h, h', rfl, by simp only [List.length_cons, List.length_nil]; omega, fun i u v hu hv => .inl ?_⟩
    rw [hu] at hv
    have e := Option.some.inj hv
    subst e
    match i, hu with
    | 0, hu => exact ⟨rfl, .inr (.inr ⟨_, (Option.some.inj hu).symm⟩)⟩
    | 1, hu => exact ⟨rfl, .inr (.inl ⟨_, (Option.some.inj hu).symm⟩)⟩
    | i + 2, hu => simp at hu
  | told rs =>
    obtain ⟨p, e1, xs, ep, hR⟩ := h
    obtain ⟨p', e1', xs', ep', hR'⟩ := h'
    obtain ⟨hs1, hs2⟩ := hs rs rfl
    refine ⟨t, t', _, _, rfl, rfl, e1, e1', rfl, by simp only [List.length_cons, List.length_nil]; omega, fun i u v hu hv => ?_⟩
    match i, hu, hv with
    | 0, hu, hv =>
      have a := Option.some.inj hu
      have b := Option.some.inj hv
      rw [← a, ← b]
      exact .inl ⟨rfl, .inr (.inr ⟨_, rfl⟩)⟩
    | 1, hu, hv =>
      have a := Option.some.inj hu
      have b := Option.some.inj hv
      rw [← a, ← b]
      refine .inr ⟨p, p', xs, xs', rfl, rfl, ep, ep', hR.len.trans hR'.len.symm, by rw [hR.len]; exact hs1, fun j u v hu hv => ?_⟩
      obtain ⟨a1, r1, rfl, ea1, er1⟩ := hR.get hu
      obtain ⟨a2, r2, rfl, ea2, er2⟩ := hR'.get hv
      rw [er1] at er2
      have er := Option.some.inj er2
      subst er
      have hr5 := hs2 r1 (List.mem_of_getElem? er1)
      exact .inr ⟨a1, a2, _, _, rfl, rfl, ea1, ea2, rfl, by rw [List.length_map]; omega, fun k u v hu hv => flat_row r1 k u v hu hv⟩
    | i + 2, hu, hv => simp at hu
theorem Fit.but {H H' : Hp} {d : Addr} {x : V} {n : String} (f : Fit H x n) (h : ∀ a, x = .ref a → a ≠ d) (b : But d H H') : Fit H' x n := by
  cases f with
  | non => exact .non
  | bl b => exact .bl b
  | int i => exact .int i
  | str z => exact .str z
  | lst e => exact .lst (b _ _ (h _ rfl) e)
  | tup e => exact .tup (b _ _ (h _ rfl) e)
  | dK e => exact .dK (b _ _ (h _ rfl) e)
theorem deck_but {G : Hp} {d c o : Addr} {u : HO} (h : DeckAt G d c) (n : G o = none) : DeckAt (upd G o u) d c := h.put (h.ne n).1 (h.ne n).2
def pdText : PyData := .tuple [.str "text", .int 0]
def pdNum : PyData := .tuple [.str "number"]
theorem pd_text : SeqAt.shaped pdText = true ∧ PyData.eqv pdText pdText = true := by decide +kernel
theorem pd_num : SeqAt.shaped pdNum = true ∧ PyData.eqv pdNum pdNum = true := by decide +kernel
theorem dp_text {K : PySem.W.Frag} {H : Hp} {t : Addr} (h : H t = some (.tup [.str "text", .int 0])) : Dp K H (.ref t) pdText := .tup (.inl (.inl h)) (.cons (.str _) (.cons (.int _) .nil))
theorem dp_num {K : PySem.W.Frag} {H : Hp} {t : Addr} (h : H t = some (.tup [.str "number"])) : Dp K H (.ref t) pdNum := .tup (.inl (.inl h)) (.cons (.str _) .nil)
section
variable {P : Program} {w : World} {K : PySem.W.Frag} {mg : Str → Option Value} {base : Heap}
def forBody : Stmt → List Stmt
  | .For _ _ b _ _ => b
  | _ => []
theorem out_same {H H' : Hp} {t : Addr} {o : Out} (h : OutAt H t o) (s : Same H H') : OutAt H' t o := by
  cases o with
  | bad k => exact s _ _ h
  | told rs =>
    obtain ⟨p, e, hp⟩ := h
    exact ⟨p, s _ _ e, hp.same s⟩
def spLaw (K : PySem.W.Frag) : Sp := fun vs H Q _ => ∃ (a : Addr) (ns : List Int), vs = [.ref a] ∧ SqL K H a (ns.map V.int) ∧ ∀ H', Q (.bl true) H'
theorem ok_law {f : Addr} {fd : FuncData} (F : Fun K "law" "law" sLaw f fd) (B : Blt mg) (CD : Cal P w K mg base CX0 5 "_law_deck" ["_law_script"] (spDeck K)) (CW : Cal P w K mg base CX0 5 "_law_draw" ["_law_deck_here", "_law_many"] spDraw)
    (CP : Cal P w K mg base CX0 5 "_law_pattern" ["_law_deck_here", "_law_many"] spPat) (CX : Cal P w K mg base CX0 5 "_law_pattern_text" ["_law_pattern_here"] spPTxt) (CB : Cal P w K mg base CX0 5 "_law_bent" ["_law_deck_here", "_law_many", "_law_text"] spBent)
    (CT : Cal P w K mg base CX0 5 "_law_told" ["_law_many", "_law_text"] spTold) (CR : Cal P w K mg base CX0 5 "_law_read" ["_law_many", "_law_text"] spLRead) (CS : Cal P w K mg base CX0 5 "_law_same" ["_law_one", "_law_other"] (spSame 3)) :
    FnOk P w K mg base CX0 6 f fd ["_law_script"] (spLaw K) := by
  refine F.ok scLaw (fun vs H Q E h => ?_) (fun cdv A outer s H vs Q E hr h => ?_)
  · obtain ⟨a, ns, rfl, _⟩ := h
    rfl
  · obtain ⟨a, ns, rfl, hS, q⟩ := h
    -- the tests of one turn
    obtain ⟨tR, hR, rR⟩ : ∃ tR, PSs (cxOf CX0 P w K mg base nLaw "law" (defScope sLaw) f cdv A outer s H E).nox ((forBody ((defBody sLaw).getD 3 (.Pass ⟨0, 0, 0, 0⟩))).drop 2) tR ∧
        ∀ (D : Ends) (d c : Addr) (m : Int) (tx bz : Str) (v4 y6 : Option V) (G : Hp), DeckAt G d c → isInt3 m → bz.length ≤ 1000000 →
          (∀ y6' G', DeckAt G' d c → D.nx [some (.ref a), some (.ref d), some (.int m), some (.str tx), v4, some (.str bz), y6', none, none] G') → tR D [some (.ref a), some (.ref d), some (.int m), some (.str tx), v4, some (.str bz), y6, none, none] G := by
      refine ⟨_, pss_cons (ps_if (pt_not (pt_val (pe_cal CS hr (by rfl) (pa_cons (pe_cal CT hr (by rfl) (pa_cons (pv 2) (pa_cons (pv 5) pa_nil))) (pa_cons (pe_cal CR hr (by rfl) (pa_cons (pv 2) (pa_cons (pv 5) pa_nil))) pa_nil))))) (pss_one (ps_ret pe_bl)) pss_nil)
        (pss_cons (ps_set (i := 6) scLaw.nd rfl (.inl rfl) (pe_op op_add pe_int (pe_cal CW hr (by rfl) (pa_cons (pv 1) (pa_cons pe_int pa_nil)))))
        (pss_one (ps_if (pt_not (pt_val (pe_cal CS hr (by rfl) (pa_cons (pe_cal CT hr (by rfl) (pa_cons (pv 6) (pa_cons (pv 5) pa_nil))) (pa_cons (pe_cal CR hr (by rfl) (pa_cons (pv 6) (pa_cons (pv 5) pa_nil))) pa_nil))))) (pss_one (ps_ret pe_bl)) pss_nil))), ?_⟩
      intro D d c m tx bz v4 y6 G dk h3 hb hD
      have noMany : ∀ {m : Int}, isInt3 m → isMany (.int m) = false → False := fun h e => by
        rw [many_int.mpr h] at e
        cases e
      refine ⟨.int m, rfl, .str bz, rfl, .int m, .str bz, _, _, rfl, .int m, .str bz, fun e => (noMany h3 e).elim, fun _ e => Bool.noConfusion e, fun m' z' em ez _ => ?_⟩
      obtain rfl := V.int.inj em
      obtain rfl := V.str.inj ez
      refine ⟨hb, fun G1 t s1 ho => ⟨.int m, rfl, .str bz, rfl, m, bz, rfl, h3, hb, fun G2 t' s2 ho' => ⟨_, _, rfl, out_alike (out_same ho s2) ho' (fun rs e => read_small h3.2 hb e), fun G3 s3 => ⟨true, rfl, iteF ?_⟩⟩⟩⟩
      have dk3 := ((dk.same s1).same s2).same s3
      refine ⟨.ref d, rfl, d, c, 3, rfl, dk3, by decide, by decide, fun k G4 hk0 hk3 dk4 b4 => ⟨_, _, rfl, rfl, ?_⟩⟩
      have h3' : isInt3 (3 + k) := ⟨by omega, by omega⟩
      refine ⟨_, rfl, .str bz, rfl, .int (3 + k), .str bz, _, _, rfl, .int _, .str bz, fun e => (noMany h3' e).elim, fun _ e => Bool.noConfusion e, fun m' z' em ez _ => ?_⟩
      obtain rfl := V.int.inj em
      obtain rfl := V.str.inj ez
      refine ⟨hb, fun G5 t5 s5 ho5 => ⟨_, rfl, .str bz, rfl, 3 + k, bz, rfl, h3', hb, fun G6 t6 s6 ho6 => ⟨_, _, rfl, out_alike (out_same ho5 s6) ho6 (fun rs e => read_small h3'.2 hb e), fun G7 s7 => ⟨true, rfl, iteF ?_⟩⟩⟩⟩
      exact hD _ _ (((dk4.same s5).same s6).same s7)
    refine ⟨_, pss_cons (ps_set (i := 1) scLaw.nd rfl (.inl rfl) (pe_cal CD hr (by rfl) (pa_cons (pv 0) pa_nil)))
      (pss_cons (ps_set (i := 2) scLaw.nd rfl (.inl rfl) (pe_op op_add pe_int (pe_cal CW hr (by rfl) (pa_cons (pv 1) (pa_cons pe_int pa_nil)))))
      (pss_cons (ps_set (i := 3) scLaw.nd rfl (.inl rfl) (pe_cal CX hr (by rfl) (pa_cons (pe_cal CP hr (by rfl) (pa_cons (pv 1) (pa_cons (pv 2) pa_nil))) pa_nil)))
      (pss_cons (ps_for PassesOwn.never rfl (pi_range1 rfl B.range (pa_cons pe_int pa_nil)) (pg_name (i := 4) scLaw.nd rfl (.inl rfl))
        (pss_cons (ps_set (i := 5) scLaw.nd rfl (.inl rfl) (pe_cal CB hr (by rfl) (pa_cons (pv 1) (pa_cons (pv 2) (pa_cons (pv 3) pa_nil)))))
        (pss_cons (ps_if (pt_cmpR op_eq (pe_cal CW hr (by rfl) (pa_cons (pv 1) (pa_cons pe_int pa_nil))) pe_int (nomark _))
          (pss_one (ps_set (i := 5) scLaw.nd rfl (.inl rfl) (pe_cal CB hr (by rfl) (pa_cons (pv 1) (pa_cons (pv 2) (pa_cons (pv 5) pa_nil)))))) pss_nil) hR)))
      (pss_cons (ps_set (i := 7) scLaw.nd rfl (.inl rfl) (pe_ix ix_list (pe_lst (pa_cons pe_non (pa_cons pe_int (pa_cons pe_bl (pa_cons (pe_lst pa_nil) (pa_cons (pe_tup (pa_cons (pv 3) pa_nil)) (pa_cons pe_dnewK pa_nil)))))))
          (pe_cal CW hr (by rfl) (pa_cons (pv 1) (pa_cons pe_int pa_nil))) (fun _ _ => rfl)))
      (pss_cons (ps_set (i := 8) scLaw.nd rfl (.inl rfl) (pe_ix ix_list (pe_lst (pa_cons pe_int (pa_cons pe_int (pa_cons pe_bl (pa_cons pe_non (pa_cons pe_str (pa_cons (pe_tup (pa_cons pe_int pa_nil)) (pa_cons (pe_un un_neg pe_int) (pa_cons (pe_op op_pow pe_int pe_int) pa_nil)))))))))
          (pe_cal CW hr (by rfl) (pa_cons (pv 1) (pa_cons pe_int pa_nil))) (fun _ _ => rfl)))
      (pss_cons (ps_if (PW.pt (pw_or (pt_cmpR (op_neD hr.units) (pe_cal CT hr (by rfl) (pa_cons (pv 2) (pa_cons (pv 7) pa_nil))) (pe_tup (pa_cons pe_str (pa_cons pe_int pa_nil))) (nomark _))
          (pw_or1 (pt_cmpR (op_neD hr.units) (pe_cal CT hr (by rfl) (pa_cons (pv 8) (pa_cons (pv 3) pa_nil))) (pe_tup (pa_cons pe_str pa_nil)) (nomark _))))) (pss_one (ps_ret pe_bl)) pss_nil)
      (pss_one (ps_ret (pe_cmpR (op_eqD hr.units) (pe_cal CT hr (by rfl) (pa_cons (pv 8) (pa_cons (pv 7) pa_nil))) (pe_tup (pa_cons pe_str pa_nil)) (nomark _)))))))))), ?_⟩
    refine ⟨.ref a, rfl, a, ns, rfl, hS, fun H1 d c s1 nd nc dk1 => ?_⟩
    refine ⟨.ref d, rfl, d, c, 3, rfl, dk1, by decide, by decide, fun k1 H2 hk0 hk3 dk2 b2 => ⟨_, _, rfl, rfl, ?_⟩⟩
    have h3 : isInt3 (3 + k1) := ⟨by omega, by omega⟩
    refine ⟨.ref d, rfl, .int (3 + k1), rfl, d, c, 3 + k1, rfl, dk2, h3, fun H3 p rs b3 dk3 hp h30 hok => ⟨p, rs, rfl, hp, h30, hok, fun tx H4 htx s4 => ?_⟩⟩
    have dk4 := dk3.same s4
    refine ⟨4, rfl, by decide, by decide, for_it (walk_range (lo := 0) (n := (4 : Int).toNat)) (fun i σ G => ∃ y4 y5 y6, σ = [some (V.ref a), some (.ref d), some (.int (3 + k1)), some (.str tx), y4, y5, y6, none, none] ∧ DeckAt G d c) ⟨none, none, none, rfl, dk4⟩ (fun _ _ _ _ _ => trivial) ?_ ?_⟩
    · rintro i v σ G0 G hi ⟨y4, y5, y6, rfl, dk⟩ ⟨rfl, rfl⟩
      refine ⟨.ref d, rfl, .int (3 + k1), rfl, .str tx, rfl, d, c, 3 + k1, tx, rfl, dk, h3, by omega, fun b1 G1 hb1 bt1 dkb => ?_⟩
      refine ⟨.ref d, rfl, d, c, 3, rfl, dkb, by decide, by decide, fun k G2 _ _ dkc _ => ⟨rfl, _, rfl, ite2 (fun _ => ?_) (fun _ => ?_)⟩⟩
      · refine ⟨.ref d, rfl, .int (3 + k1), rfl, .str b1, rfl, d, c, 3 + k1, b1, rfl, dkc, h3, by omega, fun b2 G3 hb2 bt2 dkd => ?_⟩
        exact rR _ d c (3 + k1) tx b2 _ _ _ dkd h3 (by omega) fun y6' G' dk' => ⟨_, _, _, rfl, dk'⟩
      · exact rR _ d c (3 + k1) tx b1 _ _ _ dkc h3 (by omega) fun y6' G' dk' => ⟨_, _, _, rfl, dk'⟩
    · rintro σ G ⟨y4, y5, y6, rfl, dk⟩
      -- the odd thing
      refine ⟨Nat.zero_le _, fun a1 n1 => ⟨.str tx, rfl, by show 1 ≤ sizeLine; decide, fun a2 n2 => fun a3 n3 => ⟨by show 6 ≤ sizeLine; decide, fun wl nwl => ?_⟩⟩⟩
      have da1 := dk.ne n1
      have dka1 := deck_but (u := .lst []) dk n1
      have da2 := dka1.ne n2
      have dka2 := deck_but (u := .tup [V.str tx]) dka1 n2
      have da3 := dka2.ne n3
      have dka3 := deck_but (u := .dK []) dka2 n3
      have dwl := dka3.ne nwl
      have e1 : (upd (upd (upd (upd G a1 (.lst [])) a2 (.tup [V.str tx])) a3 (.dK [])) wl (.lst [V.non, .int 0, .bl true, .ref a1, .ref a2, .ref a3])) a1 = some (.lst []) := by
        rw [upd_ne (ne_of_none (by rw [upd_ne (ne_of_none (by rw [upd_ne (ne_new n2)]; exact upd_same) n3), upd_ne (ne_new n2)]; exact upd_same) nwl), upd_ne (ne_of_none (by rw [upd_ne (ne_new n2)]; exact upd_same) n3), upd_ne (ne_new n2)]
        exact upd_same
      have e2 : (upd (upd (upd (upd G a1 (.lst [])) a2 (.tup [V.str tx])) a3 (.dK [])) wl (.lst [V.non, .int 0, .bl true, .ref a1, .ref a2, .ref a3])) a2 = some (.tup [V.str tx]) := by
        rw [upd_ne (ne_of_none (by rw [upd_ne (ne_new n3)]; exact upd_same) nwl), upd_ne (ne_new n3)]
        exact upd_same
      have e3 : (upd (upd (upd (upd G a1 (.lst [])) a2 (.tup [V.str tx])) a3 (.dK [])) wl (.lst [V.non, .int 0, .bl true, .ref a1, .ref a2, .ref a3])) a3 = some (.dK []) := by
        rw [upd_ne (ne_new nwl)]
        exact upd_same
      have dk5 := deck_but (u := .lst [V.non, .int 0, .bl true, .ref a1, .ref a2, .ref a3]) dka3 nwl
      refine ⟨.ref d, rfl, d, c, 6, rfl, dk5, by decide, by decide, fun k5 G5 h50 h56 dk6 b5 => ?_⟩
      obtain ⟨odd, n', hat, hfit, hs, hne⟩ : ∃ odd n', atI [V.non, .int 0, .bl true, .ref a1, .ref a2, .ref a3] k5 = some odd ∧ Fit G5 odd n' ∧ isStrV odd = false ∧ ∀ a, odd = .ref a → a ≠ d := by
        have h5 : k5 = 0 ∨ k5 = 1 ∨ k5 = 2 ∨ k5 = 3 ∨ k5 = 4 ∨ k5 = 5 := by omega
        rcases h5 with rfl | rfl | rfl | rfl | rfl | rfl
        · exact ⟨_, _, rfl, .non, rfl, fun a e => by cases e⟩
        · exact ⟨_, _, rfl, .int 0, rfl, fun a e => by cases e⟩
        · exact ⟨_, _, rfl, .bl true, rfl, fun a e => by cases e⟩
        · exact ⟨_, _, rfl, .lst (b5 _ _ (Ne.symm da1.1) e1), rfl, fun a e => by rw [← V.ref.inj e]; exact Ne.symm da1.1⟩
        · exact ⟨_, _, rfl, .tup (b5 _ _ (Ne.symm da2.1) e2), rfl, fun a e => by rw [← V.ref.inj e]; exact Ne.symm da2.1⟩
        · exact ⟨_, _, rfl, .dK (b5 _ _ (Ne.symm da3.1) e3), rfl, fun a e => by rw [← V.ref.inj e]; exact Ne.symm da3.1⟩
      refine ⟨wl, _, _, _, rfl, rfl, .inl (.inl (b5 wl _ (Ne.symm dwl.1) upd_same)), hat, ?_⟩
      -- what is no number of machines
      refine ⟨by show 1 ≤ sizeLine; decide, fun a4 n4 => ⟨_, rfl, _, _, rfl, rfl, ⟨by decide, by decide, by decide⟩, by show 8 ≤ sizeLine; decide, fun wn nwn => ?_⟩⟩
      have da4 := dk6.ne n4
      have dka4 := deck_but (u := .tup [V.int 3]) dk6 n4
      have dwn := dka4.ne nwn
      have e4 : (upd (upd G5 a4 (.tup [V.int 3])) wn (.lst [V.int 2, .int 6, .bl true, .non, .str "3", .ref a4, .int (-3), .int (10 ^ (20 : Int).toNat)])) a4 = some (.tup [V.int 3]) := by
        rw [upd_ne (ne_new nwn)]
        exact upd_same
      have b6 : But d G5 (upd (upd G5 a4 (.tup [V.int 3])) wn (.lst [V.int 2, .int 6, .bl true, .non, .str "3", .ref a4, .int (-3), .int (10 ^ (20 : Int).toNat)])) := But.of ((same_new n4).trans (same_new nwn))
      have dk7 := deck_but (u := .lst [V.int 2, .int 6, .bl true, .non, .str "3", .ref a4, .int (-3), .int (10 ^ (20 : Int).toNat)]) dka4 nwn
      refine ⟨.ref d, rfl, d, c, 8, rfl, dk7, by decide, by decide, fun k6 G6 h60 h68 dk8 b7 => ?_⟩
      obtain ⟨nom, n'', hat2, hfit2, hm2, hne2⟩ : ∃ nom n'', atI [V.int 2, .int 6, .bl true, .non, .str "3", .ref a4, .int (-3), .int (10 ^ (20 : Int).toNat)] k6 = some nom ∧ Fit G6 nom n'' ∧ isMany nom = false ∧ ∀ a, nom = .ref a → a ≠ d := by
        have h5 : k6 = 0 ∨ k6 = 1 ∨ k6 = 2 ∨ k6 = 3 ∨ k6 = 4 ∨ k6 = 5 ∨ k6 = 6 ∨ k6 = 7 := by omega
        rcases h5 with rfl | rfl | rfl | rfl | rfl | rfl | rfl | rfl
        · exact ⟨_, _, rfl, .int _, by decide, fun a e => by cases e⟩
        · exact ⟨_, _, rfl, .int _, by decide, fun a e => by cases e⟩
        · exact ⟨_, _, rfl, .bl true, rfl, fun a e => by cases e⟩
        · exact ⟨_, _, rfl, .non, rfl, fun a e => by cases e⟩
        · exact ⟨_, _, rfl, .str _, rfl, fun a e => by cases e⟩
        · exact ⟨_, _, rfl, .tup (b7 _ _ (Ne.symm da4.1) e4), rfl, fun a e => by rw [← V.ref.inj e]; exact Ne.symm da4.1⟩
        · exact ⟨_, _, rfl, .int _, by decide, fun a e => by cases e⟩
        · exact ⟨_, _, rfl, .int _, by decide +kernel, fun a e => by cases e⟩
      refine ⟨wn, _, _, _, rfl, rfl, .inl (.inl (b7 wn _ (Ne.symm dwn.1) upd_same)), hat2, ?_⟩
      have hfit6 := hfit.but hne (b6.trans b7)
      have strNo : ∀ {z : Str}, odd = .str z → False := fun e => by
        rw [e] at hs
        cases hs
      have manyNo : ∀ {m : Int}, nom = .int m → isInt3 m → False := fun e h => by
        rw [e, many_int.mpr h] at hm2
        cases hm2
      -- _law_told(many, odd) != ("text", 0)
      refine ⟨.int (3 + k1), rfl, odd, rfl, .int (3 + k1), odd, _, _, rfl, .int _, hfit6, fun e => ?_, fun _ _ G7 t7 s7 e7 => ?_, fun m' z' _ ez _ => (strNo ez).elim⟩
      · rw [many_int.mpr h3] at e
        cases e
      refine ⟨by show 2 ≤ sizeLine; decide, fun t8 n8 => ?_⟩
      refine ⟨pdText, pdText, dp_text (same_new n8 _ _ e7), dp_text upd_same, pd_text.1, pd_text.1, _, rfl, ?_⟩
      rw [pd_text.2]
      -- _law_told(none, text) != ("number",)
      have s8 : Same G6 (upd G7 t8 (.tup [V.str "text", .int 0])) := s7.trans (same_new n8)
      refine iteF ⟨nom, rfl, .str tx, rfl, nom, .str tx, _, _, rfl, hfit2.same s8, .str tx, fun _ G9 t9 s9 e9 => ?_, fun e => ?_, fun m' z' em _ h => (manyNo em h).elim⟩
      · refine ⟨by show 1 ≤ sizeLine; decide, fun t10 n10 => ?_⟩
        refine ⟨pdNum, pdNum, dp_num (same_new n10 _ _ e9), dp_num upd_same, pd_num.1, pd_num.1, _, rfl, ?_⟩
        rw [pd_num.2]
        have s10 : Same G6 (upd G9 t10 (.tup [V.str "number"])) := (s8.trans s9).trans (same_new n10)
        -- return _law_told(none, odd) == ("number",)
        refine iteF ⟨nom, rfl, odd, rfl, nom, odd, _, _, rfl, hfit2.same s10, hfit6.same s10, fun _ G11 t11 s11 e11 => ?_, fun e => ?_, fun m' z' em _ h => (manyNo em h).elim⟩
        · refine ⟨by show 1 ≤ sizeLine; decide, fun t12 n12 => ?_⟩
          refine ⟨pdNum, pdNum, dp_num (same_new n12 _ _ e11), dp_num upd_same, pd_num.1, pd_num.1, ?_⟩
          rw [pd_num.2]
          exact q _
        · rw [hm2] at e
          cases e
      · rw [hm2] at e
        cases e
end
end E85

/-! What the top has written; the end. -/
namespace E85
open PySem PySem.Spec PyProof.Rows L2
abbrev prg : Program := PySem.Challenge.pw_onesilent_k85_whole_pattern_texts_bent
theorem exm_of {K : PySem.W.Frag} {S C : Addr} {b : Bool} (h1 : PySem.W.subIn K (.ref C) (.type "BaseException") = some true) (h2 : PySem.W.isClsIn K C = true) (h3 : PySem.W.typeIn K (.ref C) = some (.type "type")) (h4 : PySem.W.subIn K (.ref S) (.ref C) = some b) :
    PySem.W.exmOne K (.ref S) (.ref C) = some b := by
  have e1 : (PySem.W.subIn K (.ref C) (.type "BaseException") == some true) = true := by rw [h1] <;> rfl
  have e2 : ((PySem.W.clsIn K C).isSome && PySem.W.typeIn K (.ref C) == some (.type "type")) = true := by
    have h2' : (PySem.W.clsIn K C).isSome = true := h2
    rw [h2', h3] <;> rfl
  show (if (PySem.W.subIn K (.ref C) (.type "BaseException") == some true) = true then (if ((PySem.W.clsIn K C).isSome && PySem.W.typeIn K (.ref C) == some (.type "type")) = true then PySem.W.subIn K (.ref S) (.ref C) else none) else none) = some b
  rw [if_pos e1, if_pos e2]
  exact h4
theorem all_mk {w : World} {K : PySem.W.Frag} {h : Heap} {mg : Str → Option Value} (X : K.In h) (G : h.Ns mainGlobals mg) {fa CN CB fN fB cN cB zN zB : Addr} (hfa : mg "law" = some (.ref fa))
    {f0 : Addr} {od0 an0 : Option Addr} {sl0 : Array (Option Value)} {oc0 kV0 dc0 pm0 cd0 ct0 : Value}
    {f1 : Addr} {od1 an1 : Option Addr} {sl1 : Array (Option Value)} {oc1 kV1 dc1 pm1 cd1 ct1 : Value}
    {f2 : Addr} {od2 an2 : Option Addr} {sl2 : Array (Option Value)} {oc2 kV2 dc2 pm2 cd2 ct2 : Value}
    {f3 : Addr} {od3 an3 : Option Addr} {sl3 : Array (Option Value)} {oc3 kV3 dc3 pm3 cd3 ct3 : Value}
    {f4 : Addr} {od4 an4 : Option Addr} {sl4 : Array (Option Value)} {oc4 kV4 dc4 pm4 cd4 ct4 : Value}
    {f5 : Addr} {od5 an5 : Option Addr} {sl5 : Array (Option Value)} {oc5 kV5 dc5 pm5 cd5 ct5 : Value}
    {f6 : Addr} {od6 an6 : Option Addr} {sl6 : Array (Option Value)} {oc6 kV6 dc6 pm6 cd6 ct6 : Value}
    {f7 : Addr} {od7 an7 : Option Addr} {sl7 : Array (Option Value)} {oc7 kV7 dc7 pm7 cd7 ct7 : Value}
    {f8 : Addr} {od8 an8 : Option Addr} {sl8 : Array (Option Value)} {oc8 kV8 dc8 pm8 cd8 ct8 : Value}
    {f9 : Addr} {od9 an9 : Option Addr} {sl9 : Array (Option Value)} {oc9 kV9 dc9 pm9 cd9 ct9 : Value}
    {f10 : Addr} {od10 an10 : Option Addr} {sl10 : Array (Option Value)} {oc10 kV10 dc10 pm10 cd10 ct10 : Value}
    {f11 : Addr} {od11 an11 : Option Addr} {sl11 : Array (Option Value)} {oc11 kV11 dc11 pm11 cd11 ct11 : Value}
    {f12 : Addr} {od12 an12 : Option Addr} {sl12 : Array (Option Value)} {oc12 kV12 dc12 pm12 cd12 ct12 : Value}
    {f13 : Addr} {od13 an13 : Option Addr} {sl13 : Array (Option Value)} {oc13 kV13 dc13 pm13 cd13 ct13 : Value}
    {f14 : Addr} {od14 an14 : Option Addr} {sl14 : Array (Option Value)} {oc14 kV14 dc14 pm14 cd14 ct14 : Value}
    {f15 : Addr} {od15 an15 : Option Addr} {sl15 : Array (Option Value)} {oc15 kV15 dc15 pm15 cd15 ct15 : Value}
    {f16 : Addr} {od16 an16 : Option Addr} {sl16 : Array (Option Value)} {oc16 kV16 dc16 pm16 cd16 ct16 : Value}
    {f17 : Addr} {od17 an17 : Option Addr} {sl17 : Array (Option Value)} {oc17 kV17 dc17 pm17 cd17 ct17 : Value}
    {f18 : Addr} {od18 an18 : Option Addr} {sl18 : Array (Option Value)} {oc18 kV18 dc18 pm18 cd18 ct18 : Value}
    {nmN qN : Str} {NN : Addr} {bsN bmN : List Value} {snN : List Str} {suN : List Value} {abN : Bool} {coN : Option Bool} {ddN : Option Addr} {m0N m1N m2N m3N m5N : Option Value}
    {odiN aniN : Option Addr} {sliN : Array (Option Value)} {ociN dciN pmiN ctiN : Value} {clN : Value} {cldN : Option Addr} {cslN : Array (Option Value)} {cclN : Value} {cddN : Option Addr} {vsN : Array Value} {ccsN : Array (Option Value)} {fileN : Str} {tfN : Tok}
    {nmB qB : Str} {NB : Addr} {bsB bmB : List Value} {snB : List Str} {suB : List Value} {abB : Bool} {coB : Option Bool} {ddB : Option Addr} {m0B m1B m2B m3B m5B : Option Value}
    {odiB aniB : Option Addr} {sliB : Array (Option Value)} {ociB dciB pmiB ctiB : Value} {clB : Value} {cldB : Option Addr} {cslB : Array (Option Value)} {cclB : Value} {cddB : Option Addr} {vsB : Array Value} {ccsB : Array (Option Value)} {fileB : Str} {tfB : Tok}
    {t_least : Tok}
    {t_most : Tok}
    {t_figs : Tok}
    {t_mfig : Tok}
    {t_mrnd : Tok}
    {t_nob : Tok}
    (a0 : PySem.W.nsIn K mainGlobals "is_integer" = some (some (.ref f0)))
    (l0 : K.lookup f0 = some ⟨oc0, od0, .func (PySem.W.fnOf "is_integer" "is_integer" (defArgs sIsInteger) (defBody sIsInteger) (defScope sIsInteger) .none kV0 dc0 pm0 an0 cd0 ct0), sl0⟩)
    (c0 : PySem.W.codeIn K cd0 "is_integer" = true)
    (k0 : PySem.W.keepIn K (.ref f0) = true)
    (a1 : PySem.W.nsIn K mainGlobals "is_within" = some (some (.ref f1)))
    (l1 : K.lookup f1 = some ⟨oc1, od1, .func (PySem.W.fnOf "is_within" "is_within" (defArgs sIsWithin) (defBody sIsWithin) (defScope sIsWithin) .none kV1 dc1 pm1 an1 cd1 ct1), sl1⟩)
    (c1 : PySem.W.codeIn K cd1 "is_within" = true)
    (k1 : PySem.W.keepIn K (.ref f1) = true)
    (a2 : PySem.W.nsIn K mainGlobals "is_many" = some (some (.ref f2)))
    (l2 : K.lookup f2 = some ⟨oc2, od2, .func (PySem.W.fnOf "is_many" "is_many" (defArgs sIsMany) (defBody sIsMany) (defScope sIsMany) .none kV2 dc2 pm2 an2 cd2 ct2), sl2⟩)
    (c2 : PySem.W.codeIn K cd2 "is_many" = true)
    (k2 : PySem.W.keepIn K (.ref f2) = true)
    (a3 : PySem.W.nsIn K mainGlobals "is_number" = some (some (.ref f3)))
    (l3 : K.lookup f3 = some ⟨oc3, od3, .func (PySem.W.fnOf "is_number" "is_number" (defArgs sIsNumber) (defBody sIsNumber) (defScope sIsNumber) .none kV3 dc3 pm3 an3 cd3 ct3), sl3⟩)
    (c3 : PySem.W.codeIn K cd3 "is_number" = true)
    (k3 : PySem.W.keepIn K (.ref f3) = true)
    (a4 : PySem.W.nsIn K mainGlobals "number_told" = some (some (.ref f4)))
    (l4 : K.lookup f4 = some ⟨oc4, od4, .func (PySem.W.fnOf "number_told" "number_told" (defArgs sNumberTold) (defBody sNumberTold) (defScope sNumberTold) .none kV4 dc4 pm4 an4 cd4 ct4), sl4⟩)
    (c4 : PySem.W.codeIn K cd4 "number_told" = true)
    (k4 : PySem.W.keepIn K (.ref f4) = true)
    (a5 : PySem.W.nsIn K mainGlobals "lines_told" = some (some (.ref f5)))
    (l5 : K.lookup f5 = some ⟨oc5, od5, .func (PySem.W.fnOf "lines_told" "lines_told" (defArgs sLinesTold) (defBody sLinesTold) (defScope sLinesTold) .none kV5 dc5 pm5 an5 cd5 ct5), sl5⟩)
    (c5 : PySem.W.codeIn K cd5 "lines_told" = true)
    (k5 : PySem.W.keepIn K (.ref f5) = true)
    (a6 : PySem.W.nsIn K mainGlobals "entries_told" = some (some (.ref f6)))
    (l6 : K.lookup f6 = some ⟨oc6, od6, .func (PySem.W.fnOf "entries_told" "entries_told" (defArgs sEntriesTold) (defBody sEntriesTold) (defScope sEntriesTold) .none kV6 dc6 pm6 an6 cd6 ct6), sl6⟩)
    (c6 : PySem.W.codeIn K cd6 "entries_told" = true)
    (k6 : PySem.W.keepIn K (.ref f6) = true)
    (a7 : PySem.W.nsIn K mainGlobals "read_pattern" = some (some (.ref f7)))
    (l7 : K.lookup f7 = some ⟨oc7, od7, .func (PySem.W.fnOf "read_pattern" "read_pattern" (defArgs sReadPattern) (defBody sReadPattern) (defScope sReadPattern) .none kV7 dc7 pm7 an7 cd7 ct7), sl7⟩)
    (c7 : PySem.W.codeIn K cd7 "read_pattern" = true)
    (k7 : PySem.W.keepIn K (.ref f7) = true)
    (a8 : PySem.W.nsIn K mainGlobals "_law_deck" = some (some (.ref f8)))
    (l8 : K.lookup f8 = some ⟨oc8, od8, .func (PySem.W.fnOf "_law_deck" "_law_deck" (defArgs sLawDeck) (defBody sLawDeck) (defScope sLawDeck) .none kV8 dc8 pm8 an8 cd8 ct8), sl8⟩)
    (c8 : PySem.W.codeIn K cd8 "_law_deck" = true)
    (k8 : PySem.W.keepIn K (.ref f8) = true)
    (a9 : PySem.W.nsIn K mainGlobals "_law_mixed" = some (some (.ref f9)))
    (l9 : K.lookup f9 = some ⟨oc9, od9, .func (PySem.W.fnOf "_law_mixed" "_law_mixed" (defArgs sLawMixed) (defBody sLawMixed) (defScope sLawMixed) .none kV9 dc9 pm9 an9 cd9 ct9), sl9⟩)
    (c9 : PySem.W.codeIn K cd9 "_law_mixed" = true)
    (k9 : PySem.W.keepIn K (.ref f9) = true)
    (a10 : PySem.W.nsIn K mainGlobals "_law_draw" = some (some (.ref f10)))
    (l10 : K.lookup f10 = some ⟨oc10, od10, .func (PySem.W.fnOf "_law_draw" "_law_draw" (defArgs sLawDraw) (defBody sLawDraw) (defScope sLawDraw) .none kV10 dc10 pm10 an10 cd10 ct10), sl10⟩)
    (c10 : PySem.W.codeIn K cd10 "_law_draw" = true)
    (k10 : PySem.W.keepIn K (.ref f10) = true)
    (a11 : PySem.W.nsIn K mainGlobals "_law_pattern" = some (some (.ref f11)))
    (l11 : K.lookup f11 = some ⟨oc11, od11, .func (PySem.W.fnOf "_law_pattern" "_law_pattern" (defArgs sLawPattern) (defBody sLawPattern) (defScope sLawPattern) .none kV11 dc11 pm11 an11 cd11 ct11), sl11⟩)
    (c11 : PySem.W.codeIn K cd11 "_law_pattern" = true)
    (k11 : PySem.W.keepIn K (.ref f11) = true)
    (a12 : PySem.W.nsIn K mainGlobals "_law_pattern_text" = some (some (.ref f12)))
    (l12 : K.lookup f12 = some ⟨oc12, od12, .func (PySem.W.fnOf "_law_pattern_text" "_law_pattern_text" (defArgs sLawPatternText) (defBody sLawPatternText) (defScope sLawPatternText) .none kV12 dc12 pm12 an12 cd12 ct12), sl12⟩)
    (c12 : PySem.W.codeIn K cd12 "_law_pattern_text" = true)
    (k12 : PySem.W.keepIn K (.ref f12) = true)
    (a13 : PySem.W.nsIn K mainGlobals "_law_same" = some (some (.ref f13)))
    (l13 : K.lookup f13 = some ⟨oc13, od13, .func (PySem.W.fnOf "_law_same" "_law_same" (defArgs sLawSame) (defBody sLawSame) (defScope sLawSame) .none kV13 dc13 pm13 an13 cd13 ct13), sl13⟩)
    (c13 : PySem.W.codeIn K cd13 "_law_same" = true)
    (k13 : PySem.W.keepIn K (.ref f13) = true)
    (a14 : PySem.W.nsIn K mainGlobals "_law_row" = some (some (.ref f14)))
    (l14 : K.lookup f14 = some ⟨oc14, od14, .func (PySem.W.fnOf "_law_row" "_law_row" (defArgs sLawRow) (defBody sLawRow) (defScope sLawRow) .none kV14 dc14 pm14 an14 cd14 ct14), sl14⟩)
    (c14 : PySem.W.codeIn K cd14 "_law_row" = true)
    (k14 : PySem.W.keepIn K (.ref f14) = true)
    (a15 : PySem.W.nsIn K mainGlobals "_law_read" = some (some (.ref f15)))
    (l15 : K.lookup f15 = some ⟨oc15, od15, .func (PySem.W.fnOf "_law_read" "_law_read" (defArgs sLawRead) (defBody sLawRead) (defScope sLawRead) .none kV15 dc15 pm15 an15 cd15 ct15), sl15⟩)
    (c15 : PySem.W.codeIn K cd15 "_law_read" = true)
    (k15 : PySem.W.keepIn K (.ref f15) = true)
    (a16 : PySem.W.nsIn K mainGlobals "_law_bent" = some (some (.ref f16)))
    (l16 : K.lookup f16 = some ⟨oc16, od16, .func (PySem.W.fnOf "_law_bent" "_law_bent" (defArgs sLawBent) (defBody sLawBent) (defScope sLawBent) .none kV16 dc16 pm16 an16 cd16 ct16), sl16⟩)
    (c16 : PySem.W.codeIn K cd16 "_law_bent" = true)
    (k16 : PySem.W.keepIn K (.ref f16) = true)
    (a17 : PySem.W.nsIn K mainGlobals "_law_told" = some (some (.ref f17)))
    (l17 : K.lookup f17 = some ⟨oc17, od17, .func (PySem.W.fnOf "_law_told" "_law_told" (defArgs sLawTold) (defBody sLawTold) (defScope sLawTold) .none kV17 dc17 pm17 an17 cd17 ct17), sl17⟩)
    (c17 : PySem.W.codeIn K cd17 "_law_told" = true)
    (k17 : PySem.W.keepIn K (.ref f17) = true)
    (a18 : PySem.W.nsIn K mainGlobals "law" = some (some (.ref f18)))
    (l18 : K.lookup f18 = some ⟨oc18, od18, .func (PySem.W.fnOf "law" "law" (defArgs sLaw) (defBody sLaw) (defScope sLaw) .none kV18 dc18 pm18 an18 cd18 ct18), sl18⟩)
    (c18 : PySem.W.codeIn K cd18 "law" = true)
    (k18 : PySem.W.keepIn K (.ref f18) = true)
    (z_isi : PySem.W.nsIn K mainGlobals "isinstance" = some none)
    (z_int : PySem.W.nsIn K mainGlobals "int" = some none)
    (z_bool : PySem.W.nsIn K mainGlobals "bool" = some none)
    (z_str : PySem.W.nsIn K mainGlobals "str" = some none)
    (z_list : PySem.W.nsIn K mainGlobals "list" = some none)
    (z_tuple : PySem.W.nsIn K mainGlobals "tuple" = some none)
    (z_len : PySem.W.nsIn K mainGlobals "len" = some none)
    (z_all : PySem.W.nsIn K mainGlobals "all" = some none)
    (z_range : PySem.W.nsIn K mainGlobals "range" = some none)
    (z_enum : PySem.W.nsIn K mainGlobals "enumerate" = some none)
    (z_abs : PySem.W.nsIn K mainGlobals "abs" = some none)
    (z_super : PySem.W.nsIn K mainGlobals "super" = some none)
    (g_least : PySem.W.nsIn K mainGlobals "LEAST_MANY" = some (some (.int 3 t_least)))
    (g_most : PySem.W.nsIn K mainGlobals "MOST_MANY" = some (some (.int 5 t_most)))
    (g_figs : PySem.W.nsIn K mainGlobals "FIGURES" = some (some (.str "0123456789" t_figs)))
    (g_mfig : PySem.W.nsIn K mainGlobals "MOST_FIGURES" = some (some (.int 12 t_mfig)))
    (g_mrnd : PySem.W.nsIn K mainGlobals "MOST_ROUNDS" = some (some (.int 30 t_mrnd)))
    (g_nob : PySem.W.nsIn K mainGlobals "NOBODY" = some (some (.str "-" t_nob)))
    (thp : PySem.W.nsIn K cStatics "thirdparty.any" = some none)
    (xN : PySem.W.nsIn K mainGlobals "NoNumber" = some (some (.ref CN)))
    (xlN : K.lookup CN = some (excClassObj nmN qN CN NN bsN bmN true snN suN abN coN ddN m0N m1N m2N m3N m5N "ValueError.__new__"))
    (xvN : PySem.HandSPX.refsVE bmN = true)
    (xsaN : PySem.W.findIn K (.ref CN) "__setattr__" = some (some (.builtin "object.__setattr__")))
    (xiN : PySem.W.findIn K (.ref CN) "__init__" = some (some (.ref fN)))
    (xtN : PySem.W.typeIn K (.ref fN) = some (.type "function"))
    (xkN : PySem.W.keepIn K (.ref CN) = true)
    (xeN : PySem.W.subIn K (.ref CN) (.type "BaseException") = some true)
    (xwN : PySem.W.subIn K (.ref CN) (.type "ValueError") = some true)
    (xyN : PySem.W.typeIn K (.ref CN) = some (.type "type"))
    (xmN : PySem.W.mroIn K CN (.ref CN) = some true)
    (xcN : PySem.W.isClsIn K CN = true)
    (xsN : PySem.W.subIn K (.ref CN) (.ref CN) = some true)
    (xuN : PySem.W.ks_superIn K CN CN "__init__" = some (some (.builtin "ValueError.__init__")))
    (xfN : K.lookup fN = some ⟨ociN, odiN, .func (PySem.W.ksFn "__init__" "NoNumber.__init__" (PySem.E85.aOne ⟨15, 17, 15, 21⟩) PySem.E85.bOne PySem.E85.sOne .none .none dciN pmiN aniN (.ref cN) ctiN zN), sliN⟩)
    (xdN : PySem.W.codeIn K (.ref cN) "NoNumber.__init__" = true)
    (xzN : K.lookup zN = some ⟨clN, cldN, .cell (some (.ref CN)), cslN⟩)
    (xoN : K.lookup cN = some ⟨cclN, cddN, .fields vsN, ccsN⟩)
    (xpN : vsN[2]? = some (.str fileN tfN))
    (xqN : ((prg.main.file : Str) == fileN) = true)
    (xB : PySem.W.nsIn K mainGlobals "BadText" = some (some (.ref CB)))
    (xlB : K.lookup CB = some (excClassObj nmB qB CB NB bsB bmB true snB suB abB coB ddB m0B m1B m2B m3B m5B "ValueError.__new__"))
    (xvB : PySem.HandSPX.refsVE bmB = true)
    (xsaB : PySem.W.findIn K (.ref CB) "__setattr__" = some (some (.builtin "object.__setattr__")))
    (xiB : PySem.W.findIn K (.ref CB) "__init__" = some (some (.ref fB)))
    (xtB : PySem.W.typeIn K (.ref fB) = some (.type "function"))
    (xkB : PySem.W.keepIn K (.ref CB) = true)
    (xeB : PySem.W.subIn K (.ref CB) (.type "BaseException") = some true)
    (xwB : PySem.W.subIn K (.ref CB) (.type "ValueError") = some true)
    (xyB : PySem.W.typeIn K (.ref CB) = some (.type "type"))
    (xmB : PySem.W.mroIn K CB (.ref CB) = some true)
    (xcB : PySem.W.isClsIn K CB = true)
    (xsB : PySem.W.subIn K (.ref CB) (.ref CB) = some true)
    (xuB : PySem.W.ks_superIn K CB CB "__init__" = some (some (.builtin "ValueError.__init__")))
    (xfB : K.lookup fB = some ⟨ociB, odiB, .func (PySem.W.ksFn "__init__" "BadText.__init__" (PySem.E85.aTwo ⟨19, 17, 19, 21⟩ ⟨19, 23, 19, 27⟩) PySem.E85.bTwo PySem.E85.sTwo .none .none dciB pmiB aniB (.ref cB) ctiB zB), sliB⟩)
    (xdB : PySem.W.codeIn K (.ref cB) "BadText.__init__" = true)
    (xzB : K.lookup zB = some ⟨clB, cldB, .cell (some (.ref CB)), cslB⟩)
    (xoB : K.lookup cB = some ⟨cclB, cddB, .fields vsB, ccsB⟩)
    (xpB : vsB[2]? = some (.str fileB tfB))
    (xqB : ((prg.main.file : Str) == fileB) = true)
    (noB : PySem.W.findIn K (.ref CB) "line" = some none)
    (gaB : PySem.W.findIn K (.ref CB) "__getattribute__" = some (some (.builtin "BaseException.__getattribute__")))
    (ggB : PySem.W.findIn K (.ref CB) "__getattr__" = some none)
    (hdB : PySem.W.hasDictIn K CB = true)
    (neB : PySem.W.subIn K (.ref CN) (.ref CB) = some false)
    (hsup : (prg.main.scope.names.lookup ("super" : Str)).isSome = false) :
    ∃ fd : FuncData, (∀ (s : Shared) (u : Value), BindsTo s fd ⟨[u], []⟩ [("_law_script", u)]) ∧ ∀ base : Heap, K.In base → base.Ns mainGlobals mg → FnOk prg w K mg base CX0 6 fa fd ["_law_script"] (spLaw K) := by
  have e := hfa.symm.trans (PySem.W.mg_of X G a18)
  cases e
  have B : Blt mg := ⟨PySem.W.mg_none_of X G z_isi, PySem.W.mg_none_of X G z_int, PySem.W.mg_none_of X G z_bool, PySem.W.mg_none_of X G z_str, PySem.W.mg_none_of X G z_list, PySem.W.mg_none_of X G z_tuple, PySem.W.mg_none_of X G z_len, PySem.W.mg_none_of X G z_all, PySem.W.mg_none_of X G z_range, PySem.W.mg_none_of X G z_enum, PySem.W.mg_none_of X G z_abs⟩
  have N : Kon mg := ⟨⟨_, PySem.W.mg_of X G g_least⟩, ⟨_, PySem.W.mg_of X G g_most⟩, ⟨_, PySem.W.mg_of X G g_figs⟩, ⟨_, PySem.W.mg_of X G g_mfig⟩, ⟨_, PySem.W.mg_of X G g_mrnd⟩, ⟨_, PySem.W.mg_of X G g_nob⟩⟩
  have teN := exm_of xeN xcN xyN xsN
  have teB := exm_of xeB xcB xyB xsB
  have clsN : PySem.E85.ClsT K prg.main.file CN fN cN zN "NoNumber.__init__" (PySem.E85.aOne ⟨15, 17, 15, 21⟩) PySem.E85.bOne PySem.E85.sOne := { cls := ⟨nmN, qN, NN, bsN, bmN, snN, suN, abN, coN, ddN, m0N, m1N, m2N, m3N, m5N, xlN, xvN⟩, sa := xsaN, iC := xiN, tC := xtN, kC := xkN, exC := xeN, veC := xwN, tyC := xyN, me := xmN, te := teN, up := xuN, thp := thp, cell := ⟨_, _, _, xzN⟩, code := ⟨_, _, _, _, _, _, xoN, xpN, xqN⟩, fn := ⟨_, _, .none, .none, _, _, _, _, _, xfN, xdN⟩ }
  have clsB : PySem.E85.ClsT K prg.main.file CB fB cB zB "BadText.__init__" (PySem.E85.aTwo ⟨19, 17, 19, 21⟩ ⟨19, 23, 19, 27⟩) PySem.E85.bTwo PySem.E85.sTwo := { cls := ⟨nmB, qB, NB, bsB, bmB, snB, suB, abB, coB, ddB, m0B, m1B, m2B, m3B, m5B, xlB, xvB⟩, sa := xsaB, iC := xiB, tC := xtB, kC := xkB, exC := xeB, veC := xwB, tyC := xyB, me := xmB, te := teB, up := xuB, thp := thp, cell := ⟨_, _, _, xzB⟩, code := ⟨_, _, _, _, _, _, xoB, xpB, xqB⟩, fn := ⟨_, _, .none, .none, _, _, _, _, _, xfB, xdB⟩ }
  have T : ExcT prg K mg CN CB := ⟨PySem.W.mg_of X G xN, PySem.W.mg_of X G xB, PySem.W.mg_none_of X G z_super, hsup, ⟨fN, cN, zN, _, clsN⟩, ⟨fB, cB, zB, _, _, clsB⟩, noB, gaB, ggB, hdB, exm_of xeB xcB xyB neB⟩
  have F0 := fun_mk (st := sIsInteger) l0 c0 k0
  have b0 := F0.binds (ps := ["thing"]) fun _ _ _ _ _ _ us hl => match us, hl with | [_], _ => rfl
  have F1 := fun_mk (st := sIsWithin) l1 c1 k1
  have b1 := F1.binds (ps := ["thing", "least", "most"]) fun _ _ _ _ _ _ us hl => match us, hl with | [_, _, _], _ => rfl
  have F2 := fun_mk (st := sIsMany) l2 c2 k2
  have b2 := F2.binds (ps := ["thing"]) fun _ _ _ _ _ _ us hl => match us, hl with | [_], _ => rfl
  have F3 := fun_mk (st := sIsNumber) l3 c3 k3
  have b3 := F3.binds (ps := ["word"]) fun _ _ _ _ _ _ us hl => match us, hl with | [_], _ => rfl
  have F4 := fun_mk (st := sNumberTold) l4 c4 k4
  have b4 := F4.binds (ps := ["word"]) fun _ _ _ _ _ _ us hl => match us, hl with | [_], _ => rfl
  have F5 := fun_mk (st := sLinesTold) l5 c5 k5
  have b5 := F5.binds (ps := ["text"]) fun _ _ _ _ _ _ us hl => match us, hl with | [_], _ => rfl
  have F6 := fun_mk (st := sEntriesTold) l6 c6 k6
  have b6 := F6.binds (ps := ["words", "many"]) fun _ _ _ _ _ _ us hl => match us, hl with | [_, _], _ => rfl
  have F7 := fun_mk (st := sReadPattern) l7 c7 k7
  have b7 := F7.binds (ps := ["many", "text"]) fun _ _ _ _ _ _ us hl => match us, hl with | [_, _], _ => rfl
  have F8 := fun_mk (st := sLawDeck) l8 c8 k8
  have b8 := F8.binds (ps := ["_law_script"]) fun _ _ _ _ _ _ us hl => match us, hl with | [_], _ => rfl
  have F9 := fun_mk (st := sLawMixed) l9 c9 k9
  have b9 := F9.binds (ps := ["_law_cell", "_law_turn"]) fun _ _ _ _ _ _ us hl => match us, hl with | [_, _], _ => rfl
  have F10 := fun_mk (st := sLawDraw) l10 c10 k10
  have b10 := F10.binds (ps := ["_law_deck_here", "_law_many"]) fun _ _ _ _ _ _ us hl => match us, hl with | [_, _], _ => rfl
  have F11 := fun_mk (st := sLawPattern) l11 c11 k11
  have b11 := F11.binds (ps := ["_law_deck_here", "_law_many"]) fun _ _ _ _ _ _ us hl => match us, hl with | [_, _], _ => rfl
  have F12 := fun_mk (st := sLawPatternText) l12 c12 k12
  have b12 := F12.binds (ps := ["_law_pattern_here"]) fun _ _ _ _ _ _ us hl => match us, hl with | [_], _ => rfl
  have F13 := fun_mk (st := sLawSame) l13 c13 k13
  have b13 := F13.binds (ps := ["_law_one", "_law_other"]) fun _ _ _ _ _ _ us hl => match us, hl with | [_, _], _ => rfl
  have F14 := fun_mk (st := sLawRow) l14 c14 k14
  have b14 := F14.binds (ps := ["_law_many", "_law_line"]) fun _ _ _ _ _ _ us hl => match us, hl with | [_, _], _ => rfl
  have F15 := fun_mk (st := sLawRead) l15 c15 k15
  have b15 := F15.binds (ps := ["_law_many", "_law_text"]) fun _ _ _ _ _ _ us hl => match us, hl with | [_, _], _ => rfl
  have F16 := fun_mk (st := sLawBent) l16 c16 k16
  have b16 := F16.binds (ps := ["_law_deck_here", "_law_many", "_law_text"]) fun _ _ _ _ _ _ us hl => match us, hl with | [_, _, _], _ => rfl
  have F17 := fun_mk (st := sLawTold) l17 c17 k17
  have b17 := F17.binds (ps := ["_law_many", "_law_text"]) fun _ _ _ _ _ _ us hl => match us, hl with | [_, _], _ => rfl
  have F18 := fun_mk (st := sLaw) l18 c18 k18
  have b18 := F18.binds (ps := ["_law_script"]) fun _ _ _ _ _ _ us hl => match us, hl with | [_], _ => rfl
  refine ⟨PySem.W.fnOf "law" "law" (defArgs sLaw) (defBody sLaw) (defScope sLaw) .none kV18 dc18 pm18 an18 cd18 ct18, fun s u => .of_eq rfl, fun base _ _ => ?_⟩
  have C0 : Cal prg w K mg base CX0 1 "is_integer" ["thing"] spIsInt := ⟨f0, _, PySem.W.mg_of X G a0, F0.kp, b0, ok_is_integer F0 B⟩
  have C1 : Cal prg w K mg base CX0 2 "is_within" ["thing", "least", "most"] spWithin := ⟨f1, _, PySem.W.mg_of X G a1, F1.kp, b1, ok_is_within F1 C0⟩
  have C2 : Cal prg w K mg base CX0 3 "is_many" ["thing"] spIsMany := ⟨f2, _, PySem.W.mg_of X G a2, F2.kp, b2, ok_is_many F2 N C1⟩
  have C3 : Cal prg w K mg base CX0 1 "is_number" ["word"] spIsNum := ⟨f3, _, PySem.W.mg_of X G a3, F3.kp, b3, ok_is_number F3 B N⟩
  have C4 : Cal prg w K mg base CX0 2 "number_told" ["word"] spNumTold := ⟨f4, _, PySem.W.mg_of X G a4, F4.kp, b4, ok_number_told F4 B N C3⟩
  have C5 : Cal prg w K mg base (L2.CX prg w) 3 "lines_told" ["text"] (spLines CB) := ⟨f5, _, PySem.W.mg_of X G a5, F5.kp, b5, ok_lines_told F5 B T⟩
  have C6 : Cal prg w K mg base CX0 3 "entries_told" ["words", "many"] (spEnt K) := ⟨f6, _, PySem.W.mg_of X G a6, F6.kp, b6, ok_entries_told F6 B N C4⟩
  have C7 : Cal prg w K mg base (L2.CX prg w) 4 "read_pattern" ["many", "text"] (spRead CN CB) := ⟨f7, _, PySem.W.mg_of X G a7, F7.kp, b7, ok_read_pattern F7 B N T C2 C5 C6⟩
  have C8 : Cal prg w K mg base CX0 1 "_law_deck" ["_law_script"] (spDeck K) := ⟨f8, _, PySem.W.mg_of X G a8, F8.kp, b8, ok_law_deck F8 B⟩
  have C9 : Cal prg w K mg base CX0 1 "_law_mixed" ["_law_cell", "_law_turn"] spMixed := ⟨f9, _, PySem.W.mg_of X G a9, F9.kp, b9, ok_law_mixed F9 B⟩
  have C10 : Cal prg w K mg base CX0 2 "_law_draw" ["_law_deck_here", "_law_many"] spDraw := ⟨f10, _, PySem.W.mg_of X G a10, F10.kp, b10, ok_law_draw F10 B C9⟩
  have C11 : Cal prg w K mg base CX0 3 "_law_pattern" ["_law_deck_here", "_law_many"] spPat := ⟨f11, _, PySem.W.mg_of X G a11, F11.kp, b11, ok_law_pattern F11 B C10⟩
  have C12 : Cal prg w K mg base CX0 1 "_law_pattern_text" ["_law_pattern_here"] spPTxt := ⟨f12, _, PySem.W.mg_of X G a12, F12.kp, b12, ok_law_pattern_text F12 B⟩
  have C13 : Cal prg w K mg base CX0 4 "_law_same" ["_law_one", "_law_other"] (spSame 3) := ⟨f13, _, PySem.W.mg_of X G a13, F13.kp, b13, ok_law_same F13 B (PySem.W.mg_of X G a13) b13 3⟩
  have C14 : Cal prg w K mg base CX0 1 "_law_row" ["_law_many", "_law_line"] spRow := ⟨f14, _, PySem.W.mg_of X G a14, F14.kp, b14, ok_law_row F14 B⟩
  have C15 : Cal prg w K mg base CX0 2 "_law_read" ["_law_many", "_law_text"] spLRead := ⟨f15, _, PySem.W.mg_of X G a15, F15.kp, b15, ok_law_read F15 B C14⟩
  have C16 : Cal prg w K mg base CX0 3 "_law_bent" ["_law_deck_here", "_law_many", "_law_text"] spBent := ⟨f16, _, PySem.W.mg_of X G a16, F16.kp, b16, ok_law_bent F16 B C10⟩
  have C17 : Cal prg w K mg base CX0 5 "_law_told" ["_law_many", "_law_text"] spTold := ⟨f17, _, PySem.W.mg_of X G a17, F17.kp, b17, ok_law_told F17 T C7⟩
  exact ok_law F18 B (C8.mono (by decide)) (C10.mono (by decide)) (C11.mono (by decide)) (C12.mono (by decide)) (C16.mono (by decide)) C17 (C15.mono (by decide)) (C13.mono (by decide))
end E85

open PySem PySem.W PyProof.Rows
set_option maxRecDepth 100000 in
set_option maxHeartbeats 0 in
theorem PySem.Challenge.cw_onesilent_k85_whole_pattern_texts_bent_holds : PySem.Challenge.rw_onesilent_k85_whole_pattern_texts_bent.Holds := by
  w_on; o_law; k_head; (case hw => w_witness2)
  k_fill
  refine L2.walk_of (l := PySem.Challenge.rw_onesilent_k85_whole_pattern_texts_bent) (n := 63) (k := 6) (x := "_law_script") (CX := fun _ => L2.CX0) (sp := fun w => E85.spLaw _) rfl (by decide) rfl ⟨rfl, by decide, by decide⟩ (fun w h Y => PySem.W.kIn_of Y) ?F (fun _ _ a ns hl _ hS => ⟨a, ns, rfl, hS, fun _ => rfl⟩) (fun _ _ _ _ _ h => h)
  case F =>
    intro w mg fa h KX G hmg
    refine' E85.all_mk KX G hmg ?a0 ?l0 ?c0 ?k0 ?a1 ?l1 ?c1 ?k1 ?a2 ?l2 ?c2 ?k2 ?a3 ?l3 ?c3 ?k3 ?a4 ?l4 ?c4 ?k4 ?a5 ?l5 ?c5 ?k5 ?a6 ?l6 ?c6 ?k6 ?a7 ?l7 ?c7 ?k7 ?a8 ?l8 ?c8 ?k8 ?a9 ?l9 ?c9 ?k9 ?a10 ?l10 ?c10 ?k10 ?a11 ?l11 ?c11 ?k11 ?a12 ?l12 ?c12 ?k12 ?a13 ?l13 ?c13 ?k13 ?a14 ?l14 ?c14 ?k14 ?a15 ?l15 ?c15 ?k15 ?a16 ?l16 ?c16 ?k16 ?a17 ?l17 ?c17 ?k17 ?a18 ?l18 ?c18 ?k18 ?z_isi ?z_int ?z_bool ?z_str ?z_list ?z_tuple ?z_len ?z_all ?z_range ?z_enum ?z_abs ?z_super ?g_least ?g_most ?g_figs ?g_mfig ?g_mrnd ?g_nob ?thp ?xN ?xlN ?xvN ?xsaN ?xiN ?xtN ?xkN ?xeN ?xwN ?xyN ?xmN ?xcN ?xsN ?xuN ?xfN ?xdN ?xzN ?xoN ?xpN ?xqN ?xB ?xlB ?xvB ?xsaB ?xiB ?xtB ?xkB ?xeB ?xwB ?xyB ?xmB ?xcB ?xsB ?xuB ?xfB ?xdB ?xzB ?xoB ?xpB ?xqB ?noB ?gaB ?ggB ?hdB ?neB ?hsup
    (case a0 => k_is)
    (case l0 => k_is)
    (case c0 => k_is)
    (case k0 => k_is)
    (case a1 => k_is)
    (case l1 => k_is)
    (case c1 => k_is)
    (case k1 => k_is)
    (case a2 => k_is)
    (case l2 => k_is)
    (case c2 => k_is)
    (case k2 => k_is)
    (case a3 => k_is)
    (case l3 => k_is)
    (case c3 => k_is)
    (case k3 => k_is)
    (case a4 => k_is)
    (case l4 => k_is)
    (case c4 => k_is)
    (case k4 => k_is)
    (case a5 => k_is)
    (case l5 => k_is)
    (case c5 => k_is)
    (case k5 => k_is)
    (case a6 => k_is)
    (case l6 => k_is)
    (case c6 => k_is)
    (case k6 => k_is)
    (case a7 => k_is)
    (case l7 => k_is)
    (case c7 => k_is)
    (case k7 => k_is)
    (case a8 => k_is)
    (case l8 => k_is)
    (case c8 => k_is)
    (case k8 => k_is)
    (case a9 => k_is)
    (case l9 => k_is)
    (case c9 => k_is)
    (case k9 => k_is)
    (case a10 => k_is)
    (case l10 => k_is)
    (case c10 => k_is)
    (case k10 => k_is)
    (case a11 => k_is)
    (case l11 => k_is)
    (case c11 => k_is)
    (case k11 => k_is)
    (case a12 => k_is)
    (case l12 => k_is)
    (case c12 => k_is)
    (case k12 => k_is)
    (case a13 => k_is)
    (case l13 => k_is)
    (case c13 => k_is)
    (case k13 => k_is)
    (case a14 => k_is)
    (case l14 => k_is)
    (case c14 => k_is)
    (case k14 => k_is)
    (case a15 => k_is)
    (case l15 => k_is)
    (case c15 => k_is)
    (case k15 => k_is)
    (case a16 => k_is)
    (case l16 => k_is)
    (case c16 => k_is)
    (case k16 => k_is)
    (case a17 => k_is)
    (case l17 => k_is)
    (case c17 => k_is)
    (case k17 => k_is)
    (case a18 => k_is)
    (case l18 => k_is)
    (case c18 => k_is)
    (case k18 => k_is)
    (case z_isi => k_is)
    (case z_int => k_is)
    (case z_bool => k_is)
    (case z_str => k_is)
    (case z_list => k_is)
    (case z_tuple => k_is)
    (case z_len => k_is)
    (case z_all => k_is)
    (case z_range => k_is)
    (case z_enum => k_is)
    (case z_abs => k_is)
    (case z_super => k_is)
    (case g_least => k_is)
    (case g_most => k_is)
    (case g_figs => k_is)
    (case g_mfig => k_is)
    (case g_mrnd => k_is)
    (case g_nob => k_is)
    (case thp => k_is)
    (case xN => k_is)
    (case xlN => k_is)
    (case xvN => decide +kernel)
    (case xsaN => k_is)
    (case xiN => k_is)
    (case xtN => k_is)
    (case xkN => k_is)
    (case xeN => k_is)
    (case xwN => k_is)
    (case xyN => k_is)
    (case xmN => k_is)
    (case xcN => k_is)
    (case xsN => first | rfl | k_is)
    (case xuN => ks_is)
    (case xfN => k_is)
    (case xdN => k_is)
    (case xzN => k_is)
    (case xoN => k_is)
    (case xpN => rfl)
    (case xqN => decide +kernel)
    (case xB => k_is)
    (case xlB => k_is)
    (case xvB => decide +kernel)
    (case xsaB => k_is)
    (case xiB => k_is)
    (case xtB => k_is)
    (case xkB => k_is)
    (case xeB => k_is)
    (case xwB => k_is)
    (case xyB => k_is)
    (case xmB => k_is)
    (case xcB => k_is)
    (case xsB => first | rfl | k_is)
    (case xuB => ks_is)
    (case xfB => k_is)
    (case xdB => k_is)
    (case xzB => k_is)
    (case xoB => k_is)
    (case xpB => rfl)
    (case xqB => decide +kernel)
    (case noB => k_is)
    (case gaB => k_is)
    (case ggB => k_is)
    (case hdB => k_is)
    (case neB => k_is)
    (case hsup => decide +kernel)
#print axioms PySem.Challenge.cw_onesilent_k85_whole_pattern_texts_bent_holds
