import PyProof.Rows.All
import Wide.All
import OpenK.AllK
import Wide.FinOn
import KE.KExcSuper
import KE.KExcIs
import HandS.ForMost
import HandS.ExcInit
import HandS.TryMany
import HandS.ExcValue
import HandS.ExcField
import HandS.IsInst
import HandS.ReSub
import PySem.Challenge.RW_doorhouses_k00_errors_and_their_fields
import PyProof.ReprLen
import PyProof.StrLawsRepr
import PyProof.ReprRoads
import HandS.WordsExc
import HandS.TryOnly
import HandS.Walk
import HandS.EndBits
import HandS.ExcOwn
set_option linter.all false
set_option Elab.async false
set_option maxRecDepth 100000
set_option maxHeartbeats 4000000
/-! own exceptions whose __init__ says super().__init__("text") and stores a field, or none -/
namespace PySem
namespace Xk
open PySem.W PySem.Calls PyProof.Rows PySem.HandSPX

/-- what the written part says of an exception class -/
structure ExC (K : Frag) (C : Addr) : Prop where
  cls : ∃ nm q N bs bm sn sub ab col dd k0 k1 k2 k3 k5, K.lookup C = some (excClassObj nm q C N bs bm true sn sub ab col dd k0 k1 k2 k3 k5 "ValueError.__new__") ∧ refsVE bm = true
  sa : findIn K (.ref C) "__setattr__" = some (some (.builtin "object.__setattr__"))
  ga : findIn K (.ref C) "__getattribute__" = some (some (.builtin "BaseException.__getattribute__"))
  gg : findIn K (.ref C) "__getattr__" = some none
  exC : subIn K (.ref C) (.type "BaseException") = some true
  tyC : typeIn K (.ref C) = some (.type "type")
  kC : keepIn K (.ref C) = true
  hdC : hasDictIn K C = true
  ca : findIn K (.ref C) "__class__" = some (some (.builtin "object.__class__"))
  sp : specialIn K (.builtin "object.__class__") "__get__" = some (some (.builtin "getset_descriptor.__get__"))
  tk : takesIn K (.builtin "object.__class__") = some true
  mo : mroIn K C (.type "object") = some true
/-- all of it but the class object's own shape, in one word -/
def exB (K : Frag) (C : Addr) : Bool :=
  let g := fun x : Str => findIn K (.ref C) x
  let look : List (Option (Option Value) × Option (Option Value)) := [(g "__setattr__", some (some (.builtin "object.__setattr__"))), (g "__getattribute__", some (some (.builtin "BaseException.__getattribute__"))), (g "__getattr__", some none), (g "__class__", some (some (.builtin "object.__class__"))), (specialIn K (.builtin "object.__class__") "__get__", some (some (.builtin "getset_descriptor.__get__")))]
  (look.all fun p => decide (p.1 = p.2)) && decide (subIn K (.ref C) (.type "BaseException") = some true) && decide (takesIn K (.builtin "object.__class__") = some true) && decide (mroIn K C (.type "object") = some true) &&
    decide (typeIn K (.ref C) = some (.type "type")) && keepIn K (.ref C) && hasDictIn K C
theorem exB_ok {K : Frag} {C N : Addr} {nm q : Str} {bs bm : List Value} {sn : List Str} {sub : List Value} {ab : Bool} {col : Option Bool} {dd : Option Addr} {k0 k1 k2 k3 k5 : Option Value} (shape : K.lookup C = some (excClassObj nm q C N bs bm true sn sub ab col dd k0 k1 k2 k3 k5 "ValueError.__new__")) (r : refsVE bm = true) (h : exB K C = true) : ExC K C := by
  simp only [exB, List.all_cons, List.all_nil, Bool.and_eq_true, decide_eq_true_eq, Bool.and_true] at h
  obtain ⟨⟨⟨⟨⟨⟨⟨b1, b2, b3, b4, b5⟩, c1⟩, c2⟩, c3⟩, c4⟩, c5⟩, c6⟩ := h
  exact { cls := ⟨nm, q, N, bs, bm, sn, sub, ab, col, dd, k0, k1, k2, k3, k5, shape, r⟩, sa := b1, ga := b2, gg := b3, exC := c1, tyC := c4, kC := c5, hdC := c6, ca := b4, sp := b5, tk := c2, mo := c3 }
/-- what it says of its __init__ -/
structure ExI (K : Frag) (file : Str) (C fI : Addr) (params : Arguments) (body : List Stmt) (scope : Scope) : Prop where
  iC : findIn K (.ref C) "__init__" = some (some (.ref fI))
  tI : typeIn K (.ref fI) = some (.type "function")
  fn : ∃ (cc cda : Addr) (qual : Str) (kV doc pm ct oc : Value) (an od : Option Addr) (osl : Array (Option Value)), K.lookup fI = some ⟨oc, od, .func (ksFn "__init__" qual params body scope .none kV doc pm an (.ref cda) ct cc), osl⟩ ∧ codeIn K (.ref cda) qual = true ∧
    (∃ cl cld csl, K.lookup cc = some ⟨cl, cld, .cell (some (.ref C)), csl⟩) ∧ (∃ ccl cdd vs ccs tf, K.lookup cda = some ⟨ccl, cdd, .fields vs, ccs⟩ ∧ vs[2]? = some (.str file tf))
  sup : ks_superIn K C C "__init__" = some (some (.builtin "ValueError.__init__"))
  opq : nsIn K cStatics "thirdparty.any" = some none
  cC : mroIn K C (.ref C) = some true
  vC : subIn K (.ref C) (.type "ValueError") = some true

section
variable {prog : Program} {w : World} {A : Around} {E : Value → Shared → Prop} {R : Result → Shared → Prop} {s : Shared} {K : Frag} {base : Heap} {mg : Str → Option Value} {C fI cc cda x t0 L : Addr} {m : Str → Option Value}
  {qual : Str} {params : Arguments} {body body' : List Stmt} {scope : Scope} {file : Str}
/-- the built-in __init__, bound to the exception, is called -/
theorem call_bw {h : Heap} {g : Array GenState} {d : Drawn} {t : Nat} {os : OsState} {u e : Addr} {nm q : Str} {N : Addr} {bs bm : List Value} {sn : List Str} {sub : List Value} {ab : Bool} {col : Option Bool} {dd : Option Addr} {k0 k1 k2 k3 k5 : Option Value} {rest : List Value} {Q : Value → Shared → Prop}
    (cls : h.get? C = some (excClassObj nm q C N bs bm true sn sub ab col dd k0 k1 k2 k3 k5 "ValueError.__new__")) (exc : h.get? e = some (excO C t0)) (mw : h.get? u = some (kxs_mw "ValueError.__init__" e)) (few : rest.length ≤ sizeLine)
    (next : ∀ h' t1, (∀ b o, b ≠ e → h.get? b = some o → h'.get? b = some o) → h'.get? e = some (excO C t1) → Q .none ⟨h', g, d, t, os⟩) : wpAny (model prog w) A (call (.ref u) rest) Q E ⟨h, g, d, t, os⟩ := by
  have FB := PySem.F.excBase_ValueError
  apply wpAny_call
  apply codeAny_of_tree
  have act : (Value.type "method-wrapper" == Value.type "method" || Value.type "method-wrapper" == Value.type "builtin_function_or_method" || Value.type "method-wrapper" == Value.type "method-wrapper") = true := by decide
  show wpAny _ _ (callAny (.ref u) ⟨rest, []⟩) _ _ _
  unfold callAny
  apply wpAny_bind (wpAny_load mw _)
  dsimp only
  rw [if_pos act]
  show wpAny _ _ (if (Value.type "method-wrapper" != Value.type "method") = true then _ else _) _ _ _
  rw [if_pos (by decide)]
  apply wpAny_bind (check_bound_init FB.toExcCallFacts cls exc rfl _)
  apply wpAny_pure
  refine ⟨plainId_quiet FB.init.plain _, codeAny_builtin FB.initEntry ?_⟩
  apply exc_init_tree (cls := .ref C) (t0 := t0) (dv := none) (c2 := .none) (c3 := .none) (b4 := .bool false) exc few
  intro h' kept now _
  exact next h' _ kept now
theorem sup_eq {o : Expr} {m : Str} {apos pos p3 : Pos} {txt : Str} {j : Nat} {env : Env} (hl : (apos.endLine == pos.line) = true) :
    eval (.Call (.Attribute o m apos) [.Constant (.str txt) j p3] [] pos) env = (do
      let ov ← attributeBase o m env (eval o env)
      standAt apos.atName
      let (f, first) ← holding [ov] (getMethod ov m (do return (← importBound o env).getD true))
      callWith pos f first (backTo pos (starEach [.Constant (.str txt) j p3] env)) []) := by
  have hf : methodCallForm (1 + ([] : List Keyword).length) (backTo pos (starEach [.Constant (.str txt) j p3] env)) (backToKw pos (keywordEach [] env)) = true := rfl
  show (do
    let ov ← attributeBase o m env (eval o env)
    standAt apos.atName
    methodCall o m apos pos env ov (1 + ([] : List Keyword).length) (backTo pos (starEach [.Constant (.str txt) j p3] env)) (backToKw pos (keywordEach [] env))) = _
  unfold methodCall calleeOf methodCallPos
  rw [hf]
  simp only [hl, Bool.not_true, Bool.false_or, if_true]
  rfl
/-- super().__init__("text") -/
theorem super_line (T : ExC K C) (I : ExI K file C fI params body scope) (hfile : (prog.main.file : Str) = file) (htop : (prog.main.scope.names.lookup ("super" : Str)).isSome = false) (hms : mg "super" = none)
    (hf : ∃ (kV doc pm ct oc : Value) (an od : Option Addr) (osl : Array (Option Value)), K.lookup fI = some ⟨oc, od, .func (ksFn "__init__" qual params body scope .none kV doc pm an (.ref cda) ct cc), osl⟩)
    (hcell : ∃ cl cld csl, K.lookup cc = some ⟨cl, cld, .cell (some (.ref C)), csl⟩) (hcode : ∃ ccl cdd vs ccs tf, K.lookup cda = some ⟨ccl, cdd, .fields vs, ccs⟩ ∧ vs[2]? = some (.str file tf))
    (inK : K.In s.heap) (MB : L2.Mod K mg base) (kpb : ∀ b o, base.get? b = some o → s.heap.get? b = some o)
    {p0 p1 p2 p3 p4 p5 : Pos} {j : Nat} {txt : Str} {ar : Arg} (hl : (p2.endLine == p4.line) = true) (hi : interactive (ksEnv qual scope L fI (.ref cda) cc) = false) (hsw : swapsWith (.Call (.Attribute (.Call (.Name "super" p0) [] [] p1) "__init__" p2) [.Constant (.str txt) j p3] [] p4) none p5.line (ksEnv qual scope L fI (.ref cda) cc) = pure false) (hp : (params.posonlyargs ++ params.args).head? = some ar) (hks : scope.names.lookup ("super" : Str) = some .globalImplicit) (hkc : scope.names.lookup ("__class__" : Str) = some .free) (hka : scope.names.lookup ar.arg = some .local) (knd : scope.kind = .function)
    (hn : s.heap.Ns L m) (mself : m ar.arg = some (.ref x)) (atX : s.heap.get? x = some (excO C t0)) {Q : Flow → Shared → Prop}
    (kq : ∀ h' tk t1, (∀ b o, b ≠ x → s.heap.get? b = some o → h'.get? b = some o) → h'.get? x = some (excO C t1) → Q .next { s with heap := h', toks := tk }) :
    _root_.PySem.wpAt (model prog w) A (.func body' (ksEnv qual scope L fI (.ref cda) cc)) (exec (.Expr (.Call (.Attribute (.Call (.Name "super" p0) [] [] p1) "__init__" p2) [.Constant (.str txt) j p3] [] p4) p5) (ksEnv qual scope L fI (.ref cda) cc)) Q E s := by
  obtain ⟨nm, q, N, bs, bm, sn, sub, ab, col, dd, k0, k1, k2, k3, k5, atC, tlC⟩ := T.cls
  obtain ⟨kV, doc, pm, ct, oc, an, od, osl, hf⟩ := hf
  obtain ⟨cl, cld, csl, hcell⟩ := hcell
  obtain ⟨ccl, cdd, vs, ccs, tf, hcode, vsX⟩ := hcode
  have clC : clsIn K C = some { name := nm, bases := bs, mro := .ref C :: bm, ns := N, qualname := q, hasDict := true, slotNames := sn, subclasses := sub, abstract := ab, collection := col, hasDel := false } := by unfold clsIn; rw [atC] <;> rfl
  obtain ⟨hp0, g, d, t, oss⟩ := s
  have J : InstAt hp0 x (excO C t0) C none := ⟨atX, rfl, rfl, trivial⟩
  have hsup := I.sup
  unfold ks_superIn at hsup
  rw [clC, Option.bind_some] at hsup
  obtain ⟨mb, B1, B2⟩ := MB.blt
  refine ks_wpAt_Expr_any (ks_wpAt_MethodCall (pl := (do return (← importBound (.Call (.Name "super" p0) [] [] p1) (ksEnv qual scope L fI (.ref cda) cc)).getD true)) ?_ (sup_eq hl)) hi hsw
  refine ks_wpAt_super_base (env := ksEnv qual scope L fI (.ref cda) cc) hks hkc (by decide) rfl (inK _ _ hf) rfl hp rfl (inK _ _ hcode) rfl vsX (by rw [hfile]; simp) htop ?_
  refine ks_loadName_global knd hks (loadGlobal_builtin (env := ksEnv qual scope L fI (.ref cda) cc) (MB.glob.keeps kpb) hms (B1.keeps kpb) ((B2 _ (by decide +kernel)).trans (by kernel_rfl)) ⟨rfl, ?_⟩)
  refine wpAny_loadName_free knd hkc rfl ⟨_, inK _ _ hcell, rfl⟩ ?_
  refine wpAny_loadName_local knd hka hn mself ?_
  refine ks_wpAny_isType_cls (inK _ _ atC) rfl ⟨rfl, ?_⟩
  refine ks_wpAny_call_super (inK _ _ atC) rfl atX rfl (fun c e => by cases e) (looks_mroIn inK I.cC) (fun h1 e1 up1 => ?_)
  have X1 : K.In h1 := inK.keeps up1
  have J1 : InstAt h1 x (excO C t0) C none := ⟨up1 _ _ atX, rfl, rfl, trivial⟩
  refine kxs_getMethod kxs_ValueError e1 (looks_opaque X1 I.opq) (l₀ := .ref C :: bm) ((looks_clsIn X1 clC).andThen .now) rfl X1 hsup (J1.type.andThen (looks_subIn X1 I.vC)) (ks_ne X1 J1 clC) (by decide) ?_
  refine kxs_callWith (i := "ValueError.__init__") (x := x) rfl (evalArgs_plain ?_)
  refine spliced_cons (wpAny_Constant_str (k := j) (pos := p3) (spliced_nil ?_))
  have atU : (h1.push (kxs_mw "ValueError.__init__" x)).get? h1.objs.size = some (kxs_mw "ValueError.__init__" x) := Heap.get?_push_at rfl rfl
  have up2 : ∀ b o, hp0.get? b = some o → (h1.push (kxs_mw "ValueError.__init__" x)).get? b = some o := fun b o e => Heap.get?_push_of_some _ (up1 b o e)
  refine ⟨atU, ?_⟩
  refine call_bw (inK.keeps up2 _ _ atC) (up2 _ _ atX) atU (by rw [sizeLine_eq]; exact (by decide : 1 ≤ 16777216)) fun h' t1 k e => ?_
  exact kq h' _ t1 (fun b o kpb ho => k b o kpb (up2 b o ho)) e
/-! ### the two kinds of __init__ -/
abbrev lSup (p0 p1 p2 p3 p4 p5 : Pos) (txt : Str) : Stmt := .Expr (.Call (.Attribute (.Call (.Name "super" p0) [] [] p1) "__init__" p2) [.Constant (.str txt) 0 p3] [] p4) p5
abbrev lSet (f : Str) (q1 q2 q3 q4 : Pos) : Stmt := .Assign [.Attribute (.Name "self" q1) f q2] (.Name f q3) q4
abbrev iA0 (p : Pos) : Arguments := { posonlyargs := [], args := [{ arg := "self", annotation := none, pos := p }], vararg := none, kwonlyargs := [], kw_defaults := [], kwarg := none, defaults := [] }
abbrev iA1 (f : Str) (p q : Pos) : Arguments := { posonlyargs := [], args := [{ arg := "self", annotation := none, pos := p }, { arg := f, annotation := none, pos := q }], vararg := none, kwonlyargs := [], kw_defaults := [], kwarg := none, defaults := [] }
abbrev iS0 : Scope := { kind := .function, names := [(PySem.Str.ofString "self", .local), (PySem.Str.ofString "__class__", .free), (PySem.Str.ofString "super", .globalImplicit)], isGenerator := false, isCoroutine := false, more := [] }
abbrev iS1 (f : Str) : Scope := { kind := .function, names := [(PySem.Str.ofString "self", .local), (f, .local), (PySem.Str.ofString "__class__", .free), (PySem.Str.ofString "super", .globalImplicit)], isGenerator := false, isCoroutine := false, more := [] }
/-- what the program's text gives -/
structure Pg (prog : Program) (file : Str) (K : Frag) (mg : Str → Option Value) (base : Heap) : Prop where
  file : (prog.main.file : Str) = file
  top : (prog.main.scope.names.lookup ("super" : Str)).isSome = false
  ms : mg "super" = none
  mod : L2.Mod K mg base
/-- behind __init__ without a field -/
structure End0 (h h' : Heap) (x C : Addr) : Prop where
  kept : ∀ b o, b ≠ x → h.get? b = some o → h'.get? b = some o
  obj : ∃ t1, h'.get? x = some (excO C t1)
theorem init0 (T : ExC K C) {p p0 p1 p2 p3 p4 p5 : Pos} {txt : Str} (I : ExI K file C fI (iA0 p) [lSup p0 p1 p2 p3 p4 p5 txt] iS0) (P : Pg prog file K mg base)
    (hl : (p2.endLine == p4.line) = true) (hsw : ∀ env : Env, env.scope = iS0 → swapsWith (.Call (.Attribute (.Call (.Name "super" p0) [] [] p1) "__init__" p2) [.Constant (.str txt) 0 p3] [] p4) none p5.line env = pure false)
    (inK : K.In s.heap) (kpb : ∀ b o, base.get? b = some o → s.heap.get? b = some o) (atX : s.heap.get? x = some (excO C t0)) (hroom : A.depth < recursionLimit)
    (kq : ∀ h' tk, End0 s.heap h' x C → R (.ok (.ret .none)) { s with heap := h', toks := tk }) :
    codeAny (model prog w) A (.call (.ref fI) ⟨[.ref x], []⟩) R s := by
  obtain ⟨cc, cda, qual, kV, doc, pm, ct, oc, an, od, osl, ho, cdX, hcell, hcode⟩ := I.fn
  refine ks_codeAny_call_defAt (fd := ksFn "__init__" qual (iA0 p) [lSup p0 p1 p2 p3 p4 p5 txt] iS0 .none kV doc pm an (.ref cda) ct cc) (body := [lSup p0 p1 p2 p3 p4 p5 txt]) (binds := [("self", .ref x)]) hroom (inK _ _ ho) rfl (P.mod.nolimit.keeps kpb) (codeRec_of inK cdX) rfl (.of_eq (by first | rfl | with_unfolding_all rfl)) (by intro y hy; simp only [List.mem_cons, List.not_mem_nil, or_false] at hy; rcases hy with rfl | rfl | rfl <;> simp) (by intro y hy; simp only [List.mem_cons, List.not_mem_nil, or_false] at hy; subst hy; rfl) (fun h0 hn k0 => ?_)
  show _root_.PySem.wpAt _ _ (.func [lSup p0 p1 p2 p3 p4 p5 txt] (ksEnv qual iS0 s.heap.objs.size fI (.ref cda) cc)) (execs [lSup p0 p1 p2 p3 p4 p5 txt] (ksEnv qual iS0 s.heap.objs.size fI (.ref cda) cc)) _ _ _
  refine ks_wpAt_execs_cons ?_
  refine super_line T I P.file P.top P.ms ⟨kV, doc, pm, ct, oc, an, od, osl, ho⟩ hcell hcode (inK.keeps k0) P.mod (fun b o e => k0 b o (kpb b o e)) hl rfl (hsw _ rfl) rfl (by rfl) (by rfl) (by rfl) rfl hn rfl (k0 _ _ atX) fun h' tk t1 k e => ?_
  show _root_.PySem.wpAt _ _ _ (execs [] _) _ _ _
  refine wpAt_of_wpAny (wpAny_execs_nil (kq h' tk ⟨fun b o kpb ho => k b o kpb (k0 b o ho), t1, e⟩))
/-- behind __init__ with a field -/
structure End1 (h h' : Heap) (x C dx : Addr) (f : Str) (v : Value) : Prop where
  kept : ∀ b o, b ≠ x → h.get? b = some o → h'.get? b = some o
  obj : ∃ t1 : Addr, h'.get? x = some { cls := .ref C, dict := some dx, data := .fields #[.ref t1, .none, .none, .none, .bool false, .none] }
  dbig : h.objs.size ≤ dx
  dne : dx ≠ x
  ns : h'.Ns1 dx (fun y => if y = f then some v else none)
theorem init1 (T : ExC K C) {p q p0 p1 p2 p3 p4 p5 q1 q2 q3 q4 : Pos} {txt f : Str} (I : ExI K file C fI (iA1 f p q) [lSup p0 p1 p2 p3 p4 p5 txt, lSet f q1 q2 q3 q4] (iS1 f)) (P : Pg prog file K mg base) {v : Value}
    (hl : (p2.endLine == p4.line) = true) (hsw : ∀ env : Env, env.scope = iS1 f → swapsWith (.Call (.Attribute (.Call (.Name "super" p0) [] [] p1) "__init__" p2) [.Constant (.str txt) 0 p3] [] p4) none p5.line env = pure false)
    (hsw2 : ∀ env : Env, env.scope = iS1 f → swapsWith (.Name f q3) (some (.Attribute (.Name "self" q1) f q2)) q4.line env = pure false)
    (hbd : ∀ (s : Shared) (fd : FuncData) (us : List Value), fd.params = iA1 f p q → fd.defaults = .none → us = [.ref x, v] → BindsTo s fd ⟨us, []⟩ [("self", .ref x), (f, v)])
    (hlk : ((iS1 f).names.lookup f = some .local) ∧ ((iS1 f).names.lookup ("super" : Str) = some .globalImplicit) ∧ ((iS1 f).names.lookup ("__class__" : Str) = some .free) ∧ (f == ("__debug__" : Str)) = false ∧ (("self" : Str) == f) = false)
    (hno : findIn K (.ref C) f = some none) (hnx : K.lookup x = none)
    (inK : K.In s.heap) (kpb : ∀ b o, base.get? b = some o → s.heap.get? b = some o) (atX : s.heap.get? x = some (excO C t0)) (hroom : A.depth < recursionLimit)
    (kq : ∀ h' tk dx, End1 s.heap h' x C dx f v → R (.ok (.ret .none)) { s with heap := h', toks := tk }) :
    codeAny (model prog w) A (.call (.ref fI) ⟨[.ref x, v], []⟩) R s := by
  obtain ⟨nm, qn, N, bs, bm, sn, sub, ab, col, dd, k0, k1, k2, k3, k5, atC, tlC⟩ := T.cls
  have clC : clsIn K C = some { name := nm, bases := bs, mro := .ref C :: bm, ns := N, qualname := qn, hasDict := true, slotNames := sn, subclasses := sub, abstract := ab, collection := col, hasDel := false } := by unfold clsIn; rw [atC] <;> rfl
  obtain ⟨cc, cda, qual, kV, doc, pm, ct, oc, an, od, osl, ho, cdX, hcell, hcode⟩ := I.fn
  obtain ⟨hl1, hl2, hl3, hl4, hl5⟩ := hlk
  refine ks_codeAny_call_defAt (fd := ksFn "__init__" qual (iA1 f p q) [lSup p0 p1 p2 p3 p4 p5 txt, lSet f q1 q2 q3 q4] (iS1 f) .none kV doc pm an (.ref cda) ct cc) (body := [lSup p0 p1 p2 p3 p4 p5 txt, lSet f q1 q2 q3 q4]) (binds := [("self", .ref x), (f, v)]) hroom (inK _ _ ho) rfl (P.mod.nolimit.keeps kpb) (codeRec_of inK cdX) rfl
    (hbd _ _ _ rfl rfl rfl) (by intro y hy; simp only [List.mem_cons, List.not_mem_nil, or_false] at hy; rcases hy with rfl | rfl | rfl | rfl <;> simp) (by intro y hy; simp only [List.mem_cons, List.not_mem_nil, or_false] at hy; rcases hy with rfl | rfl; rfl; exact hl1) (fun h0 hn kk => ?_)
  show _root_.PySem.wpAt _ _ (.func [lSup p0 p1 p2 p3 p4 p5 txt, lSet f q1 q2 q3 q4] (ksEnv qual (iS1 f) s.heap.objs.size fI (.ref cda) cc)) (execs [lSup p0 p1 p2 p3 p4 p5 txt, lSet f q1 q2 q3 q4] (ksEnv qual (iS1 f) s.heap.objs.size fI (.ref cda) cc)) _ _ _
  refine ks_wpAt_execs_cons ?_
  have hself : ([(("self" : Str), Value.ref x), (f, v)] : List (Str × Value)).reverse.lookup ("self" : Str) = some (.ref x) := by
    simp [List.lookup, hl5]
  have hff : ([("self", Value.ref x), (f, v)] : List (Str × Value)).reverse.lookup f = some v := by
    simp [List.lookup]
  refine super_line T I P.file P.top P.ms ⟨kV, doc, pm, ct, oc, an, od, osl, ho⟩ hcell hcode (inK.keeps kk) P.mod (fun b o e => kk b o (kpb b o e)) hl rfl (hsw _ rfl) rfl hl2 hl3 (by rfl) rfl hn hself (kk _ _ atX) fun h' tk t1 k e => ?_
  show _root_.PySem.wpAt _ _ _ (execs [lSet f q1 q2 q3 q4] _) _ _ _
  have nXL : s.heap.objs.size ≠ x := Nat.ne_of_gt (Heap.lt_size atX)
  have hn1 : h'.Ns s.heap.objs.size (fun y => ([("self", Value.ref x), (f, v)] : List (Str × Value)).reverse.lookup y) := hn.at fun o zz => k _ o nXL zz
  have X1 : K.In h' := fun b o zz => k b o (fun y => by
    rw [y, hnx] at zz
    cases zz) (inK.keeps kk b o zz)
  refine wpAt_of_wpAny (wpAny_execs_cons (plainObj_wpAny_Assign_Attribute ?_ (hsw2 _ rfl)))
  refine wpAny_Name (wpAny_loadName_local (env := ksEnv qual (iS1 f) s.heap.objs.size fI (.ref cda) cc) rfl hl1 hn1 hff ?_) hl4
  refine wpAny_Name (wpAny_loadName_local (env := ksEnv qual (iS1 f) s.heap.objs.size fI (.ref cda) cc) rfl (by rfl) hn1 hself ?_) (by decide)
  refine set_plain X1 (ox := excO C t1) (od := none) ⟨e, rfl, rfl, trivial⟩ T.sa ?_
  refine exc_osa X1 e clC (show refsVE (.ref C :: bm) = true from tlC) rfl hno (fun h3 tk3 dx k3 dn dne hx3 hn3 => ?_)
  show wpAny _ _ (execs _ _) _ _ _
  have lt : s.heap.objs.size < h'.objs.size := hn1.lt
  exact wpAny_execs_nil (kq h3 tk3 dx ⟨fun b o kpb ho => k3 b o kpb (k b o kpb (kk b o ho)), ⟨t1, hx3⟩, Nat.le_of_lt (Nat.lt_of_lt_of_le lt dn), dne, hn3⟩)
/-! ### such an exception, made -/
theorem bind_of (I : ExI K file C fI params body scope) {h : Heap} (inK : K.In h) (self : Value) : W.Looks (model prog w) h (bindSpecial (.ref fI) self) (.ref fI, [self]) := bind_fn inK self I.tI
structure Made0 (h h' : Heap) (e C : Addr) : Prop where
  kept : ∀ b o, h.get? b = some o → h'.get? b = some o
  new : h.get? e = none
  obj : ∃ t1, h'.get? e = some (excO C t1)
structure Made1 (h h' : Heap) (e C d : Addr) (f : Str) (v : Value) : Prop where
  kept : ∀ b o, h.get? b = some o → h'.get? b = some o
  new : h.objs.size ≤ e
  obj : ∃ t1 : Addr, h'.get? e = some { cls := .ref C, dict := some d, data := .fields #[.ref t1, .none, .none, .none, .bool false, .none] }
  dbig : h.objs.size ≤ d
  dne : d ≠ e
  ns : h'.Ns1 d (fun y => if y = f then some v else none)
theorem made_ctx {h : Heap} {rest : List Value} (inK : K.In h) :
    (∀ b o, h.get? b = some o → ((h.push (kdv_tup rest)).push (excO C h.objs.size)).get? b = some o) ∧ ((h.push (kdv_tup rest)).push (excO C h.objs.size)).get? (h.objs.size + 1) = some (excO C h.objs.size) ∧ K.lookup (h.objs.size + 1) = none := by
  refine ⟨fun b o e => Heap.get?_push_of_some _ (Heap.get?_push_of_some _ e), by heap_get, ?_⟩
  cases e : K.lookup (h.objs.size + 1) with
  | none => rfl
  | some o =>
    have zz : h.get? (h.objs.size + 1) = some o := inK _ _ e
    exact absurd (Nat.lt_of_succ_lt (Heap.lt_size zz)) (Nat.lt_irrefl _)
theorem made0 (T : ExC K C) {p p0 p1 p2 p3 p4 p5 : Pos} {txt : Str} (I : ExI K file C fI (iA0 p) [lSup p0 p1 p2 p3 p4 p5 txt] iS0) (P : Pg prog file K mg base)
    (hl : (p2.endLine == p4.line) = true) (hsw : ∀ env : Env, env.scope = iS0 → swapsWith (.Call (.Attribute (.Call (.Name "super" p0) [] [] p1) "__init__" p2) [.Constant (.str txt) 0 p3] [] p4) none p5.line env = pure false)
    (inK : K.In s.heap) (kpb : ∀ b o, base.get? b = some o → s.heap.get? b = some o) (hroom : A.depth + 1 < recursionLimit)
    (kq : ∀ h' tk e, Made0 s.heap h' e C → R (.ok (.ret (.ref e))) { s with heap := h', toks := tk }) :
    codeAny (model prog w) A (.call (.ref C) ⟨[], []⟩) R s := by
  obtain ⟨nm, q, N, bs, bm, sn, sub, ab, col, dd, k0, k1, k2, k3, k5, atC, tlC⟩ := T.cls
  obtain ⟨hp, g, d, t, oss⟩ := s
  obtain ⟨kk, atX, hnx⟩ := made_ctx (C := C) (rest := []) inK
  refine call_own F.excBase_ValueError (fun Y => refsVE_contains Y bm tlC) (inK _ _ atC) (looks_findIn inK I.iC) (fun self => bind_of I inK self) (by rw [sizeLine_eq]; exact (by decide : 0 ≤ 16777216)) ?_
  refine init0 (s := ⟨(hp.push (kdv_tup [])).push (excO C hp.objs.size), g, d, t, oss⟩) T I P hl hsw (inK.keeps kk) (fun b o e => kk b o (kpb b o e)) atX (by show A.depth + 1 < recursionLimit; exact hroom) fun h' tk M => ?_
  obtain ⟨t1, e1⟩ := M.obj
  exact ⟨rfl, kq h' tk _ ⟨fun b o e => M.kept b o (Nat.ne_of_lt (Nat.lt_succ_of_lt (Heap.lt_size e))) (kk b o e), Heap.get?_none_of_le (Nat.le_succ _), t1, e1⟩⟩
theorem made1 (T : ExC K C) {p q p0 p1 p2 p3 p4 p5 q1 q2 q3 q4 : Pos} {txt f : Str} (I : ExI K file C fI (iA1 f p q) [lSup p0 p1 p2 p3 p4 p5 txt, lSet f q1 q2 q3 q4] (iS1 f)) (P : Pg prog file K mg base) {v : Value}
    (hl : (p2.endLine == p4.line) = true) (hsw : ∀ env : Env, env.scope = iS1 f → swapsWith (.Call (.Attribute (.Call (.Name "super" p0) [] [] p1) "__init__" p2) [.Constant (.str txt) 0 p3] [] p4) none p5.line env = pure false)
    (hsw2 : ∀ env : Env, env.scope = iS1 f → swapsWith (.Name f q3) (some (.Attribute (.Name "self" q1) f q2)) q4.line env = pure false)
    (hbd : ∀ (x : Addr) (v : Value) (s : Shared) (fd : FuncData) (us : List Value), fd.params = iA1 f p q → fd.defaults = .none → us = [.ref x, v] → BindsTo s fd ⟨us, []⟩ [("self", .ref x), (f, v)])
    (hlk : ((iS1 f).names.lookup f = some .local) ∧ ((iS1 f).names.lookup ("super" : Str) = some .globalImplicit) ∧ ((iS1 f).names.lookup ("__class__" : Str) = some .free) ∧ (f == ("__debug__" : Str)) = false ∧ (("self" : Str) == f) = false)
    (hno : findIn K (.ref C) f = some none)
    (inK : K.In s.heap) (kpb : ∀ b o, base.get? b = some o → s.heap.get? b = some o) (hroom : A.depth + 1 < recursionLimit)
    (kq : ∀ h' tk e d, Made1 s.heap h' e C d f v → R (.ok (.ret (.ref e))) { s with heap := h', toks := tk }) :
    codeAny (model prog w) A (.call (.ref C) ⟨[v], []⟩) R s := by
  obtain ⟨nm, qn, N, bs, bm, sn, sub, ab, col, dd, k0, k1, k2, k3, k5, atC, tlC⟩ := T.cls
  obtain ⟨hp, g, d, t, oss⟩ := s
  obtain ⟨kk, atX, hnx⟩ := made_ctx (C := C) (rest := [v]) inK
  refine call_own F.excBase_ValueError (fun Y => refsVE_contains Y bm tlC) (inK _ _ atC) (looks_findIn inK I.iC) (fun self => bind_of I inK self) (by rw [sizeLine_eq]; exact (by decide : 1 ≤ 16777216)) ?_
  refine init1 (s := ⟨(hp.push (kdv_tup [v])).push (excO C hp.objs.size), g, d, t, oss⟩) T I P hl hsw hsw2 (hbd _ _) hlk hno hnx (inK.keeps kk) (fun b o e => kk b o (kpb b o e)) atX (by show A.depth + 1 < recursionLimit; exact hroom) fun h' tk dx M => ?_
  have zz : hp.objs.size + 1 + 1 ≤ dx := by
    have q := M.dbig
    first
      | exact q
      | (rw [Heap.size_push, Heap.size_push] at q; exact q)
  exact ⟨rfl, kq h' tk _ dx ⟨fun b o e => M.kept b o (Nat.ne_of_lt (Nat.lt_succ_of_lt (Heap.lt_size e))) (kk b o e), Nat.le_succ _, M.obj, Nat.le_trans (Nat.le_trans (Nat.le_succ _) (Nat.le_succ _)) zz, M.dne, M.ns⟩⟩
end
end Xk
end PySem
/-! one call of a def, by what its body does there (so what stands around the call is known: that no repr is under way) -/
namespace Ev
open PySem PySem.Spec PyProof.Rows L2
section
variable {P : Program} {w : World} {K : PySem.W.Frag} {mg : Str → Option Value} {base : Heap} {C : CXT} {k : Nat} {f : Addr} {x qual : Str} {params : Arguments} {body : List Stmt} {scope : Scope} {u1 u2 u3 u4 u5 u6 u7 : Value} {an od : Option Addr}
  {sl : Array (Option Value)} {N ps : List Str} {sp : Sp}
def told : Flow → Value
  | .ret u => u
  | _ => .none
/-- what a body leaves is what its call leaves -/
theorem left_by {A : Around} {outer : List Env} {s s' : Shared} {H : Hp} {Q : VK} {E : XK} {cdv : Value} {way : Flow} (h : SP (cxOf C P w K mg base N qual scope f cdv A outer s H E) [] { nx := fun _ H' => Q .non H', rt := Q } way s') :
    CE outer P w H s Q (told way) s' := by
  have close {σ : L2.St} {G : Hp} {v : V} {u : Value} (J : L2.Inv (cxOf C P w K mg base N qual scope f cdv A outer s H E) [] σ G s') (r : RelV v u) (q : Q v G) : CE outer P w H s Q u s' := ⟨v, G, J.os, J.bare, J.base, J.hok, r, q⟩
  match way, h with
  | .next, ⟨_, _, J, q⟩ => exact close (v := .non) J rfl q
  | .ret _, ⟨_, _, _, J, r, q⟩ => exact close J r q
  | .brk, ⟨_, _, _, no⟩ => exact no.elim
  | .cont, ⟨_, _, _, no⟩ => exact no.elim
/-- one call, by its body -/
theorem run_at {A : Around} {outer : List Env} {s : Shared} {H : Hp} {args : Args} {us : List Value} {vs : List V} {Q : VK} {E : XK} {t : L2.TS} (at_ : K.lookup f = some ⟨u1, od, .func (PySem.W.fnOf x qual params body scope u2 u3 u4 u5 an u6 u7), sl⟩) (code : PySem.W.codeIn K u6 qual = true) (S : FnScope N ps scope)
    (room : Room (k + 1) A) (enter : Env0 P w K mg base A outer s H) (binds : BindsTo s (PySem.W.fnOf x qual params body scope u2 u3 u4 u5 an u6 u7) args (ps.zip us)) (rel : Vals vs us) (many : vs.length = ps.length)
    (walk : PSs (cxOf C P w K mg base N qual scope f u6 A outer s H E) body t) (reads : t { nx := fun _ G => Q .non G, rt := Q } (start N vs) H) : codeAny (model P w) A (.call (.ref f) args) (CR C outer P w H s Q E) s := by
  have stands {b : Addr} {o : Obj} (e : base.get? b = some o) : s.heap.get? b = some o := (enter.bs b o e).1
  have inK : K.In s.heap := enter.mod.kin.keeps fun _ _ => stands
  have known : ∀ y ∈ ps.zip us, scope.names.lookup y.1 = some .local ∨ (scope.names.lookup y.1 = some .cell ∧ ((cellsFrom (s.heap.objs.size + 1) scope.names []).lookup y.1).isSome = true) := by
    intro y hy
    refine (S.par y.1 (List.of_mem_zip hy).1).imp id fun c => ?_
    exact ⟨c, PySem.W.cellsFrom_some _ _ _ (.inl c)⟩
  apply codeAny_call_function room.depth (inK _ _ at_) rfl S.co S.gen rfl (PySem.W.codeRec_of inK code)
  apply binds
  apply wpAny_newFunctionEnv_cells S.kind known
  rintro _ rfl s1 called
  constructor
  · exact (enter.mod.nolimit.keeps fun _ _ => stands).keeps called.toInCall.keep
  apply codeAny_func
  apply wpAny_mono (walk.run [] s1 _ H _ (inv_start S room.hd enter many rel called) reads)
  · intro way s' h
    have done_ := left_by h
    cases way <;> exact done_
  · exact fun _ _ h => h
end
end Ev
/-! own exceptions as values over the layer: made, asked for their class, their field read; raised; caught by one of many clauses -/
namespace Xk
open PySem L2
/-- an exception at a, no field -/
def Er0 (H : Hp) (a C : Addr) : Prop := H a = some (exo a C none)
/-- an exception at a, one field -/
def Er1 (H : Hp) (a C : Addr) (f : Str) (v : V) : Prop := ∃ dx, H a = some (exo a C (some dx)) ∧ H dx = some (exd dx [(f, v)])
theorem Er0.same {H H' : Hp} {a C : Addr} (h : Er0 H a C) (s : Same H H') : Er0 H' a C := s _ _ h
theorem Er1.same {H H' : Hp} {a C : Addr} {f : Str} {v : V} (h : Er1 H a C f v) (s : Same H H') : Er1 H' a C f v := let ⟨dx, e1, e2⟩ := h; ⟨dx, s _ _ e1, s _ _ e2⟩
/-- an exception of the class at C -/
def ErC (H : Hp) (a C : Addr) : Prop := ∃ d, H a = some (exo a C d) ∧ ∀ dx, d = some dx → ∃ fs, H dx = some (exd dx fs)
theorem Er0.cls {H : Hp} {a C : Addr} (h : Er0 H a C) : ErC H a C := ⟨none, h, fun dx e => by cases e⟩
theorem Er1.cls {H : Hp} {a C : Addr} {f : Str} {v : V} (h : Er1 H a C f v) : ErC H a C := let ⟨dx, e1, e2⟩ := h; ⟨some dx, e1, fun y e => by cases e; exact ⟨_, e2⟩⟩
section
variable {X : Cx} {pps : List (Addr × PySem.Obj)} {σ : St} {H : Hp} {s : Shared}
theorem inst_of (I : Inv X pps σ H s) {a C : Addr} (h : ErC H a C) : ∃ ox od, PySem.W.InstAt s.heap a ox C od := by
  obtain ⟨d, e, hd⟩ := h
  obtain ⟨t1, he⟩ := exo_at I.hok e
  cases d with
  | none => exact ⟨_, none, he, rfl, rfl, trivial⟩
  | some dx =>
    obtain ⟨fs, e2⟩ := hd dx rfl
    obtain ⟨mA, nsA, _⟩ := exd_at I.hok e2
    obtain ⟨od, es, ep, ho, _⟩ := nsA
    exact ⟨_, some od, he, rfl, rfl, ho⟩
/-- isinstance(e, c) of an exception -/
def rIsX (K : PySem.W.Frag) : List V → Hp → VK → Prop := fun xs H Q => ∃ (a C : Addr) (c : V) (cv : Value) (b : Bool), xs = [.ref a, c] ∧ ErC H a C ∧ Xk.ExC K C ∧ (∀ u, RelV c u → u = cv) ∧ PySem.W.kitOne K (.ref C) cv = some b ∧ Q (.bl b) H
theorem call_isX : CallR X (.builtin "isinstance") (rIsX X.K) := by
  rintro pins s σ H _ us Q I rel ⟨a, C, c, cv, b, rfl, here, T, only, ans, fin⟩
  rcases rel with _ | ⟨r1, _ | ⟨r2, _ | _⟩⟩
  cases r1
  cases only _ r2
  obtain ⟨ox, od, inst⟩ := inst_of I here
  obtain ⟨_, _, _, _, _, _, _, _, _, _, _, _, _, _, _, shape, _⟩ := T.cls
  have known : (PySem.W.clsIn X.K C).isSome = true := by
    unfold PySem.W.clsIn
    rw [shape]
    rfl
  apply PySem.W.kia_one (PySem.W.kitx_exc known T.ga T.gg T.exC T.ca T.sp T.tk T.mo) I.kIn inst ans (by rintro ⟨⟩)
  intro tk
  exact ⟨.bl b, H, I.kept (t' := tk) fun _ _ z => z, rfl, fin⟩
/-- error.f -/
def tFldX (K : PySem.W.Frag) (f : Str) (te : TE) : TE := fun σ H Q => te σ H fun x G => ∃ (a C : Addr) (v : V), x = .ref a ∧ Er1 G a C f v ∧ Xk.ExC K C ∧ PySem.W.findIn K (.ref C) f = some none ∧ Q v G
theorem pe_fldX {e : Expr} {te : TE} {f : Str} {p : Pos} (he : PE X e te) (base : attributeBase e f X.env (eval e X.env) = eval e X.env := by rfl) : PE X (.Attribute e f p) (tFldX X.K f te) := by
  constructor
  intro pins s σ H Q I go
  apply attr_of base
  apply thn (he.run pins s σ H _ I go)
  rintro _ s1 ⟨_, G, J, rx, a, C, v, rfl, ⟨dx, e1, e2⟩, T, free, fin⟩
  cases rx
  obtain ⟨t1, rec⟩ := exo_at J.hok e1
  obtain ⟨m, names, told⟩ := exd_at J.hok e2
  obtain ⟨od, dict, look⟩ := lookIn_ns names
  have one : ([(f, v)] : List (Str × V)).lookup f = some v := by simp [List.lookup]
  obtain ⟨u, mu, ru⟩ := RelO.some_of (v := v) (o := m f) (one ▸ told f)
  have inst : PySem.W.InstAt s1.heap a _ C (some od) := ⟨rec, rfl, rfl, dict⟩
  apply HandSPX.exc_get J.kIn inst T.ga T.gg T.exC (PySem.W.findObj_own T.hdC free rfl (by rw [look, mu])) (handed_of ru)
  exact ⟨v, G, J.tok _, ru, fin⟩
end
/-! ### made -/
section
variable {X : Cx} {K : PySem.W.Frag} {C fI : Addr} {f : Str} {file : Str}
/-- what a call of a class without a field, with a field, leaves -/
def Mk0 (X : Cx) (C : Addr) : Prop := ∀ (A : Around) (s : Shared) (Q : Value → Shared → Prop) (E : Value → Shared → Prop), L2.Mod X.K X.mg X.base → X.K.In s.heap → (∀ b o, X.base.get? b = some o → s.heap.get? b = some o) → A.depth + 1 < recursionLimit →
  (∀ h' tk e, Xk.Made0 s.heap h' e C → Q (.ref e) { s with heap := h', toks := tk }) → wpAny (model X.prog X.w) A (call (.ref C) []) Q E s
def Mk1 (X : Cx) (C : Addr) (f : Str) : Prop := ∀ (A : Around) (s : Shared) (R : Result → Shared → Prop) (v : Value), L2.Mod X.K X.mg X.base → X.K.In s.heap → (∀ b o, X.base.get? b = some o → s.heap.get? b = some o) → A.depth + 1 < recursionLimit →
  (∀ h' tk e d, Xk.Made1 s.heap h' e C d f v → R (.ok (.ret (.ref e))) { s with heap := h', toks := tk }) → codeAny (model X.prog X.w) A (.call (.ref C) ⟨[v], []⟩) R s
def tMk0 (C : Addr) : TE := fun _ H Q => ∀ a H', Same H H' → H a = none → Er0 H' a C → Q (.ref a) H'
def tMk1 (C : Addr) (f : Str) (te : TE) : TE := fun σ H Q => te σ H fun v H1 => ∀ a H', Same H1 H' → H1 a = none → Er1 H' a C f v → Q (.ref a) H'
variable {x : Str} {p qos : Pos} {k : Nat}
theorem pe_mk0 (M : Mk0 X C) (hkp : PySem.W.keepIn X.K (.ref C) = true) (hr : Room k X.A) (hk1 : 1 ≤ k) (hgl : Gl X x) (hm : X.mg x = some (.ref C)) (hd : (x == ("__debug__" : Str)) = false) : PE X (.Call (.Name x p) [] [] qos) (tMk0 C) := by
  refine ⟨fun pps s σ H Q I h => ?_⟩
  refine wpAny_Call_Name_kw (ld_glob I hgl hm ?_ hd)
  refine PySem.W.callWith_K0 I.kIn hkp ?_
  show wpAny _ _ (call (.ref C) []) _ _ _
  refine M X.A s _ _ I.mod I.kIn I.bk (by have := hr.dp; omega) fun h' tk e hM => ?_
  obtain ⟨t1, e1⟩ := hM.obj
  have hn : H e = none := I.hok.gone hM.new
  exact ⟨.ref e, upd H e (exo e C none), I.laidN hM.kept hM.new hn (exo_ok e1), rfl, h e _ (fun b o z => by rw [upd_ne (ne_of_none z hn)]; exact z) hn upd_same⟩
theorem pe_mk1 {e : Expr} {te : TE} (M : Mk1 X C f) (hkp : PySem.W.keepIn X.K (.ref C) = true) (hr : Room k X.A) (hk1 : 1 ≤ k) (hgl : Gl X x) (hm : X.mg x = some (.ref C)) (hd : (x == ("__debug__" : Str)) = false) (he : PE X e te)
    (hs : starEach [e] X.env = (false, eval e X.env) :: starEach [] X.env) : PE X (.Call (.Name x p) [e] [] qos) (tMk1 C f te) := by
  refine ⟨fun pps s σ H Q I h => ?_⟩
  refine wpAny_Call_Name_kw (ld_glob I hgl hm ?_ hd)
  refine PySem.W.callWith_K (h₀ := X.base) I.ok.mod.kin hkp ?_ hs rfl
  rw [hs]
  show wpAny _ _ (spliced ((false, eval e X.env) :: backTo qos (starEach [] X.env))) _ _ s
  refine Calls.spliced_cons (thn (he.run pps s σ H _ I h) fun u s1 ⟨v, H1, Iv, r1, q1⟩ => ?_)
  refine Calls.spliced_nil ⟨Iv.kIn, ?_⟩
  show wpAny _ _ (call (.ref C) [u]) _ _ _
  refine wpAny_call (M X.A s1 _ u Iv.mod Iv.kIn Iv.bk (by have := hr.dp; omega) fun h' tk a d hM => ?_)
  obtain ⟨hp, g, dr, tk0, os⟩ := s1
  obtain ⟨t1, e1⟩ := hM.obj
  have hn : H1 a = none := Iv.hok.fresh hM.new
  have hnd : H1 d = none := Iv.hok.fresh hM.dbig
  have rel : ∀ g, RelO (([(f, v)] : List (Str × V)).lookup g) (if g = f then some u else none) := fun g => relO_put (fs := []) (mA := fun _ => none) r1 (fun _ => True.intro) g
  have nd : ∀ {b : Addr} {o : PySem.Obj}, hp.get? b = some o → b ≠ d := fun {b o} z => Nat.ne_of_lt (Nat.lt_of_lt_of_le (Heap.lt_size z) hM.dbig)
  have na : ∀ {b : Addr} {o : PySem.Obj}, hp.get? b = some o → b ≠ a := fun {b o} z => Nat.ne_of_lt (Nat.lt_of_lt_of_le (Heap.lt_size z) hM.new)
  have U : Un X.fs [] H1 (upd (upd H1 d (exd d [(f, v)])) a (exo a C (some d))) hp h' := {
    keep := fun b o z _ _ _ => hM.kept b o z
    slot := fun b o z _ _ _ => ⟨o.slots, hM.kept b o z⟩
    free := fun b o z n _ => by rw [upd_ne (na z), upd_ne (nd z)]; exact n
    there := fun b o z _ => ⟨o, hM.kept b o z⟩
    tups := fun b xs z => by rw [upd_ne (ne_of_none z hn), upd_ne (ne_of_none z hnd)]; exact z
    frzs := fun b o w z => by rw [upd_ne (ne_of_none z hn), upd_ne (ne_of_none z hnd)]; exact z
    tbls := fun b ps z => ⟨#[], by rw [upd_ne (ne_of_none z hn), upd_ne (ne_of_none z hnd), z]; simp⟩ }
  have sm : Same H1 (upd (upd H1 d (exd d [(f, v)])) a (exo a C (some d))) := fun b o z => by rw [upd_ne (ne_of_none z hn), upd_ne (ne_of_none z hnd)]; exact z
  refine ⟨.ref a, _, Iv.un (t' := tk) U fun b o z => ?_, rfl, q1 a _ sm hn ⟨d, upd_same, by rw [upd_ne hM.dne]; exact upd_same⟩⟩
  by_cases hb : b = a
  · subst hb
    rw [upd_same] at z
    cases z
    exact exo_ok e1
  · rw [upd_ne hb] at z
    by_cases hd : b = d
    · subst hd
      rw [upd_same] at z
      cases z
      exact exd_ok hM.ns rel
    · rw [upd_ne hd] at z
      exact (Iv.hok b o z).stay (fun c w _ y => hM.kept c w y) (fun c hcl => sm c _ hcl) fun c xs hcl => sm c _ hcl
end
/-! ### raised -/
def tRs1 (C : Addr) (f : Str) (W : WX) (te : TE) : TS := fun _ σ H => te σ H fun v H1 => ∀ d, H1 d = none → W (.ref C) (some d) σ (upd H1 d (.xd [(f, v)]))
section
variable {X : Cx} {C : Addr} {f x : Str} {p qos pos2 : Pos} {k : Nat}
theorem pmk_mk1 {e : Expr} {te : TE} (T : Xk.ExC X.K C) (M : Mk1 X C f) (hr : Room k X.A) (hk1 : 1 ≤ k) (hgl : Gl X x) (hm : X.mg x = some (.ref C)) (hd : (x == ("__debug__" : Str)) = false) (he : PE X e te)
    (hs : starEach [e] X.env = (false, eval e X.env) :: starEach [] X.env) :
    PMk X (.Call (.Name x p) [e] [] qos) (fun σ H Q => te σ H fun v H1 => ∀ d, H1 d = none → Q (.ref C) (some d) (upd H1 d (.xd [(f, v)]))) := by
  intro pps s σ H Q I h
  refine wpAny_Call_Name_kw (ld_glob I hgl hm ?_ hd)
  refine PySem.W.callWith_K (h₀ := X.base) I.ok.mod.kin T.kC ?_ hs rfl
  rw [hs]
  show wpAny _ _ (spliced ((false, eval e X.env) :: backTo qos (starEach [] X.env))) _ _ s
  refine Calls.spliced_cons (thn (he.run pps s σ H _ I h) fun u s1 ⟨v, H1, Iv, r1, q1⟩ => ?_)
  refine Calls.spliced_nil ⟨Iv.kIn, ?_⟩
  show wpAny _ _ (call (.ref C) [u]) _ _ _
  refine wpAny_call (M X.A s1 _ u Iv.mod Iv.kIn Iv.bk (by have := hr.dp; omega) fun h' tk a d hM => ?_)
  show MkP X pps σ Q (.ref a) _
  obtain ⟨hp, g, dr, tk0, os⟩ := s1
  obtain ⟨t1, hoe⟩ := hM.obj
  have hnd : H1 d = none := Iv.hok.fresh hM.dbig
  obtain ⟨G, g1, g2⟩ := restrict h' fun b => decide (b ≠ a)
  have gk : ∀ b, b ≠ a → G.get? b = h'.get? b := fun b hb => g1 b (decide_eq_true hb)
  have ge : G.get? a = none := g2 a (by simp)
  have old : ∀ b o, hp.get? b = some o → G.get? b = some o := fun b o z => (gk b (Nat.ne_of_lt (Nat.lt_of_lt_of_le (Heap.lt_size z) hM.new))).trans (hM.kept b o z)
  have rel : ∀ y, RelO (([(f, v)] : List (Str × V)).lookup y) (if y = f then some u else none) := fun y => relO_put (fs := []) (mA := fun _ => none) r1 (fun _ => True.intro) y
  have ob : ObjOk X.prog X.w (upd H1 d (.xd [(f, v)])) G d (.xd [(f, v)]) := ⟨_, hM.ns.at (fun o z => (gk d hM.dne).trans z), rel⟩
  have Jb : Inv X pps σ (upd H1 d (.xd [(f, v)])) ⟨G, g, dr, tk, os⟩ := Iv.laid (t' := tk) old hM.dbig ob
  refine ⟨a, _, _, ⟨G, g, dr, tk, os⟩, _, .ref C, some d, rfl, Jb, fun b o z => ?_, ge, hoe, ⟨rfl, rfl⟩, rfl, rfl, ?_, rfl, Iv.bare, raises_own T.exC T.tyC, q1 d hnd⟩
  · by_cases hb : b = a
    · have z' : G.get? b = some o := z
      rw [hb, ge] at z'
      cases z'
    · exact (gk b hb).symm.trans z
  · rw [upd_ne (Ne.symm hM.dne)]
    exact Iv.hok.fresh hM.new
theorem ps_rs1 {e : Expr} {te : TE} {W : WX} (hcl : X.calm = true) (T : Xk.ExC X.K C) (M : Mk1 X C f) (hr : Room k X.A) (hk1 : 1 ≤ k) (tk : Takes X W) (hgl : Gl X x) (hm : X.mg x = some (.ref C)) (hd : (x == ("__debug__" : Str)) = false) (he : PE X e te)
    (hs : starEach [e] X.env = (false, eval e X.env) :: starEach [] X.env) :
    PS X (.Raise (some (.Call (.Name x p) [e] [] qos)) none pos2) (tRs1 C f W te) := ps_raise hcl tk (pmk_mk1 T M hr hk1 hgl hm hd he hs)
end
end Xk
/-! the drawing of things -/
namespace Xk
open PySem L2
def top (i : Nat) : Stmt := PySem.Challenge.pw_doorhouses_k00_errors_and_their_fields.main.body.getD i (.Pass ⟨0, 0, 0, 0⟩)
abbrev sHand : Stmt := top 23
abbrev sDraw : Stmt := top 24
abbrev sSome : Stmt := top 25
abbrev sThing : Stmt := top 26
/-- the built-in names stand for what they are -/
structure Nm (mg : Str → Option Value) : Prop where
  len : mg "len" = none
  int : mg "int" = none
  abs : mg "abs" = none
  range : mg "range" = none
/-- the five cells of a hand -/
abbrev hl (c : Addr) (a1 a2 a3 a4 : Int) : List V := [.ref c, .int a1, .int a2, .int a3, .int a4]
@[irreducible] def spDraw : Sp := fun vs H Q _ => ∃ (p c : Addr) (n : Int) (cs : List Int) (a1 a2 a3 a4 : Int), vs = [.ref p, .int n] ∧ 0 < n ∧ n < 1073741824 ∧ H p = some (.lst (hl c a1 a2 a3 a4)) ∧ 0 ≤ a1 ∧ H c = some (.lst (cs.map V.int)) ∧ c ≠ p ∧
  ∀ r b1 b2 b3 b4 : Int, 0 ≤ r → r < n → 0 ≤ b1 → Q (.int r) (upd H p (.lst (hl c b1 b2 b3 b4)))
theorem upd_eq {H : Hp} {a : Addr} {o : HO} (h : H a = some o) : upd H a o = H := by
  funext b
  by_cases e : b = a
  · rw [e, upd_same, h]
  · rw [upd_ne e]
theorem small_mul {i j : Int} (h1 : 0 ≤ i) (h2 : i < 2147483648) : CMul i j := .inl ⟨by omega, by omega⟩
theorem cut {t1 t2 : TS} {D : Ends} {σ : St} {H : Hp} (I : St → Hp → Prop) (h2 : ∀ σ' H', I σ' H' → t2 D σ' H') (h1 : (∀ σ' H', I σ' H' → t2 D σ' H') → tSeq t1 t2 D σ H) : tSeq t1 t2 D σ H := h1 h2
section
variable {P : Program} {w : World} {K : PySem.W.Frag} {mg : Str → Option Value} {base : Heap} {f : Addr} {fd : FuncData}
theorem scDraw : FnScope ["hand", "many", "cell", "digit", "number"] ["hand", "many"] (defScope sDraw) := ⟨rfl, rfl, rfl, by decide +kernel, rfl, by decide +kernel, by decide +kernel⟩
theorem ok_draw (F : Fun K "_law_draw" "_law_draw" sDraw f fd) (T : Nm mg) : FnOk P w K mg base CX0 1 f fd ["hand", "many"] spDraw := by
  refine F.ok scDraw (fun vs H Q E h => ?_) (fun cdv A outer s H vs Q E hr h => ?_)
  · unfold spDraw at h
    obtain ⟨p, c, n, cs, a1, a2, a3, a4, rfl, _⟩ := h
    rfl
  · have nd := scDraw.nd
    refine ⟨_, (pss_cons (ps_if (PW.pt (pw_and (pt_cmpR op_eq (pe_ix ix_list (pv 0) pe_int (fun _ _ => rfl)) pe_int (nomark _)) (pw_and1 (pt_cmpR op_lt (pe_ix ix_list (pv 0) pe_int (fun _ _ => rfl)) (pe_callB call_len_seq (by rfl) T.len PySem.boot_len (pa_cons (pe_ix ix_list (pv 0) pe_int (fun _ _ => rfl)) pa_nil)) (nomark _))))) (pss_cons (ps_set (i := 2) nd rfl (Or.inl rfl) (pe_ix ix_list (pe_ix ix_list (pv 0) pe_int (fun _ _ => rfl)) (pe_ix ix_list (pv 0) pe_int (fun _ _ => rfl)) (fun _ _ => rfl))) (pss_cons (ps_asg (pe_op op_add (pe_ix ix_list (pv 0) pe_int (fun _ _ => rfl)) pe_int) (pg_sub (pv 0) pe_int set_list (fun _ => rfl))) (pss_cons (ps_asg (pe_op op_mod (pe_callTy call_int1 (by rfl) T.int (by decide +kernel) (pa_cons (pe_op op_add (pe_op op_add (pe_op op_mul (pe_ix ix_list (pv 0) pe_int (fun _ _ => rfl)) pe_int) (pv 2)) pe_int) pa_nil)) pe_int) (pg_sub (pv 0) pe_int set_list (fun _ => rfl))) (pss_one (ps_if (pt_cmpR op_ge (pv 2) (pe_op op_pow pe_int pe_int) (nomark _)) (pss_one (ps_asg (pv 2) (pg_sub (pv 0) pe_int set_list (fun _ => rfl)))) pss_nil))))) pss_nil) (pss_cons (ps_if (pt_cmpR op_gt (pe_ix ix_list (pv 0) pe_int (fun _ _ => rfl)) pe_int (nomark _)) (pss_cons (ps_set (i := 3) nd rfl (Or.inl rfl) (pe_op op_mod (pe_callTy call_int1 (by rfl) T.int (by decide +kernel) (pa_cons (pe_ix ix_list (pv 0) pe_int (fun _ _ => rfl)) pa_nil)) (pv 1))) (pss_cons (ps_asg (pe_op op_fdiv (pe_ix ix_list (pv 0) pe_int (fun _ _ => rfl)) (pv 1)) (pg_sub (pv 0) pe_int set_list (fun _ => rfl))) (pss_one (ps_ret (pv 3))))) pss_nil) (pss_cons (ps_asg (pe_op op_add (pe_ix ix_list (pv 0) pe_int (fun _ _ => rfl)) pe_int) (pg_sub (pv 0) pe_int set_list (fun _ => rfl))) (pss_cons (ps_set (i := 4) nd rfl (Or.inl rfl) (pe_op op_mod (pe_callTy call_int1 (by rfl) T.int (by decide +kernel) (pa_cons (pe_op op_mul (pe_callTy call_int1 (by rfl) T.int (by decide +kernel) (pa_cons (pe_op op_add (pe_ix ix_list (pv 0) pe_int (fun _ _ => rfl)) (pe_op op_mul pe_int (pe_ix ix_list (pv 0) pe_int (fun _ _ => rfl)))) pa_nil)) pe_int) pa_nil)) pe_int)) (pss_cons (ps_set (i := 4) nd rfl (Or.inl rfl) (pe_op op_mod (pe_callTy call_int1 (by rfl) T.int (by decide +kernel) (pa_cons (pe_op op_mul (pv 4) (pe_op op_add (pe_op op_fdiv (pv 4) pe_int) pe_int)) pa_nil)) pe_int)) (pss_cons (ps_set (i := 4) nd rfl (Or.inl rfl) (pe_op op_mod (pe_callTy call_int1 (by rfl) T.int (by decide +kernel) (pa_cons (pe_op op_mul (pv 4) (pe_op op_add (pe_op op_fdiv (pv 4) pe_int) pe_int)) pa_nil)) pe_int)) (pss_one (ps_ret (pe_op op_mod (pe_callTy call_int1 (by rfl) T.int (by decide +kernel) (pa_cons (pe_op op_fdiv (pv 4) pe_int) pa_nil)) (pv 1)))))))))), ?_⟩
    unfold spDraw at h
    obtain ⟨p, c, n, cs, a1, a2, a3, a4, rfl, n0, n1, hp, h1, hc, hcp, k⟩ := h
    have len : atI (hl c a1 a2 a3 a4) 0 = some (.ref c) := rfl
    refine cut (fun σ' H' => ∃ (v : Option V) (b1 b2 b3 b4 : Int), 0 ≤ b1 ∧ σ' = [some (.ref p), some (.int n), v, none, none] ∧ H' = upd H p (.lst (hl c b1 b2 b3 b4))) ?_ (fun rest => ?_)
    · rintro σ' H' ⟨v, b1, b2, b3, b4, hb1, rfl, rfl⟩
      refine cut (fun σ' H' => ∃ (v : Option V) (b1 b2 b3 b4 : Int), 0 ≤ b1 ∧ σ' = [some (.ref p), some (.int n), v, none, none] ∧ H' = upd H p (.lst (hl c b1 b2 b3 b4))) ?_ (fun rest => ?_)
      · rintro σ' H' ⟨v, b1, b2, b3, b4, hb1, rfl, rfl⟩
        refine ⟨_, rfl, _, _, _, _, rfl, rfl, SqL.of upd_same, rfl, _, _, rfl, rfl, _, rfl, _, _, _, 4, rfl, rfl, upd_same, rfl, ?_⟩
        rw [upd_upd]
        refine ⟨_, rfl, _, _, _, _, rfl, rfl, SqL.of upd_same, rfl, _, rfl, _, _, _, _, rfl, rfl, SqL.of upd_same, rfl, _, _, rfl, rfl, .inl ⟨by decide, by decide⟩, _, _, rfl, rfl, .inl ⟨_, rfl, _, _, rfl, rfl, .inr ⟨by decide, by decide⟩, .inl ⟨_, rfl, _, _, rfl, rfl, (by show (0 : Int) < 2147483647; decide), ?_⟩⟩⟩
        refine ⟨_, rfl, _, rfl, _, _, rfl, rfl, ⟨by decide, by decide⟩, _, _, rfl, rfl, _, _, rfl, rfl, small_mul (Int.emod_nonneg _ (by decide)) (Int.lt_trans (Int.emod_lt_of_pos _ (by decide)) (by decide)), .inl ⟨_, rfl, _, _, rfl, rfl, (by show (0 : Int) < 2147483647; decide), ?_⟩⟩
        refine ⟨_, rfl, _, rfl, _, _, rfl, rfl, ⟨by decide, by decide⟩, _, _, rfl, rfl, _, _, rfl, rfl, small_mul (Int.emod_nonneg _ (by decide)) (Int.lt_trans (Int.emod_lt_of_pos _ (by decide)) (by decide)), .inl ⟨_, rfl, _, _, rfl, rfl, (by show (0 : Int) < 2147483399; decide), ?_⟩⟩
        refine ⟨_, rfl, _, _, rfl, rfl, ⟨by decide, by decide⟩, .inl ⟨_, rfl, _, rfl, _, _, rfl, rfl, n0, ?_⟩⟩
        exact k _ _ _ _ _ (Int.emod_nonneg _ (by omega)) (Int.emod_lt_of_pos _ n0) hb1
      · refine ⟨_, rfl, _, _, _, _, rfl, rfl, SqL.of upd_same, rfl, _, _, rfl, rfl, _, rfl, ite2 (fun e => ?_) (fun e => ?_)⟩
        · refine ⟨_, rfl, _, _, _, _, rfl, rfl, SqL.of upd_same, rfl, .inl ⟨_, rfl, _, rfl, _, _, rfl, rfl, n0, ?_⟩⟩
          refine ⟨_, rfl, _, _, _, _, rfl, rfl, SqL.of upd_same, rfl, _, rfl, _, _, rfl, rfl, ⟨n0, n1⟩, _, rfl, _, _, _, 2, rfl, rfl, upd_same, rfl, ?_⟩
          rw [upd_upd]
          exact ⟨_, rfl, k _ _ _ _ _ (Int.emod_nonneg _ (by omega)) (Int.emod_lt_of_pos _ n0) hb1⟩
        · exact rest _ _ ⟨v, b1, b2, b3, b4, hb1, rfl, rfl⟩
    · refine ⟨_, rfl, _, _, _, _, rfl, rfl, SqL.of hp, rfl, rfl, _, rfl, ite2 (fun e2 => ?_) (fun e2 => ?_)⟩
      · refine ⟨_, rfl, _, _, _, _, rfl, rfl, SqL.of hp, rfl, _, rfl, _, _, _, _, rfl, rfl, SqL.of hp, len, _, _, rfl, .inl (SqL.of hc), _, _, rfl, rfl, _, rfl, ite2 (fun e3 => ?_) (fun e3 => ?_)⟩
        · have e4 : a1 < ((cs.map V.int).length : Int) := of_decide_eq_true e3
          obtain ⟨m, rfl⟩ := Int.eq_ofNat_of_zero_le h1
          have hm : m < cs.length := by rw [List.length_map] at e4; omega
          have hz : atI (cs.map V.int) (m : Int) = some (.int cs[m]) := atI_nat (by rw [List.getElem?_map, List.getElem?_eq_getElem hm]; rfl)
          refine ⟨_, rfl, _, _, _, _, rfl, rfl, SqL.of hp, len, _, rfl, _, _, _, _, rfl, rfl, SqL.of hp, rfl, _, _, _, _, rfl, rfl, SqL.of hc, hz, ?_⟩
          refine ⟨_, rfl, _, _, _, _, rfl, rfl, SqL.of hp, rfl, _, _, rfl, rfl, _, rfl, _, _, _, 1, rfl, rfl, hp, rfl, ?_⟩
          refine ⟨_, rfl, _, _, _, _, rfl, rfl, SqL.of upd_same, rfl, _, _, rfl, rfl, .inr ⟨by decide, by decide⟩, _, rfl, _, _, rfl, rfl, _, _, rfl, rfl, .inl ⟨_, rfl, _, _, rfl, rfl, (by show (0 : Int) < 2147483629; decide), ?_⟩⟩
          refine ⟨_, rfl, _, _, _, 3, rfl, rfl, upd_same, rfl, ?_⟩
          rw [upd_upd]
          refine ⟨_, rfl, _, _, rfl, rfl, ⟨by decide, by decide, by decide⟩, _, _, rfl, rfl, _, rfl, ite2 (fun e5 => ?_) (fun e5 => ?_)⟩
          · refine ⟨_, rfl, _, rfl, _, _, _, 2, rfl, rfl, upd_same, rfl, ?_⟩
            rw [upd_upd]
            exact rest _ _ ⟨_, _, _, _, _, (by omega), rfl, rfl⟩
          · exact rest _ _ ⟨_, _, _, _, _, (by omega), rfl, rfl⟩
        · exact rest _ _ ⟨none, a1, a2, a3, a4, h1, rfl, (upd_eq hp).symm⟩
      · refine iteF ?_
        exact rest _ _ ⟨none, a1, a2, a3, a4, h1, rfl, (upd_eq hp).symm⟩
/-! ### _law_hand -/
@[irreducible] def spHand (K : PySem.W.Frag) : Sp := fun vs H Q _ => ∃ (a : Addr) (ns : List Int), vs = [.ref a] ∧ SqL K H a (ns.map V.int) ∧ ns.length ≤ 63 ∧
  ∀ (p c : Addr) (cs : List Int) (b : Int) (H' : Hp), Same H H' → H p = none → H c = none → H' p = some (.lst (hl c 0 0 b 0)) → H' c = some (.lst (cs.map V.int)) → c ≠ p → Q (.ref p) H'
theorem scHand : FnScope ["script", "cells", "cell"] ["script"] (defScope sHand) := ⟨rfl, rfl, rfl, by decide +kernel, rfl, by decide +kernel, by decide +kernel⟩
theorem cut_ints (ns : List Int) (l u : Option Int) : ∃ ms : List Int, cutV (ns.map V.int) l u = ms.map V.int ∧ ms.length ≤ ns.length := by
  refine ⟨(ns.drop (HT.sIx (ns.map V.int).length 0 l)).take (HT.sIx (ns.map V.int).length (ns.map V.int).length u - HT.sIx (ns.map V.int).length 0 l), ?_, ?_⟩
  · unfold cutV
    rw [List.map_take, List.map_drop]
  · rw [List.length_take, List.length_drop]
    omega
theorem ok_hand (F : Fun K "_law_hand" "_law_hand" sHand f fd) (T : Nm mg) : FnOk P w K mg base CX0 1 f fd ["script"] (spHand K) := by
  refine F.ok scHand (fun vs H Q E h => ?_) (fun cdv A outer s H vs Q E hr h => ?_)
  · unfold spHand at h
    obtain ⟨a, ns, rfl, _⟩ := h
    rfl
  · have nd := scHand.nd
    refine ⟨_, pss_cons (ps_setLc (i := 1) (own := [("cell", 2)]) (g := gName 2) (tt := tYes) rfl nd rfl rfl (by rfl) (pi_list (pe_slice sl_list (pv 0) po_none (po_some pe_int))) (blkOk_by (N := ["script", "cells", "cell"]) (sc := defScope sHand) (by decide +kernel))
        (fun _ _ _ _ _ => pg_name (i := 2) nd rfl (Or.inl rfl)) (fun _ _ _ _ _ => pts_nil)
        (fun _ _ _ _ _ => pe_callB call_abs (by rfl) T.abs (by decide +kernel) (pa_cons (pe_callTy call_int1 (by rfl) T.int (by decide +kernel) (pa_cons (pv 2) pa_nil)) pa_nil)))
      (pss_one (ps_ret (pe_lst (pa_cons (pv 1) (pa_cons pe_int (pa_cons pe_int (pa_cons (pe_op op_add pe_int (pe_op op_mul pe_int (pe_callB call_len_seq (by rfl) T.len PySem.boot_len (pa_cons (pv 1) pa_nil)))) (pa_cons pe_int pa_nil)))))))), ?_⟩
    unfold spHand at h
    obtain ⟨a, ns, rfl, hs, hn, k⟩ := h
    obtain ⟨ms, em, hm⟩ := cut_ints ns none (some 63)
    refine ⟨_, rfl, _, rfl, a, _, rfl, hs, fun q hq => ?_⟩
    have hq1 : SqL K (upd H q (.lst (ms.map V.int))) q (ms.map V.int) := SqL.of upd_same
    rw [em]
    refine ⟨q, rfl, ⟨_, hq1⟩, fun d hd => ?_⟩
    have hqd : q ≠ d := fun z => by rw [z, upd_same] at hd; cases hd
    have hd0 : H d = none := by rw [upd_ne (Ne.symm hqd)] at hd; exact hd
    refine lc_list (K := K) (xs := ms.map V.int) (fun i H' => Same (upd H q (.lst (ms.map V.int))) H' ∧ ∃ cs : List Int, H' d = some (.lst (cs.map V.int)) ∧ cs.length = i) ?_ (fun i H' _ h => .inl (.inl (h.1 _ _ upd_same))) ?_ ?_
    · exact ⟨fun b o e => by rw [upd_ne (ne_of_none e hd)]; exact e, [], upd_same, rfl⟩
    · rintro i x H' hx ⟨sm, cs, hc, hl⟩
      rw [List.getElem?_map] at hx
      obtain ⟨z, hz, rfl⟩ := Option.map_eq_some_iff.mp hx
      have hi := (List.getElem?_eq_some_iff.mp hz).1
      refine ⟨rfl, ?_⟩
      unfold tYes
      refine iteT ?_
      refine ⟨_, rfl, .inl ⟨_, rfl, _, rfl, cs.map V.int, hc, ?_, ?_, cs ++ [if z < 0 then -z else z], ?_, ?_⟩⟩
      · rw [List.length_map, sizeLine_eq]; omega
      · intro b o e
        rw [upd_ne (fun z => by subst z; rw [hd] at e; cases e)]
        exact sm b o e
      · rw [upd_same, List.map_append]; rfl
      · rw [List.length_append, hl]; rfl
    · rintro H' ⟨sm, cs, hc, hl⟩
      refine ⟨_, rfl, _, rfl, _, _, rfl, .inl (SqL.of hc), _, _, rfl, rfl, .inl ⟨by decide, by decide⟩, _, _, rfl, rfl, (by show 5 ≤ sizeLine; decide), fun p hp => ?_⟩
      have hH : ∀ b, H' b = none → H b = none := fun b e => by
        cases z : H b with
        | none => rfl
        | some o =>
          have := sm b o (by rw [upd_ne (ne_of_none z hq)]; exact z)
          rw [e] at this
          cases this
      have hpd : d ≠ p := fun z => by rw [z, hp] at hc; cases hc
      refine k p d cs _ _ (fun b o e => ?_) (hH p hp) hd0 upd_same (by rw [upd_ne hpd]; exact hc) hpd
      rw [upd_ne (ne_of_none (sm b o (by rw [upd_ne (ne_of_none e hq)]; exact e)) hp)]
      exact sm b o (by rw [upd_ne (ne_of_none e hq)]; exact e)
end
end Xk
/-! a thing drawn, wrapped -/
namespace Xk
open PySem L2
theorem bind2 {K : PySem.W.Frag} {x : Str} {st : Stmt} {f : Addr} {fd : FuncData} {a b : Str} (F : Fun K x x st f fd) (h : ∀ (kV doc pm : Value) (an : Option Addr) (cdv ct : Value) (u v : Value), bindArgs (PySem.W.fnOf x x (defArgs st) (defBody st) (defScope st) .none kV doc pm an cdv ct) ⟨[u, v], []⟩ = pure ([a, b].zip [u, v])) : Binds K fd [a, b] [] :=
  F.binds (ps := [a, b]) fun kV doc pm an cdv ct us hl => match us, hl with | [u, v], _ => h kV doc pm an cdv ct u v
/-- the hand stands at p -/
def HandAt (H : Hp) (p c : Addr) (cs : List Int) : Prop := ∃ a1 a2 a3 a4 : Int, 0 ≤ a1 ∧ H p = some (.lst (hl c a1 a2 a3 a4)) ∧ H c = some (.lst (cs.map V.int)) ∧ c ≠ p
/-- all but the hand stays -/
def SameBut (p : Addr) (H H' : Hp) : Prop := ∀ b o, H b = some o → b ≠ p → H' b = some o
theorem SameBut.refl (p : Addr) (H : Hp) : SameBut p H H := fun _ _ e _ => e
theorem SameBut.trans {p : Addr} {H H1 H2 : Hp} (a : SameBut p H H1) (b : SameBut p H1 H2) : SameBut p H H2 := fun c o e n => b c o (a c o e n) n
theorem SameBut.of {p : Addr} {H H' : Hp} (h : Same H H') : SameBut p H H' := fun b o e _ => h b o e
theorem SameBut.upd {p : Addr} {H : Hp} {o : HO} : SameBut p H (upd H p o) := fun b u e n => by rw [upd_ne n]; exact e
theorem HandAt.same {H H' : Hp} {p c : Addr} {cs : List Int} (h : HandAt H p c cs) (s : Same H H') : HandAt H' p c cs := let ⟨a1, a2, a3, a4, h0, h1, h2, h3⟩ := h; ⟨a1, a2, a3, a4, h0, s _ _ h1, s _ _ h2, h3⟩
theorem HandAt.new {H : Hp} {p c q : Addr} {cs : List Int} {o : HO} (h : HandAt H p c cs) (hq : H q = none) : HandAt (upd H q o) p c cs := h.same fun b u e => by rw [upd_ne (ne_of_none e hq)]; exact e
/-- what a draw asks, and leaves -/
theorem draw_ok {vs : List V} {H : Hp} {Q : VK} {E : XK} {p c : Addr} {cs : List Int} {n : Int} (hv : vs = [.ref p, .int n]) (h : HandAt H p c cs) (n0 : 0 < n) (n1 : n < 1073741824)
    (k : ∀ r H', 0 ≤ r → r < n → HandAt H' p c cs → SameBut p H H' → (∀ b, H b = none → H' b = none) → Q (.int r) H') : spDraw vs H Q E := by
  obtain ⟨a1, a2, a3, a4, h0, h1, h2, h3⟩ := h
  unfold spDraw
  refine ⟨p, c, n, cs, a1, a2, a3, a4, hv, n0, n1, h1, h0, h2, h3, fun r b1 b2 b3 b4 r0 r1 hb => k r _ r0 r1 ⟨b1, b2, b3, b4, hb, upd_same, by rw [upd_ne h3]; exact h2, h3⟩ SameBut.upd fun b e => ?_⟩
  rw [upd_ne (fun z => by rw [z, h1] at e; cases e)]
  exact e
@[irreducible] def spSome : Sp := fun vs H Q _ => ∃ (p c l : Addr) (cs : List Int) (xs : List V), vs = [.ref p, .ref l] ∧ HandAt H p c cs ∧ H l = some (.lst xs) ∧ l ≠ p ∧ xs ≠ [] ∧ xs.length ≤ 1000 ∧
  ∀ x H', x ∈ xs → HandAt H' p c cs → SameBut p H H' → Q x H'
section
variable {P : Program} {w : World} {K : PySem.W.Frag} {mg : Str → Option Value} {base : Heap} {f fD fS : Addr} {fd fdD fdS : FuncData}
theorem scSome : FnScope ["hand", "things"] ["hand", "things"] (defScope sSome) := ⟨rfl, rfl, rfl, by decide +kernel, rfl, by decide +kernel, by decide +kernel⟩
theorem ok_some (F : Fun K "_law_some" "_law_some" sSome f fd) (FD : Fun K "_law_draw" "_law_draw" sDraw fD fdD) (gD : mg "_law_draw" = some (.ref fD)) (T : Nm mg) : FnOk P w K mg base CX0 2 f fd ["hand", "things"] spSome := by
  have GD : FnOk P w K mg base CX0 1 fD fdD ["hand", "many"] spDraw := ok_draw FD T
  have bD : Binds K fdD ["hand", "many"] [] := bind2 FD fun _ _ _ _ _ _ _ _ => rfl
  refine F.ok scSome (fun vs H Q E h => ?_) (fun cdv A outer s H vs Q E hr1 h => ?_)
  · unfold spSome at h
    obtain ⟨p, c, l, cs, xs, rfl, _⟩ := h
    rfl
  · have nd := scSome.nd
    refine ⟨_, (pss_one (ps_ret (pe_ix ix_list (pv 1) (pe_call GD hr1 rfl gD FD.kp bD .nil pass0 (pa_cons (pv 0) (pa_cons (pe_callB call_len_seq (by rfl) T.len PySem.boot_len (pa_cons (pv 1) pa_nil)) pa_nil))) (fun _ _ => rfl)))), ?_⟩
    unfold spSome at h
    obtain ⟨p, c, l, cs, xs, rfl, hh, hx, hlp, hne, hlen, k⟩ := h
    have hpos : 0 < xs.length := List.length_pos_iff.mpr hne
    refine ⟨_, rfl, _, rfl, _, rfl, _, _, rfl, .inl (SqL.of hx), ?_⟩
    show spDraw [.ref p, .int xs.length] H _ _
    refine draw_ok rfl hh (by omega) (by omega) fun r H' r0 r1 hh' sb _ => ?_
    obtain ⟨m, rfl⟩ := Int.eq_ofNat_of_zero_le r0
    have hm : m < xs.length := by omega
    exact ⟨_, _, _, _, rfl, rfl, SqL.of (sb _ _ hx hlp), atI_nat (List.getElem?_eq_getElem hm), k _ _ (List.getElem_mem hm) hh' sb⟩
/-! ### things -/
mutual
inductive Th (p : Addr) (H : Hp) : V → PyData → Prop
  | non : Th p H .non .none
  | bl (b : Bool) : Th p H (.bl b) (.bool b)
  | int (i : Int) : Th p H (.int i) (.int i)
  | str (x : Str) : Th p H (.str x) (.str x)
  | lst {a : Addr} {xs : List V} {ds : List PyData} : H a = some (.lst xs) → a ≠ p → ThAll p H xs ds → Th p H (.ref a) (.list ds)
  | tup {a : Addr} {xs : List V} {ds : List PyData} : H a = some (.tup xs) → a ≠ p → ThAll p H xs ds → Th p H (.ref a) (.tuple ds)
  | dct {a : Addr} : H a = some (.dK []) → a ≠ p → Th p H (.ref a) (.dict [])
inductive ThAll (p : Addr) (H : Hp) : List V → List PyData → Prop
  | nil : ThAll p H [] []
  | cons {v : V} {vs : List V} {d : PyData} {ds : List PyData} : Th p H v d → ThAll p H vs ds → ThAll p H (v :: vs) (d :: ds)
end
mutual
theorem Th.but {p : Addr} {H H' : Hp} (s : SameBut p H H') : ∀ {v : V} {d : PyData}, Th p H v d → Th p H' v d
  | _, _, .non => .non
  | _, _, .bl b => .bl b
  | _, _, .int i => .int i
  | _, _, .str x => .str x
  | _, _, .lst e n h => .lst (s _ _ e n) n (ThAll.but s h)
  | _, _, .tup e n h => .tup (s _ _ e n) n (ThAll.but s h)
  | _, _, .dct e n => .dct (s _ _ e n) n
theorem ThAll.but {p : Addr} {H H' : Hp} (s : SameBut p H H') : ∀ {vs : List V} {ds : List PyData}, ThAll p H vs ds → ThAll p H' vs ds
  | _, _, .nil => .nil
  | _, _, .cons h1 h2 => .cons (Th.but s h1) (ThAll.but s h2)
end
/-- the things that are drawn, wrapped so many times -/
inductive Wr : Nat → PyData → Prop
  | z (d : PyData) : d.showable = true → d.shown.length ≤ 40 → d.depth ≤ 2 → PyData.strOk d.shown = true → Wr 0 d
  | t (n k : Nat) (d : PyData) : Wr n d → k < 31 → Wr (n + 1) (.tuple [d, .int k])
  | l (n k : Nat) (d : PyData) : Wr n d → k < 31 → Wr (n + 1) (.list [.int k, d])
theorem wr_int : ∀ k : Nat, k < 31 → (PyData.int (k : Int)).showable = true ∧ (PyData.int (k : Int)).shown.length ≤ 2 ∧ (PyData.int (k : Int)).depth = 0 := by
  have h : (List.range 31).all (fun k => (PyData.int (k : Int)).showable && decide ((PyData.int (k : Int)).shown.length ≤ 2) && decide ((PyData.int (k : Int)).depth = 0)) = true := by decide +kernel
  intro k hk
  have := List.all_eq_true.mp h k (List.mem_range.mpr hk)
  simp only [Bool.and_eq_true, decide_eq_true_eq] at this
  exact ⟨this.1.1, this.1.2, this.2⟩
theorem Wr.ok : ∀ {n : Nat} {d : PyData}, Wr n d → d.showable = true ∧ d.shown.length ≤ 40 + 9 * n ∧ d.depth ≤ 2 + n
  | _, _, .z d h1 h2 h3 _ => ⟨h1, by omega, by omega⟩
  | _, _, .t n k d h hk => by
    obtain ⟨h1, h2, h3⟩ := Wr.ok h
    obtain ⟨k1, k2, k3⟩ := wr_int k hk
    refine ⟨by simp only [PyData.showable, PyData.showableAll, Bool.and_eq_true]; exact ⟨h1, by simpa only [PyData.showable] using k1, trivial⟩, ?_, ?_⟩
    · have e := tupleText_len_le (PyData.shownAll [d, .int k])
      have e2 : (PyData.tuple [d, .int k]).shown = tupleText (PyData.shownAll [d, .int k]) := by simp only [PyData.shown]
      rw [e2]
      simp only [PyData.shownAll, List.map_cons, List.map_nil, List.sum_cons, List.sum_nil, List.length_cons, List.length_nil] at e
      simp only [PyData.shownAll]
      omega
    · simp only [PyData.depth, PyData.depthAll] at k3 ⊢
      omega
  | _, _, .l n k d h hk => by
    obtain ⟨h1, h2, h3⟩ := Wr.ok h
    obtain ⟨k1, k2, k3⟩ := wr_int k hk
    refine ⟨by simp only [PyData.showable, PyData.showableAll, Bool.and_eq_true]; exact ⟨by simpa only [PyData.showable] using k1, h1, trivial⟩, ?_, ?_⟩
    · have e := listText_len_le (PyData.shownAll [.int k, d])
      have e2 : (PyData.list [.int k, d]).shown = listText (PyData.shownAll [.int k, d]) := by simp only [PyData.shown]
      rw [e2]
      simp only [PyData.shownAll, List.map_cons, List.map_nil, List.sum_cons, List.sum_nil, List.length_cons, List.length_nil] at e
      simp only [PyData.shownAll]
      omega
    · simp only [PyData.depth, PyData.depthAll] at k3 ⊢
      omega
theorem ok_app {x y : Str} (hx : PyData.strOk x = true) (hy : PyData.strOk y = true) : PyData.strOk (x ++ y) = true := by
  unfold PyData.strOk at hx hy ⊢
  show ((x.cps ++ y.cps).all fun c => decide (c < 0x110000)) = true
  rw [Array.all_append, hx, hy]
  rfl
theorem wr_intk : ∀ k : Nat, k < 31 → PyData.strOk (PyData.int (k : Int)).shown = true := by
  have h : (List.range 31).all (fun k => PyData.strOk (PyData.int (k : Int)).shown) = true := by decide +kernel
  exact fun k hk => List.all_eq_true.mp h k (List.mem_range.mpr hk)
theorem Wr.txt : ∀ {n : Nat} {d : PyData}, Wr n d → PyData.strOk d.shown = true
  | _, _, .z d _ _ _ h => h
  | _, _, .t n k d h hk => by
    have h1 := Wr.txt h
    have h2 := wr_intk k hk
    have e : (PyData.tuple [d, .int k]).shown = Str.ofString "(" ++ (d.shown ++ Str.ofString ", " ++ (PyData.int k).shown) ++ Str.ofString ")" := by simp only [PyData.shown, PyData.shownAll]; rfl
    rw [e]
    exact ok_app (ok_app (by decide +kernel) (ok_app (ok_app h1 (by decide +kernel)) h2)) (by decide +kernel)
  | _, _, .l n k d h hk => by
    have h1 := Wr.txt h
    have h2 := wr_intk k hk
    have e : (PyData.list [.int k, d]).shown = Str.ofString "[" ++ (PyData.int k).shown ++ Str.ofString ", " ++ d.shown ++ Str.ofString "]" := by simp only [PyData.shown, PyData.shownAll]; rfl
    rw [e]
    exact ok_app (ok_app (ok_app (ok_app (by decide +kernel) h2) (by decide +kernel)) h1) (by decide +kernel)
@[irreducible] def spThing : Sp := fun vs H Q _ => ∃ (p c : Addr) (cs : List Int), vs = [.ref p] ∧ HandAt H p c cs ∧ ∀ v d n H', Wr n d → n ≤ 30 → Th p H' v d → HandAt H' p c cs → SameBut p H H' → Q v H'
theorem scThing : FnScope ["hand", "thing", "k"] ["hand"] (defScope sThing) := ⟨rfl, rfl, rfl, by decide +kernel, rfl, by decide +kernel, by decide +kernel⟩
theorem ok_thing (F : Fun K "_law_thing" "_law_thing" sThing f fd) (FS : Fun K "_law_some" "_law_some" sSome fS fdS) (gS : mg "_law_some" = some (.ref fS)) (FD : Fun K "_law_draw" "_law_draw" sDraw fD fdD) (gD : mg "_law_draw" = some (.ref fD)) (T : Nm mg) : FnOk P w K mg base CX0 3 f fd ["hand"] spThing := by
  have GD : FnOk P w K mg base CX0 1 fD fdD ["hand", "many"] spDraw := ok_draw FD T
  have bD : Binds K fdD ["hand", "many"] [] := bind2 FD fun _ _ _ _ _ _ _ _ => rfl
  have GS : FnOk P w K mg base CX0 2 fS fdS ["hand", "things"] spSome := ok_some FS FD gD T
  have bS : Binds K fdS ["hand", "things"] [] := bind2 FS fun _ _ _ _ _ _ _ _ => rfl
  refine F.ok scThing (fun vs H Q E h => ?_) (fun cdv A outer s H vs Q E hr2 h => ?_)
  · unfold spThing at h
    obtain ⟨p, c, cs, rfl, _⟩ := h
    rfl
  · have nd := scThing.nd
    have hr1 := hr2.mono (show 1 ≤ 2 by decide)
    refine ⟨_, (pss_cons (ps_set (i := 1) nd rfl (Or.inl rfl) (pe_call GS hr2 rfl gS FS.kp bS .nil pass0 (pa_cons (pv 0) (pa_cons (pe_lst (pa_cons pe_non (pa_cons pe_bl (pa_cons pe_int (pa_cons (pe_un un_neg pe_int) (pa_cons pe_str (pa_cons pe_str (pa_cons (pe_tup pa_nil) (pa_cons (pe_tup (pa_cons pe_int (pa_cons pe_int pa_nil))) (pa_cons (pe_lst pa_nil) (pa_cons (pe_lst (pa_cons pe_str pa_nil)) (pa_cons pe_dnewK (pa_cons (pe_op op_pow pe_int pe_int) pa_nil))))))))))))) pa_nil)))) (pss_cons (ps_for PassesOwn.never rfl (pi_range1 (by rfl) T.range (pa_cons (pe_call GD hr1 rfl gD FD.kp bD .nil pass0 (pa_cons (pv 0) (pa_cons pe_int pa_nil))) pa_nil)) (pg_name (i := 2) nd rfl (Or.inl rfl)) (pss_one (ps_set (i := 1) nd rfl (Or.inl rfl) (pe_ifExp (pt_cmpR op_eq (pe_call GD hr1 rfl gD FD.kp bD .nil pass0 (pa_cons (pv 0) (pa_cons pe_int pa_nil))) pe_int (nomark _)) (pe_tup (pa_cons (pv 1) (pa_cons (pv 2) pa_nil))) (pe_lst (pa_cons (pv 2) (pa_cons (pv 1) pa_nil))))))) (pss_one (ps_ret (pv 1))))), ?_⟩
    unfold spThing at h
    obtain ⟨p, c, cs, rfl, hh, k⟩ := h
    refine cut (fun σ' H' => ∃ v d, σ' = [some (.ref p), some v, none] ∧ Wr 0 d ∧ Th p H' v d ∧ HandAt H' p c cs ∧ SameBut p H H') ?_ (fun rest => ?_)
    · rintro σ' H1 ⟨v, d, rfl, hw, ht, hh1, sb1⟩
      refine cut (fun σ' H' => ∃ v d n kk, σ' = [some (.ref p), some v, kk] ∧ n ≤ 30 ∧ Wr n d ∧ Th p H' v d ∧ HandAt H' p c cs ∧ SameBut p H H') ?_ (fun rest => ?_)
      · rintro σ' H2 ⟨v, d, n, kk, rfl, hn, hw, ht, hh2, sb2⟩
        exact ⟨_, rfl, k v d n H2 hw hn ht hh2 sb2⟩
      · refine ⟨_, rfl, ?_⟩
        show spDraw [.ref p, .int 31] H1 _ _
        refine draw_ok rfl hh1 (by decide) (by decide) fun r H2 r0 r1 hh2 sb2 _ => ⟨r, rfl, by omega, by omega, ?_⟩
        refine for_range (n := r.toNat) (fun i σ H' => ∃ v d kk, σ = [some (.ref p), some v, kk] ∧ Wr i d ∧ Th p H' v d ∧ HandAt H' p c cs ∧ SameBut p H H') ⟨v, d, none, rfl, hw, ht.but sb2, hh2, sb1.trans sb2⟩ ?_ ?_
        · rintro i σ H3 hi ⟨v, d, kk, rfl, hw, ht, hh3, sb3⟩
          refine ⟨_, rfl, ?_⟩
          show spDraw [.ref p, .int 2] H3 _ _
          have hi31 : i < 31 := by omega
          refine draw_ok rfl hh3 (by decide) (by decide) fun r2 H4 _ _ hh4 sb4 _ => ⟨rfl, _, rfl, ite2 (fun e => ?_) (fun e => ?_)⟩
          · refine ⟨_, rfl, _, rfl, (by show 2 ≤ sizeLine; decide), fun t ht4 => ?_⟩
            have hs : Same H4 (upd H4 t (.tup [v, .int (0 + (i : Int))])) := fun b o e => by rw [upd_ne (ne_of_none e ht4)]; exact e
            have htp : t ≠ p := fun z => by
              obtain ⟨_, _, _, _, _, h1, _⟩ := hh4
              rw [z, h1] at ht4
              cases ht4
            refine ⟨_, .tuple [d, .int i], _, rfl, .t i i d hw hi31, .tup upd_same htp (.cons (ht.but (sb4.trans (.of hs))) (.cons ?_ .nil)), hh4.same hs, sb3.trans (sb4.trans (.of hs))⟩
            rw [Int.zero_add]
            exact .int _
          · refine ⟨_, rfl, _, rfl, (by show 2 ≤ sizeLine; decide), fun t ht4 => ?_⟩
            have hs : Same H4 (upd H4 t (.lst [.int (0 + (i : Int)), v])) := fun b o e => by rw [upd_ne (ne_of_none e ht4)]; exact e
            have htp : t ≠ p := fun z => by
              obtain ⟨_, _, _, _, _, h1, _⟩ := hh4
              rw [z, h1] at ht4
              cases ht4
            refine ⟨_, .list [.int i, d], _, rfl, .l i i d hw hi31, .lst upd_same htp (.cons ?_ (.cons (ht.but (sb4.trans (.of hs))) .nil)), hh4.same hs, sb3.trans (sb4.trans (.of hs))⟩
            rw [Int.zero_add]
            exact .int _
        · rintro σ H3 ⟨v, d, kk, rfl, hw, ht, hh3, sb3⟩
          exact rest _ _ ⟨v, d, _, kk, rfl, by omega, hw, ht, hh3, sb3⟩
    · have up : ∀ {H : Hp} {a : Addr} {o : HO}, H a = none → Same H (upd H a o) := fun h b u e => by rw [upd_ne (ne_of_none e h)]; exact e
      refine ⟨_, rfl, _, rfl, (by show 0 ≤ sizeLine; decide), fun t1 h1 => ⟨(by show 2 ≤ sizeLine; decide), fun t2 h2 => ⟨(by show 0 ≤ sizeLine; decide), fun l1 h3 => ⟨(by show 1 ≤ sizeLine; decide), fun l2 h4 => fun d1 h5 => ⟨_, _, rfl, rfl, ⟨by decide, by decide, by decide⟩, (by show 12 ≤ sizeLine; decide), fun l h6 => ?_⟩⟩⟩⟩⟩
      have q1 := up (o := .tup []) h1
      have q2 := up (o := .tup [.int 1, .int 2]) h2
      have q3 := up (o := .lst []) h3
      have q4 := up (o := .lst [.str (Str.ofString "a")]) h4
      have q5 := up (o := .dK []) h5
      have tr : ∀ {A B C : Hp}, Same A B → Same B C → Same A C := fun a b c o e => b c o (a c o e)
      have hp : ∀ {H' : Hp} {q : Addr}, Same H H' → H' q = none → q ≠ p := fun {H' q} sm e z => by
        obtain ⟨_, _, _, _, _, g1, _⟩ := hh
        have := sm _ _ g1
        rw [z] at e
        rw [e] at this
        cases this
      have s2 := q1
      have s3 := tr s2 q2
      have s4 := tr s3 q3
      have s5 := tr s4 q4
      have s6 := tr s5 q5
      have n1 := hp (fun _ _ e => e) h1
      have n2 := hp s2 h2
      have n3 := hp s3 h3
      have n4 := hp s4 h4
      have n5 := hp s5 h5
      have n6 := hp s6 h6
      have q6 := up (o := .lst [.non, .bl true, .int 0, (fun i => V.int (-i)) 7, .str (Str.ofString ""), .str (Str.ofString "words"), .ref t1, .ref t2, .ref l1, .ref l2, .ref d1, (fun i j : Int => V.int (i ^ j.toNat)) 10 19]) h6
      have s7 := tr s6 q6
      show spSome [.ref p, .ref l] _ _ _
      unfold spSome
      refine ⟨p, c, l, cs, _, rfl, hh.same s7, upd_same, n6, by simp, by simp, fun x H' hx hh' sb => ?_⟩
      have sbt : SameBut p H H' := (SameBut.of s7).trans sb
      have fin : ∀ d, Th p H' x d → (d.showable && decide (d.shown.length ≤ 40) && decide (d.depth ≤ 2) && PyData.strOk d.shown) = true → ∃ v d, [some (V.ref p), some x, none] = [some (V.ref p), some v, none] ∧ Wr 0 d ∧ Th p H' v d ∧ HandAt H' p c cs ∧ SameBut p H H' := fun d hd hk => by
        simp only [Bool.and_eq_true, decide_eq_true_eq] at hk
        exact ⟨x, d, rfl, .z d hk.1.1.1 hk.1.1.2 hk.1.2 hk.2, hd, hh', sbt⟩
      refine rest _ _ ?_
      have g1 := sb _ _ (tr (tr (tr (tr (tr q2 q3) q4) q5) q6) (fun _ _ e => e) t1 _ upd_same) n1
      have g2 := sb _ _ (tr (tr (tr q3 q4) q5) q6 t2 _ upd_same) n2
      have g3 := sb _ _ (tr (tr q4 q5) q6 l1 _ upd_same) n3
      have g4 := sb _ _ (tr q5 q6 l2 _ upd_same) n4
      have g5 := sb _ _ (q6 d1 _ upd_same) n5
      simp only [List.mem_cons, List.not_mem_nil, or_false] at hx
      rcases hx with rfl | rfl | rfl | rfl | rfl | rfl | rfl | rfl | rfl | rfl | rfl | rfl
      · exact fin _ .non (by decide +kernel)
      · exact fin _ (.bl _) (by decide +kernel)
      · exact fin _ (.int _) (by decide +kernel)
      · exact fin _ (.int _) (by decide +kernel)
      · exact fin _ (.str _) (by decide +kernel)
      · exact fin _ (.str _) (by decide +kernel)
      · exact fin _ (.tup g1 n1 .nil) (by decide +kernel)
      · exact fin _ (.tup g2 n2 (.cons (.int _) (.cons (.int _) .nil))) (by decide +kernel)
      · exact fin _ (.lst g3 n3 .nil) (by decide +kernel)
      · exact fin _ (.lst g4 n4 (.cons (.str _) .nil)) (by decide +kernel)
      · exact fin _ (.dct g5 n5) (by decide +kernel)
      · exact fin _ (.int _) (by decide +kernel)
end
end Xk
/-! repr of a thing (of a dict within no more is asked than that it is not the table of modules) -/
namespace Xk
open PySem L2
section
variable {X : Cx} {pins : List (Addr × PySem.Obj)} {σ : St} {H : Hp} {s : Shared} {p : Addr}
theorem kv_nil {vs : List (Key × Value)} (h : KV [] vs) : vs = [] := by
  cases h
  rfl
/-- {} as it stands -/
theorem emp_at (I : Inv X pins σ H s) {a : Addr} (e : H a = some (.dK [])) : (a == sysModules) = false ∧ ∃ o es n, s.heap.get? a = some o ∧ o.cls = .type "dict" ∧ o.data = .dict es n ∧ es.toList = [] := by
  obtain ⟨_, apart, vs, hkv, o, es, ep, ho, hx, hd, hk, hp, _⟩ := I.hok _ _ e
  have none_ := kv_nil hkv
  subst none_
  refine ⟨apart, o, es, ep, ho, hx.1, hd, ?_⟩
  cases q : es.toList with
  | nil => rfl
  | cons u r => rw [q] at hp; cases hp
mutual
theorem Th.rep (I : Inv X pins σ H s) : ∀ (d : PyData) {v : V} {u : Value}, Th p H v d → RelV v u → d.showable = true → d.shown.length ≤ sizeLine →
    ∃ as bs, Reads s.heap u d as ∧ ReadAtMost s.heap d.depth bs ∧ ReprK X.prog X.w bs s.heap d.depth u d.shown
  | .none, _, _, h, r, _, _ => by
    cases h
    cases r
    exact ⟨_, [], .none, (fun _ z => nomatch z), by simp only [PyData.shown]; exact .of_is ReprIs.none _ _ _⟩
  | .bool b, _, _, h, r, _, _ => by
    cases h
    cases r
    exact ⟨_, [], .bool b, (fun _ z => nomatch z), by simp only [PyData.shown]; exact .of_is (ReprIs.bool b) _ _ _⟩
  | .int i, _, _, h, r, hs, _ => by
    cases h
    obtain ⟨t, rfl⟩ := r
    exact ⟨_, [], .int i t, (fun _ z => nomatch z), by simp only [PyData.shown]; exact .of_is (ReprIs.int t (by simpa [PyData.showable] using hs)) _ _ _⟩
  | .str x, _, _, h, r, _, hz => by
    cases h
    obtain ⟨t, rfl⟩ := r
    exact ⟨_, [], .str x t, (fun _ z => nomatch z), by simp only [PyData.shown]; exact .of_is (ReprIs.str x t (by simpa only [PyData.shown] using hz)) _ _ _⟩
  | .list ds, _, _, h, r, hs, hz => by
    cases h with
    | @lst a xs ds e n ha =>
      cases r
      obtain ⟨its, rv, ⟨o, m, ho, hc, _, hd⟩, _⟩ := I.list (SqL.of e)
      have short : (listText (PyData.shownAll ds)).length ≤ sizeLine := by simpa only [PyData.shown] using hz
      obtain ⟨as, bs, q1, q2, q3⟩ := Th.reps I ds ha rv (by simpa [PyData.showable] using hs) fun t ht => Nat.le_trans (listText_mem_le ht) short
      have rd : Reads s.heap (.ref a) (.list ds) (a :: as) := .list ho hc hd q1
      have new : a ∉ bs := not_mem_of_deeper rd (by simp only [PyData.depth]; omega) q2
      refine ⟨_, a :: bs, rd, ReadAtMost.cons rd (by simp only [PyData.depth]; omega) q2, ?_⟩
      simp only [PyData.depth, PyData.shown]
      cases its with
      | nil =>
        cases q1
        simp only [PyData.shownAll, listText_nil]
        exact ReprK.listEmpty ho hc hd
      | cons y l => exact ReprK.list ho hc hd new (by simpa using q3.length_eq) (fun i z ez => q3.item i z (by simpa using ez))
  | .tuple ds, _, _, h, r, hs, hz => by
    cases h with
    | @tup a xs ds e n ha =>
      cases r
      obtain ⟨its, rv, ⟨o, ho, hc, m, hd⟩, _⟩ := I.tuple (SqT.of e)
      have short : (tupleText (PyData.shownAll ds)).length ≤ sizeLine := by simpa only [PyData.shown] using hz
      obtain ⟨as, bs, q1, q2, q3⟩ := Th.reps I ds ha rv (by simpa [PyData.showable] using hs) fun t ht => Nat.le_trans (tupleText_mem_le ht) short
      have rd : Reads s.heap (.ref a) (.tuple ds) as := .tuple ho hc hd q1
      have new : a ∉ bs := not_mem_of_deeper rd (by simp only [PyData.depth]; omega) q2
      refine ⟨_, a :: bs, rd, ReadAtMost.cons rd (by simp only [PyData.depth]; omega) q2, ?_⟩
      simp only [PyData.depth, PyData.shown]
      exact ReprK.tuple ho hc hd new q3
  | .dict kvs, _, _, h, r, hs, hz => by
    cases h with
    | @dct a e n =>
      cases r
      obtain ⟨apart, o, es, ep, ho, hc, hd, ees⟩ := emp_at I e
      have rd : Reads s.heap (.ref a) (.dict []) (a :: [] ++ []) := .dict (as := []) (bs := []) ho hc hd (by rw [ees]; exact .nil) (by rw [ees]; exact .nil)
      refine ⟨_, [a], rd, ReadAtMost.cons rd (by simp only [PyData.depth]; omega) (n := 0) (fun _ z => nomatch z), ?_⟩
      have t := ReprK.dict (prog := X.prog) (w := X.w) (as := []) (d := PyData.depthKv []) (ps := []) ho hc hd apart (by simp) (by rw [ees]; exact .nil)
      simp only [PyData.depth, PyData.shown, PyData.shownKv]
      exact t
theorem Th.reps (I : Inv X pins σ H s) : ∀ (ds : List PyData) {vs : List V} {us : List Value}, ThAll p H vs ds → Vals vs us → PyData.showableAll ds = true → (∀ t ∈ PyData.shownAll ds, t.length ≤ sizeLine) →
    ∃ as bs, ReadsAll s.heap us ds as ∧ ReadAtMost s.heap (PyData.depthAll ds) bs ∧ ReprAllK X.prog X.w bs s.heap (PyData.depthAll ds) us (PyData.shownAll ds)
  | [], _, _, h, r, _, _ => by
    cases h
    cases r
    exact ⟨_, [], .nil, (fun _ z => nomatch z), by simp only [PyData.shownAll]; exact .nil⟩
  | d :: ds, _, _, h, r, hs, hz => by
    cases h with
    | cons h1 h2 =>
      cases r with
      | cons r1 r2 =>
        have both : d.showable = true ∧ PyData.showableAll ds = true := by simpa [PyData.showableAll] using hs
        have all : ∀ t, (t = d.shown ∨ t ∈ PyData.shownAll ds) → t.length ≤ sizeLine := fun t ht => hz t (by simp only [PyData.shownAll, List.mem_cons]; exact ht)
        obtain ⟨as1, bs1, a1, a2, a3⟩ := Th.rep I d h1 r1 both.1 (all _ (.inl rfl))
        obtain ⟨as2, bs2, b1, b2, b3⟩ := Th.reps I ds h2 r2 both.2 fun t ht => all t (.inr ht)
        refine ⟨_, bs1 ++ bs2, .cons a1 b1, ?_, ?_⟩
        · simp only [PyData.depthAll]
          exact (a2.mono (Nat.le_max_left _ _)).append (b2.mono (Nat.le_max_right _ _))
        · simp only [PyData.depthAll, PyData.shownAll]
          exact .cons ((a3.more fun b m => List.mem_append_left _ m).level_le (Nat.le_max_left _ _)) (b3.more_le (fun b m => List.mem_append_right _ m) (Nat.le_max_right _ _))
end
/-- repr(thing) -/
def rRep : List V → Hp → VK → Prop := fun xs H Q => ∃ (p : Addr) (x : V) (d : PyData) (n : Nat), xs = [x] ∧ Th p H x d ∧ Wr n d ∧ n ≤ 30 ∧ Q (.str d.shown) H
theorem cr_rep (hgd : X.A.guards = some []) (hu : X.A.units + 200 < cLine) : CallR X (.builtin "repr") rRep := by
  intro pins s σ H xs us Q I r h
  obtain ⟨p, x, d, n, rfl, ht, hw, hn, q⟩ := h
  cases r with
  | @cons _ u _ _ rx rn =>
    cases rn
    obtain ⟨w1, w2, w3⟩ := hw.ok
    have hz : d.shown.length ≤ sizeLine := by rw [sizeLine_eq]; omega
    have told : ∀ h' (t : Tok) tk, (∀ b o, s.heap.get? b = some o → h'.get? b = some o) → EP X pins σ Q (.str d.shown t) { s with heap := h', toks := tk } := fun h' t tk hk => ⟨.str d.shown, H, I.kept hk, ⟨t, rfl⟩, q⟩
    have room : X.A.units + 1 < cLine := by omega
    cases d with
    | none =>
      cases ht
      cases rx
      exact PySem.P.repr_of_none (by have := told s.heap s.toks (s.toks + 1) fun _ _ e => e; simpa only [PyData.shown] using this)
    | bool b =>
      cases ht
      cases rx
      exact PySem.P.repr_of_bool (by have := told s.heap s.toks (s.toks + 1) fun _ _ e => e; simpa only [PyData.shown] using this)
    | int i =>
      cases ht
      obtain ⟨t, rfl⟩ := rx
      exact PySem.P.repr_of_int (by simpa [PyData.showable] using w1) (by have := told s.heap s.toks (s.toks + 1) fun _ _ e => e; simpa only [PyData.shown] using this)
    | str x =>
      cases ht
      obtain ⟨t, rfl⟩ := rx
      exact PySem.P.repr_of_str (by have := told s.heap s.toks (s.toks + 1) fun _ _ e => e; simpa only [PyData.shown] using this) (by simpa only [PyData.shown] using hz)
    | list ds =>
      cases ht with
      | @lst a xs ds e ne ha =>
        cases rx
        obtain ⟨its, rv, ⟨o, m, ho, hc, _, hd⟩, _⟩ := I.list (SqL.of e)
        have short : (listText (PyData.shownAll ds)).length ≤ sizeLine := by simpa only [PyData.shown] using hz
        obtain ⟨as, bs, q1, q2, q3⟩ := Th.reps I ds ha rv (by simpa [PyData.showable] using w1) fun t ht => Nat.le_trans (listText_mem_le ht) short
        have new : a ∉ bs := not_mem_of_deeper (.list ho hc hd q1) (by simp only [PyData.depth]; omega) q2
        simp only [PyData.shown] at told
        simp only [PyData.depth] at w3
        refine call_repr_slot room ⟨o, ho, hc⟩ F.slot_list_repr.toG ?_
        cases its with
        | nil =>
          cases q1
          simp only [PyData.shownAll, listText_nil] at told
          exact call_list_repr_empty ⟨o, ho, hc⟩ ho hd ⟨_, _, rfl, told s.heap _ _ fun _ _ z => z⟩
        | cons y l =>
          exact call_list_reprK ho hc hd new (by simpa using q3.length_eq) (fun i z ez => q3.item i z (by simpa using ez)) hgd (fun b _ => Clear.nil b) (by show X.A.units + 1 + _ < _; omega) (fun _ _ z => z) (fun h' t tk hk => ⟨_, _, rfl, told h' t tk hk⟩) short
    | tuple ds =>
      cases ht with
      | @tup a xs ds e ne ha =>
        cases rx
        obtain ⟨its, rv, ⟨o, ho, hc, m, hd⟩, _⟩ := I.tuple (SqT.of e)
        have short : (tupleText (PyData.shownAll ds)).length ≤ sizeLine := by simpa only [PyData.shown] using hz
        obtain ⟨as, bs, q1, q2, q3⟩ := Th.reps I ds ha rv (by simpa [PyData.showable] using w1) fun t ht => Nat.le_trans (tupleText_mem_le ht) short
        have new : a ∉ bs := not_mem_of_deeper (.tuple ho hc hd q1) (by simp only [PyData.depth]; omega) q2
        simp only [PyData.shown] at told
        simp only [PyData.depth] at w3
        refine call_repr_slot room ⟨o, ho, hc⟩ F.slot_tuple_repr ?_
        exact call_tuple_reprK ho hc hd new q3 hgd (fun b _ => Clear.nil b) (by show X.A.units + 1 + _ < _; omega) (fun _ _ z => z) (fun h' t tk hk => ⟨_, _, rfl, told h' t tk hk⟩) short
    | dict kvs =>
      cases ht with
      | @dct a e ne =>
        cases rx
        obtain ⟨apart, o, es, ep, ho, hc, hd, ees⟩ := emp_at I e
        refine repr_of_reads' (d := .dict []) (.dict (as := []) (bs := []) ho hc hd (by rw [ees]; exact .nil) (by rw [ees]; exact .nil)) w1 (fun _ z => ?_) hgd (by simp only [PyData.depth, PyData.depthKv]; omega) (fun _ _ z => z) (fun h' t tk hk => told h' t tk hk) hz
        simp only [List.append_nil, List.mem_cons, List.not_mem_nil, or_false] at z
        rw [← z] at apart
        simp at apart
end
end Xk
/-! clauses of a try, put together one by one: what a row of clauses does with a caught exception (Deals) -/
namespace Xk
open PySem PySem.Spec PyProof.Rows L2
/-- the exception at a, of the class cls, with the dict d, is in the clauses' hands -/
structure Caught (X : Cx) (pins : List (Addr × Obj)) (B : Heap) (a : Addr) (cls : Value) (d : Option Addr) (σ : L2.St) (H : Hp) (s0 s : Shared) : Prop where
  old : L2.Inv X pins σ H s0
  kept : ∀ b o, s0.heap.get? b = some o → b ∉ frs X.stack → B.get? b = some o
  up : s0.heap.UpToSlots s.heap
  os : s.os = s0.os
  gens : AllBare s.gens
  fly : HandSPX.FlyingZ B (X.env :: X.outer) a (Zc cls d) s.heap
  free : H a = none
section
variable {X : Cx} {pins : List (Addr × Obj)} {B : Heap} {a : Addr} {cls : Value} {d : Option Addr} {σ : L2.St} {H : Hp} {s0 s : Shared}
theorem Caught.now (c : Caught X pins B a cls d σ H s0 s) : L2.Inv X pins σ H s := c.old.landed c.kept c.fly.1 c.up c.os c.gens
theorem Caught.next (c : Caught X pins B a cls d σ H s0 s) {h : Heap} (f : HandSPX.FlyingZ B (X.env :: X.outer) a (Zc cls d) h) (u : s.heap.UpToSlots h) : Caught X pins B a cls d σ H s0 { s with heap := h } :=
  { c with up := c.up.trans u, fly := f }
/-- it stands apart from the frames' own objects, and the suite may begin -/
theorem Caught.opened (c : Caught X pins B a cls d σ H s0 s) (frame : X.env.frame = some X.env.locals) : ∃ o vs, s.heap.get? a = some o ∧ Zc cls d o ∧ o.data = .fields vs ∧ L2.Inv (X.suite a ((a, o) :: (X.pn ++ pins))) [] σ H s := by
  obtain ⟨o, vs, get, z, data⟩ := c.fly.there
  have apart : a ∉ frs (X.env :: X.outer) := by
    intro m
    obtain ⟨_, o', get', no⟩ := c.fly.2.2.1.mem m
    obtain rfl : o = o' := Option.some.inj (get.symm.trans get')
    exact no _ data
  have mine : a ≠ X.env.locals := by
    rintro rfl
    exact apart (List.mem_filterMap.mpr ⟨_, List.mem_cons_self, frame⟩)
  have others : a ∉ X.fs := by
    intro m
    obtain ⟨e, he, q⟩ := List.mem_filterMap.mp m
    exact apart (List.mem_filterMap.mpr ⟨e, .tail _ he, q⟩)
  exact ⟨o, vs, get, z, data, c.now.suite get data c.free mine others⟩
/-- a row of clauses does as W wishes -/
def Deals (X : Cx) (row : List ExceptHandler) (W : Ends → WX) : Prop :=
  ∀ {pins : List (Addr × Obj)} {B : Heap} {a : Addr} {cls : Value} {d : Option Addr} {σ : L2.St} {H : Hp} {s0 s : Shared} (D : Ends), Caught X pins B a cls d σ H s0 s → W D cls d σ H → wpAny (model X.prog X.w) X.A (handleBy (.ref a) X.env row) (SP X pins D) X.xe s
/-- no clause: never come to -/
theorem deals_none : Deals X [] fun _ _ _ _ _ => False := fun _ _ no => no.elim
/-- the slot i is empty behind it -/
def Ends.drop (D : Ends) (i : Nat) : Ends := { nx := fun σ H => D.nx (σ.set i none) H, rt := D.rt, bk := fun σ H => D.bk (σ.set i none) H, ct := fun σ H => D.ct (σ.set i none) H }
def wAs1 (K : PySem.W.Frag) (c : Value) (i : Nat) (ts : Addr → Value → Option Addr → L2.TS) (W : Ends → WX) : Ends → WX := fun D cls d σ H =>
  ∃ b, PySem.W.exmOne K cls c = some b ∧ (b = true → ∀ a, H a = none → ts a cls d (Ends.drop D i) (σ.set i (some (.ref a))) H) ∧ (b = false → W D cls d σ H)
variable {x n : Str} {c : Value} {i : Nat} {suite body : List Stmt} {b0 : Stmt} {np p : Pos} {row : List ExceptHandler} {ts : Addr → Value → Option Addr → L2.TS} {W : Ends → WX}
/-- behind the suite the name goes, whatever way it ended -/
theorem name_goes {E : Value → Shared → Prop} {q : Addr × Obj} {D : Ends} {way : Flow} (ok : X.Ok) (nd : X.N.Nodup) (at_ : X.N[i]? = some n) (loc : X.env.kindOf n = some .local) (h : SP (X.suite a (q :: (X.pn ++ pins))) [] (Ends.drop D i) way s) :
    wpAny (model X.prog X.w) X.A (do bindName X.env n .none; unbindBehindTheSuite X.env n p) (fun _ s' => SP X pins D way s') E s := by
  have go {τ : L2.St} {G : Hp} (J : L2.Inv (X.suite a (q :: (X.pn ++ pins))) [] τ G s) (k : ∀ s', L2.Inv X pins (τ.set i none) G s' → SP X pins D way s') : wpAny (model X.prog X.w) X.A (do bindName X.env n .none; unbindBehindTheSuite X.env n p) (fun _ s' => SP X pins D way s') E s :=
    gone_ok (J.unsuite ok) nd at_ loc k
  match way, h, @go with
  | .ret _, ⟨v, τ, G, J, r, k⟩, go => exact go J fun _ J' => ⟨v, _, G, J', r, k⟩
  | .next, ⟨τ, G, J, k⟩, go => exact go J fun _ J' => ⟨_, G, J', k⟩
  | .brk, ⟨τ, G, J, k⟩, go => exact go J fun _ J' => ⟨_, G, J', k⟩
  | .cont, ⟨τ, G, J, k⟩, go => exact go J fun _ J' => ⟨_, G, J', k⟩
/-- except x as n, and then the others -/
theorem deals_as (frame : X.env.frame = some X.env.locals) (nd : X.N.Nodup) (at_ : X.N[i]? = some n) (loc : X.env.kindOf n = some .local) (names : Names X x c)
    (does : ∀ (a : Addr) (o : Obj) (cls : Value) (d : Option Addr) (pn : List (Addr × Obj)), Zc cls d o → (∃ vs, o.data = .fields vs) → PSs (X.suite a ((a, o) :: pn)) (b0 :: suite) (ts a cls d)) (others : Deals X row W) :
    Deals X (.ExceptHandler (some (.Name x np)) (some n) (b0 :: suite) p :: row) (wAs1 X.K c i ts W) := by
  intro pins B a cls d σ H s0 s D held ⟨b, ans, hit, miss⟩
  obtain ⟨o, vs, get, z, data, J⟩ := held.opened frame
  have kind : PySem.W.Looks (model X.prog X.w) s.heap (typeOf (.ref a)) cls := fun A Q E s' k q => wpAny_typeOf_ref (k _ _ get) (by rw [z.1]; exact q)
  have told := PySem.W.exm_one (M := model X.prog X.w) held.now.kIn kind ans
  have read {Q : Value → Shared → Prop} {E : Value → Shared → Prop} (q : Q c s) : wpAny (model X.prog X.w) (X.A.mark (some (.ref a))) (eval (.Name x np) X.env) Q E s := by
    obtain ⟨glob, nodbg, own | ⟨free, boot, ne⟩⟩ := names
    · exact ld_glob (X := X.suite a ((a, o) :: (X.pn ++ pins))) J glob own q nodbg
    · exact ld_blt (X := X.suite a ((a, o) :: (X.pn ++ pins))) J glob free boot q ne nodbg
  apply wpAny_handleBy_cons (codeAny_handlers_test _) (by rintro ⟨⟩)
  apply read
  apply told.here
  cases b
  · exact others D held (miss rfl)
  apply codeAny_handlers_suite_as
  apply HandSPX.lands_againZ held.fly
  intro h f u
  obtain ⟨o2, vs2, get2, z2, data2, J2⟩ := (held.next f u).opened frame
  apply store_ok (X := X.suite a ((a, o2) :: (X.pn ++ pins))) (v := .ref a) J2 nd at_ (.inl loc) rfl _ (.inr loc)
  intro s5 J5
  apply wpAny_mono ((does a o2 cls d (X.pn ++ pins) z2 ⟨_, data2⟩).run [] s5 _ H _ J5 (hit rfl a held.free)) _ (fun _ _ no => no.elim)
  intro way s6 left
  exact name_goes held.old.ok nd at_ loc left
/-- what a body leaves, seen from behind the try -/
theorem SP.behind {pn : List (Addr × Obj)} {xe : Value → Shared → Prop} {D : Ends} {way : Flow} (ok : X.Ok) (h : SP (X.tr (X.pn ++ pins) xe) [] D way s) : SP X pins D way s := by
  match way, h with
  | .ret _, ⟨v, τ, G, J, k⟩ => exact ⟨v, τ, G, J.ofTry ok, k⟩
  | .next, ⟨τ, G, J, k⟩ => exact ⟨τ, G, J.ofTry ok, k⟩
  | .brk, ⟨τ, G, J, k⟩ => exact ⟨τ, G, J.ofTry ok, k⟩
  | .cont, ⟨τ, G, J, k⟩ => exact ⟨τ, G, J.ofTry ok, k⟩
/-- try: body, and a row of clauses -/
theorem ps_try_deals {h0 : ExceptHandler} {tb : WX → L2.TS} (stack : X.stack = X.env :: X.outer) (frame : X.env.frame = some X.env.locals) (deals : Deals X (h0 :: row) W)
    (runs : ∀ (V : WX) (pn : List (Addr × Obj)) (xe : Value → Shared → Prop), Takes (X.tr pn xe) V → PassesOwn (model X.prog X.w) X.A X.env xe → PSs (X.tr pn xe) body (tb V)) :
    PS X (.Try body (h0 :: row) [] [] p) fun D σ H => tb (W D) D σ H := by
  constructor
  intro pins s σ H D I go
  have ok := I.ok
  apply wpAny_Try_except
  have catch_ : Takes (X.tr (X.pn ++ pins) fun e s1 => wpAny (model X.prog X.w) X.A (noteFrame e X.env) (fun _ s2 => wpAny (model X.prog X.w) X.A (setFlight e none) (fun _ s3 => wpAny (model X.prog X.w) X.A (handleBy e X.env (h0 :: row)) (SP X pins D) X.xe s3) X.xe s2) X.xe s1) (W D) := by
    rintro _ s1 ⟨a, B, s0, pins', τ, G, cls, d, rfl, J, kept, up, sky, free, os, gens, wish⟩
    rw [show (X.tr (X.pn ++ pins) _).stack = X.env :: X.outer from stack] at sky
    apply Sky.land Zc.steady (by rw [ok.frames, stack]) frame sky
    intro h f u
    exact deals D ⟨J.ofTry ok, kept, up.trans u, os, gens, f, free⟩ wish
  apply wpAny_mono ((runs (W D) _ _ catch_ PassesOwn.looking).run [] s σ H D (I.toTry _) go) _ (fun _ _ e => e)
  intro way s1 left
  have out := SP.behind (pn := []) ok left
  cases way
  · exact wpAny_execs_nil out
  all_goals exact out
end
end Xk
/-! the twenty errors: made, asked, raised, caught -/
namespace Xk
open PySem L2
abbrev sAll : Stmt := top 27
abbrev sMarks : Stmt := top 28
abbrev sRaise : Stmt := top 29
abbrev sCaught : Stmt := top 30
abbrev sBased : Stmt := top 31
def nm (i : Nat) : Str := (["BadDoor", "TooMany", "BadBuilding", "BadHouse", "BadText", "NoName", "NoTerm", "NoTerms", "NoKind", "NoGiven", "TooGreat", "NoFilling", "NotMeeting", "NoSaying", "NoClient", "OtherDoors", "NoNumber", "NoLaw", "NothingDone", "NoLine"] : List Str).getD i ""
def fl (i : Nat) : Str := (["part", "most", "part", "part", "at", "name"] : List Str).getD i ""
def MkP0 (P : Program) (K : PySem.W.Frag) (mg : Str → Option Value) (C : Addr) : Prop := ∀ (w : World) (base : Heap) (A : Around) (s : Shared) (Q : Value → Shared → Prop) (E : Value → Shared → Prop), L2.Mod K mg base → K.In s.heap → (∀ b o, base.get? b = some o → s.heap.get? b = some o) → A.depth + 1 < recursionLimit →
  (∀ h' tk e, Xk.Made0 s.heap h' e C → Q (.ref e) { s with heap := h', toks := tk }) → wpAny (model P w) A (call (.ref C) []) Q E s
def MkP1 (P : Program) (K : PySem.W.Frag) (mg : Str → Option Value) (C : Addr) (f : Str) : Prop := ∀ (w : World) (base : Heap) (A : Around) (s : Shared) (R : Result → Shared → Prop) (v : Value), L2.Mod K mg base → K.In s.heap → (∀ b o, base.get? b = some o → s.heap.get? b = some o) → A.depth + 1 < recursionLimit →
  (∀ h' tk e d, Xk.Made1 s.heap h' e C d f v → R (.ok (.ret (.ref e))) { s with heap := h', toks := tk }) → codeAny (model P w) A (.call (.ref C) ⟨[v], []⟩) R s
/-- a class without a field -/
structure C0 (P : Program) (K : PySem.W.Frag) (mg : Str → Option Value) (x : Str) (C : Addr) : Prop where
  g : mg x = some (.ref C)
  e : Xk.ExC K C
  mkr : MkP0 P K mg C
/-- a class with a field -/
structure C1 (P : Program) (K : PySem.W.Frag) (mg : Str → Option Value) (x f : Str) (C : Addr) : Prop where
  g : mg x = some (.ref C)
  e : Xk.ExC K C
  no : PySem.W.findIn K (.ref C) f = some none
  mkr : MkP1 P K mg C f
/-- the classes of the text -/
structure Clz (P : Program) (K : PySem.W.Frag) (mg : Str → Option Value) (C : Nat → Addr) (D : Addr) : Prop where
  c1 : ∀ i, i < 6 → C1 P K mg (nm i) (fl i) (C i)
  c0 : ∀ i, 6 ≤ i → i < 20 → C0 P K mg (nm i) (C i)
  d : C0 P K mg "DoorError" D
  kit : ∀ i j, i < 20 → j < 20 → PySem.W.kitOne K (.ref (C i)) (.ref (C j)) = some (decide (i = j))
  kitD : ∀ i, i < 20 → PySem.W.kitOne K (.ref (C i)) (.ref D) = some true
  kitDj : ∀ j, j < 20 → PySem.W.kitOne K (.ref D) (.ref (C j)) = some false
  kitB : ∀ i, i < 20 → PySem.W.kitOne K (.ref (C i)) (.type "ValueError") = some true ∧ PySem.W.kitOne K (.ref (C i)) (.type "KeyError") = some false ∧ PySem.W.kitOne K (.ref (C i)) (.type "IndexError") = some false ∧
    PySem.W.kitOne K (.ref (C i)) (.type "ArithmeticError") = some false ∧ PySem.W.kitOne K (.ref (C i)) (.type "TypeError") = some false ∧ PySem.W.kitOne K (.ref (C i)) (.type "RuntimeError") = some false
  ex : ∀ i j, i < 6 → j < 6 → PySem.W.exmOne K (.ref (C i)) (.ref (C j)) = some (decide (i = j))
  exD : ∀ i, i < 6 → PySem.W.exmOne K (.ref (C i)) (.ref D) = some true
/-- more built-in names -/
structure Nm2 (mg : Str → Option Value) : Prop where
  isi : mg "isinstance" = none
section
variable {P : Program} {w : World} {K : PySem.W.Frag} {mg : Str → Option Value} {base : Heap} {f fR : Addr} {fd fdR : FuncData} {C : Nat → Addr} {D : Addr}
theorem c1_ (B : Clz P K mg C D) (i : Nat) (h : i < 6 := by decide) : C1 P K mg (nm i) (fl i) (C i) := B.c1 i h
theorem c0_ (B : Clz P K mg C D) (i : Nat) (h : 6 ≤ i ∧ i < 20 := by decide) : C0 P K mg (nm i) (C i) := B.c0 i h.1 h.2
theorem C0.mk0 {X : Cx} {x : Str} {C : Addr} (h : C0 X.prog X.K X.mg x C) : Mk0 X C := fun A s Q E M => h.mkr X.w X.base A s Q E M
theorem C1.mk1 {X : Cx} {x f : Str} {C : Addr} (h : C1 X.prog X.K X.mg x f C) : Mk1 X C f := fun A s R v M => h.mkr X.w X.base A s R v M
theorem ifT {c : Bool} {A B : Prop} (hc : c = true) (h : A) : if c = true then A else B := by
  rw [if_pos hc]
  exact h
theorem ifF {c : Bool} {A B : Prop} (hc : c = false) (h : B) : if c = true then A else B := by
  rw [hc, if_neg Bool.false_ne_true]
  exact h
/-! ### _law_raise -/
@[irreducible] def spRaise (C : Nat → Addr) : Sp := fun vs H _ E => ∃ (i : Nat) (v : V), vs = [.int i, v] ∧ i < 6 ∧ ∀ d, H d = none → E (.ref (C i)) (some d) (upd H d (.xd [(fl i, v)]))
theorem scRaise : FnScope ["which", "thing"] ["which", "thing"] (defScope sRaise) := ⟨rfl, rfl, rfl, by decide +kernel, rfl, by decide +kernel, by decide +kernel⟩
theorem ok_raise (F : Fun K "_law_raise" "_law_raise" sRaise f fd) (B : Clz P K mg C D) : FnOk P w K mg base (L2.CX P w) 3 f fd ["which", "thing"] (spRaise C) := by
  refine F.okX scRaise (fun vs H Q E h => ?_) (fun cdv A outer s H vs Q E hr1 h => ?_)
  · unfold spRaise at h
    obtain ⟨i, v, rfl, _⟩ := h
    rfl
  · have nd := scRaise.nd
    refine ⟨_, (pss_cons (ps_if (pt_cmpR op_eq (pv 0) pe_int (nomark _)) (pss_one (ps_rs1 (f := "part") rfl (c1_ B 0).e (c1_ B 0).mk1 hr1 (by decide) (takes_of rfl rfl rfl rfl) rfl (c1_ B 0).g rfl (pv 1) rfl)) pss_nil) (pss_cons (ps_if (pt_cmpR op_eq (pv 0) pe_int (nomark _)) (pss_one (ps_rs1 (f := "most") rfl (c1_ B 1).e (c1_ B 1).mk1 hr1 (by decide) (takes_of rfl rfl rfl rfl) rfl (c1_ B 1).g rfl (pv 1) rfl)) pss_nil) (pss_cons (ps_if (pt_cmpR op_eq (pv 0) pe_int (nomark _)) (pss_one (ps_rs1 (f := "part") rfl (c1_ B 2).e (c1_ B 2).mk1 hr1 (by decide) (takes_of rfl rfl rfl rfl) rfl (c1_ B 2).g rfl (pv 1) rfl)) pss_nil) (pss_cons (ps_if (pt_cmpR op_eq (pv 0) pe_int (nomark _)) (pss_one (ps_rs1 (f := "part") rfl (c1_ B 3).e (c1_ B 3).mk1 hr1 (by decide) (takes_of rfl rfl rfl rfl) rfl (c1_ B 3).g rfl (pv 1) rfl)) pss_nil) (pss_cons (ps_if (pt_cmpR op_eq (pv 0) pe_int (nomark _)) (pss_one (ps_rs1 (f := "at") rfl (c1_ B 4).e (c1_ B 4).mk1 hr1 (by decide) (takes_of rfl rfl rfl rfl) rfl (c1_ B 4).g rfl (pv 1) rfl)) pss_nil) (pss_one (ps_rs1 (f := "name") rfl (c1_ B 5).e (c1_ B 5).mk1 hr1 (by decide) (takes_of rfl rfl rfl rfl) rfl (c1_ B 5).g rfl (pv 1) rfl))))))), ?_⟩
    unfold spRaise at h
    obtain ⟨i, v, rfl, hi, k⟩ := h
    match i, hi, k with
    | 0, _, k =>
      refine ⟨_, rfl, rfl, _, rfl, ifT (by decide) ?_⟩
      exact ⟨_, rfl, fun d hd => k d hd⟩
    | 1, _, k =>
      refine ⟨_, rfl, rfl, _, rfl, ifF (by decide) ?_⟩
      refine ⟨_, rfl, rfl, _, rfl, ifT (by decide) ?_⟩
      exact ⟨_, rfl, fun d hd => k d hd⟩
    | 2, _, k =>
      refine ⟨_, rfl, rfl, _, rfl, ifF (by decide) ?_⟩
      refine ⟨_, rfl, rfl, _, rfl, ifF (by decide) ?_⟩
      refine ⟨_, rfl, rfl, _, rfl, ifT (by decide) ?_⟩
      exact ⟨_, rfl, fun d hd => k d hd⟩
    | 3, _, k =>
      refine ⟨_, rfl, rfl, _, rfl, ifF (by decide) ?_⟩
      refine ⟨_, rfl, rfl, _, rfl, ifF (by decide) ?_⟩
      refine ⟨_, rfl, rfl, _, rfl, ifF (by decide) ?_⟩
      refine ⟨_, rfl, rfl, _, rfl, ifT (by decide) ?_⟩
      exact ⟨_, rfl, fun d hd => k d hd⟩
    | 4, _, k =>
      refine ⟨_, rfl, rfl, _, rfl, ifF (by decide) ?_⟩
      refine ⟨_, rfl, rfl, _, rfl, ifF (by decide) ?_⟩
      refine ⟨_, rfl, rfl, _, rfl, ifF (by decide) ?_⟩
      refine ⟨_, rfl, rfl, _, rfl, ifF (by decide) ?_⟩
      refine ⟨_, rfl, rfl, _, rfl, ifT (by decide) ?_⟩
      exact ⟨_, rfl, fun d hd => k d hd⟩
    | 5, _, k =>
      refine ⟨_, rfl, rfl, _, rfl, ifF (by decide) ?_⟩
      refine ⟨_, rfl, rfl, _, rfl, ifF (by decide) ?_⟩
      refine ⟨_, rfl, rfl, _, rfl, ifF (by decide) ?_⟩
      refine ⟨_, rfl, rfl, _, rfl, ifF (by decide) ?_⟩
      refine ⟨_, rfl, rfl, _, rfl, ifF (by decide) ?_⟩
      exact ⟨_, rfl, fun d hd => k d hd⟩
/-! ### _law_caught -/
theorem xfOf {C : Addr} (h : Xk.ExC K C) : XfC K C := ⟨h.ga, h.gg, h.exC, h.hdC⟩
@[irreducible] def spCaught : Sp := fun vs H Q _ => ∃ (i : Nat) (v : V), vs = [.int i, v] ∧ i < 6 ∧ ∀ t H', Same H H' → H' t = some (.tup [.int i, v]) → Q (.ref t) H'
theorem scCaught : FnScope ["which", "thing", "e"] ["which", "thing"] (defScope sCaught) := ⟨rfl, rfl, rfl, by decide +kernel, rfl, by decide +kernel, by decide +kernel⟩
/-- what the clauses do, one after the other -/
def tCl (K : PySem.W.Frag) (C : Nat → Addr) (i : Nat) : Addr → Value → Option Addr → TS := fun a cls d => tRet (tTup (tCons (tC (.int i)) (tCons (tXf a cls d (C i) (fl i) (tVar 2)) tNil)))
theorem ok_caught (F : Fun K "_law_caught" "_law_caught" sCaught f fd) (FR : Fun K "_law_raise" "_law_raise" sRaise fR fdR) (gR : mg "_law_raise" = some (.ref fR)) (B : Clz P K mg C D) : FnOk P w K mg base CX0 4 f fd ["which", "thing"] spCaught := by
  have GR : FnOk P w K mg base (L2.CX P w) 3 fR fdR ["which", "thing"] (spRaise C) := ok_raise FR B
  have bR : Binds K fdR ["which", "thing"] [] := bind2 FR fun _ _ _ _ _ _ _ _ => rfl
  refine F.ok scCaught (fun vs H Q E h => ?_) (fun cdv A outer s H vs Q E hr h => ?_)
  · unfold spCaught at h
    obtain ⟨i, v, rfl, _⟩ := h
    rfl
  · have nd := scCaught.nd
    refine ⟨_, pss_cons (ps_try_deals (tb := fun W => tDrop (tCallS (spRaise C) (WE W) (tCons (tVar 0) (tCons (tVar 1) tNil)))) rfl rfl
          (deals_as (i := 2) (n := "e") (x := nm 0) (c := .ref (C 0)) (ts := tCl K C 0) rfl nd rfl rfl (by exact ⟨rfl, by decide +kernel, .inl (c1_ B 0).g⟩) (fun a oe cls d pn hz hf => pss_one (ps_ret (pe_tup (pa_cons pe_int (pa_cons (pe_xf (xfOf (c1_ B 0).e) (c1_ B 0).no hz hf (pv 2)) pa_nil)))))
          (deals_as (i := 2) (n := "e") (x := nm 1) (c := .ref (C 1)) (ts := tCl K C 1) rfl nd rfl rfl (by exact ⟨rfl, by decide +kernel, .inl (c1_ B 1).g⟩) (fun a oe cls d pn hz hf => pss_one (ps_ret (pe_tup (pa_cons pe_int (pa_cons (pe_xf (xfOf (c1_ B 1).e) (c1_ B 1).no hz hf (pv 2)) pa_nil)))))
          (deals_as (i := 2) (n := "e") (x := nm 2) (c := .ref (C 2)) (ts := tCl K C 2) rfl nd rfl rfl (by exact ⟨rfl, by decide +kernel, .inl (c1_ B 2).g⟩) (fun a oe cls d pn hz hf => pss_one (ps_ret (pe_tup (pa_cons pe_int (pa_cons (pe_xf (xfOf (c1_ B 2).e) (c1_ B 2).no hz hf (pv 2)) pa_nil)))))
          (deals_as (i := 2) (n := "e") (x := nm 3) (c := .ref (C 3)) (ts := tCl K C 3) rfl nd rfl rfl (by exact ⟨rfl, by decide +kernel, .inl (c1_ B 3).g⟩) (fun a oe cls d pn hz hf => pss_one (ps_ret (pe_tup (pa_cons pe_int (pa_cons (pe_xf (xfOf (c1_ B 3).e) (c1_ B 3).no hz hf (pv 2)) pa_nil)))))
          (deals_as (i := 2) (n := "e") (x := nm 4) (c := .ref (C 4)) (ts := tCl K C 4) rfl nd rfl rfl (by exact ⟨rfl, by decide +kernel, .inl (c1_ B 4).g⟩) (fun a oe cls d pn hz hf => pss_one (ps_ret (pe_tup (pa_cons pe_int (pa_cons (pe_xf (xfOf (c1_ B 4).e) (c1_ B 4).no hz hf (pv 2)) pa_nil)))))
          (deals_as (i := 2) (n := "e") (x := nm 5) (c := .ref (C 5)) (ts := tCl K C 5) rfl nd rfl rfl (by exact ⟨rfl, by decide +kernel, .inl (c1_ B 5).g⟩) (fun a oe cls d pn hz hf => pss_one (ps_ret (pe_tup (pa_cons pe_int (pa_cons (pe_xf (xfOf (c1_ B 5).e) (c1_ B 5).no hz hf (pv 2)) pa_nil)))))
          deals_none))))))
          (fun W pn xe tk _ => pss_one (ps_expr (pe_callS GR hr rfl gR FR.kp bR (fun σ => passAt tk σ) (by exact (pa_cons (pv 0) (pa_cons (pv 1) pa_nil)))))))
      (pss_one (ps_ret (pe_tup (pa_cons pe_int (pa_cons pe_non pa_nil))))), ?_⟩
    unfold spCaught at h
    obtain ⟨i, v, rfl, hi, k⟩ := h
    refine ⟨_, rfl, _, rfl, ?_⟩
    show spRaise C [.int i, v] H _ _
    unfold spRaise
    refine ⟨i, v, rfl, hi, fun d hd => ?_⟩
    have nx : ∀ j, j < 6 → PySem.W.exmOne K (.ref (C i)) (.ref (C j)) = some (decide (i = j)) := fun j hj => B.ex i j hi hj
    match i, hi, k, nx with
    | 0, _, k, nx =>
      refine ⟨true, (nx 0 (by decide)).trans rfl, fun _ a ha => ?_, fun q => Bool.noConfusion q⟩
      refine ⟨_, rfl, rfl, rfl, d, _, v, rfl, upd_same, by rfl, (by show 2 ≤ sizeLine; decide), fun t ht => ?_⟩
      exact k t _ (fun b o e => by rw [upd_ne (fun z => by subst z; rw [upd_ne (fun z => by subst z; rw [hd] at e; cases e), e] at ht; cases ht), upd_ne (fun z => by subst z; rw [hd] at e; cases e)]; exact e) upd_same
    | 1, _, k, nx =>
      refine ⟨false, (nx 0 (by decide)).trans rfl, (fun q => Bool.noConfusion q), fun _ => ?_⟩
      refine ⟨true, (nx 1 (by decide)).trans rfl, fun _ a ha => ?_, fun q => Bool.noConfusion q⟩
      refine ⟨_, rfl, rfl, rfl, d, _, v, rfl, upd_same, by rfl, (by show 2 ≤ sizeLine; decide), fun t ht => ?_⟩
      exact k t _ (fun b o e => by rw [upd_ne (fun z => by subst z; rw [upd_ne (fun z => by subst z; rw [hd] at e; cases e), e] at ht; cases ht), upd_ne (fun z => by subst z; rw [hd] at e; cases e)]; exact e) upd_same
    | 2, _, k, nx =>
      refine ⟨false, (nx 0 (by decide)).trans rfl, (fun q => Bool.noConfusion q), fun _ => ?_⟩
      refine ⟨false, (nx 1 (by decide)).trans rfl, (fun q => Bool.noConfusion q), fun _ => ?_⟩
      refine ⟨true, (nx 2 (by decide)).trans rfl, fun _ a ha => ?_, fun q => Bool.noConfusion q⟩
      refine ⟨_, rfl, rfl, rfl, d, _, v, rfl, upd_same, by rfl, (by show 2 ≤ sizeLine; decide), fun t ht => ?_⟩
      exact k t _ (fun b o e => by rw [upd_ne (fun z => by subst z; rw [upd_ne (fun z => by subst z; rw [hd] at e; cases e), e] at ht; cases ht), upd_ne (fun z => by subst z; rw [hd] at e; cases e)]; exact e) upd_same
    | 3, _, k, nx =>
      refine ⟨false, (nx 0 (by decide)).trans rfl, (fun q => Bool.noConfusion q), fun _ => ?_⟩
      refine ⟨false, (nx 1 (by decide)).trans rfl, (fun q => Bool.noConfusion q), fun _ => ?_⟩
      refine ⟨false, (nx 2 (by decide)).trans rfl, (fun q => Bool.noConfusion q), fun _ => ?_⟩
      refine ⟨true, (nx 3 (by decide)).trans rfl, fun _ a ha => ?_, fun q => Bool.noConfusion q⟩
      refine ⟨_, rfl, rfl, rfl, d, _, v, rfl, upd_same, by rfl, (by show 2 ≤ sizeLine; decide), fun t ht => ?_⟩
      exact k t _ (fun b o e => by rw [upd_ne (fun z => by subst z; rw [upd_ne (fun z => by subst z; rw [hd] at e; cases e), e] at ht; cases ht), upd_ne (fun z => by subst z; rw [hd] at e; cases e)]; exact e) upd_same
    | 4, _, k, nx =>
      refine ⟨false, (nx 0 (by decide)).trans rfl, (fun q => Bool.noConfusion q), fun _ => ?_⟩
      refine ⟨false, (nx 1 (by decide)).trans rfl, (fun q => Bool.noConfusion q), fun _ => ?_⟩
      refine ⟨false, (nx 2 (by decide)).trans rfl, (fun q => Bool.noConfusion q), fun _ => ?_⟩
      refine ⟨false, (nx 3 (by decide)).trans rfl, (fun q => Bool.noConfusion q), fun _ => ?_⟩
      refine ⟨true, (nx 4 (by decide)).trans rfl, fun _ a ha => ?_, fun q => Bool.noConfusion q⟩
      refine ⟨_, rfl, rfl, rfl, d, _, v, rfl, upd_same, by rfl, (by show 2 ≤ sizeLine; decide), fun t ht => ?_⟩
      exact k t _ (fun b o e => by rw [upd_ne (fun z => by subst z; rw [upd_ne (fun z => by subst z; rw [hd] at e; cases e), e] at ht; cases ht), upd_ne (fun z => by subst z; rw [hd] at e; cases e)]; exact e) upd_same
    | 5, _, k, nx =>
      refine ⟨false, (nx 0 (by decide)).trans rfl, (fun q => Bool.noConfusion q), fun _ => ?_⟩
      refine ⟨false, (nx 1 (by decide)).trans rfl, (fun q => Bool.noConfusion q), fun _ => ?_⟩
      refine ⟨false, (nx 2 (by decide)).trans rfl, (fun q => Bool.noConfusion q), fun _ => ?_⟩
      refine ⟨false, (nx 3 (by decide)).trans rfl, (fun q => Bool.noConfusion q), fun _ => ?_⟩
      refine ⟨false, (nx 4 (by decide)).trans rfl, (fun q => Bool.noConfusion q), fun _ => ?_⟩
      refine ⟨true, (nx 5 (by decide)).trans rfl, fun _ a ha => ?_, fun q => Bool.noConfusion q⟩
      refine ⟨_, rfl, rfl, rfl, d, _, v, rfl, upd_same, by rfl, (by show 2 ≤ sizeLine; decide), fun t ht => ?_⟩
      exact k t _ (fun b o e => by rw [upd_ne (fun z => by subst z; rw [upd_ne (fun z => by subst z; rw [hd] at e; cases e), e] at ht; cases ht), upd_ne (fun z => by subst z; rw [hd] at e; cases e)]; exact e) upd_same
/-! ### _law_is_based -/
@[irreducible] def spBased : Sp := fun vs H Q _ => ∃ (i : Nat) (v : V), vs = [.int i, v] ∧ i < 6 ∧ ∀ H', Same H H' → Q (.bl true) H'
theorem scBased : FnScope ["which", "thing"] ["which", "thing"] (defScope sBased) := ⟨rfl, rfl, rfl, by decide +kernel, rfl, by decide +kernel, by decide +kernel⟩
theorem ok_based (F : Fun K "_law_is_based" "_law_is_based" sBased f fd) (FR : Fun K "_law_raise" "_law_raise" sRaise fR fdR) (gR : mg "_law_raise" = some (.ref fR)) (B : Clz P K mg C D) : FnOk P w K mg base CX0 4 f fd ["which", "thing"] spBased := by
  have GR : FnOk P w K mg base (L2.CX P w) 3 fR fdR ["which", "thing"] (spRaise C) := ok_raise FR B
  have bR : Binds K fdR ["which", "thing"] [] := bind2 FR fun _ _ _ _ _ _ _ _ => rfl
  refine F.ok scBased (fun vs H Q E h => ?_) (fun cdv A outer s H vs Q E hr h => ?_)
  · unfold spBased at h
    obtain ⟨i, v, rfl, _⟩ := h
    rfl
  · have nd := scBased.nd
    refine ⟨_, pss_cons (ps_try_only (tb := fun W => tDrop (tCallS (spRaise C) (WE W) (tCons (tVar 0) (tCons (tVar 1) tNil)))) (Wout := fun _ _ _ _ => False) (ts := fun _ _ _ => tRet (tC (.bl true))) rfl rfl ⟨rfl, by decide +kernel, .inl B.d.g⟩ takes0
        (fun W pn xe tk _ => pss_one (ps_expr (pe_callS GR hr rfl gR FR.kp bR (fun σ => passAt tk σ) (by exact (pa_cons (pv 0) (pa_cons (pv 1) pa_nil))))))
        (fun a oe cls d pn _ _ => pss_one (ps_ret pe_bl)))
      (pss_one (ps_ret pe_bl)), ?_⟩
    unfold spBased at h
    obtain ⟨i, v, rfl, hi, k⟩ := h
    refine ⟨_, rfl, _, rfl, ?_⟩
    show spRaise C [.int i, v] H _ _
    unfold spRaise
    refine ⟨i, v, rfl, hi, fun d hd => ⟨true, B.exD i hi, fun _ a ha => ?_, fun q => Bool.noConfusion q⟩⟩
    exact k _ fun b o e => by rw [upd_ne (ne_of_none e hd)]; exact e
/-! ### _law_all -/
/-- the errors, made with v, stand at as -/
def Errs (C : Nat → Addr) (H : Hp) (v : V) (as : List Addr) : Prop := as.length = 20 ∧ ∀ i a, as[i]? = some a → (i < 6 → Er1 H a (C i) (fl i) v) ∧ (6 ≤ i → Er0 H a (C i))
@[irreducible] def spAll (C : Nat → Addr) : Sp := fun vs H Q _ => ∃ v : V, vs = [v] ∧ ∀ l as H', Same H H' → H l = none → H' l = some (.lst (as.map V.ref)) → Errs C H' v as → Q (.ref l) H'
theorem scAll : FnScope ["thing", "first"] ["thing"] (defScope sAll) := ⟨rfl, rfl, rfl, by decide +kernel, rfl, by decide +kernel, by decide +kernel⟩
theorem ok_all (F : Fun K "_law_all" "_law_all" sAll f fd) (B : Clz P K mg C D) : FnOk P w K mg base CX0 3 f fd ["thing"] (spAll C) := by
  refine F.ok scAll (fun vs H Q E h => ?_) (fun cdv A outer s H vs Q E hr1 h => ?_)
  · unfold spAll at h
    obtain ⟨v, rfl, _⟩ := h
    rfl
  · have nd := scAll.nd
    refine ⟨_, (pss_cons (ps_set (i := 1) nd rfl (Or.inl rfl) (pe_lst (pa_cons (pe_mk1 (f := "part") (c1_ B 0).mk1 (c1_ B 0).e.kC hr1 (by decide) rfl (c1_ B 0).g rfl (pv 0) rfl) (pa_cons (pe_mk1 (f := "most") (c1_ B 1).mk1 (c1_ B 1).e.kC hr1 (by decide) rfl (c1_ B 1).g rfl (pv 0) rfl) (pa_cons (pe_mk1 (f := "part") (c1_ B 2).mk1 (c1_ B 2).e.kC hr1 (by decide) rfl (c1_ B 2).g rfl (pv 0) rfl) (pa_cons (pe_mk1 (f := "part") (c1_ B 3).mk1 (c1_ B 3).e.kC hr1 (by decide) rfl (c1_ B 3).g rfl (pv 0) rfl) (pa_cons (pe_mk1 (f := "at") (c1_ B 4).mk1 (c1_ B 4).e.kC hr1 (by decide) rfl (c1_ B 4).g rfl (pv 0) rfl) (pa_cons (pe_mk1 (f := "name") (c1_ B 5).mk1 (c1_ B 5).e.kC hr1 (by decide) rfl (c1_ B 5).g rfl (pv 0) rfl) pa_nil)))))))) (pss_cons (ps_set (i := 1) nd rfl (Or.inl rfl) (pe_op op_cat (pv 1) (pe_lst (pa_cons (pe_mk0 (c0_ B 6).mk0 (c0_ B 6).e.kC hr1 (by decide) rfl (c0_ B 6).g rfl) (pa_cons (pe_mk0 (c0_ B 7).mk0 (c0_ B 7).e.kC hr1 (by decide) rfl (c0_ B 7).g rfl) (pa_cons (pe_mk0 (c0_ B 8).mk0 (c0_ B 8).e.kC hr1 (by decide) rfl (c0_ B 8).g rfl) (pa_cons (pe_mk0 (c0_ B 9).mk0 (c0_ B 9).e.kC hr1 (by decide) rfl (c0_ B 9).g rfl) (pa_cons (pe_mk0 (c0_ B 10).mk0 (c0_ B 10).e.kC hr1 (by decide) rfl (c0_ B 10).g rfl) (pa_cons (pe_mk0 (c0_ B 11).mk0 (c0_ B 11).e.kC hr1 (by decide) rfl (c0_ B 11).g rfl) (pa_cons (pe_mk0 (c0_ B 12).mk0 (c0_ B 12).e.kC hr1 (by decide) rfl (c0_ B 12).g rfl) (pa_cons (pe_mk0 (c0_ B 13).mk0 (c0_ B 13).e.kC hr1 (by decide) rfl (c0_ B 13).g rfl) pa_nil))))))))))) (pss_one (ps_ret (pe_op op_cat (pv 1) (pe_lst (pa_cons (pe_mk0 (c0_ B 14).mk0 (c0_ B 14).e.kC hr1 (by decide) rfl (c0_ B 14).g rfl) (pa_cons (pe_mk0 (c0_ B 15).mk0 (c0_ B 15).e.kC hr1 (by decide) rfl (c0_ B 15).g rfl) (pa_cons (pe_mk0 (c0_ B 16).mk0 (c0_ B 16).e.kC hr1 (by decide) rfl (c0_ B 16).g rfl) (pa_cons (pe_mk0 (c0_ B 17).mk0 (c0_ B 17).e.kC hr1 (by decide) rfl (c0_ B 17).g rfl) (pa_cons (pe_mk0 (c0_ B 18).mk0 (c0_ B 18).e.kC hr1 (by decide) rfl (c0_ B 18).g rfl) (pa_cons (pe_mk0 (c0_ B 19).mk0 (c0_ B 19).e.kC hr1 (by decide) rfl (c0_ B 19).g rfl) pa_nil)))))))))))), ?_⟩
    unfold spAll at h
    obtain ⟨v, rfl, k⟩ := h
    have tr : ∀ {A B C : Hp}, Same A B → Same B C → Same A C := fun a b c o e => b c o (a c o e)
    have up : ∀ {H : Hp} {a : Addr} {o : HO}, H a = none → Same H (upd H a o) := fun h b u e => by rw [upd_ne (ne_of_none e h)]; exact e
    refine ⟨_, rfl, fun a0 H0 s0 n0 e0 => ?_⟩
    refine ⟨_, rfl, fun a1 H1 s1 n1 e1 => ?_⟩
    refine ⟨_, rfl, fun a2 H2 s2 n2 e2 => ?_⟩
    refine ⟨_, rfl, fun a3 H3 s3 n3 e3 => ?_⟩
    refine ⟨_, rfl, fun a4 H4 s4 n4 e4 => ?_⟩
    refine ⟨_, rfl, fun a5 H5 s5 n5 e5 => ?_⟩
    refine ⟨(by show 6 ≤ sizeLine; decide), fun l1 h1 => ?_⟩
    refine ⟨_, rfl, ?_⟩
    refine fun a6 H6 s6 n6 e6 => ?_
    refine fun a7 H7 s7 n7 e7 => ?_
    refine fun a8 H8 s8 n8 e8 => ?_
    refine fun a9 H9 s9 n9 e9 => ?_
    refine fun a10 H10 s10 n10 e10 => ?_
    refine fun a11 H11 s11 n11 e11 => ?_
    refine fun a12 H12 s12 n12 e12 => ?_
    refine fun a13 H13 s13 n13 e13 => ?_
    refine ⟨(by show 8 ≤ sizeLine; decide), fun l2 h2 => ?_⟩
    have sA := tr s6 (tr s7 (tr s8 (tr s9 (tr s10 (tr s11 (tr s12 (tr s13 (up (o := .lst [.ref a6, .ref a7, .ref a8, .ref a9, .ref a10, .ref a11, .ref a12, .ref a13]) h2))))))))
    refine ⟨_, _, _, _, rfl, rfl, sA _ _ upd_same, upd_same, (by show 14 ≤ sizeLine; decide), fun q1 hq1 => ?_⟩
    refine ⟨_, rfl, ?_⟩
    refine fun a14 H14 s14 n14 e14 => ?_
    refine fun a15 H15 s15 n15 e15 => ?_
    refine fun a16 H16 s16 n16 e16 => ?_
    refine fun a17 H17 s17 n17 e17 => ?_
    refine fun a18 H18 s18 n18 e18 => ?_
    refine fun a19 H19 s19 n19 e19 => ?_
    refine ⟨(by show 6 ≤ sizeLine; decide), fun l3 h3 => ?_⟩
    have sB := tr s14 (tr s15 (tr s16 (tr s17 (tr s18 (tr s19 (up (o := .lst [.ref a14, .ref a15, .ref a16, .ref a17, .ref a18, .ref a19]) h3))))))
    refine ⟨_, _, _, _, rfl, rfl, sB _ _ upd_same, upd_same, (by show 20 ≤ sizeLine; decide), fun q2 hq2 => ?_⟩
    have t19 := tr (up (o := .lst [.ref a14, .ref a15, .ref a16, .ref a17, .ref a18, .ref a19]) h3) (up (o := .lst [.ref a0, .ref a1, .ref a2, .ref a3, .ref a4, .ref a5, .ref a6, .ref a7, .ref a8, .ref a9, .ref a10, .ref a11, .ref a12, .ref a13, .ref a14, .ref a15, .ref a16, .ref a17, .ref a18, .ref a19]) hq2)
    have t18 := tr s19 t19
    have t17 := tr s18 t18
    have t16 := tr s17 t17
    have t15 := tr s16 t16
    have t14 := tr s15 t15
    have tq := tr s14 t14
    have t13 := tr (up (o := .lst [.ref a6, .ref a7, .ref a8, .ref a9, .ref a10, .ref a11, .ref a12, .ref a13]) h2) (tr (up hq1) tq)
    have t12 := tr s13 t13
    have t11 := tr s12 t12
    have t10 := tr s11 t11
    have t9 := tr s10 t10
    have t8 := tr s9 t9
    have t7 := tr s8 t8
    have t6 := tr s7 t7
    have tl := tr s6 t6
    have t5 := tr (up h1) tl
    have t4 := tr s5 t5
    have t3 := tr s4 t4
    have t2 := tr s3 t3
    have t1 := tr s2 t2
    have t0 := tr s1 t1
    have tH := tr s0 t0
    refine k q2 [a0, a1, a2, a3, a4, a5, a6, a7, a8, a9, a10, a11, a12, a13, a14, a15, a16, a17, a18, a19] _ tH ?_ upd_same ⟨rfl, fun i a hi => ?_⟩
    · cases z : H q2 with
      | none => rfl
      | some o =>
        have := (tr s0 (tr s1 (tr s2 (tr s3 (tr s4 (tr s5 (tr (up h1) (tr sA (tr (up hq1) sB))))))))) q2 o z
        rw [hq2] at this
        cases this
    · match i, hi with
      | 0, hi => exact (Option.some.inj hi) ▸ ⟨fun _ => e0.same t0, fun h => absurd h (by decide)⟩
      | 1, hi => exact (Option.some.inj hi) ▸ ⟨fun _ => e1.same t1, fun h => absurd h (by decide)⟩
      | 2, hi => exact (Option.some.inj hi) ▸ ⟨fun _ => e2.same t2, fun h => absurd h (by decide)⟩
      | 3, hi => exact (Option.some.inj hi) ▸ ⟨fun _ => e3.same t3, fun h => absurd h (by decide)⟩
      | 4, hi => exact (Option.some.inj hi) ▸ ⟨fun _ => e4.same t4, fun h => absurd h (by decide)⟩
      | 5, hi => exact (Option.some.inj hi) ▸ ⟨fun _ => e5.same t5, fun h => absurd h (by decide)⟩
      | 6, hi => exact (Option.some.inj hi) ▸ ⟨fun h => absurd h (by decide), fun _ => e6.same t6⟩
      | 7, hi => exact (Option.some.inj hi) ▸ ⟨fun h => absurd h (by decide), fun _ => e7.same t7⟩
      | 8, hi => exact (Option.some.inj hi) ▸ ⟨fun h => absurd h (by decide), fun _ => e8.same t8⟩
      | 9, hi => exact (Option.some.inj hi) ▸ ⟨fun h => absurd h (by decide), fun _ => e9.same t9⟩
      | 10, hi => exact (Option.some.inj hi) ▸ ⟨fun h => absurd h (by decide), fun _ => e10.same t10⟩
      | 11, hi => exact (Option.some.inj hi) ▸ ⟨fun h => absurd h (by decide), fun _ => e11.same t11⟩
      | 12, hi => exact (Option.some.inj hi) ▸ ⟨fun h => absurd h (by decide), fun _ => e12.same t12⟩
      | 13, hi => exact (Option.some.inj hi) ▸ ⟨fun h => absurd h (by decide), fun _ => e13.same t13⟩
      | 14, hi => exact (Option.some.inj hi) ▸ ⟨fun h => absurd h (by decide), fun _ => e14.same t14⟩
      | 15, hi => exact (Option.some.inj hi) ▸ ⟨fun h => absurd h (by decide), fun _ => e15.same t15⟩
      | 16, hi => exact (Option.some.inj hi) ▸ ⟨fun h => absurd h (by decide), fun _ => e16.same t16⟩
      | 17, hi => exact (Option.some.inj hi) ▸ ⟨fun h => absurd h (by decide), fun _ => e17.same t17⟩
      | 18, hi => exact (Option.some.inj hi) ▸ ⟨fun h => absurd h (by decide), fun _ => e18.same t18⟩
      | 19, hi => exact (Option.some.inj hi) ▸ ⟨fun h => absurd h (by decide), fun _ => e19.same t19⟩
      | n + 20, hi => cases hi
/-! ### _law_marks -/
@[irreducible] def spMarks (C : Nat → Addr) (K : PySem.W.Frag) : Sp := fun vs H Q _ => ∃ (a Cx : Addr) (bs : Nat → Bool), vs = [.ref a] ∧ ErC H a Cx ∧ Xk.ExC K Cx ∧ (∀ j, j < 20 → PySem.W.kitOne K (.ref Cx) (.ref (C j)) = some (bs j)) ∧
  ∀ l H', Same H H' → H l = none → H' l = some (.lst (((List.range 20).map bs).map V.bl)) → Q (.ref l) H'
theorem scMarks : FnScope ["error", "found"] ["error"] (defScope sMarks) := ⟨rfl, rfl, rfl, by decide +kernel, rfl, by decide +kernel, by decide +kernel⟩
theorem ErC.same {H H' : Hp} {a C : Addr} (h : ErC H a C) (s : Same H H') : ErC H' a C := let ⟨d, e, k⟩ := h; ⟨d, s _ _ e, fun dx z => let ⟨fs, q⟩ := k dx z; ⟨fs, s _ _ q⟩⟩
theorem ok_marks (F : Fun K "_law_marks" "_law_marks" sMarks f fd) (T : Nm2 mg) (B : Clz P K mg C D) : FnOk P w K mg base CX0 1 f fd ["error"] (spMarks C K) := by
  refine F.ok scMarks (fun vs H Q E h => ?_) (fun cdv A outer s H vs Q E hr1 h => ?_)
  · unfold spMarks at h
    obtain ⟨a, Cx, bs, rfl, _⟩ := h
    rfl
  · have nd := scMarks.nd
    refine ⟨_, (pss_cons (ps_set (i := 1) nd rfl (Or.inl rfl) (pe_lst (pa_cons (pe_callB call_isX (by rfl) T.isi (by decide +kernel) (pa_cons (pv 0) (pa_cons (pe_glob (v := L2.V.ref (C 0)) rfl (c1_ B 0).g rfl) pa_nil))) (pa_cons (pe_callB call_isX (by rfl) T.isi (by decide +kernel) (pa_cons (pv 0) (pa_cons (pe_glob (v := L2.V.ref (C 1)) rfl (c1_ B 1).g rfl) pa_nil))) (pa_cons (pe_callB call_isX (by rfl) T.isi (by decide +kernel) (pa_cons (pv 0) (pa_cons (pe_glob (v := L2.V.ref (C 2)) rfl (c1_ B 2).g rfl) pa_nil))) pa_nil))))) (pss_cons (ps_set (i := 1) nd rfl (Or.inl rfl) (pe_op op_cat (pv 1) (pe_lst (pa_cons (pe_callB call_isX (by rfl) T.isi (by decide +kernel) (pa_cons (pv 0) (pa_cons (pe_glob (v := L2.V.ref (C 3)) rfl (c1_ B 3).g rfl) pa_nil))) (pa_cons (pe_callB call_isX (by rfl) T.isi (by decide +kernel) (pa_cons (pv 0) (pa_cons (pe_glob (v := L2.V.ref (C 4)) rfl (c1_ B 4).g rfl) pa_nil))) (pa_cons (pe_callB call_isX (by rfl) T.isi (by decide +kernel) (pa_cons (pv 0) (pa_cons (pe_glob (v := L2.V.ref (C 5)) rfl (c1_ B 5).g rfl) pa_nil))) pa_nil)))))) (pss_cons (ps_set (i := 1) nd rfl (Or.inl rfl) (pe_op op_cat (pv 1) (pe_lst (pa_cons (pe_callB call_isX (by rfl) T.isi (by decide +kernel) (pa_cons (pv 0) (pa_cons (pe_glob (v := L2.V.ref (C 6)) rfl (c0_ B 6).g rfl) pa_nil))) (pa_cons (pe_callB call_isX (by rfl) T.isi (by decide +kernel) (pa_cons (pv 0) (pa_cons (pe_glob (v := L2.V.ref (C 7)) rfl (c0_ B 7).g rfl) pa_nil))) (pa_cons (pe_callB call_isX (by rfl) T.isi (by decide +kernel) (pa_cons (pv 0) (pa_cons (pe_glob (v := L2.V.ref (C 8)) rfl (c0_ B 8).g rfl) pa_nil))) pa_nil)))))) (pss_cons (ps_set (i := 1) nd rfl (Or.inl rfl) (pe_op op_cat (pv 1) (pe_lst (pa_cons (pe_callB call_isX (by rfl) T.isi (by decide +kernel) (pa_cons (pv 0) (pa_cons (pe_glob (v := L2.V.ref (C 9)) rfl (c0_ B 9).g rfl) pa_nil))) (pa_cons (pe_callB call_isX (by rfl) T.isi (by decide +kernel) (pa_cons (pv 0) (pa_cons (pe_glob (v := L2.V.ref (C 10)) rfl (c0_ B 10).g rfl) pa_nil))) (pa_cons (pe_callB call_isX (by rfl) T.isi (by decide +kernel) (pa_cons (pv 0) (pa_cons (pe_glob (v := L2.V.ref (C 11)) rfl (c0_ B 11).g rfl) pa_nil))) pa_nil)))))) (pss_cons (ps_set (i := 1) nd rfl (Or.inl rfl) (pe_op op_cat (pv 1) (pe_lst (pa_cons (pe_callB call_isX (by rfl) T.isi (by decide +kernel) (pa_cons (pv 0) (pa_cons (pe_glob (v := L2.V.ref (C 12)) rfl (c0_ B 12).g rfl) pa_nil))) (pa_cons (pe_callB call_isX (by rfl) T.isi (by decide +kernel) (pa_cons (pv 0) (pa_cons (pe_glob (v := L2.V.ref (C 13)) rfl (c0_ B 13).g rfl) pa_nil))) (pa_cons (pe_callB call_isX (by rfl) T.isi (by decide +kernel) (pa_cons (pv 0) (pa_cons (pe_glob (v := L2.V.ref (C 14)) rfl (c0_ B 14).g rfl) pa_nil))) pa_nil)))))) (pss_cons (ps_set (i := 1) nd rfl (Or.inl rfl) (pe_op op_cat (pv 1) (pe_lst (pa_cons (pe_callB call_isX (by rfl) T.isi (by decide +kernel) (pa_cons (pv 0) (pa_cons (pe_glob (v := L2.V.ref (C 15)) rfl (c0_ B 15).g rfl) pa_nil))) (pa_cons (pe_callB call_isX (by rfl) T.isi (by decide +kernel) (pa_cons (pv 0) (pa_cons (pe_glob (v := L2.V.ref (C 16)) rfl (c0_ B 16).g rfl) pa_nil))) (pa_cons (pe_callB call_isX (by rfl) T.isi (by decide +kernel) (pa_cons (pv 0) (pa_cons (pe_glob (v := L2.V.ref (C 17)) rfl (c0_ B 17).g rfl) pa_nil))) pa_nil)))))) (pss_one (ps_ret (pe_op op_cat (pv 1) (pe_lst (pa_cons (pe_callB call_isX (by rfl) T.isi (by decide +kernel) (pa_cons (pv 0) (pa_cons (pe_glob (v := L2.V.ref (C 18)) rfl (c0_ B 18).g rfl) pa_nil))) (pa_cons (pe_callB call_isX (by rfl) T.isi (by decide +kernel) (pa_cons (pv 0) (pa_cons (pe_glob (v := L2.V.ref (C 19)) rfl (c0_ B 19).g rfl) pa_nil))) pa_nil)))))))))))), ?_⟩
    unfold spMarks at h
    obtain ⟨a, Cx, bs, rfl, he, hx, hk, k⟩ := h
    have tr : ∀ {A B C : Hp}, Same A B → Same B C → Same A C := fun a b c o e => b c o (a c o e)
    have up : ∀ {H : Hp} {a : Addr} {o : HO}, H a = none → Same H (upd H a o) := fun h b u e => by rw [upd_ne (ne_of_none e h)]; exact e
    refine ⟨_, rfl, a, Cx, _, _, _, rfl, he, hx, (fun _ h => h), hk 0 (by decide), _, rfl, a, Cx, _, _, _, rfl, he, hx, (fun _ h => h), hk 1 (by decide), _, rfl, a, Cx, _, _, _, rfl, he, hx, (fun _ h => h), hk 2 (by decide), (by show 3 ≤ sizeLine; decide), fun p0 g0 => ?_⟩
    have s0 := up (o := .lst [.bl (bs 0), .bl (bs 1), .bl (bs 2)]) g0
    have he0 := ErC.same he s0
    refine ⟨_, rfl, _, rfl, a, Cx, _, _, _, rfl, he0, hx, (fun _ h => h), hk 3 (by decide), _, rfl, a, Cx, _, _, _, rfl, he0, hx, (fun _ h => h), hk 4 (by decide), _, rfl, a, Cx, _, _, _, rfl, he0, hx, (fun _ h => h), hk 5 (by decide), (by show 3 ≤ sizeLine; decide), fun l1 h1 => ?_⟩
    refine ⟨_, _, _, _, rfl, rfl, up h1 _ _ upd_same, upd_same, (by show 6 ≤ sizeLine; decide), fun p1 g1 => ?_⟩
    have u1 := up (o := .lst [.bl (bs 3), .bl (bs 4), .bl (bs 5)]) h1
    have s1 := tr s0 (tr u1 (up (o := .lst [.bl (bs 0), .bl (bs 1), .bl (bs 2), .bl (bs 3), .bl (bs 4), .bl (bs 5)]) g1))
    have he1 := ErC.same he s1
    refine ⟨_, rfl, _, rfl, a, Cx, _, _, _, rfl, he1, hx, (fun _ h => h), hk 6 (by decide), _, rfl, a, Cx, _, _, _, rfl, he1, hx, (fun _ h => h), hk 7 (by decide), _, rfl, a, Cx, _, _, _, rfl, he1, hx, (fun _ h => h), hk 8 (by decide), (by show 3 ≤ sizeLine; decide), fun l2 h2 => ?_⟩
    refine ⟨_, _, _, _, rfl, rfl, up h2 _ _ upd_same, upd_same, (by show 9 ≤ sizeLine; decide), fun p2 g2 => ?_⟩
    have u2 := up (o := .lst [.bl (bs 6), .bl (bs 7), .bl (bs 8)]) h2
    have s2 := tr s1 (tr u2 (up (o := .lst [.bl (bs 0), .bl (bs 1), .bl (bs 2), .bl (bs 3), .bl (bs 4), .bl (bs 5), .bl (bs 6), .bl (bs 7), .bl (bs 8)]) g2))
    have he2 := ErC.same he s2
    refine ⟨_, rfl, _, rfl, a, Cx, _, _, _, rfl, he2, hx, (fun _ h => h), hk 9 (by decide), _, rfl, a, Cx, _, _, _, rfl, he2, hx, (fun _ h => h), hk 10 (by decide), _, rfl, a, Cx, _, _, _, rfl, he2, hx, (fun _ h => h), hk 11 (by decide), (by show 3 ≤ sizeLine; decide), fun l3 h3 => ?_⟩
    refine ⟨_, _, _, _, rfl, rfl, up h3 _ _ upd_same, upd_same, (by show 12 ≤ sizeLine; decide), fun p3 g3 => ?_⟩
    have u3 := up (o := .lst [.bl (bs 9), .bl (bs 10), .bl (bs 11)]) h3
    have s3 := tr s2 (tr u3 (up (o := .lst [.bl (bs 0), .bl (bs 1), .bl (bs 2), .bl (bs 3), .bl (bs 4), .bl (bs 5), .bl (bs 6), .bl (bs 7), .bl (bs 8), .bl (bs 9), .bl (bs 10), .bl (bs 11)]) g3))
    have he3 := ErC.same he s3
    refine ⟨_, rfl, _, rfl, a, Cx, _, _, _, rfl, he3, hx, (fun _ h => h), hk 12 (by decide), _, rfl, a, Cx, _, _, _, rfl, he3, hx, (fun _ h => h), hk 13 (by decide), _, rfl, a, Cx, _, _, _, rfl, he3, hx, (fun _ h => h), hk 14 (by decide), (by show 3 ≤ sizeLine; decide), fun l4 h4 => ?_⟩
    refine ⟨_, _, _, _, rfl, rfl, up h4 _ _ upd_same, upd_same, (by show 15 ≤ sizeLine; decide), fun p4 g4 => ?_⟩
    have u4 := up (o := .lst [.bl (bs 12), .bl (bs 13), .bl (bs 14)]) h4
    have s4 := tr s3 (tr u4 (up (o := .lst [.bl (bs 0), .bl (bs 1), .bl (bs 2), .bl (bs 3), .bl (bs 4), .bl (bs 5), .bl (bs 6), .bl (bs 7), .bl (bs 8), .bl (bs 9), .bl (bs 10), .bl (bs 11), .bl (bs 12), .bl (bs 13), .bl (bs 14)]) g4))
    have he4 := ErC.same he s4
    refine ⟨_, rfl, _, rfl, a, Cx, _, _, _, rfl, he4, hx, (fun _ h => h), hk 15 (by decide), _, rfl, a, Cx, _, _, _, rfl, he4, hx, (fun _ h => h), hk 16 (by decide), _, rfl, a, Cx, _, _, _, rfl, he4, hx, (fun _ h => h), hk 17 (by decide), (by show 3 ≤ sizeLine; decide), fun l5 h5 => ?_⟩
    refine ⟨_, _, _, _, rfl, rfl, up h5 _ _ upd_same, upd_same, (by show 18 ≤ sizeLine; decide), fun p5 g5 => ?_⟩
    have u5 := up (o := .lst [.bl (bs 15), .bl (bs 16), .bl (bs 17)]) h5
    have s5 := tr s4 (tr u5 (up (o := .lst [.bl (bs 0), .bl (bs 1), .bl (bs 2), .bl (bs 3), .bl (bs 4), .bl (bs 5), .bl (bs 6), .bl (bs 7), .bl (bs 8), .bl (bs 9), .bl (bs 10), .bl (bs 11), .bl (bs 12), .bl (bs 13), .bl (bs 14), .bl (bs 15), .bl (bs 16), .bl (bs 17)]) g5))
    have he5 := ErC.same he s5
    refine ⟨_, rfl, _, rfl, a, Cx, _, _, _, rfl, he5, hx, (fun _ h => h), hk 18 (by decide), _, rfl, a, Cx, _, _, _, rfl, he5, hx, (fun _ h => h), hk 19 (by decide), (by show 2 ≤ sizeLine; decide), fun l6 h6 => ?_⟩
    refine ⟨_, _, _, _, rfl, rfl, up h6 _ _ upd_same, upd_same, (by show 20 ≤ sizeLine; decide), fun p6 g6 => ?_⟩
    have u6 := up (o := .lst [.bl (bs 18), .bl (bs 19)]) h6
    have s6 := tr s5 (tr u6 (up (o := .lst [.bl (bs 0), .bl (bs 1), .bl (bs 2), .bl (bs 3), .bl (bs 4), .bl (bs 5), .bl (bs 6), .bl (bs 7), .bl (bs 8), .bl (bs 9), .bl (bs 10), .bl (bs 11), .bl (bs 12), .bl (bs 13), .bl (bs 14), .bl (bs 15), .bl (bs 16), .bl (bs 17), .bl (bs 18), .bl (bs 19)]) g6))
    refine k p6 _ s6 ?_ (by rw [upd_same]; rfl)
    cases z : H p6 with
    | none => rfl
    | some o =>
      have := (tr s5 u6) p6 o z
      rw [g6] at this
      cases this
end
end Xk
/-! the law -/
namespace Xk
open PySem L2
abbrev sLaw : Stmt := top 32
abbrev lN : List Str := ["script", "hand", "turn", "thing", "errors", "k", "error", "j", "mark", "kept", "one", "which", "caught"]
structure Nm3 (mg : Str → Option Value) : Prop where
  repr : mg "repr" = none
  any : mg "any" = none
  enumerate : mg "enumerate" = none
  ValueError : mg "ValueError" = none
  KeyError : mg "KeyError" = none
  IndexError : mg "IndexError" = none
  ArithmeticError : mg "ArithmeticError" = none
  TypeError : mg "TypeError" = none
  RuntimeError : mg "RuntimeError" = none
/-- mark, as a test -/
def tMark (K : PySem.W.Frag) : TT := fun σ H Q => tVar 8 σ H fun x H' => ∃ k, TruV K x H' k ∧ Q k H'
@[irreducible] def spLaw (K : PySem.W.Frag) : Sp := fun vs H Q _ => ∃ (a : Addr) (ns : List Int), vs = [.ref a] ∧ SqL K H a (ns.map V.int) ∧ ns.length ≤ 63 ∧ ∀ H', Q (.bl true) H'
theorem scLaw : FnScope lN ["script"] (defScope sLaw) := ⟨rfl, rfl, rfl, by decide +kernel, rfl, by decide +kernel, by decide +kernel⟩
theorem bind1 {K : PySem.W.Frag} {x : Str} {st : Stmt} {f : Addr} {fd : FuncData} {a : Str} (F : Fun K x x st f fd) (h : ∀ (kV doc pm : Value) (an : Option Addr) (cdv ct : Value) (u : Value), bindArgs (PySem.W.fnOf x x (defArgs st) (defBody st) (defScope st) .none kV doc pm an cdv ct) ⟨[u], []⟩ = pure ([a].zip [u])) : Binds K fd [a] [] :=
  F.binds (ps := [a]) fun kV doc pm an cdv ct us hl => match us, hl with | [u], _ => h kV doc pm an cdv ct u
section
variable {P : Program} {w : World} {K : PySem.W.Frag} {mg : Str → Option Value} {base : Heap} {C : Nat → Addr} {D : Addr} {f fH fD fS fT fA fM fR fC fB : Addr} {fd fdH fdD fdS fdT fdA fdM fdR fdC fdB : FuncData}
/-- all defs -/
structure Defs (K : PySem.W.Frag) (mg : Str → Option Value) (fH fD fS fT fA fM fR fC fB : Addr) (fdH fdD fdS fdT fdA fdM fdR fdC fdB : FuncData) : Prop where
  H : Fun K "_law_hand" "_law_hand" sHand fH fdH
  gH : mg "_law_hand" = some (.ref fH)
  D : Fun K "_law_draw" "_law_draw" sDraw fD fdD
  gD : mg "_law_draw" = some (.ref fD)
  S : Fun K "_law_some" "_law_some" sSome fS fdS
  gS : mg "_law_some" = some (.ref fS)
  T : Fun K "_law_thing" "_law_thing" sThing fT fdT
  gT : mg "_law_thing" = some (.ref fT)
  A : Fun K "_law_all" "_law_all" sAll fA fdA
  gA : mg "_law_all" = some (.ref fA)
  M : Fun K "_law_marks" "_law_marks" sMarks fM fdM
  gM : mg "_law_marks" = some (.ref fM)
  R : Fun K "_law_raise" "_law_raise" sRaise fR fdR
  gR : mg "_law_raise" = some (.ref fR)
  C : Fun K "_law_caught" "_law_caught" sCaught fC fdC
  gC : mg "_law_caught" = some (.ref fC)
  B : Fun K "_law_is_based" "_law_is_based" sBased fB fdB
  gB : mg "_law_is_based" = some (.ref fB)
theorem Errs.same {H H' : Hp} {v : V} {as : List Addr} (h : Errs C H v as) (s : Same H H') : Errs C H' v as :=
  ⟨h.1, fun i a e => ⟨fun hi => ((h.2 i a e).1 hi).same s, fun hi => ((h.2 i a e).2 hi).same s⟩⟩
/-- what stands within a turn -/
structure Wd (C : Nat → Addr) (H : Hp) (p c : Addr) (cs : List Int) (v : V) (d : PyData) (n : Nat) (l : Addr) (as : List Addr) : Prop where
  hand : HandAt H p c cs
  th : Th p H v d
  wr : Wr n d
  le : n ≤ 30
  lst : H l = some (.lst (as.map V.ref))
  errs : Errs C H v as
theorem Wd.same {H H' : Hp} {p c : Addr} {cs : List Int} {v : V} {d : PyData} {n : Nat} {l : Addr} {as : List Addr} (h : Wd C H p c cs v d n l as) (s : Same H H') : Wd C H' p c cs v d n l as :=
  ⟨h.hand.same s, h.th.but (.of s), h.wr, h.le, s _ _ h.lst, h.errs.same s⟩
theorem Wd.err {H : Hp} {p c : Addr} {cs : List Int} {v : V} {d : PyData} {n : Nat} {l : Addr} {as : List Addr} (h : Wd C H p c cs v d n l as) (B : Clz P K mg C D) {i : Nat} {a : Addr} (e : as[i]? = some a) : i < 20 ∧ ErC H a (C i) ∧ Xk.ExC K (C i) := by
  have hi : i < as.length := (List.getElem?_eq_some_iff.mp e).1
  rw [h.errs.1] at hi
  obtain ⟨e1, e2⟩ := h.errs.2 i a e
  by_cases h6 : i < 6
  · exact ⟨hi, (e1 h6).cls, (B.c1 i h6).e⟩
  · exact ⟨hi, (e2 (by omega)).cls, (B.c0 i (by omega) hi).e⟩
theorem sh_int (e : Nat) : SeqAt.shaped (.list [.int e]) = true := by simp [SeqAt.shaped, PyData.canLay0, PyData.canLayAll0, PyData.depth, PyData.depthAll]
theorem eq_int (e : Nat) : PyData.eqv (.list [.int e]) (.list [.int e]) = true := by simp [PyData.eqv, PyData.eqvAll]
theorem sh_str {z : Str} (h : PyData.strOk z = true) : SeqAt.shaped (.list (List.replicate 6 (.str z))) = true := by
  simp [SeqAt.shaped, PyData.canLay0, PyData.canLayAll0, PyData.depth, PyData.depthAll, List.replicate, h]
theorem eq_str (z : Str) : PyData.eqv (.list (List.replicate 6 (.str z))) (.list (List.replicate 6 (.str z))) = true := by simp [PyData.eqv, PyData.eqvAll, List.replicate]
theorem dp6 (K : PySem.W.Frag) (H : Hp) (z : Str) : DpAll K H (List.replicate 6 (.str z)) (List.replicate 6 (.str z)) := .cons (.str _) (.cons (.str _) (.cons (.str _) (.cons (.str _) (.cons (.str _) (.cons (.str _) .nil)))))
theorem ok_law (FL : Fun K "law" "law" sLaw f fd) (Z : Defs K mg fH fD fS fT fA fM fR fC fB fdH fdD fdS fdT fdA fdM fdR fdC fdB) (T0 : Nm mg) (T : Nm2 mg) (T3 : Nm3 mg) (B : Clz P K mg C D) {A : Around} {outer : List Env} {s : Shared} {H : Hp} {args : Args} {us : List Value} {vs : List V} {Q : VK} {E : XK}
    (none_up : A.guards = some []) (room : Room 5 A) (enter : Env0 P w K mg base A outer s H) (binds : BindsTo s fd args ((["script"] : List Str).zip us)) (rel : Vals vs us) (h : spLaw K vs H Q E) : codeAny (model P w) A (.call (.ref f) args) (CR CX0 outer P w H s Q E) s := by
  have GH : FnOk P w K mg base CX0 1 fH fdH ["script"] (spHand K) := ok_hand Z.H T0
  have GT : FnOk P w K mg base CX0 3 fT fdT ["hand"] spThing := ok_thing Z.T Z.S Z.gS Z.D Z.gD T0
  have GA : FnOk P w K mg base CX0 3 fA fdA ["thing"] (spAll C) := ok_all Z.A B
  have GM : FnOk P w K mg base CX0 1 fM fdM ["error"] (spMarks C K) := ok_marks Z.M T B
  have GC : FnOk P w K mg base CX0 4 fC fdC ["which", "thing"] spCaught := ok_caught Z.C Z.R Z.gR B
  have GB : FnOk P w K mg base CX0 4 fB fdB ["which", "thing"] spBased := ok_based Z.B Z.R Z.gR B
  have bH : Binds K fdH ["script"] [] := bind1 Z.H fun _ _ _ _ _ _ _ => rfl
  have bT : Binds K fdT ["hand"] [] := bind1 Z.T fun _ _ _ _ _ _ _ => rfl
  have bA : Binds K fdA ["thing"] [] := bind1 Z.A fun _ _ _ _ _ _ _ => rfl
  have bM : Binds K fdM ["error"] [] := bind1 Z.M fun _ _ _ _ _ _ _ => rfl
  have bC : Binds K fdC ["which", "thing"] [] := bind2 Z.C fun _ _ _ _ _ _ _ _ => rfl
  have bB : Binds K fdB ["which", "thing"] [] := bind2 Z.B fun _ _ _ _ _ _ _ _ => rfl
  obtain ⟨FH, gH, FD, gD, FS, gS, FT, gT, FA, gA, FM, gM, FR, gR, FC, gC, FB, gB⟩ := Z
  have nd := scLaw.nd
  obtain ⟨oc, od, kV, doc, pm, an, cdv, ct, osl, rfl, lk, hcd⟩ := FL.ex
  have hr : Room 4 (A.deeper (PyProof.Rows.envOfC "law" (defScope sLaw) s.heap.objs.size f cdv)) := room.deeper _
  have hgd : (A.deeper (PyProof.Rows.envOfC "law" (defScope sLaw) s.heap.objs.size f cdv)).guards = some [] := none_up
  have hrH := hr.mono (show 1 ≤ 4 by decide)
  have hrT := hr.mono (show 3 ≤ 4 by decide)
  have hu : (A.deeper (PyProof.Rows.envOfC "law" (defScope sLaw) s.heap.objs.size f cdv)).units + 200 < cLine := by have := hr.un; omega
  have hu64 : (A.deeper (PyProof.Rows.envOfC "law" (defScope sLaw) s.heap.objs.size f cdv)).units + 64 < cLine := by omega
  unfold spLaw at h
  obtain ⟨a, ns, rfl, hs, hn, k⟩ := h
  refine Ev.run_at lk hcd scLaw room enter binds rel rfl (PSs.nox (pss_cons (ps_set (i := 1) nd rfl (Or.inl rfl) (pe_call GH hrH rfl gH FH.kp bH .nil pass0 (pa_cons (pv 0) pa_nil))) (pss_cons (ps_for PassesOwn.never rfl (pi_range1 (by rfl) T0.range (pa_cons pe_int pa_nil)) (pg_name (i := 2) nd rfl (Or.inl rfl)) (pss_cons (ps_set (i := 3) nd rfl (Or.inl rfl) (pe_call GT hrT rfl gT FT.kp bT .nil pass0 (pa_cons (pv 1) pa_nil))) (pss_cons (ps_set (i := 4) nd rfl (Or.inl rfl) (pe_call GA hrT rfl gA FA.kp bA .nil pass0 (pa_cons (pv 3) pa_nil))) (pss_cons (ps_for PassesOwn.never rfl (pi_enum (by rfl) T3.enumerate (pa_cons (pv 4) pa_nil)) (pg_tup rfl (pgs_cons (pg_name (i := 5) nd rfl (Or.inl rfl)) (pgs_cons (pg_name (i := 6) nd rfl (Or.inl rfl)) pgs_nil))) (pss_cons (ps_if (PW.pt (pw_or (pt_not (pt_truth (pe_callB call_isX (by rfl) T.isi (by decide +kernel) (pa_cons (pv 6) (pa_cons (pe_glob (v := L2.V.ref D) rfl B.d.g rfl) pa_nil))) (fun _ => rfl))) (pw_or1 (pt_not (pt_truth (pe_callB call_isX (by rfl) T.isi (by decide +kernel) (pa_cons (pv 6) (pa_cons (pe_bltn (v := .ty "ValueError") rfl T3.ValueError (by decide +kernel) rfl) pa_nil))) (fun _ => rfl)))))) (pss_one (ps_ret pe_bl)) pss_nil) (pss_cons (ps_if (pt_cmpR (op_neD hu64) (pe_lc (g := gTup K 2 (gCons (gName 7) (gCons (gName 8) gNil))) (tt := tMark K) (te := tVar 7) (own := [("j", 7), ("mark", 8)]) rfl nd (pi_enum (by rfl) T3.enumerate (pa_cons (pe_call GM hrH rfl gM FM.kp bM .nil pass0 (pa_cons (pv 6) pa_nil)) pa_nil)) (blkOk_by (N := lN) (sc := defScope sLaw) (by decide +kernel)) (fun _ _ _ _ _ => by exact (pg_tup rfl (pgs_cons (pg_name (i := 7) nd rfl (Or.inl rfl)) (pgs_cons (pg_name (i := 8) nd rfl (Or.inl rfl)) pgs_nil)))) (fun _ _ _ _ _ => by exact (pts_one (pt_truth (pv 8) (fun _ => rfl)))) (fun _ _ _ _ _ => by exact (pv 7))) (pe_lst (pa_cons (pv 5) pa_nil)) (nomark _)) (pss_one (ps_ret pe_bl)) pss_nil) (pss_cons (ps_if (PW.pt (pw_or (pt_truth (pe_callB call_isX (by rfl) T.isi (by decide +kernel) (pa_cons (pv 6) (pa_cons (pe_bltn (v := .ty "KeyError") rfl T3.KeyError (by decide +kernel) rfl) pa_nil))) (fun _ => rfl)) (pw_or (pt_truth (pe_callB call_isX (by rfl) T.isi (by decide +kernel) (pa_cons (pv 6) (pa_cons (pe_bltn (v := .ty "IndexError") rfl T3.IndexError (by decide +kernel) rfl) pa_nil))) (fun _ => rfl)) (pw_or1 (pt_truth (pe_callB call_isX (by rfl) T.isi (by decide +kernel) (pa_cons (pv 6) (pa_cons (pe_bltn (v := .ty "ArithmeticError") rfl T3.ArithmeticError (by decide +kernel) rfl) pa_nil))) (fun _ => rfl)))))) (pss_one (ps_ret pe_bl)) pss_nil) (pss_one (ps_if (PW.pt (pw_or (pt_truth (pe_callB call_isX (by rfl) T.isi (by decide +kernel) (pa_cons (pv 6) (pa_cons (pe_bltn (v := .ty "TypeError") rfl T3.TypeError (by decide +kernel) rfl) pa_nil))) (fun _ => rfl)) (pw_or1 (pt_truth (pe_callB call_isX (by rfl) T.isi (by decide +kernel) (pa_cons (pv 6) (pa_cons (pe_bltn (v := .ty "RuntimeError") rfl T3.RuntimeError (by decide +kernel) rfl) pa_nil))) (fun _ => rfl))))) (pss_one (ps_ret pe_bl)) pss_nil)))))) (pss_cons (ps_set (i := 9) nd rfl (Or.inl rfl) (pe_lst (pa_cons (pe_fldX (f := "part") (pe_ix ix_list (pv 4) pe_int (fun _ _ => rfl)) rfl) (pa_cons (pe_fldX (f := "most") (pe_ix ix_list (pv 4) pe_int (fun _ _ => rfl)) rfl) (pa_cons (pe_fldX (f := "part") (pe_ix ix_list (pv 4) pe_int (fun _ _ => rfl)) rfl) (pa_cons (pe_fldX (f := "part") (pe_ix ix_list (pv 4) pe_int (fun _ _ => rfl)) rfl) (pa_cons (pe_fldX (f := "at") (pe_ix ix_list (pv 4) pe_int (fun _ _ => rfl)) rfl) (pa_cons (pe_fldX (f := "name") (pe_ix ix_list (pv 4) pe_int (fun _ _ => rfl)) rfl) pa_nil)))))))) (pss_cons (ps_if (pt_cmpR (op_neD hu64) (pe_lc (own := [("one", 10)]) rfl nd (pi_list (pv 9)) (blkOk_by (N := lN) (sc := defScope sLaw) (by decide +kernel)) (fun _ _ _ _ _ => pg_name (i := 10) nd rfl (Or.inl rfl)) (fun _ _ _ _ _ => pts_nil) (fun _ _ _ _ _ => by exact (pe_callB (cr_rep hgd hu) (by rfl) T3.repr (by decide +kernel) (pa_cons (pv 10) pa_nil)))) (pe_op op_rep (pe_lst (pa_cons (pe_callB (cr_rep hgd hu) (by rfl) T3.repr (by decide +kernel) (pa_cons (pv 3) pa_nil)) pa_nil)) pe_int) (nomark _)) (pss_one (ps_ret pe_bl)) pss_nil) (pss_one (ps_for PassesOwn.never rfl (pi_range1 (by rfl) T0.range (pa_cons pe_int pa_nil)) (pg_name (i := 11) nd rfl (Or.inl rfl)) (pss_cons (ps_set (i := 12) nd rfl (Or.inl rfl) (pe_call GC hr rfl gC FC.kp bC .nil pass0 (pa_cons (pv 11) (pa_cons (pv 3) pa_nil)))) (pss_one (ps_if (PW.pt (pw_or (pt_cmpR op_ne (pe_ix ix_tup (pv 12) pe_int (fun _ _ => rfl)) (pv 11) (nomark _)) (pw_or (pt_cmpR op_ne (pe_callB (cr_rep hgd hu) (by rfl) T3.repr (by decide +kernel) (pa_cons (pe_ix ix_tup (pv 12) pe_int (fun _ _ => rfl)) pa_nil)) (pe_callB (cr_rep hgd hu) (by rfl) T3.repr (by decide +kernel) (pa_cons (pv 3) pa_nil)) (nomark _)) (pw_or1 (pt_not (pt_truth (pe_call GB hr rfl gB FB.kp bB .nil pass0 (pa_cons (pv 11) (pa_cons (pv 3) pa_nil))) (fun _ => rfl))))))) (pss_one (ps_ret pe_bl)) pss_nil))))))))))) (pss_one (ps_ret (pe_not (pe_callB (cr_any rfl) (by rfl) T3.any (by decide +kernel) (pa_cons (pe_call GM hrH rfl gM FM.kp bM .nil pass0 (pa_cons (pe_mk0 B.d.mk0 B.d.e.kC hr (by decide) rfl B.d.g rfl) pa_nil)) pa_nil)))))))) ?_
  refine cut (fun σ' H' => ∃ (p c : Addr) (cs : List Int), σ' = [some (.ref a), some (.ref p), none, none, none, none, none, none, none, none, none, none, none] ∧ HandAt H' p c cs) ?_ (fun rest => ?_)
  have up : ∀ {H : Hp} {a : Addr} {o : HO}, H a = none → Same H (upd H a o) := fun h b u e => by rw [upd_ne (ne_of_none e h)]; exact e
  rotate_left
  · refine ⟨_, rfl, ?_⟩
    show spHand K [.ref a] H _ _
    unfold spHand
    exact ⟨a, ns, rfl, hs, hn, fun p c cs b H1 s1 np nc hp hc hcp => rest _ _ ⟨p, c, cs, rfl, ⟨0, 0, b, 0, by decide, hp, hc, hcp⟩⟩⟩
  rintro σ0 H1 ⟨p, c, cs, rfl, hh⟩
  refine cut (fun σ' H' => ∃ r : St, r.length = 11 ∧ σ' = some (.ref a) :: some (.ref p) :: r ∧ HandAt H' p c cs) ?_ (fun rest => ?_)
  · rintro σ' H2 ⟨r, hr11, rfl, hh2⟩
    -- return not any(_law_marks(DoorError()))
    refine fun e H3 s3 n3 he => ?_
    show spMarks C K [.ref e] H3 _ _
    unfold spMarks
    refine ⟨e, D, fun _ => false, rfl, he.cls, B.d.e, fun j hj => B.kitDj j hj, fun l H4 s4 n4 hl => ?_⟩
    refine ⟨l, (List.range 20).map fun _ => false, rfl, SqL.of hl, _, rfl, ?_⟩
    have e0 : (!((List.range 20).map fun _ => false).any id) = true := by decide
    show Q (.bl (!((List.range 20).map fun _ => false).any id)) H4
    rw [e0]
    exact k H4
  · refine ⟨2, rfl, by decide, by decide, ?_⟩
    refine for_range (n := 2) (fun i σ H' => ∃ r : St, r.length = 11 ∧ σ = some (.ref a) :: some (.ref p) :: r ∧ HandAt H' p c cs) ⟨_, rfl, rfl, hh⟩ ?_ ?_
    · rintro i σ H2 hi ⟨r, hr11, rfl, hh2⟩
      match r, hr11 with
      | [r2, r3, r4, r5, r6, r7, r8, r9, r10, r11, r12], _ =>
      generalize hturn : (V.int (0 + (i : Nat)) : V) = turn
      -- thing
      refine cut (fun σ' H' => ∃ v d n, σ' = [some (.ref a), some (.ref p), some turn, some v, r4, r5, r6, r7, r8, r9, r10, r11, r12] ∧ HandAt H' p c cs ∧ Th p H' v d ∧ Wr n d ∧ n ≤ 30) ?_ (fun rest => ?_)
      rotate_left
      · refine ⟨_, rfl, ?_⟩
        show spThing [.ref p] H2 _ _
        unfold spThing
        exact ⟨p, c, cs, rfl, hh2, fun v d n H3 hw hn3 ht hh3 sb3 => rest _ _ ⟨v, d, n, rfl, hh3, ht, hw, hn3⟩⟩
      rintro σ1 H3 ⟨v, d, n, rfl, hh3, ht, hw, hn3⟩
      -- errors
      refine cut (fun σ' H' => ∃ l as, σ' = [some (.ref a), some (.ref p), some turn, some v, some (.ref l), r5, r6, r7, r8, r9, r10, r11, r12] ∧ Wd C H' p c cs v d n l as) ?_ (fun rest => ?_)
      rotate_left
      · refine ⟨_, rfl, ?_⟩
        show spAll C [v] H3 _ _
        unfold spAll
        exact ⟨v, rfl, fun l as H4 s4 nl hl herr => rest _ _ ⟨l, as, rfl, hh3.same s4, ht.but (.of s4), hw, hn3, hl, herr⟩⟩
      rintro σ2 H4 ⟨l, as, rfl, wd⟩
      -- each error
      refine cut (fun σ' H' => ∃ x5 x6, σ' = [some (.ref a), some (.ref p), some turn, some v, some (.ref l), x5, x6, r7, r8, r9, r10, r11, r12] ∧ Wd C H' p c cs v d n l as) ?_ (fun rest => ?_)
      rotate_left
      · refine ⟨_, rfl, l, _, rfl, SqL.of wd.lst, ?_⟩
        refine for_it (walk_enum (K := K)) (fun i σ' H' => ∃ x5 x6, σ' = [some (.ref a), some (.ref p), some turn, some v, some (.ref l), x5, x6, r7, r8, r9, r10, r11, r12] ∧ Wd C H' p c cs v d n l as)
          ⟨r5, r6, rfl, wd⟩ (fun i σ' H' _ ⟨x5, x6, _, w⟩ => SqL.of w.lst) ?_ (fun σ' H' h => rest _ _ h)
        rintro e x σ' H5 H6 he ⟨x5, x6, rfl, w5⟩ ⟨t, y1, y2, rfl, ht5, rfl, hy1, hy2⟩
        cases hy1
        have hy2 : (as.map V.ref)[e]? = some y2 := hy2
        rw [List.getElem?_map] at hy2
        obtain ⟨ea, hea, rfl⟩ := Option.map_eq_some_iff.mp hy2
        have w6 := w5.same (up (o := .tup [.int (e : Nat), .ref ea]) ht5)
        obtain ⟨he20, erc, exc⟩ := w6.err B hea
        refine ⟨t, _, rfl, SqT.of upd_same, rfl, _, _, rfl, _, _, rfl, rfl, ?_⟩
        generalize upd H5 t (.tup [.int (e : Nat), .ref ea]) = H6 at w6 erc
        -- not isinstance(error, DoorError) or not isinstance(error, ValueError)
        refine ⟨_, rfl, ea, C e, _, _, true, rfl, erc, exc, (fun _ h => h), B.kitD e he20, true, rfl, ifF rfl ?_⟩
        refine ⟨_, rfl, ea, C e, _, _, true, rfl, erc, exc, (fun _ h => h), (B.kitB e he20).1, true, rfl, ifF rfl ?_⟩
        -- [j for j, mark in enumerate(_law_marks(error)) if mark] != [k]
        refine ⟨_, rfl, ?_⟩
        show spMarks C K [.ref ea] H6 _ _
        unfold spMarks
        refine ⟨ea, C e, fun j => decide (e = j), rfl, erc, exc, fun j hj => B.kit e j he20 hj, fun lm H7 s7 n7 hlm => ⟨lm, _, rfl, SqL.of hlm, fun dd hdd => ?_⟩⟩
        refine lc_it (walk_enum (K := K)) (fun j H' => Same H7 H' ∧ H' dd = some (.lst (if e < j then [.int (e : Nat)] else []))) ⟨up hdd, by rw [upd_same]; simp⟩ (fun j H' _ h => SqL.of (h.1 _ _ hlm)) ?_ ?_
        · rintro j x H8 H9 hj ⟨s8, h8⟩ ⟨t2, z1, z2, rfl, ht8, rfl, hz1, hz2⟩
          cases hz1
          have hz2 : (((List.range 20).map fun j => decide (e = j)).map V.bl)[j]? = some z2 := hz2
          have hj20 : j < 20 := by simpa using hj
          rw [List.getElem?_map, List.getElem?_map, List.getElem?_range hj20] at hz2
          cases hz2
          have s9 := up (o := .tup [.int (j : Nat), .bl (decide (e = j))]) ht8
          refine ⟨t2, _, rfl, SqT.of upd_same, rfl, _, _, rfl, _, _, rfl, rfl, rfl, _, rfl, decide (e = j), rfl, ?_⟩
          by_cases hej : e = j
          · subst hej
            refine ifT (by simp) ⟨_, rfl, [], ?_, (by show 0 < sizeLine; decide), ?_, ?_⟩
            · have := s9 _ _ h8
              rw [if_neg (Nat.lt_irrefl e)] at this
              exact this
            · exact fun b o q => by rw [upd_ne (fun z => by subst z; rw [hdd] at q; cases q)]; exact s9 b o (s8 b o q)
            · rw [upd_same, if_pos (Nat.lt_succ_self e)]
              rfl
          · refine ifF (by simp [hej]) ⟨fun b o q => s9 b o (s8 b o q), ?_⟩
            have hlt : (if e < j + 1 then [V.int (e : Nat)] else []) = (if e < j then [V.int (e : Nat)] else []) := by
              by_cases h : e < j
              · rw [if_pos (by omega), if_pos h]
              · rw [if_neg (by omega), if_neg h]
            rw [hlt]
            exact s9 _ _ h8
        · rintro H8 ⟨s8, h8⟩
          have h8 : H8 dd = some (.lst (if e < 20 then [.int (e : Nat)] else [])) := by
            have z : (((List.range 20).map fun j => decide (e = j)).map V.bl).length = 20 := by simp
            rw [z] at h8
            exact h8
          rw [if_pos he20] at h8
          refine ⟨_, rfl, (by show 1 ≤ sizeLine; decide), fun q hq => ?_⟩
          have s9 := up (o := .lst [.int (e : Nat)]) hq
          have w9 := ((w6.same s7).same s8).same s9
          obtain ⟨_, erc, exc⟩ := w9.err B hea
          refine ⟨.list [.int e], .list [.int e], .lst (SqL.of (s9 _ _ h8)) (.cons (.int _) .nil), .lst (SqL.of upd_same) (.cons (.int _) .nil), ?_, ?_, _, rfl, ifF ?_ ?_⟩
          · exact sh_int e
          · exact sh_int e
          · rw [eq_int]; rfl
          generalize upd H8 q (.lst [.int (e : Nat)]) = H9 at w9 erc
          -- isinstance(error, KeyError) or ..
          refine ⟨_, rfl, ea, C e, _, _, false, rfl, erc, exc, (fun _ h => h), (B.kitB e he20).2.1, false, rfl, ifF rfl ?_⟩
          refine ⟨_, rfl, ea, C e, _, _, false, rfl, erc, exc, (fun _ h => h), (B.kitB e he20).2.2.1, false, rfl, ifF rfl ?_⟩
          refine ⟨_, rfl, ea, C e, _, _, false, rfl, erc, exc, (fun _ h => h), (B.kitB e he20).2.2.2.1, false, rfl, ifF rfl ?_⟩
          refine ⟨_, rfl, ea, C e, _, _, false, rfl, erc, exc, (fun _ h => h), (B.kitB e he20).2.2.2.2.1, false, rfl, ifF rfl ?_⟩
          refine ⟨_, rfl, ea, C e, _, _, false, rfl, erc, exc, (fun _ h => h), (B.kitB e he20).2.2.2.2.2, false, rfl, ifF rfl ?_⟩
          exact ⟨_, _, rfl, w9⟩
      rintro σ3 H7 ⟨x5, x6, rfl, w7⟩
      -- kept
      refine cut (fun σ' H' => ∃ q, σ' = [some (.ref a), some (.ref p), some turn, some v, some (.ref l), x5, x6, r7, r8, some (.ref q), r10, r11, r12] ∧ Wd C H' p c cs v d n l as ∧ H' q = some (.lst [v, v, v, v, v, v])) ?_ (fun rest => ?_)
      rotate_left
      · have get : ∀ j, j < 20 → ∃ b, as[j]? = some b := fun j hj => ⟨_, List.getElem?_eq_getElem (by rw [w7.errs.1]; exact hj)⟩
        have at_ : ∀ (j : Nat) (b : Addr), as[j]? = some b → atI (as.map V.ref) (j : Int) = some (.ref b) := fun j b e => atI_nat (by rw [List.getElem?_map, e]; rfl)
        obtain ⟨b0, g0⟩ := get 0 (by decide)
        obtain ⟨b1, g1⟩ := get 1 (by decide)
        obtain ⟨b2, g2⟩ := get 2 (by decide)
        obtain ⟨b3, g3⟩ := get 3 (by decide)
        obtain ⟨b4, g4⟩ := get 4 (by decide)
        obtain ⟨b5, g5⟩ := get 5 (by decide)
        refine ⟨_, rfl, _, _, _, _, rfl, rfl, SqL.of w7.lst, at_ 0 b0 g0, b0, C 0, v, rfl, (w7.errs.2 0 b0 g0).1 (by decide), (c1_ B 0).e, (c1_ B 0).no, _, rfl, _, _, _, _, rfl, rfl, SqL.of w7.lst, at_ 1 b1 g1, b1, C 1, v, rfl, (w7.errs.2 1 b1 g1).1 (by decide), (c1_ B 1).e, (c1_ B 1).no, _, rfl, _, _, _, _, rfl, rfl, SqL.of w7.lst, at_ 2 b2 g2, b2, C 2, v, rfl, (w7.errs.2 2 b2 g2).1 (by decide), (c1_ B 2).e, (c1_ B 2).no, _, rfl, _, _, _, _, rfl, rfl, SqL.of w7.lst, at_ 3 b3 g3, b3, C 3, v, rfl, (w7.errs.2 3 b3 g3).1 (by decide), (c1_ B 3).e, (c1_ B 3).no, _, rfl, _, _, _, _, rfl, rfl, SqL.of w7.lst, at_ 4 b4 g4, b4, C 4, v, rfl, (w7.errs.2 4 b4 g4).1 (by decide), (c1_ B 4).e, (c1_ B 4).no, _, rfl, _, _, _, _, rfl, rfl, SqL.of w7.lst, at_ 5 b5 g5, b5, C 5, v, rfl, (w7.errs.2 5 b5 g5).1 (by decide), (c1_ B 5).e, (c1_ B 5).no, (by show 6 ≤ sizeLine; decide), fun q hq => ?_⟩
        exact rest _ _ ⟨q, rfl, w7.same (up hq), upd_same⟩
      rintro σ4 H8 ⟨q, rfl, w8, hq⟩
      -- the texts
      refine cut (fun σ' H' => σ' = [some (.ref a), some (.ref p), some turn, some v, some (.ref l), x5, x6, r7, r8, some (.ref q), r10, r11, r12] ∧ Wd C H' p c cs v d n l as) ?_ (fun rest => ?_)
      rotate_left
      · refine ⟨_, rfl, q, rfl, ⟨_, SqL.of hq⟩, fun dd hdd => ?_⟩
        refine lc_list (K := K) (xs := [v, v, v, v, v, v]) (fun i H' => Same H8 H' ∧ H' dd = some (.lst (List.replicate i (.str d.shown)))) ⟨up hdd, upd_same⟩ (fun i H' _ h => SqL.of (h.1 _ _ hq)) ?_ ?_
        · rintro i x H9 hx ⟨s9, h9⟩
          have hxv : x = v := by
            have := List.mem_of_getElem? hx
            simpa using this
          subst hxv
          have hi6 : i < 6 := by
            have := (List.getElem?_eq_some_iff.mp hx).1
            simpa using this
          have w9 := w8.same s9
          refine ⟨rfl, ?_⟩
          unfold tYes
          refine iteT ?_
          refine ⟨_, rfl, p, _, d, n, rfl, w9.th, w9.wr, w9.le, _, h9, ?_, ?_, ?_⟩
          · rw [List.length_replicate, sizeLine_eq]; omega
          · exact fun b o e => by rw [upd_ne (fun z => by subst z; rw [hdd] at e; cases e)]; exact s9 b o e
          · rw [upd_same, List.replicate_succ']
        · rintro H9 ⟨s9, h9⟩
          have w9 := w8.same s9
          refine ⟨_, rfl, p, _, d, n, rfl, w9.th, w9.wr, w9.le, (by show 1 ≤ sizeLine; decide), fun q2 hq2 => ?_⟩
          have s10 := up (o := .lst [.str d.shown]) hq2
          refine ⟨q2, 6, _, rfl, rfl, upd_same, by decide, by decide, (by show 1 * 6 ≤ sizeLine; decide), fun q3 hq3 => ?_⟩
          have s11 := up (o := .lst (List.replicate (6 : Int).toNat [V.str d.shown]).flatten) hq3
          refine ⟨.list (List.replicate 6 (.str d.shown)), .list (List.replicate 6 (.str d.shown)), .lst (SqL.of (s11 _ _ (s10 _ _ h9))) (dp6 K _ d.shown), .lst (SqL.of upd_same) (dp6 K _ d.shown), sh_str w9.wr.txt, sh_str w9.wr.txt, _, rfl, ifF ?_ ?_⟩
          · rw [eq_str]; rfl
          · exact rest _ _ ⟨rfl, (w9.same s10).same s11⟩
      rintro σ5 H9 ⟨rfl, w9⟩
      -- raised, caught
      refine ⟨6, rfl, by decide, by decide, ?_⟩
      refine for_range (n := 6) (fun j σ' H' => ∃ x11 x12, σ' = [some (.ref a), some (.ref p), some turn, some v, some (.ref l), x5, x6, r7, r8, some (.ref q), r10, x11, x12] ∧ Wd C H' p c cs v d n l as) ⟨r11, r12, rfl, w9⟩ ?_ ?_
      · rintro j σ' H10 hj ⟨x11, x12, rfl, w10⟩
        rw [Int.zero_add]
        refine cut (fun σ' H' => ∃ t, σ' = [some (.ref a), some (.ref p), some turn, some v, some (.ref l), x5, x6, r7, r8, some (.ref q), r10, some (.int (j : Nat)), some (.ref t)] ∧ Wd C H' p c cs v d n l as ∧ H' t = some (.tup [.int (j : Nat), v])) ?_ (fun rest => ?_)
        rotate_left
        · refine ⟨_, rfl, _, rfl, ?_⟩
          show spCaught [.int (j : Nat), v] H10 _ _
          unfold spCaught
          exact ⟨j, v, rfl, hj, fun t H11 s11 ht => rest _ _ ⟨t, rfl, w10.same s11, ht⟩⟩
        rintro σ6 H11 ⟨t, rfl, w11, ht⟩
        refine ⟨_, rfl, _, _, _, _, rfl, rfl, SqT.of ht, rfl, _, rfl, rfl, _, rfl, ifF (by simp) ?_⟩
        refine ⟨_, rfl, _, _, _, _, rfl, rfl, SqT.of ht, rfl, p, _, d, n, rfl, w11.th, w11.wr, w11.le, _, rfl, p, _, d, n, rfl, w11.th, w11.wr, w11.le, rfl, _, rfl, ifF (by simp) ?_⟩
        refine ⟨_, rfl, _, rfl, ?_⟩
        show spBased [.int (j : Nat), v] H11 _ _
        unfold spBased
        exact ⟨j, v, rfl, hj, fun H12 s12 => ⟨true, rfl, ifF rfl ⟨_, _, rfl, w11.same s12⟩⟩⟩
      · rintro σ' H10 ⟨x11, x12, rfl, w10⟩
        exact ⟨_, rfl, rfl, w10.hand⟩
    · rintro σ H2 ⟨r, hr11, rfl, hh2⟩
      exact rest _ _ ⟨r, hr11, rfl, hh2⟩
end
end Xk
/-! what the top has written -/
namespace Xk
open PySem L2 PySem.W
def exI2B (K : Frag) (C fI : Addr) : Bool := decide (typeIn K (.ref fI) = some (.type "function")) && decide (ks_superIn K C C "__init__" = some (some (.builtin "ValueError.__init__"))) && decide (nsIn K cStatics "thirdparty.any" = some none) &&
  decide (mroIn K C (.ref C) = some true) && decide (subIn K (.ref C) (.type "ValueError") = some true)
theorem exI_mk {K : Frag} {file : Str} {C fI cc cda : Addr} {params : Arguments} {body : List Stmt} {scope : Scope} {oc kV doc pm ct cl ccl : Value} {od an cld cdd : Option Addr} {osl csl ccs : Array (Option Value)} {vs : Array Value} {q : Str} {tf : Tok}
    (h1 : findIn K (.ref C) "__init__" = some (some (.ref fI))) (h2 : K.lookup fI = some ⟨oc, od, .func (ksFn "__init__" q params body scope .none kV doc pm an (.ref cda) ct cc), osl⟩) (h3 : codeIn K (.ref cda) q = true)
    (h4 : K.lookup cc = some ⟨cl, cld, .cell (some (.ref C)), csl⟩) (h5 : K.lookup cda = some ⟨ccl, cdd, .fields vs, ccs⟩) (h6 : vs[2]? = some (.str file tf)) (h7 : exI2B K C fI = true) : Xk.ExI K file C fI params body scope := by
  simp only [exI2B, Bool.and_eq_true, decide_eq_true_eq] at h7
  obtain ⟨⟨⟨⟨g1, g2⟩, g3⟩, g4⟩, g5⟩ := h7
  exact ⟨h1, g1, ⟨cc, cda, q, kV, doc, pm, ct, oc, an, od, osl, h2, h3, ⟨cl, cld, csl, h4⟩, ⟨ccl, cdd, vs, ccs, tf, h5, h6⟩⟩, g2, g3, g4, g5⟩
section
variable {P : Program} {K : Frag} {mg : Str → Option Value} {file : Str} {C fI D : Addr}
theorem mkr0 (T : Xk.ExC K C) {p p0 p1 p2 p3 p4 p5 : Pos} {txt : Str} (I : Xk.ExI K file C fI (Xk.iA0 p) [Xk.lSup p0 p1 p2 p3 p4 p5 txt] Xk.iS0) (hfile : (P.main.file : Str) = file) (htop : (P.main.scope.names.lookup ("super" : Str)).isSome = false) (hms : mg "super" = none)
    (hl : (p2.endLine == p4.line) = true) (hsw : ∀ env : PySem.Env, env.scope = Xk.iS0 → swapsWith (.Call (.Attribute (.Call (.Name "super" p0) [] [] p1) "__init__" p2) [.Constant (.str txt) 0 p3] [] p4) none p5.line env = pure false) : MkP0 P K mg C :=
  fun w base A s Q E M X hb hr hq => wpAny_call (Xk.made0 T I ⟨hfile, htop, hms, M⟩ hl hsw X hb hr fun h' tk e m => hq h' tk e m)
theorem mkr1 (T : Xk.ExC K C) {p q p0 p1 p2 p3 p4 p5 q1 q2 q3 q4 : Pos} {txt f : Str} (I : Xk.ExI K file C fI (Xk.iA1 f p q) [Xk.lSup p0 p1 p2 p3 p4 p5 txt, Xk.lSet f q1 q2 q3 q4] (Xk.iS1 f)) (hfile : (P.main.file : Str) = file) (htop : (P.main.scope.names.lookup ("super" : Str)).isSome = false) (hms : mg "super" = none)
    (hl : (p2.endLine == p4.line) = true) (hsw : ∀ env : PySem.Env, env.scope = Xk.iS1 f → swapsWith (.Call (.Attribute (.Call (.Name "super" p0) [] [] p1) "__init__" p2) [.Constant (.str txt) 0 p3] [] p4) none p5.line env = pure false)
    (hsw2 : ∀ env : PySem.Env, env.scope = Xk.iS1 f → swapsWith (.Name f q3) (some (.Attribute (.Name "self" q1) f q2)) q4.line env = pure false)
    (hbd : ∀ (p q : Pos) (x : Addr) (v : Value) (s : Shared) (fd : FuncData) (us : List Value), fd.params = Xk.iA1 f p q → fd.defaults = .none → us = [.ref x, v] → BindsTo s fd ⟨us, []⟩ [("self", .ref x), (f, v)])
    (hlk : ((Xk.iS1 f).names.lookup f = some .local) ∧ ((Xk.iS1 f).names.lookup ("super" : Str) = some .globalImplicit) ∧ ((Xk.iS1 f).names.lookup ("__class__" : Str) = some .free) ∧ (f == ("__debug__" : Str)) = false ∧ (("self" : Str) == f) = false)
    (hno : findIn K (.ref C) f = some none) : MkP1 P K mg C f :=
  fun w base A s R v M X hb hr hq => Xk.made1 T I ⟨hfile, htop, hms, M⟩ hl hsw hsw2 (hbd _ _) hlk hno X hb hr hq
theorem mkrD (q : excIn K D [.type "ValueError", .type "Exception", .type "BaseException", .type "object"] "ValueError.__new__" = true) : MkP0 P K mg D := by
  intro w base A s Q E M X hb hr hq
  obtain ⟨bm, N, nm, qn, bs, hdct, sn, sub, ab, col, dd, k0, k1, k2, k3, k5, mN, hC, hN, hni, T⟩ := L2.exc_obj X q
  refine wpAny_call_exc_subT PySem.F.excBase_ValueError T hC hN hni (fun h' a hm => ?_) (by show 0 ≤ sizeLine; decide)
  obtain ⟨t, ht, _, _⟩ := hm.there
  exact hq h' s.toks a ⟨hm.keeps, hm.new, t, ht⟩
end
section
variable {x : Addr} {v : Value} {s : Shared} {fd : FuncData} {us : List Value} {p q : Pos}
theorem bd_part : ∀ (p q : Pos) (x : Addr) (v : Value) (s : Shared) (fd : FuncData) (us : List Value), fd.params = Xk.iA1 "part" p q → fd.defaults = .none → us = [.ref x, v] → BindsTo s fd ⟨us, []⟩ [("self", .ref x), ("part", v)] := by
  intro p q x v s fd us h1 h2 h3
  obtain ⟨⟩ := fd
  dsimp only at h1 h2
  subst h1 h2 h3
  exact .of_eq (by first | rfl | with_unfolding_all rfl)
theorem bd_most : ∀ (p q : Pos) (x : Addr) (v : Value) (s : Shared) (fd : FuncData) (us : List Value), fd.params = Xk.iA1 "most" p q → fd.defaults = .none → us = [.ref x, v] → BindsTo s fd ⟨us, []⟩ [("self", .ref x), ("most", v)] := by
  intro p q x v s fd us h1 h2 h3
  obtain ⟨⟩ := fd
  dsimp only at h1 h2
  subst h1 h2 h3
  exact .of_eq (by first | rfl | with_unfolding_all rfl)
theorem bd_at : ∀ (p q : Pos) (x : Addr) (v : Value) (s : Shared) (fd : FuncData) (us : List Value), fd.params = Xk.iA1 "at" p q → fd.defaults = .none → us = [.ref x, v] → BindsTo s fd ⟨us, []⟩ [("self", .ref x), ("at", v)] := by
  intro p q x v s fd us h1 h2 h3
  obtain ⟨⟩ := fd
  dsimp only at h1 h2
  subst h1 h2 h3
  exact .of_eq (by first | rfl | with_unfolding_all rfl)
theorem bd_name : ∀ (p q : Pos) (x : Addr) (v : Value) (s : Shared) (fd : FuncData) (us : List Value), fd.params = Xk.iA1 "name" p q → fd.defaults = .none → us = [.ref x, v] → BindsTo s fd ⟨us, []⟩ [("self", .ref x), ("name", v)] := by
  intro p q x v s fd us h1 h2 h3
  obtain ⟨⟩ := fd
  dsimp only at h1 h2
  subst h1 h2 h3
  exact .of_eq (by first | rfl | with_unfolding_all rfl)
end
/-! ### the classes, one to another -/
def kitB (K : Frag) (Cs : List Addr) : Bool := (List.range 20).all fun i => (List.range 20).all fun j => decide (kitOne K (.ref (Cs.getD i 0)) (.ref (Cs.getD j 0)) = some (decide (i = j)))
theorem kitB_ok {K : Frag} {Cs : List Addr} (h : kitB K Cs = true) (i j : Nat) (hi : i < 20) (hj : j < 20) : kitOne K (.ref (Cs.getD i 0)) (.ref (Cs.getD j 0)) = some (decide (i = j)) :=
  of_decide_eq_true (List.all_eq_true.mp (List.all_eq_true.mp h i (List.mem_range.mpr hi)) j (List.mem_range.mpr hj))
def kit2B (K : Frag) (Cs : List Addr) (D : Addr) : Bool := (List.range 20).all fun i => decide (kitOne K (.ref (Cs.getD i 0)) (.ref D) = some true) && decide (kitOne K (.ref D) (.ref (Cs.getD i 0)) = some false) && decide (kitOne K (.ref (Cs.getD i 0)) (.type "ValueError") = some true) &&
  decide (kitOne K (.ref (Cs.getD i 0)) (.type "KeyError") = some false) && decide (kitOne K (.ref (Cs.getD i 0)) (.type "IndexError") = some false) && decide (kitOne K (.ref (Cs.getD i 0)) (.type "ArithmeticError") = some false) &&
  decide (kitOne K (.ref (Cs.getD i 0)) (.type "TypeError") = some false) && decide (kitOne K (.ref (Cs.getD i 0)) (.type "RuntimeError") = some false)
theorem kit2B_ok {K : Frag} {Cs : List Addr} {D : Addr} (h : kit2B K Cs D = true) (i : Nat) (hi : i < 20) : kitOne K (.ref (Cs.getD i 0)) (.ref D) = some true ∧ kitOne K (.ref D) (.ref (Cs.getD i 0)) = some false ∧ kitOne K (.ref (Cs.getD i 0)) (.type "ValueError") = some true ∧
    kitOne K (.ref (Cs.getD i 0)) (.type "KeyError") = some false ∧ kitOne K (.ref (Cs.getD i 0)) (.type "IndexError") = some false ∧ kitOne K (.ref (Cs.getD i 0)) (.type "ArithmeticError") = some false ∧ kitOne K (.ref (Cs.getD i 0)) (.type "TypeError") = some false ∧ kitOne K (.ref (Cs.getD i 0)) (.type "RuntimeError") = some false := by
  have := List.all_eq_true.mp h i (List.mem_range.mpr hi)
  simp only [Bool.and_eq_true, decide_eq_true_eq] at this
  obtain ⟨⟨⟨⟨⟨⟨⟨a, b⟩, c⟩, d⟩, e⟩, f⟩, g⟩, k⟩ := this
  exact ⟨a, b, c, d, e, f, g, k⟩
def exmB (K : Frag) (Cs : List Addr) (D : Addr) : Bool := (List.range 6).all fun i => ((List.range 6).all fun j => decide (exmOne K (.ref (Cs.getD i 0)) (.ref (Cs.getD j 0)) = some (decide (i = j)))) && decide (exmOne K (.ref (Cs.getD i 0)) (.ref D) = some true)
theorem exmB_ok {K : Frag} {Cs : List Addr} {D : Addr} (h : exmB K Cs D = true) (i : Nat) (hi : i < 6) : (∀ j, j < 6 → exmOne K (.ref (Cs.getD i 0)) (.ref (Cs.getD j 0)) = some (decide (i = j))) ∧ exmOne K (.ref (Cs.getD i 0)) (.ref D) = some true := by
  have := List.all_eq_true.mp h i (List.mem_range.mpr hi)
  simp only [Bool.and_eq_true, decide_eq_true_eq] at this
  exact ⟨fun j hj => of_decide_eq_true (List.all_eq_true.mp this.1 j (List.mem_range.mpr hj)), this.2⟩
/-! ### the law, called from without -/
section
open PySem.Spec PyProof.Rows
/-- the script as it is handed in: known, where the written part does not hold it -/
def scrH (K : Frag) (a : Addr) (ob : PySem.Obj) (xs : List L2.V) : Hp := fun b => if ((K.lookup a).isNone && decide (b = a)) = true then some (.frz ob (.lst xs)) else none
section
variable {K : Frag} {a : Addr} {ob : PySem.Obj} {xs : List L2.V}
theorem scrH_some {b : Addr} {u : HO} (e : scrH K a ob xs b = some u) : b = a ∧ K.lookup a = none ∧ u = .frz ob (.lst xs) := by
  unfold scrH at e
  split at e
  · rename_i c
    simp only [Bool.and_eq_true, decide_eq_true_eq, Option.isNone_iff_eq_none] at c
    exact ⟨c.2, c.1, (Option.some.inj e).symm⟩
  · cases e
theorem scrH_only : Only (scrH K a ob xs) := fun b => by
  cases e : scrH K a ob xs b with
  | none => exact .inl rfl
  | some u =>
    obtain ⟨_, _, rfl⟩ := scrH_some e
    exact .inr ⟨ob, xs, rfl⟩
theorem scrH_at (e : K.lookup a = none) : scrH K a ob xs a = some (.frz ob (.lst xs)) := by
  unfold scrH
  rw [e]
  simp
end
theorem go_law {P : Program} {w : World} {K : Frag} {mg bm : Str → Option Value} {fa a : Addr} {st : Shared} {us : List Value} {is : List Int}
    (inK : K.In st.heap) (gl : st.heap.Ns mainGlobals mg) (bl : st.heap.Ns builtinsNs bm) (boot : ∀ y : Str, y ≠ "__name__" → bm y = bootBuiltins y) (nolim : st.heap.NoLimit) (nog : st.gens = #[])
    (scr : st.heap.get? a = some { cls := .type "list", data := .seq us.toArray }) (whole : IntsAre us is) (short : is.length ≤ sizeLine)
    (runs0 : ∀ (base : Heap) (G : Hp), SqL K G a (is.map L2.V.int) → Env0 P w K mg base callerA [] st G → codeAny (model P w) callerA (.call (.ref fa) ⟨[.ref a], []⟩) (CR CX0 [] P w G st (fun v _ => v = L2.V.bl true) fun _ _ _ => False) st) :
    codeAny (model P w) callerA (.call (.ref fa) ⟨[.ref a], []⟩) (fun r t => r = .ok (.ret (.bool true)) ∧ OldK st.heap t.heap ∧ t.os = st.os ∧ AllBare t.gens) st := by
  have paired := vals_ints whole
  have many := whole.length
  let ob : PySem.Obj := { cls := .type "list", data := .seq us.toArray }
  let G : Hp := scrH K a ob (is.map L2.V.int)
  have apart : ∀ {b : Addr} {o : PySem.Obj}, K.lookup b = some o → G b = none := fun {b o} e => by
    cases g : G b with
    | none => rfl
    | some u =>
      obtain ⟨rfl, n, _⟩ := scrH_some g
      rw [n] at e
      cases e
  have dicts : ∀ {b : Addr} {o : PySem.Obj} {es : Array DictEntry} {ep : Nat}, st.heap.get? b = some o → o.data = .dict es ep → G b = none := fun {b o es ep} e dd => by
    cases g : G b with
    | none => rfl
    | some u =>
      obtain ⟨rfl, _, _⟩ := scrH_some g
      rw [scr] at e
      cases e
      cases (show Data.seq us.toArray _ = Data.dict es ep from dd)
  have spaces : ∀ {b : Addr} {m : Str → Option Value}, st.heap.Ns b m → (hidT st.heap G).Ns b m := fun {b m} n => by
    obtain ⟨o, es, ep, e, dd, more⟩ := n
    exact ⟨o, es, ep, hidT_get e (dicts e dd), dd, more⟩
  have inK0 : K.In (hidT st.heap G) := fun b o e => hidT_get (inK b o e) (apart e)
  have held : HOk P w G st.heap := fun b u e => by
    obtain ⟨rfl, _, rfl⟩ := scrH_some e
    exact ⟨scr, by rw [List.length_map]; exact short, us, _, paired, scr⟩
  have seen : SqL K G a (is.map L2.V.int) := by
    cases hk : K.lookup a with
    | none => exact .inl (.inr ⟨ob, scrH_at hk⟩)
    | some o =>
      have same := inK a o hk
      rw [scr] at same
      cases same
      exact .inr ⟨_, us.toArray, _, hk, rfl, rfl, rfl, by rw [List.size_toArray, many]; exact short, by simpa using paired⟩
  have ground : L2.Mod K mg (hidT st.heap G) := by
    obtain ⟨mc, c1, c2⟩ := nolim
    exact ⟨inK0, spaces gl, ⟨bm, spaces bl, boot⟩, mc, spaces c1, c2⟩
  have enter : Env0 P w K mg (hidT st.heap G) callerA [] st G := {
    frames := rfl
    mod := ground
    bs := fun b o e => of_hidT e
    bsz := Nat.le_of_eq (hidT_size _ _)
    funs := trivial
    frf := fun b hb => absurd (show b ∈ ([] : List Addr) from hb) (by simp)
    hok := held
    bare := .of_eq nog }
  have runs := runs0 _ G seen enter
  refine codeAny_mono runs fun r t out => ?_
  match r, out with
  | .error er, out => exact (show False from out).elim
  | .ok .next, out => exact (show False from out).elim
  | .ok .brk, out => exact (show False from out).elim
  | .ok .cont, out => exact (show False from out).elim
  | .ok (.ret u), out =>
    obtain ⟨v, G', same, bare, un, held', rel, isT⟩ := out
    obtain rfl : v = L2.V.bl true := isT
    obtain rfl : u = Value.bool true := rel
    refine ⟨rfl, OldK.of_keep fun b o e => ?_, same, bare⟩
    cases g : G b with
    | none => exact un.keep b o e g (fun z => absurd (show b ∈ ([] : List Addr) from z) (by simp)) (by simp)
    | some u =>
      obtain ⟨rfl, _, rfl⟩ := scrH_some g
      have later := (held' _ _ (un.frzs _ _ _ g)).1
      rw [scr] at e
      cases e
      exact later
end
end Xk
/-! all facts put together -/
namespace Xk
open PySem L2 PySem.W
/-- what the law does of a list of at most 63 whole numbers, where a caller stands -/
def Asked (P : Program) (w : World) (K : Frag) (mg : Str → Option Value) (fa : Addr) : Prop := ∀ {base : Heap} {st : Shared} {G : Hp} {a : Addr} {ns : List Int}, ns.length ≤ 63 → SqL K G a (ns.map L2.V.int) → Env0 P w K mg base callerA [] st G → codeAny (model P w) callerA (.call (.ref fa) ⟨[.ref a], []⟩) (CR CX0 [] P w G st (fun v _ => v = L2.V.bl true) fun _ _ _ => False) st
theorem asked {P : Program} {w : World} {K : Frag} {mg : Str → Option Value} {fa : Addr} (h : Asked P w K mg fa) {base : Heap} {st : Shared} {G : Hp} {a : Addr} {ns : List Int} (few : ns.length ≤ 63) (seen : SqL K G a (ns.map L2.V.int)) (enter : Env0 P w K mg base callerA [] st G) : codeAny (model P w) callerA (.call (.ref fa) ⟨[.ref a], []⟩) (CR CX0 [] P w G st (fun v _ => v = L2.V.bl true) fun _ _ _ => False) st := h few seen enter
theorem all_mk {P : Program} {w : World} {K : Frag} {h : Heap} {mg : Str → Option Value} {fa : Addr} (hfile : (P.main.file : Str) = ("/claim/cut.py" : Str)) (htop : (P.main.scope.names.lookup ("super" : Str)).isSome = false) (X : K.In h) (G : h.Ns mainGlobals mg) (hfa : mg "law" = some (.ref fa))
    {C0 fI0 cc0 cda0 : Addr} {oc0 kV0 doc0 pm0 ct0 cl0 ccl0 : Value} {od0 an0 cld0 cdd0 : Option Addr} {osl0 csl0 ccs0 : Array (Option Value)} {vs0 : Array Value} {q0 : Str} {tf0 : Tok} {NN0 : Addr} {nm0 qq0 : Str} {bs0 bm0 : List Value} {sn0 : List Str} {sub0 : List Value} {ab0 : Bool} {col0 : Option Bool} {dd0 : Option Addr} {ka0 kb0 kc0 kd0 ke0 : Option Value}
    {C1 fI1 cc1 cda1 : Addr} {oc1 kV1 doc1 pm1 ct1 cl1 ccl1 : Value} {od1 an1 cld1 cdd1 : Option Addr} {osl1 csl1 ccs1 : Array (Option Value)} {vs1 : Array Value} {q1 : Str} {tf1 : Tok} {NN1 : Addr} {nm1 qq1 : Str} {bs1 bm1 : List Value} {sn1 : List Str} {sub1 : List Value} {ab1 : Bool} {col1 : Option Bool} {dd1 : Option Addr} {ka1 kb1 kc1 kd1 ke1 : Option Value}
    {C2 fI2 cc2 cda2 : Addr} {oc2 kV2 doc2 pm2 ct2 cl2 ccl2 : Value} {od2 an2 cld2 cdd2 : Option Addr} {osl2 csl2 ccs2 : Array (Option Value)} {vs2 : Array Value} {q2 : Str} {tf2 : Tok} {NN2 : Addr} {nm2 qq2 : Str} {bs2 bm2 : List Value} {sn2 : List Str} {sub2 : List Value} {ab2 : Bool} {col2 : Option Bool} {dd2 : Option Addr} {ka2 kb2 kc2 kd2 ke2 : Option Value}
    {C3 fI3 cc3 cda3 : Addr} {oc3 kV3 doc3 pm3 ct3 cl3 ccl3 : Value} {od3 an3 cld3 cdd3 : Option Addr} {osl3 csl3 ccs3 : Array (Option Value)} {vs3 : Array Value} {q3 : Str} {tf3 : Tok} {NN3 : Addr} {nm3 qq3 : Str} {bs3 bm3 : List Value} {sn3 : List Str} {sub3 : List Value} {ab3 : Bool} {col3 : Option Bool} {dd3 : Option Addr} {ka3 kb3 kc3 kd3 ke3 : Option Value}
    {C4 fI4 cc4 cda4 : Addr} {oc4 kV4 doc4 pm4 ct4 cl4 ccl4 : Value} {od4 an4 cld4 cdd4 : Option Addr} {osl4 csl4 ccs4 : Array (Option Value)} {vs4 : Array Value} {q4 : Str} {tf4 : Tok} {NN4 : Addr} {nm4 qq4 : Str} {bs4 bm4 : List Value} {sn4 : List Str} {sub4 : List Value} {ab4 : Bool} {col4 : Option Bool} {dd4 : Option Addr} {ka4 kb4 kc4 kd4 ke4 : Option Value}
    {C5 fI5 cc5 cda5 : Addr} {oc5 kV5 doc5 pm5 ct5 cl5 ccl5 : Value} {od5 an5 cld5 cdd5 : Option Addr} {osl5 csl5 ccs5 : Array (Option Value)} {vs5 : Array Value} {q5 : Str} {tf5 : Tok} {NN5 : Addr} {nm5 qq5 : Str} {bs5 bm5 : List Value} {sn5 : List Str} {sub5 : List Value} {ab5 : Bool} {col5 : Option Bool} {dd5 : Option Addr} {ka5 kb5 kc5 kd5 ke5 : Option Value}
    {C6 fI6 cc6 cda6 : Addr} {oc6 kV6 doc6 pm6 ct6 cl6 ccl6 : Value} {od6 an6 cld6 cdd6 : Option Addr} {osl6 csl6 ccs6 : Array (Option Value)} {vs6 : Array Value} {q6 : Str} {tf6 : Tok} {NN6 : Addr} {nm6 qq6 : Str} {bs6 bm6 : List Value} {sn6 : List Str} {sub6 : List Value} {ab6 : Bool} {col6 : Option Bool} {dd6 : Option Addr} {ka6 kb6 kc6 kd6 ke6 : Option Value}
    {C7 fI7 cc7 cda7 : Addr} {oc7 kV7 doc7 pm7 ct7 cl7 ccl7 : Value} {od7 an7 cld7 cdd7 : Option Addr} {osl7 csl7 ccs7 : Array (Option Value)} {vs7 : Array Value} {q7 : Str} {tf7 : Tok} {NN7 : Addr} {nm7 qq7 : Str} {bs7 bm7 : List Value} {sn7 : List Str} {sub7 : List Value} {ab7 : Bool} {col7 : Option Bool} {dd7 : Option Addr} {ka7 kb7 kc7 kd7 ke7 : Option Value}
    {C8 fI8 cc8 cda8 : Addr} {oc8 kV8 doc8 pm8 ct8 cl8 ccl8 : Value} {od8 an8 cld8 cdd8 : Option Addr} {osl8 csl8 ccs8 : Array (Option Value)} {vs8 : Array Value} {q8 : Str} {tf8 : Tok} {NN8 : Addr} {nm8 qq8 : Str} {bs8 bm8 : List Value} {sn8 : List Str} {sub8 : List Value} {ab8 : Bool} {col8 : Option Bool} {dd8 : Option Addr} {ka8 kb8 kc8 kd8 ke8 : Option Value}
    {C9 fI9 cc9 cda9 : Addr} {oc9 kV9 doc9 pm9 ct9 cl9 ccl9 : Value} {od9 an9 cld9 cdd9 : Option Addr} {osl9 csl9 ccs9 : Array (Option Value)} {vs9 : Array Value} {q9 : Str} {tf9 : Tok} {NN9 : Addr} {nm9 qq9 : Str} {bs9 bm9 : List Value} {sn9 : List Str} {sub9 : List Value} {ab9 : Bool} {col9 : Option Bool} {dd9 : Option Addr} {ka9 kb9 kc9 kd9 ke9 : Option Value}
    {C10 fI10 cc10 cda10 : Addr} {oc10 kV10 doc10 pm10 ct10 cl10 ccl10 : Value} {od10 an10 cld10 cdd10 : Option Addr} {osl10 csl10 ccs10 : Array (Option Value)} {vs10 : Array Value} {q10 : Str} {tf10 : Tok} {NN10 : Addr} {nm10 qq10 : Str} {bs10 bm10 : List Value} {sn10 : List Str} {sub10 : List Value} {ab10 : Bool} {col10 : Option Bool} {dd10 : Option Addr} {ka10 kb10 kc10 kd10 ke10 : Option Value}
    {C11 fI11 cc11 cda11 : Addr} {oc11 kV11 doc11 pm11 ct11 cl11 ccl11 : Value} {od11 an11 cld11 cdd11 : Option Addr} {osl11 csl11 ccs11 : Array (Option Value)} {vs11 : Array Value} {q11 : Str} {tf11 : Tok} {NN11 : Addr} {nm11 qq11 : Str} {bs11 bm11 : List Value} {sn11 : List Str} {sub11 : List Value} {ab11 : Bool} {col11 : Option Bool} {dd11 : Option Addr} {ka11 kb11 kc11 kd11 ke11 : Option Value}
    {C12 fI12 cc12 cda12 : Addr} {oc12 kV12 doc12 pm12 ct12 cl12 ccl12 : Value} {od12 an12 cld12 cdd12 : Option Addr} {osl12 csl12 ccs12 : Array (Option Value)} {vs12 : Array Value} {q12 : Str} {tf12 : Tok} {NN12 : Addr} {nm12 qq12 : Str} {bs12 bm12 : List Value} {sn12 : List Str} {sub12 : List Value} {ab12 : Bool} {col12 : Option Bool} {dd12 : Option Addr} {ka12 kb12 kc12 kd12 ke12 : Option Value}
    {C13 fI13 cc13 cda13 : Addr} {oc13 kV13 doc13 pm13 ct13 cl13 ccl13 : Value} {od13 an13 cld13 cdd13 : Option Addr} {osl13 csl13 ccs13 : Array (Option Value)} {vs13 : Array Value} {q13 : Str} {tf13 : Tok} {NN13 : Addr} {nm13 qq13 : Str} {bs13 bm13 : List Value} {sn13 : List Str} {sub13 : List Value} {ab13 : Bool} {col13 : Option Bool} {dd13 : Option Addr} {ka13 kb13 kc13 kd13 ke13 : Option Value}
    {C14 fI14 cc14 cda14 : Addr} {oc14 kV14 doc14 pm14 ct14 cl14 ccl14 : Value} {od14 an14 cld14 cdd14 : Option Addr} {osl14 csl14 ccs14 : Array (Option Value)} {vs14 : Array Value} {q14 : Str} {tf14 : Tok} {NN14 : Addr} {nm14 qq14 : Str} {bs14 bm14 : List Value} {sn14 : List Str} {sub14 : List Value} {ab14 : Bool} {col14 : Option Bool} {dd14 : Option Addr} {ka14 kb14 kc14 kd14 ke14 : Option Value}
    {C15 fI15 cc15 cda15 : Addr} {oc15 kV15 doc15 pm15 ct15 cl15 ccl15 : Value} {od15 an15 cld15 cdd15 : Option Addr} {osl15 csl15 ccs15 : Array (Option Value)} {vs15 : Array Value} {q15 : Str} {tf15 : Tok} {NN15 : Addr} {nm15 qq15 : Str} {bs15 bm15 : List Value} {sn15 : List Str} {sub15 : List Value} {ab15 : Bool} {col15 : Option Bool} {dd15 : Option Addr} {ka15 kb15 kc15 kd15 ke15 : Option Value}
    {C16 fI16 cc16 cda16 : Addr} {oc16 kV16 doc16 pm16 ct16 cl16 ccl16 : Value} {od16 an16 cld16 cdd16 : Option Addr} {osl16 csl16 ccs16 : Array (Option Value)} {vs16 : Array Value} {q16 : Str} {tf16 : Tok} {NN16 : Addr} {nm16 qq16 : Str} {bs16 bm16 : List Value} {sn16 : List Str} {sub16 : List Value} {ab16 : Bool} {col16 : Option Bool} {dd16 : Option Addr} {ka16 kb16 kc16 kd16 ke16 : Option Value}
    {C17 fI17 cc17 cda17 : Addr} {oc17 kV17 doc17 pm17 ct17 cl17 ccl17 : Value} {od17 an17 cld17 cdd17 : Option Addr} {osl17 csl17 ccs17 : Array (Option Value)} {vs17 : Array Value} {q17 : Str} {tf17 : Tok} {NN17 : Addr} {nm17 qq17 : Str} {bs17 bm17 : List Value} {sn17 : List Str} {sub17 : List Value} {ab17 : Bool} {col17 : Option Bool} {dd17 : Option Addr} {ka17 kb17 kc17 kd17 ke17 : Option Value}
    {C18 fI18 cc18 cda18 : Addr} {oc18 kV18 doc18 pm18 ct18 cl18 ccl18 : Value} {od18 an18 cld18 cdd18 : Option Addr} {osl18 csl18 ccs18 : Array (Option Value)} {vs18 : Array Value} {q18 : Str} {tf18 : Tok} {NN18 : Addr} {nm18 qq18 : Str} {bs18 bm18 : List Value} {sn18 : List Str} {sub18 : List Value} {ab18 : Bool} {col18 : Option Bool} {dd18 : Option Addr} {ka18 kb18 kc18 kd18 ke18 : Option Value}
    {C19 fI19 cc19 cda19 : Addr} {oc19 kV19 doc19 pm19 ct19 cl19 ccl19 : Value} {od19 an19 cld19 cdd19 : Option Addr} {osl19 csl19 ccs19 : Array (Option Value)} {vs19 : Array Value} {q19 : Str} {tf19 : Tok} {NN19 : Addr} {nm19 qq19 : Str} {bs19 bm19 : List Value} {sn19 : List Str} {sub19 : List Value} {ab19 : Bool} {col19 : Option Bool} {dd19 : Option Addr} {ka19 kb19 kc19 kd19 ke19 : Option Value}
    {D : Addr} {NND : Addr} {nmD qqD : Str} {bsD bmD : List Value} {snD : List Str} {subD : List Value} {abD : Bool} {colD : Option Bool} {ddD : Option Addr} {kaD kbD kcD kdD keD : Option Value}
    {fH : Addr} {oH kvH dcH pmH cdH ctH : Value} {odH anH : Option Addr} {slH : Array (Option Value)}
    {fD : Addr} {oD kvD dcD pmD cdD ctD : Value} {odD anD : Option Addr} {slD : Array (Option Value)}
    {fS : Addr} {oS kvS dcS pmS cdS ctS : Value} {odS anS : Option Addr} {slS : Array (Option Value)}
    {fT : Addr} {oT kvT dcT pmT cdT ctT : Value} {odT anT : Option Addr} {slT : Array (Option Value)}
    {fA : Addr} {oA kvA dcA pmA cdA ctA : Value} {odA anA : Option Addr} {slA : Array (Option Value)}
    {fM : Addr} {oM kvM dcM pmM cdM ctM : Value} {odM anM : Option Addr} {slM : Array (Option Value)}
    {fR : Addr} {oR kvR dcR pmR cdR ctR : Value} {odR anR : Option Addr} {slR : Array (Option Value)}
    {fC : Addr} {oC kvC dcC pmC cdC ctC : Value} {odC anC : Option Addr} {slC : Array (Option Value)}
    {fB : Addr} {oB kvB dcB pmB cdB ctB : Value} {odB anB : Option Addr} {slB : Array (Option Value)}
    {fL : Addr} {oL kvL dcL pmL cdL ctL : Value} {odL anL : Option Addr} {slL : Array (Option Value)}
    (aC0 : nsIn K mainGlobals "BadDoor" = some (some (.ref C0)))
    (sC0 : K.lookup C0 = some (excClassObj nm0 qq0 C0 NN0 bs0 bm0 true sn0 sub0 ab0 col0 dd0 ka0 kb0 kc0 kd0 ke0 "ValueError.__new__"))
    (rC0 : HandSPX.refsVE bm0 = true)
    (eC0 : Xk.exB K C0 = true)
    (iC0 : findIn K (.ref C0) "__init__" = some (some (.ref fI0)))
    (lI0 : K.lookup fI0 = some ⟨oc0, od0, .func (ksFn "__init__" q0 (defArgs (inClass (top 2) 0)) (defBody (inClass (top 2) 0)) (defScope (inClass (top 2) 0)) .none kV0 doc0 pm0 an0 (.ref cda0) ct0 cc0), osl0⟩)
    (cI0 : codeIn K (.ref cda0) q0 = true)
    (lc0 : K.lookup cc0 = some ⟨cl0, cld0, .cell (some (.ref C0)), csl0⟩)
    (lk0 : K.lookup cda0 = some ⟨ccl0, cdd0, .fields vs0, ccs0⟩)
    (hv0 : vs0[2]? = some (.str ("/claim/cut.py" : Str) tf0))
    (b0 : exI2B K C0 fI0 = true)
    (n0 : findIn K (.ref C0) "part" = some none)
    (aC1 : nsIn K mainGlobals "TooMany" = some (some (.ref C1)))
    (sC1 : K.lookup C1 = some (excClassObj nm1 qq1 C1 NN1 bs1 bm1 true sn1 sub1 ab1 col1 dd1 ka1 kb1 kc1 kd1 ke1 "ValueError.__new__"))
    (rC1 : HandSPX.refsVE bm1 = true)
    (eC1 : Xk.exB K C1 = true)
    (iC1 : findIn K (.ref C1) "__init__" = some (some (.ref fI1)))
    (lI1 : K.lookup fI1 = some ⟨oc1, od1, .func (ksFn "__init__" q1 (defArgs (inClass (top 7) 0)) (defBody (inClass (top 7) 0)) (defScope (inClass (top 7) 0)) .none kV1 doc1 pm1 an1 (.ref cda1) ct1 cc1), osl1⟩)
    (cI1 : codeIn K (.ref cda1) q1 = true)
    (lc1 : K.lookup cc1 = some ⟨cl1, cld1, .cell (some (.ref C1)), csl1⟩)
    (lk1 : K.lookup cda1 = some ⟨ccl1, cdd1, .fields vs1, ccs1⟩)
    (hv1 : vs1[2]? = some (.str ("/claim/cut.py" : Str) tf1))
    (b1 : exI2B K C1 fI1 = true)
    (n1 : findIn K (.ref C1) "most" = some none)
    (aC2 : nsIn K mainGlobals "BadBuilding" = some (some (.ref C2)))
    (sC2 : K.lookup C2 = some (excClassObj nm2 qq2 C2 NN2 bs2 bm2 true sn2 sub2 ab2 col2 dd2 ka2 kb2 kc2 kd2 ke2 "ValueError.__new__"))
    (rC2 : HandSPX.refsVE bm2 = true)
    (eC2 : Xk.exB K C2 = true)
    (iC2 : findIn K (.ref C2) "__init__" = some (some (.ref fI2)))
    (lI2 : K.lookup fI2 = some ⟨oc2, od2, .func (ksFn "__init__" q2 (defArgs (inClass (top 13) 0)) (defBody (inClass (top 13) 0)) (defScope (inClass (top 13) 0)) .none kV2 doc2 pm2 an2 (.ref cda2) ct2 cc2), osl2⟩)
    (cI2 : codeIn K (.ref cda2) q2 = true)
    (lc2 : K.lookup cc2 = some ⟨cl2, cld2, .cell (some (.ref C2)), csl2⟩)
    (lk2 : K.lookup cda2 = some ⟨ccl2, cdd2, .fields vs2, ccs2⟩)
    (hv2 : vs2[2]? = some (.str ("/claim/cut.py" : Str) tf2))
    (b2 : exI2B K C2 fI2 = true)
    (n2 : findIn K (.ref C2) "part" = some none)
    (aC3 : nsIn K mainGlobals "BadHouse" = some (some (.ref C3)))
    (sC3 : K.lookup C3 = some (excClassObj nm3 qq3 C3 NN3 bs3 bm3 true sn3 sub3 ab3 col3 dd3 ka3 kb3 kc3 kd3 ke3 "ValueError.__new__"))
    (rC3 : HandSPX.refsVE bm3 = true)
    (eC3 : Xk.exB K C3 = true)
    (iC3 : findIn K (.ref C3) "__init__" = some (some (.ref fI3)))
    (lI3 : K.lookup fI3 = some ⟨oc3, od3, .func (ksFn "__init__" q3 (defArgs (inClass (top 15) 0)) (defBody (inClass (top 15) 0)) (defScope (inClass (top 15) 0)) .none kV3 doc3 pm3 an3 (.ref cda3) ct3 cc3), osl3⟩)
    (cI3 : codeIn K (.ref cda3) q3 = true)
    (lc3 : K.lookup cc3 = some ⟨cl3, cld3, .cell (some (.ref C3)), csl3⟩)
    (lk3 : K.lookup cda3 = some ⟨ccl3, cdd3, .fields vs3, ccs3⟩)
    (hv3 : vs3[2]? = some (.str ("/claim/cut.py" : Str) tf3))
    (b3 : exI2B K C3 fI3 = true)
    (n3 : findIn K (.ref C3) "part" = some none)
    (aC4 : nsIn K mainGlobals "BadText" = some (some (.ref C4)))
    (sC4 : K.lookup C4 = some (excClassObj nm4 qq4 C4 NN4 bs4 bm4 true sn4 sub4 ab4 col4 dd4 ka4 kb4 kc4 kd4 ke4 "ValueError.__new__"))
    (rC4 : HandSPX.refsVE bm4 = true)
    (eC4 : Xk.exB K C4 = true)
    (iC4 : findIn K (.ref C4) "__init__" = some (some (.ref fI4)))
    (lI4 : K.lookup fI4 = some ⟨oc4, od4, .func (ksFn "__init__" q4 (defArgs (inClass (top 19) 0)) (defBody (inClass (top 19) 0)) (defScope (inClass (top 19) 0)) .none kV4 doc4 pm4 an4 (.ref cda4) ct4 cc4), osl4⟩)
    (cI4 : codeIn K (.ref cda4) q4 = true)
    (lc4 : K.lookup cc4 = some ⟨cl4, cld4, .cell (some (.ref C4)), csl4⟩)
    (lk4 : K.lookup cda4 = some ⟨ccl4, cdd4, .fields vs4, ccs4⟩)
    (hv4 : vs4[2]? = some (.str ("/claim/cut.py" : Str) tf4))
    (b4 : exI2B K C4 fI4 = true)
    (n4 : findIn K (.ref C4) "at" = some none)
    (aC5 : nsIn K mainGlobals "NoName" = some (some (.ref C5)))
    (sC5 : K.lookup C5 = some (excClassObj nm5 qq5 C5 NN5 bs5 bm5 true sn5 sub5 ab5 col5 dd5 ka5 kb5 kc5 kd5 ke5 "ValueError.__new__"))
    (rC5 : HandSPX.refsVE bm5 = true)
    (eC5 : Xk.exB K C5 = true)
    (iC5 : findIn K (.ref C5) "__init__" = some (some (.ref fI5)))
    (lI5 : K.lookup fI5 = some ⟨oc5, od5, .func (ksFn "__init__" q5 (defArgs (inClass (top 21) 0)) (defBody (inClass (top 21) 0)) (defScope (inClass (top 21) 0)) .none kV5 doc5 pm5 an5 (.ref cda5) ct5 cc5), osl5⟩)
    (cI5 : codeIn K (.ref cda5) q5 = true)
    (lc5 : K.lookup cc5 = some ⟨cl5, cld5, .cell (some (.ref C5)), csl5⟩)
    (lk5 : K.lookup cda5 = some ⟨ccl5, cdd5, .fields vs5, ccs5⟩)
    (hv5 : vs5[2]? = some (.str ("/claim/cut.py" : Str) tf5))
    (b5 : exI2B K C5 fI5 = true)
    (n5 : findIn K (.ref C5) "name" = some none)
    (aC6 : nsIn K mainGlobals "NoTerm" = some (some (.ref C6)))
    (sC6 : K.lookup C6 = some (excClassObj nm6 qq6 C6 NN6 bs6 bm6 true sn6 sub6 ab6 col6 dd6 ka6 kb6 kc6 kd6 ke6 "ValueError.__new__"))
    (rC6 : HandSPX.refsVE bm6 = true)
    (eC6 : Xk.exB K C6 = true)
    (iC6 : findIn K (.ref C6) "__init__" = some (some (.ref fI6)))
    (lI6 : K.lookup fI6 = some ⟨oc6, od6, .func (ksFn "__init__" q6 (defArgs (inClass (top 3) 0)) (defBody (inClass (top 3) 0)) (defScope (inClass (top 3) 0)) .none kV6 doc6 pm6 an6 (.ref cda6) ct6 cc6), osl6⟩)
    (cI6 : codeIn K (.ref cda6) q6 = true)
    (lc6 : K.lookup cc6 = some ⟨cl6, cld6, .cell (some (.ref C6)), csl6⟩)
    (lk6 : K.lookup cda6 = some ⟨ccl6, cdd6, .fields vs6, ccs6⟩)
    (hv6 : vs6[2]? = some (.str ("/claim/cut.py" : Str) tf6))
    (b6 : exI2B K C6 fI6 = true)
    (aC7 : nsIn K mainGlobals "NoTerms" = some (some (.ref C7)))
    (sC7 : K.lookup C7 = some (excClassObj nm7 qq7 C7 NN7 bs7 bm7 true sn7 sub7 ab7 col7 dd7 ka7 kb7 kc7 kd7 ke7 "ValueError.__new__"))
    (rC7 : HandSPX.refsVE bm7 = true)
    (eC7 : Xk.exB K C7 = true)
    (iC7 : findIn K (.ref C7) "__init__" = some (some (.ref fI7)))
    (lI7 : K.lookup fI7 = some ⟨oc7, od7, .func (ksFn "__init__" q7 (defArgs (inClass (top 4) 0)) (defBody (inClass (top 4) 0)) (defScope (inClass (top 4) 0)) .none kV7 doc7 pm7 an7 (.ref cda7) ct7 cc7), osl7⟩)
    (cI7 : codeIn K (.ref cda7) q7 = true)
    (lc7 : K.lookup cc7 = some ⟨cl7, cld7, .cell (some (.ref C7)), csl7⟩)
    (lk7 : K.lookup cda7 = some ⟨ccl7, cdd7, .fields vs7, ccs7⟩)
    (hv7 : vs7[2]? = some (.str ("/claim/cut.py" : Str) tf7))
    (b7 : exI2B K C7 fI7 = true)
    (aC8 : nsIn K mainGlobals "NoKind" = some (some (.ref C8)))
    (sC8 : K.lookup C8 = some (excClassObj nm8 qq8 C8 NN8 bs8 bm8 true sn8 sub8 ab8 col8 dd8 ka8 kb8 kc8 kd8 ke8 "ValueError.__new__"))
    (rC8 : HandSPX.refsVE bm8 = true)
    (eC8 : Xk.exB K C8 = true)
    (iC8 : findIn K (.ref C8) "__init__" = some (some (.ref fI8)))
    (lI8 : K.lookup fI8 = some ⟨oc8, od8, .func (ksFn "__init__" q8 (defArgs (inClass (top 5) 0)) (defBody (inClass (top 5) 0)) (defScope (inClass (top 5) 0)) .none kV8 doc8 pm8 an8 (.ref cda8) ct8 cc8), osl8⟩)
    (cI8 : codeIn K (.ref cda8) q8 = true)
    (lc8 : K.lookup cc8 = some ⟨cl8, cld8, .cell (some (.ref C8)), csl8⟩)
    (lk8 : K.lookup cda8 = some ⟨ccl8, cdd8, .fields vs8, ccs8⟩)
    (hv8 : vs8[2]? = some (.str ("/claim/cut.py" : Str) tf8))
    (b8 : exI2B K C8 fI8 = true)
    (aC9 : nsIn K mainGlobals "NoGiven" = some (some (.ref C9)))
    (sC9 : K.lookup C9 = some (excClassObj nm9 qq9 C9 NN9 bs9 bm9 true sn9 sub9 ab9 col9 dd9 ka9 kb9 kc9 kd9 ke9 "ValueError.__new__"))
    (rC9 : HandSPX.refsVE bm9 = true)
    (eC9 : Xk.exB K C9 = true)
    (iC9 : findIn K (.ref C9) "__init__" = some (some (.ref fI9)))
    (lI9 : K.lookup fI9 = some ⟨oc9, od9, .func (ksFn "__init__" q9 (defArgs (inClass (top 6) 0)) (defBody (inClass (top 6) 0)) (defScope (inClass (top 6) 0)) .none kV9 doc9 pm9 an9 (.ref cda9) ct9 cc9), osl9⟩)
    (cI9 : codeIn K (.ref cda9) q9 = true)
    (lc9 : K.lookup cc9 = some ⟨cl9, cld9, .cell (some (.ref C9)), csl9⟩)
    (lk9 : K.lookup cda9 = some ⟨ccl9, cdd9, .fields vs9, ccs9⟩)
    (hv9 : vs9[2]? = some (.str ("/claim/cut.py" : Str) tf9))
    (b9 : exI2B K C9 fI9 = true)
    (aC10 : nsIn K mainGlobals "TooGreat" = some (some (.ref C10)))
    (sC10 : K.lookup C10 = some (excClassObj nm10 qq10 C10 NN10 bs10 bm10 true sn10 sub10 ab10 col10 dd10 ka10 kb10 kc10 kd10 ke10 "ValueError.__new__"))
    (rC10 : HandSPX.refsVE bm10 = true)
    (eC10 : Xk.exB K C10 = true)
    (iC10 : findIn K (.ref C10) "__init__" = some (some (.ref fI10)))
    (lI10 : K.lookup fI10 = some ⟨oc10, od10, .func (ksFn "__init__" q10 (defArgs (inClass (top 8) 0)) (defBody (inClass (top 8) 0)) (defScope (inClass (top 8) 0)) .none kV10 doc10 pm10 an10 (.ref cda10) ct10 cc10), osl10⟩)
    (cI10 : codeIn K (.ref cda10) q10 = true)
    (lc10 : K.lookup cc10 = some ⟨cl10, cld10, .cell (some (.ref C10)), csl10⟩)
    (lk10 : K.lookup cda10 = some ⟨ccl10, cdd10, .fields vs10, ccs10⟩)
    (hv10 : vs10[2]? = some (.str ("/claim/cut.py" : Str) tf10))
    (b10 : exI2B K C10 fI10 = true)
    (aC11 : nsIn K mainGlobals "NoFilling" = some (some (.ref C11)))
    (sC11 : K.lookup C11 = some (excClassObj nm11 qq11 C11 NN11 bs11 bm11 true sn11 sub11 ab11 col11 dd11 ka11 kb11 kc11 kd11 ke11 "ValueError.__new__"))
    (rC11 : HandSPX.refsVE bm11 = true)
    (eC11 : Xk.exB K C11 = true)
    (iC11 : findIn K (.ref C11) "__init__" = some (some (.ref fI11)))
    (lI11 : K.lookup fI11 = some ⟨oc11, od11, .func (ksFn "__init__" q11 (defArgs (inClass (top 9) 0)) (defBody (inClass (top 9) 0)) (defScope (inClass (top 9) 0)) .none kV11 doc11 pm11 an11 (.ref cda11) ct11 cc11), osl11⟩)
    (cI11 : codeIn K (.ref cda11) q11 = true)
    (lc11 : K.lookup cc11 = some ⟨cl11, cld11, .cell (some (.ref C11)), csl11⟩)
    (lk11 : K.lookup cda11 = some ⟨ccl11, cdd11, .fields vs11, ccs11⟩)
    (hv11 : vs11[2]? = some (.str ("/claim/cut.py" : Str) tf11))
    (b11 : exI2B K C11 fI11 = true)
    (aC12 : nsIn K mainGlobals "NotMeeting" = some (some (.ref C12)))
    (sC12 : K.lookup C12 = some (excClassObj nm12 qq12 C12 NN12 bs12 bm12 true sn12 sub12 ab12 col12 dd12 ka12 kb12 kc12 kd12 ke12 "ValueError.__new__"))
    (rC12 : HandSPX.refsVE bm12 = true)
    (eC12 : Xk.exB K C12 = true)
    (iC12 : findIn K (.ref C12) "__init__" = some (some (.ref fI12)))
    (lI12 : K.lookup fI12 = some ⟨oc12, od12, .func (ksFn "__init__" q12 (defArgs (inClass (top 10) 0)) (defBody (inClass (top 10) 0)) (defScope (inClass (top 10) 0)) .none kV12 doc12 pm12 an12 (.ref cda12) ct12 cc12), osl12⟩)
    (cI12 : codeIn K (.ref cda12) q12 = true)
    (lc12 : K.lookup cc12 = some ⟨cl12, cld12, .cell (some (.ref C12)), csl12⟩)
    (lk12 : K.lookup cda12 = some ⟨ccl12, cdd12, .fields vs12, ccs12⟩)
    (hv12 : vs12[2]? = some (.str ("/claim/cut.py" : Str) tf12))
    (b12 : exI2B K C12 fI12 = true)
    (aC13 : nsIn K mainGlobals "NoSaying" = some (some (.ref C13)))
    (sC13 : K.lookup C13 = some (excClassObj nm13 qq13 C13 NN13 bs13 bm13 true sn13 sub13 ab13 col13 dd13 ka13 kb13 kc13 kd13 ke13 "ValueError.__new__"))
    (rC13 : HandSPX.refsVE bm13 = true)
    (eC13 : Xk.exB K C13 = true)
    (iC13 : findIn K (.ref C13) "__init__" = some (some (.ref fI13)))
    (lI13 : K.lookup fI13 = some ⟨oc13, od13, .func (ksFn "__init__" q13 (defArgs (inClass (top 11) 0)) (defBody (inClass (top 11) 0)) (defScope (inClass (top 11) 0)) .none kV13 doc13 pm13 an13 (.ref cda13) ct13 cc13), osl13⟩)
    (cI13 : codeIn K (.ref cda13) q13 = true)
    (lc13 : K.lookup cc13 = some ⟨cl13, cld13, .cell (some (.ref C13)), csl13⟩)
    (lk13 : K.lookup cda13 = some ⟨ccl13, cdd13, .fields vs13, ccs13⟩)
    (hv13 : vs13[2]? = some (.str ("/claim/cut.py" : Str) tf13))
    (b13 : exI2B K C13 fI13 = true)
    (aC14 : nsIn K mainGlobals "NoClient" = some (some (.ref C14)))
    (sC14 : K.lookup C14 = some (excClassObj nm14 qq14 C14 NN14 bs14 bm14 true sn14 sub14 ab14 col14 dd14 ka14 kb14 kc14 kd14 ke14 "ValueError.__new__"))
    (rC14 : HandSPX.refsVE bm14 = true)
    (eC14 : Xk.exB K C14 = true)
    (iC14 : findIn K (.ref C14) "__init__" = some (some (.ref fI14)))
    (lI14 : K.lookup fI14 = some ⟨oc14, od14, .func (ksFn "__init__" q14 (defArgs (inClass (top 12) 0)) (defBody (inClass (top 12) 0)) (defScope (inClass (top 12) 0)) .none kV14 doc14 pm14 an14 (.ref cda14) ct14 cc14), osl14⟩)
    (cI14 : codeIn K (.ref cda14) q14 = true)
    (lc14 : K.lookup cc14 = some ⟨cl14, cld14, .cell (some (.ref C14)), csl14⟩)
    (lk14 : K.lookup cda14 = some ⟨ccl14, cdd14, .fields vs14, ccs14⟩)
    (hv14 : vs14[2]? = some (.str ("/claim/cut.py" : Str) tf14))
    (b14 : exI2B K C14 fI14 = true)
    (aC15 : nsIn K mainGlobals "OtherDoors" = some (some (.ref C15)))
    (sC15 : K.lookup C15 = some (excClassObj nm15 qq15 C15 NN15 bs15 bm15 true sn15 sub15 ab15 col15 dd15 ka15 kb15 kc15 kd15 ke15 "ValueError.__new__"))
    (rC15 : HandSPX.refsVE bm15 = true)
    (eC15 : Xk.exB K C15 = true)
    (iC15 : findIn K (.ref C15) "__init__" = some (some (.ref fI15)))
    (lI15 : K.lookup fI15 = some ⟨oc15, od15, .func (ksFn "__init__" q15 (defArgs (inClass (top 14) 0)) (defBody (inClass (top 14) 0)) (defScope (inClass (top 14) 0)) .none kV15 doc15 pm15 an15 (.ref cda15) ct15 cc15), osl15⟩)
    (cI15 : codeIn K (.ref cda15) q15 = true)
    (lc15 : K.lookup cc15 = some ⟨cl15, cld15, .cell (some (.ref C15)), csl15⟩)
    (lk15 : K.lookup cda15 = some ⟨ccl15, cdd15, .fields vs15, ccs15⟩)
    (hv15 : vs15[2]? = some (.str ("/claim/cut.py" : Str) tf15))
    (b15 : exI2B K C15 fI15 = true)
    (aC16 : nsIn K mainGlobals "NoNumber" = some (some (.ref C16)))
    (sC16 : K.lookup C16 = some (excClassObj nm16 qq16 C16 NN16 bs16 bm16 true sn16 sub16 ab16 col16 dd16 ka16 kb16 kc16 kd16 ke16 "ValueError.__new__"))
    (rC16 : HandSPX.refsVE bm16 = true)
    (eC16 : Xk.exB K C16 = true)
    (iC16 : findIn K (.ref C16) "__init__" = some (some (.ref fI16)))
    (lI16 : K.lookup fI16 = some ⟨oc16, od16, .func (ksFn "__init__" q16 (defArgs (inClass (top 16) 0)) (defBody (inClass (top 16) 0)) (defScope (inClass (top 16) 0)) .none kV16 doc16 pm16 an16 (.ref cda16) ct16 cc16), osl16⟩)
    (cI16 : codeIn K (.ref cda16) q16 = true)
    (lc16 : K.lookup cc16 = some ⟨cl16, cld16, .cell (some (.ref C16)), csl16⟩)
    (lk16 : K.lookup cda16 = some ⟨ccl16, cdd16, .fields vs16, ccs16⟩)
    (hv16 : vs16[2]? = some (.str ("/claim/cut.py" : Str) tf16))
    (b16 : exI2B K C16 fI16 = true)
    (aC17 : nsIn K mainGlobals "NoLaw" = some (some (.ref C17)))
    (sC17 : K.lookup C17 = some (excClassObj nm17 qq17 C17 NN17 bs17 bm17 true sn17 sub17 ab17 col17 dd17 ka17 kb17 kc17 kd17 ke17 "ValueError.__new__"))
    (rC17 : HandSPX.refsVE bm17 = true)
    (eC17 : Xk.exB K C17 = true)
    (iC17 : findIn K (.ref C17) "__init__" = some (some (.ref fI17)))
    (lI17 : K.lookup fI17 = some ⟨oc17, od17, .func (ksFn "__init__" q17 (defArgs (inClass (top 17) 0)) (defBody (inClass (top 17) 0)) (defScope (inClass (top 17) 0)) .none kV17 doc17 pm17 an17 (.ref cda17) ct17 cc17), osl17⟩)
    (cI17 : codeIn K (.ref cda17) q17 = true)
    (lc17 : K.lookup cc17 = some ⟨cl17, cld17, .cell (some (.ref C17)), csl17⟩)
    (lk17 : K.lookup cda17 = some ⟨ccl17, cdd17, .fields vs17, ccs17⟩)
    (hv17 : vs17[2]? = some (.str ("/claim/cut.py" : Str) tf17))
    (b17 : exI2B K C17 fI17 = true)
    (aC18 : nsIn K mainGlobals "NothingDone" = some (some (.ref C18)))
    (sC18 : K.lookup C18 = some (excClassObj nm18 qq18 C18 NN18 bs18 bm18 true sn18 sub18 ab18 col18 dd18 ka18 kb18 kc18 kd18 ke18 "ValueError.__new__"))
    (rC18 : HandSPX.refsVE bm18 = true)
    (eC18 : Xk.exB K C18 = true)
    (iC18 : findIn K (.ref C18) "__init__" = some (some (.ref fI18)))
    (lI18 : K.lookup fI18 = some ⟨oc18, od18, .func (ksFn "__init__" q18 (defArgs (inClass (top 18) 0)) (defBody (inClass (top 18) 0)) (defScope (inClass (top 18) 0)) .none kV18 doc18 pm18 an18 (.ref cda18) ct18 cc18), osl18⟩)
    (cI18 : codeIn K (.ref cda18) q18 = true)
    (lc18 : K.lookup cc18 = some ⟨cl18, cld18, .cell (some (.ref C18)), csl18⟩)
    (lk18 : K.lookup cda18 = some ⟨ccl18, cdd18, .fields vs18, ccs18⟩)
    (hv18 : vs18[2]? = some (.str ("/claim/cut.py" : Str) tf18))
    (b18 : exI2B K C18 fI18 = true)
    (aC19 : nsIn K mainGlobals "NoLine" = some (some (.ref C19)))
    (sC19 : K.lookup C19 = some (excClassObj nm19 qq19 C19 NN19 bs19 bm19 true sn19 sub19 ab19 col19 dd19 ka19 kb19 kc19 kd19 ke19 "ValueError.__new__"))
    (rC19 : HandSPX.refsVE bm19 = true)
    (eC19 : Xk.exB K C19 = true)
    (iC19 : findIn K (.ref C19) "__init__" = some (some (.ref fI19)))
    (lI19 : K.lookup fI19 = some ⟨oc19, od19, .func (ksFn "__init__" q19 (defArgs (inClass (top 20) 0)) (defBody (inClass (top 20) 0)) (defScope (inClass (top 20) 0)) .none kV19 doc19 pm19 an19 (.ref cda19) ct19 cc19), osl19⟩)
    (cI19 : codeIn K (.ref cda19) q19 = true)
    (lc19 : K.lookup cc19 = some ⟨cl19, cld19, .cell (some (.ref C19)), csl19⟩)
    (lk19 : K.lookup cda19 = some ⟨ccl19, cdd19, .fields vs19, ccs19⟩)
    (hv19 : vs19[2]? = some (.str ("/claim/cut.py" : Str) tf19))
    (b19 : exI2B K C19 fI19 = true)
    (aD : nsIn K mainGlobals "DoorError" = some (some (.ref D)))
    (sD_ : K.lookup D = some (excClassObj nmD qqD D NND bsD bmD true snD subD abD colD ddD kaD kbD kcD kdD keD "ValueError.__new__"))
    (rD_ : HandSPX.refsVE bmD = true)
    (eD : Xk.exB K D = true)
    (xD : excIn K D [.type "ValueError", .type "Exception", .type "BaseException", .type "object"] "ValueError.__new__" = true)
    (kB : kitB K [C0, C1, C2, C3, C4, C5, C6, C7, C8, C9, C10, C11, C12, C13, C14, C15, C16, C17, C18, C19] = true)
    (kD : kit2B K [C0, C1, C2, C3, C4, C5, C6, C7, C8, C9, C10, C11, C12, C13, C14, C15, C16, C17, C18, C19] D = true)
    (xB : exmB K [C0, C1, C2, C3, C4, C5, C6, C7, C8, C9, C10, C11, C12, C13, C14, C15, C16, C17, C18, C19] D = true)
    (aH_ : nsIn K mainGlobals "_law_hand" = some (some (.ref fH)))
    (lH_ : K.lookup fH = some ⟨oH, odH, .func (fnOf "_law_hand" "_law_hand" (defArgs sHand) (defBody sHand) (defScope sHand) .none kvH dcH pmH anH cdH ctH), slH⟩)
    (cH_ : codeIn K cdH "_law_hand" = true)
    (kH_ : keepIn K (.ref fH) = true)
    (aD_ : nsIn K mainGlobals "_law_draw" = some (some (.ref fD)))
    (lD_ : K.lookup fD = some ⟨oD, odD, .func (fnOf "_law_draw" "_law_draw" (defArgs sDraw) (defBody sDraw) (defScope sDraw) .none kvD dcD pmD anD cdD ctD), slD⟩)
    (cD_ : codeIn K cdD "_law_draw" = true)
    (kD_ : keepIn K (.ref fD) = true)
    (aS_ : nsIn K mainGlobals "_law_some" = some (some (.ref fS)))
    (lS_ : K.lookup fS = some ⟨oS, odS, .func (fnOf "_law_some" "_law_some" (defArgs sSome) (defBody sSome) (defScope sSome) .none kvS dcS pmS anS cdS ctS), slS⟩)
    (cS_ : codeIn K cdS "_law_some" = true)
    (kS_ : keepIn K (.ref fS) = true)
    (aT_ : nsIn K mainGlobals "_law_thing" = some (some (.ref fT)))
    (lT_ : K.lookup fT = some ⟨oT, odT, .func (fnOf "_law_thing" "_law_thing" (defArgs sThing) (defBody sThing) (defScope sThing) .none kvT dcT pmT anT cdT ctT), slT⟩)
    (cT_ : codeIn K cdT "_law_thing" = true)
    (kT_ : keepIn K (.ref fT) = true)
    (aA_ : nsIn K mainGlobals "_law_all" = some (some (.ref fA)))
    (lA_ : K.lookup fA = some ⟨oA, odA, .func (fnOf "_law_all" "_law_all" (defArgs sAll) (defBody sAll) (defScope sAll) .none kvA dcA pmA anA cdA ctA), slA⟩)
    (cA_ : codeIn K cdA "_law_all" = true)
    (kA_ : keepIn K (.ref fA) = true)
    (aM_ : nsIn K mainGlobals "_law_marks" = some (some (.ref fM)))
    (lM_ : K.lookup fM = some ⟨oM, odM, .func (fnOf "_law_marks" "_law_marks" (defArgs sMarks) (defBody sMarks) (defScope sMarks) .none kvM dcM pmM anM cdM ctM), slM⟩)
    (cM_ : codeIn K cdM "_law_marks" = true)
    (kM_ : keepIn K (.ref fM) = true)
    (aR_ : nsIn K mainGlobals "_law_raise" = some (some (.ref fR)))
    (lR_ : K.lookup fR = some ⟨oR, odR, .func (fnOf "_law_raise" "_law_raise" (defArgs sRaise) (defBody sRaise) (defScope sRaise) .none kvR dcR pmR anR cdR ctR), slR⟩)
    (cR_ : codeIn K cdR "_law_raise" = true)
    (kR_ : keepIn K (.ref fR) = true)
    (aC_ : nsIn K mainGlobals "_law_caught" = some (some (.ref fC)))
    (lC_ : K.lookup fC = some ⟨oC, odC, .func (fnOf "_law_caught" "_law_caught" (defArgs sCaught) (defBody sCaught) (defScope sCaught) .none kvC dcC pmC anC cdC ctC), slC⟩)
    (cC_ : codeIn K cdC "_law_caught" = true)
    (kC_ : keepIn K (.ref fC) = true)
    (aB_ : nsIn K mainGlobals "_law_is_based" = some (some (.ref fB)))
    (lB_ : K.lookup fB = some ⟨oB, odB, .func (fnOf "_law_is_based" "_law_is_based" (defArgs sBased) (defBody sBased) (defScope sBased) .none kvB dcB pmB anB cdB ctB), slB⟩)
    (cB_ : codeIn K cdB "_law_is_based" = true)
    (kB_ : keepIn K (.ref fB) = true)
    (aL_ : nsIn K mainGlobals "law" = some (some (.ref fL)))
    (lL_ : K.lookup fL = some ⟨oL, odL, .func (fnOf "law" "law" (defArgs sLaw) (defBody sLaw) (defScope sLaw) .none kvL dcL pmL anL cdL ctL), slL⟩)
    (cL_ : codeIn K cdL "law" = true)
    (kL_ : keepIn K (.ref fL) = true)
    (z_len : nsIn K mainGlobals "len" = some none)
    (z_int : nsIn K mainGlobals "int" = some none)
    (z_abs : nsIn K mainGlobals "abs" = some none)
    (z_range : nsIn K mainGlobals "range" = some none)
    (z_isinstance : nsIn K mainGlobals "isinstance" = some none)
    (z_repr : nsIn K mainGlobals "repr" = some none)
    (z_any : nsIn K mainGlobals "any" = some none)
    (z_enumerate : nsIn K mainGlobals "enumerate" = some none)
    (z_ValueError : nsIn K mainGlobals "ValueError" = some none)
    (z_KeyError : nsIn K mainGlobals "KeyError" = some none)
    (z_IndexError : nsIn K mainGlobals "IndexError" = some none)
    (z_ArithmeticError : nsIn K mainGlobals "ArithmeticError" = some none)
    (z_TypeError : nsIn K mainGlobals "TypeError" = some none)
    (z_RuntimeError : nsIn K mainGlobals "RuntimeError" = some none)
    (z_super : nsIn K mainGlobals "super" = some none) :
    Asked P w K mg fa := by
  have e := hfa.symm.trans (mg_of X G aL_)
  cases e
  have hs := mg_none_of X G z_super
  have T0 := Xk.exB_ok sC0 rC0 eC0
  have I0 := exI_mk iC0 lI0 cI0 lc0 lk0 hv0 b0
  have T1 := Xk.exB_ok sC1 rC1 eC1
  have I1 := exI_mk iC1 lI1 cI1 lc1 lk1 hv1 b1
  have T2 := Xk.exB_ok sC2 rC2 eC2
  have I2 := exI_mk iC2 lI2 cI2 lc2 lk2 hv2 b2
  have T3 := Xk.exB_ok sC3 rC3 eC3
  have I3 := exI_mk iC3 lI3 cI3 lc3 lk3 hv3 b3
  have T4 := Xk.exB_ok sC4 rC4 eC4
  have I4 := exI_mk iC4 lI4 cI4 lc4 lk4 hv4 b4
  have T5 := Xk.exB_ok sC5 rC5 eC5
  have I5 := exI_mk iC5 lI5 cI5 lc5 lk5 hv5 b5
  have T6 := Xk.exB_ok sC6 rC6 eC6
  have I6 := exI_mk iC6 lI6 cI6 lc6 lk6 hv6 b6
  have T7 := Xk.exB_ok sC7 rC7 eC7
  have I7 := exI_mk iC7 lI7 cI7 lc7 lk7 hv7 b7
  have T8 := Xk.exB_ok sC8 rC8 eC8
  have I8 := exI_mk iC8 lI8 cI8 lc8 lk8 hv8 b8
  have T9 := Xk.exB_ok sC9 rC9 eC9
  have I9 := exI_mk iC9 lI9 cI9 lc9 lk9 hv9 b9
  have T10 := Xk.exB_ok sC10 rC10 eC10
  have I10 := exI_mk iC10 lI10 cI10 lc10 lk10 hv10 b10
  have T11 := Xk.exB_ok sC11 rC11 eC11
  have I11 := exI_mk iC11 lI11 cI11 lc11 lk11 hv11 b11
  have T12 := Xk.exB_ok sC12 rC12 eC12
  have I12 := exI_mk iC12 lI12 cI12 lc12 lk12 hv12 b12
  have T13 := Xk.exB_ok sC13 rC13 eC13
  have I13 := exI_mk iC13 lI13 cI13 lc13 lk13 hv13 b13
  have T14 := Xk.exB_ok sC14 rC14 eC14
  have I14 := exI_mk iC14 lI14 cI14 lc14 lk14 hv14 b14
  have T15 := Xk.exB_ok sC15 rC15 eC15
  have I15 := exI_mk iC15 lI15 cI15 lc15 lk15 hv15 b15
  have T16 := Xk.exB_ok sC16 rC16 eC16
  have I16 := exI_mk iC16 lI16 cI16 lc16 lk16 hv16 b16
  have T17 := Xk.exB_ok sC17 rC17 eC17
  have I17 := exI_mk iC17 lI17 cI17 lc17 lk17 hv17 b17
  have T18 := Xk.exB_ok sC18 rC18 eC18
  have I18 := exI_mk iC18 lI18 cI18 lc18 lk18 hv18 b18
  have T19 := Xk.exB_ok sC19 rC19 eC19
  have I19 := exI_mk iC19 lI19 cI19 lc19 lk19 hv19 b19
  have TD := Xk.exB_ok sD_ rD_ eD
  have B : Clz P K mg (fun i => ([C0, C1, C2, C3, C4, C5, C6, C7, C8, C9, C10, C11, C12, C13, C14, C15, C16, C17, C18, C19] : List Addr).getD i 0) D :=
    { c1 := fun i hi => match i, hi with
        | 0, _ => ⟨mg_of X G aC0, T0, n0, mkr1 T0 I0 hfile htop hs rfl (fun _ _ => rfl) (fun _ _ => rfl) bd_part ⟨rfl, rfl, rfl, rfl, rfl⟩ n0⟩
        | 1, _ => ⟨mg_of X G aC1, T1, n1, mkr1 T1 I1 hfile htop hs rfl (fun _ _ => rfl) (fun _ _ => rfl) bd_most ⟨rfl, rfl, rfl, rfl, rfl⟩ n1⟩
        | 2, _ => ⟨mg_of X G aC2, T2, n2, mkr1 T2 I2 hfile htop hs rfl (fun _ _ => rfl) (fun _ _ => rfl) bd_part ⟨rfl, rfl, rfl, rfl, rfl⟩ n2⟩
        | 3, _ => ⟨mg_of X G aC3, T3, n3, mkr1 T3 I3 hfile htop hs rfl (fun _ _ => rfl) (fun _ _ => rfl) bd_part ⟨rfl, rfl, rfl, rfl, rfl⟩ n3⟩
        | 4, _ => ⟨mg_of X G aC4, T4, n4, mkr1 T4 I4 hfile htop hs rfl (fun _ _ => rfl) (fun _ _ => rfl) bd_at ⟨rfl, rfl, rfl, rfl, rfl⟩ n4⟩
        | 5, _ => ⟨mg_of X G aC5, T5, n5, mkr1 T5 I5 hfile htop hs rfl (fun _ _ => rfl) (fun _ _ => rfl) bd_name ⟨rfl, rfl, rfl, rfl, rfl⟩ n5⟩
      c0 := fun i h6 hi => match i, h6, hi with
        | 6, _, _ => ⟨mg_of X G aC6, T6, mkr0 T6 I6 hfile htop hs rfl (fun _ _ => rfl)⟩
        | 7, _, _ => ⟨mg_of X G aC7, T7, mkr0 T7 I7 hfile htop hs rfl (fun _ _ => rfl)⟩
        | 8, _, _ => ⟨mg_of X G aC8, T8, mkr0 T8 I8 hfile htop hs rfl (fun _ _ => rfl)⟩
        | 9, _, _ => ⟨mg_of X G aC9, T9, mkr0 T9 I9 hfile htop hs rfl (fun _ _ => rfl)⟩
        | 10, _, _ => ⟨mg_of X G aC10, T10, mkr0 T10 I10 hfile htop hs rfl (fun _ _ => rfl)⟩
        | 11, _, _ => ⟨mg_of X G aC11, T11, mkr0 T11 I11 hfile htop hs rfl (fun _ _ => rfl)⟩
        | 12, _, _ => ⟨mg_of X G aC12, T12, mkr0 T12 I12 hfile htop hs rfl (fun _ _ => rfl)⟩
        | 13, _, _ => ⟨mg_of X G aC13, T13, mkr0 T13 I13 hfile htop hs rfl (fun _ _ => rfl)⟩
        | 14, _, _ => ⟨mg_of X G aC14, T14, mkr0 T14 I14 hfile htop hs rfl (fun _ _ => rfl)⟩
        | 15, _, _ => ⟨mg_of X G aC15, T15, mkr0 T15 I15 hfile htop hs rfl (fun _ _ => rfl)⟩
        | 16, _, _ => ⟨mg_of X G aC16, T16, mkr0 T16 I16 hfile htop hs rfl (fun _ _ => rfl)⟩
        | 17, _, _ => ⟨mg_of X G aC17, T17, mkr0 T17 I17 hfile htop hs rfl (fun _ _ => rfl)⟩
        | 18, _, _ => ⟨mg_of X G aC18, T18, mkr0 T18 I18 hfile htop hs rfl (fun _ _ => rfl)⟩
        | 19, _, _ => ⟨mg_of X G aC19, T19, mkr0 T19 I19 hfile htop hs rfl (fun _ _ => rfl)⟩
        | n + 20, _, hi => absurd hi (by omega)
      d := ⟨mg_of X G aD, TD, mkrD xD⟩
      kit := kitB_ok kB
      kitD := fun i hi => (kit2B_ok kD i hi).1
      kitDj := fun i hi => (kit2B_ok kD i hi).2.1
      kitB := fun i hi => (kit2B_ok kD i hi).2.2
      ex := fun i j hi hj => (exmB_ok xB i hi).1 j hj
      exD := fun i hi => (exmB_ok xB i hi).2 }
  have FH := fun_mk (st := sHand) lH_ cH_ kH_
  have FD := fun_mk (st := sDraw) lD_ cD_ kD_
  have FS := fun_mk (st := sSome) lS_ cS_ kS_
  have FT := fun_mk (st := sThing) lT_ cT_ kT_
  have FA := fun_mk (st := sAll) lA_ cA_ kA_
  have FM := fun_mk (st := sMarks) lM_ cM_ kM_
  have FR := fun_mk (st := sRaise) lR_ cR_ kR_
  have FC := fun_mk (st := sCaught) lC_ cC_ kC_
  have FB := fun_mk (st := sBased) lB_ cB_ kB_
  have FL := fun_mk (st := sLaw) lL_ cL_ kL_
  have Z : Defs K mg fH fD fS fT fA fM fR fC fB _ _ _ _ _ _ _ _ _ := ⟨FH, mg_of X G aH_, FD, mg_of X G aD_, FS, mg_of X G aS_, FT, mg_of X G aT_, FA, mg_of X G aA_, FM, mg_of X G aM_, FR, mg_of X G aR_, FC, mg_of X G aC_, FB, mg_of X G aB_⟩
  have T0 : Nm mg := ⟨mg_none_of X G z_len, mg_none_of X G z_int, mg_none_of X G z_abs, mg_none_of X G z_range⟩
  have T2 : Nm2 mg := ⟨mg_none_of X G z_isinstance⟩
  have T3 : Nm3 mg := ⟨mg_none_of X G z_repr, mg_none_of X G z_any, mg_none_of X G z_enumerate, mg_none_of X G z_ValueError, mg_none_of X G z_KeyError, mg_none_of X G z_IndexError, mg_none_of X G z_ArithmeticError, mg_none_of X G z_TypeError, mg_none_of X G z_RuntimeError⟩
  intro base st G a ns few seen enter
  have prom : spLaw K [.ref a] G (fun v _ => v = .bl true) fun _ _ _ => False := by
    unfold spLaw
    exact ⟨a, ns, rfl, seen, few, fun _ => rfl⟩
  exact ok_law FL Z T0 T2 T3 B (us := [Value.ref a]) (vs := [L2.V.ref a]) rfl ⟨rfl, by decide, by decide⟩ enter (.of_eq rfl) (.cons rfl .nil) prom

end Xk
open PySem PySem.W PyProof.Rows
set_option maxRecDepth 100000 in
set_option maxHeartbeats 0 in
theorem PySem.Challenge.cw_doorhouses_k00_errors_and_their_fields_holds : PySem.Challenge.rw_doorhouses_k00_errors_and_their_fields.Holds := by
  w_on; o_law; k_head; (case hw => w_witness2)
  k_fill
  refine Att.attach_callB (l := PySem.Challenge.rw_doorhouses_k00_errors_and_their_fields) rfl rfl fun w s0 st mg bm fa o pm cd doc a us is G Y _ _ _ hmg scr whole short _ nog => ?_
  have KX := PySem.W.kIn_of Y
  refine Xk.go_law KX G.T.g G.T.b G.T.builtins G.T.nolimit nog scr whole (by rw [sizeLine_eq]; omega) ?F
  case F =>
    intro base G1 seen enter
    refine Xk.asked ?all short seen enter
    refine' Xk.all_mk rfl (by rfl) KX G.T.g hmg ?aC0 ?sC0 ?rC0 ?eC0 ?iC0 ?lI0 ?cI0 ?lc0 ?lk0 ?hv0 ?b0 ?n0 ?aC1 ?sC1 ?rC1 ?eC1 ?iC1 ?lI1 ?cI1 ?lc1 ?lk1 ?hv1 ?b1 ?n1 ?aC2 ?sC2 ?rC2 ?eC2 ?iC2 ?lI2 ?cI2 ?lc2 ?lk2 ?hv2 ?b2 ?n2 ?aC3 ?sC3 ?rC3 ?eC3 ?iC3 ?lI3 ?cI3 ?lc3 ?lk3 ?hv3 ?b3 ?n3 ?aC4 ?sC4 ?rC4 ?eC4 ?iC4 ?lI4 ?cI4 ?lc4 ?lk4 ?hv4 ?b4 ?n4 ?aC5 ?sC5 ?rC5 ?eC5 ?iC5 ?lI5 ?cI5 ?lc5 ?lk5 ?hv5 ?b5 ?n5 ?aC6 ?sC6 ?rC6 ?eC6 ?iC6 ?lI6 ?cI6 ?lc6 ?lk6 ?hv6 ?b6 ?aC7 ?sC7 ?rC7 ?eC7 ?iC7 ?lI7 ?cI7 ?lc7 ?lk7 ?hv7 ?b7 ?aC8 ?sC8 ?rC8 ?eC8 ?iC8 ?lI8 ?cI8 ?lc8 ?lk8 ?hv8 ?b8 ?aC9 ?sC9 ?rC9 ?eC9 ?iC9 ?lI9 ?cI9 ?lc9 ?lk9 ?hv9 ?b9 ?aC10 ?sC10 ?rC10 ?eC10 ?iC10 ?lI10 ?cI10 ?lc10 ?lk10 ?hv10 ?b10 ?aC11 ?sC11 ?rC11 ?eC11 ?iC11 ?lI11 ?cI11 ?lc11 ?lk11 ?hv11 ?b11 ?aC12 ?sC12 ?rC12 ?eC12 ?iC12 ?lI12 ?cI12 ?lc12 ?lk12 ?hv12 ?b12 ?aC13 ?sC13 ?rC13 ?eC13 ?iC13 ?lI13 ?cI13 ?lc13 ?lk13 ?hv13 ?b13 ?aC14 ?sC14 ?rC14 ?eC14 ?iC14 ?lI14 ?cI14 ?lc14 ?lk14 ?hv14 ?b14 ?aC15 ?sC15 ?rC15 ?eC15 ?iC15 ?lI15 ?cI15 ?lc15 ?lk15 ?hv15 ?b15 ?aC16 ?sC16 ?rC16 ?eC16 ?iC16 ?lI16 ?cI16 ?lc16 ?lk16 ?hv16 ?b16 ?aC17 ?sC17 ?rC17 ?eC17 ?iC17 ?lI17 ?cI17 ?lc17 ?lk17 ?hv17 ?b17 ?aC18 ?sC18 ?rC18 ?eC18 ?iC18 ?lI18 ?cI18 ?lc18 ?lk18 ?hv18 ?b18 ?aC19 ?sC19 ?rC19 ?eC19 ?iC19 ?lI19 ?cI19 ?lc19 ?lk19 ?hv19 ?b19 ?aD ?sD_ ?rD_ ?eD ?xD ?kB ?kD ?xB ?aH_ ?lH_ ?cH_ ?kH_ ?aD_ ?lD_ ?cD_ ?kD_ ?aS_ ?lS_ ?cS_ ?kS_ ?aT_ ?lT_ ?cT_ ?kT_ ?aA_ ?lA_ ?cA_ ?kA_ ?aM_ ?lM_ ?cM_ ?kM_ ?aR_ ?lR_ ?cR_ ?kR_ ?aC_ ?lC_ ?cC_ ?kC_ ?aB_ ?lB_ ?cB_ ?kB_ ?aL_ ?lL_ ?cL_ ?kL_ ?z_len ?z_int ?z_abs ?z_range ?z_isinstance ?z_repr ?z_any ?z_enumerate ?z_ValueError ?z_KeyError ?z_IndexError ?z_ArithmeticError ?z_TypeError ?z_RuntimeError ?z_super
    (case aC0 => k_is)
    (case sC0 => k_is)
    (case rC0 => first | rfl | decide +kernel)
    (case eC0 => kernel_rfl)
    (case iC0 => k_is)
    (case lI0 => k_is)
    (case cI0 => k_is)
    (case lc0 => k_is)
    (case lk0 => k_is)
    (case hv0 => rfl)
    (case b0 => kernel_rfl)
    (case n0 => k_is)
    (case aC1 => k_is)
    (case sC1 => k_is)
    (case rC1 => first | rfl | decide +kernel)
    (case eC1 => kernel_rfl)
    (case iC1 => k_is)
    (case lI1 => k_is)
    (case cI1 => k_is)
    (case lc1 => k_is)
    (case lk1 => k_is)
    (case hv1 => rfl)
    (case b1 => kernel_rfl)
    (case n1 => k_is)
    (case aC2 => k_is)
    (case sC2 => k_is)
    (case rC2 => first | rfl | decide +kernel)
    (case eC2 => kernel_rfl)
    (case iC2 => k_is)
    (case lI2 => k_is)
    (case cI2 => k_is)
    (case lc2 => k_is)
    (case lk2 => k_is)
    (case hv2 => rfl)
    (case b2 => kernel_rfl)
    (case n2 => k_is)
    (case aC3 => k_is)
    (case sC3 => k_is)
    (case rC3 => first | rfl | decide +kernel)
    (case eC3 => kernel_rfl)
    (case iC3 => k_is)
    (case lI3 => k_is)
    (case cI3 => k_is)
    (case lc3 => k_is)
    (case lk3 => k_is)
    (case hv3 => rfl)
    (case b3 => kernel_rfl)
    (case n3 => k_is)
    (case aC4 => k_is)
    (case sC4 => k_is)
    (case rC4 => first | rfl | decide +kernel)
    (case eC4 => kernel_rfl)
    (case iC4 => k_is)
    (case lI4 => k_is)
    (case cI4 => k_is)
    (case lc4 => k_is)
    (case lk4 => k_is)
    (case hv4 => rfl)
    (case b4 => kernel_rfl)
    (case n4 => k_is)
    (case aC5 => k_is)
    (case sC5 => k_is)
    (case rC5 => first | rfl | decide +kernel)
    (case eC5 => kernel_rfl)
    (case iC5 => k_is)
    (case lI5 => k_is)
    (case cI5 => k_is)
    (case lc5 => k_is)
    (case lk5 => k_is)
    (case hv5 => rfl)
    (case b5 => kernel_rfl)
    (case n5 => k_is)
    (case aC6 => k_is)
    (case sC6 => k_is)
    (case rC6 => first | rfl | decide +kernel)
    (case eC6 => kernel_rfl)
    (case iC6 => k_is)
    (case lI6 => k_is)
    (case cI6 => k_is)
    (case lc6 => k_is)
    (case lk6 => k_is)
    (case hv6 => rfl)
    (case b6 => kernel_rfl)
    (case aC7 => k_is)
    (case sC7 => k_is)
    (case rC7 => first | rfl | decide +kernel)
    (case eC7 => kernel_rfl)
    (case iC7 => k_is)
    (case lI7 => k_is)
    (case cI7 => k_is)
    (case lc7 => k_is)
    (case lk7 => k_is)
    (case hv7 => rfl)
    (case b7 => kernel_rfl)
    (case aC8 => k_is)
    (case sC8 => k_is)
    (case rC8 => first | rfl | decide +kernel)
    (case eC8 => kernel_rfl)
    (case iC8 => k_is)
    (case lI8 => k_is)
    (case cI8 => k_is)
    (case lc8 => k_is)
    (case lk8 => k_is)
    (case hv8 => rfl)
    (case b8 => kernel_rfl)
    (case aC9 => k_is)
    (case sC9 => k_is)
    (case rC9 => first | rfl | decide +kernel)
    (case eC9 => kernel_rfl)
    (case iC9 => k_is)
    (case lI9 => k_is)
    (case cI9 => k_is)
    (case lc9 => k_is)
    (case lk9 => k_is)
    (case hv9 => rfl)
    (case b9 => kernel_rfl)
    (case aC10 => k_is)
    (case sC10 => k_is)
    (case rC10 => first | rfl | decide +kernel)
    (case eC10 => kernel_rfl)
    (case iC10 => k_is)
    (case lI10 => k_is)
    (case cI10 => k_is)
    (case lc10 => k_is)
    (case lk10 => k_is)
    (case hv10 => rfl)
    (case b10 => kernel_rfl)
    (case aC11 => k_is)
    (case sC11 => k_is)
    (case rC11 => first | rfl | decide +kernel)
    (case eC11 => kernel_rfl)
    (case iC11 => k_is)
    (case lI11 => k_is)
    (case cI11 => k_is)
    (case lc11 => k_is)
    (case lk11 => k_is)
    (case hv11 => rfl)
    (case b11 => kernel_rfl)
    (case aC12 => k_is)
    (case sC12 => k_is)
    (case rC12 => first | rfl | decide +kernel)
    (case eC12 => kernel_rfl)
    (case iC12 => k_is)
    (case lI12 => k_is)
    (case cI12 => k_is)
    (case lc12 => k_is)
    (case lk12 => k_is)
    (case hv12 => rfl)
    (case b12 => kernel_rfl)
    (case aC13 => k_is)
    (case sC13 => k_is)
    (case rC13 => first | rfl | decide +kernel)
    (case eC13 => kernel_rfl)
    (case iC13 => k_is)
    (case lI13 => k_is)
    (case cI13 => k_is)
    (case lc13 => k_is)
    (case lk13 => k_is)
    (case hv13 => rfl)
    (case b13 => kernel_rfl)
    (case aC14 => k_is)
    (case sC14 => k_is)
    (case rC14 => first | rfl | decide +kernel)
    (case eC14 => kernel_rfl)
    (case iC14 => k_is)
    (case lI14 => k_is)
    (case cI14 => k_is)
    (case lc14 => k_is)
    (case lk14 => k_is)
    (case hv14 => rfl)
    (case b14 => kernel_rfl)
    (case aC15 => k_is)
    (case sC15 => k_is)
    (case rC15 => first | rfl | decide +kernel)
    (case eC15 => kernel_rfl)
    (case iC15 => k_is)
    (case lI15 => k_is)
    (case cI15 => k_is)
    (case lc15 => k_is)
    (case lk15 => k_is)
    (case hv15 => rfl)
    (case b15 => kernel_rfl)
    (case aC16 => k_is)
    (case sC16 => k_is)
    (case rC16 => first | rfl | decide +kernel)
    (case eC16 => kernel_rfl)
    (case iC16 => k_is)
    (case lI16 => k_is)
    (case cI16 => k_is)
    (case lc16 => k_is)
    (case lk16 => k_is)
    (case hv16 => rfl)
    (case b16 => kernel_rfl)
    (case aC17 => k_is)
    (case sC17 => k_is)
    (case rC17 => first | rfl | decide +kernel)
    (case eC17 => kernel_rfl)
    (case iC17 => k_is)
    (case lI17 => k_is)
    (case cI17 => k_is)
    (case lc17 => k_is)
    (case lk17 => k_is)
    (case hv17 => rfl)
    (case b17 => kernel_rfl)
    (case aC18 => k_is)
    (case sC18 => k_is)
    (case rC18 => first | rfl | decide +kernel)
    (case eC18 => kernel_rfl)
    (case iC18 => k_is)
    (case lI18 => k_is)
    (case cI18 => k_is)
    (case lc18 => k_is)
    (case lk18 => k_is)
    (case hv18 => rfl)
    (case b18 => kernel_rfl)
    (case aC19 => k_is)
    (case sC19 => k_is)
    (case rC19 => first | rfl | decide +kernel)
    (case eC19 => kernel_rfl)
    (case iC19 => k_is)
    (case lI19 => k_is)
    (case cI19 => k_is)
    (case lc19 => k_is)
    (case lk19 => k_is)
    (case hv19 => rfl)
    (case b19 => kernel_rfl)
    (case aD => k_is)
    (case sD_ => k_is)
    (case rD_ => first | rfl | decide +kernel)
    (case eD => kernel_rfl)
    (case xD => first | k_exc | k_is)
    (case kB => kernel_rfl)
    (case kD => kernel_rfl)
    (case xB => kernel_rfl)
    (case aH_ => k_is)
    (case lH_ => k_is)
    (case cH_ => k_is)
    (case kH_ => k_is)
    (case aD_ => k_is)
    (case lD_ => k_is)
    (case cD_ => k_is)
    (case kD_ => k_is)
    (case aS_ => k_is)
    (case lS_ => k_is)
    (case cS_ => k_is)
    (case kS_ => k_is)
    (case aT_ => k_is)
    (case lT_ => k_is)
    (case cT_ => k_is)
    (case kT_ => k_is)
    (case aA_ => k_is)
    (case lA_ => k_is)
    (case cA_ => k_is)
    (case kA_ => k_is)
    (case aM_ => k_is)
    (case lM_ => k_is)
    (case cM_ => k_is)
    (case kM_ => k_is)
    (case aR_ => k_is)
    (case lR_ => k_is)
    (case cR_ => k_is)
    (case kR_ => k_is)
    (case aC_ => k_is)
    (case lC_ => k_is)
    (case cC_ => k_is)
    (case kC_ => k_is)
    (case aB_ => k_is)
    (case lB_ => k_is)
    (case cB_ => k_is)
    (case kB_ => k_is)
    (case aL_ => k_is)
    (case lL_ => k_is)
    (case cL_ => k_is)
    (case kL_ => k_is)
    (case z_len => k_is)
    (case z_int => k_is)
    (case z_abs => k_is)
    (case z_range => k_is)
    (case z_isinstance => k_is)
    (case z_repr => k_is)
    (case z_any => k_is)
    (case z_enumerate => k_is)
    (case z_ValueError => k_is)
    (case z_KeyError => k_is)
    (case z_IndexError => k_is)
    (case z_ArithmeticError => k_is)
    (case z_TypeError => k_is)
    (case z_RuntimeError => k_is)
    (case z_super => k_is)

#print axioms PySem.Challenge.cw_doorhouses_k00_errors_and_their_fields_holds
