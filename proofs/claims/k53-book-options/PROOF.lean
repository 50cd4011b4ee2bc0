import PyProof.Rows.All
import Wide.All
import OpenK.AllK
import Wide.FinOn
import KE.KExcSuper
import KE.KExcPX
import KE.KExcIs
import HandS.ForMost
import HandS.Exc
import HandS.TryOnly
import HandS.ExcOwn
import HandS.WordsExc
import HandS.Defaults
import HandS.HeadHook1
import HandS.HeadHook2
import HandS.MakeKwOnly
import HandS.ExcIs
import HandS.Head0
import HandS.Head1
import HandS.Head2
import HandS.HeadEnd
import PySem.Challenge.RW_lanesdealt_k53_any_options_of_a_book
set_option Elab.async false
set_option linter.all false
set_option maxRecDepth 100000
set_option maxHeartbeats 2000000
namespace Er
open PySem PySem.W PySem.Calls PyProof.Rows

/-- what the written part tells of an error's class at C, made by the def at fI -/
structure Cl (P : Program) (K : Frag) (C fI cc cda : Addr) (msg : Str) (fs : List Str) : Prop where
  cls : ∃ nm q N bs bm sn sub ab col dd k0 k1 k2 k3 k5, K.lookup C = some (excClassObj nm q C N bs bm true sn sub ab col dd k0 k1 k2 k3 k5 "ValueError.__new__") ∧ PX.refsVE bm = true
  sa : findIn K (.ref C) "__setattr__" = some (some (.builtin "object.__setattr__"))
  noN : ∀ f ∈ fs, findIn K (.ref C) f = some none
  iC : findIn K (.ref C) "__init__" = some (some (.ref fI))
  tC : typeIn K (.ref fI) = some (.type "function")
  sup : ks_superIn K C C "__init__" = some (some (.builtin "ValueError.__init__"))
  ve : subIn K (.ref C) (.type "ValueError") = some true
  own : mroIn K C (.ref C) = some true
  third : nsIn K cStatics "thirdparty.any" = some none
  cell : ∃ cl cld csl, K.lookup cc = some ⟨cl, cld, .cell (some (.ref C)), csl⟩
  code : ∃ ccl cdd vs ccs file tf, K.lookup cda = some ⟨ccl, cdd, .fields vs, ccs⟩ ∧ vs[2]? = some (.str file tf) ∧ ((P.main.file : Str) == file) = true
  top : (P.main.scope.names.lookup ("super" : Str)).isSome = false

def args1 (f : Str) (p0 p1 : Pos) : Arguments := { posonlyargs := [], args := [{ arg := "self", annotation := none, pos := p0 }, { arg := f, annotation := none, pos := p1 }], vararg := none, kwonlyargs := [], kw_defaults := [], kwarg := none, defaults := [] }
def args2 (f g : Str) (p0 p1 p2 : Pos) : Arguments := { posonlyargs := [], args := [{ arg := "self", annotation := none, pos := p0 }, { arg := f, annotation := none, pos := p1 }, { arg := g, annotation := none, pos := p2 }], vararg := none, kwonlyargs := [], kw_defaults := [], kwarg := none, defaults := [] }
def supS (msg : Str) (p0 p1 p2 p3 p4 p5 : Pos) : Stmt := .Expr (.Call (.Attribute (.Call (.Name "super" p0) [] [] p1) "__init__" p2) [.Constant (.str msg) 0 p3] [] p4) p5
def putS (f : Str) (q1 q2 q3 q4 : Pos) : Stmt := .Assign [.Attribute (.Name "self" q1) f q2] (.Name f q3) q4
def sc1 (f : Str) (more : List (Str × Const)) : Scope := { kind := .function, names := [("self", .local), (f, .local), ("__class__", .free), ("super", .globalImplicit)], isGenerator := false, isCoroutine := false, more := more }
def sc2 (f g : Str) (more : List (Str × Const)) : Scope := { kind := .function, names := [("self", .local), (f, .local), (g, .local), ("__class__", .free), ("super", .globalImplicit)], isGenerator := false, isCoroutine := false, more := more }

section
variable {P : Program} {w : World} {A : Around} {E : Value → Shared → Prop} {K : Frag} {C fI cc cda : Addr} {msg : Str} {fs : List Str}

/-- ValueError.__init__ bound to the new error, called -/
theorem call_mw {h : Heap} {g : Array GenState} {d : Drawn} {t : Nat} {os : OsState} (T : Cl P K C fI cc cda msg fs) (X : K.In h) {u e t0 : Addr} {rest : List Value} {Q : Value → Shared → Prop}
    (he : h.get? e = some (PX.excO C t0)) (hu : h.get? u = some (kxs_mw "ValueError.__init__" e)) (hrest : rest.length ≤ sizeLine)
    (hq : ∀ h' t1, (∀ b o, b ≠ e → h.get? b = some o → h'.get? b = some o) → h'.get? e = some (PX.excO C t1) → Q .none ⟨h', g, d, t, os⟩) :
    wpAny (model P w) A (call (.ref u) rest) Q E ⟨h, g, d, t, os⟩ := by
  obtain ⟨nm, q, N, bs, bm, sn, sub, ab, col, dd, k0, k1, k2, k3, k5, hC, hbm⟩ := T.cls
  have hC' := X _ _ hC
  refine wpAny_call (codeAny_of_tree ?_)
  show wpAny _ A.in1 (callAny (.ref u) ⟨rest, []⟩) _ _ _
  simp only [callAny]
  refine wpAny_bind (wpAny_load hu ?_)
  simp only [kxs_mw, show (Value.type "method-wrapper" == Value.type "method" || Value.type "method-wrapper" == Value.type "builtin_function_or_method" || Value.type "method-wrapper" == Value.type "method-wrapper") = true by decide, if_true]
  refine KFB.if_so (by decide) ?_
  refine wpAny_bind (check_bound_init F.excBase_ValueError.toExcCallFacts hC' he rfl ?_)
  refine wpAny_bind (wpAny_pure (wpAny_pure ?_))
  refine ⟨plainId_quiet F.excBase_ValueError.init.plain _, codeAny_builtin F.excBase_ValueError.initEntry ?_⟩
  rw [Around.under_plainId F.excBase_ValueError.init.plain _]
  wp_walk
  refine hq _ h.objs.size (fun b o hb ho => ?_) ?_
  · rw [Heap.get?_update_other _ _ (Ne.symm hb)]
    exact Heap.get?_push_of_some _ ho
  · rw [Heap.get?_update_self _ (Heap.get?_push_of_some _ he) rfl]
    rfl

/-- the first statement of an error's __init__ -/
theorem sup_stmt {s : Shared} {mb mg : Str → Option Value} {m : Str → Option Value} {body : List Stmt} {fd : FuncData} {ar : Arg} {of : Obj} {L x t0 : Addr} {p0 p1 p2 p3 p4 p5 : Pos} {Q : Flow → Shared → Prop}
    (T : Cl P K C fI cc cda msg fs) (X : K.In s.heap) (hglob : s.heap.Ns mainGlobals mg) (hsup : mg "super" = none) (hblt : s.heap.Ns builtinsNs mb) (hb : ∀ x : Str, x ≠ "__name__" → mb x = bootBuiltins x)
    (hx : s.heap.get? x = some (PX.excO C t0)) (hns : s.heap.Ns L m) (hself : m "self" = some (.ref x)) (hof : s.heap.get? fI = some of) (hfd : of.data = .func fd)
    (hpar : (fd.params.posonlyargs ++ fd.params.args).head? = some ar) (har : ar.arg = "self") (hk : fd.scope.kind = .function) (hgl : fd.globals = mainGlobals) (hbl : fd.builtins = builtinsNs)
    (hclo : fd.closure = [(("__class__" : Str), cc)]) (hcd : fd.code = .ref cda) (k1 : fd.scope.names.lookup ("super" : Str) = some .globalImplicit) (k2 : fd.scope.names.lookup ("__class__" : Str) = some .free) (k3 : fd.scope.names.lookup ("self" : Str) = some .local)
    {pl : Sem Bool} (he : eval (.Call (.Attribute (.Call (.Name "super" p0) [] [] p1) "__init__" p2) [.Constant (.str msg) 0 p3] [] p4) (callEnv fd L fI) = (do
      let ov ← attributeBase (.Call (.Name "super" p0) [] [] p1) "__init__" (callEnv fd L fI) (eval (.Call (.Name "super" p0) [] [] p1) (callEnv fd L fI))
      standAt p2.atName
      let (f, first) ← holding [ov] (getMethod ov "__init__" pl)
      callWith p4 f first (backTo p4 (starEach [.Constant (.str msg) 0 p3] (callEnv fd L fI))) []))
    (hi : interactive (callEnv fd L fI) = false) (hs : swapsWith (.Call (.Attribute (.Call (.Name "super" p0) [] [] p1) "__init__" p2) [.Constant (.str msg) 0 p3] [] p4) none p5.line (callEnv fd L fI) = pure false)
    (hq : ∀ h' tk t1, (∀ b o, b ≠ x → s.heap.get? b = some o → h'.get? b = some o) → h'.get? x = some (PX.excO C t1) → Q .next { s with heap := h', toks := tk }) :
    PySem.wpAt (model P w) A (.func body (callEnv fd L fI)) (exec (supS msg p0 p1 p2 p3 p4 p5) (callEnv fd L fI)) Q E s := by
  obtain ⟨nm, q, N, bs, bm, sn, sub, ab, col, dd, e0, e1, e2, e3, e5, hC, hbm⟩ := T.cls
  obtain ⟨cl, cld, csl, hcell⟩ := T.cell
  obtain ⟨ccl, cdd, vs, ccs, file, tf, hcode, hvs, hfile⟩ := T.code
  obtain ⟨fn, fq, fp, fb, fs', fg, fcl, fdf, fkd, fdoc, fpm, fan, fco, fct, fbu⟩ := fd
  dsimp only at hpar hk hgl hbl hclo hcd k1 k2 k3
  subst hgl hbl hclo hcd
  obtain ⟨hh, g, d, t, os⟩ := s
  have hC' := X _ _ hC
  have xne : x ≠ C := fun z => by
    have e := X _ _ hC
    rw [← z] at e
    have q := hx.symm.trans e
    cases q
  have hI : Looks (model P w) hh (isInstance (.ref x) (.type "ValueError")) true := (InstAt.type (M := model P w) (⟨hx, rfl, rfl, trivial⟩ : InstAt hh x (PX.excO C t0) C none)).andThen (looks_subIn X T.ve)
  have hclsC : clsIn K C = some { name := nm, bases := bs, mro := .ref C :: bm, ns := N, qualname := q, hasDict := true, slotNames := sn, subclasses := sub, abstract := ab, collection := col, hasDel := false } := by unfold clsIn; rw [hC] <;> rfl
  refine ks_wpAt_Expr_any (ks_wpAt_MethodCall (pl := pl) ?_ he) hi hs
  refine ks_wpAt_super_base (f := fI) (cc := cda) (ar := ar) k1 k2 rfl rfl hof hfd hpar rfl (X _ _ hcode) rfl hvs hfile T.top ?_
  refine ks_loadName_global hk k1 (loadGlobal_builtin hglob hsup hblt ((hb _ (by decide +kernel)).trans (by decide +kernel)) ⟨rfl, ?_⟩)
  refine wpAny_loadName_free hk k2 rfl ⟨_, X _ _ hcell, rfl⟩ ?_
  rw [har]
  refine wpAny_loadName_local hk k3 hns hself ?_
  refine ks_wpAny_isType_cls hC' rfl ⟨rfl, ?_⟩
  refine ks_wpAny_call_super hC' rfl hx rfl (fun c e => by cases e) (looks_mroIn X T.own) (fun h' e k => ?_)
  have X1 : K.In h' := fun a o z => k _ _ (X a o z)
  refine kxs_getMethod kxs_ValueError e (looks_opaque X1 T.third) (l₀ := .ref C :: bm) (fun A Q E s k q => wpAny_bind ((looks_clsIn X1 hclsC) A _ E s k (wpAny_pure q))) rfl X1 ?_ (hI.keeps k) xne rfl ?_
  · have z := T.sup
    unfold ks_superIn at z
    rw [hclsC] at z
    exact z
  refine kxs_callWith (i := "ValueError.__init__") (x := x) (by rfl) ?_
  refine evalArgs_plain ?_
  refine Calls.spliced_cons (Calls.Constant_str (k := 0) (pos := p3) ?_)
  refine Calls.spliced_nil ⟨Heap.get?_push_at rfl rfl, ?_⟩
  have e3 : (h'.push (kxs_mw "ValueError.__init__" x)).get? x = some (PX.excO C t0) := Heap.get?_push_of_some _ (k _ _ hx)
  refine call_mw T (fun a o z => Heap.get?_push_of_some _ (X1 a o z)) e3 (Heap.get?_push_at rfl rfl) (by show 1 ≤ sizeLine; rw [sizeLine_eq]; decide) (fun h'' t1 k' e' => ?_)
  exact hq h'' _ t1 (fun b o hb eb => k' b o hb (Heap.get?_push_of_some _ (k b o eb))) e'

/-- what the written part tells of its __init__ -/
structure Fn (P : Program) (K : Frag) (fI cc cda : Addr) (q : Str) (params : Arguments) (body : List Stmt) (scope : Scope) : Prop where
  fn : ∃ oc od osl nm kd doc pm an ct, K.lookup fI = some ⟨oc, od, .func ⟨nm, q, params, .stmts body, scope, mainGlobals, [(("__class__" : Str), cc)], .none, kd, doc, pm, an, .ref cda, ct, builtinsNs⟩, osl⟩
  code : codeIn K (.ref cda) q = true
/-- a made error -/
structure Made (h h' : Heap) (e C d : Addr) (m : Str → Option Value) : Prop where
  keep : ∀ b o, h.get? b = some o → h'.get? b = some o
  new : h.objs.size ≤ e
  obj : ∃ t, h'.get? e = some { cls := .ref C, dict := some d, data := .fields #[.ref t, .none, .none, .none, .bool false, .none] }
  dbig : h.objs.size ≤ d
  dne : d ≠ e
  ns : h'.Ns1 d m
theorem one_size (v : Value) : [v].length ≤ sizeLine := by
  rw [sizeLine_eq]
  exact (by decide : 1 ≤ 16777216)
theorem two_size (v u : Value) : [v, u].length ≤ sizeLine := by
  rw [sizeLine_eq]
  exact (by decide : 2 ≤ 16777216)
theorem ldE {M : Model} {s : Shared} {fd : FuncData} {L a : Addr} {m : Str → Option Value} {x : Str} {pos : Pos} {v : Value} {Q : Value → Shared → Prop} (hn : s.heap.Ns L m) (hv : m x = some v) (h : Q v s)
    (hk : fd.scope.kind = .function) (hl : (callEnv fd L a).kindOf x = some .local) (hd : (x == ("__debug__" : Str)) = false) : wpAny M A (eval (.Name x pos) (callEnv fd L a)) Q E s :=
  wpAny_Name (wpAny_loadName_local hk hl hn hv h) hd
theorem fresh_no {K : Frag} {h : Heap} (X : K.In h) {b : Addr} (hb : h.objs.size ≤ b) : K.lookup b = none := by
  cases e : K.lookup b with
  | none => rfl
  | some o => exact absurd (Nat.lt_of_lt_of_le (Heap.lt_size (X _ _ e)) hb) (Nat.lt_irrefl _)

abbrev mkFd (nm q : Str) (params : Arguments) (body : List Stmt) (scope : Scope) (cc cda : Addr) (kd doc pm : Value) (an : Option Addr) (ct : Value) : FuncData :=
  ⟨nm, q, params, .stmts body, scope, mainGlobals, [(("__class__" : Str), cc)], .none, kd, doc, pm, an, .ref cda, ct, builtinsNs⟩
/-- what is seen of the text itself, each by rfl -/
structure Sy (q : Str) (params : Arguments) (scope : Scope) (st : Stmt) (msg : Str) (fs : List Str) : Prop where
  first : ∃ ar, (params.posonlyargs ++ params.args).head? = some ar ∧ ar.arg = "self"
  kind : scope.kind = .function
  su : scope.names.lookup ("super" : Str) = some .globalImplicit
  cl : scope.names.lookup ("__class__" : Str) = some .free
  se : scope.names.lookup ("self" : Str) = some .local
  fl : ∀ f ∈ fs, scope.names.lookup f = some .local ∧ (f == ("__debug__" : Str)) = false ∧ f ≠ "self"
  nc : ∀ x ∈ scope.names, x.2 ≠ .cell
  co : scope.isCoroutine = false
  ge : scope.isGenerator = false
  nd : fs.Nodup
  bind : ∀ nm body cc cda kd doc pm an ct (u : Value) (vs : List Value), vs.length = fs.length → bindArgs (mkFd nm q params body scope cc cda kd doc pm an ct) ⟨u :: vs, []⟩ = pure ((("self" : Str), u) :: fs.zip vs)
  call : ∃ p0 p1 p2 p3 p4 p5, st = supS msg p0 p1 p2 p3 p4 p5 ∧ ∀ nm body cc cda kd doc pm an ct L fI, ∃ pl : Sem Bool,
    eval (.Call (.Attribute (.Call (.Name "super" p0) [] [] p1) "__init__" p2) [.Constant (.str msg) 0 p3] [] p4) (callEnv (mkFd nm q params body scope cc cda kd doc pm an ct) L fI) = (do
      let ov ← attributeBase (.Call (.Name "super" p0) [] [] p1) "__init__" (callEnv (mkFd nm q params body scope cc cda kd doc pm an ct) L fI) (eval (.Call (.Name "super" p0) [] [] p1) (callEnv (mkFd nm q params body scope cc cda kd doc pm an ct) L fI))
      standAt p2.atName
      let (f, first) ← holding [ov] (getMethod ov "__init__" pl)
      callWith p4 f first (backTo p4 (starEach [.Constant (.str msg) 0 p3] (callEnv (mkFd nm q params body scope cc cda kd doc pm an ct) L fI))) []) ∧
    interactive (callEnv (mkFd nm q params body scope cc cda kd doc pm an ct) L fI) = false ∧
    swapsWith (.Call (.Attribute (.Call (.Name "super" p0) [] [] p1) "__init__" p2) [.Constant (.str msg) 0 p3] [] p4) none p5.line (callEnv (mkFd nm q params body scope cc cda kd doc pm an ct) L fI) = pure false
/-- self.f = f -/
structure Pu (q : Str) (params : Arguments) (scope : Scope) (st : Stmt) (f : Str) : Prop where
  put : ∃ r1 r2 r3 r4, st = putS f r1 r2 r3 r4 ∧ ∀ nm body cc cda kd doc pm an ct L fI, swapsWith (.Name f r3) (some (.Attribute (.Name "self" r1) f r2)) r4.line (callEnv (mkFd nm q params body scope cc cda kd doc pm an ct) L fI) = pure false

section
variable {R : Result → Shared → Prop} {s : Shared} {mb mg : Str → Option Value} {f g q : Str}
/-- the stores behind the first statement: one field -/
theorem put_first {nm : Str} {params : Arguments} {scope : Scope} {body : List Stmt} {kd doc pm ct : Value} {an : Option Addr} {L x t0 : Addr} {m : Str → Option Value} {v : Value} {st st0 : Stmt} {E : Value → Shared → Prop} {Q : Flow → Shared → Prop}
    (T : Cl P K C fI cc cda msg fs) (S : Sy q params scope st0 msg fs) (hf : f ∈ fs) (U : Pu q params scope st f) (X : K.In s.heap) (hx : s.heap.get? x = some (PX.excO C t0)) (hns : s.heap.Ns L m) (hself : m "self" = some (.ref x)) (hv : m f = some v)
    (hq : ∀ h' tk d, (∀ b o, b ≠ x → s.heap.get? b = some o → h'.get? b = some o) → s.heap.objs.size ≤ d → d ≠ x → h'.get? x = some { cls := .ref C, dict := some d, data := .fields #[.ref t0, .none, .none, .none, .bool false, .none] } →
      h'.Ns1 d (fun y => if y = f then some v else none) → Q .next { s with heap := h', toks := tk }) :
    wpAny (model P w) A (exec st (callEnv (mkFd nm q params body scope cc cda kd doc pm an ct) L fI)) Q E s := by
  obtain ⟨r1, r2, r3, r4, rfl, hs⟩ := U.put
  obtain ⟨cnm, cq, N, bs, bm, sn, sub, ab, col, dd, e0, e1, e2, e3, e5, hC, hbm⟩ := T.cls
  have hcl : clsIn K C = some { name := cnm, bases := bs, mro := .ref C :: bm, ns := N, qualname := cq, hasDict := true, slotNames := sn, subclasses := sub, abstract := ab, collection := col, hasDel := false } := by unfold clsIn; rw [hC] <;> rfl
  refine plainObj_wpAny_Assign_Attribute ?_ (hs _ _ _ _ _ _ _ _ _ _ _)
  refine ldE hns hv ?_ S.kind (S.fl f hf).1 (S.fl f hf).2.1
  refine ldE hns hself ?_ S.kind S.se rfl
  refine set_plain X (ox := PX.excO C t0) (od := none) ⟨hx, rfl, rfl, trivial⟩ T.sa ?_
  exact PX.exc_osa X hx hcl (show PX.refsVE (.ref C :: bm) = true from hbm) rfl (T.noN f hf) (fun h₃ tk₃ dx k₃ dn dne hx₃ hn₃ => hq h₃ tk₃ dx k₃ dn dne hx₃ hn₃)
theorem put_next {nm : Str} {params : Arguments} {scope : Scope} {body : List Stmt} {kd doc pm ct : Value} {an : Option Addr} {L x t0 d0 : Addr} {m m0 : Str → Option Value} {nl : List Str} {v : Value} {st st0 : Stmt} {E : Value → Shared → Prop} {Q : Flow → Shared → Prop}
    (T : Cl P K C fI cc cda msg fs) (S : Sy q params scope st0 msg fs) (hf : f ∈ fs) (U : Pu q params scope st f) (X : K.In s.heap) (hx : s.heap.get? x = some { cls := .ref C, dict := some d0, data := .fields #[.ref t0, .none, .none, .none, .bool false, .none] })
    (hd0 : s.heap.Ns1 d0 m0) (hw : Within m0 nl) (hz : nl.length ≤ 1000) (hns : s.heap.Ns L m) (hself : m "self" = some (.ref x)) (hv : m f = some v)
    (hq : ∀ h' tk, (∀ b o, b ≠ d0 → s.heap.get? b = some o → h'.get? b = some o) → h'.Ns1 d0 (fun y => if y = f then some v else m0 y) → Q .next { s with heap := h', toks := tk }) :
    wpAny (model P w) A (exec st (callEnv (mkFd nm q params body scope cc cda kd doc pm an ct) L fI)) Q E s := by
  obtain ⟨r1, r2, r3, r4, rfl, hs⟩ := U.put
  obtain ⟨cnm, cq, N, bs, bm, sn, sub, ab, col, dd, e0, e1, e2, e3, e5, hC, hbm⟩ := T.cls
  have hcl : clsIn K C = some { name := cnm, bases := bs, mro := .ref C :: bm, ns := N, qualname := cq, hasDict := true, slotNames := sn, subclasses := sub, abstract := ab, collection := col, hasDel := false } := by unfold clsIn; rw [hC] <;> rfl
  obtain ⟨oD, _, _, hoD, _, _⟩ := hd0.count hw
  refine plainObj_wpAny_Assign_Attribute ?_ (hs _ _ _ _ _ _ _ _ _ _ _)
  refine ldE hns hv ?_ S.kind (S.fl f hf).1 (S.fl f hf).2.1
  refine ldE hns hself ?_ S.kind S.se rfl
  refine set_plain X (ox := { cls := .ref C, dict := some d0, data := .fields #[.ref t0, .none, .none, .none, .bool false, .none] }) (od := some oD) ⟨hx, rfl, rfl, hoD⟩ T.sa ?_
  exact PX.osa_old X hx hd0 hw hz hcl (show PX.refsVE (.ref C :: bm) = true from hbm) rfl (T.noN f hf) (fun h₃ tk₃ k₃ hn₃ => hq h₃ tk₃ k₃ hn₃)

/-- entering __init__, its first statement done -/
theorem init_in {nm : Str} {params : Arguments} {scope : Scope} {rest : List Stmt} {kd doc pm ct : Value} {an : Option Addr} {oc : Value} {od : Option Addr} {osl : Array (Option Value)} {x t0 : Addr} {vs : List Value} {st0 : Stmt}
    (T : Cl P K C fI cc cda msg fs) (S : Sy q params scope st0 msg fs) (X : K.In s.heap) (hlim : s.heap.NoLimit) (hglob : s.heap.Ns mainGlobals mg) (hsup : mg "super" = none) (hblt : s.heap.Ns builtinsNs mb) (hb : ∀ x : Str, x ≠ "__name__" → mb x = bootBuiltins x)
    (ho : K.lookup fI = some ⟨oc, od, .func (mkFd nm q params (st0 :: rest) scope cc cda kd doc pm an ct), osl⟩) (hcd : codeIn K (.ref cda) q = true)
    (hx : s.heap.get? x = some (PX.excO C t0)) (hnx : K.lookup x = none) (hroom : A.depth < recursionLimit) (hvs : vs.length = fs.length)
    (hq : ∀ h' tk t1 L (E1 : Value → Shared → Prop), (∀ b o, b ≠ x → s.heap.get? b = some o → h'.get? b = some o) → h'.get? x = some (PX.excO C t1) → s.heap.objs.size < h'.objs.size → s.heap.objs.size = L → x ≠ L → K.In h' → h'.Ns L (fun y => (((("self" : Str), Value.ref x) :: fs.zip vs).reverse).lookup y) →
      wpAny (model P w) (A.deeper (callEnv (mkFd nm q params (st0 :: rest) scope cc cda kd doc pm an ct) L fI)) (execs rest (callEnv (mkFd nm q params (st0 :: rest) scope cc cda kd doc pm an ct) L fI)) (fun f s' => R (.ok (.ret (match f with | .ret v => v | _ => .none))) s') E1 { s with heap := h', toks := tk }) :
    codeAny (model P w) A (.call (.ref fI) ⟨.ref x :: vs, []⟩) R s := by
  obtain ⟨ar, ha1, ha2⟩ := S.first
  obtain ⟨p0, p1, p2, p3, p4, p5, rfl, hcall⟩ := S.call
  have hxL : s.heap.objs.size ≠ x := Nat.ne_of_gt (Heap.lt_size hx)
  have hselfn : ("self" : Str) ∉ fs := fun z => (S.fl _ z).2.2 rfl
  refine ks_codeAny_call_defAt hroom (X _ _ ho) rfl hlim (codeRec_of X hcd) rfl (BindsTo.of_eq (S.bind _ _ _ _ _ _ _ _ _ _ _ hvs)) S.nc (fun y hy => ?_) (fun h₀ hn k => ?_) S.co S.ge S.kind
  · rcases List.mem_cons.mp hy with rfl | hy
    · exact S.se
    · exact (S.fl _ (List.of_mem_zip hy).1).1
  · have X0 : K.In h₀ := X.keeps k
    obtain ⟨pl, he, hi, hs⟩ := hcall nm (supS msg p0 p1 p2 p3 p4 p5 :: rest) cc cda kd doc pm an ct s.heap.objs.size fI
    have hself : (((("self" : Str), Value.ref x) :: fs.zip vs).reverse).lookup ("self" : Str) = some (Value.ref x) := by
      rw [List.reverse_cons]
      have q1 : ((fs.zip vs).reverse).lookup ("self" : Str) = none := by
        rw [List.lookup_eq_none_iff]
        intro p hp
        have hp' := (List.of_mem_zip (List.mem_reverse.mp hp)).1
        exact bne_iff_ne.mpr fun z => hselfn (by rw [z]; exact hp')
      rw [List.lookup_append, q1]
      simp [List.lookup]
    refine ks_wpAt_execs_cons ?_
    refine sup_stmt (P := P) T X0 (hglob.keeps k) hsup (hblt.keeps k) hb (k _ _ hx) hn hself (X0 _ _ ho) rfl ha1 ha2 S.kind rfl rfl rfl rfl S.su S.cl S.se he hi hs (fun h' tk t1 k' hx' => ?_)
    refine wpAt_of_wpAny ?_
    obtain ⟨oL, es, ep, hoL, hrL⟩ := id hn
    have hn' : h'.Ns s.heap.objs.size (fun y => (((("self" : Str), Value.ref x) :: fs.zip vs).reverse).lookup y) := ⟨oL, es, ep, k' _ _ hxL hoL, hrL⟩
    refine hq h' tk t1 _ _ (fun b o hb ob => k' b o hb (k b o ob)) hx' ?_ rfl (Ne.symm hxL) (fun a o e => ?_) hn'
    · exact hn'.lt
    · refine k' a o (fun z => ?_) (X0 a o e)
      rw [z, hnx] at e
      cases e

theorem plainIs {K : Frag} {h h' : Heap} {x : Addr} (X : K.In h) (hnx : K.lookup x = none) (k : ∀ b o, b ≠ x → h.get? b = some o → h'.get? b = some o) : K.In h' := fun a o e => by
  refine k a o (fun z => ?_) (X a o e)
  rw [z, hnx] at e
  cases e
theorem nsIs {h h' : Heap} {L x : Addr} {m : Str → Option Value} (hn : h.Ns L m) (hL : L ≠ x) (k : ∀ b o, b ≠ x → h.get? b = some o → h'.get? b = some o) : h'.Ns L m := by
  obtain ⟨oL, es, ep, hoL, hrL⟩ := hn
  exact ⟨oL, es, ep, k _ _ hL hoL, hrL⟩
theorem init1 {nm : Str} {params : Arguments} {scope : Scope} {kd doc pm ct : Value} {an : Option Addr} {oc : Value} {od : Option Addr} {osl : Array (Option Value)} {x t0 : Addr} {v : Value} {st0 st1 : Stmt}
    (T : Cl P K C fI cc cda msg [f]) (S : Sy q params scope st0 msg [f]) (U : Pu q params scope st1 f) (X : K.In s.heap) (hlim : s.heap.NoLimit) (hglob : s.heap.Ns mainGlobals mg) (hsup : mg "super" = none) (hblt : s.heap.Ns builtinsNs mb) (hb : ∀ x : Str, x ≠ "__name__" → mb x = bootBuiltins x)
    (ho : K.lookup fI = some ⟨oc, od, .func (mkFd nm q params [st0, st1] scope cc cda kd doc pm an ct), osl⟩) (hcd : codeIn K (.ref cda) q = true)
    (hx : s.heap.get? x = some (PX.excO C t0)) (hnx : K.lookup x = none) (hroom : A.depth < recursionLimit)
    (hq : ∀ h' tk d t1, (∀ b o, b ≠ x → s.heap.get? b = some o → h'.get? b = some o) → s.heap.objs.size ≤ d → d ≠ x → h'.get? x = some { cls := .ref C, dict := some d, data := .fields #[.ref t1, .none, .none, .none, .bool false, .none] } →
      h'.Ns1 d (fun y => if y = f then some v else none) → R (.ok (.ret .none)) { s with heap := h', toks := tk }) :
    codeAny (model P w) A (.call (.ref fI) ⟨[.ref x, v], []⟩) R s := by
  refine init_in T S X hlim hglob hsup hblt hb ho hcd hx hnx hroom rfl (fun h' tk t1 L E1 k hx' hsz hL hxL X' hn => ?_)
  have nf : f ≠ "self" := (S.fl f (by simp)).2.2
  have l1 : ((((("self" : Str), Value.ref x) :: [f].zip [v]).reverse).lookup ("self" : Str)) = some (Value.ref x) := by
    have z : (("self" : Str) == f) = false := by simpa using fun z => nf z.symm
    simp [List.lookup, z]
  have l2 : ((((("self" : Str), Value.ref x) :: [f].zip [v]).reverse).lookup f) = some v := by simp [List.lookup]
  refine wpAny_execs_cons (put_first (s := { s with heap := h', toks := tk }) T S (by simp) U X' hx' hn l1 l2 (fun h2 tk2 d k2 hd hdx hx2 hn2 => ?_))
  refine wpAny_execs_nil (hq h2 tk2 d t1 (fun b o hb e => k2 b o hb (k b o hb e)) (Nat.le_of_lt (Nat.lt_of_lt_of_le hsz hd)) hdx hx2 hn2)
theorem init2 {nm : Str} {params : Arguments} {scope : Scope} {kd doc pm ct : Value} {an : Option Addr} {oc : Value} {od : Option Addr} {osl : Array (Option Value)} {x t0 : Addr} {v u : Value} {st0 st1 st2 : Stmt}
    (T : Cl P K C fI cc cda msg [f, g]) (S : Sy q params scope st0 msg [f, g]) (U : Pu q params scope st1 f) (U2 : Pu q params scope st2 g) (X : K.In s.heap) (hlim : s.heap.NoLimit) (hglob : s.heap.Ns mainGlobals mg) (hsup : mg "super" = none) (hblt : s.heap.Ns builtinsNs mb) (hb : ∀ x : Str, x ≠ "__name__" → mb x = bootBuiltins x)
    (ho : K.lookup fI = some ⟨oc, od, .func (mkFd nm q params [st0, st1, st2] scope cc cda kd doc pm an ct), osl⟩) (hcd : codeIn K (.ref cda) q = true)
    (hx : s.heap.get? x = some (PX.excO C t0)) (hnx : K.lookup x = none) (hroom : A.depth < recursionLimit)
    (hq : ∀ h' tk d t1, (∀ b o, b ≠ x → s.heap.get? b = some o → h'.get? b = some o) → s.heap.objs.size ≤ d → d ≠ x → h'.get? x = some { cls := .ref C, dict := some d, data := .fields #[.ref t1, .none, .none, .none, .bool false, .none] } →
      h'.Ns1 d (fun y => if y = g then some u else if y = f then some v else none) → R (.ok (.ret .none)) { s with heap := h', toks := tk }) :
    codeAny (model P w) A (.call (.ref fI) ⟨[.ref x, v, u], []⟩) R s := by
  refine init_in T S X hlim hglob hsup hblt hb ho hcd hx hnx hroom rfl (fun h' tk t1 L E1 k hx' hsz hL hxL X' hn => ?_)
  have nf : f ≠ "self" := (S.fl f (by simp)).2.2
  have ng : g ≠ "self" := (S.fl g (by simp)).2.2
  have fg : f ≠ g := by
    have q := S.nd
    simpa using q
  have z1 : (("self" : Str) == f) = false := by simpa using fun z => nf z.symm
  have z2 : (("self" : Str) == g) = false := by simpa using fun z => ng z.symm
  have z3 : (f == g) = false := by simpa using fg
  have l1 : ((((("self" : Str), Value.ref x) :: [f, g].zip [v, u]).reverse).lookup ("self" : Str)) = some (Value.ref x) := by
    simp [List.lookup, z1, z2]
  have l2 : ((((("self" : Str), Value.ref x) :: [f, g].zip [v, u]).reverse).lookup f) = some v := by simp [List.lookup, z3]
  have l3 : ((((("self" : Str), Value.ref x) :: [f, g].zip [v, u]).reverse).lookup g) = some u := by simp [List.lookup]
  refine wpAny_execs_cons (put_first (s := { s with heap := h', toks := tk }) T S (by simp) U X' hx' hn l1 l2 (fun h2 tk2 d k2 hd hdx hx2 hn2 => ?_))
  have X2 := plainIs X' hnx k2
  have hnL := nsIs hn (Ne.symm hxL) k2
  have dL : d ≠ L := fun z => by
    rw [z, ← hL] at hd
    exact absurd (Nat.lt_of_lt_of_le hsz hd) (Nat.lt_irrefl _)
  refine wpAny_execs_cons (put_next (s := { s with heap := h2, toks := tk2 }) (nl := [f]) T S (by simp) U2 X2 hx2 hn2 (Within.cons f v Within.nil) (by show 1 ≤ 1000; decide) hnL l1 l3 (fun h3 tk3 k3 hn3 => ?_))
  refine wpAny_execs_nil (hq h3 tk3 d t1 (fun b o hb e => k3 b o (fun z => ?_) (k2 b o hb (k b o hb e))) (Nat.le_of_lt (Nat.lt_of_lt_of_le hsz hd)) hdx (k3 _ _ (Ne.symm hdx) hx2) hn3)
  have y := Heap.lt_size e
  rw [z] at y
  exact absurd (Nat.lt_of_lt_of_le (Nat.lt_trans y hsz) hd) (Nat.lt_irrefl _)

/-- an error's class as callers want it: its __init__ walked, from any new instance -/
structure Mkr (P : Program) (K : Frag) (mg : Str → Option Value) (C fI : Addr) (n : Nat) (m : List Value → Str → Option Value) : Prop where
  cls : ∃ nm q N bs bm sn sub ab col dd k0 k1 k2 k3 k5, K.lookup C = some (excClassObj nm q C N bs bm true sn sub ab col dd k0 k1 k2 k3 k5 "ValueError.__new__") ∧ PX.refsVE bm = true
  iC : findIn K (.ref C) "__init__" = some (some (.ref fI))
  tC : typeIn K (.ref fI) = some (.type "function")
  init : ∀ (w : World) (A : Around) (R : Result → Shared → Prop) (s : Shared) (mb : Str → Option Value) (x t0 : Addr) (vs : List Value), vs.length = n → K.In s.heap → s.heap.NoLimit → s.heap.Ns mainGlobals mg → s.heap.Ns builtinsNs mb → (∀ x : Str, x ≠ "__name__" → mb x = bootBuiltins x) →
    s.heap.get? x = some (PX.excO C t0) → K.lookup x = none → A.depth < recursionLimit →
    (∀ h' tk d t1, (∀ b o, b ≠ x → s.heap.get? b = some o → h'.get? b = some o) → s.heap.objs.size ≤ d → d ≠ x → h'.get? x = some { cls := .ref C, dict := some d, data := .fields #[.ref t1, .none, .none, .none, .bool false, .none] } →
      h'.Ns1 d (m vs) → R (.ok (.ret .none)) { s with heap := h', toks := tk }) →
    codeAny (model P w) A (.call (.ref fI) ⟨.ref x :: vs, []⟩) R s
theorem Mkr.of1 {nm : Str} {params : Arguments} {scope : Scope} {kd doc pm ct : Value} {an : Option Addr} {oc : Value} {od : Option Addr} {osl : Array (Option Value)} {st0 st1 : Stmt}
    (T : Cl P K C fI cc cda msg [f]) (S : Sy q params scope st0 msg [f]) (U : Pu q params scope st1 f) (hsup : mg "super" = none)
    (ho : K.lookup fI = some ⟨oc, od, .func (mkFd nm q params [st0, st1] scope cc cda kd doc pm an ct), osl⟩) (hcd : codeIn K (.ref cda) q = true) :
    Mkr P K mg C fI 1 (fun vs y => if y = f then some (vs.getD 0 .none) else none) where
  cls := T.cls
  iC := T.iC
  tC := T.tC
  init := fun w A R s mb x t0 vs hvs X hlim hg hb1 hb2 hx hnx hr hq => by
    obtain ⟨v, rfl⟩ : ∃ v, vs = [v] := List.length_eq_one_iff.mp hvs
    exact init1 T S U X hlim hg hsup hb1 hb2 ho hcd hx hnx hr hq
theorem Mkr.of2 {nm : Str} {params : Arguments} {scope : Scope} {kd doc pm ct : Value} {an : Option Addr} {oc : Value} {od : Option Addr} {osl : Array (Option Value)} {st0 st1 st2 : Stmt}
    (T : Cl P K C fI cc cda msg [f, g]) (S : Sy q params scope st0 msg [f, g]) (U : Pu q params scope st1 f) (U2 : Pu q params scope st2 g) (hsup : mg "super" = none)
    (ho : K.lookup fI = some ⟨oc, od, .func (mkFd nm q params [st0, st1, st2] scope cc cda kd doc pm an ct), osl⟩) (hcd : codeIn K (.ref cda) q = true) :
    Mkr P K mg C fI 2 (fun vs y => if y = g then some (vs.getD 1 .none) else if y = f then some (vs.getD 0 .none) else none) where
  cls := T.cls
  iC := T.iC
  tC := T.tC
  init := fun w A R s mb x t0 vs hvs X hlim hg hb1 hb2 hx hnx hr hq => by
    obtain ⟨v, u, rfl⟩ : ∃ v u, vs = [v, u] := match vs, hvs with | [v, u], _ => ⟨v, u, rfl⟩
    exact init2 T S U U2 X hlim hg hsup hb1 hb2 ho hcd hx hnx hr hq
theorem made {n : Nat} {m : List Value → Str → Option Value} {vs : List Value} (T : Mkr P K mg C fI n m) (hn : vs.length = n) (hsz : vs.length ≤ sizeLine) (X : K.In s.heap) (hlim : s.heap.NoLimit) (hglob : s.heap.Ns mainGlobals mg) (hblt : s.heap.Ns builtinsNs mb) (hb : ∀ x : Str, x ≠ "__name__" → mb x = bootBuiltins x)
    (hroom : A.depth + 1 < recursionLimit) (hq : ∀ h' tk e d, Made s.heap h' e C d (m vs) → R (.ok (.ret (.ref e))) { s with heap := h', toks := tk }) :
    codeAny (model P w) A (.call (.ref C) ⟨vs, []⟩) R s := by
  obtain ⟨nm, q, N, bs, bm, sn, sub, ab, col, dd, k0, k1, k2, k3, k5, hC, hbm⟩ := T.cls
  obtain ⟨hp, g, dr, tk, os⟩ := s
  have k : ∀ b o, hp.get? b = some o → ((hp.push (kdv_tup vs)).push (PX.excO C hp.objs.size)).get? b = some o := fun b o e => Heap.get?_push_of_some _ (Heap.get?_push_of_some _ e)
  have hget : ((hp.push (kdv_tup vs)).push (PX.excO C hp.objs.size)).get? (hp.objs.size + 1) = some (PX.excO C hp.objs.size) := by heap_get
  have hnx : K.lookup (hp.objs.size + 1) = none := fresh_no X (Nat.le_succ _)
  refine PX.call_own F.excBase_ValueError (fun z => PX.refsVE_contains z bm hbm) (X _ _ hC) (looks_findIn X T.iC) (fun self => bind_fn X self T.tC) hsz ?_
  refine T.init w _ _ ⟨(hp.push (kdv_tup vs)).push (PX.excO C hp.objs.size), g, dr, tk, os⟩ mb _ _ vs hn (X.keeps k) (hlim.keeps k) (hglob.keeps k) (hblt.keeps k) hb hget hnx (by show A.depth + 1 < recursionLimit; exact hroom) (fun h' tk' d t1 k' dn dne hx hns => ?_)
  have old : ∀ b o, hp.get? b = some o → h'.get? b = some o := fun b o e => k' b o (Nat.ne_of_lt (Nat.lt_succ_of_lt (Heap.lt_size e))) (k b o e)
  have z : hp.objs.size ≤ d := Nat.le_trans (by rw [Heap.size_push, Heap.size_push]; omega) dn
  exact ⟨rfl, hq h' tk' _ d ⟨old, Nat.le_succ _, ⟨t1, hx⟩, z, dne, hns⟩⟩
end
end
end Er

namespace L2
open PySem PySem.Spec PyProof.Rows
/-- what callers know of an error's class: the fields by name -/
structure Err (P : Program) (K : PySem.W.Frag) (mg : Str → Option Value) (x : Str) (C : Addr) (fs : List Str) : Prop where
  gC : mg x = some (.ref C)
  mkr : ∃ fI m, Er.Mkr P K mg C fI fs.length m ∧ ∀ vs us, vs.length = fs.length → Vals vs us → ∀ f, RelO ((fs.zip vs).lookup f) (m us f)
  kC : PySem.W.keepIn K (.ref C) = true
  ex : PySem.W.subIn K (.ref C) (.type "BaseException") = some true
  ty : PySem.W.typeIn K (.ref C) = some (.type "type")
  ga : PySem.W.findIn K (.ref C) "__getattribute__" = some (some (.builtin "BaseException.__getattribute__"))
  gg : PySem.W.findIn K (.ref C) "__getattr__" = some none
  hd : PySem.W.hasDictIn K C = true
  no : ∀ f ∈ fs, PySem.W.findIn K (.ref C) f = some none
  sz : fs.length ≤ 100
  kl : PySem.W.findIn K (.ref C) "__class__" = some (some (.builtin "object.__class__"))
  kg : PySem.W.specialIn K (.builtin "object.__class__") "__get__" = some (some (.builtin "getset_descriptor.__get__"))
  kt : PySem.W.takesIn K (.builtin "object.__class__") = some true
  ko : PySem.W.mroIn K C (.type "object") = some true
section
variable {X : Cx} {C : Addr} {x : Str} {fs : List Str}
/-- X(e, ..) -/
def tMkE (C : Addr) (fs : List Str) (ta : TA) : St → Hp → XK → Prop := fun σ H Q => ta σ H fun vs H1 => vs.length = fs.length ∧ ∀ d, H1 d = none → Q (.ref C) (some d) (upd H1 d (.xd (fs.zip vs)))
theorem pmk_err {a : Expr} {as : List Expr} {ta : TA} {p pos : Pos} {k : Nat} (T : Err X.prog X.K X.mg x C fs) (hr : Room k X.A) (ha : PA X (a :: as) ta) (hg : Gl X x := by rfl)
    (he : starEach (a :: as) X.env = (false, eval a X.env) :: starEach as X.env := by rfl) (hpl : (backTo pos (starEach as X.env)).any (·.1) = false := by rfl) (hdb : (x == ("__debug__" : Str)) = false := by decide) :
    PMk X (.Call (.Name x p) (a :: as) [] pos) (tMkE C fs ta) := by
  intro pins s σ H Q I h
  refine wpAny_Call_Name_kw (ld_glob I hg T.gC ?_ hdb)
  refine PySem.W.callWith_K (h₀ := X.base) I.ok.mod.kin T.kC (thn (ha.run pos pins s σ H _ I h) fun us s1 hh => ?_) he hpl
  obtain ⟨vs, H1, I1, r1, hlen, q1⟩ := hh
  refine ⟨I1.kIn, ?_⟩
  obtain ⟨fI, m, hM, hm⟩ := T.mkr
  show wpAny _ _ (call (.ref C) us) _ _ _
  have hul : us.length = fs.length := r1.length.symm.trans hlen
  obtain ⟨mb, hmb, hmb2⟩ := I1.mod.blt
  have hlim := I1.nolimit
  have hgl := I1.mod.glob.keeps I1.bk
  have hbl := hmb.keeps I1.bk
  obtain ⟨hp, g, dr, tk, os⟩ := s1
  refine wpAny_call (Er.made hM hul (by rw [hul, sizeLine_eq]; exact Nat.le_trans T.sz (by decide)) I1.kIn hlim hgl hbl hmb2 (by have := hr.dp; omega) fun h' tk' e d M => ?_)
  show MkP X pins σ Q (.ref e) ⟨h', g, dr, tk', os⟩
  obtain ⟨t1, hoe⟩ := M.obj
  have hns := M.ns
  obtain ⟨G', g1, g2⟩ := restrict h' fun b => decide (b ≠ e)
  have gk : ∀ b, b ≠ e → G'.get? b = h'.get? b := fun b hb => g1 b (decide_eq_true hb)
  have ge : G'.get? e = none := g2 e (by simp)
  have old : ∀ b o, hp.get? b = some o → G'.get? b = some o := fun b o q => (gk b (Nat.ne_of_lt (Nat.lt_of_lt_of_le (Heap.lt_size q) M.new))).trans (M.keep b o q)
  have ob : ObjOk X.prog X.w (upd H1 d (.xd (fs.zip vs))) G' d (.xd (fs.zip vs)) :=
    ⟨_, hns.at (fun o q => (gk d M.dne).trans q), fun f => hm vs us hlen r1 f⟩
  have J : Inv X pins σ (upd H1 d (.xd (fs.zip vs))) ⟨G', g, dr, tk', os⟩ := I1.laid (t' := tk') old M.dbig ob
  refine ⟨e, _, _, ⟨G', g, dr, tk', os⟩, _, .ref C, some d, rfl, J, fun b o q => ?_, ge, hoe, ⟨rfl, rfl⟩, rfl, rfl, ?_, rfl, I1.bare, raises_own T.ex T.ty, q1 d (I1.hok.fresh M.dbig)⟩
  · by_cases hb : b = e
    · have q' : G'.get? b = some o := q
      rw [hb, ge] at q'; cases q'
    · exact (gk b hb).symm.trans q
  · rw [upd_ne (Ne.symm M.dne)]
    exact I1.hok.fresh M.new
/-- raise X(e, ..) -/
def tRaiseE (C : Addr) (fs : List Str) (W : WX) (ta : TA) : TS := fun _ σ H => tMkE C fs ta σ H fun cls d H' => W cls d σ H'
theorem ps_raiseE {a : Expr} {as : List Expr} {ta : TA} {W : WX} {p pos pos2 : Pos} {k : Nat} (hc : X.calm = true) (T : Err X.prog X.K X.mg x C fs) (hr : Room k X.A) (tk : Takes X W) (ha : PA X (a :: as) ta) (hg : Gl X x := by rfl)
    (he : starEach (a :: as) X.env = (false, eval a X.env) :: starEach as X.env := by rfl) (hpl : (backTo pos (starEach as X.env)).any (·.1) = false := by rfl) (hdb : (x == ("__debug__" : Str)) = false := by decide) :
    PS X (.Raise (some (.Call (.Name x p) (a :: as) [] pos)) none pos2) (tRaiseE C fs W ta) := ps_raise hc tk (pmk_err T hr ha hg he hpl hdb)
/-- e.f, e the exception that the suite holds (at a; its class cls, its dict d) -/
def tByE (C : Addr) (f : Str) (a : Addr) (cls : Value) (d : Option Addr) (te : TE) : TE := fun σ H Q => te σ H fun x H1 => x = .ref a ∧ cls = .ref C ∧ ∃ (dd : Addr) (fs : List (Str × V)) (v : V), d = some dd ∧ H1 dd = some (.xd fs) ∧ fs.lookup f = some v ∧ Q v H1
theorem pe_byE {a : Addr} {oe : Obj} {cls : Value} {d : Option Addr} {pn : List (Addr × Obj)} {e : Expr} {te : TE} {pos : Pos} {f : Str} (T : Err X.prog X.K X.mg x C fs) (hf : f ∈ fs) (hz : Zc cls d oe) (hfl : ∃ vs, oe.data = .fields vs) (he : PE (X.suite a ((a, oe) :: pn)) e te)
    (hb : attributeBase e f X.env (eval e X.env) = eval e X.env := by rfl) :
    PE (X.suite a ((a, oe) :: pn)) (.Attribute e f pos) (tByE C f a cls d te) := by
  refine ⟨fun pins s σ H Q I h => ?_⟩
  refine attr_of hb (thn (he.run pins s σ H _ I h) fun u s1 hh => ?_)
  obtain ⟨x, H1, I1, rx, ex, ec, dd, fs, v, ed, ea, el, q⟩ := hh
  subst ex
  obtain rfl : u = Value.ref a := rx
  subst ec
  subst ed
  obtain ⟨ha, _⟩ := I1.pin (a, oe) (List.mem_append_left _ List.mem_cons_self)
  obtain ⟨vs, hd⟩ := hfl
  have hx : ObjOk X.prog X.w H1 s1.heap dd (.xd fs) := I1.hok dd _ ea
  obtain ⟨mA, hns, hr⟩ := hx
  obtain ⟨od, ho, hl⟩ := lookIn_ns hns
  obtain ⟨u, hu, ru⟩ := RelO.some_of (v := v) (o := mA f) (by rw [← el]; exact hr f)
  have J : PySem.W.InstAt s1.heap a oe C (some od) := ⟨ha, hz.1, by unfold PySem.W.notCls; rw [hd] <;> rfl, by rw [hz.2]; exact ho⟩
  exact HandSPX.exc_get I1.kIn J T.ga T.gg T.ex (PySem.W.findObj_own T.hd (T.no f hf) rfl (by rw [hl, hu])) (handed_of ru) ⟨v, H1, I1.tok _, ru, q⟩
/-- isinstance(e, c), e the exception that the suite holds -/
def rIsD (K : PySem.W.Frag) (D a : Addr) (cls : Value) (d : Option Addr) : List V → Hp → VK → Prop := fun xs H Q => ∃ (c : V) (cv : Value) (b : Bool) (dd : Addr) (fs : List (Str × V)), xs = [.ref a, c] ∧ (∀ u, RelV c u → u = cv) ∧ PySem.W.kitOne K (.ref D) cv = some b ∧ cls = .ref D ∧ d = some dd ∧ H dd = some (.xd fs) ∧ Q (.bl b) H
theorem call_isD {X : Cx} {a D : Addr} {cls : Value} {d : Option Addr} {x : Str} {fs : List Str} {oe : Obj} {pn : List (Addr × Obj)} (T : Err X.prog X.K X.mg x D fs) (hz : Zc cls d oe) (hf : ∃ vs, oe.data = .fields vs) : CallR (X.suite a ((a, oe) :: pn)) (.builtin "isinstance") (rIsD X.K D a cls d) := by
  intro pins s σ H xs us Q I r h
  obtain ⟨c, cv, b, dd, fl, rfl, hcv, e, rfl, rfl, hd, q⟩ := h
  cases r with
  | cons rx rr =>
    cases rr with
    | cons rt rr =>
      cases rr
      cases rx
      have ec := hcv _ rt
      subst ec
      obtain ⟨hget, _⟩ := I.pin (a, oe) (List.mem_append.mpr (.inl List.mem_cons_self))
      obtain ⟨vs, hv⟩ := hf
      have hx : ObjOk X.prog X.w H s.heap dd (.xd fl) := I.hok dd _ hd
      obtain ⟨mA, hns, hr⟩ := hx
      obtain ⟨od, ho, hl⟩ := lookIn_ns hns
      have J : PySem.W.InstAt s.heap a oe D (some od) := ⟨hget, hz.1, by unfold PySem.W.notCls; rw [hv] <;> rfl, by rw [hz.2]; exact ho⟩
      obtain ⟨cd, hc, _⟩ := PySem.W.any_some T.hd
      exact PySem.W.kia_one (PySem.W.kitx_exc (by rw [hc] <;> rfl) T.ga T.gg T.ex T.kl T.kg T.kt T.ko) I.kIn J e (fun z => nomatch z) fun tk => ⟨.bl b, H, I.kept (t' := tk) fun _ _ z => z, rfl, q⟩
end
end L2

namespace Er
open PySem PySem.W PySem.Calls PyProof.Rows L2
/-! ### an error's facts as one test of the written part -/
def clB (K : Frag) (C : Addr) : Bool := match K.lookup C with
  | some ⟨.type z, _, .cls cd, sl⟩ => decide (z = "type") && (match cd.mro, sl.toList with
    | .ref C' :: bm, [_, _, _, _, some (.builtin n), _] => decide (C' = C) && (decide (n = "ValueError.__new__") && (!cd.hasDel && (cd.hasDict && PX.refsVE bm)))
    | _, _ => false)
  | _ => false
theorem clB_ok {K : Frag} {C : Addr} (h : clB K C = true) : ∃ nm q N bs bm sn sub ab col dd k0 k1 k2 k3 k5, K.lookup C = some (excClassObj nm q C N bs bm true sn sub ab col dd k0 k1 k2 k3 k5 "ValueError.__new__") ∧ PX.refsVE bm = true := by
  unfold clB at h
  cases e : K.lookup C with
  | none => rw [e] at h; cases h
  | some o =>
    rw [e] at h
    obtain ⟨oc, od, dt, sl⟩ := o
    cases oc with
    | type z =>
      cases dt with
      | cls cd =>
        obtain ⟨nm, bs, mro, ns, qn, hd, sn, sub, ab, col, del⟩ := cd
        obtain ⟨l⟩ := sl
        obtain ⟨h0, h⟩ := He.ba h
        have h0' := of_decide_eq_true h0
        match mro, l, h with
        | .ref C' :: bm, [k0, k1, k2, k3, some (.builtin n), k5], h =>
          have hh : (decide (C' = C) && (decide (n = "ValueError.__new__") && (!del && (hd && PX.refsVE bm)))) = true := h
          obtain ⟨a1, hh⟩ := He.ba hh
          obtain ⟨a2, hh⟩ := He.ba hh
          obtain ⟨a3, hh⟩ := He.ba hh
          obtain ⟨a4, a5⟩ := He.ba hh
          have a1' := of_decide_eq_true a1
          have a2' := of_decide_eq_true a2
          have a3' : del = false := by simpa using a3
          have a4' : hd = true := a4
          subst a1' a2' a3' a4'
          exact ⟨nm, qn, ns, bs, bm, sn, sub, ab, col, od, k0, k1, k2, k3, k5, by rw [h0'], a5⟩
      | _ => cases h
    | _ => cases h
/-- the def's cell for its class and its code object -/
def ccOf (fd : FuncData) : Addr := match fd.closure with
  | [(_, c)] => c
  | _ => 0
def cdOf (fd : FuncData) : Addr := match fd.code with
  | .ref c => c
  | _ => 0
def cellB (K : Frag) (cc C : Addr) : Bool := match K.lookup cc with
  | some ⟨_, _, .cell (some (.ref D)), _⟩ => decide (D = C)
  | _ => false
def fileB (K : Frag) (cda : Addr) (file : Str) : Bool := match K.lookup cda with
  | some ⟨_, _, .fields vs, _⟩ => (match (vs[2]? : Option Value) with
    | some (.str z _) => file == z
    | _ => false)
  | _ => false
def noneB : Value → Bool
  | .none => true
  | _ => false
def refB : Value → Bool
  | .ref _ => true
  | _ => false
def fnB (K : Frag) (C fI : Addr) (file q : Str) : Bool := match K.lookup fI with
  | some ⟨_, _, .func fd, _⟩ => noneB fd.defaults && (refB fd.code && (codeIn K fd.code q && (cellB K (ccOf fd) C && fileB K (cdOf fd) file)))
  | _ => false
abbrev FnE : Type := Option (Str × Str × Arguments × FuncBody × Scope × Addr × List Str × Addr)
def fnE (K : Frag) (x : Str) : FnE := match K.lookup (He.ma K (He.ga K x) "__init__") with
  | some ⟨_, _, .func fd, _⟩ => some (fd.name, fd.qualname, fd.params, fd.body, fd.scope, fd.globals, fd.closure.map (·.1), fd.builtins)
  | _ => none
structure DE where
  x : Str
  qual : Str
  params : Arguments
  body : List Stmt
  scope : Scope
  fs : List Str
def DE.val (d : DE) : FnE := some ("__init__", d.qual, d.params, .stmts d.body, d.scope, mainGlobals, ["__class__"], builtinsNs)
def oo (a b : Option (Option Value)) : Bool := He.eqO a b
def bo (a : Option Bool) : Bool := decide (a = some true)
def DE.ok (P : Program) (K : Frag) (d : DE) : Bool :=
  oo (nsIn K mainGlobals d.x) (some (some (.ref (He.ga K d.x)))) && (clB K (He.ga K d.x) && (oo (findIn K (.ref (He.ga K d.x)) "__setattr__") (some (some (.builtin "object.__setattr__"))) &&
  ((d.fs.all fun f => oo (findIn K (.ref (He.ga K d.x)) f) (some none)) && (oo (findIn K (.ref (He.ga K d.x)) "__init__") (some (some (.ref (He.ma K (He.ga K d.x) "__init__")))) &&
  (decide (typeIn K (.ref (He.ma K (He.ga K d.x) "__init__")) = some (.type "function")) && (oo (ks_superIn K (He.ga K d.x) (He.ga K d.x) "__init__") (some (some (.builtin "ValueError.__init__"))) &&
  (bo (subIn K (.ref (He.ga K d.x)) (.type "ValueError")) && (bo (mroIn K (He.ga K d.x) (.ref (He.ga K d.x))) && (oo (nsIn K cStatics "thirdparty.any") (some none) &&
  (fnB K (He.ga K d.x) (He.ma K (He.ga K d.x) "__init__") P.main.file d.qual && (!(P.main.scope.names.lookup ("super" : Str)).isSome && (keepIn K (.ref (He.ga K d.x)) &&
  (bo (subIn K (.ref (He.ga K d.x)) (.type "BaseException")) && (decide (typeIn K (.ref (He.ga K d.x)) = some (.type "type")) && (oo (findIn K (.ref (He.ga K d.x)) "__getattribute__") (some (some (.builtin "BaseException.__getattribute__"))) &&
  (oo (findIn K (.ref (He.ga K d.x)) "__getattr__") (some none) && (hasDictIn K (He.ga K d.x) && (oo (nsIn K mainGlobals "super") (some none) && (oo (findIn K (.ref (He.ga K d.x)) "__class__") (some (some (.builtin "object.__class__"))) &&
  (oo (specialIn K (.builtin "object.__class__") "__get__") (some (some (.builtin "getset_descriptor.__get__"))) && (bo (takesIn K (.builtin "object.__class__")) && bo (mroIn K (He.ga K d.x) (.type "object")))))))))))))))))))))))

section
variable {P : Program} {K : Frag} {mg : Str → Option Value} {h : Heap}
theorem oo_ok {a b : Option (Option Value)} (h : oo a b = true) : a = b := He.eqO_ok h
theorem bo_ok {a : Option Bool} (h : bo a = true) : a = some true := of_decide_eq_true h
theorem cellB_ok {cc C : Addr} (h : cellB K cc C = true) : ∃ cl cld csl, K.lookup cc = some ⟨cl, cld, .cell (some (.ref C)), csl⟩ := by
  unfold cellB at h
  cases e : K.lookup cc with
  | none => rw [e] at h; cases h
  | some o =>
    rw [e] at h
    obtain ⟨oc, od, dt, sl⟩ := o
    cases dt with
    | cell v =>
      cases v with
      | none => cases h
      | some v =>
        cases v with
        | ref D =>
          have e1 : D = C := of_decide_eq_true h
          subst e1
          exact ⟨oc, od, sl, rfl⟩
        | _ => cases h
    | _ => cases h
theorem fileB_ok {cda : Addr} {file : Str} (h : fileB K cda file = true) : ∃ ccl cdd vs ccs z tf, K.lookup cda = some ⟨ccl, cdd, .fields vs, ccs⟩ ∧ vs[2]? = some (.str z tf) ∧ (file == z) = true := by
  unfold fileB at h
  cases e : K.lookup cda with
  | none => rw [e] at h; cases h
  | some o =>
    rw [e] at h
    obtain ⟨oc, od, dt, sl⟩ := o
    cases dt with
    | fields vs =>
      have h' : (match (vs[2]? : Option Value) with
        | some (.str z _) => file == z
        | _ => false) = true := h
      cases e2 : (vs[2]? : Option Value) with
      | none => rw [e2] at h'; cases h'
      | some v =>
        rw [e2] at h'
        cases v with
        | str z tf => exact ⟨oc, od, vs, sl, z, tf, rfl, e2, h'⟩
        | _ => cases h'
    | _ => cases h
/-- the facts of an error's class, from the test and the def's text -/
theorem facts {d : DE} {msg : Str} (c : d.ok P K = true) (e : fnE K d.x = d.val) : ∃ cc cda oc od osl kd doc pm an ct,
    Cl P K (He.ga K d.x) (He.ma K (He.ga K d.x) "__init__") cc cda msg d.fs ∧ K.lookup (He.ma K (He.ga K d.x) "__init__") = some ⟨oc, od, .func (mkFd "__init__" d.qual d.params d.body d.scope cc cda kd doc pm an ct), osl⟩ ∧
    codeIn K (.ref cda) d.qual = true ∧ nsIn K mainGlobals "super" = some none ∧ nsIn K mainGlobals d.x = some (some (.ref (He.ga K d.x))) ∧
    keepIn K (.ref (He.ga K d.x)) = true ∧ subIn K (.ref (He.ga K d.x)) (.type "BaseException") = some true ∧ typeIn K (.ref (He.ga K d.x)) = some (.type "type") ∧
    findIn K (.ref (He.ga K d.x)) "__getattribute__" = some (some (.builtin "BaseException.__getattribute__")) ∧ findIn K (.ref (He.ga K d.x)) "__getattr__" = some none ∧ hasDictIn K (He.ga K d.x) = true ∧
    findIn K (.ref (He.ga K d.x)) "__class__" = some (some (.builtin "object.__class__")) ∧ specialIn K (.builtin "object.__class__") "__get__" = some (some (.builtin "getset_descriptor.__get__")) ∧ takesIn K (.builtin "object.__class__") = some true ∧ mroIn K (He.ga K d.x) (.type "object") = some true := by
  unfold DE.ok at c
  obtain ⟨c1, c⟩ := He.ba c
  obtain ⟨c2, c⟩ := He.ba c
  obtain ⟨c3, c⟩ := He.ba c
  obtain ⟨c4, c⟩ := He.ba c
  obtain ⟨c5, c⟩ := He.ba c
  obtain ⟨c6, c⟩ := He.ba c
  obtain ⟨c7, c⟩ := He.ba c
  obtain ⟨c8, c⟩ := He.ba c
  obtain ⟨c9, c⟩ := He.ba c
  obtain ⟨c10, c⟩ := He.ba c
  obtain ⟨c11, c⟩ := He.ba c
  obtain ⟨c12, c⟩ := He.ba c
  obtain ⟨c13, c⟩ := He.ba c
  obtain ⟨c14, c⟩ := He.ba c
  obtain ⟨c15, c⟩ := He.ba c
  obtain ⟨c16, c⟩ := He.ba c
  obtain ⟨c17, c⟩ := He.ba c
  obtain ⟨c18, c⟩ := He.ba c
  obtain ⟨c19, c⟩ := He.ba c
  obtain ⟨c20, c⟩ := He.ba c
  obtain ⟨c21, c⟩ := He.ba c
  obtain ⟨c22, c23⟩ := He.ba c
  unfold fnE at e
  unfold fnB at c11
  cases q : K.lookup (He.ma K (He.ga K d.x) "__init__") with
  | none => rw [q] at e; cases e
  | some o =>
    rw [q] at e c11
    obtain ⟨oc, od, dt, osl⟩ := o
    cases dt with
    | func fd =>
      obtain ⟨n1, n2, n3, n4, n5, n6, n7, n8, n9, n10, n11, n12, n13, n14, n15⟩ := fd
      have e2 : (some (n1, n2, n3, n4, n5, n6, n7.map (·.1), n15) : FnE) = some ((("__init__" : Str), d.qual, d.params, FuncBody.stmts d.body, d.scope, mainGlobals, [("__class__" : Str)], builtinsNs) : Str × Str × Arguments × FuncBody × Scope × Addr × List Str × Addr) := e
      simp only [Option.some.injEq, Prod.mk.injEq] at e2
      obtain ⟨h1, h2, h3, h4, h5, h6, h7, h8⟩ := e2
      subst h1 h2 h3 h4 h5 h6 h8
      have c11' : (noneB n8 && (refB n13 && (codeIn K n13 d.qual && (cellB K (ccOf ⟨"__init__", d.qual, d.params, .stmts d.body, d.scope, mainGlobals, n7, n8, n9, n10, n11, n12, n13, n14, builtinsNs⟩) (He.ga K d.x) && fileB K (cdOf ⟨"__init__", d.qual, d.params, .stmts d.body, d.scope, mainGlobals, n7, n8, n9, n10, n11, n12, n13, n14, builtinsNs⟩) P.main.file)))) = true := c11
      obtain ⟨b1, c11'⟩ := He.ba c11'
      obtain ⟨b2, c11'⟩ := He.ba c11'
      obtain ⟨b3, c11'⟩ := He.ba c11'
      obtain ⟨b4, b5⟩ := He.ba c11'
      obtain ⟨cc, rfl⟩ : ∃ cc, n7 = [(("__class__" : Str), cc)] := by
        match n7, h7 with
        | [(a, b)], h7 =>
          simp only [List.map_cons, List.map_nil, List.cons.injEq, and_true] at h7
          exact ⟨b, by rw [h7]⟩
      obtain ⟨cda, rfl⟩ : ∃ c, n13 = .ref c := by
        cases n13 with
        | ref c => exact ⟨c, rfl⟩
        | _ => cases b2
      have b1' : n8 = .none := by
        cases n8 with
        | none => rfl
        | _ => cases b1
      subst b1'
      refine ⟨cc, cda, oc, od, osl, n9, n10, n11, n12, n14, ⟨clB_ok c2, oo_ok c3, fun f hf => oo_ok (List.all_eq_true.mp c4 f hf), oo_ok c5, of_decide_eq_true c6, oo_ok c7, bo_ok c8, bo_ok c9, oo_ok c10, cellB_ok b4, fileB_ok b5, by simpa using c12⟩, rfl, b3, oo_ok c19, oo_ok c1, c13, bo_ok c14, of_decide_eq_true c15, oo_ok c16, oo_ok c17, c18, oo_ok c20, oo_ok c21, bo_ok c22, bo_ok c23⟩
    | _ => cases e
theorem one_len {f : Str} {vs : List V} {us : List Value} (hl : vs.length = 1) (r : Vals vs us) (y : Str) : RelO (([f].zip vs).lookup y) (if y = f then some (us.getD 0 .none) else none) := by
  match vs, us, hl, r with
  | [v], _, _, .cons rv .nil =>
    by_cases h : y = f
    · rw [if_pos h, h]
      simp [List.lookup]
      exact rv
    · have z : (y == f) = false := by simpa using h
      rw [if_neg h]
      simp [List.lookup, z]
      trivial
theorem two_len {f g : Str} (fg : f ≠ g) {vs : List V} {us : List Value} (hl : vs.length = 2) (r : Vals vs us) (y : Str) : RelO (([f, g].zip vs).lookup y) (if y = g then some (us.getD 1 .none) else if y = f then some (us.getD 0 .none) else none) := by
  match vs, us, hl, r with
  | [v, u], _, _, .cons rv (.cons ru .nil) =>
    by_cases h : y = f
    · have hg : ¬ y = g := fun z => fg (h.symm.trans z)
      rw [if_neg hg, if_pos h, h]
      simp [List.lookup]
      exact rv
    · have z : (y == f) = false := by simpa using h
      by_cases h2 : y = g
      · rw [if_pos h2, h2]
        have z2 : (g == f) = false := by simpa using fun q => fg q.symm
        simp [List.lookup, z2]
        exact ru
      · have z2 : (y == g) = false := by simpa using h2
        rw [if_neg h2, if_neg h]
        simp [List.lookup, z, z2]
        trivial
theorem err1 {x qual : Str} {params : Arguments} {st0 st1 : Stmt} {scope : Scope} {msg f : Str} (X : K.In h) (G : h.Ns mainGlobals mg) (S : Sy qual params scope st0 msg [f]) (U : Pu qual params scope st1 f)
    (c : (DE.mk x qual params [st0, st1] scope [f]).ok P K = true) (e : fnE K x = (DE.mk x qual params [st0, st1] scope [f]).val) : Err P K mg x (He.ga K x) [f] := by
  obtain ⟨cc, cda, oc, od, osl, kd, doc, pm, an, ct, T, ho, hcd, hs, hx, h1, h2, h3, h4, h5, h6, h7, h8, h9, h10⟩ := facts (msg := msg) c e
  exact ⟨mg_of X G hx, ⟨_, _, Mkr.of1 T S U (mg_none_of X G hs) ho hcd, fun vs us hl r y => one_len hl r y⟩, h1, h2, h3, h4, h5, h6, T.noN, by show 1 ≤ 100; decide, h7, h8, h9, h10⟩
theorem err2 {x qual : Str} {params : Arguments} {st0 st1 st2 : Stmt} {scope : Scope} {msg f g : Str} (X : K.In h) (G : h.Ns mainGlobals mg) (S : Sy qual params scope st0 msg [f, g]) (U : Pu qual params scope st1 f) (U2 : Pu qual params scope st2 g)
    (c : (DE.mk x qual params [st0, st1, st2] scope [f, g]).ok P K = true) (e : fnE K x = (DE.mk x qual params [st0, st1, st2] scope [f, g]).val) : Err P K mg x (He.ga K x) [f, g] := by
  obtain ⟨cc, cda, oc, od, osl, kd, doc, pm, an, ct, T, ho, hcd, hs, hx, h1, h2, h3, h4, h5, h6, h7, h8, h9, h10⟩ := facts (msg := msg) c e
  have fg : f ≠ g := by simpa using S.nd
  exact ⟨mg_of X G hx, ⟨_, _, Mkr.of2 T S U U2 (mg_none_of X G hs) ho hcd, fun vs us hl r y => two_len fg hl r y⟩, h1, h2, h3, h4, h5, h6, T.noN, by show 2 ≤ 100; decide, h7, h8, h9, h10⟩
end
end Er

set_option maxHeartbeats 4000000
namespace Toy
open PySem PySem.Spec PyProof.Rows L2
def top (i : Nat) : Stmt := PySem.Challenge.pw_lanesdealt_k53_any_options_of_a_book.main.body.getD i (.Pass ⟨0, 0, 0, 0⟩)
abbrev s_Book___init__ : Stmt := inClass (top 10) 0
abbrev s__law_cell : Stmt := top 12
abbrev s__law_mixed : Stmt := top 13
abbrev s__law_row : Stmt := top 14
abbrev s__law_options : Stmt := top 15
abbrev s__law_word : Stmt := top 16
abbrev s__law_made : Stmt := top 17
abbrev s_law : Stmt := top 18
abbrev s_BadBook___init__ : Stmt := inClass (top 2) 0
/-- what stands behind the top -/
structure Tx (P : Program) (K : PySem.W.Frag) (mg : Str → Option Value) where
  fd_Book___init__ : FuncData
  f_Book___init__ : FunD K "__init__" "Book.__init__" (defArgs s_Book___init__) (defBody s_Book___init__) (defScope s_Book___init__) [] [("stop", .str "asked"), ("move", .str "once"), ("out", .str "once"), ("marks", .str "any")] (He.fAd K ("Book", some "__init__")) fd_Book___init__
  fd__law_cell : FuncData
  f__law_cell : FunD K "_law_cell" "_law_cell" (defArgs s__law_cell) (defBody s__law_cell) (defScope s__law_cell) [] [] (He.fAd K ("_law_cell", none)) fd__law_cell
  b__law_cell : Binds K fd__law_cell ["script", "k"] []
  g__law_cell : mg "_law_cell" = some (.ref (He.fAd K ("_law_cell", none)))
  fd__law_mixed : FuncData
  f__law_mixed : FunD K "_law_mixed" "_law_mixed" (defArgs s__law_mixed) (defBody s__law_mixed) (defScope s__law_mixed) [] [] (He.fAd K ("_law_mixed", none)) fd__law_mixed
  b__law_mixed : Binds K fd__law_mixed ["number", "k"] []
  g__law_mixed : mg "_law_mixed" = some (.ref (He.fAd K ("_law_mixed", none)))
  fd__law_row : FuncData
  f__law_row : FunD K "_law_row" "_law_row" (defArgs s__law_row) (defBody s__law_row) (defScope s__law_row) [] [] (He.fAd K ("_law_row", none)) fd__law_row
  b__law_row : Binds K fd__law_row ["cell", "count", "base"] []
  g__law_row : mg "_law_row" = some (.ref (He.fAd K ("_law_row", none)))
  fd__law_options : FuncData
  f__law_options : FunD K "_law_options" "_law_options" (defArgs s__law_options) (defBody s__law_options) (defScope s__law_options) [] [] (He.fAd K ("_law_options", none)) fd__law_options
  b__law_options : Binds K fd__law_options ["k"] []
  g__law_options : mg "_law_options" = some (.ref (He.fAd K ("_law_options", none)))
  fd__law_word : FuncData
  f__law_word : FunD K "_law_word" "_law_word" (defArgs s__law_word) (defBody s__law_word) (defScope s__law_word) [] [] (He.fAd K ("_law_word", none)) fd__law_word
  b__law_word : Binds K fd__law_word ["k", "number", "cell"] []
  g__law_word : mg "_law_word" = some (.ref (He.fAd K ("_law_word", none)))
  fd__law_made : FuncData
  f__law_made : FunD K "_law_made" "_law_made" (defArgs s__law_made) (defBody s__law_made) (defScope s__law_made) [] [] (He.fAd K ("_law_made", none)) fd__law_made
  b__law_made : Binds K fd__law_made ["words", "form"] []
  g__law_made : mg "_law_made" = some (.ref (He.fAd K ("_law_made", none)))
  fd_law : FuncData
  f_law : FunD K "law" "law" (defArgs s_law) (defBody s_law) (defScope s_law) [] [] (He.fAd K ("law", none)) fd_law
  b_law : Binds K fd_law ["script"] []
  g_law : mg "law" = some (.ref (He.fAd K ("law", none)))
  z_len : mg "len" = none
  z_int : mg "int" = none
  z_abs : mg "abs" = none
  z_range : mg "range" = none
  z_isinstance : mg "isinstance" = none
  z_ValueError : mg "ValueError" = none
  g_Book : mg "Book" = some (.ref (He.ga K "Book"))
  c_Book : Cls K (He.ga K "Book")
  n_Book_stop : NoAttr K (He.ga K "Book") "stop"
  n_Book_move : NoAttr K (He.ga K "Book") "move"
  n_Book_out : NoAttr K (He.ga K "Book") "out"
  n_Book_marks : NoAttr K (He.ga K "Book") "marks"
  n_Book_pairs : NoAttr K (He.ga K "Book") "pairs"
  k_Book : Mk K (He.ga K "Book") (He.fAd K ("Book", some "__init__"))
  e_BadBook : Err P K mg "BadBook" (He.ga K "BadBook") ["option"]
  g_STOPS : mg "STOPS" = some (.ref (He.ga K "STOPS"))
  t_STOPS : ∀ H : Hp, SqT K H (He.ga K "STOPS") [.str "asked", .str "all"]
  g_MOVES : mg "MOVES" = some (.ref (He.ga K "MOVES"))
  t_MOVES : ∀ H : Hp, SqT K H (He.ga K "MOVES") [.str "once", .str "back"]
  g_OUTS : mg "OUTS" = some (.ref (He.ga K "OUTS"))
  t_OUTS : ∀ H : Hp, SqT K H (He.ga K "OUTS") [.str "once", .str "wait"]
  g_MARKS : mg "MARKS" = some (.ref (He.ga K "MARKS"))
  t_MARKS : ∀ H : Hp, SqT K H (He.ga K "MARKS") [.str "any", .str "owner", .str "given"]
  g_LaneError : mg "LaneError" = some (.ref (He.ga K "LaneError"))
  g_UnknownName : mg "UnknownName" = some (.ref (He.ga K "UnknownName"))
  i_LaneError : PySem.W.kitOne K (.ref (He.ga K "BadBook")) (.ref (He.ga K "LaneError")) = some true
  i_ValueError : PySem.W.kitOne K (.ref (He.ga K "BadBook")) (.type "ValueError") = some true
  i_UnknownName : PySem.W.kitOne K (.ref (He.ga K "BadBook")) (.ref (He.ga K "UnknownName")) = some false
  x_BadBook : PySem.W.exmOne K (.ref (He.ga K "BadBook")) (.ref (He.ga K "BadBook")) = some true
theorem sc_Book___init__ : FnScope ["self", "stop", "move", "out", "marks", "option", "options"] ["self", "stop", "move", "out", "marks"] (defScope s_Book___init__) := ⟨rfl, rfl, rfl, by decide +kernel, rfl, by decide +kernel, by decide +kernel⟩
theorem sc__law_cell : FnScope ["script", "k"] ["script", "k"] (defScope s__law_cell) := ⟨rfl, rfl, rfl, by decide +kernel, rfl, by decide +kernel, by decide +kernel⟩
theorem sc__law_mixed : FnScope ["number", "k", "early"] ["number", "k"] (defScope s__law_mixed) := ⟨rfl, rfl, rfl, by decide +kernel, rfl, by decide +kernel, by decide +kernel⟩
theorem sc__law_row : FnScope ["cell", "count", "base", "found", "rest", "k"] ["cell", "count", "base"] (defScope s__law_row) := ⟨rfl, rfl, rfl, by decide +kernel, rfl, by decide +kernel, by decide +kernel⟩
theorem sc__law_options : FnScope ["k"] ["k"] (defScope s__law_options) := ⟨rfl, rfl, rfl, by decide +kernel, rfl, by decide +kernel, by decide +kernel⟩
theorem sc__law_word : FnScope ["k", "number", "cell", "letters", "every", "own", "word", "way", "rest", "at", "spoilt", "draw"] ["k", "number", "cell"] (defScope s__law_word) := ⟨rfl, rfl, rfl, by decide +kernel, rfl, by decide +kernel, by decide +kernel⟩
theorem sc__law_made : FnScope ["words", "form"] ["words", "form"] (defScope s__law_made) := ⟨rfl, rfl, rfl, by decide +kernel, rfl, by decide +kernel, by decide +kernel⟩
theorem sc_law : FnScope ["script", "draws", "words", "k", "form", "used", "wrong", "due", "told", "book", "e"] ["script"] (defScope s_law) := ⟨rfl, rfl, rfl, by decide +kernel, rfl, by decide +kernel, by decide +kernel⟩
end Toy

set_option maxHeartbeats 4000000
namespace Toy
open PySem PySem.Spec PyProof.Rows L2
/-! ### int(n) -/
theorem call_intI {X : Cx} : CallR X (.type "int") (fun xs H Q => ∃ i, xs = [.int i] ∧ Q (.int i) H) := fun pins s σ H xs us Q I r ⟨i, e, q⟩ => call_int1 pins s σ H xs us Q I r (.inl ⟨i, e, q⟩)
theorem atI_int {α : Type} {xs : List α} {k : Int} {v : α} (h0 : 0 ≤ k) (h : xs[k.toNat]? = some v) : atI xs k = some v := by
  have e : k = ((k.toNat : Nat) : Int) := by omega
  rw [e]
  exact atI_nat h
theorem Same.new {H : Hp} {p : Addr} {o : HO} (h : H p = none) : Same H (upd H p o) := fun a u e => by
  rw [upd_ne (ne_of_none e h)]
  exact e
theorem Same.mut {H H' : Hp} {p : Addr} {o : HO} (e : Same H H') (h : H p = none) : Same H (upd H' p o) := fun a u ha => by
  rw [upd_ne (ne_of_none ha h)]
  exact e a u ha
theorem Same.tr {H H1 H2 : Hp} (a : Same H H1) (b : Same H1 H2) : Same H H2 := fun x o h => b x o (a x o h)
theorem getD_map {α β : Type} (f : α → β) (xs : List α) (i : Nat) (d : α) (h : i < xs.length) : (xs.map f)[i]? = some (f (xs.getD i d)) := by
  rw [List.getElem?_map, List.getD_eq_getElem?_getD, List.getElem?_eq_getElem h]
  rfl
/-- a statement whose ways meet again -/
def tMeet (t u : TS) : TS := fun D σ H => ∃ M : L2.St → Hp → Prop, t { D with nx := M } σ H ∧ ∀ σ' H', M σ' H' → u D σ' H'
theorem pss_meet {X : Cx} {st : Stmt} {rest : List Stmt} {t u : TS} (a : PS X st t) (b : PSs X rest u) : PSs X (st :: rest) (tMeet t u) := by
  refine ⟨fun pins s σ H D I h => ?_⟩
  obtain ⟨M, h1, h2⟩ := h
  refine wpAny_execs_cons (thn (a.run pins s σ H { D with nx := M } I h1) fun f s' q => ?_)
  cases f with
  | next =>
    obtain ⟨σ', H', I', m⟩ := q
    exact b.run pins s' σ' H' D I' (h2 σ' H' m)
  | brk => exact q
  | cont => exact q
  | ret u => exact q
theorem ok0 {P : Program} {w : World} {K : PySem.W.Frag} {mg : Str → Option Value} {base : Heap} {x qual : Str} {params : Arguments} {body : List Stmt} {scope : Scope} {dvs : List V} {kws : List (Str × V)} {f : Addr} {fd : FuncData} {N ps : List Str} {k : Nat} {sp : Sp}
    (F : FunD K x qual params body scope dvs kws f fd) (S : FnScope N ps scope) (len : ∀ vs H Q E, sp vs H Q E → vs.length = ps.length)
    (hb : ∀ (cdv : Value) (A : Around) (outer : List Env) (s : Shared) (H : Hp) (vs : List V) (Q : VK) (E : XK), Room k (A.deeper (envOfC qual scope s.heap.objs.size f cdv)) → sp vs H Q E →
      ∃ t, PSs (cxOf CX0 P w K mg base N qual scope f cdv A outer s H E).nox body t ∧ t { nx := fun _ H' => Q .non H', rt := Q } (start N vs) H) : FnOk P w K mg base CX0 (k + 1) f fd ps sp :=
  F.ok S len fun cdv A outer s H vs Q E hr h => by
    obtain ⟨t, a, b⟩ := hb cdv A outer s H vs Q E hr h
    exact ⟨t, a.nox, b⟩

/-- a name of the module: an object, a text, a number -/
theorem pe_gref {X : Cx} {x : Str} {a : Addr} {pos : Pos} (hm : X.mg x = some (.ref a)) (hg : Gl X x := by rfl) (hd : (x == ("__debug__" : Str)) = false := by decide) : PE X (.Name x pos) (tC (.ref a)) := pe_glob hg hm rfl hd
theorem pe_gstr {X : Cx} {x z : Str} {pos : Pos} (hm : ∃ t, X.mg x = some (.str z t)) (hg : Gl X x := by rfl) (hd : (x == ("__debug__" : Str)) = false := by decide) : PE X (.Name x pos) (tC (.str z)) := by
  obtain ⟨t, e⟩ := hm
  exact pe_glob hg e ⟨t, rfl⟩ hd
theorem pe_gint {X : Cx} {x : Str} {i : Int} {pos : Pos} (hm : ∃ t, X.mg x = some (.int i t)) (hg : Gl X x := by rfl) (hd : (x == ("__debug__" : Str)) = false := by decide) : PE X (.Name x pos) (tC (.int i)) := by
  obtain ⟨t, e⟩ := hm
  exact pe_glob hg e ⟨t, rfl⟩ hd
theorem okX {P : Program} {w : World} {K : PySem.W.Frag} {mg : Str → Option Value} {base : Heap} {x qual : Str} {params : Arguments} {body : List Stmt} {scope : Scope} {dvs : List V} {kws : List (Str × V)} {f : Addr} {fd : FuncData} {N ps : List Str} {k : Nat} {sp : Sp}
    (F : FunD K x qual params body scope dvs kws f fd) (S : FnScope N ps scope) (len : ∀ vs H Q E, sp vs H Q E → vs.length = ps.length)
    (hb : ∀ (cdv : Value) (A : Around) (outer : List Env) (s : Shared) (H : Hp) (vs : List V) (Q : VK) (E : XK), Room k (A.deeper (envOfC qual scope s.heap.objs.size f cdv)) → sp vs H Q E →
      ∃ t, PSs (cxOf (L2.CX P w) P w K mg base N qual scope f cdv A outer s H E) body t ∧ t { nx := fun _ H' => Q .non H', rt := Q } (start N vs) H) : FnOk P w K mg base (L2.CX P w) (k + 1) f fd ps sp :=
  F.ok S len hb
theorem putF_nil (f : Str) (v : V) : putF f v [] = [(f, v)] := rfl
theorem putF_ne {f g : Str} {v x : V} {r : List (Str × V)} (h : ¬ g = f) : putF f v ((g, x) :: r) = (g, x) :: putF f v r := if_neg h
theorem putF_eq {f : Str} {v x : V} {r : List (Str × V)} : putF f v ((f, x) :: r) = (f, v) :: r := if_pos rfl
theorem inV_map (z : Str) : ∀ l : List Str, inV (.str z) (l.map V.str) = decide (z ∈ l)
  | [] => by simp [inV]
  | y :: r => by
    have ih := inV_map z r
    unfold inV at ih ⊢
    rw [List.map_cons, List.any_cons, ih]
    show ((y == z) || decide (z ∈ r)) = decide (z ∈ y :: r)
    by_cases h : y = z
    · subst h; simp
    · have h1 : (y == z) = false := by simpa using h
      have h2 : ¬ z = y := fun q => h q.symm
      rw [h1]
      simp [List.mem_cons, h2]
theorem putF_le {f : Str} {v : V} {fs : List (Str × V)} {n : Nat} (h : fs.length ≤ n) : (putF f v fs).length ≤ n + 1 := Nat.le_trans (length_putF f v fs) (Nat.succ_le_succ h)
theorem But.trans {x : Addr} {H H1 H2 : Hp} (a : ∀ p o, p ≠ x → H p = some o → H1 p = some o) (b : ∀ p o, p ≠ x → H1 p = some o → H2 p = some o) : ∀ p o, p ≠ x → H p = some o → H2 p = some o := fun p o n e => b p o n (a p o n e)
theorem But.upd {x : Addr} {H : Hp} {u : HO} : ∀ p o, p ≠ x → H p = some o → upd H x u p = some o := fun p o n e => (upd_ne n).trans e
/-! ### rules whose reading names K by itself (for the blocks of comprehensions) -/
section
variable {X : Cx} {K : PySem.W.Frag}
theorem ix_lK (h : X.K = K := by rfl) : IxR X (rIxL K) := by subst h; exact ix_list
theorem ix_tK (h : X.K = K := by rfl) : IxR X (rIxT K) := by subst h; exact ix_tup
theorem in_sK (h : X.K = K := by rfl) : OpR X (compareOp .In) (rIn K false) := by subst h; exact op_in_seq
theorem notIn_sK (h : X.K = K := by rfl) : OpR X (compareOp .NotIn) (rIn K true) := by subst h; exact op_notIn_seq
end

/-! ### texts of ASCII signs -/
def Asc (x : Str) : Prop := ∀ c ∈ x.cps.toList, c < 128
theorem asc_cut {z : Str} (h : Asc z) (lo hi : Option Int) : Asc (cutS z lo hi) := fun c hc => by
  unfold cutS at hc
  rw [List.toList_toArray] at hc
  exact h c (List.mem_of_mem_drop (List.mem_of_mem_take hc))
theorem asc_app {a b : Str} (ha : Asc a) (hb : Asc b) : Asc (a ++ b) := fun c hc => by
  have e : (a ++ b).cps.toList = a.cps.toList ++ b.cps.toList := by
    show (a.cps ++ b.cps).toList = _
    simp
  rw [e] at hc
  rcases List.mem_append.mp hc with h | h
  · exact ha c h
  · exact hb c h
theorem asc_at {z : Str} (h : Asc z) {i c : Nat} (e : z.cps[i]? = some c) : Asc ⟨#[c]⟩ := fun d hd => by
  have hd' : d = c := by simpa using hd
  rw [hd']
  refine h c ?_
  obtain ⟨q, e2⟩ := Array.getElem?_eq_some_iff.mp e
  rw [← e2, Array.mem_toList_iff]
  exact Array.getElem_mem q
theorem asc_upper {z : Str} (h : Asc z) : Asc (Txt.upper z) := fun c hc => by
  rw [upper_ascii h] at hc
  have hc' : c ∈ (z.cps.map up1).toList := hc
  rw [Array.toList_map] at hc'
  obtain ⟨d, hd, rfl⟩ := List.mem_map.mp hc'
  have hd' := h d hd
  unfold up1
  split <;> omega
theorem mem_joinL {S : List Nat} {c : Nat} : ∀ {ps : List (List Nat)}, c ∈ TL.joinL S ps → c ∈ S ∨ ∃ p ∈ ps, c ∈ p
  | [], h => by cases h
  | [p], h => .inr ⟨p, by simp, h⟩
  | p :: q :: r, h => by
    have h' : c ∈ p ++ (S ++ TL.joinL S (q :: r)) := h
    rcases List.mem_append.mp h' with h1 | h1
    · exact .inr ⟨p, by simp, h1⟩
    · rcases List.mem_append.mp h1 with h2 | h2
      · exact .inl h2
      · rcases mem_joinL h2 with h3 | ⟨x, hx, h3⟩
        · exact .inl h3
        · exact .inr ⟨x, List.mem_cons_of_mem _ hx, h3⟩
theorem asc_join {y : Str} {ps : List Str} (hy : Asc y) (h : ∀ p ∈ ps, Asc p) : Asc (Txt.join y ps) := fun c hc => by
  rw [TL.join_eq] at hc
  have hc' : c ∈ TL.tl (Str.join y ps) := hc
  rw [TL.tl_join] at hc'
  rcases mem_joinL hc' with h1 | ⟨p, hp, h1⟩
  · exact hy c h1
  · obtain ⟨z, hz, rfl⟩ := List.mem_map.mp hp
    exact h z hz c h1
theorem asc_ok {z : Str} (h : Asc z) : PyData.strOk z = true := by
  show z.cps.all _ = true
  rw [← Array.all_toList]
  exact List.all_eq_true.mpr fun c hc => decide_eq_true (by have := h c hc; omega)
/-! ### data of texts, for == of lists -/
theorem dp_strs {K : PySem.W.Frag} {H : Hp} : ∀ l : List Str, DpAll K H (l.map V.str) (l.map PyData.str)
  | [] => .nil
  | x :: r => .cons (.str x) (dp_strs r)
theorem lay_strs : ∀ {l : List Str}, (∀ z ∈ l, Asc z) → PyData.canLayAll0 (l.map PyData.str) = true
  | [], _ => by simp [PyData.canLayAll0]
  | x :: r, h => by
    have ih := lay_strs (l := r) fun z hz => h z (List.mem_cons_of_mem _ hz)
    rw [List.map_cons]
    simp [PyData.canLayAll0, PyData.canLay0, ih, asc_ok (h x List.mem_cons_self)]
theorem depth_strs : ∀ l : List Str, PyData.depthAll (l.map PyData.str) = 0
  | [] => by simp [PyData.depthAll]
  | x :: r => by
    rw [List.map_cons]
    simp [PyData.depthAll, PyData.depth, depth_strs r]
theorem shaped_strs {l : List Str} (h : ∀ z ∈ l, Asc z) : SeqAt.shaped (.list (l.map PyData.str)) = true := by
  unfold SeqAt.shaped
  simp [PyData.canLay0, PyData.depth, lay_strs h, depth_strs]
section
variable {P : Program} {w : World} {K : PySem.W.Frag} {mg : Str → Option Value} {base : Heap}
/-! ### the law's cells and draws -/
def cellV (ns : List Int) (k : Int) : Int := if k < ns.length then ns.getD k.toNat 0 else 0
def spCell (K : PySem.W.Frag) : Sp := fun vs H Q _ => ∃ (a : Addr) (ns : List Int) (k : Int), vs = [.ref a, .int k] ∧ SqL K H a (ns.map V.int) ∧ 0 ≤ k ∧ Q (.int (cellV ns k)) H
theorem ok__law_cell (T : Tx P K mg) : FnOk P w K mg base CX0 1 (He.fAd K ("_law_cell", none)) T.fd__law_cell ["script", "k"] (spCell K) := by
  refine ok0 T.f__law_cell sc__law_cell (fun vs H Q E h => ?_) (fun cdv A outer s H vs Q E hr h => ?_)
  · obtain ⟨a, ns, k, rfl, _⟩ := h
    rfl
  · obtain ⟨a, ns, k, rfl, hS, h0, hQ⟩ := h
    refine ⟨_, (pss_cons (ps_if (pt_cmpR op_lt (pv 1) (pe_callB call_len_seq (by rfl) T.z_len (by decide +kernel) (pa_cons (pv 0) pa_nil)) (nomark _))
        (pss_one (ps_ret (pe_callTy call_intI (by rfl) T.z_int (by decide +kernel) (pa_cons (pe_ix ix_list (pv 0) (pv 1) (fun _ _ => rfl)) pa_nil))))
        pss_nil)
      (pss_one (ps_ret pe_int))), ?_⟩
    refine ⟨_, rfl, _, rfl, a, _, rfl, .inl hS, _, _, rfl, rfl, _, rfl, ?_⟩
    rw [List.length_map]
    unfold cellV at hQ
    by_cases c : k < (ns.length : Int)
    · rw [decide_eq_true c]
      rw [if_pos c] at hQ
      refine iteT ?_
      exact ⟨_, rfl, _, rfl, a, _, k, .int (ns.getD k.toNat 0), rfl, rfl, hS, atI_int h0 (getD_map _ _ _ _ (by omega)), _, rfl, hQ⟩
    · rw [decide_eq_false c]
      rw [if_neg c] at hQ
      exact iteF hQ
def mixV (n k : Int) : Int :=
  let e := (n * 48271 + k * 69621 + 11).fmod 2147483647
  ((e * (e.fdiv 1024 + 16807 * k + 5)).fmod 2147483399).fdiv 16
def spMix : Sp := fun vs H Q _ => ∃ n k : Int, vs = [.int n, .int k] ∧ Q (.int (mixV n k)) H
theorem ok__law_mixed (T : Tx P K mg) : FnOk P w K mg base CX0 1 (He.fAd K ("_law_mixed", none)) T.fd__law_mixed ["number", "k"] spMix := by
  refine ok0 T.f__law_mixed sc__law_mixed (fun vs H Q E h => ?_) (fun cdv A outer s H vs Q E hr h => ?_)
  · obtain ⟨n, k, rfl, _⟩ := h
    rfl
  · obtain ⟨n, k, rfl, hQ⟩ := h
    refine ⟨_, (pss_cons (ps_set (i := 2) sc__law_mixed.nd rfl (Or.inl rfl) (pe_op op_modN (pe_callTy call_intI (by rfl) T.z_int (by decide +kernel) (pa_cons (pe_op op_add (pe_op op_add (pe_op op_mul (pv 0) pe_int) (pe_op op_mul (pv 1) pe_int)) pe_int) pa_nil)) pe_int))
      (pss_one (ps_ret (pe_op op_fdivN (pe_op op_modN (pe_callTy call_intI (by rfl) T.z_int (by decide +kernel) (pa_cons (pe_op op_mul (pv 2) (pe_op op_add (pe_op op_add (pe_op op_fdivN (pv 2) pe_int) (pe_op op_mul pe_int (pv 1))) pe_int)) pa_nil)) pe_int) pe_int)))), ?_⟩
    have em : (n * 48271 + k * 69621 + 11).fmod 2147483647 = (n * 48271 + k * 69621 + 11) % 2147483647 := Int.fmod_eq_emod_of_nonneg _ (by decide)
    refine ⟨_, rfl, _, _, rfl, rfl, .inr ⟨by decide, by decide⟩, _, rfl, _, _, rfl, rfl, .inr ⟨by decide, by decide⟩, _, _, rfl, rfl, _, _, rfl, rfl, _, rfl, _, _, rfl, rfl, (show (2147483647 : Int) ≠ 0 by decide), ?_⟩
    refine ⟨_, rfl, _, rfl, _, _, rfl, rfl, ⟨by decide, by decide⟩, _, rfl, _, _, rfl, rfl, .inl ⟨by decide, by decide⟩, _, _, rfl, rfl, _, _, rfl, rfl, _, _, rfl, rfl, .inl ⟨by rw [em]; omega, by rw [em]; omega⟩, _, rfl, _, _, rfl, rfl, (show (2147483399 : Int) ≠ 0 by decide), _, _, rfl, rfl, ⟨by decide, by decide⟩, ?_⟩
    exact hQ
/-- a row of so many draws below a base -/
def spRow : Sp := fun vs H Q _ => ∃ c n b : Int, vs = [.int c, .int n, .int b] ∧ 0 ≤ n ∧ n ≤ 1000 ∧ 0 < b ∧ b < 1073741824 ∧
  ∀ (H' : Hp) (p : Addr) (ns : List Int), Same H H' → H p = none → H' p = some (.lst (ns.map V.int)) → (ns.length : Int) = n → (∀ x ∈ ns, 0 ≤ x ∧ x < b) → Q (.ref p) H'
theorem fmod_in {x b : Int} (h : 0 < b) : 0 ≤ x.fmod b ∧ x.fmod b < b := by
  rw [Int.fmod_eq_emod_of_nonneg _ (Int.le_of_lt h)]
  exact ⟨Int.emod_nonneg _ (by omega), Int.emod_lt_of_pos _ h⟩
theorem all_more {ns : List Int} {b y : Int} (h : ∀ x ∈ ns, 0 ≤ x ∧ x < b) (hy : 0 ≤ y ∧ y < b) : ∀ x ∈ ns ++ [y], 0 ≤ x ∧ x < b := fun x hx => by
  rcases List.mem_append.mp hx with hx | hx
  · exact h x hx
  · rw [List.mem_singleton.mp hx]
    exact hy
theorem ok__law_row (T : Tx P K mg) : FnOk P w K mg base CX0 2 (He.fAd K ("_law_row", none)) T.fd__law_row ["cell", "count", "base"] spRow := by
  have G__law_mixed : FnOk P w K mg base CX0 1 _ _ _ _ := ok__law_mixed T
  refine ok0 T.f__law_row sc__law_row (fun vs H Q E h => ?_) (fun cdv A outer s H vs Q E hr h => ?_)
  · obtain ⟨c, n, b, rfl, _⟩ := h
    rfl
  · obtain ⟨c, n, b, rfl, h0, h1, hb0, hb1, hQ⟩ := h
    have hb0' : b ≠ 0 := by omega
    refine ⟨_, (pss_cons (ps_set (i := 3) sc__law_row.nd rfl (Or.inl rfl) (pe_lst pa_nil))
      (pss_cons (ps_set (i := 4) sc__law_row.nd rfl (Or.inl rfl) (pe_callB call_abs (by rfl) T.z_abs (by decide +kernel) (pa_cons (pv 0) pa_nil)))
      (pss_meet (ps_if (pt_cmpR op_lt (pv 4) (pe_op op_pow pe_int pe_int) (nomark _))
        (pss_one (ps_set (i := 4) sc__law_row.nd rfl (Or.inl rfl) pe_int))
        pss_nil)
      (pss_cons (ps_for PassesOwn.never rfl (pi_range1 (by rfl) T.z_range (pa_cons (pv 1) pa_nil)) (pg_name (i := 5) sc__law_row.nd rfl (Or.inl rfl))
        (pss_one (ps_if (pt_cmpR op_gt (pv 4) pe_int (nomark _))
         (pss_cons (ps_expr (pe_bm PySem.F.plainAttrs_list PySem.F.slot_list_append PySem.F.type_list_append mt_append (pv 3) (pa_cons (pe_op op_modN (pe_callTy call_intI (by rfl) T.z_int (by decide +kernel) (pa_cons (pv 4) pa_nil)) (pv 2)) pa_nil)))
         (pss_one (ps_set (i := 4) sc__law_row.nd rfl (Or.inl rfl) (pe_op op_fdivN (pv 4) (pv 2)))))
         (pss_one (ps_expr (pe_bm PySem.F.plainAttrs_list PySem.F.slot_list_append PySem.F.type_list_append mt_append (pv 3) (pa_cons (pe_op op_modN (pe_callTy call_intI (by rfl) T.z_int (by decide +kernel) (pa_cons (pe_call G__law_mixed (hr.mono (by decide)) rfl T.g__law_mixed T.f__law_mixed.kp T.b__law_mixed .nil pass0 (pa_cons (pv 0) (pa_cons (pv 5) pa_nil))) pa_nil)) (pv 2)) pa_nil)))))))
      (pss_one (ps_ret (pv 3))))))), ?_⟩
    refine ⟨Nat.zero_le _, fun p hp => ?_⟩
    refine ⟨_, rfl, _, rfl, ?_⟩
    refine ⟨fun σ' H' => ∃ rest, σ' = [some (.int c), some (.int n), some (.int b), some (.ref p), some (.int rest), none] ∧ H' = upd H p (.lst []), ?_, ?_⟩
    · refine ⟨_, rfl, _, _, rfl, rfl, ⟨by decide, by decide, by decide⟩, _, _, rfl, rfl, _, rfl, ?_⟩
      refine ite2 (fun _ => ?_) (fun _ => ?_)
      · exact ⟨_, rfl, rfl⟩
      · exact ⟨_, rfl, rfl⟩
    rintro σ' H' ⟨rest, rfl, rfl⟩
    refine ⟨_, rfl, n, rfl, by omega, by omega, for_range (lo := 0) (n := n.toNat) (fun i σ H' => ∃ (ns : List Int) (r : Int) (v : Option V), σ = [some (.int c), some (.int n), some (.int b), some (.ref p), some (.int r), v] ∧ Same H H' ∧ H' p = some (.lst (ns.map V.int)) ∧ ns.length = i ∧ ∀ x ∈ ns, 0 ≤ x ∧ x < b) ⟨[], rest, none, rfl, Same.new hp, upd_same, rfl, List.forall_mem_nil _⟩ ?_ ?_⟩
    · rintro i σ H1 hi ⟨ns, r, v, rfl, s1, h2, hl, hall⟩
      have hlen : (ns.map V.int).length < sizeLine := by rw [List.length_map, hl, sizeLine_eq]; omega
      refine ⟨_, rfl, _, _, rfl, rfl, _, rfl, ?_⟩
      refine ite2 (fun _ => ?_) (fun _ => ?_)
      · refine ⟨_, rfl, .inl ⟨rfl, _, SqL.of h2⟩, _, rfl, _, rfl, _, rfl, _, _, rfl, rfl, hb0', p, _, _, rfl, rfl, h2, hlen, ?_⟩
        refine ⟨_, rfl, _, rfl, _, _, rfl, rfl, ⟨hb0', by omega⟩, ns ++ [r.fmod b], _, _, rfl, Same.mut s1 hp, ?_, by simp [hl], all_more hall (fmod_in hb0)⟩
        rw [upd_same, List.map_append]
        rfl
      · refine ⟨_, rfl, .inl ⟨rfl, _, SqL.of h2⟩, _, rfl, _, rfl, _, _, rfl, _, rfl, _, rfl, _, _, rfl, rfl, hb0', p, _, _, rfl, rfl, h2, hlen, ?_⟩
        refine ⟨ns ++ [(mixV c (0 + (i : Int))).fmod b], _, _, rfl, Same.mut s1 hp, ?_, by simp [hl], all_more hall (fmod_in hb0)⟩
        rw [upd_same, List.map_append]
        rfl
    · rintro σ H1 ⟨ns, r, v, rfl, s1, h2, hl, hall⟩
      exact ⟨_, rfl, hQ _ _ ns s1 hp h2 (by omega) hall⟩
end
end Toy

set_option maxHeartbeats 4000000
namespace Toy
open PySem PySem.Spec PyProof.Rows L2
section
variable {P : Program} {w : World} {K : PySem.W.Frag} {mg : Str → Option Value} {base : Heap}
/-! ### the options, a word -/
def opts (k : Nat) : List Str := match k with
  | 0 => ["asked", "all"]
  | 1 => ["once", "back"]
  | 2 => ["once", "wait"]
  | _ => ["any", "owner", "given"]
def spOpts : Sp := fun vs H Q _ => ∃ k : Nat, vs = [.int k] ∧ k < 4 ∧ ∀ (H' : Hp) (p : Addr), Same H H' → H p = none → H' p = some (.lst ((opts k).map V.str)) → Q (.ref p) H'
theorem ok__law_options (T : Tx P K mg) : FnOk P w K mg base CX0 1 (He.fAd K ("_law_options", none)) T.fd__law_options ["k"] spOpts := by
  refine ok0 T.f__law_options sc__law_options (fun vs H Q E h => ?_) (fun cdv A outer s H vs Q E hr h => ?_)
  · obtain ⟨k, rfl, _⟩ := h
    rfl
  · obtain ⟨k, rfl, hk, hQ⟩ := h
    refine ⟨_, (pss_one (ps_ret (pe_ix (ix_lK (K := K)) (pe_lst (pa_cons (pe_lst (pa_cons pe_str (pa_cons pe_str pa_nil))) (pa_cons (pe_lst (pa_cons pe_str (pa_cons pe_str pa_nil))) (pa_cons (pe_lst (pa_cons pe_str (pa_cons pe_str pa_nil))) (pa_cons (pe_lst (pa_cons pe_str (pa_cons pe_str (pa_cons pe_str pa_nil)))) pa_nil))))) (pv 0) (fun _ _ => rfl)))), ?_⟩
    refine ⟨(by show 2 ≤ sizeLine; decide), fun a ha => ⟨(by show 2 ≤ sizeLine; decide), fun b hb => ⟨(by show 2 ≤ sizeLine; decide), fun c hc => ⟨(by show 3 ≤ sizeLine; decide), fun d hd => ?_⟩⟩⟩⟩
    refine ⟨(by show 4 ≤ sizeLine; decide), fun l hl => ?_⟩
    have sa := Same.new (o := .lst [.str "asked", .str "all"]) ha
    have sb := Same.new (o := .lst [.str "once", .str "back"]) hb
    have sc := Same.new (o := .lst [.str "once", .str "wait"]) hc
    have sd := Same.new (o := .lst [.str "any", .str "owner", .str "given"]) hd
    have sl := Same.new (o := .lst [.ref a, .ref b, .ref c, .ref d]) hl
    have sab := Same.tr sa sb
    have sabc := Same.tr sab sc
    have tot := Same.tr (Same.tr sabc sd) sl
    have fb : H b = none := Same.free sa hb
    have fc : H c = none := Same.free sab hc
    have fd' : H d = none := Same.free sabc hd
    match k, hk with
    | 0, _ => exact ⟨_, rfl, l, _, _, .ref a, rfl, rfl, SqL.of upd_same, rfl, hQ _ a tot ha (sl _ _ (sd _ _ (sc _ _ (sb _ _ upd_same))))⟩
    | 1, _ => exact ⟨_, rfl, l, _, _, .ref b, rfl, rfl, SqL.of upd_same, rfl, hQ _ b tot fb (sl _ _ (sd _ _ (sc _ _ upd_same)))⟩
    | 2, _ => exact ⟨_, rfl, l, _, _, .ref c, rfl, rfl, SqL.of upd_same, rfl, hQ _ c tot fc (sl _ _ (sd _ _ upd_same))⟩
    | 3, _ => exact ⟨_, rfl, l, _, _, .ref d, rfl, rfl, SqL.of upd_same, rfl, hQ _ d tot fd' (sl _ _ upd_same)⟩
theorem opts_len (k : Nat) : 0 < (opts k).length ∧ (opts k).length ≤ 3 := by
  match k with
  | 0 => decide
  | 1 => decide
  | 2 => decide
  | _ + 3 => show 0 < 3 ∧ 3 ≤ 3; decide
theorem asc_by {z : Str} (h : z.cps.all (· < 128) = true) : Asc z := fun c hc => by
  rw [← Array.all_toList] at h
  exact of_decide_eq_true (List.all_eq_true.mp h c hc)
theorem opts_asc (k : Nat) : ∀ z ∈ opts k, Asc z := by
  have key : ∀ l : List Str, (l.all fun z => z.cps.all (· < 128)) = true → ∀ z ∈ l, Asc z := fun l h z hz => asc_by (List.all_eq_true.mp h z hz)
  match k with
  | 0 => exact key _ (by decide +kernel)
  | 1 => exact key _ (by decide +kernel)
  | 2 => exact key _ (by decide +kernel)
  | _ + 3 => exact key ([("any" : Str), "owner", "given"]) (by decide +kernel)
theorem every_asc : ∀ z ∈ ([("asked" : Str), "all", "once", "back", "wait", "any", "owner", "given"] : List Str), Asc z := by
  have key : ∀ l : List Str, (l.all fun z => z.cps.all (· < 128)) = true → ∀ z ∈ l, Asc z := fun l h z hz => asc_by (List.all_eq_true.mp h z hz)
  exact key _ (by decide +kernel)
theorem opts_short (k : Nat) : ∀ z ∈ opts k, 0 < z.length ∧ z.length ≤ 5 := by
  match k with
  | 0 => decide
  | 1 => decide
  | 2 => decide
  | _ + 3 => show ∀ z ∈ ([("any" : Str), "owner", "given"] : List Str), 0 < z.length ∧ z.length ≤ 5; decide
def spWord : Sp := fun vs H Q _ => ∃ (k : Nat) (n c : Int), vs = [.int k, .int n, .int c] ∧ k < 4 ∧ ∀ (H' : Hp) (z : Str), Same H H' → Asc z → Q (.str z) H'
theorem fmod_at {α : Type} {xs : List α} {x : Int} {n : Int} (h : n = (xs.length : Int)) (h0 : 0 < n) : ∃ v, v ∈ xs ∧ atI xs (x.fmod n) = some v := by
  obtain ⟨a, b⟩ := fmod_in (x := x) h0
  have z : (x.fmod n).toNat < xs.length := by omega
  exact ⟨xs[(x.fmod n).toNat], List.getElem_mem z, atI_int a (List.getElem?_eq_getElem z)⟩
theorem ok__law_word (T : Tx P K mg) : FnOk P w K mg base CX0 3 (He.fAd K ("_law_word", none)) T.fd__law_word ["k", "number", "cell"] spWord := by
  have G__law_row : FnOk P w K mg base CX0 2 _ _ _ _ := ok__law_row T
  have G__law_options : FnOk P w K mg base CX0 1 _ _ _ _ := ok__law_options T
  refine ok0 T.f__law_word sc__law_word (fun vs H Q E h => ?_) (fun cdv A outer s H vs Q E hr h => ?_)
  · obtain ⟨k, n, c, rfl, _⟩ := h
    rfl
  · obtain ⟨k, n, c, rfl, hk, hQ⟩ := h
    refine ⟨_, (pss_cons (ps_set (i := 3) sc__law_word.nd rfl (Or.inr rfl) pe_str)
      (pss_cons (ps_set (i := 4) sc__law_word.nd rfl (Or.inl rfl) (pe_lst (pa_cons pe_str (pa_cons pe_str (pa_cons pe_str (pa_cons pe_str (pa_cons pe_str (pa_cons pe_str (pa_cons pe_str (pa_cons pe_str pa_nil))))))))))
      (pss_cons (ps_set (i := 5) sc__law_word.nd rfl (Or.inl rfl) (pe_call G__law_options (hr.mono (by decide)) rfl T.g__law_options T.f__law_options.kp T.b__law_options .nil pass0 (pa_cons (pv 0) pa_nil)))
      (pss_cons (ps_set (i := 6) sc__law_word.nd rfl (Or.inl rfl) (pe_ix (ix_lK (K := K)) (pv 5) (pe_op op_modN (pe_callTy call_intI (by rfl) T.z_int (by decide +kernel) (pa_cons (pe_op op_fdivN (pv 1) pe_int) pa_nil)) (pe_callB call_len_seq (by rfl) T.z_len (by decide +kernel) (pa_cons (pv 5) pa_nil))) (fun _ _ => rfl)))
      (pss_cons (ps_set (i := 7) sc__law_word.nd rfl (Or.inl rfl) (pe_op op_modN (pe_callTy call_intI (by rfl) T.z_int (by decide +kernel) (pa_cons (pv 1) pa_nil)) pe_int))
      (pss_cons (ps_set (i := 8) sc__law_word.nd rfl (Or.inl rfl) (pe_callTy call_intI (by rfl) T.z_int (by decide +kernel) (pa_cons (pe_op op_fdivN (pv 1) pe_int) pa_nil)))
      (pss_cons (ps_if (pt_cmpR (in_sK (K := K)) (pv 7) (pe_lst (pa_cons pe_int (pa_cons pe_int (pa_cons pe_int pa_nil)))) rfl)
        (pss_one (ps_ret (pe_ix (ix_lK (K := K)) (pv 4) (pe_op op_modN (pe_callTy call_intI (by rfl) T.z_int (by decide +kernel) (pa_cons (pv 8) pa_nil)) pe_int) (fun _ _ => rfl))))
        pss_nil)
      (pss_cons (ps_if (pt_cmpR op_eq (pv 7) pe_int (nomark _))
        (pss_cons (ps_set (i := 9) sc__law_word.nd rfl (Or.inl rfl) (pe_op op_modN (pe_callTy call_intI (by rfl) T.z_int (by decide +kernel) (pa_cons (pe_op op_fdivN (pv 8) pe_int) pa_nil)) (pe_callB call_len (by rfl) T.z_len (by decide +kernel) (pa_cons (pv 6) pa_nil))))
        (pss_cons (ps_set (i := 10) sc__law_word.nd rfl (Or.inl rfl) (pe_lst (pa_cons (pe_op op_add_str (pe_slice sl_str (pv 6) po_none (po_some (pv 9))) (pe_slice sl_str (pv 6) (po_some (pe_op op_add (pv 9) pe_int)) po_none)) (pa_cons (pe_op op_add_str (pe_op op_add_str (pe_slice sl_str (pv 6) po_none (po_some (pv 9))) (pe_item_str (pv 6) (pv 9) (fun _ _ => rfl))) (pe_slice sl_str (pv 6) (po_some (pv 9)) po_none)) (pa_cons (pe_upper (pv 6)) (pa_cons (pe_op op_add_str pe_str (pv 6)) (pa_cons (pe_op op_add_str (pv 6) pe_str) pa_nil)))))))
        (pss_one (ps_ret (pe_ix (ix_lK (K := K)) (pe_op op_cat (pv 10) (pe_lst (pa_cons (pe_op op_add_str (pv 6) (pe_ix (ix_lK (K := K)) (pv 4) (pv 9) (fun _ _ => rfl))) (pa_cons (pe_op op_add_str (pe_upper (pe_slice sl_str (pv 6) po_none (po_some pe_int))) (pe_slice sl_str (pv 6) (po_some pe_int) po_none)) pa_nil)))) (pe_op op_modN (pe_callTy call_intI (by rfl) T.z_int (by decide +kernel) (pa_cons (pv 8) pa_nil)) pe_int) (fun _ _ => rfl))))))
        pss_nil)
      (pss_cons (ps_if (pt_cmpR op_eq (pv 7) pe_int (nomark _))
        (pss_one (ps_ret (pe_join pe_str (pe_lc (own := [("draw", 11)]) (g := gName 11) (tt := tYes) rfl sc__law_word.nd (pi_list (pe_call G__law_row (hr.mono (by decide)) rfl T.g__law_row T.f__law_row.kp T.b__law_row .nil pass0 (pa_cons (pv 2) (pa_cons (pe_op op_modN (pe_callTy call_intI (by rfl) T.z_int (by decide +kernel) (pa_cons (pv 8) pa_nil)) pe_int) (pa_cons pe_int pa_nil))))) (blkOk_by (own := [("draw", 11)]) (N := ["k", "number", "cell", "letters", "every", "own", "word", "way", "rest", "at", "spoilt", "draw"]) (sc := defScope s__law_word) (by decide +kernel)) (fun _ _ _ _ _ => (pg_name (i := 11) sc__law_word.nd rfl (Or.inl rfl))) (fun _ _ _ _ _ => pts_nil) (fun _ _ _ _ _ => (pe_item_str (pv 3) (pv 11) (fun _ _ => rfl)))))))
        pss_nil)
      (pss_one (ps_ret (pv 6)))))))))))), ?_⟩
    refine ⟨(by show 8 ≤ sizeLine; decide), fun p1 hp1 => ?_⟩
    have s1 := Same.new (o := .lst [.str "asked", .str "all", .str "once", .str "back", .str "wait", .str "any", .str "owner", .str "given"]) hp1
    refine ⟨_, rfl, k, rfl, hk, fun H2 p2 s2 hp2 h2 => ?_⟩
    have l2 : ((opts k).map V.str).length = (opts k).length := List.length_map ..
    obtain ⟨v, hv, ha⟩ := fmod_at (xs := (opts k).map V.str) (x := n.fdiv 8) (n := (((opts k).map V.str).length : Int)) rfl (by have := opts_len k; omega)
    obtain ⟨z, hz, rfl⟩ := List.mem_map.mp hv
    obtain ⟨z0, z5⟩ := opts_short k z hz
    have za := opts_asc k z hz
    refine ⟨_, rfl, _, rfl, _, _, rfl, rfl, ⟨by decide, by decide⟩, _, rfl, _, rfl, p2, _, rfl, .inl (SqL.of h2), _, _, rfl, rfl, (show (((opts k).map V.str).length : Int) ≠ 0 by have := opts_len k; omega), p2, _, _, _, rfl, rfl, SqL.of h2, ha, ?_⟩
    refine ⟨_, rfl, _, rfl, _, _, rfl, rfl, (show (8 : Int) ≠ 0 by decide), ?_⟩
    refine ⟨_, rfl, _, _, rfl, rfl, ⟨by decide, by decide⟩, _, rfl, ?_⟩
    -- if way in [3, 4, 5]
    refine ⟨_, rfl, (by show 3 ≤ sizeLine; decide), fun p3 hp3 => ⟨p3, _, rfl, .inl (SqL.of upd_same), rfl, rfl, _, rfl, ?_⟩⟩
    have s12 := Same.tr s1 s2
    have s3 := Same.new (o := .lst [.int 3, .int 4, .int 5]) hp3
    have s13 := Same.tr s12 s3
    have h1 : upd H2 p3 (.lst [.int 3, .int 4, .int 5]) p1 = some (.lst (([("asked" : Str), "all", "once", "back", "wait", "any", "owner", "given"] : List Str).map V.str)) := s3 _ _ (s2 _ _ upd_same)
    refine ite2 (fun _ => ?_) (fun _ => ?_)
    · obtain ⟨v, hv, ha⟩ := fmod_at (xs := ([("asked" : Str), "all", "once", "back", "wait", "any", "owner", "given"] : List Str).map V.str) (x := n.fdiv 24) (n := 8) rfl (by decide)
      obtain ⟨z', hz', rfl⟩ := List.mem_map.mp hv
      exact ⟨_, rfl, _, rfl, _, rfl, _, _, rfl, rfl, (show (8 : Int) ≠ 0 by decide), p1, _, _, _, rfl, rfl, SqL.of h1, ha, hQ _ _ s13 (every_asc _ hz')⟩
    refine ⟨_, rfl, rfl, _, rfl, ?_⟩
    refine ite2 (fun _ => ?_) (fun _ => ?_)
    · -- way == 6
      have zl : (0 : Int) < (z.length : Int) := by omega
      obtain ⟨at0, at1⟩ := fmod_in (x := (n.fdiv 24).fdiv 7) zl
      have zs : z.length ≤ sizeLine := by rw [sizeLine_eq]; omega
      have cut : ∀ lo hi, (cutS z lo hi).length ≤ 5 := fun lo hi => Nat.le_trans (cutS_length z lo hi) z5
      have up : ∀ x : Str, x.length ≤ 5 → (Txt.upper x).length ≤ 15 := fun x hx => Nat.le_trans (PyProof.Rows.len_upper x) (by omega)
      have sm : ∀ n : Nat, n ≤ 100 → n ≤ sizeLine := fun n h => by rw [sizeLine_eq]; omega
      have one : ∀ c : Nat, (⟨#[c]⟩ : Str).length = 1 := fun _ => rfl
      have app : ∀ a b : Str, (a ++ b).length = a.length + b.length := fun a b => by
        show (a.cps ++ b.cps).size = _
        rw [Array.size_append]
        rfl
      have hat : ((n.fdiv 24).fdiv 7).fmod (z.length : Int) < 8 := by omega
      obtain ⟨cc, hcc⟩ : ∃ cc, z.cps[(((n.fdiv 24).fdiv 7).fmod (z.length : Int)).toNat]? = some cc := by
        have q : (((n.fdiv 24).fdiv 7).fmod (z.length : Int)).toNat < z.cps.size := by
          show _ < z.length
          omega
        exact ⟨_, Array.getElem?_eq_getElem q⟩
      refine ⟨_, rfl, _, _, rfl, rfl, ⟨by decide, by decide⟩, _, rfl, _, rfl, _, z.length, rfl, ⟨zs, rfl⟩, _, _, rfl, rfl, by omega, ?_⟩
      refine ⟨_, rfl, _, rfl, _, rfl, z, rfl, zs, _, rfl, _, rfl, _, _, rfl, rfl, _, rfl, z, rfl, zs, _, _, rfl, rfl, sm _ (by have := cut none (some (((n.fdiv 24).fdiv 7).fmod (z.length : Int))); have := cut (some ((((n.fdiv 24).fdiv 7).fmod (z.length : Int)) + 1)) none; omega), ?_⟩
      refine ⟨_, rfl, _, rfl, _, rfl, z, rfl, zs, _, rfl, _, rfl, z, _, cc, rfl, rfl, at0, by omega, at1, hcc, _, _, rfl, rfl, sm _ (by have := cut none (some (((n.fdiv 24).fdiv 7).fmod (z.length : Int))); rw [one]; omega), ?_⟩
      refine ⟨_, rfl, _, rfl, _, rfl, z, rfl, zs, _, _, rfl, rfl, sm _ (by rw [app, one]; have := cut none (some (((n.fdiv 24).fdiv 7).fmod (z.length : Int))); have := cut (some (((n.fdiv 24).fdiv 7).fmod (z.length : Int))) none; omega), ?_⟩
      refine ⟨_, rfl, ⟨_, rfl⟩, z, rfl, rfl, by omega, ?_⟩
      refine ⟨_, rfl, _, _, rfl, rfl, sm _ (by show 1 + z.length ≤ 100; omega), ?_⟩
      refine ⟨_, rfl, _, _, rfl, rfl, sm _ (by show z.length + 1 ≤ 100; omega), ?_⟩
      refine ⟨(by show 5 ≤ sizeLine; decide), fun p4 hp4 => ?_⟩
      obtain ⟨v, hv, ha⟩ : ∃ v : V, (∃ y : Str, v = .str y ∧ y.length ≤ 5 ∧ Asc y) ∧ atI (([("asked" : Str), "all", "once", "back", "wait", "any", "owner", "given"] : List Str).map V.str) (((n.fdiv 24).fdiv 7).fmod (z.length : Int)) = some v := by
        have q : (((n.fdiv 24).fdiv 7).fmod (z.length : Int)).toNat < (([("asked" : Str), "all", "once", "back", "wait", "any", "owner", "given"] : List Str).map V.str).length := by
          show _ < 8
          omega
        refine ⟨_, ?_, atI_int at0 (List.getElem?_eq_getElem q)⟩
        have hm := List.getElem_mem q
        obtain ⟨y, hy, e⟩ := List.mem_map.mp hm
        refine ⟨y, e.symm, ?_, every_asc y hy⟩
        have all : ∀ y ∈ ([("asked" : Str), "all", "once", "back", "wait", "any", "owner", "given"] : List Str), y.length ≤ 5 := by decide
        exact all y hy
      obtain ⟨y, rfl, hy, ya⟩ := hv
      refine ⟨_, rfl, _, rfl, _, rfl, _, rfl, p1, _, _, _, rfl, rfl, SqL.of (Same.new hp4 _ _ h1), ha, _, _, rfl, rfl, sm _ (by omega), ?_⟩
      refine ⟨_, rfl, _, rfl, z, rfl, zs, ⟨_, rfl⟩, _, rfl, rfl, by have := cut none (some 1); omega, _, rfl, _, rfl, z, rfl, zs, _, _, rfl, rfl, sm _ (by have := up _ (cut none (some 1)); have := cut (some 1) none; omega), ?_⟩
      refine ⟨(by show 2 ≤ sizeLine; decide), fun p5 hp5 => ?_⟩
      refine ⟨_, _, _, _, rfl, rfl, Same.new hp5 _ _ upd_same, upd_same, (by show 7 ≤ sizeLine; decide), fun p6 hp6 => ?_⟩
      obtain ⟨v, hv, hat7⟩ : ∃ v : V, (∃ y : Str, v = .str y ∧ Asc y) ∧ atI (([cutS z none (some (((n.fdiv 24).fdiv 7).fmod (z.length : Int))) ++ cutS z (some ((((n.fdiv 24).fdiv 7).fmod (z.length : Int)) + 1)) none, cutS z none (some (((n.fdiv 24).fdiv 7).fmod (z.length : Int))) ++ ⟨#[cc]⟩ ++ cutS z (some (((n.fdiv 24).fdiv 7).fmod (z.length : Int))) none, Txt.upper z, " " ++ z, z ++ " ", z ++ y, Txt.upper (cutS z none (some 1)) ++ cutS z (some 1) none] : List Str).map V.str) ((n.fdiv 24).fmod 7) = some v := by
        obtain ⟨v, hv, ha⟩ := fmod_at (xs := ([cutS z none (some (((n.fdiv 24).fdiv 7).fmod (z.length : Int))) ++ cutS z (some ((((n.fdiv 24).fdiv 7).fmod (z.length : Int)) + 1)) none, cutS z none (some (((n.fdiv 24).fdiv 7).fmod (z.length : Int))) ++ ⟨#[cc]⟩ ++ cutS z (some (((n.fdiv 24).fdiv 7).fmod (z.length : Int))) none, Txt.upper z, " " ++ z, z ++ " ", z ++ y, Txt.upper (cutS z none (some 1)) ++ cutS z (some 1) none] : List Str).map V.str) (x := n.fdiv 24) (n := 7) rfl (by decide)
        obtain ⟨u, hu, e⟩ := List.mem_map.mp hv
        refine ⟨v, ⟨u, e.symm, ?_⟩, ha⟩
        have sp : Asc (" " : Str) := asc_by (by decide +kernel)
        simp only [List.mem_cons, List.not_mem_nil, or_false] at hu
        rcases hu with rfl | rfl | rfl | rfl | rfl | rfl | rfl
        · exact asc_app (asc_cut za _ _) (asc_cut za _ _)
        · exact asc_app (asc_app (asc_cut za _ _) (asc_at za hcc)) (asc_cut za _ _)
        · exact asc_upper za
        · exact asc_app sp za
        · exact asc_app za sp
        · exact asc_app za ya
        · exact asc_app (asc_upper (asc_cut za _ _)) (asc_cut za _ _)
      obtain ⟨u, rfl, ua⟩ := hv
      refine ⟨_, rfl, _, rfl, _, _, rfl, rfl, (show (7 : Int) ≠ 0 by decide), p6, _, _, _, rfl, rfl, SqL.of upd_same, hat7, ?_⟩
      exact hQ _ _ (Same.tr (Same.tr (Same.tr s13 (Same.new hp4)) (Same.new hp5)) (Same.new hp6)) ua
    refine ⟨_, rfl, rfl, _, rfl, ?_⟩
    refine ite2 (fun _ => ?_) (fun _ => ?_)
    · -- way == 7
      obtain ⟨r0, r9⟩ := fmod_in (x := n.fdiv 24) (b := 9) (by decide)
      refine ⟨⟨_, rfl⟩, _, rfl, _, rfl, _, rfl, _, _, rfl, rfl, (show (9 : Int) ≠ 0 by decide), c, _, 26, rfl, r0, by omega, by decide, by decide, fun H4 p4 ns s4 hp4 h4 hl hall => ?_⟩
      refine ⟨p4, rfl, ⟨_, SqL.of h4⟩, fun D hD => ?_⟩
      refine lc_list (K := K) (a := p4) (xs := ns.map V.int) (fun i H' => ∃ acc : List Str, H' D = some (.lst (acc.map V.str)) ∧ Same H4 H' ∧ acc.length = i ∧ (∀ y ∈ acc, y.length = 1 ∧ Asc y)) ⟨[], upd_same, Same.new hD, rfl, List.forall_mem_nil _⟩ (fun i H' _ ⟨_, _, sm, _⟩ => SqL.of (sm _ _ h4)) ?_ ?_
      · rintro i x H' hx ⟨acc, hacc, sm, hlen, hone⟩
        obtain ⟨u, hu, rfl⟩ : ∃ u, ns[i]? = some u ∧ x = V.int u := by
          rw [List.getElem?_map] at hx
          cases e : ns[i]? with
          | none => rw [e] at hx; cases hx
          | some u => rw [e] at hx; exact ⟨u, rfl, (Option.some.inj hx).symm⟩
        obtain ⟨u0, u1⟩ := hall u (List.mem_of_getElem? hu)
        have hi : i < ns.length := (List.getElem?_eq_some_iff.mp hu).1
        obtain ⟨cc, hcc⟩ : ∃ cc, ("abcdefghijklmnopqrstuvwxyz" : Str).cps[u.toNat]? = some cc := by
          have q : u.toNat < ("abcdefghijklmnopqrstuvwxyz" : Str).cps.size := by
            show _ < 26
            omega
          exact ⟨_, Array.getElem?_eq_getElem q⟩
        refine ⟨rfl, _, rfl, _, rfl, _, u, cc, rfl, rfl, u0, by omega, (show u < ((26 : Nat) : Int) by omega), hcc, acc.map V.str, hacc, (by rw [List.length_map, hlen, sizeLine_eq]; omega), acc ++ [⟨#[cc]⟩], ?_, Same.mut sm hD, by simp [hlen], ?_⟩
        · rw [upd_same, List.map_append]
          rfl
        · intro y hy
          rcases List.mem_append.mp hy with hy | hy
          · exact hone y hy
          · rw [List.mem_singleton.mp hy]
            exact ⟨rfl, asc_at (asc_by (by decide +kernel)) hcc⟩
      · rintro H' ⟨acc, hacc, sm, hlen, hone⟩
        have tot : (acc.map (·.length)).sum = acc.length := by
          clear hacc hlen sm
          replace hone : ∀ y ∈ acc, y.length = 1 := fun y hy => (hone y hy).1
          induction acc with
          | nil => rfl
          | cons a r ih =>
            rw [List.map_cons, List.sum_cons, ih fun y hy => hone y (List.mem_cons_of_mem _ hy), hone a List.mem_cons_self, List.length_cons]
            omega
        rw [List.length_map] at hlen
        refine ⟨_, D, acc, rfl, rfl, .inl (SqL.of hacc), ?_, hQ _ _ (Same.tr (Same.tr s13 s4) sm) (asc_join (asc_by (by decide +kernel)) fun y hy => (hone y hy).2)⟩
        show (acc.map (·.length)).sum + acc.length * 0 ≤ 16777216
        omega
    exact ⟨_, rfl, hQ _ _ s13 za⟩
end
end Toy

set_option maxHeartbeats 4000000
namespace Toy
open PySem PySem.Spec PyProof.Rows L2
section
variable {P : Program} {w : World} {K : PySem.W.Frag} {mg : Str → Option Value} {base : Heap}
/-! ### the book -/
def bookFs (st m o k : Str) (l : Addr) : List (Str × V) := [("stop", .str st), ("move", .str m), ("out", .str o), ("marks", .str k), ("pairs", .ref l)]
/-- the first option that its rule lacks -/
def badOf (s m o k : Str) : Option Str :=
  if s ∉ opts 0 then some s else if m ∉ opts 1 then some m else if o ∉ opts 2 then some o else if k ∉ opts 3 then some k else none
def But (x : Addr) (H H' : Hp) : Prop := ∀ a o, a ≠ x → H a = some o → H' a = some o
def spBook (K : PySem.W.Frag) : Sp := fun vs H Q E => ∃ (x dx : Addr) (st m o k : Str), vs = [.ref x, .str st, .str m, .str o, .str k] ∧ H x = some (.ins (He.ga K "Book") dx []) ∧
  (∀ z, badOf st m o k = some z → ∀ (H' : Hp) (d : Addr), Same H H' → H' d = none → E (.ref (He.ga K "BadBook")) (some d) (upd H' d (.xd [("option", .str z)]))) ∧
  (badOf st m o k = none → ∀ (H' : Hp) (l : Addr), But x H H' → H' x = some (.ins (He.ga K "Book") dx (bookFs st m o k l)) → Q .non H')
theorem ok_Book (T : Tx P K mg) : FnOk P w K mg base (L2.CX P w) 2 (He.fAd K ("Book", some "__init__")) T.fd_Book___init__ ["self", "stop", "move", "out", "marks"] (spBook K) := by
  refine okX T.f_Book___init__ sc_Book___init__ (fun vs H Q E h => ?_) (fun cdv A outer s H vs Q E hr h => ?_)
  · obtain ⟨x, dx, st, m, o, k, rfl, _⟩ := h
    rfl
  · obtain ⟨x, dx, st, m, o, k, rfl, hx, hbad, hQ⟩ := h
    refine ⟨_, (pss_cons (ps_for (passes_of rfl) rfl (pi_tup (pe_tup (pa_cons (pe_tup (pa_cons (pv 1) (pa_cons (pe_gref T.g_STOPS) pa_nil))) (pa_cons (pe_tup (pa_cons (pv 2) (pa_cons (pe_gref T.g_MOVES) pa_nil))) (pa_cons (pe_tup (pa_cons (pv 3) (pa_cons (pe_gref T.g_OUTS) pa_nil))) (pa_cons (pe_tup (pa_cons (pv 4) (pa_cons (pe_gref T.g_MARKS) pa_nil))) pa_nil)))))) (pg_tup rfl (pgs_cons (pg_name (i := 5) sc_Book___init__.nd rfl (Or.inl rfl)) (pgs_cons (pg_name (i := 6) sc_Book___init__.nd rfl (Or.inl rfl)) pgs_nil)))
        (pss_one (ps_if (pt_cmpR (notIn_sK (K := K)) (pv 5) (pv 6) rfl)
         (pss_one (ps_raiseE rfl T.e_BadBook hr (takes_of rfl rfl rfl rfl) (pa_cons (pv 5) pa_nil)))
         pss_nil)))
      (pss_cons (ps_fld (pv 0) (pv 1) rfl)
      (pss_cons (ps_fld (pv 0) (pv 2) rfl)
      (pss_cons (ps_fld (pv 0) (pv 3) rfl)
      (pss_cons (ps_fld (pv 0) (pv 4) rfl)
      (pss_one (ps_fld (pv 0) (pe_lst (pa_cons (pe_tup (pa_cons pe_str (pa_cons (pv 1) pa_nil))) (pa_cons (pe_tup (pa_cons pe_str (pa_cons (pv 2) pa_nil))) (pa_cons (pe_tup (pa_cons pe_str (pa_cons (pv 3) pa_nil))) (pa_cons (pe_tup (pa_cons pe_str (pa_cons (pv 4) pa_nil))) pa_nil))))) rfl))))))), ?_⟩
    refine ⟨_, rfl, (by show 2 ≤ sizeLine; decide), fun a ha => ⟨_, rfl, (by show 2 ≤ sizeLine; decide), fun b hb => ⟨_, rfl, (by show 2 ≤ sizeLine; decide), fun c hc => ⟨_, rfl, (by show 2 ≤ sizeLine; decide), fun d hd => ⟨(by show 4 ≤ sizeLine; decide), fun t ht => ?_⟩⟩⟩⟩⟩
    have sa := Same.new (o := .tup [.str st, .ref (He.ga K "STOPS")]) ha
    have sb := Same.new (o := .tup [.str m, .ref (He.ga K "MOVES")]) hb
    have sc := Same.new (o := .tup [.str o, .ref (He.ga K "OUTS")]) hc
    have sd := Same.new (o := .tup [.str k, .ref (He.ga K "MARKS")]) hd
    have stt := Same.new (o := .tup [.ref a, .ref b, .ref c, .ref d]) ht
    have tot := Same.tr (Same.tr (Same.tr (Same.tr sa sb) sc) sd) stt
    generalize hHt : upd (upd (upd (upd (upd H a _) b _) c _) d _) t _ = Ht at *
    have ga : Ht a = some (.tup [.str st, .ref (He.ga K "STOPS")]) := stt _ _ (sd _ _ (sc _ _ (sb _ _ upd_same)))
    have gb : Ht b = some (.tup [.str m, .ref (He.ga K "MOVES")]) := stt _ _ (sd _ _ (sc _ _ upd_same))
    have gc : Ht c = some (.tup [.str o, .ref (He.ga K "OUTS")]) := stt _ _ (sd _ _ upd_same)
    have gd : Ht d = some (.tup [.str k, .ref (He.ga K "MARKS")]) := stt _ _ upd_same
    have gt : Ht t = some (.tup [.ref a, .ref b, .ref c, .ref d]) := by rw [← hHt]; exact upd_same
    refine ⟨t, rfl, ⟨_, SqT.of gt⟩, for_tup (K := K) (a := t) (xs := [.ref a, .ref b, .ref c, .ref d]) (fun i σ H1 => ∃ v5 v6, σ = [some (.ref x), some (.str st), some (.str m), some (.str o), some (.str k), v5, v6] ∧ H1 = Ht ∧ (0 < i → st ∈ opts 0) ∧ (1 < i → m ∈ opts 1) ∧ (2 < i → o ∈ opts 2) ∧ (3 < i → k ∈ opts 3)) ⟨none, none, rfl, rfl, by omega, by omega, by omega, by omega⟩ (fun i σ H1 _ ⟨_, _, _, e, _⟩ => by rw [e]; exact SqT.of gt) ?_ ?_⟩
    · rintro i y σ H1 hy ⟨v5, v6, rfl, rfl, g0, g1, g2, g3⟩
      match i, hy with
      | 0, hy =>
        cases hy
        refine ⟨a, _, rfl, SqT.of ga, rfl, _, _, rfl, _, _, rfl, rfl, ?_⟩
        refine ⟨_, rfl, _, rfl, _, _, rfl, .inr (T.t_STOPS _), rfl, rfl, _, rfl, ?_⟩
        refine ite2 (fun h => ?_) (fun h => ?_)
        · have hn : st ∉ opts 0 := by
            have h' : (!inV (.str st) ((opts 0).map V.str)) = true := h
            rw [inV_map] at h'
            simpa using h'
          exact ⟨_, rfl, rfl, fun e he => hbad st (by unfold badOf; rw [if_pos hn]) _ e tot he⟩
        · have hn : st ∈ opts 0 := by
            have h' : ¬ (!inV (.str st) ((opts 0).map V.str)) = true := h
            rw [inV_map] at h'
            simpa using h'
          exact ⟨_, _, rfl, rfl, fun _ => hn, by omega, by omega, by omega⟩
      | 1, hy =>
        cases hy
        refine ⟨b, _, rfl, SqT.of gb, rfl, _, _, rfl, _, _, rfl, rfl, ?_⟩
        refine ⟨_, rfl, _, rfl, _, _, rfl, .inr (T.t_MOVES _), rfl, rfl, _, rfl, ?_⟩
        have y0 := g0 (by omega)
        refine ite2 (fun h => ?_) (fun h => ?_)
        · have hn : m ∉ opts 1 := by
            have h' : (!inV (.str m) ((opts 1).map V.str)) = true := h
            rw [inV_map] at h'
            simpa using h'
          exact ⟨_, rfl, rfl, fun e he => hbad m (by unfold badOf; rw [if_neg (by simpa using y0), if_pos hn]) _ e tot he⟩
        · have hn : m ∈ opts 1 := by
            have h' : ¬ (!inV (.str m) ((opts 1).map V.str)) = true := h
            rw [inV_map] at h'
            simpa using h'
          exact ⟨_, _, rfl, rfl, fun _ => y0, fun _ => hn, by omega, by omega⟩
      | 2, hy =>
        cases hy
        refine ⟨c, _, rfl, SqT.of gc, rfl, _, _, rfl, _, _, rfl, rfl, ?_⟩
        refine ⟨_, rfl, _, rfl, _, _, rfl, .inr (T.t_OUTS _), rfl, rfl, _, rfl, ?_⟩
        have y0 := g0 (by omega)
        have y1 := g1 (by omega)
        refine ite2 (fun h => ?_) (fun h => ?_)
        · have hn : o ∉ opts 2 := by
            have h' : (!inV (.str o) ((opts 2).map V.str)) = true := h
            rw [inV_map] at h'
            simpa using h'
          exact ⟨_, rfl, rfl, fun e he => hbad o (by unfold badOf; rw [if_neg (by simpa using y0), if_neg (by simpa using y1), if_pos hn]) _ e tot he⟩
        · have hn : o ∈ opts 2 := by
            have h' : ¬ (!inV (.str o) ((opts 2).map V.str)) = true := h
            rw [inV_map] at h'
            simpa using h'
          exact ⟨_, _, rfl, rfl, fun _ => y0, fun _ => y1, fun _ => hn, by omega⟩
      | 3, hy =>
        cases hy
        refine ⟨d, _, rfl, SqT.of gd, rfl, _, _, rfl, _, _, rfl, rfl, ?_⟩
        refine ⟨_, rfl, _, rfl, _, _, rfl, .inr (T.t_MARKS _), rfl, rfl, _, rfl, ?_⟩
        have y0 := g0 (by omega)
        have y1 := g1 (by omega)
        have y2 := g2 (by omega)
        refine ite2 (fun h => ?_) (fun h => ?_)
        · have hn : k ∉ opts 3 := by
            have h' : (!inV (.str k) ((opts 3).map V.str)) = true := h
            rw [inV_map] at h'
            simpa using h'
          exact ⟨_, rfl, rfl, fun e he => hbad k (by unfold badOf; rw [if_neg (by simpa using y0), if_neg (by simpa using y1), if_neg (by simpa using y2), if_pos hn]) _ e tot he⟩
        · have hn : k ∈ opts 3 := by
            have h' : ¬ (!inV (.str k) ((opts 3).map V.str)) = true := h
            rw [inV_map] at h'
            simpa using h'
          exact ⟨_, _, rfl, rfl, fun _ => y0, fun _ => y1, fun _ => y2, fun _ => hn⟩
    · rintro σ H1 ⟨v5, v6, rfl, rfl, g0, g1, g2, g3⟩
      have ok : badOf st m o k = none := by
        unfold badOf
        rw [if_neg (by simpa using g0 (by show 0 < 4; omega)), if_neg (by simpa using g1 (by show 1 < 4; omega)), if_neg (by simpa using g2 (by show 2 < 4; omega)), if_neg (by simpa using g3 (by show 3 < 4; omega))]
      have hx1 := tot _ _ hx
      refine ⟨_, rfl, _, rfl, x, _, dx, _, rfl, hx1, T.c_Book, T.n_Book_stop, (by decide), ?_⟩
      refine ⟨_, rfl, _, rfl, x, _, dx, _, rfl, upd_same, T.c_Book, T.n_Book_move, Nat.lt_of_le_of_lt (putF_le (Nat.le_refl 0)) (by decide), ?_⟩
      refine ⟨_, rfl, _, rfl, x, _, dx, _, rfl, upd_same, T.c_Book, T.n_Book_out, Nat.lt_of_le_of_lt (putF_le (putF_le (Nat.le_refl 0))) (by decide), ?_⟩
      refine ⟨_, rfl, _, rfl, x, _, dx, _, rfl, upd_same, T.c_Book, T.n_Book_marks, Nat.lt_of_le_of_lt (putF_le (putF_le (putF_le (Nat.le_refl 0)))) (by decide), ?_⟩
      refine ⟨_, rfl, (by show 2 ≤ sizeLine; decide), fun q1 hq1 => ⟨_, rfl, (by show 2 ≤ sizeLine; decide), fun q2 hq2 => ⟨_, rfl, (by show 2 ≤ sizeLine; decide), fun q3 hq3 => ⟨_, rfl, (by show 2 ≤ sizeLine; decide), fun q4 hq4 => ⟨(by show 4 ≤ sizeLine; decide), fun q5 hq5 => ?_⟩⟩⟩⟩⟩
      have k1 := Same.new (o := .tup [.str "stop", .str st]) hq1
      have k2 := Same.new (o := .tup [.str "move", .str m]) hq2
      have k3 := Same.new (o := .tup [.str "out", .str o]) hq3
      have k4 := Same.new (o := .tup [.str "marks", .str k]) hq4
      have k5 := Same.new (o := .lst [.ref q1, .ref q2, .ref q3, .ref q4]) hq5
      have kk := Same.tr (Same.tr (Same.tr (Same.tr k1 k2) k3) k4) k5
      have hx2 := kk _ _ upd_same
      refine ⟨_, rfl, x, _, dx, _, rfl, hx2, T.c_Book, T.n_Book_pairs, Nat.lt_of_le_of_lt (putF_le (putF_le (putF_le (putF_le (Nat.le_refl 0))))) (by decide), ?_⟩
      refine hQ ok _ q5 (fun p u n e => ?_) ?_
      · rw [upd_ne n]
        refine kk _ _ ?_
        rw [upd_ne n, upd_ne n, upd_ne n, upd_ne n]
        exact tot _ _ e
      · rw [upd_same]
        kernel_rfl
end
end Toy

set_option maxHeartbeats 4000000
namespace Toy
open PySem PySem.Spec PyProof.Rows L2
section
variable {P : Program} {w : World} {K : PySem.W.Frag} {mg : Str → Option Value} {base : Heap}
/-! ### a book made by keywords -/
def usedOf (form : Nat) : List Nat := match form with
  | 0 => [0, 1, 2, 3]
  | 1 => [0, 1, 2, 3]
  | 2 => [0, 1, 2, 3]
  | 3 => [3]
  | 4 => [0, 1]
  | 5 => [0]
  | _ => [2, 3]
def dueOf (ws : List Str) (form : Nat) (k : Nat) : Str := if k ∈ usedOf form then ws.getD k "" else ([("asked" : Str), "once", "once", "any"] : List Str).getD k ""
def badM (ws : List Str) (form : Nat) : Option Str := badOf (dueOf ws form 0) (dueOf ws form 1) (dueOf ws form 2) (dueOf ws form 3)
def spMade (K : PySem.W.Frag) : Sp := fun vs H Q E => ∃ (a : Addr) (w0 w1 w2 w3 : Str) (form : Nat), vs = [.ref a, .int form] ∧ form < 7 ∧ SqL K H a ([w0, w1, w2, w3].map V.str) ∧
  (∀ z, badM [w0, w1, w2, w3] form = some z → ∀ (H' : Hp) (d : Addr), Same H H' → H' d = none → E (.ref (He.ga K "BadBook")) (some d) (upd H' d (.xd [("option", .str z)]))) ∧
  (badM [w0, w1, w2, w3] form = none → ∀ (H' : Hp) (x dx l : Addr), Same H H' → H' x = some (.ins (He.ga K "Book") dx (bookFs (dueOf [w0, w1, w2, w3] form 0) (dueOf [w0, w1, w2, w3] form 1) (dueOf [w0, w1, w2, w3] form 2) (dueOf [w0, w1, w2, w3] form 3) l)) → Q (.ref x) H')
theorem kb4 (T : Tx P K mg) (ks : List Str) (g : {α : Type} → List α → List α → List α → List α) (hks : ks.length = 4) (hrel : ∀ {vs mz zs : List V} {us mv ws : List Value}, Vals vs us → Vals mz mv → Vals zs ws → Vals (g vs mz zs) (g us mv ws))
    (h : ∀ (D : Addr) (doc pm : Value) (an : Option Addr) (cdv ct u a b c d : Value), bindArgs (PySem.W.fnOf "__init__" "Book.__init__" (defArgs s_Book___init__) (defBody s_Book___init__) (defScope s_Book___init__) .none (.ref D) doc pm an cdv ct) ⟨[u], ks.zip [a, b, c, d]⟩ = pure ((["self", "stop", "move", "out", "marks"] : List Str).zip (g [u] [] [a, b, c, d]))) :
    ∃ mv : List Value, KBn K T.fd_Book___init__ ["self", "stop", "move", "out", "marks"] 1 ks (fun us ws => g us mv ws) (fun vs zs => g vs [] zs) :=
  T.f_Book___init__.kbinds0 1 ks [] g (by simp) (by simp) hrel (fun D doc pm an cdv ct us mv ws h1 h2 h3 => by
    rw [hks] at h3
    match us, mv, ws, h1, h2, h3 with
    | [u], [], [a, b, c, d], _, _, _ => exact h D doc pm an cdv ct u a b c d)
def pick {α : Type} (l : List Nat) (xs : List α) : List α := l.filterMap fun i => xs[i]?
theorem pick_rel {xs : List V} {us : List Value} (r : Vals xs us) : ∀ l : List Nat, Vals (pick l xs) (pick l us)
  | [] => .nil
  | i :: l => by
    have ih := pick_rel r l
    unfold pick at ih ⊢
    rw [List.filterMap_cons, List.filterMap_cons]
    cases e : xs[i]? with
    | none =>
      rw [r.none_of e]
      exact ih
    | some x =>
      obtain ⟨u, e2, ru⟩ := r.get e
      rw [e2]
      exact .cons ru ih
abbrev oo (l : List Nat) {α : Type} (vs mz zs : List α) : List α := pick l (vs ++ (mz ++ zs))
theorem oo_rel (l : List Nat) {vs mz zs : List V} {us mv ws : List Value} (a : Vals vs us) (b : Vals mz mv) (c : Vals zs ws) : Vals (oo l vs mz zs) (oo l us mv ws) := pick_rel (a.append (b.append c)) l
theorem KB0 (T : Tx P K mg) : ∃ mv : List Value, KBn K T.fd_Book___init__ ["self", "stop", "move", "out", "marks"] 1 ["stop", "move", "out", "marks"] (fun us ws => oo [0, 1, 2, 3, 4] us mv ws) (fun vs zs => oo [0, 1, 2, 3, 4] vs [] zs) :=
  kb4 T _ (oo [0, 1, 2, 3, 4]) rfl (oo_rel _) (fun _ _ _ _ _ _ _ _ _ _ _ => rfl)
theorem KB1 (T : Tx P K mg) : ∃ mv : List Value, KBn K T.fd_Book___init__ ["self", "stop", "move", "out", "marks"] 1 ["marks", "out", "move", "stop"] (fun us ws => oo [0, 4, 3, 2, 1] us mv ws) (fun vs zs => oo [0, 4, 3, 2, 1] vs [] zs) :=
  kb4 T _ (oo [0, 4, 3, 2, 1]) rfl (oo_rel _) (fun _ _ _ _ _ _ _ _ _ _ _ => rfl)
theorem KB2 (T : Tx P K mg) : ∃ mv : List Value, KBn K T.fd_Book___init__ ["self", "stop", "move", "out", "marks"] 1 ["out", "stop", "marks", "move"] (fun us ws => oo [0, 2, 4, 1, 3] us mv ws) (fun vs zs => oo [0, 2, 4, 1, 3] vs [] zs) :=
  kb4 T _ (oo [0, 2, 4, 1, 3]) rfl (oo_rel _) (fun _ _ _ _ _ _ _ _ _ _ _ => rfl)
/-- stop, move, out lack: the default's values come ahead of the passed one -/
theorem KB3 (T : Tx P K mg) : ∃ mv : List Value, KBn K T.fd_Book___init__ ["self", "stop", "move", "out", "marks"] 1 ["marks"] (fun us ws => oo [0, 1, 2, 3, 4] us mv ws) (fun vs zs => oo [0, 1, 2, 3, 4] vs [.str "asked", .str "once", .str "once"] zs) :=
  T.f_Book___init__.kbinds0 1 ["marks"] [("stop", .str "asked"), ("move", .str "once"), ("out", .str "once")] (oo [0, 1, 2, 3, 4]) (by simp) (by simp) (oo_rel _) (fun D doc pm an cdv ct us mv ws h1 h2 h3 => by
    match us, mv, ws, h1, h2, h3 with
    | [u], [p, q, r], [a], _, _, _ => exact ⟨_, _, _, _, _, _, rfl, rfl, _, _, _, _, _, _, rfl, rfl, _, _, _, _, _, _, rfl, rfl, rfl⟩)
theorem KB4 (T : Tx P K mg) : ∃ mv : List Value, KBn K T.fd_Book___init__ ["self", "stop", "move", "out", "marks"] 1 ["move", "stop"] (fun us ws => oo [0, 4, 3, 1, 2] us mv ws) (fun vs zs => oo [0, 4, 3, 1, 2] vs [.str "once", .str "any"] zs) :=
  T.f_Book___init__.kbinds0 1 ["move", "stop"] [("out", .str "once"), ("marks", .str "any")] (oo [0, 4, 3, 1, 2]) (by simp) (by simp) (oo_rel _) (fun D doc pm an cdv ct us mv ws h1 h2 h3 => by
    match us, mv, ws, h1, h2, h3 with
    | [u], [p, q], [a, b], _, _, _ => exact ⟨_, _, _, _, _, _, rfl, rfl, _, _, _, _, _, _, rfl, rfl, rfl⟩)
theorem KB5 (T : Tx P K mg) : ∃ mv : List Value, KBn K T.fd_Book___init__ ["self", "stop", "move", "out", "marks"] 1 ["stop"] (fun us ws => oo [0, 4, 1, 2, 3] us mv ws) (fun vs zs => oo [0, 4, 1, 2, 3] vs [.str "once", .str "once", .str "any"] zs) :=
  T.f_Book___init__.kbinds0 1 ["stop"] [("move", .str "once"), ("out", .str "once"), ("marks", .str "any")] (oo [0, 4, 1, 2, 3]) (by simp) (by simp) (oo_rel _) (fun D doc pm an cdv ct us mv ws h1 h2 h3 => by
    match us, mv, ws, h1, h2, h3 with
    | [u], [p, q, r], [a], _, _, _ => exact ⟨_, _, _, _, _, _, rfl, rfl, _, _, _, _, _, _, rfl, rfl, _, _, _, _, _, _, rfl, rfl, rfl⟩)
theorem KB6 (T : Tx P K mg) : ∃ mv : List Value, KBn K T.fd_Book___init__ ["self", "stop", "move", "out", "marks"] 1 ["marks", "out"] (fun us ws => oo [0, 1, 2, 4, 3] us mv ws) (fun vs zs => oo [0, 1, 2, 4, 3] vs [.str "asked", .str "once"] zs) :=
  T.f_Book___init__.kbinds0 1 ["marks", "out"] [("stop", .str "asked"), ("move", .str "once")] (oo [0, 1, 2, 4, 3]) (by simp) (by simp) (oo_rel _) (fun D doc pm an cdv ct us mv ws h1 h2 h3 => by
    match us, mv, ws, h1, h2, h3 with
    | [u], [p, q], [a, b], _, _, _ => exact ⟨_, _, _, _, _, _, rfl, rfl, _, _, _, _, _, _, rfl, rfl, rfl⟩)
theorem ok__law_made (T : Tx P K mg) : FnOk P w K mg base (L2.CX P w) 4 (He.fAd K ("_law_made", none)) T.fd__law_made ["words", "form"] (spMade K) := by
  have G_Book : FnOk P w K mg base (L2.CX P w) 2 _ _ _ _ := ok_Book T
  obtain ⟨_, KB_1⟩ := KB0 T
  obtain ⟨_, KB_2⟩ := KB1 T
  obtain ⟨_, KB_3⟩ := KB2 T
  obtain ⟨_, KB_4⟩ := KB3 T
  obtain ⟨_, KB_5⟩ := KB4 T
  obtain ⟨_, KB_6⟩ := KB5 T
  obtain ⟨_, KB_7⟩ := KB6 T
  refine okX T.f__law_made sc__law_made (fun vs H Q E h => ?_) (fun cdv A outer s H vs Q E hr h => ?_)
  · obtain ⟨a, w0, w1, w2, w3, form, rfl, _⟩ := h
    rfl
  · obtain ⟨a, w0, w1, w2, w3, form, rfl, hf, hS, hbad, hQ⟩ := h
    refine ⟨_, (pss_cons (ps_if (pt_cmpR op_eq (pv 1) pe_int (nomark _))
        (pss_one (ps_ret (pe_makeK0 T.k_Book G_Book (hr.mono (by decide)) rfl T.g_Book KB_1 (passes_call (takes_of rfl rfl rfl rfl) (fun _ _ _ _ h => h)) (pk_cons (pe_ix (ix_lK (K := K)) (pv 0) pe_int (fun _ _ => rfl)) (pk_cons (pe_ix (ix_lK (K := K)) (pv 0) pe_int (fun _ _ => rfl)) (pk_cons (pe_ix (ix_lK (K := K)) (pv 0) pe_int (fun _ _ => rfl)) (pk_cons (pe_ix (ix_lK (K := K)) (pv 0) pe_int (fun _ _ => rfl)) pk_nil)))))))
        pss_nil)
      (pss_cons (ps_if (pt_cmpR op_eq (pv 1) pe_int (nomark _))
        (pss_one (ps_ret (pe_makeK0 T.k_Book G_Book (hr.mono (by decide)) rfl T.g_Book KB_2 (passes_call (takes_of rfl rfl rfl rfl) (fun _ _ _ _ h => h)) (pk_cons (pe_ix (ix_lK (K := K)) (pv 0) pe_int (fun _ _ => rfl)) (pk_cons (pe_ix (ix_lK (K := K)) (pv 0) pe_int (fun _ _ => rfl)) (pk_cons (pe_ix (ix_lK (K := K)) (pv 0) pe_int (fun _ _ => rfl)) (pk_cons (pe_ix (ix_lK (K := K)) (pv 0) pe_int (fun _ _ => rfl)) pk_nil)))))))
        pss_nil)
      (pss_cons (ps_if (pt_cmpR op_eq (pv 1) pe_int (nomark _))
        (pss_one (ps_ret (pe_makeK0 T.k_Book G_Book (hr.mono (by decide)) rfl T.g_Book KB_3 (passes_call (takes_of rfl rfl rfl rfl) (fun _ _ _ _ h => h)) (pk_cons (pe_ix (ix_lK (K := K)) (pv 0) pe_int (fun _ _ => rfl)) (pk_cons (pe_ix (ix_lK (K := K)) (pv 0) pe_int (fun _ _ => rfl)) (pk_cons (pe_ix (ix_lK (K := K)) (pv 0) pe_int (fun _ _ => rfl)) (pk_cons (pe_ix (ix_lK (K := K)) (pv 0) pe_int (fun _ _ => rfl)) pk_nil)))))))
        pss_nil)
      (pss_cons (ps_if (pt_cmpR op_eq (pv 1) pe_int (nomark _))
        (pss_one (ps_ret (pe_makeK0 T.k_Book G_Book (hr.mono (by decide)) rfl T.g_Book KB_4 (passes_call (takes_of rfl rfl rfl rfl) (fun _ _ _ _ h => h)) (pk_cons (pe_ix (ix_lK (K := K)) (pv 0) pe_int (fun _ _ => rfl)) pk_nil))))
        pss_nil)
      (pss_cons (ps_if (pt_cmpR op_eq (pv 1) pe_int (nomark _))
        (pss_one (ps_ret (pe_makeK0 T.k_Book G_Book (hr.mono (by decide)) rfl T.g_Book KB_5 (passes_call (takes_of rfl rfl rfl rfl) (fun _ _ _ _ h => h)) (pk_cons (pe_ix (ix_lK (K := K)) (pv 0) pe_int (fun _ _ => rfl)) (pk_cons (pe_ix (ix_lK (K := K)) (pv 0) pe_int (fun _ _ => rfl)) pk_nil)))))
        pss_nil)
      (pss_cons (ps_if (pt_cmpR op_eq (pv 1) pe_int (nomark _))
        (pss_one (ps_ret (pe_makeK0 T.k_Book G_Book (hr.mono (by decide)) rfl T.g_Book KB_6 (passes_call (takes_of rfl rfl rfl rfl) (fun _ _ _ _ h => h)) (pk_cons (pe_ix (ix_lK (K := K)) (pv 0) pe_int (fun _ _ => rfl)) pk_nil))))
        pss_nil)
      (pss_one (ps_ret (pe_makeK0 T.k_Book G_Book (hr.mono (by decide)) rfl T.g_Book KB_7 (passes_call (takes_of rfl rfl rfl rfl) (fun _ _ _ _ h => h)) (pk_cons (pe_ix (ix_lK (K := K)) (pv 0) pe_int (fun _ _ => rfl)) (pk_cons (pe_ix (ix_lK (K := K)) (pv 0) pe_int (fun _ _ => rfl)) pk_nil))))))))))), ?_⟩
    have fin : ∀ (st m o k : Str) (E' : XK), (∀ c d H, E c d H → E' c d H) → badM [w0, w1, w2, w3] form = badOf st m o k → dueOf [w0, w1, w2, w3] form 0 = st → dueOf [w0, w1, w2, w3] form 1 = m → dueOf [w0, w1, w2, w3] form 2 = o → dueOf [w0, w1, w2, w3] form 3 = k →
        ∀ x dx, H x = none → H dx = none → dx ≠ x → spBook K [.ref x, .str st, .str m, .str o, .str k] (upd (upd H dx (.own x)) x (.ins (He.ga K "Book") dx [])) (fun v H3 => v = .non ∧ Q (.ref x) H3) E' := by
      intro st m o k E' hE hb e0 e1 e2 e3 x dx hx hdx ne
      have s1 : Same H (upd (upd H dx (.own x)) x (.ins (He.ga K "Book") dx [])) := Same.mut (Same.new hdx) hx
      refine ⟨x, dx, st, m, o, k, rfl, upd_same, fun z hz H' d sm hd => hE _ _ _ (hbad z (hb.trans hz) H' d (Same.tr s1 sm) hd), fun hz H' l bt hx' => ⟨rfl, ?_⟩⟩
      refine hQ (hb.trans hz) H' x dx l (fun p u e => ?_) ?_
      · exact bt _ _ (ne_of_none e hx) (s1 _ _ e)
      · rw [e0, e1, e2, e3]
        exact hx'
    match form, hf with
    | 0, _ =>
      refine ⟨_, rfl, rfl, _, rfl, ?_⟩
      refine ⟨_, rfl, a, _, _, _, rfl, rfl, hS, rfl, _, rfl, a, _, _, _, rfl, rfl, hS, rfl, _, rfl, a, _, _, _, rfl, rfl, hS, rfl, _, rfl, a, _, _, _, rfl, rfl, hS, rfl, rfl, rfl, ?_⟩
      exact fin w0 w1 w2 w3 _ (fun _ _ _ h => h) rfl rfl rfl rfl rfl
    | 1, _ =>
      refine ⟨_, rfl, rfl, _, rfl, _, rfl, rfl, _, rfl, ?_⟩
      refine ⟨_, rfl, a, _, _, _, rfl, rfl, hS, rfl, _, rfl, a, _, _, _, rfl, rfl, hS, rfl, _, rfl, a, _, _, _, rfl, rfl, hS, rfl, _, rfl, a, _, _, _, rfl, rfl, hS, rfl, rfl, rfl, ?_⟩
      exact fin w0 w1 w2 w3 _ (fun _ _ _ h => h) rfl rfl rfl rfl rfl
    | 2, _ =>
      refine ⟨_, rfl, rfl, _, rfl, _, rfl, rfl, _, rfl, _, rfl, rfl, _, rfl, ?_⟩
      refine ⟨_, rfl, a, _, _, _, rfl, rfl, hS, rfl, _, rfl, a, _, _, _, rfl, rfl, hS, rfl, _, rfl, a, _, _, _, rfl, rfl, hS, rfl, _, rfl, a, _, _, _, rfl, rfl, hS, rfl, rfl, rfl, ?_⟩
      exact fin w0 w1 w2 w3 _ (fun _ _ _ h => h) rfl rfl rfl rfl rfl
    | 3, _ =>
      refine ⟨_, rfl, rfl, _, rfl, _, rfl, rfl, _, rfl, _, rfl, rfl, _, rfl, _, rfl, rfl, _, rfl, ?_⟩
      refine ⟨_, rfl, a, _, _, _, rfl, rfl, hS, rfl, rfl, rfl, ?_⟩
      exact fin "asked" "once" "once" w3 _ (fun _ _ _ h => h) rfl rfl rfl rfl rfl
    | 4, _ =>
      refine ⟨_, rfl, rfl, _, rfl, _, rfl, rfl, _, rfl, _, rfl, rfl, _, rfl, _, rfl, rfl, _, rfl, _, rfl, rfl, _, rfl, ?_⟩
      refine ⟨_, rfl, a, _, _, _, rfl, rfl, hS, rfl, _, rfl, a, _, _, _, rfl, rfl, hS, rfl, rfl, rfl, ?_⟩
      exact fin w0 w1 "once" "any" _ (fun _ _ _ h => h) rfl rfl rfl rfl rfl
    | 5, _ =>
      refine ⟨_, rfl, rfl, _, rfl, _, rfl, rfl, _, rfl, _, rfl, rfl, _, rfl, _, rfl, rfl, _, rfl, _, rfl, rfl, _, rfl, _, rfl, rfl, _, rfl, ?_⟩
      refine ⟨_, rfl, a, _, _, _, rfl, rfl, hS, rfl, rfl, rfl, ?_⟩
      exact fin w0 "once" "once" "any" _ (fun _ _ _ h => h) rfl rfl rfl rfl rfl
    | 6, _ =>
      refine ⟨_, rfl, rfl, _, rfl, _, rfl, rfl, _, rfl, _, rfl, rfl, _, rfl, _, rfl, rfl, _, rfl, _, rfl, rfl, _, rfl, _, rfl, rfl, _, rfl, ?_⟩
      refine ⟨_, rfl, a, _, _, _, rfl, rfl, hS, rfl, _, rfl, a, _, _, _, rfl, rfl, hS, rfl, rfl, rfl, ?_⟩
      exact fin "asked" "once" w2 w3 _ (fun _ _ _ h => h) rfl rfl rfl rfl rfl
end
end Toy

set_option maxHeartbeats 4000000
namespace Toy
open PySem PySem.Spec PyProof.Rows L2
section
variable {P : Program} {w : World} {K : PySem.W.Frag} {mg : Str → Option Value} {base : Heap}
/-! ### the law -/
def wrongL (ws : List Str) (l : List Nat) : List Str := l.filterMap fun k => if ws.getD k "" ∈ opts k then none else some (ws.getD k "")
def dueStep (ws : List Str) (l : List Nat) : List Str := l.foldl (fun d k => d.set k (ws.getD k "")) ["asked", "once", "once", "any"]
theorem bad_is (w0 w1 w2 w3 : Str) {f : Nat} (hf : f < 7) : badM [w0, w1, w2, w3] f = (wrongL [w0, w1, w2, w3] (usedOf f)).head? := by
  have a0 : ("asked" : Str) ∈ opts 0 := by decide
  have a1 : ("once" : Str) ∈ opts 1 := by decide
  have a2 : ("once" : Str) ∈ opts 2 := by decide
  have a3 : ("any" : Str) ∈ opts 3 := by decide
  match f, hf with
  | 0, _ =>
    show badOf w0 w1 w2 w3 = (wrongL [w0, w1, w2, w3] [0, 1, 2, 3]).head?
    unfold badOf wrongL
    by_cases h0 : w0 ∈ opts 0 <;> by_cases h1 : w1 ∈ opts 1 <;> by_cases h2 : w2 ∈ opts 2 <;> by_cases h3 : w3 ∈ opts 3 <;> simp [h0, h1, h2, h3]
  | 1, _ =>
    show badOf w0 w1 w2 w3 = (wrongL [w0, w1, w2, w3] [0, 1, 2, 3]).head?
    unfold badOf wrongL
    by_cases h0 : w0 ∈ opts 0 <;> by_cases h1 : w1 ∈ opts 1 <;> by_cases h2 : w2 ∈ opts 2 <;> by_cases h3 : w3 ∈ opts 3 <;> simp [h0, h1, h2, h3]
  | 2, _ =>
    show badOf w0 w1 w2 w3 = (wrongL [w0, w1, w2, w3] [0, 1, 2, 3]).head?
    unfold badOf wrongL
    by_cases h0 : w0 ∈ opts 0 <;> by_cases h1 : w1 ∈ opts 1 <;> by_cases h2 : w2 ∈ opts 2 <;> by_cases h3 : w3 ∈ opts 3 <;> simp [h0, h1, h2, h3]
  | 3, _ =>
    show badOf "asked" "once" "once" w3 = (wrongL [w0, w1, w2, w3] [3]).head?
    unfold badOf wrongL
    by_cases h3 : w3 ∈ opts 3 <;> simp [a0, a1, a2, h3]
  | 4, _ =>
    show badOf w0 w1 "once" "any" = (wrongL [w0, w1, w2, w3] [0, 1]).head?
    unfold badOf wrongL
    by_cases h0 : w0 ∈ opts 0 <;> by_cases h1 : w1 ∈ opts 1 <;> simp [h0, h1, a2, a3]
  | 5, _ =>
    show badOf w0 "once" "once" "any" = (wrongL [w0, w1, w2, w3] [0]).head?
    unfold badOf wrongL
    by_cases h0 : w0 ∈ opts 0 <;> simp [h0, a1, a2, a3]
  | 6, _ =>
    show badOf "asked" "once" w2 w3 = (wrongL [w0, w1, w2, w3] [2, 3]).head?
    unfold badOf wrongL
    by_cases h2 : w2 ∈ opts 2 <;> by_cases h3 : w3 ∈ opts 3 <;> simp [h2, h3, a0, a1]
theorem due_is (w0 w1 w2 w3 : Str) {f : Nat} (hf : f < 7) : dueStep [w0, w1, w2, w3] (usedOf f) = [dueOf [w0, w1, w2, w3] f 0, dueOf [w0, w1, w2, w3] f 1, dueOf [w0, w1, w2, w3] f 2, dueOf [w0, w1, w2, w3] f 3] := by
  match f, hf with
  | 0, _ => rfl
  | 1, _ => rfl
  | 2, _ => rfl
  | 3, _ => rfl
  | 4, _ => rfl
  | 5, _ => rfl
  | 6, _ => rfl
theorem used_lt (f : Nat) : ∀ k ∈ usedOf f, k < 4 := by
  match f with
  | 0 => decide
  | 1 => decide
  | 2 => decide
  | 3 => decide
  | 4 => decide
  | 5 => decide
  | _ + 6 => show ∀ k ∈ ([2, 3] : List Nat), k < 4; decide
theorem take_snoc {α : Type} {l : List α} {i : Nat} {x : α} (h : l[i]? = some x) : l.take (i + 1) = l.take i ++ [x] := by
  rw [List.take_succ, h]
  rfl
theorem asc_wrong {ws : List Str} (h : ∀ z ∈ ws, Asc z) {l : List Nat} (hl : ∀ k ∈ l, k < 4) : ∀ z ∈ wrongL ws l, Asc z := fun z hz => by
  obtain ⟨k, _, e⟩ := List.mem_filterMap.mp hz
  by_cases c : ws.getD k "" ∈ opts k
  · rw [if_pos c] at e
    cases e
  · rw [if_neg c] at e
    cases e
    by_cases hk : k < ws.length
    · have q : ws.getD k "" = ws[k] := by
        rw [List.getD_eq_getElem?_getD, List.getElem?_eq_getElem hk]
        rfl
      rw [q]
      exact h _ (List.getElem_mem hk)
    · have q : ws.getD k "" = "" := by
        rw [List.getD_eq_getElem?_getD, List.getElem?_eq_none (by omega)]
        rfl
      rw [q]
      exact asc_by (by decide +kernel)
def spLaw (K : PySem.W.Frag) : Sp := fun vs H Q _ => ∃ (a : Addr) (ns : List Int), vs = [.ref a] ∧ SqL K H a (ns.map V.int) ∧ ns.length ≤ 63 ∧ ∀ H', Q (.bl true) H'
theorem ok_law (T : Tx P K mg) : FnOk P w K mg base CX0 5 (He.fAd K ("law", none)) T.fd_law ["script"] (spLaw K) := by
  have G__law_cell : FnOk P w K mg base CX0 1 _ _ _ _ := ok__law_cell T
  have G__law_row : FnOk P w K mg base CX0 2 _ _ _ _ := ok__law_row T
  have G__law_options : FnOk P w K mg base CX0 1 _ _ _ _ := ok__law_options T
  have G__law_word : FnOk P w K mg base CX0 3 _ _ _ _ := ok__law_word T
  have G__law_made : FnOk P w K mg base (L2.CX P w) 4 _ _ _ _ := ok__law_made T
  refine ok0 T.f_law sc_law (fun vs H Q E h => ?_) (fun cdv A outer s H vs Q E hr h => ?_)
  · obtain ⟨a, ns, rfl, _⟩ := h
    rfl
  · obtain ⟨a, ns, rfl, hS, hlen, hQ⟩ := h
    refine ⟨_, (pss_cons (ps_set (i := 1) sc_law.nd rfl (Or.inr rfl) (pe_call G__law_row (hr.mono (by decide)) rfl T.g__law_row T.f__law_row.kp T.b__law_row .nil pass0 (pa_cons (pe_call G__law_cell (hr.mono (by decide)) rfl T.g__law_cell T.f__law_cell.kp T.b__law_cell .nil pass0 (pa_cons (pv 0) (pa_cons pe_int pa_nil))) (pa_cons pe_int (pa_cons pe_int pa_nil)))))
      (pss_cons (ps_set (i := 2) sc_law.nd rfl (Or.inr rfl) (pe_lc (own := [("k", 3)]) (g := gName 3) (tt := tYes) rfl sc_law.nd (pi_range1 (by rfl) T.z_range (pa_cons pe_int pa_nil)) (blkOk_by (own := [("k", 3)]) (N := ["script", "draws", "words", "k", "form", "used", "wrong", "due", "told", "book", "e"]) (sc := defScope s_law) (by decide +kernel)) (fun _ _ _ _ _ => (pg_name (i := 3) sc_law.nd rfl (Or.inl rfl))) (fun _ _ _ _ _ => pts_nil) (fun _ _ _ _ _ => (pe_call G__law_word (hr.mono (by decide)) rfl T.g__law_word T.f__law_word.kp T.b__law_word .nil pass0 (pa_cons (pv 3) (pa_cons (pe_ix (ix_lK (K := K)) (pv 1) (pv 3) (fun _ _ => rfl)) (pa_cons (pe_call G__law_cell (hr.mono (by decide)) rfl T.g__law_cell T.f__law_cell.kp T.b__law_cell .nil pass0 (pa_cons (pv 0) (pa_cons (pe_op op_add pe_int (pv 3)) pa_nil))) pa_nil)))))))
      (pss_cons (ps_set (i := 4) sc_law.nd rfl (Or.inl rfl) (pe_op op_modN (pe_callTy call_intI (by rfl) T.z_int (by decide +kernel) (pa_cons (pe_call G__law_cell (hr.mono (by decide)) rfl T.g__law_cell T.f__law_cell.kp T.b__law_cell .nil pass0 (pa_cons (pv 0) (pa_cons pe_int pa_nil))) pa_nil)) pe_int))
      (pss_cons (ps_set (i := 5) sc_law.nd rfl (Or.inl rfl) (pe_ix (ix_lK (K := K)) (pe_lst (pa_cons (pe_lst (pa_cons pe_int (pa_cons pe_int (pa_cons pe_int (pa_cons pe_int pa_nil))))) (pa_cons (pe_lst (pa_cons pe_int (pa_cons pe_int (pa_cons pe_int (pa_cons pe_int pa_nil))))) (pa_cons (pe_lst (pa_cons pe_int (pa_cons pe_int (pa_cons pe_int (pa_cons pe_int pa_nil))))) (pa_cons (pe_lst (pa_cons pe_int pa_nil)) (pa_cons (pe_lst (pa_cons pe_int (pa_cons pe_int pa_nil))) (pa_cons (pe_lst (pa_cons pe_int pa_nil)) (pa_cons (pe_lst (pa_cons pe_int (pa_cons pe_int pa_nil))) pa_nil)))))))) (pv 4) (fun _ _ => rfl)))
      (pss_cons (ps_setLc (i := 6) (own := [("k", 3)]) (g := gName 3) rfl sc_law.nd rfl rfl (sw_true rfl rfl rfl (by decide +kernel)) (pi_list (pv 5)) (blkOk_by (own := [("k", 3)]) (N := ["script", "draws", "words", "k", "form", "used", "wrong", "due", "told", "book", "e"]) (sc := defScope s_law) (by decide +kernel)) (fun _ _ _ _ _ => (pg_name (i := 3) sc_law.nd rfl (Or.inl rfl))) (fun _ _ _ _ _ => (pts_one (pt_cmpR (notIn_sK (K := K)) (pe_ix (ix_lK (K := K)) (pv 2) (pv 3) (fun _ _ => rfl)) (pe_call G__law_options (hr.mono (by decide)) rfl T.g__law_options T.f__law_options.kp T.b__law_options .nil pass0 (pa_cons (pv 3) pa_nil)) rfl))) (fun _ _ _ _ _ => (pe_ix (ix_lK (K := K)) (pv 2) (pv 3) (fun _ _ => rfl))))
      (pss_cons (ps_set (i := 7) sc_law.nd rfl (Or.inl rfl) (pe_lst (pa_cons pe_str (pa_cons pe_str (pa_cons pe_str (pa_cons pe_str pa_nil))))))
      (pss_cons (ps_for PassesOwn.never rfl (pi_list (pv 5)) (pg_name (i := 3) sc_law.nd rfl (Or.inl rfl))
        (pss_one (ps_asg (pe_ix (ix_lK (K := K)) (pv 2) (pv 3) (fun _ _ => rfl)) (pg_sub (pv 7) (pv 3) set_list))))
      (pss_cons (ps_set (i := 8) sc_law.nd rfl (Or.inl rfl) pe_non)
      (pss_cons (ps_set (i := 9) sc_law.nd rfl (Or.inl rfl) pe_non)
      (pss_cons (ps_try_as (i := 10) rfl rfl sc_law.nd rfl rfl ⟨rfl, by decide, .inl T.e_BadBook.gC⟩ takes0 (fun W pn xe tk _ =>
         (pss_one (ps_set (i := 9) sc_law.nd rfl (Or.inl rfl) (pe_callS G__law_made (hr.mono (by decide)) rfl T.g__law_made T.f__law_made.kp T.b__law_made (fun σ => passAt tk σ) (pa_cons (pv 2) (pa_cons (pv 4) pa_nil))))))
        (fun a oe cls d pn hz hf =>
         (pss_one (ps_set (i := 8) sc_law.nd rfl (Or.inl rfl) (pe_lst (pa_cons (pe_byE T.e_BadBook (by simp) hz hf (pv 10)) (pa_cons (pe_callB (call_isD T.e_BadBook hz hf) (by rfl) T.z_isinstance (by decide +kernel) (pa_cons (pv 10) (pa_cons (pe_gref T.g_LaneError) pa_nil))) (pa_cons (pe_callB (call_isD T.e_BadBook hz hf) (by rfl) T.z_isinstance (by decide +kernel) (pa_cons (pv 10) (pa_cons (pe_bltn (by rfl) T.z_ValueError (by decide +kernel) (v := .ty "ValueError") rfl) pa_nil))) (pa_cons (pe_callB (call_isD T.e_BadBook hz hf) (by rfl) T.z_isinstance (by decide +kernel) (pa_cons (pv 10) (pa_cons (pe_gref T.g_UnknownName) pa_nil))) pa_nil)))))))))
      (pss_cons (ps_if (pt_cmpR (op_neD hr.units) (pv 6) (pe_lst pa_nil) (nomark _))
        (pss_one (ps_ret (pe_cmpR (op_eqD hr.units) (pv 8) (pe_lst (pa_cons (pe_ix (ix_lK (K := K)) (pv 6) pe_int (fun _ _ => rfl)) (pa_cons pe_bl (pa_cons pe_bl (pa_cons pe_bl pa_nil))))) (nomark _))))
        pss_nil)
      (pss_one (ps_ret (pe_and (pe_cmpR op_isN (pv 8) pe_non (nomark _)) (pe_one (pe_cmpR (op_eqD hr.units) (pe_lst (pa_cons (pe_fld (pv 9) rfl) (pa_cons (pe_fld (pv 9) rfl) (pa_cons (pe_fld (pv 9) rfl) (pa_cons (pe_fld (pv 9) rfl) pa_nil))))) (pv 7) (nomark _))))))))))))))))), ?_⟩
    refine ⟨_, rfl, a, ns, _, rfl, hS, by decide, _, _, _, rfl, by decide, by decide, by decide, by decide, fun H1 p1 ds s1 hp1 h1 hl1 hb1 => ?_⟩
    have hS1 := s1.seq hS
    refine ⟨4, rfl, by decide, by decide, fun D hD => lc_range (lo := 0) (n := 4) (fun i H' => ∃ acc : List Str, H' D = some (.lst (acc.map V.str)) ∧ Same H1 H' ∧ acc.length = i ∧ ∀ z ∈ acc, Asc z) ⟨[], upd_same, Same.new hD, rfl, List.forall_mem_nil _⟩ ?_ ?_⟩
    · rintro i H' hi ⟨acc, hacc, sm, hl, hall⟩
      rw [Int.zero_add]
      have hd : ds[i]? = some (ds.getD i 0) := by
        rw [List.getD_eq_getElem?_getD, List.getElem?_eq_getElem (by omega)]
        rfl
      refine ⟨rfl, _, rfl, _, rfl, _, rfl, p1, _, _, _, rfl, rfl, SqL.of (sm _ _ h1), atI_nat (by rw [List.getElem?_map, hd]; rfl), _, rfl, _, rfl, _, _, rfl, rfl, a, ns, _, rfl, Same.seq sm hS1, by omega, i, _, _, rfl, hi, fun H3 z s3 za => ?_⟩
      refine ⟨acc.map V.str, s3 _ _ hacc, (by rw [List.length_map, hl, sizeLine_eq]; omega), acc ++ [z], by rw [upd_same, List.map_append]; rfl, Same.mut (Same.tr sm s3) hD, by simp [hl], fun y hy => (List.mem_append.mp hy).elim (hall y) fun q => by rw [List.mem_singleton.mp q]; exact za⟩
    rintro H2 ⟨ws, hws, s2, hl2, hasc⟩
    obtain ⟨w0, w1, w2, w3, rfl⟩ : ∃ w0 w1 w2 w3, ws = [w0, w1, w2, w3] := match ws, hl2 with | [w0, w1, w2, w3], _ => ⟨w0, w1, w2, w3, rfl⟩
    have hS2 := Same.seq s2 hS1
    refine ⟨_, rfl, a, ns, _, rfl, hS2, by decide, _, rfl, _, _, rfl, rfl, (show (7 : Int) ≠ 0 by decide), ?_⟩
    obtain ⟨f0, f7⟩ := fmod_in (x := cellV ns 1) (b := 7) (by decide)
    obtain ⟨f, ef⟩ : ∃ f : Nat, (cellV ns 1).fmod 7 = (f : Int) := ⟨_, (Int.toNat_of_nonneg f0).symm⟩
    rw [ef] at f0 f7
    have hf : f < 7 := by omega
    show gName 4 (V.int ((cellV ns 1).fmod 7)) _ _ _
    rw [ef]
    refine ⟨(by show 4 ≤ sizeLine; decide), fun u0 hu0 => ⟨(by show 4 ≤ sizeLine; decide), fun u1 hu1 => ⟨(by show 4 ≤ sizeLine; decide), fun u2 hu2 => ⟨(by show 1 ≤ sizeLine; decide), fun u3 hu3 => ⟨(by show 2 ≤ sizeLine; decide), fun u4 hu4 => ⟨(by show 1 ≤ sizeLine; decide), fun u5 hu5 => ⟨(by show 2 ≤ sizeLine; decide), fun u6 hu6 => ⟨(by show 7 ≤ sizeLine; decide), fun ul hul => ?_⟩⟩⟩⟩⟩⟩⟩⟩
    have t0 := Same.new (o := .lst [.int 0, .int 1, .int 2, .int 3]) hu0
    have t1 := Same.new (o := .lst [.int 0, .int 1, .int 2, .int 3]) hu1
    have t2 := Same.new (o := .lst [.int 0, .int 1, .int 2, .int 3]) hu2
    have t3 := Same.new (o := .lst [.int 3]) hu3
    have t4 := Same.new (o := .lst [.int 0, .int 1]) hu4
    have t5 := Same.new (o := .lst [.int 0]) hu5
    have t6 := Same.new (o := .lst [.int 2, .int 3]) hu6
    have tl := Same.new (o := .lst [.ref u0, .ref u1, .ref u2, .ref u3, .ref u4, .ref u5, .ref u6]) hul
    have tt := Same.tr (Same.tr (Same.tr (Same.tr (Same.tr (Same.tr (Same.tr t0 t1) t2) t3) t4) t5) t6) tl
    obtain ⟨u, hat, hu⟩ : ∃ u, atI [V.ref u0, .ref u1, .ref u2, .ref u3, .ref u4, .ref u5, .ref u6] (f : Int) = some (.ref u) ∧ upd (upd (upd (upd (upd (upd (upd (upd H2 u0 (.lst [.int 0, .int 1, .int 2, .int 3])) u1 (.lst [.int 0, .int 1, .int 2, .int 3])) u2 (.lst [.int 0, .int 1, .int 2, .int 3])) u3 (.lst [.int 3])) u4 (.lst [.int 0, .int 1])) u5 (.lst [.int 0])) u6 (.lst [.int 2, .int 3])) ul (.lst [.ref u0, .ref u1, .ref u2, .ref u3, .ref u4, .ref u5, .ref u6]) u = some (.lst ((usedOf f).map fun k => V.int (k : Nat))) := by
      match f, hf with
      | 0, _ => exact ⟨u0, rfl, tl _ _ (t6 _ _ (t5 _ _ (t4 _ _ (t3 _ _ (t2 _ _ (t1 _ _ upd_same))))))⟩
      | 1, _ => exact ⟨u1, rfl, tl _ _ (t6 _ _ (t5 _ _ (t4 _ _ (t3 _ _ (t2 _ _ upd_same)))))⟩
      | 2, _ => exact ⟨u2, rfl, tl _ _ (t6 _ _ (t5 _ _ (t4 _ _ (t3 _ _ upd_same))))⟩
      | 3, _ => exact ⟨u3, rfl, tl _ _ (t6 _ _ (t5 _ _ (t4 _ _ upd_same)))⟩
      | 4, _ => exact ⟨u4, rfl, tl _ _ (t6 _ _ (t5 _ _ upd_same))⟩
      | 5, _ => exact ⟨u5, rfl, tl _ _ (t6 _ _ upd_same)⟩
      | 6, _ => exact ⟨u6, rfl, tl _ _ upd_same⟩
    refine ⟨_, rfl, ul, _, _, _, rfl, rfl, SqL.of upd_same, hat, ?_⟩
    generalize hH3 : upd (upd (upd (upd (upd (upd (upd (upd H2 u0 _) u1 _) u2 _) u3 _) u4 _) u5 _) u6 _) ul _ = H3 at hu tt ⊢
    have hw3 := tt _ _ hws
    have gd : ∀ k : Nat, k < 4 → atI ([w0, w1, w2, w3].map V.str) (k : Int) = some (.str ([w0, w1, w2, w3].getD k "")) := fun k hk => by
      match k, hk with
      | 0, _ => rfl
      | 1, _ => rfl
      | 2, _ => rfl
      | 3, _ => rfl
    refine ⟨_, rfl, u, rfl, ⟨_, SqL.of hu⟩, fun D2 hD2 => lc_list (K := K) (a := u) (xs := (usedOf f).map fun k => V.int (k : Nat)) (fun i H' => H' D2 = some (.lst ((wrongL [w0, w1, w2, w3] ((usedOf f).take i)).map V.str)) ∧ Same H3 H' ∧ (wrongL [w0, w1, w2, w3] ((usedOf f).take i)).length ≤ i) ⟨upd_same, Same.new hD2, Nat.le_refl 0⟩ (fun i H' _ h => SqL.of (h.2.1 _ _ hu)) ?_ ?_⟩
    · rintro i x H' hx ⟨hacc, sm, hl⟩
      obtain ⟨k, hk, rfl⟩ : ∃ k, (usedOf f)[i]? = some k ∧ x = V.int (k : Nat) := by
        rw [List.getElem?_map] at hx
        cases e : (usedOf f)[i]? with
        | none => rw [e] at hx; cases hx
        | some k => rw [e] at hx; exact ⟨k, rfl, (Option.some.inj hx).symm⟩
      have k4 := used_lt f k (List.mem_of_getElem? hk)
      have hi : i < (usedOf f).length := (List.getElem?_eq_some_iff.mp hk).1
      have hi4 : (usedOf f).length ≤ 4 := by
        match f, hf with
        | 0, _ => decide
        | 1, _ => decide
        | 2, _ => decide
        | 3, _ => decide
        | 4, _ => decide
        | 5, _ => decide
        | 6, _ => decide
      refine ⟨rfl, _, rfl, _, rfl, D, _, _, _, rfl, rfl, SqL.of (sm _ _ hw3), gd k k4, _, rfl, k, rfl, k4, fun H4 p4 s4 hp4 h4 => ?_⟩
      refine ⟨p4, _, rfl, .inl (SqL.of h4), rfl, ?_, _, rfl, ?_⟩
      · exact List.all_eq_true.mpr fun y hy => by
          obtain ⟨z, _, rfl⟩ := List.mem_map.mp hy
          rfl
      rw [take_snoc hk]
      have hstep : wrongL [w0, w1, w2, w3] ((usedOf f).take i ++ [k]) = wrongL [w0, w1, w2, w3] ((usedOf f).take i) ++ (if [w0, w1, w2, w3].getD k "" ∈ opts k then [] else [[w0, w1, w2, w3].getD k ""]) := by
        unfold wrongL
        rw [List.filterMap_append]
        congr 1
        by_cases c : [w0, w1, w2, w3].getD k "" ∈ opts k
        · rw [if_pos c, List.filterMap_cons, if_pos c]
          rfl
        · rw [if_neg c, List.filterMap_cons, if_neg c]
          rfl
      rw [hstep]
      refine ite2 (fun h => ?_) (fun h => ?_)
      · have hn : [w0, w1, w2, w3].getD k "" ∉ opts k := by
          have h' : (!inV (.str ([w0, w1, w2, w3].getD k "")) ((opts k).map V.str)) = true := h
          rw [inV_map] at h'
          simpa using h'
        rw [if_neg hn]
        refine ⟨_, rfl, _, rfl, D, _, _, _, rfl, rfl, SqL.of (s4 _ _ (sm _ _ hw3)), gd k k4, _, s4 _ _ hacc, (by rw [List.length_map, sizeLine_eq]; omega), by rw [upd_same, List.map_append]; rfl, Same.mut (Same.tr sm s4) hD2, ?_⟩
        rw [List.length_append, List.length_singleton]
        omega
      · have hn : [w0, w1, w2, w3].getD k "" ∈ opts k := by
          have h' : ¬ (!inV (.str ([w0, w1, w2, w3].getD k "")) ((opts k).map V.str)) = true := h
          rw [inV_map] at h'
          simpa using h'
        rw [if_pos hn, List.append_nil]
        exact ⟨s4 _ _ hacc, Same.tr sm s4, by omega⟩
    rintro H5 ⟨hwr, s5, _⟩
    rw [List.length_map, List.take_length] at hwr
    have hu5' := s5 _ _ hu
    have hw5 := s5 _ _ hw3
    refine ⟨(by show 4 ≤ sizeLine; decide), fun dp hdp => ?_⟩
    refine ⟨_, rfl, u, rfl, ⟨_, SqL.of (Same.new hdp _ _ hu5')⟩, for_list (K := K) (a := u) (xs := (usedOf f).map fun k => V.int (k : Nat)) (fun i σ H' => ∃ v : Option V, σ = [some (.ref a), some (.ref p1), some (.ref D), v, some (.int f), some (.ref u), some (.ref D2), some (.ref dp), none, none, none] ∧ Same H5 H' ∧ H' dp = some (.lst ((dueStep [w0, w1, w2, w3] ((usedOf f).take i)).map V.str)) ∧ (dueStep [w0, w1, w2, w3] ((usedOf f).take i)).length = 4) ⟨none, rfl, Same.new hdp, upd_same, rfl⟩ (fun i σ H' _ ⟨_, _, sm, _⟩ => SqL.of (sm _ _ hu5')) ?_ ?_⟩
    · rintro i x σ H' hx ⟨v, rfl, sm, hdu, hdl⟩
      obtain ⟨k, hk, rfl⟩ : ∃ k, (usedOf f)[i]? = some k ∧ x = V.int (k : Nat) := by
        rw [List.getElem?_map] at hx
        cases e : (usedOf f)[i]? with
        | none => rw [e] at hx; cases hx
        | some k => rw [e] at hx; exact ⟨k, rfl, (Option.some.inj hx).symm⟩
      have k4 := used_lt f k (List.mem_of_getElem? hk)
      refine ⟨_, rfl, _, rfl, D, _, _, _, rfl, rfl, SqL.of (sm _ _ hw5), gd k k4, _, rfl, _, rfl, ?_⟩
      rw [take_snoc hk]
      have hstep : dueStep [w0, w1, w2, w3] ((usedOf f).take i ++ [k]) = (dueStep [w0, w1, w2, w3] ((usedOf f).take i)).set k ([w0, w1, w2, w3].getD k "") := by
        unfold dueStep
        rw [List.foldl_append]
        rfl
      refine ⟨dp, _, (k : Int), k, rfl, rfl, hdu, ?_, _, rfl, Same.mut sm hdp, ?_, ?_⟩
      · rw [List.length_map, hdl]
        unfold ixN
        rw [if_pos (by omega), if_pos (by omega)]
        simp
      · rw [upd_same, hstep, List.map_set]
      · rw [hstep, List.length_set]
        exact hdl
    rintro σ H6 ⟨v, rfl, s6, hdu, _⟩
    rw [List.length_map, List.take_length, due_is _ _ _ _ hf] at hdu
    have hb := bad_is w0 w1 w2 w3 hf
    have hda : ∀ z ∈ [dueOf [w0, w1, w2, w3] f 0, dueOf [w0, w1, w2, w3] f 1, dueOf [w0, w1, w2, w3] f 2, dueOf [w0, w1, w2, w3] f 3], Asc z := by
      have one : ∀ k : Nat, k < 4 → Asc (dueOf [w0, w1, w2, w3] f k) := fun k hk => by
        unfold dueOf
        split
        · match k, hk with
          | 0, _ => exact hasc _ (by simp)
          | 1, _ => exact hasc _ (by simp)
          | 2, _ => exact hasc _ (by simp)
          | 3, _ => exact hasc _ (by simp)
        · match k, hk with
          | 0, _ => exact asc_by (by decide +kernel)
          | 1, _ => exact asc_by (by decide +kernel)
          | 2, _ => exact asc_by (by decide +kernel)
          | 3, _ => exact asc_by (by decide +kernel)
      intro z hz
      simp only [List.mem_cons, List.not_mem_nil, or_false] at hz
      rcases hz with rfl | rfl | rfl | rfl
      · exact one 0 (by decide)
      · exact one 1 (by decide)
      · exact one 2 (by decide)
      · exact one 3 (by decide)
    have hw6 := s6 _ _ hw5
    have hwr6 := s6 _ _ hwr
    refine ⟨_, rfl, _, rfl, D, w0, w1, w2, w3, f, rfl, hf, SqL.of hw6, fun z hz H7 d s7 hd => ?_, fun hz H7 x dx l s7 hx7 => ?_⟩
    · -- an error
      refine ⟨true, T.x_BadBook, fun _ e he => ?_, fun q => nomatch q⟩
      rw [hb] at hz
      obtain ⟨rest, hrest⟩ : ∃ rest, wrongL [w0, w1, w2, w3] (usedOf f) = z :: rest := by
        cases q : wrongL [w0, w1, w2, w3] (usedOf f) with
        | nil => rw [q] at hz; cases hz
        | cons y r =>
          rw [q] at hz
          cases hz
          exact ⟨r, rfl⟩
      have sd := Same.new (o := .xd [(("option" : Str), V.str z)]) hd
      refine ⟨_, rfl, rfl, rfl, d, _, _, rfl, upd_same, rfl, ?_⟩
      refine ⟨_, rfl, _, _, true, d, _, rfl, fun u e => e, T.i_LaneError, rfl, rfl, upd_same, ?_⟩
      refine ⟨_, rfl, _, _, true, d, _, rfl, fun u e => e, T.i_ValueError, rfl, rfl, upd_same, ?_⟩
      refine ⟨_, rfl, _, _, false, d, _, rfl, fun u e => e, T.i_UnknownName, rfl, rfl, upd_same, ?_⟩
      refine ⟨(by show 4 ≤ sizeLine; decide), fun tp htp => ?_⟩
      have sp := Same.new (o := .lst [.str z, .bl true, .bl true, .bl false]) htp
      have hwr7 : upd (upd H7 d (.xd [(("option" : Str), V.str z)])) tp (.lst [.str z, .bl true, .bl true, .bl false]) D2 = some (.lst ((wrongL [w0, w1, w2, w3] (usedOf f)).map V.str)) := sp _ _ (sd _ _ (s7 _ _ hwr6))
      refine ⟨_, rfl, Nat.zero_le _, fun q hq => ?_⟩
      have sq := Same.new (o := .lst []) hq
      refine ⟨.list ((wrongL [w0, w1, w2, w3] (usedOf f)).map PyData.str), .list [], .lst (SqL.of (sq _ _ hwr7)) (dp_strs _), .lst (SqL.of upd_same) .nil, shaped_strs (asc_wrong hasc (used_lt f)), rfl, _, rfl, ?_⟩
      rw [hrest]
      refine iteT ?_
      have za : Asc z := asc_wrong hasc (used_lt f) z (by rw [hrest]; simp)
      rw [hrest] at hwr7
      refine ⟨_, rfl, _, rfl, D2, _, _, _, rfl, rfl, SqL.of (sq _ _ hwr7), atI_nat (j := 0) rfl, (by show 4 ≤ sizeLine; decide), fun r hr => ?_⟩
      have sr := Same.new (o := .lst [.str z, .bl true, .bl true, .bl false]) hr
      have htp' := sr _ _ (sq _ _ (upd_same (H := upd H7 d (.xd [(("option" : Str), V.str z)])) (a := tp) (o := .lst [.str z, .bl true, .bl true, .bl false])))
      have hsh : SeqAt.shaped (.list [.str z, .bool true, .bool true, .bool false]) = true := by
        unfold SeqAt.shaped
        simp [PyData.canLay0, PyData.canLayAll0, PyData.depth, PyData.depthAll, asc_ok za]
      have dat : DpAll K (upd (upd (upd (upd H7 d (.xd [(("option" : Str), V.str z)])) tp (.lst [.str z, .bl true, .bl true, .bl false])) q (.lst [])) r (.lst [.str z, .bl true, .bl true, .bl false])) [.str z, .bl true, .bl true, .bl false] [.str z, .bool true, .bool true, .bool false] := .cons (.str z) (.cons (.bl true) (.cons (.bl true) (.cons (.bl false) .nil)))
      refine ⟨.list [.str z, .bool true, .bool true, .bool false], .list [.str z, .bool true, .bool true, .bool false], .lst (SqL.of htp') dat, .lst (SqL.of upd_same) dat, hsh, hsh, ?_⟩
      rw [SeqAt.eqv_refl _ (SeqAt.canLay_of_shaped hsh)]
      exact hQ _
    · -- a book
      have hnil : wrongL [w0, w1, w2, w3] (usedOf f) = [] := by
        rw [hb] at hz
        exact List.head?_eq_none_iff.mp hz
      have hwr7 := s7 _ _ hwr6
      rw [hnil] at hwr7
      refine ⟨_, rfl, Nat.zero_le _, fun q hq => ?_⟩
      have sq := Same.new (o := .lst []) hq
      refine ⟨.list [], .list [], .lst (SqL.of (sq _ _ hwr7)) .nil, .lst (SqL.of upd_same) .nil, rfl, rfl, _, rfl, ?_⟩
      refine iteF ?_
      have hx8 := sq _ _ hx7
      refine ⟨_, rfl, rfl, _, rfl, ?_⟩
      generalize dueOf [w0, w1, w2, w3] f 0 = d0 at *
      generalize dueOf [w0, w1, w2, w3] f 1 = d1 at *
      generalize dueOf [w0, w1, w2, w3] f 2 = d2 at *
      generalize dueOf [w0, w1, w2, w3] f 3 = d3 at *
      have l0 : (bookFs d0 d1 d2 d3 l).lookup ("stop" : Str) = some (.str d0) := by kernel_rfl
      have l1 : (bookFs d0 d1 d2 d3 l).lookup ("move" : Str) = some (.str d1) := by kernel_rfl
      have l2 : (bookFs d0 d1 d2 d3 l).lookup ("out" : Str) = some (.str d2) := by kernel_rfl
      have l3 : (bookFs d0 d1 d2 d3 l).lookup ("marks" : Str) = some (.str d3) := by kernel_rfl
      refine ⟨_, rfl, x, _, dx, _, _, rfl, hx8, T.c_Book, T.n_Book_stop, l0, _, rfl, x, _, dx, _, _, rfl, hx8, T.c_Book, T.n_Book_move, l1, _, rfl, x, _, dx, _, _, rfl, hx8, T.c_Book, T.n_Book_out, l2, _, rfl, x, _, dx, _, _, rfl, hx8, T.c_Book, T.n_Book_marks, l3, (by show 4 ≤ sizeLine; decide), fun r hr => ?_⟩
      have sr := Same.new (o := .lst [.str d0, .str d1, .str d2, .str d3]) hr
      have hdu9 := sr _ _ (sq _ _ (s7 _ _ hdu))
      have hsh : SeqAt.shaped (.list ([d0, d1, d2, d3].map PyData.str)) = true := shaped_strs fun z hz => hda z hz
      refine ⟨_, rfl, .list ([d0, d1, d2, d3].map PyData.str), .list ([d0, d1, d2, d3].map PyData.str), .lst (xs := [d0, d1, d2, d3].map V.str) (SqL.of upd_same) (dp_strs _), .lst (SqL.of hdu9) (dp_strs _), hsh, hsh, ?_⟩
      rw [SeqAt.eqv_refl _ (SeqAt.canLay_of_shaped hsh)]
      exact hQ _
end
end Toy

set_option maxHeartbeats 0

/-! ### the head's hook: the defs, the errors, further facts -/
namespace Hk
open PySem PySem.Spec PyProof.Rows L2
abbrev AlH : Type := He.AlD × (Bool × List Er.FnE) × Bool
def obsH (P : Program) (fa : List He.Fa) (fn : List He.DefD) (es : List Er.DE) (ex : PySem.W.Frag → Bool) (K : PySem.W.Frag) : AlH := (He.obsD fa fn K, (es.all fun d => d.ok P K, es.map fun d => Er.fnE K d.x), ex K)
def valH (fn : List He.DefD) (es : List Er.DE) : AlH := (He.valD fn, (true, es.map Er.DE.val), true)
structure SaysH (P : Program) (fa : List He.Fa) (fn : List He.DefD) (es : List Er.DE) (ex : PySem.W.Frag → Bool) (K : PySem.W.Frag) : Prop where
  d : He.SaysD fa fn K
  eo : ∀ (i : Nat) (d : Er.DE), es[i]? = some d → d.ok P K = true
  ef : ∀ (i : Nat) (d : Er.DE), es[i]? = some d → Er.fnE K d.x = d.val
  x : ex K = true
theorem says_of {P : Program} {fa : List He.Fa} {fn : List He.DefD} {es : List Er.DE} {ex : PySem.W.Frag → Bool} {K : PySem.W.Frag} (e : obsH P fa fn es ex K = valH fn es) : SaysH P fa fn es ex K where
  d := congrArg (fun z : AlH => z.1) e
  eo := fun i d h => by
    have q : (es.all fun d => d.ok P K) = true := congrArg (fun z : AlH => z.2.1.1) e
    exact List.all_eq_true.mp q d (List.mem_of_getElem? h)
  ef := fun i d h => by
    have q : (es.map fun d => Er.fnE K d.x) = es.map Er.DE.val := congrArg (fun z : AlH => z.2.1.2) e
    have q2 : (es.map fun d => Er.fnE K d.x)[i]? = (es.map Er.DE.val)[i]? := by rw [q]
    rw [List.getElem?_map, List.getElem?_map, h] at q2
    exact Option.some.inj q2
  x := congrArg (fun z : AlH => z.2.2) e
def obsN (N : Nat) (P : Program) (fa : List He.Fa) (fn : List He.DefD) (es : List Er.DE) (ex : PySem.W.Frag → Bool) (g : Addr → Option Obj) : AlH := obsH P fa fn es ex (He.frG g (List.range N))
def hook (N : Nat) (P : Program) (fa : List He.Fa) (fn : List He.DefD) (es : List Er.DE) (ex : PySem.W.Frag → Bool) : PySem.W.Hook where
  α := AlH
  obs := fun s => obsN N P fa fn es ex s.heap.get?
  val := fun _ => valH fn es
  says := fun _ h => ∃ K : PySem.W.Frag, K.In h ∧ SaysH P fa fn es ex K
  of := fun _ _ e => ⟨_, He.frG_in, says_of e⟩
  keeps := fun _ _ _ ⟨K, hK, c⟩ k => ⟨K, PySem.W.Frag.In.keeps hK k, c⟩
theorem obs_eq {N : Nat} {P : Program} {fa : List He.Fa} {fn : List He.DefD} {es : List Er.DE} {ex : PySem.W.Frag → Bool} (s : PySem.W.SharedT) : obsN N P fa fn es ex (HandSHeadRun.getT s) = (hook N P fa fn es ex).obs s.abs := by
  have e : HandSHeadRun.getT s = s.abs.heap.get? := funext (HandSHeadRun.getT_eq s)
  show obsN N P fa fn es ex _ = obsN N P fa fn es ex _
  rw [e]
end Hk

namespace Toy
open PySem PySem.Spec PyProof.Rows L2
def d_Book___init__ : He.DefD := ⟨("Book", some "__init__"), "__init__", "Book.__init__", defArgs s_Book___init__, defBody s_Book___init__, defScope s_Book___init__, [], [("stop", .str "asked"), ("move", .str "once"), ("out", .str "once"), ("marks", .str "any")]⟩
def d__law_cell : He.DefD := ⟨("_law_cell", none), "_law_cell", "_law_cell", defArgs s__law_cell, defBody s__law_cell, defScope s__law_cell, [], []⟩
def d__law_mixed : He.DefD := ⟨("_law_mixed", none), "_law_mixed", "_law_mixed", defArgs s__law_mixed, defBody s__law_mixed, defScope s__law_mixed, [], []⟩
def d__law_row : He.DefD := ⟨("_law_row", none), "_law_row", "_law_row", defArgs s__law_row, defBody s__law_row, defScope s__law_row, [], []⟩
def d__law_options : He.DefD := ⟨("_law_options", none), "_law_options", "_law_options", defArgs s__law_options, defBody s__law_options, defScope s__law_options, [], []⟩
def d__law_word : He.DefD := ⟨("_law_word", none), "_law_word", "_law_word", defArgs s__law_word, defBody s__law_word, defScope s__law_word, [], []⟩
def d__law_made : He.DefD := ⟨("_law_made", none), "_law_made", "_law_made", defArgs s__law_made, defBody s__law_made, defScope s__law_made, [], []⟩
def d_law : He.DefD := ⟨("law", none), "law", "law", defArgs s_law, defBody s_law, defScope s_law, [], []⟩
abbrev b_BadBook_0 : Stmt := (defBody s_BadBook___init__).getD 0 (.Pass ⟨0, 0, 0, 0⟩)
abbrev b_BadBook_1 : Stmt := (defBody s_BadBook___init__).getD 1 (.Pass ⟨0, 0, 0, 0⟩)
def de_BadBook : Er.DE := ⟨"BadBook", "BadBook.__init__", defArgs s_BadBook___init__, [b_BadBook_0, b_BadBook_1], defScope s_BadBook___init__, ["option"]⟩
theorem sy_BadBook : Er.Sy "BadBook.__init__" (defArgs s_BadBook___init__) (defScope s_BadBook___init__) b_BadBook_0 "unknown option" ["option"] :=
  ⟨⟨_, rfl, rfl⟩, rfl, rfl, rfl, rfl, by decide +kernel, by decide +kernel, rfl, rfl, by decide +kernel, fun _ _ _ _ _ _ _ _ _ _ vs h => match vs, h with | [_], _ => rfl, ⟨_, _, _, _, _, _, rfl, fun _ _ _ _ _ _ _ _ _ _ _ => ⟨_, rfl, rfl, rfl⟩⟩⟩
theorem pu_BadBook_0 : Er.Pu "BadBook.__init__" (defArgs s_BadBook___init__) (defScope s_BadBook___init__) b_BadBook_1 "option" := ⟨⟨_, _, _, _, rfl, fun _ _ _ _ _ _ _ _ _ _ _ => rfl⟩⟩
def fnL_0 : List He.DefD := [d_Book___init__, d__law_cell, d__law_mixed, d__law_row, d__law_options, d__law_word, d__law_made, d_law]
def fnL : List He.DefD := fnL_0
def faL_0 : List He.Fa := [.glo "_law_cell", .glo "_law_mixed", .glo "_law_row", .glo "_law_options", .glo "_law_word", .glo "_law_made", .glo "law", .free "len", .free "int", .free "abs", .free "range", .free "isinstance", .free "ValueError", .glo "Book", .cls "Book", .noat "Book" "stop", .noat "Book" "move", .noat "Book" "out", .noat "Book" "marks", .noat "Book" "pairs", .mkr "Book", .glo "STOPS", .glo "MOVES", .glo "OUTS", .glo "MARKS", .glo "LaneError", .glo "UnknownName"]
def faL : List He.Fa := faL_0
def esL_0 : List Er.DE := [de_BadBook]
def esL : List Er.DE := esL_0
def exB (K : PySem.W.Frag) : Bool := [decide (PySem.W.kitOne K (.ref (He.ga K "BadBook")) (.ref (He.ga K "LaneError")) = some true), decide (PySem.W.kitOne K (.ref (He.ga K "BadBook")) (.type "ValueError") = some true), decide (PySem.W.kitOne K (.ref (He.ga K "BadBook")) (.ref (He.ga K "UnknownName")) = some false), decide (PySem.W.exmOne K (.ref (He.ga K "BadBook")) (.ref (He.ga K "BadBook")) = some true), He.tupB K "STOPS" [.str "asked", .str "all"], He.tupB K "MOVES" [.str "once", .str "back"], He.tupB K "OUTS" [.str "once", .str "wait"], He.tupB K "MARKS" [.str "any", .str "owner", .str "given"]].all id
def looseL_0 : List Str := ["LaneError", "BadBook", "UnknownName", "STOPS", "MOVES", "OUTS", "MARKS", "at_most", "Book", "_law_cell", "_law_mixed", "_law_row", "_law_options", "_law_word", "_law_made"]
def looseL : List Str := looseL_0
abbrev Rw : PySem.W.OpenRow := PySem.W.OpenLaw.row PySem.Challenge.rw_lanesdealt_k53_any_options_of_a_book
abbrev hkL : PySem.W.Hook := Hk.hook 400 Rw.prog faL fnL esL exB
def obL (s : PySem.W.SharedT) : Hk.AlH := Hk.obsN 400 Rw.prog faL fnL esL exB (HandSHeadRun.getT s)
theorem obL_eq (s : PySem.W.SharedT) : obL s = hkL.obs s.abs := Hk.obs_eq s
theorem runL (w : World) : HandSHeadRun.RunEq Rw (PySem.W.view Rw.prog [18]) hkL obL 3000 looseL w := by
  intro os
  kernel_rfl
section
variable {K : PySem.W.Frag} {h : Heap} {mg : Str → Option Value}
theorem tx_of (X : K.In h) (G : h.Ns mainGlobals mg) (c : Hk.SaysH Rw.prog faL fnL esL exB K) : Nonempty (Tx Rw.prog K mg) := by
  obtain ⟨v_Book___init__, f_Book___init__⟩ := c.d.def_ 0 (d := d_Book___init__) rfl
  obtain ⟨v__law_cell, f__law_cell⟩ := c.d.def_ 1 (d := d__law_cell) rfl
  obtain ⟨v__law_mixed, f__law_mixed⟩ := c.d.def_ 2 (d := d__law_mixed) rfl
  obtain ⟨v__law_row, f__law_row⟩ := c.d.def_ 3 (d := d__law_row) rfl
  obtain ⟨v__law_options, f__law_options⟩ := c.d.def_ 4 (d := d__law_options) rfl
  obtain ⟨v__law_word, f__law_word⟩ := c.d.def_ 5 (d := d__law_word) rfl
  obtain ⟨v__law_made, f__law_made⟩ := c.d.def_ 6 (d := d__law_made) rfl
  obtain ⟨v_law, f_law⟩ := c.d.def_ 7 (d := d_law) rfl
  have hx := List.all_eq_true.mp (show ([decide (PySem.W.kitOne K (.ref (He.ga K "BadBook")) (.ref (He.ga K "LaneError")) = some true), decide (PySem.W.kitOne K (.ref (He.ga K "BadBook")) (.type "ValueError") = some true), decide (PySem.W.kitOne K (.ref (He.ga K "BadBook")) (.ref (He.ga K "UnknownName")) = some false), decide (PySem.W.exmOne K (.ref (He.ga K "BadBook")) (.ref (He.ga K "BadBook")) = some true), He.tupB K "STOPS" [.str "asked", .str "all"], He.tupB K "MOVES" [.str "once", .str "back"], He.tupB K "OUTS" [.str "once", .str "wait"], He.tupB K "MARKS" [.str "any", .str "owner", .str "given"]].all id) = true from c.x)
  simp only [List.mem_cons, List.not_mem_nil, or_false, forall_eq_or_imp, forall_eq, id_eq] at hx
  obtain ⟨x_0, x_1, x_2, x_3, x_4, x_5, x_6, x_7⟩ := hx
  exact ⟨{
    fd_Book___init__ := v_Book___init__, f_Book___init__ := f_Book___init__,
    fd__law_cell := v__law_cell, f__law_cell := f__law_cell,
    b__law_cell := f__law_cell.bindsN fun _ _ _ _ _ _ us hl => match us, hl with | [_, _], _ => rfl,
    g__law_cell := He.glo_ok X G (c.d.fact 0 (f := .glo "_law_cell") rfl),
    fd__law_mixed := v__law_mixed, f__law_mixed := f__law_mixed,
    b__law_mixed := f__law_mixed.bindsN fun _ _ _ _ _ _ us hl => match us, hl with | [_, _], _ => rfl,
    g__law_mixed := He.glo_ok X G (c.d.fact 1 (f := .glo "_law_mixed") rfl),
    fd__law_row := v__law_row, f__law_row := f__law_row,
    b__law_row := f__law_row.bindsN fun _ _ _ _ _ _ us hl => match us, hl with | [_, _, _], _ => rfl,
    g__law_row := He.glo_ok X G (c.d.fact 2 (f := .glo "_law_row") rfl),
    fd__law_options := v__law_options, f__law_options := f__law_options,
    b__law_options := f__law_options.bindsN fun _ _ _ _ _ _ us hl => match us, hl with | [_], _ => rfl,
    g__law_options := He.glo_ok X G (c.d.fact 3 (f := .glo "_law_options") rfl),
    fd__law_word := v__law_word, f__law_word := f__law_word,
    b__law_word := f__law_word.bindsN fun _ _ _ _ _ _ us hl => match us, hl with | [_, _, _], _ => rfl,
    g__law_word := He.glo_ok X G (c.d.fact 4 (f := .glo "_law_word") rfl),
    fd__law_made := v__law_made, f__law_made := f__law_made,
    b__law_made := f__law_made.bindsN fun _ _ _ _ _ _ us hl => match us, hl with | [_, _], _ => rfl,
    g__law_made := He.glo_ok X G (c.d.fact 5 (f := .glo "_law_made") rfl),
    fd_law := v_law, f_law := f_law,
    b_law := f_law.bindsN fun _ _ _ _ _ _ us hl => match us, hl with | [_], _ => rfl,
    g_law := He.glo_ok X G (c.d.fact 6 (f := .glo "law") rfl),
    z_len := He.free_ok X G (c.d.fact 7 (f := .free "len") rfl),
    z_int := He.free_ok X G (c.d.fact 8 (f := .free "int") rfl),
    z_abs := He.free_ok X G (c.d.fact 9 (f := .free "abs") rfl),
    z_range := He.free_ok X G (c.d.fact 10 (f := .free "range") rfl),
    z_isinstance := He.free_ok X G (c.d.fact 11 (f := .free "isinstance") rfl),
    z_ValueError := He.free_ok X G (c.d.fact 12 (f := .free "ValueError") rfl),
    g_Book := He.glo_ok X G (c.d.fact 13 (f := .glo "Book") rfl), c_Book := He.cls_ok (c.d.fact 14 (f := .cls "Book") rfl),
    n_Book_stop := He.noat_ok (c.d.fact 15 (f := .noat "Book" "stop") rfl),
    n_Book_move := He.noat_ok (c.d.fact 16 (f := .noat "Book" "move") rfl),
    n_Book_out := He.noat_ok (c.d.fact 17 (f := .noat "Book" "out") rfl),
    n_Book_marks := He.noat_ok (c.d.fact 18 (f := .noat "Book" "marks") rfl),
    n_Book_pairs := He.noat_ok (c.d.fact 19 (f := .noat "Book" "pairs") rfl),
    k_Book := He.mkr_ok (c.d.fact 20 (f := .mkr "Book") rfl),
    e_BadBook := Er.err1 X G sy_BadBook pu_BadBook_0 (c.eo 0 de_BadBook rfl) (c.ef 0 de_BadBook rfl),
    g_STOPS := He.glo_ok X G (c.d.fact 21 (f := .glo "STOPS") rfl), t_STOPS := fun H => He.tupB_ok x_4 H,
    g_MOVES := He.glo_ok X G (c.d.fact 22 (f := .glo "MOVES") rfl), t_MOVES := fun H => He.tupB_ok x_5 H,
    g_OUTS := He.glo_ok X G (c.d.fact 23 (f := .glo "OUTS") rfl), t_OUTS := fun H => He.tupB_ok x_6 H,
    g_MARKS := He.glo_ok X G (c.d.fact 24 (f := .glo "MARKS") rfl), t_MARKS := fun H => He.tupB_ok x_7 H,
    g_LaneError := He.glo_ok X G (c.d.fact 25 (f := .glo "LaneError") rfl),
    g_UnknownName := He.glo_ok X G (c.d.fact 26 (f := .glo "UnknownName") rfl),
    i_LaneError := of_decide_eq_true x_0,
    i_ValueError := of_decide_eq_true x_1,
    i_UnknownName := of_decide_eq_true x_2,
    x_BadBook := of_decide_eq_true x_3,
  }⟩
end
end Toy
open PySem PySem.W PySem.Calls PyProof.Rows
theorem PySem.Challenge.cw_lanesdealt_k53_any_options_of_a_book_holds : PySem.Challenge.rw_lanesdealt_k53_any_options_of_a_book.Holds := by
  w_on; o_law
  refine HandSHeadRun.head_any (r := OpenLaw.row PySem.Challenge.rw_lanesdealt_k53_any_options_of_a_book) (q := view (OpenLaw.row PySem.Challenge.rw_lanesdealt_k53_any_options_of_a_book).prog [18]) (H := Toy.hkL) (ob := Toy.obL) (M := 3000) (loose := Toy.looseL) (d := HandSHeadRun.topDef (OpenLaw.row PySem.Challenge.rw_lanesdealt_k53_any_options_of_a_book).prog 18) (kwd := []) Toy.obL_eq
    (by kernel_rfl) (fun s => by kernel_rfl) Toy.runL (by kernel_rfl) (by kernel_rfl) (by kernel_rfl) (by rfl) (by first | assumption | decide +kernel) (by decide +kernel) ⟨rfl, rfl, rfl, rfl, rfl, by decide +kernel⟩ ?hw ?hc
  case hw => w_witness2
  case hc =>
    refine L2.walk_ofE (l := PySem.Challenge.rw_lanesdealt_k53_any_options_of_a_book) (n := 63) (k := 5) (x := "script") (CX := L2.CX0) rfl (by decide) (by kernel_rfl) ⟨rfl, by decide, by decide⟩ ?F (fun _ _ _ _ z => z)
    intro w mg fa h Y G hmg0
    obtain ⟨K, KX, c⟩ := Y
    have hmg : mg ("law" : PySem.Str) = some (.ref fa) := by
      have e : (HandSHeadRun.topDef (OpenLaw.row PySem.Challenge.rw_lanesdealt_k53_any_options_of_a_book).prog 18).name = ("law" : PySem.Str) := by kernel_rfl
      rw [← e]
      exact hmg0
    obtain ⟨T⟩ := Toy.tx_of KX G c
    have e := hmg.symm.trans T.g_law
    cases e
    have b := L2.FunD.bindsA (ps := ["script"]) T.f_law fun _ _ _ _ _ _ us hl => match us, hl with | [_], _ => rfl
    exact ⟨K, T.fd_law, Toy.spLaw K, KX, fun s v => b s [v] rfl, fun H a ns hl _ hS => ⟨a, ns, rfl, hS, hl, fun _ => rfl⟩, fun base _ _ => Toy.ok_law T⟩

