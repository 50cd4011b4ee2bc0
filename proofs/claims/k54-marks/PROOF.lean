import PyProof.Rows.All
import Wide.All
import OpenK.AllK
import Wide.FinOn
import KE.KExcSuper
import KE.KExcPX
import KE.KExcIs
import HandS.ForMost
import HandS.Exc
import HandS.TryOnly
import HandS.ExcOwn
import HandS.WordsExc
import HandS.Defaults
import HandS.HeadHook1
import HandS.HeadHook2
import KE.KxDecode
import KE.KBytesDec
import KE.KStrBytes
import HandS.ClsMeth
import HandS.Bytes
import HandS.FStr
import HandS.IsInst
import HandS.MakeKwOnly
import HandS.ExcIs
import HandS.Walk
import HandS.NoneIn
import HandS.More
import KE.IntTextText
import HandS.Head0
import HandS.Head1
import HandS.Head2
import HandS.HeadEnd
import PySem.Challenge.RW_lanesdealt_k54_any_signs_of_a_mark
set_option Elab.async false
set_option linter.all false
set_option maxRecDepth 100000
set_option maxHeartbeats 2000000
namespace Er
open PySem PySem.W PySem.Calls PyProof.Rows

/-- what the written part tells of an error's class at C, made by the def at fI -/
structure Cl (P : Program) (K : Frag) (C fI cc cda : Addr) (msg : Str) (fs : List Str) : Prop where
  cls : ∃ nm q N bs bm sn sub ab col dd k0 k1 k2 k3 k5, K.lookup C = some (excClassObj nm q C N bs bm true sn sub ab col dd k0 k1 k2 k3 k5 "ValueError.__new__") ∧ PX.refsVE bm = true
  sa : findIn K (.ref C) "__setattr__" = some (some (.builtin "object.__setattr__"))
  noN : ∀ f ∈ fs, findIn K (.ref C) f = some none
  iC : findIn K (.ref C) "__init__" = some (some (.ref fI))
  tC : typeIn K (.ref fI) = some (.type "function")
  sup : ks_superIn K C C "__init__" = some (some (.builtin "ValueError.__init__"))
  ve : subIn K (.ref C) (.type "ValueError") = some true
  own : mroIn K C (.ref C) = some true
  third : nsIn K cStatics "thirdparty.any" = some none
  cell : ∃ cl cld csl, K.lookup cc = some ⟨cl, cld, .cell (some (.ref C)), csl⟩
  code : ∃ ccl cdd vs ccs file tf, K.lookup cda = some ⟨ccl, cdd, .fields vs, ccs⟩ ∧ vs[2]? = some (.str file tf) ∧ ((P.main.file : Str) == file) = true
  top : (P.main.scope.names.lookup ("super" : Str)).isSome = false

def args1 (f : Str) (p0 p1 : Pos) : Arguments := { posonlyargs := [], args := [{ arg := "self", annotation := none, pos := p0 }, { arg := f, annotation := none, pos := p1 }], vararg := none, kwonlyargs := [], kw_defaults := [], kwarg := none, defaults := [] }
def args2 (f g : Str) (p0 p1 p2 : Pos) : Arguments := { posonlyargs := [], args := [{ arg := "self", annotation := none, pos := p0 }, { arg := f, annotation := none, pos := p1 }, { arg := g, annotation := none, pos := p2 }], vararg := none, kwonlyargs := [], kw_defaults := [], kwarg := none, defaults := [] }
def supS (msg : Str) (p0 p1 p2 p3 p4 p5 : Pos) : Stmt := .Expr (.Call (.Attribute (.Call (.Name "super" p0) [] [] p1) "__init__" p2) [.Constant (.str msg) 0 p3] [] p4) p5
def putS (f : Str) (q1 q2 q3 q4 : Pos) : Stmt := .Assign [.Attribute (.Name "self" q1) f q2] (.Name f q3) q4
def sc1 (f : Str) (more : List (Str × Const)) : Scope := { kind := .function, names := [("self", .local), (f, .local), ("__class__", .free), ("super", .globalImplicit)], isGenerator := false, isCoroutine := false, more := more }
def sc2 (f g : Str) (more : List (Str × Const)) : Scope := { kind := .function, names := [("self", .local), (f, .local), (g, .local), ("__class__", .free), ("super", .globalImplicit)], isGenerator := false, isCoroutine := false, more := more }

section
variable {P : Program} {w : World} {A : Around} {E : Value → Shared → Prop} {K : Frag} {C fI cc cda : Addr} {msg : Str} {fs : List Str}

/-- ValueError.__init__ bound to the new error, called -/
theorem call_mw {h : Heap} {g : Array GenState} {d : Drawn} {t : Nat} {os : OsState} (T : Cl P K C fI cc cda msg fs) (X : K.In h) {u e t0 : Addr} {rest : List Value} {Q : Value → Shared → Prop}
    (he : h.get? e = some (PX.excO C t0)) (hu : h.get? u = some (kxs_mw "ValueError.__init__" e)) (hrest : rest.length ≤ sizeLine)
    (hq : ∀ h' t1, (∀ b o, b ≠ e → h.get? b = some o → h'.get? b = some o) → h'.get? e = some (PX.excO C t1) → Q .none ⟨h', g, d, t, os⟩) :
    wpAny (model P w) A (call (.ref u) rest) Q E ⟨h, g, d, t, os⟩ := by
  obtain ⟨nm, q, N, bs, bm, sn, sub, ab, col, dd, k0, k1, k2, k3, k5, hC, hbm⟩ := T.cls
  have hC' := X _ _ hC
  refine wpAny_call (codeAny_of_tree ?_)
  show wpAny _ A.in1 (callAny (.ref u) ⟨rest, []⟩) _ _ _
  simp only [callAny]
  refine wpAny_bind (wpAny_load hu ?_)
  simp only [kxs_mw, show (Value.type "method-wrapper" == Value.type "method" || Value.type "method-wrapper" == Value.type "builtin_function_or_method" || Value.type "method-wrapper" == Value.type "method-wrapper") = true by decide, if_true]
  refine KFB.if_so (by decide) ?_
  refine wpAny_bind (check_bound_init F.excBase_ValueError.toExcCallFacts hC' he rfl ?_)
  refine wpAny_bind (wpAny_pure (wpAny_pure ?_))
  refine ⟨plainId_quiet F.excBase_ValueError.init.plain _, codeAny_builtin F.excBase_ValueError.initEntry ?_⟩
  rw [Around.under_plainId F.excBase_ValueError.init.plain _]
  wp_walk
  refine hq _ h.objs.size (fun b o hb ho => ?_) ?_
  · rw [Heap.get?_update_other _ _ (Ne.symm hb)]
    exact Heap.get?_push_of_some _ ho
  · rw [Heap.get?_update_self _ (Heap.get?_push_of_some _ he) rfl]
    rfl

/-- the first statement of an error's __init__ -/
theorem sup_stmt {s : Shared} {mb mg : Str → Option Value} {m : Str → Option Value} {body : List Stmt} {fd : FuncData} {ar : Arg} {of : Obj} {L x t0 : Addr} {p0 p1 p2 p3 p4 p5 : Pos} {Q : Flow → Shared → Prop}
    (T : Cl P K C fI cc cda msg fs) (X : K.In s.heap) (hglob : s.heap.Ns mainGlobals mg) (hsup : mg "super" = none) (hblt : s.heap.Ns builtinsNs mb) (hb : ∀ x : Str, x ≠ "__name__" → mb x = bootBuiltins x)
    (hx : s.heap.get? x = some (PX.excO C t0)) (hns : s.heap.Ns L m) (hself : m "self" = some (.ref x)) (hof : s.heap.get? fI = some of) (hfd : of.data = .func fd)
    (hpar : (fd.params.posonlyargs ++ fd.params.args).head? = some ar) (har : ar.arg = "self") (hk : fd.scope.kind = .function) (hgl : fd.globals = mainGlobals) (hbl : fd.builtins = builtinsNs)
    (hclo : fd.closure = [(("__class__" : Str), cc)]) (hcd : fd.code = .ref cda) (k1 : fd.scope.names.lookup ("super" : Str) = some .globalImplicit) (k2 : fd.scope.names.lookup ("__class__" : Str) = some .free) (k3 : fd.scope.names.lookup ("self" : Str) = some .local)
    {pl : Sem Bool} (he : eval (.Call (.Attribute (.Call (.Name "super" p0) [] [] p1) "__init__" p2) [.Constant (.str msg) 0 p3] [] p4) (callEnv fd L fI) = (do
      let ov ← attributeBase (.Call (.Name "super" p0) [] [] p1) "__init__" (callEnv fd L fI) (eval (.Call (.Name "super" p0) [] [] p1) (callEnv fd L fI))
      standAt p2.atName
      let (f, first) ← holding [ov] (getMethod ov "__init__" pl)
      callWith p4 f first (backTo p4 (starEach [.Constant (.str msg) 0 p3] (callEnv fd L fI))) []))
    (hi : interactive (callEnv fd L fI) = false) (hs : swapsWith (.Call (.Attribute (.Call (.Name "super" p0) [] [] p1) "__init__" p2) [.Constant (.str msg) 0 p3] [] p4) none p5.line (callEnv fd L fI) = pure false)
    (hq : ∀ h' tk t1, (∀ b o, b ≠ x → s.heap.get? b = some o → h'.get? b = some o) → h'.get? x = some (PX.excO C t1) → Q .next { s with heap := h', toks := tk }) :
    PySem.wpAt (model P w) A (.func body (callEnv fd L fI)) (exec (supS msg p0 p1 p2 p3 p4 p5) (callEnv fd L fI)) Q E s := by
  obtain ⟨nm, q, N, bs, bm, sn, sub, ab, col, dd, e0, e1, e2, e3, e5, hC, hbm⟩ := T.cls
  obtain ⟨cl, cld, csl, hcell⟩ := T.cell
  obtain ⟨ccl, cdd, vs, ccs, file, tf, hcode, hvs, hfile⟩ := T.code
  obtain ⟨fn, fq, fp, fb, fs', fg, fcl, fdf, fkd, fdoc, fpm, fan, fco, fct, fbu⟩ := fd
  dsimp only at hpar hk hgl hbl hclo hcd k1 k2 k3
  subst hgl hbl hclo hcd
  obtain ⟨hh, g, d, t, os⟩ := s
  have hC' := X _ _ hC
  have xne : x ≠ C := fun z => by
    have e := X _ _ hC
    rw [← z] at e
    have q := hx.symm.trans e
    cases q
  have hI : Looks (model P w) hh (isInstance (.ref x) (.type "ValueError")) true := (InstAt.type (M := model P w) (⟨hx, rfl, rfl, trivial⟩ : InstAt hh x (PX.excO C t0) C none)).andThen (looks_subIn X T.ve)
  have hclsC : clsIn K C = some { name := nm, bases := bs, mro := .ref C :: bm, ns := N, qualname := q, hasDict := true, slotNames := sn, subclasses := sub, abstract := ab, collection := col, hasDel := false } := by unfold clsIn; rw [hC] <;> rfl
  refine ks_wpAt_Expr_any (ks_wpAt_MethodCall (pl := pl) ?_ he) hi hs
  refine ks_wpAt_super_base (f := fI) (cc := cda) (ar := ar) k1 k2 rfl rfl hof hfd hpar rfl (X _ _ hcode) rfl hvs hfile T.top ?_
  refine ks_loadName_global hk k1 (loadGlobal_builtin hglob hsup hblt ((hb _ (by decide +kernel)).trans (by decide +kernel)) ⟨rfl, ?_⟩)
  refine wpAny_loadName_free hk k2 rfl ⟨_, X _ _ hcell, rfl⟩ ?_
  rw [har]
  refine wpAny_loadName_local hk k3 hns hself ?_
  refine ks_wpAny_isType_cls hC' rfl ⟨rfl, ?_⟩
  refine ks_wpAny_call_super hC' rfl hx rfl (fun c e => by cases e) (looks_mroIn X T.own) (fun h' e k => ?_)
  have X1 : K.In h' := fun a o z => k _ _ (X a o z)
  refine kxs_getMethod kxs_ValueError e (looks_opaque X1 T.third) (l₀ := .ref C :: bm) (fun A Q E s k q => wpAny_bind ((looks_clsIn X1 hclsC) A _ E s k (wpAny_pure q))) rfl X1 ?_ (hI.keeps k) xne rfl ?_
  · have z := T.sup
    unfold ks_superIn at z
    rw [hclsC] at z
    exact z
  refine kxs_callWith (i := "ValueError.__init__") (x := x) (by rfl) ?_
  refine evalArgs_plain ?_
  refine Calls.spliced_cons (Calls.Constant_str (k := 0) (pos := p3) ?_)
  refine Calls.spliced_nil ⟨Heap.get?_push_at rfl rfl, ?_⟩
  have e3 : (h'.push (kxs_mw "ValueError.__init__" x)).get? x = some (PX.excO C t0) := Heap.get?_push_of_some _ (k _ _ hx)
  refine call_mw T (fun a o z => Heap.get?_push_of_some _ (X1 a o z)) e3 (Heap.get?_push_at rfl rfl) (by show 1 ≤ sizeLine; rw [sizeLine_eq]; decide) (fun h'' t1 k' e' => ?_)
  exact hq h'' _ t1 (fun b o hb eb => k' b o hb (Heap.get?_push_of_some _ (k b o eb))) e'

/-- what the written part tells of its __init__ -/
structure Fn (P : Program) (K : Frag) (fI cc cda : Addr) (q : Str) (params : Arguments) (body : List Stmt) (scope : Scope) : Prop where
  fn : ∃ oc od osl nm kd doc pm an ct, K.lookup fI = some ⟨oc, od, .func ⟨nm, q, params, .stmts body, scope, mainGlobals, [(("__class__" : Str), cc)], .none, kd, doc, pm, an, .ref cda, ct, builtinsNs⟩, osl⟩
  code : codeIn K (.ref cda) q = true
/-- a made error -/
structure Made (h h' : Heap) (e C d : Addr) (m : Str → Option Value) : Prop where
  keep : ∀ b o, h.get? b = some o → h'.get? b = some o
  new : h.objs.size ≤ e
  obj : ∃ t, h'.get? e = some { cls := .ref C, dict := some d, data := .fields #[.ref t, .none, .none, .none, .bool false, .none] }
  dbig : h.objs.size ≤ d
  dne : d ≠ e
  ns : h'.Ns1 d m
theorem one_size (v : Value) : [v].length ≤ sizeLine := by
  rw [sizeLine_eq]
  exact (by decide : 1 ≤ 16777216)
theorem two_size (v u : Value) : [v, u].length ≤ sizeLine := by
  rw [sizeLine_eq]
  exact (by decide : 2 ≤ 16777216)
theorem ldE {M : Model} {s : Shared} {fd : FuncData} {L a : Addr} {m : Str → Option Value} {x : Str} {pos : Pos} {v : Value} {Q : Value → Shared → Prop} (hn : s.heap.Ns L m) (hv : m x = some v) (h : Q v s)
    (hk : fd.scope.kind = .function) (hl : (callEnv fd L a).kindOf x = some .local) (hd : (x == ("__debug__" : Str)) = false) : wpAny M A (eval (.Name x pos) (callEnv fd L a)) Q E s :=
  wpAny_Name (wpAny_loadName_local hk hl hn hv h) hd
theorem fresh_no {K : Frag} {h : Heap} (X : K.In h) {b : Addr} (hb : h.objs.size ≤ b) : K.lookup b = none := by
  cases e : K.lookup b with
  | none => rfl
  | some o => exact absurd (Nat.lt_of_lt_of_le (Heap.lt_size (X _ _ e)) hb) (Nat.lt_irrefl _)

abbrev mkFd (nm q : Str) (params : Arguments) (body : List Stmt) (scope : Scope) (cc cda : Addr) (kd doc pm : Value) (an : Option Addr) (ct : Value) : FuncData :=
  ⟨nm, q, params, .stmts body, scope, mainGlobals, [(("__class__" : Str), cc)], .none, kd, doc, pm, an, .ref cda, ct, builtinsNs⟩
/-- what is seen of the text itself, each by rfl -/
structure Sy (q : Str) (params : Arguments) (scope : Scope) (st : Stmt) (msg : Str) (fs : List Str) : Prop where
  first : ∃ ar, (params.posonlyargs ++ params.args).head? = some ar ∧ ar.arg = "self"
  kind : scope.kind = .function
  su : scope.names.lookup ("super" : Str) = some .globalImplicit
  cl : scope.names.lookup ("__class__" : Str) = some .free
  se : scope.names.lookup ("self" : Str) = some .local
  fl : ∀ f ∈ fs, scope.names.lookup f = some .local ∧ (f == ("__debug__" : Str)) = false ∧ f ≠ "self"
  nc : ∀ x ∈ scope.names, x.2 ≠ .cell
  co : scope.isCoroutine = false
  ge : scope.isGenerator = false
  nd : fs.Nodup
  bind : ∀ nm body cc cda kd doc pm an ct (u : Value) (vs : List Value), vs.length = fs.length → bindArgs (mkFd nm q params body scope cc cda kd doc pm an ct) ⟨u :: vs, []⟩ = pure ((("self" : Str), u) :: fs.zip vs)
  call : ∃ p0 p1 p2 p3 p4 p5, st = supS msg p0 p1 p2 p3 p4 p5 ∧ ∀ nm body cc cda kd doc pm an ct L fI, ∃ pl : Sem Bool,
    eval (.Call (.Attribute (.Call (.Name "super" p0) [] [] p1) "__init__" p2) [.Constant (.str msg) 0 p3] [] p4) (callEnv (mkFd nm q params body scope cc cda kd doc pm an ct) L fI) = (do
      let ov ← attributeBase (.Call (.Name "super" p0) [] [] p1) "__init__" (callEnv (mkFd nm q params body scope cc cda kd doc pm an ct) L fI) (eval (.Call (.Name "super" p0) [] [] p1) (callEnv (mkFd nm q params body scope cc cda kd doc pm an ct) L fI))
      standAt p2.atName
      let (f, first) ← holding [ov] (getMethod ov "__init__" pl)
      callWith p4 f first (backTo p4 (starEach [.Constant (.str msg) 0 p3] (callEnv (mkFd nm q params body scope cc cda kd doc pm an ct) L fI))) []) ∧
    interactive (callEnv (mkFd nm q params body scope cc cda kd doc pm an ct) L fI) = false ∧
    swapsWith (.Call (.Attribute (.Call (.Name "super" p0) [] [] p1) "__init__" p2) [.Constant (.str msg) 0 p3] [] p4) none p5.line (callEnv (mkFd nm q params body scope cc cda kd doc pm an ct) L fI) = pure false
/-- self.f = f -/
structure Pu (q : Str) (params : Arguments) (scope : Scope) (st : Stmt) (f : Str) : Prop where
  put : ∃ r1 r2 r3 r4, st = putS f r1 r2 r3 r4 ∧ ∀ nm body cc cda kd doc pm an ct L fI, swapsWith (.Name f r3) (some (.Attribute (.Name "self" r1) f r2)) r4.line (callEnv (mkFd nm q params body scope cc cda kd doc pm an ct) L fI) = pure false

section
variable {R : Result → Shared → Prop} {s : Shared} {mb mg : Str → Option Value} {f g q : Str}
/-- the stores behind the first statement: one field -/
theorem put_first {nm : Str} {params : Arguments} {scope : Scope} {body : List Stmt} {kd doc pm ct : Value} {an : Option Addr} {L x t0 : Addr} {m : Str → Option Value} {v : Value} {st st0 : Stmt} {E : Value → Shared → Prop} {Q : Flow → Shared → Prop}
    (T : Cl P K C fI cc cda msg fs) (S : Sy q params scope st0 msg fs) (hf : f ∈ fs) (U : Pu q params scope st f) (X : K.In s.heap) (hx : s.heap.get? x = some (PX.excO C t0)) (hns : s.heap.Ns L m) (hself : m "self" = some (.ref x)) (hv : m f = some v)
    (hq : ∀ h' tk d, (∀ b o, b ≠ x → s.heap.get? b = some o → h'.get? b = some o) → s.heap.objs.size ≤ d → d ≠ x → h'.get? x = some { cls := .ref C, dict := some d, data := .fields #[.ref t0, .none, .none, .none, .bool false, .none] } →
      h'.Ns1 d (fun y => if y = f then some v else none) → Q .next { s with heap := h', toks := tk }) :
    wpAny (model P w) A (exec st (callEnv (mkFd nm q params body scope cc cda kd doc pm an ct) L fI)) Q E s := by
  obtain ⟨r1, r2, r3, r4, rfl, hs⟩ := U.put
  obtain ⟨cnm, cq, N, bs, bm, sn, sub, ab, col, dd, e0, e1, e2, e3, e5, hC, hbm⟩ := T.cls
  have hcl : clsIn K C = some { name := cnm, bases := bs, mro := .ref C :: bm, ns := N, qualname := cq, hasDict := true, slotNames := sn, subclasses := sub, abstract := ab, collection := col, hasDel := false } := by unfold clsIn; rw [hC] <;> rfl
  refine plainObj_wpAny_Assign_Attribute ?_ (hs _ _ _ _ _ _ _ _ _ _ _)
  refine ldE hns hv ?_ S.kind (S.fl f hf).1 (S.fl f hf).2.1
  refine ldE hns hself ?_ S.kind S.se rfl
  refine set_plain X (ox := PX.excO C t0) (od := none) ⟨hx, rfl, rfl, trivial⟩ T.sa ?_
  exact PX.exc_osa X hx hcl (show PX.refsVE (.ref C :: bm) = true from hbm) rfl (T.noN f hf) (fun h₃ tk₃ dx k₃ dn dne hx₃ hn₃ => hq h₃ tk₃ dx k₃ dn dne hx₃ hn₃)
theorem put_next {nm : Str} {params : Arguments} {scope : Scope} {body : List Stmt} {kd doc pm ct : Value} {an : Option Addr} {L x t0 d0 : Addr} {m m0 : Str → Option Value} {nl : List Str} {v : Value} {st st0 : Stmt} {E : Value → Shared → Prop} {Q : Flow → Shared → Prop}
    (T : Cl P K C fI cc cda msg fs) (S : Sy q params scope st0 msg fs) (hf : f ∈ fs) (U : Pu q params scope st f) (X : K.In s.heap) (hx : s.heap.get? x = some { cls := .ref C, dict := some d0, data := .fields #[.ref t0, .none, .none, .none, .bool false, .none] })
    (hd0 : s.heap.Ns1 d0 m0) (hw : Within m0 nl) (hz : nl.length ≤ 1000) (hns : s.heap.Ns L m) (hself : m "self" = some (.ref x)) (hv : m f = some v)
    (hq : ∀ h' tk, (∀ b o, b ≠ d0 → s.heap.get? b = some o → h'.get? b = some o) → h'.Ns1 d0 (fun y => if y = f then some v else m0 y) → Q .next { s with heap := h', toks := tk }) :
    wpAny (model P w) A (exec st (callEnv (mkFd nm q params body scope cc cda kd doc pm an ct) L fI)) Q E s := by
  obtain ⟨r1, r2, r3, r4, rfl, hs⟩ := U.put
  obtain ⟨cnm, cq, N, bs, bm, sn, sub, ab, col, dd, e0, e1, e2, e3, e5, hC, hbm⟩ := T.cls
  have hcl : clsIn K C = some { name := cnm, bases := bs, mro := .ref C :: bm, ns := N, qualname := cq, hasDict := true, slotNames := sn, subclasses := sub, abstract := ab, collection := col, hasDel := false } := by unfold clsIn; rw [hC] <;> rfl
  obtain ⟨oD, _, _, hoD, _, _⟩ := hd0.count hw
  refine plainObj_wpAny_Assign_Attribute ?_ (hs _ _ _ _ _ _ _ _ _ _ _)
  refine ldE hns hv ?_ S.kind (S.fl f hf).1 (S.fl f hf).2.1
  refine ldE hns hself ?_ S.kind S.se rfl
  refine set_plain X (ox := { cls := .ref C, dict := some d0, data := .fields #[.ref t0, .none, .none, .none, .bool false, .none] }) (od := some oD) ⟨hx, rfl, rfl, hoD⟩ T.sa ?_
  exact PX.osa_old X hx hd0 hw hz hcl (show PX.refsVE (.ref C :: bm) = true from hbm) rfl (T.noN f hf) (fun h₃ tk₃ k₃ hn₃ => hq h₃ tk₃ k₃ hn₃)

/-- entering __init__, its first statement done -/
theorem init_in {nm : Str} {params : Arguments} {scope : Scope} {rest : List Stmt} {kd doc pm ct : Value} {an : Option Addr} {oc : Value} {od : Option Addr} {osl : Array (Option Value)} {x t0 : Addr} {vs : List Value} {st0 : Stmt}
    (T : Cl P K C fI cc cda msg fs) (S : Sy q params scope st0 msg fs) (X : K.In s.heap) (hlim : s.heap.NoLimit) (hglob : s.heap.Ns mainGlobals mg) (hsup : mg "super" = none) (hblt : s.heap.Ns builtinsNs mb) (hb : ∀ x : Str, x ≠ "__name__" → mb x = bootBuiltins x)
    (ho : K.lookup fI = some ⟨oc, od, .func (mkFd nm q params (st0 :: rest) scope cc cda kd doc pm an ct), osl⟩) (hcd : codeIn K (.ref cda) q = true)
    (hx : s.heap.get? x = some (PX.excO C t0)) (hnx : K.lookup x = none) (hroom : A.depth < recursionLimit) (hvs : vs.length = fs.length)
    (hq : ∀ h' tk t1 L (E1 : Value → Shared → Prop), (∀ b o, b ≠ x → s.heap.get? b = some o → h'.get? b = some o) → h'.get? x = some (PX.excO C t1) → s.heap.objs.size < h'.objs.size → s.heap.objs.size = L → x ≠ L → K.In h' → h'.Ns L (fun y => (((("self" : Str), Value.ref x) :: fs.zip vs).reverse).lookup y) →
      wpAny (model P w) (A.deeper (callEnv (mkFd nm q params (st0 :: rest) scope cc cda kd doc pm an ct) L fI)) (execs rest (callEnv (mkFd nm q params (st0 :: rest) scope cc cda kd doc pm an ct) L fI)) (fun f s' => R (.ok (.ret (match f with | .ret v => v | _ => .none))) s') E1 { s with heap := h', toks := tk }) :
    codeAny (model P w) A (.call (.ref fI) ⟨.ref x :: vs, []⟩) R s := by
  obtain ⟨ar, ha1, ha2⟩ := S.first
  obtain ⟨p0, p1, p2, p3, p4, p5, rfl, hcall⟩ := S.call
  have hxL : s.heap.objs.size ≠ x := Nat.ne_of_gt (Heap.lt_size hx)
  have hselfn : ("self" : Str) ∉ fs := fun z => (S.fl _ z).2.2 rfl
  refine ks_codeAny_call_defAt hroom (X _ _ ho) rfl hlim (codeRec_of X hcd) rfl (BindsTo.of_eq (S.bind _ _ _ _ _ _ _ _ _ _ _ hvs)) S.nc (fun y hy => ?_) (fun h₀ hn k => ?_) S.co S.ge S.kind
  · rcases List.mem_cons.mp hy with rfl | hy
    · exact S.se
    · exact (S.fl _ (List.of_mem_zip hy).1).1
  · have X0 : K.In h₀ := X.keeps k
    obtain ⟨pl, he, hi, hs⟩ := hcall nm (supS msg p0 p1 p2 p3 p4 p5 :: rest) cc cda kd doc pm an ct s.heap.objs.size fI
    have hself : (((("self" : Str), Value.ref x) :: fs.zip vs).reverse).lookup ("self" : Str) = some (Value.ref x) := by
      rw [List.reverse_cons]
      have q1 : ((fs.zip vs).reverse).lookup ("self" : Str) = none := by
        rw [List.lookup_eq_none_iff]
        intro p hp
        have hp' := (List.of_mem_zip (List.mem_reverse.mp hp)).1
        exact bne_iff_ne.mpr fun z => hselfn (by rw [z]; exact hp')
      rw [List.lookup_append, q1]
      simp [List.lookup]
    refine ks_wpAt_execs_cons ?_
    refine sup_stmt (P := P) T X0 (hglob.keeps k) hsup (hblt.keeps k) hb (k _ _ hx) hn hself (X0 _ _ ho) rfl ha1 ha2 S.kind rfl rfl rfl rfl S.su S.cl S.se he hi hs (fun h' tk t1 k' hx' => ?_)
    refine wpAt_of_wpAny ?_
    obtain ⟨oL, es, ep, hoL, hrL⟩ := id hn
    have hn' : h'.Ns s.heap.objs.size (fun y => (((("self" : Str), Value.ref x) :: fs.zip vs).reverse).lookup y) := ⟨oL, es, ep, k' _ _ hxL hoL, hrL⟩
    refine hq h' tk t1 _ _ (fun b o hb ob => k' b o hb (k b o ob)) hx' ?_ rfl (Ne.symm hxL) (fun a o e => ?_) hn'
    · exact hn'.lt
    · refine k' a o (fun z => ?_) (X0 a o e)
      rw [z, hnx] at e
      cases e

theorem plainIs {K : Frag} {h h' : Heap} {x : Addr} (X : K.In h) (hnx : K.lookup x = none) (k : ∀ b o, b ≠ x → h.get? b = some o → h'.get? b = some o) : K.In h' := fun a o e => by
  refine k a o (fun z => ?_) (X a o e)
  rw [z, hnx] at e
  cases e
theorem nsIs {h h' : Heap} {L x : Addr} {m : Str → Option Value} (hn : h.Ns L m) (hL : L ≠ x) (k : ∀ b o, b ≠ x → h.get? b = some o → h'.get? b = some o) : h'.Ns L m := by
  obtain ⟨oL, es, ep, hoL, hrL⟩ := hn
  exact ⟨oL, es, ep, k _ _ hL hoL, hrL⟩
theorem init1 {nm : Str} {params : Arguments} {scope : Scope} {kd doc pm ct : Value} {an : Option Addr} {oc : Value} {od : Option Addr} {osl : Array (Option Value)} {x t0 : Addr} {v : Value} {st0 st1 : Stmt}
    (T : Cl P K C fI cc cda msg [f]) (S : Sy q params scope st0 msg [f]) (U : Pu q params scope st1 f) (X : K.In s.heap) (hlim : s.heap.NoLimit) (hglob : s.heap.Ns mainGlobals mg) (hsup : mg "super" = none) (hblt : s.heap.Ns builtinsNs mb) (hb : ∀ x : Str, x ≠ "__name__" → mb x = bootBuiltins x)
    (ho : K.lookup fI = some ⟨oc, od, .func (mkFd nm q params [st0, st1] scope cc cda kd doc pm an ct), osl⟩) (hcd : codeIn K (.ref cda) q = true)
    (hx : s.heap.get? x = some (PX.excO C t0)) (hnx : K.lookup x = none) (hroom : A.depth < recursionLimit)
    (hq : ∀ h' tk d t1, (∀ b o, b ≠ x → s.heap.get? b = some o → h'.get? b = some o) → s.heap.objs.size ≤ d → d ≠ x → h'.get? x = some { cls := .ref C, dict := some d, data := .fields #[.ref t1, .none, .none, .none, .bool false, .none] } →
      h'.Ns1 d (fun y => if y = f then some v else none) → R (.ok (.ret .none)) { s with heap := h', toks := tk }) :
    codeAny (model P w) A (.call (.ref fI) ⟨[.ref x, v], []⟩) R s := by
  refine init_in T S X hlim hglob hsup hblt hb ho hcd hx hnx hroom rfl (fun h' tk t1 L E1 k hx' hsz hL hxL X' hn => ?_)
  have nf : f ≠ "self" := (S.fl f (by simp)).2.2
  have l1 : ((((("self" : Str), Value.ref x) :: [f].zip [v]).reverse).lookup ("self" : Str)) = some (Value.ref x) := by
    have z : (("self" : Str) == f) = false := by simpa using fun z => nf z.symm
    simp [List.lookup, z]
  have l2 : ((((("self" : Str), Value.ref x) :: [f].zip [v]).reverse).lookup f) = some v := by simp [List.lookup]
  refine wpAny_execs_cons (put_first (s := { s with heap := h', toks := tk }) T S (by simp) U X' hx' hn l1 l2 (fun h2 tk2 d k2 hd hdx hx2 hn2 => ?_))
  refine wpAny_execs_nil (hq h2 tk2 d t1 (fun b o hb e => k2 b o hb (k b o hb e)) (Nat.le_of_lt (Nat.lt_of_lt_of_le hsz hd)) hdx hx2 hn2)
theorem init2 {nm : Str} {params : Arguments} {scope : Scope} {kd doc pm ct : Value} {an : Option Addr} {oc : Value} {od : Option Addr} {osl : Array (Option Value)} {x t0 : Addr} {v u : Value} {st0 st1 st2 : Stmt}
    (T : Cl P K C fI cc cda msg [f, g]) (S : Sy q params scope st0 msg [f, g]) (U : Pu q params scope st1 f) (U2 : Pu q params scope st2 g) (X : K.In s.heap) (hlim : s.heap.NoLimit) (hglob : s.heap.Ns mainGlobals mg) (hsup : mg "super" = none) (hblt : s.heap.Ns builtinsNs mb) (hb : ∀ x : Str, x ≠ "__name__" → mb x = bootBuiltins x)
    (ho : K.lookup fI = some ⟨oc, od, .func (mkFd nm q params [st0, st1, st2] scope cc cda kd doc pm an ct), osl⟩) (hcd : codeIn K (.ref cda) q = true)
    (hx : s.heap.get? x = some (PX.excO C t0)) (hnx : K.lookup x = none) (hroom : A.depth < recursionLimit)
    (hq : ∀ h' tk d t1, (∀ b o, b ≠ x → s.heap.get? b = some o → h'.get? b = some o) → s.heap.objs.size ≤ d → d ≠ x → h'.get? x = some { cls := .ref C, dict := some d, data := .fields #[.ref t1, .none, .none, .none, .bool false, .none] } →
      h'.Ns1 d (fun y => if y = g then some u else if y = f then some v else none) → R (.ok (.ret .none)) { s with heap := h', toks := tk }) :
    codeAny (model P w) A (.call (.ref fI) ⟨[.ref x, v, u], []⟩) R s := by
  refine init_in T S X hlim hglob hsup hblt hb ho hcd hx hnx hroom rfl (fun h' tk t1 L E1 k hx' hsz hL hxL X' hn => ?_)
  have nf : f ≠ "self" := (S.fl f (by simp)).2.2
  have ng : g ≠ "self" := (S.fl g (by simp)).2.2
  have fg : f ≠ g := by
    have q := S.nd
    simpa using q
  have z1 : (("self" : Str) == f) = false := by simpa using fun z => nf z.symm
  have z2 : (("self" : Str) == g) = false := by simpa using fun z => ng z.symm
  have z3 : (f == g) = false := by simpa using fg
  have l1 : ((((("self" : Str), Value.ref x) :: [f, g].zip [v, u]).reverse).lookup ("self" : Str)) = some (Value.ref x) := by
    simp [List.lookup, z1, z2]
  have l2 : ((((("self" : Str), Value.ref x) :: [f, g].zip [v, u]).reverse).lookup f) = some v := by simp [List.lookup, z3]
  have l3 : ((((("self" : Str), Value.ref x) :: [f, g].zip [v, u]).reverse).lookup g) = some u := by simp [List.lookup]
  refine wpAny_execs_cons (put_first (s := { s with heap := h', toks := tk }) T S (by simp) U X' hx' hn l1 l2 (fun h2 tk2 d k2 hd hdx hx2 hn2 => ?_))
  have X2 := plainIs X' hnx k2
  have hnL := nsIs hn (Ne.symm hxL) k2
  have dL : d ≠ L := fun z => by
    rw [z, ← hL] at hd
    exact absurd (Nat.lt_of_lt_of_le hsz hd) (Nat.lt_irrefl _)
  refine wpAny_execs_cons (put_next (s := { s with heap := h2, toks := tk2 }) (nl := [f]) T S (by simp) U2 X2 hx2 hn2 (Within.cons f v Within.nil) (by show 1 ≤ 1000; decide) hnL l1 l3 (fun h3 tk3 k3 hn3 => ?_))
  refine wpAny_execs_nil (hq h3 tk3 d t1 (fun b o hb e => k3 b o (fun z => ?_) (k2 b o hb (k b o hb e))) (Nat.le_of_lt (Nat.lt_of_lt_of_le hsz hd)) hdx (k3 _ _ (Ne.symm hdx) hx2) hn3)
  have y := Heap.lt_size e
  rw [z] at y
  exact absurd (Nat.lt_of_lt_of_le (Nat.lt_trans y hsz) hd) (Nat.lt_irrefl _)

/-- an error's class as callers want it: its __init__ walked, from any new instance -/
structure Mkr (P : Program) (K : Frag) (mg : Str → Option Value) (C fI : Addr) (n : Nat) (m : List Value → Str → Option Value) : Prop where
  cls : ∃ nm q N bs bm sn sub ab col dd k0 k1 k2 k3 k5, K.lookup C = some (excClassObj nm q C N bs bm true sn sub ab col dd k0 k1 k2 k3 k5 "ValueError.__new__") ∧ PX.refsVE bm = true
  iC : findIn K (.ref C) "__init__" = some (some (.ref fI))
  tC : typeIn K (.ref fI) = some (.type "function")
  init : ∀ (w : World) (A : Around) (R : Result → Shared → Prop) (s : Shared) (mb : Str → Option Value) (x t0 : Addr) (vs : List Value), vs.length = n → K.In s.heap → s.heap.NoLimit → s.heap.Ns mainGlobals mg → s.heap.Ns builtinsNs mb → (∀ x : Str, x ≠ "__name__" → mb x = bootBuiltins x) →
    s.heap.get? x = some (PX.excO C t0) → K.lookup x = none → A.depth < recursionLimit →
    (∀ h' tk d t1, (∀ b o, b ≠ x → s.heap.get? b = some o → h'.get? b = some o) → s.heap.objs.size ≤ d → d ≠ x → h'.get? x = some { cls := .ref C, dict := some d, data := .fields #[.ref t1, .none, .none, .none, .bool false, .none] } →
      h'.Ns1 d (m vs) → R (.ok (.ret .none)) { s with heap := h', toks := tk }) →
    codeAny (model P w) A (.call (.ref fI) ⟨.ref x :: vs, []⟩) R s
theorem Mkr.of1 {nm : Str} {params : Arguments} {scope : Scope} {kd doc pm ct : Value} {an : Option Addr} {oc : Value} {od : Option Addr} {osl : Array (Option Value)} {st0 st1 : Stmt}
    (T : Cl P K C fI cc cda msg [f]) (S : Sy q params scope st0 msg [f]) (U : Pu q params scope st1 f) (hsup : mg "super" = none)
    (ho : K.lookup fI = some ⟨oc, od, .func (mkFd nm q params [st0, st1] scope cc cda kd doc pm an ct), osl⟩) (hcd : codeIn K (.ref cda) q = true) :
    Mkr P K mg C fI 1 (fun vs y => if y = f then some (vs.getD 0 .none) else none) where
  cls := T.cls
  iC := T.iC
  tC := T.tC
  init := fun w A R s mb x t0 vs hvs X hlim hg hb1 hb2 hx hnx hr hq => by
    obtain ⟨v, rfl⟩ : ∃ v, vs = [v] := List.length_eq_one_iff.mp hvs
    exact init1 T S U X hlim hg hsup hb1 hb2 ho hcd hx hnx hr hq
theorem Mkr.of2 {nm : Str} {params : Arguments} {scope : Scope} {kd doc pm ct : Value} {an : Option Addr} {oc : Value} {od : Option Addr} {osl : Array (Option Value)} {st0 st1 st2 : Stmt}
    (T : Cl P K C fI cc cda msg [f, g]) (S : Sy q params scope st0 msg [f, g]) (U : Pu q params scope st1 f) (U2 : Pu q params scope st2 g) (hsup : mg "super" = none)
    (ho : K.lookup fI = some ⟨oc, od, .func (mkFd nm q params [st0, st1, st2] scope cc cda kd doc pm an ct), osl⟩) (hcd : codeIn K (.ref cda) q = true) :
    Mkr P K mg C fI 2 (fun vs y => if y = g then some (vs.getD 1 .none) else if y = f then some (vs.getD 0 .none) else none) where
  cls := T.cls
  iC := T.iC
  tC := T.tC
  init := fun w A R s mb x t0 vs hvs X hlim hg hb1 hb2 hx hnx hr hq => by
    obtain ⟨v, u, rfl⟩ : ∃ v u, vs = [v, u] := match vs, hvs with | [v, u], _ => ⟨v, u, rfl⟩
    exact init2 T S U U2 X hlim hg hsup hb1 hb2 ho hcd hx hnx hr hq
theorem made {n : Nat} {m : List Value → Str → Option Value} {vs : List Value} (T : Mkr P K mg C fI n m) (hn : vs.length = n) (hsz : vs.length ≤ sizeLine) (X : K.In s.heap) (hlim : s.heap.NoLimit) (hglob : s.heap.Ns mainGlobals mg) (hblt : s.heap.Ns builtinsNs mb) (hb : ∀ x : Str, x ≠ "__name__" → mb x = bootBuiltins x)
    (hroom : A.depth + 1 < recursionLimit) (hq : ∀ h' tk e d, Made s.heap h' e C d (m vs) → R (.ok (.ret (.ref e))) { s with heap := h', toks := tk }) :
    codeAny (model P w) A (.call (.ref C) ⟨vs, []⟩) R s := by
  obtain ⟨nm, q, N, bs, bm, sn, sub, ab, col, dd, k0, k1, k2, k3, k5, hC, hbm⟩ := T.cls
  obtain ⟨hp, g, dr, tk, os⟩ := s
  have k : ∀ b o, hp.get? b = some o → ((hp.push (kdv_tup vs)).push (PX.excO C hp.objs.size)).get? b = some o := fun b o e => Heap.get?_push_of_some _ (Heap.get?_push_of_some _ e)
  have hget : ((hp.push (kdv_tup vs)).push (PX.excO C hp.objs.size)).get? (hp.objs.size + 1) = some (PX.excO C hp.objs.size) := by heap_get
  have hnx : K.lookup (hp.objs.size + 1) = none := fresh_no X (Nat.le_succ _)
  refine PX.call_own F.excBase_ValueError (fun z => PX.refsVE_contains z bm hbm) (X _ _ hC) (looks_findIn X T.iC) (fun self => bind_fn X self T.tC) hsz ?_
  refine T.init w _ _ ⟨(hp.push (kdv_tup vs)).push (PX.excO C hp.objs.size), g, dr, tk, os⟩ mb _ _ vs hn (X.keeps k) (hlim.keeps k) (hglob.keeps k) (hblt.keeps k) hb hget hnx (by show A.depth + 1 < recursionLimit; exact hroom) (fun h' tk' d t1 k' dn dne hx hns => ?_)
  have old : ∀ b o, hp.get? b = some o → h'.get? b = some o := fun b o e => k' b o (Nat.ne_of_lt (Nat.lt_succ_of_lt (Heap.lt_size e))) (k b o e)
  have z : hp.objs.size ≤ d := Nat.le_trans (by rw [Heap.size_push, Heap.size_push]; omega) dn
  exact ⟨rfl, hq h' tk' _ d ⟨old, Nat.le_succ _, ⟨t1, hx⟩, z, dne, hns⟩⟩
end
end
end Er

namespace L2
open PySem PySem.Spec PyProof.Rows
/-- what callers know of an error's class: the fields by name -/
structure Err (P : Program) (K : PySem.W.Frag) (mg : Str → Option Value) (x : Str) (C : Addr) (fs : List Str) : Prop where
  gC : mg x = some (.ref C)
  mkr : ∃ fI m, Er.Mkr P K mg C fI fs.length m ∧ ∀ vs us, vs.length = fs.length → Vals vs us → ∀ f, RelO ((fs.zip vs).lookup f) (m us f)
  kC : PySem.W.keepIn K (.ref C) = true
  ex : PySem.W.subIn K (.ref C) (.type "BaseException") = some true
  ty : PySem.W.typeIn K (.ref C) = some (.type "type")
  ga : PySem.W.findIn K (.ref C) "__getattribute__" = some (some (.builtin "BaseException.__getattribute__"))
  gg : PySem.W.findIn K (.ref C) "__getattr__" = some none
  hd : PySem.W.hasDictIn K C = true
  no : ∀ f ∈ fs, PySem.W.findIn K (.ref C) f = some none
  sz : fs.length ≤ 100
  kl : PySem.W.findIn K (.ref C) "__class__" = some (some (.builtin "object.__class__"))
  kg : PySem.W.specialIn K (.builtin "object.__class__") "__get__" = some (some (.builtin "getset_descriptor.__get__"))
  kt : PySem.W.takesIn K (.builtin "object.__class__") = some true
  ko : PySem.W.mroIn K C (.type "object") = some true
section
variable {X : Cx} {C : Addr} {x : Str} {fs : List Str}
/-- X(e, ..) -/
def tMkE (C : Addr) (fs : List Str) (ta : TA) : St → Hp → XK → Prop := fun σ H Q => ta σ H fun vs H1 => vs.length = fs.length ∧ ∀ d, H1 d = none → Q (.ref C) (some d) (upd H1 d (.xd (fs.zip vs)))
theorem pmk_err {a : Expr} {as : List Expr} {ta : TA} {p pos : Pos} {k : Nat} (T : Err X.prog X.K X.mg x C fs) (hr : Room k X.A) (ha : PA X (a :: as) ta) (hg : Gl X x := by rfl)
    (he : starEach (a :: as) X.env = (false, eval a X.env) :: starEach as X.env := by rfl) (hpl : (backTo pos (starEach as X.env)).any (·.1) = false := by rfl) (hdb : (x == ("__debug__" : Str)) = false := by decide) :
    PMk X (.Call (.Name x p) (a :: as) [] pos) (tMkE C fs ta) := by
  intro pins s σ H Q I h
  refine wpAny_Call_Name_kw (ld_glob I hg T.gC ?_ hdb)
  refine PySem.W.callWith_K (h₀ := X.base) I.ok.mod.kin T.kC (thn (ha.run pos pins s σ H _ I h) fun us s1 hh => ?_) he hpl
  obtain ⟨vs, H1, I1, r1, hlen, q1⟩ := hh
  refine ⟨I1.kIn, ?_⟩
  obtain ⟨fI, m, hM, hm⟩ := T.mkr
  show wpAny _ _ (call (.ref C) us) _ _ _
  have hul : us.length = fs.length := r1.length.symm.trans hlen
  obtain ⟨mb, hmb, hmb2⟩ := I1.mod.blt
  have hlim := I1.nolimit
  have hgl := I1.mod.glob.keeps I1.bk
  have hbl := hmb.keeps I1.bk
  obtain ⟨hp, g, dr, tk, os⟩ := s1
  refine wpAny_call (Er.made hM hul (by rw [hul, sizeLine_eq]; exact Nat.le_trans T.sz (by decide)) I1.kIn hlim hgl hbl hmb2 (by have := hr.dp; omega) fun h' tk' e d M => ?_)
  show MkP X pins σ Q (.ref e) ⟨h', g, dr, tk', os⟩
  obtain ⟨t1, hoe⟩ := M.obj
  have hns := M.ns
  obtain ⟨G', g1, g2⟩ := restrict h' fun b => decide (b ≠ e)
  have gk : ∀ b, b ≠ e → G'.get? b = h'.get? b := fun b hb => g1 b (decide_eq_true hb)
  have ge : G'.get? e = none := g2 e (by simp)
  have old : ∀ b o, hp.get? b = some o → G'.get? b = some o := fun b o q => (gk b (Nat.ne_of_lt (Nat.lt_of_lt_of_le (Heap.lt_size q) M.new))).trans (M.keep b o q)
  have ob : ObjOk X.prog X.w (upd H1 d (.xd (fs.zip vs))) G' d (.xd (fs.zip vs)) :=
    ⟨_, hns.at (fun o q => (gk d M.dne).trans q), fun f => hm vs us hlen r1 f⟩
  have J : Inv X pins σ (upd H1 d (.xd (fs.zip vs))) ⟨G', g, dr, tk', os⟩ := I1.laid (t' := tk') old M.dbig ob
  refine ⟨e, _, _, ⟨G', g, dr, tk', os⟩, _, .ref C, some d, rfl, J, fun b o q => ?_, ge, hoe, ⟨rfl, rfl⟩, rfl, rfl, ?_, rfl, I1.bare, raises_own T.ex T.ty, q1 d (I1.hok.fresh M.dbig)⟩
  · by_cases hb : b = e
    · have q' : G'.get? b = some o := q
      rw [hb, ge] at q'; cases q'
    · exact (gk b hb).symm.trans q
  · rw [upd_ne (Ne.symm M.dne)]
    exact I1.hok.fresh M.new
/-- raise X(e, ..) -/
def tRaiseE (C : Addr) (fs : List Str) (W : WX) (ta : TA) : TS := fun _ σ H => tMkE C fs ta σ H fun cls d H' => W cls d σ H'
theorem ps_raiseE {a : Expr} {as : List Expr} {ta : TA} {W : WX} {p pos pos2 : Pos} {k : Nat} (hc : X.calm = true) (T : Err X.prog X.K X.mg x C fs) (hr : Room k X.A) (tk : Takes X W) (ha : PA X (a :: as) ta) (hg : Gl X x := by rfl)
    (he : starEach (a :: as) X.env = (false, eval a X.env) :: starEach as X.env := by rfl) (hpl : (backTo pos (starEach as X.env)).any (·.1) = false := by rfl) (hdb : (x == ("__debug__" : Str)) = false := by decide) :
    PS X (.Raise (some (.Call (.Name x p) (a :: as) [] pos)) none pos2) (tRaiseE C fs W ta) := ps_raise hc tk (pmk_err T hr ha hg he hpl hdb)
/-- e.f, e the exception that the suite holds (at a; its class cls, its dict d) -/
def tByE (C : Addr) (f : Str) (a : Addr) (cls : Value) (d : Option Addr) (te : TE) : TE := fun σ H Q => te σ H fun x H1 => x = .ref a ∧ cls = .ref C ∧ ∃ (dd : Addr) (fs : List (Str × V)) (v : V), d = some dd ∧ H1 dd = some (.xd fs) ∧ fs.lookup f = some v ∧ Q v H1
theorem pe_byE {a : Addr} {oe : Obj} {cls : Value} {d : Option Addr} {pn : List (Addr × Obj)} {e : Expr} {te : TE} {pos : Pos} {f : Str} (T : Err X.prog X.K X.mg x C fs) (hf : f ∈ fs) (hz : Zc cls d oe) (hfl : ∃ vs, oe.data = .fields vs) (he : PE (X.suite a ((a, oe) :: pn)) e te)
    (hb : attributeBase e f X.env (eval e X.env) = eval e X.env := by rfl) :
    PE (X.suite a ((a, oe) :: pn)) (.Attribute e f pos) (tByE C f a cls d te) := by
  refine ⟨fun pins s σ H Q I h => ?_⟩
  refine attr_of hb (thn (he.run pins s σ H _ I h) fun u s1 hh => ?_)
  obtain ⟨x, H1, I1, rx, ex, ec, dd, fs, v, ed, ea, el, q⟩ := hh
  subst ex
  obtain rfl : u = Value.ref a := rx
  subst ec
  subst ed
  obtain ⟨ha, _⟩ := I1.pin (a, oe) (List.mem_append_left _ List.mem_cons_self)
  obtain ⟨vs, hd⟩ := hfl
  have hx : ObjOk X.prog X.w H1 s1.heap dd (.xd fs) := I1.hok dd _ ea
  obtain ⟨mA, hns, hr⟩ := hx
  obtain ⟨od, ho, hl⟩ := lookIn_ns hns
  obtain ⟨u, hu, ru⟩ := RelO.some_of (v := v) (o := mA f) (by rw [← el]; exact hr f)
  have J : PySem.W.InstAt s1.heap a oe C (some od) := ⟨ha, hz.1, by unfold PySem.W.notCls; rw [hd] <;> rfl, by rw [hz.2]; exact ho⟩
  exact HandSPX.exc_get I1.kIn J T.ga T.gg T.ex (PySem.W.findObj_own T.hd (T.no f hf) rfl (by rw [hl, hu])) (handed_of ru) ⟨v, H1, I1.tok _, ru, q⟩
/-- isinstance(e, c), e the exception that the suite holds -/
def rIsD (K : PySem.W.Frag) (D a : Addr) (cls : Value) (d : Option Addr) : List V → Hp → VK → Prop := fun xs H Q => ∃ (c : V) (cv : Value) (b : Bool) (dd : Addr) (fs : List (Str × V)), xs = [.ref a, c] ∧ (∀ u, RelV c u → u = cv) ∧ PySem.W.kitOne K (.ref D) cv = some b ∧ cls = .ref D ∧ d = some dd ∧ H dd = some (.xd fs) ∧ Q (.bl b) H
theorem call_isD {X : Cx} {a D : Addr} {cls : Value} {d : Option Addr} {x : Str} {fs : List Str} {oe : Obj} {pn : List (Addr × Obj)} (T : Err X.prog X.K X.mg x D fs) (hz : Zc cls d oe) (hf : ∃ vs, oe.data = .fields vs) : CallR (X.suite a ((a, oe) :: pn)) (.builtin "isinstance") (rIsD X.K D a cls d) := by
  intro pins s σ H xs us Q I r h
  obtain ⟨c, cv, b, dd, fl, rfl, hcv, e, rfl, rfl, hd, q⟩ := h
  cases r with
  | cons rx rr =>
    cases rr with
    | cons rt rr =>
      cases rr
      cases rx
      have ec := hcv _ rt
      subst ec
      obtain ⟨hget, _⟩ := I.pin (a, oe) (List.mem_append.mpr (.inl List.mem_cons_self))
      obtain ⟨vs, hv⟩ := hf
      have hx : ObjOk X.prog X.w H s.heap dd (.xd fl) := I.hok dd _ hd
      obtain ⟨mA, hns, hr⟩ := hx
      obtain ⟨od, ho, hl⟩ := lookIn_ns hns
      have J : PySem.W.InstAt s.heap a oe D (some od) := ⟨hget, hz.1, by unfold PySem.W.notCls; rw [hv] <;> rfl, by rw [hz.2]; exact ho⟩
      obtain ⟨cd, hc, _⟩ := PySem.W.any_some T.hd
      exact PySem.W.kia_one (PySem.W.kitx_exc (by rw [hc] <;> rfl) T.ga T.gg T.ex T.kl T.kg T.kt T.ko) I.kIn J e (fun z => nomatch z) fun tk => ⟨.bl b, H, I.kept (t' := tk) fun _ _ z => z, rfl, q⟩
end
end L2

namespace Er
open PySem PySem.W PySem.Calls PyProof.Rows L2
/-! ### an error's facts as one test of the written part -/
def clB (K : Frag) (C : Addr) : Bool := match K.lookup C with
  | some ⟨.type z, _, .cls cd, sl⟩ => decide (z = "type") && (match cd.mro, sl.toList with
    | .ref C' :: bm, [_, _, _, _, some (.builtin n), _] => decide (C' = C) && (decide (n = "ValueError.__new__") && (!cd.hasDel && (cd.hasDict && PX.refsVE bm)))
    | _, _ => false)
  | _ => false
theorem clB_ok {K : Frag} {C : Addr} (h : clB K C = true) : ∃ nm q N bs bm sn sub ab col dd k0 k1 k2 k3 k5, K.lookup C = some (excClassObj nm q C N bs bm true sn sub ab col dd k0 k1 k2 k3 k5 "ValueError.__new__") ∧ PX.refsVE bm = true := by
  unfold clB at h
  cases e : K.lookup C with
  | none => rw [e] at h; cases h
  | some o =>
    rw [e] at h
    obtain ⟨oc, od, dt, sl⟩ := o
    cases oc with
    | type z =>
      cases dt with
      | cls cd =>
        obtain ⟨nm, bs, mro, ns, qn, hd, sn, sub, ab, col, del⟩ := cd
        obtain ⟨l⟩ := sl
        obtain ⟨h0, h⟩ := He.ba h
        have h0' := of_decide_eq_true h0
        match mro, l, h with
        | .ref C' :: bm, [k0, k1, k2, k3, some (.builtin n), k5], h =>
          have hh : (decide (C' = C) && (decide (n = "ValueError.__new__") && (!del && (hd && PX.refsVE bm)))) = true := h
          obtain ⟨a1, hh⟩ := He.ba hh
          obtain ⟨a2, hh⟩ := He.ba hh
          obtain ⟨a3, hh⟩ := He.ba hh
          obtain ⟨a4, a5⟩ := He.ba hh
          have a1' := of_decide_eq_true a1
          have a2' := of_decide_eq_true a2
          have a3' : del = false := by simpa using a3
          have a4' : hd = true := a4
          subst a1' a2' a3' a4'
          exact ⟨nm, qn, ns, bs, bm, sn, sub, ab, col, od, k0, k1, k2, k3, k5, by rw [h0'], a5⟩
      | _ => cases h
    | _ => cases h
/-- the def's cell for its class and its code object -/
def ccOf (fd : FuncData) : Addr := match fd.closure with
  | [(_, c)] => c
  | _ => 0
def cdOf (fd : FuncData) : Addr := match fd.code with
  | .ref c => c
  | _ => 0
def cellB (K : Frag) (cc C : Addr) : Bool := match K.lookup cc with
  | some ⟨_, _, .cell (some (.ref D)), _⟩ => decide (D = C)
  | _ => false
def fileB (K : Frag) (cda : Addr) (file : Str) : Bool := match K.lookup cda with
  | some ⟨_, _, .fields vs, _⟩ => (match (vs[2]? : Option Value) with
    | some (.str z _) => file == z
    | _ => false)
  | _ => false
def noneB : Value → Bool
  | .none => true
  | _ => false
def refB : Value → Bool
  | .ref _ => true
  | _ => false
def fnB (K : Frag) (C fI : Addr) (file q : Str) : Bool := match K.lookup fI with
  | some ⟨_, _, .func fd, _⟩ => noneB fd.defaults && (refB fd.code && (codeIn K fd.code q && (cellB K (ccOf fd) C && fileB K (cdOf fd) file)))
  | _ => false
abbrev FnE : Type := Option (Str × Str × Arguments × FuncBody × Scope × Addr × List Str × Addr)
def fnE (K : Frag) (x : Str) : FnE := match K.lookup (He.ma K (He.ga K x) "__init__") with
  | some ⟨_, _, .func fd, _⟩ => some (fd.name, fd.qualname, fd.params, fd.body, fd.scope, fd.globals, fd.closure.map (·.1), fd.builtins)
  | _ => none
structure DE where
  x : Str
  qual : Str
  params : Arguments
  body : List Stmt
  scope : Scope
  fs : List Str
def DE.val (d : DE) : FnE := some ("__init__", d.qual, d.params, .stmts d.body, d.scope, mainGlobals, ["__class__"], builtinsNs)
def oo (a b : Option (Option Value)) : Bool := He.eqO a b
def bo (a : Option Bool) : Bool := decide (a = some true)
def DE.ok (P : Program) (K : Frag) (d : DE) : Bool :=
  oo (nsIn K mainGlobals d.x) (some (some (.ref (He.ga K d.x)))) && (clB K (He.ga K d.x) && (oo (findIn K (.ref (He.ga K d.x)) "__setattr__") (some (some (.builtin "object.__setattr__"))) &&
  ((d.fs.all fun f => oo (findIn K (.ref (He.ga K d.x)) f) (some none)) && (oo (findIn K (.ref (He.ga K d.x)) "__init__") (some (some (.ref (He.ma K (He.ga K d.x) "__init__")))) &&
  (decide (typeIn K (.ref (He.ma K (He.ga K d.x) "__init__")) = some (.type "function")) && (oo (ks_superIn K (He.ga K d.x) (He.ga K d.x) "__init__") (some (some (.builtin "ValueError.__init__"))) &&
  (bo (subIn K (.ref (He.ga K d.x)) (.type "ValueError")) && (bo (mroIn K (He.ga K d.x) (.ref (He.ga K d.x))) && (oo (nsIn K cStatics "thirdparty.any") (some none) &&
  (fnB K (He.ga K d.x) (He.ma K (He.ga K d.x) "__init__") P.main.file d.qual && (!(P.main.scope.names.lookup ("super" : Str)).isSome && (keepIn K (.ref (He.ga K d.x)) &&
  (bo (subIn K (.ref (He.ga K d.x)) (.type "BaseException")) && (decide (typeIn K (.ref (He.ga K d.x)) = some (.type "type")) && (oo (findIn K (.ref (He.ga K d.x)) "__getattribute__") (some (some (.builtin "BaseException.__getattribute__"))) &&
  (oo (findIn K (.ref (He.ga K d.x)) "__getattr__") (some none) && (hasDictIn K (He.ga K d.x) && (oo (nsIn K mainGlobals "super") (some none) && (oo (findIn K (.ref (He.ga K d.x)) "__class__") (some (some (.builtin "object.__class__"))) &&
  (oo (specialIn K (.builtin "object.__class__") "__get__") (some (some (.builtin "getset_descriptor.__get__"))) && (bo (takesIn K (.builtin "object.__class__")) && bo (mroIn K (He.ga K d.x) (.type "object")))))))))))))))))))))))

section
variable {P : Program} {K : Frag} {mg : Str → Option Value} {h : Heap}
theorem oo_ok {a b : Option (Option Value)} (h : oo a b = true) : a = b := He.eqO_ok h
theorem bo_ok {a : Option Bool} (h : bo a = true) : a = some true := of_decide_eq_true h
theorem cellB_ok {cc C : Addr} (h : cellB K cc C = true) : ∃ cl cld csl, K.lookup cc = some ⟨cl, cld, .cell (some (.ref C)), csl⟩ := by
  unfold cellB at h
  cases e : K.lookup cc with
  | none => rw [e] at h; cases h
  | some o =>
    rw [e] at h
    obtain ⟨oc, od, dt, sl⟩ := o
    cases dt with
    | cell v =>
      cases v with
      | none => cases h
      | some v =>
        cases v with
        | ref D =>
          have e1 : D = C := of_decide_eq_true h
          subst e1
          exact ⟨oc, od, sl, rfl⟩
        | _ => cases h
    | _ => cases h
theorem fileB_ok {cda : Addr} {file : Str} (h : fileB K cda file = true) : ∃ ccl cdd vs ccs z tf, K.lookup cda = some ⟨ccl, cdd, .fields vs, ccs⟩ ∧ vs[2]? = some (.str z tf) ∧ (file == z) = true := by
  unfold fileB at h
  cases e : K.lookup cda with
  | none => rw [e] at h; cases h
  | some o =>
    rw [e] at h
    obtain ⟨oc, od, dt, sl⟩ := o
    cases dt with
    | fields vs =>
      have h' : (match (vs[2]? : Option Value) with
        | some (.str z _) => file == z
        | _ => false) = true := h
      cases e2 : (vs[2]? : Option Value) with
      | none => rw [e2] at h'; cases h'
      | some v =>
        rw [e2] at h'
        cases v with
        | str z tf => exact ⟨oc, od, vs, sl, z, tf, rfl, e2, h'⟩
        | _ => cases h'
    | _ => cases h
/-- the facts of an error's class, from the test and the def's text -/
theorem facts {d : DE} {msg : Str} (c : d.ok P K = true) (e : fnE K d.x = d.val) : ∃ cc cda oc od osl kd doc pm an ct,
    Cl P K (He.ga K d.x) (He.ma K (He.ga K d.x) "__init__") cc cda msg d.fs ∧ K.lookup (He.ma K (He.ga K d.x) "__init__") = some ⟨oc, od, .func (mkFd "__init__" d.qual d.params d.body d.scope cc cda kd doc pm an ct), osl⟩ ∧
    codeIn K (.ref cda) d.qual = true ∧ nsIn K mainGlobals "super" = some none ∧ nsIn K mainGlobals d.x = some (some (.ref (He.ga K d.x))) ∧
    keepIn K (.ref (He.ga K d.x)) = true ∧ subIn K (.ref (He.ga K d.x)) (.type "BaseException") = some true ∧ typeIn K (.ref (He.ga K d.x)) = some (.type "type") ∧
    findIn K (.ref (He.ga K d.x)) "__getattribute__" = some (some (.builtin "BaseException.__getattribute__")) ∧ findIn K (.ref (He.ga K d.x)) "__getattr__" = some none ∧ hasDictIn K (He.ga K d.x) = true ∧
    findIn K (.ref (He.ga K d.x)) "__class__" = some (some (.builtin "object.__class__")) ∧ specialIn K (.builtin "object.__class__") "__get__" = some (some (.builtin "getset_descriptor.__get__")) ∧ takesIn K (.builtin "object.__class__") = some true ∧ mroIn K (He.ga K d.x) (.type "object") = some true := by
  unfold DE.ok at c
  obtain ⟨c1, c⟩ := He.ba c
  obtain ⟨c2, c⟩ := He.ba c
  obtain ⟨c3, c⟩ := He.ba c
  obtain ⟨c4, c⟩ := He.ba c
  obtain ⟨c5, c⟩ := He.ba c
  obtain ⟨c6, c⟩ := He.ba c
  obtain ⟨c7, c⟩ := He.ba c
  obtain ⟨c8, c⟩ := He.ba c
  obtain ⟨c9, c⟩ := He.ba c
  obtain ⟨c10, c⟩ := He.ba c
  obtain ⟨c11, c⟩ := He.ba c
  obtain ⟨c12, c⟩ := He.ba c
  obtain ⟨c13, c⟩ := He.ba c
  obtain ⟨c14, c⟩ := He.ba c
  obtain ⟨c15, c⟩ := He.ba c
  obtain ⟨c16, c⟩ := He.ba c
  obtain ⟨c17, c⟩ := He.ba c
  obtain ⟨c18, c⟩ := He.ba c
  obtain ⟨c19, c⟩ := He.ba c
  obtain ⟨c20, c⟩ := He.ba c
  obtain ⟨c21, c⟩ := He.ba c
  obtain ⟨c22, c23⟩ := He.ba c
  unfold fnE at e
  unfold fnB at c11
  cases q : K.lookup (He.ma K (He.ga K d.x) "__init__") with
  | none => rw [q] at e; cases e
  | some o =>
    rw [q] at e c11
    obtain ⟨oc, od, dt, osl⟩ := o
    cases dt with
    | func fd =>
      obtain ⟨n1, n2, n3, n4, n5, n6, n7, n8, n9, n10, n11, n12, n13, n14, n15⟩ := fd
      have e2 : (some (n1, n2, n3, n4, n5, n6, n7.map (·.1), n15) : FnE) = some ((("__init__" : Str), d.qual, d.params, FuncBody.stmts d.body, d.scope, mainGlobals, [("__class__" : Str)], builtinsNs) : Str × Str × Arguments × FuncBody × Scope × Addr × List Str × Addr) := e
      simp only [Option.some.injEq, Prod.mk.injEq] at e2
      obtain ⟨h1, h2, h3, h4, h5, h6, h7, h8⟩ := e2
      subst h1 h2 h3 h4 h5 h6 h8
      have c11' : (noneB n8 && (refB n13 && (codeIn K n13 d.qual && (cellB K (ccOf ⟨"__init__", d.qual, d.params, .stmts d.body, d.scope, mainGlobals, n7, n8, n9, n10, n11, n12, n13, n14, builtinsNs⟩) (He.ga K d.x) && fileB K (cdOf ⟨"__init__", d.qual, d.params, .stmts d.body, d.scope, mainGlobals, n7, n8, n9, n10, n11, n12, n13, n14, builtinsNs⟩) P.main.file)))) = true := c11
      obtain ⟨b1, c11'⟩ := He.ba c11'
      obtain ⟨b2, c11'⟩ := He.ba c11'
      obtain ⟨b3, c11'⟩ := He.ba c11'
      obtain ⟨b4, b5⟩ := He.ba c11'
      obtain ⟨cc, rfl⟩ : ∃ cc, n7 = [(("__class__" : Str), cc)] := by
        match n7, h7 with
        | [(a, b)], h7 =>
          simp only [List.map_cons, List.map_nil, List.cons.injEq, and_true] at h7
          exact ⟨b, by rw [h7]⟩
      obtain ⟨cda, rfl⟩ : ∃ c, n13 = .ref c := by
        cases n13 with
        | ref c => exact ⟨c, rfl⟩
        | _ => cases b2
      have b1' : n8 = .none := by
        cases n8 with
        | none => rfl
        | _ => cases b1
      subst b1'
      refine ⟨cc, cda, oc, od, osl, n9, n10, n11, n12, n14, ⟨clB_ok c2, oo_ok c3, fun f hf => oo_ok (List.all_eq_true.mp c4 f hf), oo_ok c5, of_decide_eq_true c6, oo_ok c7, bo_ok c8, bo_ok c9, oo_ok c10, cellB_ok b4, fileB_ok b5, by simpa using c12⟩, rfl, b3, oo_ok c19, oo_ok c1, c13, bo_ok c14, of_decide_eq_true c15, oo_ok c16, oo_ok c17, c18, oo_ok c20, oo_ok c21, bo_ok c22, bo_ok c23⟩
    | _ => cases e
theorem one_len {f : Str} {vs : List V} {us : List Value} (hl : vs.length = 1) (r : Vals vs us) (y : Str) : RelO (([f].zip vs).lookup y) (if y = f then some (us.getD 0 .none) else none) := by
  match vs, us, hl, r with
  | [v], _, _, .cons rv .nil =>
    by_cases h : y = f
    · rw [if_pos h, h]
      simp [List.lookup]
      exact rv
    · have z : (y == f) = false := by simpa using h
      rw [if_neg h]
      simp [List.lookup, z]
      trivial
theorem two_len {f g : Str} (fg : f ≠ g) {vs : List V} {us : List Value} (hl : vs.length = 2) (r : Vals vs us) (y : Str) : RelO (([f, g].zip vs).lookup y) (if y = g then some (us.getD 1 .none) else if y = f then some (us.getD 0 .none) else none) := by
  match vs, us, hl, r with
  | [v, u], _, _, .cons rv (.cons ru .nil) =>
    by_cases h : y = f
    · have hg : ¬ y = g := fun z => fg (h.symm.trans z)
      rw [if_neg hg, if_pos h, h]
      simp [List.lookup]
      exact rv
    · have z : (y == f) = false := by simpa using h
      by_cases h2 : y = g
      · rw [if_pos h2, h2]
        have z2 : (g == f) = false := by simpa using fun q => fg q.symm
        simp [List.lookup, z2]
        exact ru
      · have z2 : (y == g) = false := by simpa using h2
        rw [if_neg h2, if_neg h]
        simp [List.lookup, z, z2]
        trivial
theorem err1 {x qual : Str} {params : Arguments} {st0 st1 : Stmt} {scope : Scope} {msg f : Str} (X : K.In h) (G : h.Ns mainGlobals mg) (S : Sy qual params scope st0 msg [f]) (U : Pu qual params scope st1 f)
    (c : (DE.mk x qual params [st0, st1] scope [f]).ok P K = true) (e : fnE K x = (DE.mk x qual params [st0, st1] scope [f]).val) : Err P K mg x (He.ga K x) [f] := by
  obtain ⟨cc, cda, oc, od, osl, kd, doc, pm, an, ct, T, ho, hcd, hs, hx, h1, h2, h3, h4, h5, h6, h7, h8, h9, h10⟩ := facts (msg := msg) c e
  exact ⟨mg_of X G hx, ⟨_, _, Mkr.of1 T S U (mg_none_of X G hs) ho hcd, fun vs us hl r y => one_len hl r y⟩, h1, h2, h3, h4, h5, h6, T.noN, by show 1 ≤ 100; decide, h7, h8, h9, h10⟩
theorem err2 {x qual : Str} {params : Arguments} {st0 st1 st2 : Stmt} {scope : Scope} {msg f g : Str} (X : K.In h) (G : h.Ns mainGlobals mg) (S : Sy qual params scope st0 msg [f, g]) (U : Pu qual params scope st1 f) (U2 : Pu qual params scope st2 g)
    (c : (DE.mk x qual params [st0, st1, st2] scope [f, g]).ok P K = true) (e : fnE K x = (DE.mk x qual params [st0, st1, st2] scope [f, g]).val) : Err P K mg x (He.ga K x) [f, g] := by
  obtain ⟨cc, cda, oc, od, osl, kd, doc, pm, an, ct, T, ho, hcd, hs, hx, h1, h2, h3, h4, h5, h6, h7, h8, h9, h10⟩ := facts (msg := msg) c e
  have fg : f ≠ g := by simpa using S.nd
  exact ⟨mg_of X G hx, ⟨_, _, Mkr.of2 T S U U2 (mg_none_of X G hs) ho hcd, fun vs us hl r y => two_len fg hl r y⟩, h1, h2, h3, h4, h5, h6, T.noN, by show 2 ≤ 100; decide, h7, h8, h9, h10⟩
end
end Er

set_option maxHeartbeats 2000000
namespace Dec
open PySem PySem.W PySem.Calls PyProof.Rows Builtin
theorem ent (c : UInt8) (cs : List UInt8) (t t2 : Tok) : «bytes.decode» ⟨[.bytes (c :: cs).toArray t, .str "ascii" t2], []⟩ = (mkStr (PySem.Str.ofString "utf-8") >>= fun _ => mkStr (PySem.Str.ofString "ascii") >>= fun e => mkStr (PySem.Str.ofString "bytes.decode") >>= fun d =>
    call (.builtin "_codecs.decode.text") [.bytes (c :: cs).toArray t, e, .none, d] >>= fun v => ret v) := by kernel_rfl
theorem ent0 (t t2 : Tok) : «bytes.decode» ⟨[.bytes #[] t, .str "ascii" t2], []⟩ = (rule "bytes.decode.empty" >>= fun _ => mkStr PySem.Str.empty >>= fun v => ret v) := by kernel_rfl
theorem road (id : String) (b : Array UInt8) : _codecs.decodeRoad id b (PySem.Str.ofString "ascii") none [] = (_codecs.runDecoder id _codecs.asciiDecoder none true b 0 [] >>= fun r => mkStr ⟨r.1⟩) := by kernel_rfl
theorem got {b : Array UInt8} {p : Nat} (h : (b.getD p 0).toNat < 128) : _codecs.asciiDecoder.find true b p = .text [(b.getD p 0).toNat] (p + 1) := by
  show (if (b.getD p 0).toNat < 128 then _codecs.Found.char (b.getD p 0).toNat (p + 1) else _) = _
  rw [if_pos h]
  rfl
theorem runs {b : Array UInt8} (ha : ∀ p, p < b.size → (b.getD p 0).toNat < 128) (hz : b.size ≤ 16777216) (id : String) :
    _codecs.runDecoder id _codecs.asciiDecoder none true b 0 [] = pure ((b.toList.map UInt8.toNat).toArray, b.size) := by
  have big : ∀ p, ¬ ((KBdo.out b p).size > sizeLine) := fun p => by
    have h := KBdo.out_size b p
    rw [sizeLine_eq]
    omega
  unfold _codecs.runDecoder
  refine (KBdo.loop_bind (mk := fun q => ((q, KBdo.out b q, ({} : _codecs.Faults)) : Nat × Array Nat × _codecs.Faults)) (n := b.size) (fun x q hq => ?_)).trans ?_
  · simp only [if_neg (big q), if_neg (Nat.not_le.mpr hq), got (ha q hq), KBdo.out_next hq]
  · show pure (KBdo.out b b.size, b.size) = _
    rw [KBdo.out_whole]
def sg (b : Array UInt8) : PySem.Str := ⟨(b.toList.map UInt8.toNat).toArray⟩
theorem sg_len (b : Array UInt8) : (sg b).length = b.size := by
  show (b.toList.map UInt8.toNat).toArray.size = _
  rw [List.size_toArray, List.length_map, Array.length_toList]
theorem text_m {b : Array UInt8} (ha : ∀ p, p < b.size → (b.getD p 0).toNat < 128) (hz : b.size ≤ 16777216) {t t1 t2 : Tok} {d : PySem.Str} :
    Meets («_codecs.decode.text» ⟨[.bytes b t, .str (PySem.Str.ofString "ascii") t1, .none, .str d t2], []⟩) (fun _ R s => R (.ok (.ret (.str (sg b) s.toks))) { s with toks := s.toks + 1 }) := by
  refine .of_wp fun prog w A R s h => ?_
  show wpAny _ _ (Bytes.bytesLike _ (.bytes b t) >>= fun r => _) _ _ s
  refine wpAny_bind (wpAny_of_eq KBd.like_eq ?_)
  refine wpAny_bind (wpAny_of_eq KBd.held_eq ?_)
  show wpAny _ _ (_codecs.decodeRoad _ b (PySem.Str.ofString "ascii") none [] >>= fun v => _) _ _ s
  rw [road, runs ha hz]
  refine wpAny_bind (wpAny_bind (wpAny_pure ?_))
  exact wpAny_mkStr (wpAny_pure ⟨_, rfl, h⟩) (by
    have q := sg_len b
    rw [sizeLine_eq]
    show (sg b).length ≤ _
    omega)
theorem dec_m {b : Array UInt8} (ha : ∀ p, p < b.size → (b.getD p 0).toNat < 128) (hz : b.size ≤ 16777216) {t t2 : Tok} :
    Meets («bytes.decode» ⟨[.bytes b t, .str "ascii" t2], []⟩) (fun _ R s => ∀ t' k, R (.ok (.ret (.str (sg b) t'))) { s with toks := k }) := by
  refine .of_wp fun prog w A R s h => ?_
  obtain ⟨l⟩ := b
  cases l with
  | nil =>
    rw [ent0]
    exact wpAny_bind (wpAny_rule (wpAny_bind (wpAny_mkStr (wpAny_pure ⟨_, rfl, h _ _⟩) (by decide))))
  | cons c cs =>
    rw [ent]
    refine wpAny_bind (wpAny_mkStr ?_ (by decide))
    refine wpAny_bind (wpAny_mkStr ?_ (by decide))
    refine wpAny_bind (wpAny_mkStr ?_ (by decide))
    exact wpAny_bind (call_function_meets KBd.kind_text KBd.plain_text KBd.entry_text (KBd.args_text _ _ _ _) (text_m ha hz) (wpAny_pure ⟨_, rfl, h _ _⟩))
end Dec
namespace L2
open PySem PySem.Spec PyProof.Rows PySem.W
variable {X : Cx}
theorem args_dec (a b : Value) : argsOk "bytes.decode" ⟨[a, b], []⟩ := by
  unfold argsOk; rw [signature?_of (id := "bytes.decode") (n := ['e', 'd', 'o', 'c', 'e', 'd']) (o := ['s', 'e', 't', 'y', 'b']) (by kernel_rfl) FB.owner_bytes]; kernel_rfl
/-- data.decode("ascii") -/
def rDec : V → List V → Hp → VK → Prop := fun x xs H Q => ∃ b : Array UInt8, x = .byt b ∧ xs = [.str "ascii"] ∧ (∀ p, p < b.size → (b.getD p 0).toNat < 128) ∧ b.size ≤ 16777216 ∧ Q (.str (Dec.sg b)) H
theorem mt_decA : MtR X "bytes.decode" rDec := by
  intro pins s σ H x xs v us Q I rx rs h
  obtain ⟨b, rfl, rfl, ha, hz, q⟩ := h
  obtain ⟨t, rfl⟩ := rx
  obtain ⟨u, rfl, t2, rfl⟩ := vals1 rs
  exact call_meets FB.slot_bytes_decode (typeIs_bytes _ _ _) FB.entry_bytes_decode (args_dec _ _) (Dec.dec_m ha hz) (fun t' k => ⟨.str (Dec.sg b), H, I.tok _, ⟨_, rfl⟩, q⟩)
def tDecM (to : TE) (t : TA) : TE := fun σ H Q => to σ H fun x H1 => t σ H1 fun xs H2 => rDec x xs H2 Q ∧ ∃ b, x = .byt b
theorem pe_decA {o e : Expr} {to : TE} {t : TA} {apos cpos : Pos} (ho : PE X o to) (ha : PA X [e] t)
    (hbase : attributeBase o "decode" X.env (eval o X.env) = eval o X.env := by rfl)
    (hfew : ((backTo cpos (starEach [e] X.env)).all (fun x => !x.1) && (backToKw cpos (keywordEach [] X.env)).all (fun x => x.1.isSome)
      && decide ([e].length + ([] : List Keyword).length + (if ([] : List Keyword).isEmpty then 0 else 1) < 30)) = true := by rfl)
    (hline : (apos.endLine == cpos.line) = true := by rfl) (hs : starEach [e] X.env = (false, eval e X.env) :: starEach [] X.env := by rfl) :
    PE X (.Call (.Attribute o "decode" apos) [e] [] cpos) (fun σ H Q => to σ H fun x H1 => (∃ b, x = .byt b) ∧ t σ H1 fun xs H2 => rDec x xs H2 Q) := by
  refine ⟨fun pins s σ H Q I h => ?_⟩
  refine wpAny_Call_method_late hbase hfew hline rfl (thn (ho.run pins s σ H _ I h) fun v s1 ⟨x, H1, I1, r1, ⟨b, hb⟩, q1⟩ => ?_)
  subst hb
  obtain ⟨tk, rfl⟩ := r1
  refine ⟨"bytes", "bytes.decode", FB.plainAttrs_bytes, FB.slot_bytes_decode, FB.type_bytes_decode, typeIs_bytes _ _ _, (fun _ e => nomatch e), ?_⟩
  have hA := ha.run cpos pins s1 σ H1 _ I1 q1
  rw [hs] at hA ⊢
  refine Calls.callWith_builtin rfl (Calls.evalArgs_plain ?_)
  exact thn hA fun us s2 ⟨vs, H2, I2, r2, q2⟩ => mt_decA pins s2 σ H2 (.byt b) vs _ us Q I2 ⟨tk, rfl⟩ r2 q2
/-- text.encode() of an ascii text -/
def rEnc : V → List V → Hp → VK → Prop := fun x xs H Q => ∃ y : Str, x = .str y ∧ xs = [] ∧ PySem.W.KSb.Asc y ∧ y.length ≤ 16777216 ∧ ∀ c, PySem.W.KBw.bInts c = PySem.W.KSb.codes y → Q (.byt c) H
theorem mt_encA : MtR X "str.encode" rEnc := by
  intro pins s σ H x xs v us Q I rx rs h
  obtain ⟨y, rfl, rfl, ha, hz, q⟩ := h
  obtain ⟨t, rfl⟩ := rx
  cases rs
  exact PySem.W.KSb.encode_K ha hz (fun c t' k e _ _ => ⟨.byt c, H, I.tok _, ⟨_, rfl⟩, q c e⟩)
theorem pe_encA {o : Expr} {to : TE} {apos cpos : Pos} (ho : PE X o to)
    (hbase : attributeBase o "encode" X.env (eval o X.env) = eval o X.env := by rfl) (hline : (apos.endLine == cpos.line) = true := by rfl) : PE X (.Call (.Attribute o "encode" apos) [] [] cpos) (tBM0 X.K "str" rEnc to) :=
  pe_bm0 F.plainAttrs_str F.slot_str_encode F.type_str_encode mt_encA ho hbase hline
/-- C.m(..), C a class, m a plain def in it: not bound -/
theorem pe_clsM {CX : CXT} {k : Nat} {C f : Addr} {mc : Value} {fd : FuncData} {ps : List Str} {sp : Sp} {dvs : List V} {ds : List Value} {E : XK} {o e : Expr} {es : List Expr} {m : Str} {pos apos : Pos} {ta : TE} {t : TA} {pl : Sem Bool}
    (he : PE X o ta) (r : ClX.CRead X.K C mc) (c : ClX.CVal X.K C mc m (.ref f) (.ref f)) (F : FnOk X.prog X.w X.K X.mg X.base CX k f fd ps sp) (hr : Room k X.A) (hk : PySem.W.keepIn X.K (.ref f) = true) (hb : Binds X.K fd ps ds) (hd : Vals dvs ds) (hx : Passes CX X E) (ha : PA X (e :: es) t)
    (hst : starEach (e :: es) X.env = (false, eval e X.env) :: starEach es X.env := by rfl) (hpl : (backTo pos (starEach es X.env)).any (·.1) = false := by rfl)
    (ht : eval (.Call (.Attribute o m apos) (e :: es) [] pos) X.env = (do
      let ov ← eval o X.env
      standAt apos.atName
      let (f, first) ← holding [ov] (getMethod ov m pl)
      callWith pos f first (backTo pos (starEach (e :: es) X.env)) (backToKw pos (keywordEach [] X.env))) := by rfl) :
    PE X (.Call (.Attribute o m apos) (e :: es) [] pos) (fun σ H Q => ta σ H fun x H1 => x = .ref C ∧ tCall sp dvs E t σ H1 Q) := by
  refine ⟨fun pins s σ H Q I h => ?_⟩
  refine PySem.W.methodCall_KW (pl := pl) (thn (he.run pins s σ H _ I h) fun u s1 ⟨x, H1, I1, rx, ex, q⟩ => ?_) ht
  subst ex
  obtain rfl : u = Value.ref C := rx
  refine PySem.W.method_cls I1.kIn r.ga (ClX.getcval_ok I1 r c fun s2 I2 => ?_)
  refine PySem.W.callWith_K (h₀ := X.base) (first := []) I.ok.mod.kin hk (thn (ha.run pos pins s2 σ H1 _ I2 q) fun us s3 ⟨vs, H2, I3, rv, q2⟩ => ⟨I3.kIn, ?_⟩) hst hpl
  exact run_fn F hr hb hd hx I3 rv q2
end L2

set_option maxHeartbeats 4000000
namespace L2
open PySem PySem.Spec PyProof.Rows
/-- an own class of which isinstance is asked -/
structure OwnT (K : PySem.W.Frag) (C : Addr) : Prop where
  ha : PySem.W.findIn K (.ref C) "__class__" = some (some (.builtin "object.__class__"))
  hn : PySem.W.specialIn K (.builtin "object.__class__") "__get__" = some (some (.builtin "getset_descriptor.__get__"))
  htk : PySem.W.takesIn K (.builtin "object.__class__") = some true
  hm : PySem.W.mroIn K C (.type "object") = some true
  me : PySem.W.kitOne K (.ref C) (.ref C) = some true
def ownB (K : PySem.W.Frag) (C : Addr) : Bool := He.eqO (PySem.W.findIn K (.ref C) "__class__") (some (some (.builtin "object.__class__"))) && (He.eqO (PySem.W.specialIn K (.builtin "object.__class__") "__get__") (some (some (.builtin "getset_descriptor.__get__"))) && (decide (PySem.W.takesIn K (.builtin "object.__class__") = some true) && (decide (PySem.W.mroIn K C (.type "object") = some true) && decide (PySem.W.kitOne K (.ref C) (.ref C) = some true))))
theorem own_ok {K : PySem.W.Frag} {C : Addr} (h : ownB K C = true) : OwnT K C := by
  simp only [ownB, Bool.and_eq_true] at h
  obtain ⟨a, b, c, d, e⟩ := h
  exact ⟨He.eqO_ok a, He.eqO_ok b, of_decide_eq_true c, of_decide_eq_true d, of_decide_eq_true e⟩
/-- attributes of an own class C, read as type reads them; its plain def m at f -/
def creadB (K : PySem.W.Frag) (C : Addr) : Bool := PySem.W.readsIn K C (.type "type") && He.eqO (PySem.W.specialIn K (.ref C) "__getattribute__") (some (some (.builtin "type.__getattribute__")))
theorem cread_ok {K : PySem.W.Frag} {C : Addr} (h : creadB K C = true) : ClX.CRead K C (.type "type") := by
  simp only [creadB, Bool.and_eq_true] at h
  exact ⟨h.1, He.eqO_ok h.2⟩
def cvalB (K : PySem.W.Frag) (C : Addr) (m : Str) (f : Addr) : Bool := match PySem.W.findCls K (.ref C) (.type "type") m with
  | some (.val (.ref p)) => decide (p = f)
  | _ => false
theorem cval_ok {K : PySem.W.Frag} {C : Addr} {m : Str} {f : Addr} (h : cvalB K C m f = true) : ClX.CVal K C (.type "type") m (.ref f) (.ref f) := by
  refine ⟨?_, rfl⟩
  unfold cvalB at h
  split at h
  · rename_i p e
    rw [e, of_decide_eq_true h]
  · cases h
end L2
namespace Toy
open PySem PySem.Spec PyProof.Rows L2
def top (i : Nat) : Stmt := PySem.Challenge.pw_lanesdealt_k54_any_signs_of_a_mark.main.body.getD i (.Pass ⟨0, 0, 0, 0⟩)
abbrev s_Numbered___init__ : Stmt := inClass (top 9) 0
abbrev s_Named___init__ : Stmt := inClass (top 10) 0
abbrev s_Mark___init__ : Stmt := inClass (top 11) 0
abbrev s_is_name : Stmt := top 12
abbrev s_is_number : Stmt := top 13
abbrev s_as_bytes : Stmt := top 14
abbrev s_written : Stmt := top 15
abbrev s_read_mark : Stmt := top 16
abbrev s__law_cell : Stmt := top 18
abbrev s__law_mixed : Stmt := top 19
abbrev s__law_row : Stmt := top 20
abbrev s__law_names : Stmt := top 21
abbrev s__law_sign : Stmt := top 22
abbrev s__law_spoilt : Stmt := top 23
abbrev s__law_is_name : Stmt := top 24
abbrev s__law_is_number : Stmt := top 25
abbrev s__law_text : Stmt := top 26
abbrev s_law : Stmt := top 27
abbrev s_BadText___init__ : Stmt := inClass (top 3) 0
/-- what stands behind the top -/
structure Tx (P : Program) (K : PySem.W.Frag) (mg : Str → Option Value) where
  fd_Numbered___init__ : FuncData
  f_Numbered___init__ : FunD K "__init__" "Numbered.__init__" (defArgs s_Numbered___init__) (defBody s_Numbered___init__) (defScope s_Numbered___init__) [] [] (He.fAd K ("Numbered", some "__init__")) fd_Numbered___init__
  b_Numbered___init__ : Binds K fd_Numbered___init__ ["self", "giving"] []
  fd_Named___init__ : FuncData
  f_Named___init__ : FunD K "__init__" "Named.__init__" (defArgs s_Named___init__) (defBody s_Named___init__) (defScope s_Named___init__) [] [] (He.fAd K ("Named", some "__init__")) fd_Named___init__
  b_Named___init__ : Binds K fd_Named___init__ ["self", "name"] []
  fd_Mark___init__ : FuncData
  f_Mark___init__ : FunD K "__init__" "Mark.__init__" (defArgs s_Mark___init__) (defBody s_Mark___init__) (defScope s_Mark___init__) [] [] (He.fAd K ("Mark", some "__init__")) fd_Mark___init__
  b_Mark___init__ : Binds K fd_Mark___init__ ["self", "lane", "row", "giving", "name"] []
  fd_is_name : FuncData
  f_is_name : FunD K "is_name" "is_name" (defArgs s_is_name) (defBody s_is_name) (defScope s_is_name) [] [] (He.fAd K ("is_name", none)) fd_is_name
  b_is_name : Binds K fd_is_name ["word"] []
  g_is_name : mg "is_name" = some (.ref (He.fAd K ("is_name", none)))
  fd_is_number : FuncData
  f_is_number : FunD K "is_number" "is_number" (defArgs s_is_number) (defBody s_is_number) (defScope s_is_number) [] [] (He.fAd K ("is_number", none)) fd_is_number
  b_is_number : Binds K fd_is_number ["word"] []
  g_is_number : mg "is_number" = some (.ref (He.fAd K ("is_number", none)))
  fd_as_bytes : FuncData
  f_as_bytes : FunD K "as_bytes" "as_bytes" (defArgs s_as_bytes) (defBody s_as_bytes) (defScope s_as_bytes) [] [] (He.fAd K ("as_bytes", none)) fd_as_bytes
  b_as_bytes : Binds K fd_as_bytes ["text"] []
  g_as_bytes : mg "as_bytes" = some (.ref (He.fAd K ("as_bytes", none)))
  fd_written : FuncData
  f_written : FunD K "written" "written" (defArgs s_written) (defBody s_written) (defScope s_written) [] [] (He.fAd K ("written", none)) fd_written
  b_written : Binds K fd_written ["mark"] []
  g_written : mg "written" = some (.ref (He.fAd K ("written", none)))
  fd_read_mark : FuncData
  f_read_mark : FunD K "read_mark" "read_mark" (defArgs s_read_mark) (defBody s_read_mark) (defScope s_read_mark) [] [] (He.fAd K ("read_mark", none)) fd_read_mark
  b_read_mark : Binds K fd_read_mark ["data"] []
  g_read_mark : mg "read_mark" = some (.ref (He.fAd K ("read_mark", none)))
  fd__law_cell : FuncData
  f__law_cell : FunD K "_law_cell" "_law_cell" (defArgs s__law_cell) (defBody s__law_cell) (defScope s__law_cell) [] [] (He.fAd K ("_law_cell", none)) fd__law_cell
  b__law_cell : Binds K fd__law_cell ["script", "k"] []
  g__law_cell : mg "_law_cell" = some (.ref (He.fAd K ("_law_cell", none)))
  fd__law_mixed : FuncData
  f__law_mixed : FunD K "_law_mixed" "_law_mixed" (defArgs s__law_mixed) (defBody s__law_mixed) (defScope s__law_mixed) [] [] (He.fAd K ("_law_mixed", none)) fd__law_mixed
  b__law_mixed : Binds K fd__law_mixed ["number", "k"] []
  g__law_mixed : mg "_law_mixed" = some (.ref (He.fAd K ("_law_mixed", none)))
  fd__law_row : FuncData
  f__law_row : FunD K "_law_row" "_law_row" (defArgs s__law_row) (defBody s__law_row) (defScope s__law_row) [] [] (He.fAd K ("_law_row", none)) fd__law_row
  b__law_row : Binds K fd__law_row ["cell", "count", "base"] []
  g__law_row : mg "_law_row" = some (.ref (He.fAd K ("_law_row", none)))
  fd__law_names : FuncData
  f__law_names : FunD K "_law_names" "_law_names" (defArgs s__law_names) (defBody s__law_names) (defScope s__law_names) [] [] (He.fAd K ("_law_names", none)) fd__law_names
  b__law_names : Binds K fd__law_names ["cell", "count"] []
  g__law_names : mg "_law_names" = some (.ref (He.fAd K ("_law_names", none)))
  fd__law_sign : FuncData
  f__law_sign : FunD K "_law_sign" "_law_sign" (defArgs s__law_sign) (defBody s__law_sign) (defScope s__law_sign) [] [] (He.fAd K ("_law_sign", none)) fd__law_sign
  b__law_sign : Binds K fd__law_sign ["number"] []
  g__law_sign : mg "_law_sign" = some (.ref (He.fAd K ("_law_sign", none)))
  fd__law_spoilt : FuncData
  f__law_spoilt : FunD K "_law_spoilt" "_law_spoilt" (defArgs s__law_spoilt) (defBody s__law_spoilt) (defScope s__law_spoilt) [] [] (He.fAd K ("_law_spoilt", none)) fd__law_spoilt
  b__law_spoilt : Binds K fd__law_spoilt ["text", "number"] []
  g__law_spoilt : mg "_law_spoilt" = some (.ref (He.fAd K ("_law_spoilt", none)))
  fd__law_is_name : FuncData
  f__law_is_name : FunD K "_law_is_name" "_law_is_name" (defArgs s__law_is_name) (defBody s__law_is_name) (defScope s__law_is_name) [] [] (He.fAd K ("_law_is_name", none)) fd__law_is_name
  b__law_is_name : Binds K fd__law_is_name ["word"] []
  g__law_is_name : mg "_law_is_name" = some (.ref (He.fAd K ("_law_is_name", none)))
  fd__law_is_number : FuncData
  f__law_is_number : FunD K "_law_is_number" "_law_is_number" (defArgs s__law_is_number) (defBody s__law_is_number) (defScope s__law_is_number) [] [] (He.fAd K ("_law_is_number", none)) fd__law_is_number
  b__law_is_number : Binds K fd__law_is_number ["word"] []
  g__law_is_number : mg "_law_is_number" = some (.ref (He.fAd K ("_law_is_number", none)))
  fd__law_text : FuncData
  f__law_text : FunD K "_law_text" "_law_text" (defArgs s__law_text) (defBody s__law_text) (defScope s__law_text) [] [] (He.fAd K ("_law_text", none)) fd__law_text
  b__law_text : Binds K fd__law_text ["script"] []
  g__law_text : mg "_law_text" = some (.ref (He.fAd K ("_law_text", none)))
  fd_law : FuncData
  f_law : FunD K "law" "law" (defArgs s_law) (defBody s_law) (defScope s_law) [] [] (He.fAd K ("law", none)) fd_law
  b_law : Binds K fd_law ["script"] []
  g_law : mg "law" = some (.ref (He.fAd K ("law", none)))
  z_len : mg "len" = none
  z_int : mg "int" = none
  z_abs : mg "abs" = none
  z_range : mg "range" = none
  z_isinstance : mg "isinstance" = none
  z_list : mg "list" = none
  z_ord : mg "ord" = none
  z_str : mg "str" = none
  z_tuple : mg "tuple" = none
  z_ValueError : mg "ValueError" = none
  g_Mark : mg "Mark" = some (.ref (He.ga K "Mark"))
  c_Mark : Cls K (He.ga K "Mark")
  n_Mark_lane : NoAttr K (He.ga K "Mark") "lane"
  n_Mark_row : NoAttr K (He.ga K "Mark") "row"
  n_Mark_giving : NoAttr K (He.ga K "Mark") "giving"
  n_Mark_name : NoAttr K (He.ga K "Mark") "name"
  k_Mark : Mk K (He.ga K "Mark") (He.fAd K ("Mark", some "__init__"))
  g_Numbered : mg "Numbered" = some (.ref (He.ga K "Numbered"))
  c_Numbered : Cls K (He.ga K "Numbered")
  g_Named : mg "Named" = some (.ref (He.ga K "Named"))
  c_Named : Cls K (He.ga K "Named")
  e_BadText : Err P K mg "BadText" (He.ga K "BadText") ["text"]
  g_SMALL : ∃ t, mg "SMALL" = some (.str "abcdefghijklmnopqrstuvwxyz" t)
  g_DIGITS : ∃ t, mg "DIGITS" = some (.str "0123456789" t)
  g_LONGEST_NAME : ∃ t, mg "LONGEST_NAME" = some (.int 8 t)
  g_MOST_DIGITS : ∃ t, mg "MOST_DIGITS" = some (.int 9 t)
  g_LaneError : mg "LaneError" = some (.ref (He.ga K "LaneError"))
  g_UnknownName : mg "UnknownName" = some (.ref (He.ga K "UnknownName"))
  i_LaneError : PySem.W.kitOne K (.ref (He.ga K "BadText")) (.ref (He.ga K "LaneError")) = some true
  i_ValueError : PySem.W.kitOne K (.ref (He.ga K "BadText")) (.type "ValueError") = some true
  i_UnknownName : PySem.W.kitOne K (.ref (He.ga K "BadText")) (.ref (He.ga K "UnknownName")) = some false
  x_BadText : PySem.W.exmOne K (.ref (He.ga K "BadText")) (.ref (He.ga K "BadText")) = some true
  r_Numbered : ClX.CRead K (He.ga K "Numbered") (.type "type")
  v_Numbered : ClX.CVal K (He.ga K "Numbered") (.type "type") "__init__" (.ref (He.fAd K ("Numbered", some "__init__"))) (.ref (He.fAd K ("Numbered", some "__init__")))
  r_Named : ClX.CRead K (He.ga K "Named") (.type "type")
  v_Named : ClX.CVal K (He.ga K "Named") (.type "type") "__init__" (.ref (He.fAd K ("Named", some "__init__"))) (.ref (He.fAd K ("Named", some "__init__")))
  w_Mark : L2.OwnT K (He.ga K "Mark")
theorem sc_Numbered___init__ : FnScope ["self", "giving"] ["self", "giving"] (defScope s_Numbered___init__) := ⟨rfl, rfl, rfl, by decide +kernel, rfl, by decide +kernel, by decide +kernel⟩
theorem sc_Named___init__ : FnScope ["self", "name"] ["self", "name"] (defScope s_Named___init__) := ⟨rfl, rfl, rfl, by decide +kernel, rfl, by decide +kernel, by decide +kernel⟩
theorem sc_Mark___init__ : FnScope ["self", "lane", "row", "giving", "name"] ["self", "lane", "row", "giving", "name"] (defScope s_Mark___init__) := ⟨rfl, rfl, rfl, by decide +kernel, rfl, by decide +kernel, by decide +kernel⟩
theorem sc_is_name : FnScope ["word", "sign"] ["word"] (defScope s_is_name) := ⟨rfl, rfl, rfl, by decide +kernel, rfl, by decide +kernel, by decide +kernel⟩
theorem sc_is_number : FnScope ["word", "sign"] ["word"] (defScope s_is_number) := ⟨rfl, rfl, rfl, by decide +kernel, rfl, by decide +kernel, by decide +kernel⟩
theorem sc_as_bytes : FnScope ["text"] ["text"] (defScope s_as_bytes) := ⟨rfl, rfl, rfl, by decide +kernel, rfl, by decide +kernel, by decide +kernel⟩
theorem sc_written : FnScope ["mark"] ["mark"] (defScope s_written) := ⟨rfl, rfl, rfl, by decide +kernel, rfl, by decide +kernel, by decide +kernel⟩
theorem sc_read_mark : FnScope ["data", "text", "words", "lane", "row", "giving", "name"] ["data"] (defScope s_read_mark) := ⟨rfl, rfl, rfl, by decide +kernel, rfl, by decide +kernel, by decide +kernel⟩
theorem sc__law_cell : FnScope ["script", "k"] ["script", "k"] (defScope s__law_cell) := ⟨rfl, rfl, rfl, by decide +kernel, rfl, by decide +kernel, by decide +kernel⟩
theorem sc__law_mixed : FnScope ["number", "k", "early"] ["number", "k"] (defScope s__law_mixed) := ⟨rfl, rfl, rfl, by decide +kernel, rfl, by decide +kernel, by decide +kernel⟩
theorem sc__law_row : FnScope ["cell", "count", "base", "found", "rest", "k"] ["cell", "count", "base"] (defScope s__law_row) := ⟨rfl, rfl, rfl, by decide +kernel, rfl, by decide +kernel, by decide +kernel⟩
theorem sc__law_names : FnScope ["cell", "count", "letters", "draws", "body", "draw", "found", "k", "size", "at", "told"] ["cell", "count"] (defScope s__law_names) := ⟨rfl, rfl, rfl, by decide +kernel, rfl, by decide +kernel, by decide +kernel⟩
theorem sc__law_sign : FnScope ["number", "signs"] ["number"] (defScope s__law_sign) := ⟨rfl, rfl, rfl, by decide +kernel, rfl, by decide +kernel, by decide +kernel⟩
theorem sc__law_spoilt : FnScope ["text", "number", "way", "at", "sign"] ["text", "number"] (defScope s__law_spoilt) := ⟨rfl, rfl, rfl, by decide +kernel, rfl, by decide +kernel, by decide +kernel⟩
theorem sc__law_is_name : FnScope ["word", "letters", "sign"] ["word"] (defScope s__law_is_name) := ⟨rfl, rfl, rfl, by decide +kernel, rfl, by decide +kernel, by decide +kernel⟩
theorem sc__law_is_number : FnScope ["word", "sign"] ["word"] (defScope s__law_is_number) := ⟨rfl, rfl, rfl, by decide +kernel, rfl, by decide +kernel, by decide +kernel⟩
theorem sc__law_text : FnScope ["script", "names", "numbers", "text", "number", "way", "at"] ["script"] (defScope s__law_text) := ⟨rfl, rfl, rfl, by decide +kernel, rfl, by decide +kernel, by decide +kernel⟩
theorem sc_law : FnScope ["script", "text", "data", "sign", "words", "good", "told", "mark", "e"] ["script"] (defScope s_law) := ⟨rfl, rfl, rfl, by decide +kernel, rfl, by decide +kernel, by decide +kernel⟩
end Toy

set_option maxHeartbeats 4000000
namespace Toy
open PySem PySem.Spec PyProof.Rows L2
/-! ### int(n) -/
theorem call_intI {X : Cx} : CallR X (.type "int") (fun xs H Q => ∃ i, xs = [.int i] ∧ Q (.int i) H) := fun pins s σ H xs us Q I r ⟨i, e, q⟩ => call_int1 pins s σ H xs us Q I r (.inl ⟨i, e, q⟩)
theorem atI_int {α : Type} {xs : List α} {k : Int} {v : α} (h0 : 0 ≤ k) (h : xs[k.toNat]? = some v) : atI xs k = some v := by
  have e : k = ((k.toNat : Nat) : Int) := by omega
  rw [e]
  exact atI_nat h
theorem Same.new {H : Hp} {p : Addr} {o : HO} (h : H p = none) : Same H (upd H p o) := fun a u e => by
  rw [upd_ne (ne_of_none e h)]
  exact e
theorem Same.mut {H H' : Hp} {p : Addr} {o : HO} (e : Same H H') (h : H p = none) : Same H (upd H' p o) := fun a u ha => by
  rw [upd_ne (ne_of_none ha h)]
  exact e a u ha
theorem Same.tr {H H1 H2 : Hp} (a : Same H H1) (b : Same H1 H2) : Same H H2 := fun x o h => b x o (a x o h)
theorem getD_map {α β : Type} (f : α → β) (xs : List α) (i : Nat) (d : α) (h : i < xs.length) : (xs.map f)[i]? = some (f (xs.getD i d)) := by
  rw [List.getElem?_map, List.getD_eq_getElem?_getD, List.getElem?_eq_getElem h]
  rfl
/-- a statement whose ways meet again -/
def tMeet (t u : TS) : TS := fun D σ H => ∃ M : L2.St → Hp → Prop, t { D with nx := M } σ H ∧ ∀ σ' H', M σ' H' → u D σ' H'
theorem pss_meet {X : Cx} {st : Stmt} {rest : List Stmt} {t u : TS} (a : PS X st t) (b : PSs X rest u) : PSs X (st :: rest) (tMeet t u) := by
  refine ⟨fun pins s σ H D I h => ?_⟩
  obtain ⟨M, h1, h2⟩ := h
  refine wpAny_execs_cons (thn (a.run pins s σ H { D with nx := M } I h1) fun f s' q => ?_)
  cases f with
  | next =>
    obtain ⟨σ', H', I', m⟩ := q
    exact b.run pins s' σ' H' D I' (h2 σ' H' m)
  | brk => exact q
  | cont => exact q
  | ret u => exact q
theorem ok0 {P : Program} {w : World} {K : PySem.W.Frag} {mg : Str → Option Value} {base : Heap} {x qual : Str} {params : Arguments} {body : List Stmt} {scope : Scope} {dvs : List V} {kws : List (Str × V)} {f : Addr} {fd : FuncData} {N ps : List Str} {k : Nat} {sp : Sp}
    (F : FunD K x qual params body scope dvs kws f fd) (S : FnScope N ps scope) (len : ∀ vs H Q E, sp vs H Q E → vs.length = ps.length)
    (hb : ∀ (cdv : Value) (A : Around) (outer : List Env) (s : Shared) (H : Hp) (vs : List V) (Q : VK) (E : XK), Room k (A.deeper (envOfC qual scope s.heap.objs.size f cdv)) → sp vs H Q E →
      ∃ t, PSs (cxOf CX0 P w K mg base N qual scope f cdv A outer s H E).nox body t ∧ t { nx := fun _ H' => Q .non H', rt := Q } (start N vs) H) : FnOk P w K mg base CX0 (k + 1) f fd ps sp :=
  F.ok S len fun cdv A outer s H vs Q E hr h => by
    obtain ⟨t, a, b⟩ := hb cdv A outer s H vs Q E hr h
    exact ⟨t, a.nox, b⟩

/-- a name of the module: an object, a text, a number -/
theorem pe_gref {X : Cx} {x : Str} {a : Addr} {pos : Pos} (hm : X.mg x = some (.ref a)) (hg : Gl X x := by rfl) (hd : (x == ("__debug__" : Str)) = false := by decide) : PE X (.Name x pos) (tC (.ref a)) := pe_glob hg hm rfl hd
theorem pe_gstr {X : Cx} {x z : Str} {pos : Pos} (hm : ∃ t, X.mg x = some (.str z t)) (hg : Gl X x := by rfl) (hd : (x == ("__debug__" : Str)) = false := by decide) : PE X (.Name x pos) (tC (.str z)) := by
  obtain ⟨t, e⟩ := hm
  exact pe_glob hg e ⟨t, rfl⟩ hd
theorem pe_gint {X : Cx} {x : Str} {i : Int} {pos : Pos} (hm : ∃ t, X.mg x = some (.int i t)) (hg : Gl X x := by rfl) (hd : (x == ("__debug__" : Str)) = false := by decide) : PE X (.Name x pos) (tC (.int i)) := by
  obtain ⟨t, e⟩ := hm
  exact pe_glob hg e ⟨t, rfl⟩ hd
theorem okX {P : Program} {w : World} {K : PySem.W.Frag} {mg : Str → Option Value} {base : Heap} {x qual : Str} {params : Arguments} {body : List Stmt} {scope : Scope} {dvs : List V} {kws : List (Str × V)} {f : Addr} {fd : FuncData} {N ps : List Str} {k : Nat} {sp : Sp}
    (F : FunD K x qual params body scope dvs kws f fd) (S : FnScope N ps scope) (len : ∀ vs H Q E, sp vs H Q E → vs.length = ps.length)
    (hb : ∀ (cdv : Value) (A : Around) (outer : List Env) (s : Shared) (H : Hp) (vs : List V) (Q : VK) (E : XK), Room k (A.deeper (envOfC qual scope s.heap.objs.size f cdv)) → sp vs H Q E →
      ∃ t, PSs (cxOf (L2.CX P w) P w K mg base N qual scope f cdv A outer s H E) body t ∧ t { nx := fun _ H' => Q .non H', rt := Q } (start N vs) H) : FnOk P w K mg base (L2.CX P w) (k + 1) f fd ps sp :=
  F.ok S len hb
theorem putF_nil (f : Str) (v : V) : putF f v [] = [(f, v)] := rfl
theorem putF_ne {f g : Str} {v x : V} {r : List (Str × V)} (h : ¬ g = f) : putF f v ((g, x) :: r) = (g, x) :: putF f v r := if_neg h
theorem putF_eq {f : Str} {v x : V} {r : List (Str × V)} : putF f v ((f, x) :: r) = (f, v) :: r := if_pos rfl
theorem inV_map (z : Str) : ∀ l : List Str, inV (.str z) (l.map V.str) = decide (z ∈ l)
  | [] => by simp [inV]
  | y :: r => by
    have ih := inV_map z r
    unfold inV at ih ⊢
    rw [List.map_cons, List.any_cons, ih]
    show ((y == z) || decide (z ∈ r)) = decide (z ∈ y :: r)
    by_cases h : y = z
    · subst h; simp
    · have h1 : (y == z) = false := by simpa using h
      have h2 : ¬ z = y := fun q => h q.symm
      rw [h1]
      simp [List.mem_cons, h2]
theorem putF_le {f : Str} {v : V} {fs : List (Str × V)} {n : Nat} (h : fs.length ≤ n) : (putF f v fs).length ≤ n + 1 := Nat.le_trans (length_putF f v fs) (Nat.succ_le_succ h)
theorem But.trans {x : Addr} {H H1 H2 : Hp} (a : ∀ p o, p ≠ x → H p = some o → H1 p = some o) (b : ∀ p o, p ≠ x → H1 p = some o → H2 p = some o) : ∀ p o, p ≠ x → H p = some o → H2 p = some o := fun p o n e => b p o n (a p o n e)
theorem But.upd {x : Addr} {H : Hp} {u : HO} : ∀ p o, p ≠ x → H p = some o → upd H x u p = some o := fun p o n e => (upd_ne n).trans e
/-! ### rules whose reading names K by itself (for the blocks of comprehensions) -/
section
variable {X : Cx} {K : PySem.W.Frag}
theorem ix_lK (h : X.K = K := by rfl) : IxR X (rIxL K) := by subst h; exact ix_list
theorem ix_tK (h : X.K = K := by rfl) : IxR X (rIxT K) := by subst h; exact ix_tup
theorem in_sK (h : X.K = K := by rfl) : OpR X (compareOp .In) (rIn K false) := by subst h; exact op_in_seq
theorem notIn_sK (h : X.K = K := by rfl) : OpR X (compareOp .NotIn) (rIn K true) := by subst h; exact op_notIn_seq
end

/-! ### texts of ASCII signs -/
def Asc (x : Str) : Prop := ∀ c ∈ x.cps.toList, c < 128
theorem asc_cut {z : Str} (h : Asc z) (lo hi : Option Int) : Asc (cutS z lo hi) := fun c hc => by
  unfold cutS at hc
  rw [List.toList_toArray] at hc
  exact h c (List.mem_of_mem_drop (List.mem_of_mem_take hc))
theorem asc_app {a b : Str} (ha : Asc a) (hb : Asc b) : Asc (a ++ b) := fun c hc => by
  have e : (a ++ b).cps.toList = a.cps.toList ++ b.cps.toList := by
    show (a.cps ++ b.cps).toList = _
    simp
  rw [e] at hc
  rcases List.mem_append.mp hc with h | h
  · exact ha c h
  · exact hb c h
theorem asc_at {z : Str} (h : Asc z) {i c : Nat} (e : z.cps[i]? = some c) : Asc ⟨#[c]⟩ := fun d hd => by
  have hd' : d = c := by simpa using hd
  rw [hd']
  refine h c ?_
  obtain ⟨q, e2⟩ := Array.getElem?_eq_some_iff.mp e
  rw [← e2, Array.mem_toList_iff]
  exact Array.getElem_mem q
theorem asc_upper {z : Str} (h : Asc z) : Asc (Txt.upper z) := fun c hc => by
  rw [upper_ascii h] at hc
  have hc' : c ∈ (z.cps.map up1).toList := hc
  rw [Array.toList_map] at hc'
  obtain ⟨d, hd, rfl⟩ := List.mem_map.mp hc'
  have hd' := h d hd
  unfold up1
  split <;> omega
theorem mem_joinL {S : List Nat} {c : Nat} : ∀ {ps : List (List Nat)}, c ∈ TL.joinL S ps → c ∈ S ∨ ∃ p ∈ ps, c ∈ p
  | [], h => by cases h
  | [p], h => .inr ⟨p, by simp, h⟩
  | p :: q :: r, h => by
    have h' : c ∈ p ++ (S ++ TL.joinL S (q :: r)) := h
    rcases List.mem_append.mp h' with h1 | h1
    · exact .inr ⟨p, by simp, h1⟩
    · rcases List.mem_append.mp h1 with h2 | h2
      · exact .inl h2
      · rcases mem_joinL h2 with h3 | ⟨x, hx, h3⟩
        · exact .inl h3
        · exact .inr ⟨x, List.mem_cons_of_mem _ hx, h3⟩
theorem asc_join {y : Str} {ps : List Str} (hy : Asc y) (h : ∀ p ∈ ps, Asc p) : Asc (Txt.join y ps) := fun c hc => by
  rw [TL.join_eq] at hc
  have hc' : c ∈ TL.tl (Str.join y ps) := hc
  rw [TL.tl_join] at hc'
  rcases mem_joinL hc' with h1 | ⟨p, hp, h1⟩
  · exact hy c h1
  · obtain ⟨z, hz, rfl⟩ := List.mem_map.mp hp
    exact h z hz c h1
theorem asc_ok {z : Str} (h : Asc z) : PyData.strOk z = true := by
  show z.cps.all _ = true
  rw [← Array.all_toList]
  exact List.all_eq_true.mpr fun c hc => decide_eq_true (by have := h c hc; omega)
/-! ### data of texts, for == of lists -/
theorem dp_strs {K : PySem.W.Frag} {H : Hp} : ∀ l : List Str, DpAll K H (l.map V.str) (l.map PyData.str)
  | [] => .nil
  | x :: r => .cons (.str x) (dp_strs r)
theorem lay_strs : ∀ {l : List Str}, (∀ z ∈ l, Asc z) → PyData.canLayAll0 (l.map PyData.str) = true
  | [], _ => by simp [PyData.canLayAll0]
  | x :: r, h => by
    have ih := lay_strs (l := r) fun z hz => h z (List.mem_cons_of_mem _ hz)
    rw [List.map_cons]
    simp [PyData.canLayAll0, PyData.canLay0, ih, asc_ok (h x List.mem_cons_self)]
theorem depth_strs : ∀ l : List Str, PyData.depthAll (l.map PyData.str) = 0
  | [] => by simp [PyData.depthAll]
  | x :: r => by
    rw [List.map_cons]
    simp [PyData.depthAll, PyData.depth, depth_strs r]
theorem shaped_strs {l : List Str} (h : ∀ z ∈ l, Asc z) : SeqAt.shaped (.list (l.map PyData.str)) = true := by
  unfold SeqAt.shaped
  simp [PyData.canLay0, PyData.depth, lay_strs h, depth_strs]
section
variable {P : Program} {w : World} {K : PySem.W.Frag} {mg : Str → Option Value} {base : Heap}
/-! ### the law's cells and draws -/
def cellV (ns : List Int) (k : Int) : Int := if k < ns.length then ns.getD k.toNat 0 else 0
def spCell (K : PySem.W.Frag) : Sp := fun vs H Q _ => ∃ (a : Addr) (ns : List Int) (k : Int), vs = [.ref a, .int k] ∧ SqL K H a (ns.map V.int) ∧ 0 ≤ k ∧ Q (.int (cellV ns k)) H
theorem ok__law_cell (T : Tx P K mg) : FnOk P w K mg base CX0 1 (He.fAd K ("_law_cell", none)) T.fd__law_cell ["script", "k"] (spCell K) := by
  refine ok0 T.f__law_cell sc__law_cell (fun vs H Q E h => ?_) (fun cdv A outer s H vs Q E hr h => ?_)
  · obtain ⟨a, ns, k, rfl, _⟩ := h
    rfl
  · obtain ⟨a, ns, k, rfl, hS, h0, hQ⟩ := h
    refine ⟨_, (pss_cons (ps_if (pt_cmpR op_lt (pv 1) (pe_callB call_len_seq (by rfl) T.z_len (by decide +kernel) (pa_cons (pv 0) pa_nil)) (nomark _))
        (pss_one (ps_ret (pe_callTy call_intI (by rfl) T.z_int (by decide +kernel) (pa_cons (pe_ix ix_list (pv 0) (pv 1) (fun _ _ => rfl)) pa_nil))))
        pss_nil)
      (pss_one (ps_ret pe_int))), ?_⟩
    refine ⟨_, rfl, _, rfl, a, _, rfl, .inl hS, _, _, rfl, rfl, _, rfl, ?_⟩
    rw [List.length_map]
    unfold cellV at hQ
    by_cases c : k < (ns.length : Int)
    · rw [decide_eq_true c]
      rw [if_pos c] at hQ
      refine iteT ?_
      exact ⟨_, rfl, _, rfl, a, _, k, .int (ns.getD k.toNat 0), rfl, rfl, hS, atI_int h0 (getD_map _ _ _ _ (by omega)), _, rfl, hQ⟩
    · rw [decide_eq_false c]
      rw [if_neg c] at hQ
      exact iteF hQ
def mixV (n k : Int) : Int :=
  let e := (n * 48271 + k * 69621 + 11).fmod 2147483647
  ((e * (e.fdiv 1024 + 16807 * k + 5)).fmod 2147483399).fdiv 16
def spMix : Sp := fun vs H Q _ => ∃ n k : Int, vs = [.int n, .int k] ∧ Q (.int (mixV n k)) H
theorem ok__law_mixed (T : Tx P K mg) : FnOk P w K mg base CX0 1 (He.fAd K ("_law_mixed", none)) T.fd__law_mixed ["number", "k"] spMix := by
  refine ok0 T.f__law_mixed sc__law_mixed (fun vs H Q E h => ?_) (fun cdv A outer s H vs Q E hr h => ?_)
  · obtain ⟨n, k, rfl, _⟩ := h
    rfl
  · obtain ⟨n, k, rfl, hQ⟩ := h
    refine ⟨_, (pss_cons (ps_set (i := 2) sc__law_mixed.nd rfl (Or.inl rfl) (pe_op op_modN (pe_callTy call_intI (by rfl) T.z_int (by decide +kernel) (pa_cons (pe_op op_add (pe_op op_add (pe_op op_mul (pv 0) pe_int) (pe_op op_mul (pv 1) pe_int)) pe_int) pa_nil)) pe_int))
      (pss_one (ps_ret (pe_op op_fdivN (pe_op op_modN (pe_callTy call_intI (by rfl) T.z_int (by decide +kernel) (pa_cons (pe_op op_mul (pv 2) (pe_op op_add (pe_op op_add (pe_op op_fdivN (pv 2) pe_int) (pe_op op_mul pe_int (pv 1))) pe_int)) pa_nil)) pe_int) pe_int)))), ?_⟩
    have em : (n * 48271 + k * 69621 + 11).fmod 2147483647 = (n * 48271 + k * 69621 + 11) % 2147483647 := Int.fmod_eq_emod_of_nonneg _ (by decide)
    refine ⟨_, rfl, _, _, rfl, rfl, .inr ⟨by decide, by decide⟩, _, rfl, _, _, rfl, rfl, .inr ⟨by decide, by decide⟩, _, _, rfl, rfl, _, _, rfl, rfl, _, rfl, _, _, rfl, rfl, (show (2147483647 : Int) ≠ 0 by decide), ?_⟩
    refine ⟨_, rfl, _, rfl, _, _, rfl, rfl, ⟨by decide, by decide⟩, _, rfl, _, _, rfl, rfl, .inl ⟨by decide, by decide⟩, _, _, rfl, rfl, _, _, rfl, rfl, _, _, rfl, rfl, .inl ⟨by rw [em]; omega, by rw [em]; omega⟩, _, rfl, _, _, rfl, rfl, (show (2147483399 : Int) ≠ 0 by decide), _, _, rfl, rfl, ⟨by decide, by decide⟩, ?_⟩
    exact hQ
/-- a row of so many draws below a base -/
def spRow : Sp := fun vs H Q _ => ∃ c n b : Int, vs = [.int c, .int n, .int b] ∧ 0 ≤ n ∧ n ≤ 1000 ∧ 0 < b ∧ b < 1073741824 ∧
  ∀ (H' : Hp) (p : Addr) (ns : List Int), Same H H' → H p = none → H' p = some (.lst (ns.map V.int)) → (ns.length : Int) = n → (∀ x ∈ ns, 0 ≤ x ∧ x < b) → Q (.ref p) H'
theorem fmod_in {x b : Int} (h : 0 < b) : 0 ≤ x.fmod b ∧ x.fmod b < b := by
  rw [Int.fmod_eq_emod_of_nonneg _ (Int.le_of_lt h)]
  exact ⟨Int.emod_nonneg _ (by omega), Int.emod_lt_of_pos _ h⟩
theorem all_more {ns : List Int} {b y : Int} (h : ∀ x ∈ ns, 0 ≤ x ∧ x < b) (hy : 0 ≤ y ∧ y < b) : ∀ x ∈ ns ++ [y], 0 ≤ x ∧ x < b := fun x hx => by
  rcases List.mem_append.mp hx with hx | hx
  · exact h x hx
  · rw [List.mem_singleton.mp hx]
    exact hy
theorem ok__law_row (T : Tx P K mg) : FnOk P w K mg base CX0 2 (He.fAd K ("_law_row", none)) T.fd__law_row ["cell", "count", "base"] spRow := by
  have G__law_mixed : FnOk P w K mg base CX0 1 _ _ _ _ := ok__law_mixed T
  refine ok0 T.f__law_row sc__law_row (fun vs H Q E h => ?_) (fun cdv A outer s H vs Q E hr h => ?_)
  · obtain ⟨c, n, b, rfl, _⟩ := h
    rfl
  · obtain ⟨c, n, b, rfl, h0, h1, hb0, hb1, hQ⟩ := h
    have hb0' : b ≠ 0 := by omega
    refine ⟨_, (pss_cons (ps_set (i := 3) sc__law_row.nd rfl (Or.inl rfl) (pe_lst pa_nil))
      (pss_cons (ps_set (i := 4) sc__law_row.nd rfl (Or.inl rfl) (pe_callB call_abs (by rfl) T.z_abs (by decide +kernel) (pa_cons (pv 0) pa_nil)))
      (pss_meet (ps_if (pt_cmpR op_lt (pv 4) (pe_op op_pow pe_int pe_int) (nomark _))
        (pss_one (ps_set (i := 4) sc__law_row.nd rfl (Or.inl rfl) pe_int))
        pss_nil)
      (pss_cons (ps_for PassesOwn.never rfl (pi_range1 (by rfl) T.z_range (pa_cons (pv 1) pa_nil)) (pg_name (i := 5) sc__law_row.nd rfl (Or.inl rfl))
        (pss_one (ps_if (pt_cmpR op_gt (pv 4) pe_int (nomark _))
         (pss_cons (ps_expr (pe_bm PySem.F.plainAttrs_list PySem.F.slot_list_append PySem.F.type_list_append mt_append (pv 3) (pa_cons (pe_op op_modN (pe_callTy call_intI (by rfl) T.z_int (by decide +kernel) (pa_cons (pv 4) pa_nil)) (pv 2)) pa_nil)))
         (pss_one (ps_set (i := 4) sc__law_row.nd rfl (Or.inl rfl) (pe_op op_fdivN (pv 4) (pv 2)))))
         (pss_one (ps_expr (pe_bm PySem.F.plainAttrs_list PySem.F.slot_list_append PySem.F.type_list_append mt_append (pv 3) (pa_cons (pe_op op_modN (pe_callTy call_intI (by rfl) T.z_int (by decide +kernel) (pa_cons (pe_call G__law_mixed (hr.mono (by decide)) rfl T.g__law_mixed T.f__law_mixed.kp T.b__law_mixed .nil pass0 (pa_cons (pv 0) (pa_cons (pv 5) pa_nil))) pa_nil)) (pv 2)) pa_nil)))))))
      (pss_one (ps_ret (pv 3))))))), ?_⟩
    refine ⟨Nat.zero_le _, fun p hp => ?_⟩
    refine ⟨_, rfl, _, rfl, ?_⟩
    refine ⟨fun σ' H' => ∃ rest, σ' = [some (.int c), some (.int n), some (.int b), some (.ref p), some (.int rest), none] ∧ H' = upd H p (.lst []), ?_, ?_⟩
    · refine ⟨_, rfl, _, _, rfl, rfl, ⟨by decide, by decide, by decide⟩, _, _, rfl, rfl, _, rfl, ?_⟩
      refine ite2 (fun _ => ?_) (fun _ => ?_)
      · exact ⟨_, rfl, rfl⟩
      · exact ⟨_, rfl, rfl⟩
    rintro σ' H' ⟨rest, rfl, rfl⟩
    refine ⟨_, rfl, n, rfl, by omega, by omega, for_range (lo := 0) (n := n.toNat) (fun i σ H' => ∃ (ns : List Int) (r : Int) (v : Option V), σ = [some (.int c), some (.int n), some (.int b), some (.ref p), some (.int r), v] ∧ Same H H' ∧ H' p = some (.lst (ns.map V.int)) ∧ ns.length = i ∧ ∀ x ∈ ns, 0 ≤ x ∧ x < b) ⟨[], rest, none, rfl, Same.new hp, upd_same, rfl, List.forall_mem_nil _⟩ ?_ ?_⟩
    · rintro i σ H1 hi ⟨ns, r, v, rfl, s1, h2, hl, hall⟩
      have hlen : (ns.map V.int).length < sizeLine := by rw [List.length_map, hl, sizeLine_eq]; omega
      refine ⟨_, rfl, _, _, rfl, rfl, _, rfl, ?_⟩
      refine ite2 (fun _ => ?_) (fun _ => ?_)
      · refine ⟨_, rfl, .inl ⟨rfl, _, SqL.of h2⟩, _, rfl, _, rfl, _, rfl, _, _, rfl, rfl, hb0', p, _, _, rfl, rfl, h2, hlen, ?_⟩
        refine ⟨_, rfl, _, rfl, _, _, rfl, rfl, ⟨hb0', by omega⟩, ns ++ [r.fmod b], _, _, rfl, Same.mut s1 hp, ?_, by simp [hl], all_more hall (fmod_in hb0)⟩
        rw [upd_same, List.map_append]
        rfl
      · refine ⟨_, rfl, .inl ⟨rfl, _, SqL.of h2⟩, _, rfl, _, rfl, _, _, rfl, _, rfl, _, rfl, _, _, rfl, rfl, hb0', p, _, _, rfl, rfl, h2, hlen, ?_⟩
        refine ⟨ns ++ [(mixV c (0 + (i : Int))).fmod b], _, _, rfl, Same.mut s1 hp, ?_, by simp [hl], all_more hall (fmod_in hb0)⟩
        rw [upd_same, List.map_append]
        rfl
    · rintro σ H1 ⟨ns, r, v, rfl, s1, h2, hl, hall⟩
      exact ⟨_, rfl, hQ _ _ ns s1 hp h2 (by omega) hall⟩
end
end Toy

set_option maxHeartbeats 4000000
namespace Toy
open PySem PySem.Spec PyProof.Rows L2
section
variable {P : Program} {w : World} {K : PySem.W.Frag} {mg : Str → Option Value} {base : Heap}
/-! ### the names, a sign, a spoilt text -/
theorem asc_by {z : Str} (h : z.cps.all (· < 128) = true) : Asc z := fun c hc => by
  rw [← Array.all_toList] at h
  exact of_decide_eq_true (List.all_eq_true.mp h c hc)
theorem sm100 {n : Nat} (h : n ≤ 100) : n ≤ sizeLine := by rw [sizeLine_eq]; omega
theorem app_len (a b : Str) : (a ++ b).length = a.length + b.length := by
  show (a.cps ++ b.cps).size = _
  rw [Array.size_append]
  rfl
theorem one_len (c : Nat) : (⟨#[c]⟩ : Str).length = 1 := rfl
theorem sign_at {z : Str} {i : Int} (h0 : 0 ≤ i) (h1 : i < (z.length : Int)) : ∃ c, z.cps[i.toNat]? = some c := by
  have q : i.toNat < z.cps.size := by
    show _ < z.length
    omega
  exact ⟨_, Array.getElem?_eq_getElem q⟩
theorem asc_abc : Asc ("abcdefghijklmnopqrstuvwxyz" : Str) := asc_by (by decide +kernel)
theorem getV {ns : List Int} {i : Nat} (h : i < ns.length) : (ns.map V.int)[i]? = some (.int (ns.getD i 0)) := getD_map _ _ _ _ h
theorem getD_in {ns : List Int} {b : Int} (h : ∀ x ∈ ns, 0 ≤ x ∧ x < b) {i : Nat} (hi : i < ns.length) : 0 ≤ ns.getD i 0 ∧ ns.getD i 0 < b := by
  rw [List.getD_eq_getElem?_getD, List.getElem?_eq_getElem hi]
  exact h _ (List.getElem_mem hi)
theorem joinL_len : ∀ ps : List (List Nat), (TL.joinL [] ps).length = (ps.map List.length).sum
  | [] => rfl
  | [p] => by
    show p.length = p.length + 0
    rfl
  | p :: q :: r => by
    have ih := joinL_len (q :: r)
    show (p ++ ([] ++ TL.joinL [] (q :: r))).length = _
    rw [List.nil_append, List.length_append, ih]
    rfl
theorem join_len (acc : List Str) : (Txt.join "" acc).length = (acc.map (·.length)).sum := by
  have e : (TL.tl (Str.join "" acc)).length = (TL.joinL [] (acc.map TL.tl)).length := by rw [TL.tl_join]; rfl
  rw [joinL_len, List.map_map] at e
  rw [TL.join_eq]
  have e2 : (TL.tl (Str.join "" acc)).length = (Str.join "" acc).length := Array.length_toList
  rw [e2] at e
  rw [e]
  congr 1
def spNames : Sp := fun vs H Q _ => ∃ c n : Int, vs = [.int c, .int n] ∧ 0 ≤ n ∧ n ≤ 1000 ∧
  ∀ (H' : Hp) (p : Addr) (zs : List Str), Same H H' → H p = none → H' p = some (.lst (zs.map V.str)) → (zs.length : Int) = n → (∀ z ∈ zs, Asc z ∧ z.length ≤ 15) → Q (.ref p) H'
theorem ok__law_names (T : Tx P K mg) : FnOk P w K mg base CX0 3 (He.fAd K ("_law_names", none)) T.fd__law_names ["cell", "count"] spNames := by
  have G__law_row : FnOk P w K mg base CX0 2 _ _ _ _ := ok__law_row T
  refine ok0 T.f__law_names sc__law_names (fun vs H Q E h => ?_) (fun cdv A outer s H vs Q E hr h => ?_)
  · obtain ⟨c, n, rfl, _⟩ := h
    rfl
  · obtain ⟨c, n, rfl, h0, h1, hQ⟩ := h
    refine ⟨_, (pss_cons (ps_set (i := 2) sc__law_names.nd rfl (Or.inr rfl) pe_str)
      (pss_cons (ps_set (i := 3) sc__law_names.nd rfl (Or.inl rfl) (pe_call G__law_row (hr.mono (by decide)) rfl T.g__law_row T.f__law_row.kp T.b__law_row .nil pass0 (pa_cons (pv 0) (pa_cons pe_int (pa_cons pe_int pa_nil)))))
      (pss_cons (ps_set (i := 4) sc__law_names.nd rfl (Or.inl rfl) (pe_join pe_str (pe_lc (own := [("draw", 5)]) (g := gName 5) (tt := tYes) rfl sc__law_names.nd (pi_list (pe_slice sl_list (pv 3) po_none (po_some pe_int))) (blkOk_by (own := [("draw", 5)]) (N := ["cell", "count", "letters", "draws", "body", "draw", "found", "k", "size", "at", "told"]) (sc := defScope s__law_names) (by decide +kernel)) (fun _ _ _ _ _ => (pg_name (i := 5) sc__law_names.nd rfl (Or.inl rfl))) (fun _ _ _ _ _ => pts_nil) (fun _ _ _ _ _ => (pe_item_str (pv 2) (pv 5) (fun _ _ => rfl))))))
      (pss_cons (ps_set (i := 6) sc__law_names.nd rfl (Or.inl rfl) (pe_lst pa_nil))
      (pss_cons (ps_for PassesOwn.never rfl (pi_range1 (by rfl) T.z_range (pa_cons (pv 1) pa_nil)) (pg_name (i := 7) sc__law_names.nd rfl (Or.inl rfl))
        (pss_cons (ps_set (i := 8) sc__law_names.nd rfl (Or.inl rfl) (pe_op op_modN (pe_callTy call_intI (by rfl) T.z_int (by decide +kernel) (pa_cons (pe_ix (ix_lK (K := K)) (pv 3) pe_int (fun _ _ => rfl)) pa_nil)) pe_int))
        (pss_cons (ps_set (i := 9) sc__law_names.nd rfl (Or.inl rfl) (pe_op op_modN (pe_callTy call_intI (by rfl) T.z_int (by decide +kernel) (pa_cons (pe_ix (ix_lK (K := K)) (pv 3) pe_int (fun _ _ => rfl)) pa_nil)) (pe_op op_add (pv 8) pe_int)))
        (pss_cons (ps_set (i := 10) sc__law_names.nd rfl (Or.inl rfl) (pe_item_str (pv 2) (pe_op op_modN (pe_callTy call_intI (by rfl) T.z_int (by decide +kernel) (pa_cons (pe_op op_add (pe_ix (ix_lK (K := K)) (pv 3) pe_int (fun _ _ => rfl)) (pe_op op_mul (pv 7) (pe_op op_add pe_int (pe_op op_modN (pe_callTy call_intI (by rfl) T.z_int (by decide +kernel) (pa_cons (pe_ix (ix_lK (K := K)) (pv 3) pe_int (fun _ _ => rfl)) pa_nil)) pe_int)))) pa_nil)) pe_int) (fun _ _ => rfl)))
        (pss_one (ps_if (pt_cmpR op_eq (pe_op op_modN (pe_callTy call_intI (by rfl) T.z_int (by decide +kernel) (pa_cons (pe_ix (ix_lK (K := K)) (pv 3) pe_int (fun _ _ => rfl)) pa_nil)) pe_int) pe_int (nomark _))
         (pss_one (ps_expr (pe_bm PySem.F.plainAttrs_list PySem.F.slot_list_append PySem.F.type_list_append mt_append (pv 6) (pa_cons (pe_op op_add_str (pe_op op_add_str (pe_slice sl_str (pv 4) po_none (po_some (pv 9))) (pv 10)) (pe_slice sl_str (pv 4) (po_some (pv 9)) (po_some (pv 8)))) pa_nil))))
         (pss_one (ps_expr (pe_bm PySem.F.plainAttrs_list PySem.F.slot_list_append PySem.F.type_list_append mt_append (pv 6) (pa_cons (pe_slice sl_str (pe_op op_add_str (pv 4) (pe_item_str (pv 2) (pe_ix (ix_lK (K := K)) (pv 3) pe_int (fun _ _ => rfl)) (fun _ _ => rfl))) po_none (po_some (pe_op op_add pe_int (pe_op op_modN (pe_callTy call_intI (by rfl) T.z_int (by decide +kernel) (pa_cons (pe_op op_add (pe_ix (ix_lK (K := K)) (pv 3) pe_int (fun _ _ => rfl)) (pv 7)) pa_nil)) pe_int)))) pa_nil))))))))))
      (pss_one (ps_ret (pv 6)))))))), ?_⟩
    refine ⟨_, rfl, c, 12, 26, rfl, by decide, by decide, by decide, by decide, fun H1 p ns s1 hp hp1 hlen hall => ?_⟩
    have hl : ns.length = 12 := by omega
    refine ⟨⟨_, rfl⟩, _, rfl, _, rfl, p, _, rfl, SqL.of hp1, fun q hq => ?_⟩
    refine ⟨q, rfl, ⟨_, SqL.of upd_same⟩, fun D hD => ?_⟩
    have s2 : Same H1 (upd H1 q (.lst (cutV (ns.map V.int) none (some 7)))) := Same.new hq
    refine lc_list (K := K) (a := q) (xs := cutV (ns.map V.int) none (some 7)) (fun i H' => ∃ acc : List Str, H' D = some (.lst (acc.map V.str)) ∧ Same (upd H1 q (.lst (cutV (ns.map V.int) none (some 7)))) H' ∧ acc.length = i ∧ (∀ y ∈ acc, y.length = 1 ∧ Asc y)) ⟨[], upd_same, Same.new hD, rfl, List.forall_mem_nil _⟩ (fun i H' _ ⟨_, _, sm, _⟩ => SqL.of (sm _ _ upd_same)) ?_ ?_
    · rintro i x H' hx ⟨acc, hacc, sm, hlen, hone⟩
      have hx' : x ∈ cutV (ns.map V.int) none (some 7) := List.mem_of_getElem? hx
      obtain ⟨u, hu, rfl⟩ : ∃ u, u ∈ ns ∧ V.int u = x := by
        unfold cutV at hx'
        exact List.mem_map.mp (List.mem_of_mem_drop (List.mem_of_mem_take hx'))
      obtain ⟨u0, u1⟩ := hall u hu
      have hi : i < 13 := by
        have h1 : i < (cutV (ns.map V.int) none (some 7)).length := (List.getElem?_eq_some_iff.mp hx).1
        have h2 : (cutV (ns.map V.int) none (some 7)).length ≤ 12 := by
          unfold cutV
          rw [List.length_take, List.length_drop, List.length_map, hl]
          omega
        omega
      obtain ⟨cc, hcc⟩ := sign_at (z := "abcdefghijklmnopqrstuvwxyz") u0 (show u < ((26 : Nat) : Int) by omega)
      refine ⟨rfl, _, rfl, _, rfl, _, u, cc, rfl, rfl, u0, by omega, (show u < ((26 : Nat) : Int) by omega), hcc, acc.map V.str, hacc, (by rw [List.length_map, hlen, sizeLine_eq]; omega), acc ++ [⟨#[cc]⟩], ?_, Same.mut sm hD, by simp [hlen], ?_⟩
      · rw [upd_same, List.map_append]
        rfl
      · intro y hy
        rcases List.mem_append.mp hy with hy | hy
        · exact hone y hy
        · rw [List.mem_singleton.mp hy]
          exact ⟨rfl, asc_at asc_abc hcc⟩
    · rintro H2 ⟨acc, hacc, sm, hlen, hone⟩
      have tot : (acc.map (·.length)).sum = acc.length := by
        clear hacc hlen sm
        replace hone : ∀ y ∈ acc, y.length = 1 := fun y hy => (hone y hy).1
        induction acc with
        | nil => rfl
        | cons a r ih =>
          rw [List.map_cons, List.sum_cons, ih fun y hy => hone y (List.mem_cons_of_mem _ hy), hone a List.mem_cons_self, List.length_cons]
          omega
      have h7 : acc.length = 7 := by
        rw [hlen]
        unfold cutV
        rw [List.length_take, List.length_drop, List.length_map, hl]
        rfl
      have s12 := Same.tr s2 sm
      have hp2 := s12 _ _ hp1
      refine ⟨_, D, acc, rfl, rfl, .inl (SqL.of hacc), (by show (acc.map (·.length)).sum + acc.length * 0 ≤ 16777216; omega), ?_⟩
      have bl : (Txt.join "" acc).length ≤ 7 := by
        rw [join_len, tot, h7]
        omega
      have ba : Asc (Txt.join "" acc) := asc_join (asc_by (by decide +kernel)) fun y hy => (hone y hy).2
      generalize Txt.join "" acc = body at *
      refine ⟨Nat.zero_le _, fun F hF => ?_⟩
      have s3 := Same.tr s12 (Same.new (o := .lst []) hF)
      have fF : H F = none := Same.free s1 (Same.free s12 hF)
      have sF : Same H1 (upd H2 F (.lst [])) := s3
      refine ⟨_, rfl, n, rfl, by omega, by omega, for_range (lo := 0) (n := n.toNat) (fun i σ H' => ∃ (zs : List Str) (v7 v8 v9 v10 : Option V), σ = [some (.int c), some (.int n), some (.str "abcdefghijklmnopqrstuvwxyz"), some (.ref p), some (.str body), none, some (.ref F), v7, v8, v9, v10] ∧ Same H1 H' ∧ H' F = some (.lst (zs.map V.str)) ∧ zs.length = i ∧ ∀ z ∈ zs, Asc z ∧ z.length ≤ 15) ⟨[], none, none, none, none, rfl, sF, upd_same, rfl, List.forall_mem_nil _⟩ ?_ ?_⟩
      · rintro i σ H3 hi ⟨zs, v7, v8, v9, v10, rfl, s5, hF5, hz5, hall5⟩
        have hp3 := s5 _ _ hp1
        have hp3' := SqL.of (K := K) hp3
        have at_ : ∀ j : Nat, j < 12 → atI (ns.map V.int) (j : Nat) = some (.int (ns.getD j 0)) := fun j hj => atI_nat (getV (by omega))
        have g_ : ∀ j : Nat, j < 12 → 0 ≤ ns.getD j 0 ∧ ns.getD j 0 < 26 := fun j hj => getD_in hall (by omega)
        have z0 : ∀ x b : Int, 0 < b → 0 ≤ x.fmod b ∧ x.fmod b < b := fun x b h => fmod_in h
        have bz : body.length ≤ sizeLine := sm100 (by omega)
        have cut7 : ∀ lo hi, (cutS body lo hi).length ≤ 7 := fun lo hi => Nat.le_trans (cutS_length body lo hi) bl
        refine ⟨_, rfl, p, _, _, _, rfl, rfl, hp3', at_ 9 (by decide), _, rfl, _, _, rfl, rfl, (show (8 : Int) ≠ 0 by decide), ?_⟩
        have sz := z0 (ns.getD 9 0) 8 (by decide)
        refine ⟨_, rfl, p, _, _, _, rfl, rfl, hp3', at_ 10 (by decide), _, rfl, _, rfl, _, _, rfl, rfl, _, _, rfl, rfl, (by show (ns.getD 9 0).fmod 8 + 1 ≠ 0; omega), ?_⟩
        obtain ⟨cc, hcc⟩ := sign_at (z := "abcdefghijklmnopqrstuvwxyz") (z0 (ns.getD 11 0 + (0 + (i : Int)) * (1 + (ns.getD 7 0).fmod 4)) 26 (by decide)).1 (z0 (ns.getD 11 0 + (0 + (i : Int)) * (1 + (ns.getD 7 0).fmod 4)) 26 (by decide)).2
        refine ⟨_, rfl, _, rfl, p, _, _, _, rfl, rfl, hp3', at_ 11 (by decide), _, rfl, _, rfl, p, _, _, _, rfl, rfl, hp3', at_ 7 (by decide), _, rfl, _, _, rfl, rfl, (show (4 : Int) ≠ 0 by decide), _, _, rfl, rfl, _, _, rfl, rfl, .inl ⟨by omega, by omega⟩, _, _, rfl, rfl, _, rfl, _, _, rfl, rfl, (show (26 : Int) ≠ 0 by decide), ?_⟩
        refine ⟨_, _, cc, rfl, rfl, (z0 _ 26 (by decide)).1, (Int.lt_trans (z0 _ 26 (by decide)).2 (by decide)), (z0 _ 26 (by decide)).2, hcc, ?_⟩
        have hlen : (zs.map V.str).length < sizeLine := by rw [List.length_map, hz5, sizeLine_eq]; omega
        refine ⟨_, rfl, p, _, _, _, rfl, rfl, hp3', at_ 8 (by decide), _, rfl, _, _, rfl, rfl, (show (2 : Int) ≠ 0 by decide), rfl, _, rfl, ?_⟩
        refine ite2 (fun _ => ?_) (fun _ => ?_)
        · refine ⟨_, rfl, .inl ⟨rfl, _, SqL.of hF5⟩, _, rfl, _, rfl, _, rfl, body, rfl, bz, _, rfl, _, _, rfl, rfl, sm100 (by have := cut7 none (some ((ns.getD 10 0).fmod ((ns.getD 9 0).fmod 8 + 1))); rw [one_len]; omega), _, rfl, _, rfl, _, rfl, _, rfl, _, rfl, body, rfl, bz, _, _, rfl, rfl, ?_⟩
          have l1 := cut7 none (some ((ns.getD 10 0).fmod ((ns.getD 9 0).fmod 8 + 1)))
          have l2 := cut7 (some ((ns.getD 10 0).fmod ((ns.getD 9 0).fmod 8 + 1))) (some ((ns.getD 9 0).fmod 8))
          refine ⟨sm100 (by rw [app_len, one_len]; omega), F, _, _, rfl, rfl, hF5, hlen, ?_⟩
          refine ⟨zs ++ [cutS body none (some ((ns.getD 10 0).fmod ((ns.getD 9 0).fmod 8 + 1))) ++ ⟨#[cc]⟩ ++ cutS body (some ((ns.getD 10 0).fmod ((ns.getD 9 0).fmod 8 + 1))) (some ((ns.getD 9 0).fmod 8))], _, _, _, _, rfl, Same.mut s5 (Same.free s12 hF), ?_, by simp [hz5], ?_⟩
          · rw [upd_same, List.map_append]
            rfl
          · intro z hz
            rcases List.mem_append.mp hz with hz | hz
            · exact hall5 z hz
            · rw [List.mem_singleton.mp hz]
              exact ⟨asc_app (asc_app (asc_cut ba _ _) (asc_at asc_abc hcc)) (asc_cut ba _ _), by rw [app_len, app_len, one_len]; omega⟩
        · obtain ⟨c2, hc2⟩ := sign_at (z := "abcdefghijklmnopqrstuvwxyz") (g_ 7 (by decide)).1 (g_ 7 (by decide)).2
          refine ⟨_, rfl, .inl ⟨rfl, _, SqL.of hF5⟩, _, rfl, _, rfl, _, rfl, p, _, _, _, rfl, rfl, hp3', at_ 7 (by decide), _, _, c2, rfl, rfl, (g_ 7 (by decide)).1, (Int.lt_trans (g_ 7 (by decide)).2 (by decide)), (g_ 7 (by decide)).2, hc2, _, _, rfl, rfl, sm100 (by rw [one_len]; omega), ?_⟩
          have l8 : (body ++ ⟨#[c2]⟩ : Str).length ≤ 8 := by rw [app_len, one_len]; omega
          refine ⟨_, rfl, p, _, _, _, rfl, rfl, hp3', at_ 9 (by decide), _, rfl, _, _, rfl, rfl, _, rfl, _, _, rfl, rfl, (show (8 : Int) ≠ 0 by decide), _, _, rfl, rfl, _, rfl, _, rfl, sm100 (by omega), ?_⟩
          refine ⟨F, _, _, rfl, rfl, hF5, hlen, ?_⟩
          refine ⟨zs ++ [cutS (body ++ ⟨#[c2]⟩) none (some (1 + (ns.getD 9 0 + (0 + (i : Int))).fmod 8))], _, _, _, _, rfl, Same.mut s5 (Same.free s12 hF), ?_, by simp [hz5], ?_⟩
          · rw [upd_same, List.map_append]
            rfl
          · intro z hz
            rcases List.mem_append.mp hz with hz | hz
            · exact hall5 z hz
            · rw [List.mem_singleton.mp hz]
              exact ⟨asc_cut (asc_app ba (asc_at asc_abc hc2)) _ _, Nat.le_trans (cutS_length _ _ _) (by omega)⟩
      · rintro σ H3 ⟨zs, v7, v8, v9, v10, rfl, s5, hF5, hz5, hall5⟩
        exact ⟨_, rfl, hQ _ _ zs (Same.tr s1 s5) fF hF5 (by omega) hall5⟩
end
end Toy

set_option maxHeartbeats 4000000
namespace Toy
open PySem PySem.Spec PyProof.Rows L2
section
variable {P : Program} {w : World} {K : PySem.W.Frag} {mg : Str → Option Value} {base : Heap}
def spSign : Sp := fun vs H Q _ => ∃ n : Int, vs = [.int n] ∧ ∀ c : Nat, Asc ⟨#[c]⟩ → Q (.str ⟨#[c]⟩) H
def signsZ : Str := " !\"#$&'()*+,-./0123456789:;<=>?@ABCDEFGHIJKLMNOPQRSTUVWXYZ[\\]^_`abcdefghijklmnopqrstuvwxyz{|}~ \n\t"
theorem ok__law_sign (T : Tx P K mg) : FnOk P w K mg base CX0 1 (He.fAd K ("_law_sign", none)) T.fd__law_sign ["number"] spSign := by
  refine ok0 T.f__law_sign sc__law_sign (fun vs H Q E h => ?_) (fun cdv A outer s H vs Q E hr h => ?_)
  · obtain ⟨n, rfl, _⟩ := h
    rfl
  · obtain ⟨n, rfl, hQ⟩ := h
    refine ⟨_, (pss_cons (ps_set (i := 1) sc__law_sign.nd rfl (Or.inl rfl) pe_str)
      (pss_cons (ps_if (pt_cmpR op_eq (pe_op op_modN (pe_callTy call_intI (by rfl) T.z_int (by decide +kernel) (pa_cons (pv 0) pa_nil)) pe_int) pe_int (nomark _))
        (pss_one (ps_ret (pe_item_str pe_str (pe_op op_modN (pe_callTy call_intI (by rfl) T.z_int (by decide +kernel) (pa_cons (pe_op op_fdivN (pv 0) pe_int) pa_nil)) pe_int) (fun _ _ => rfl))))
        pss_nil)
      (pss_cons (ps_if (pt_cmpR op_eq (pe_op op_modN (pe_callTy call_intI (by rfl) T.z_int (by decide +kernel) (pa_cons (pv 0) pa_nil)) pe_int) pe_int (nomark _))
        (pss_one (ps_ret (pe_item_str (pv 1) (pe_op op_modN (pe_callTy call_intI (by rfl) T.z_int (by decide +kernel) (pa_cons (pe_op op_fdivN (pv 0) pe_int) pa_nil)) (pe_callB call_len (by rfl) T.z_len (by decide +kernel) (pa_cons (pv 1) pa_nil))) (fun _ _ => rfl))))
        pss_nil)
      (pss_one (ps_ret (pe_item_str pe_str (pe_op op_modN (pe_callTy call_intI (by rfl) T.z_int (by decide +kernel) (pa_cons (pe_op op_fdivN (pv 0) pe_int) pa_nil)) pe_int) (fun _ _ => rfl))))))), ?_⟩
    have z0 : ∀ x b : Int, 0 < b → 0 ≤ x.fmod b ∧ x.fmod b < b := fun x b h => fmod_in h
    have pick : ∀ (z : Str) (x b : Int), b = (z.length : Int) → 0 < b → z.cps.all (· < 128) = true → ∃ c, z.cps[(x.fmod b).toNat]? = some c ∧ Asc ⟨#[c]⟩ := fun z x b hb h0 ha => by
      have h := z0 x b h0
      obtain ⟨c, hc⟩ := sign_at (z := z) (i := x.fmod b) h.1 (by omega)
      exact ⟨c, hc, asc_at (asc_by ha) hc⟩
    refine ⟨_, rfl, _, rfl, _, _, rfl, rfl, (show (4 : Int) ≠ 0 by decide), rfl, _, rfl, ?_⟩
    refine ite2 (fun _ => ?_) (fun _ => ?_)
    · obtain ⟨c, hc, ha⟩ := pick "0123456789abcdefghijklmnopqrstuvwxyz" (n.fdiv 4) 36 rfl (by decide) (by decide +kernel)
      have h := z0 (n.fdiv 4) 36 (by decide)
      exact ⟨_, rfl, _, _, rfl, rfl, ⟨by decide, by decide⟩, _, rfl, _, _, rfl, rfl, (show (36 : Int) ≠ 0 by decide), _, _, c, rfl, rfl, h.1, (Int.lt_trans h.2 (by decide)), h.2, hc, hQ c ha⟩
    refine ⟨_, rfl, _, rfl, _, _, rfl, rfl, (show (4 : Int) ≠ 0 by decide), rfl, _, rfl, ?_⟩
    refine ite2 (fun _ => ?_) (fun _ => ?_)
    · obtain ⟨c, hc, ha⟩ := pick signsZ (n.fdiv 4) (signsZ.length : Int) rfl (by decide +kernel) (by decide +kernel)
      have h := z0 (n.fdiv 4) (signsZ.length : Int) (by decide +kernel)
      have l63 : (signsZ.length : Int) < 2 ^ 63 := by decide +kernel
      have ll : signsZ.length ≤ sizeLine := Nat.le_trans (show signsZ.length ≤ 100 by decide +kernel) (by decide)
      exact ⟨_, rfl, _, rfl, _, _, rfl, rfl, ⟨by decide, by decide⟩, _, rfl, _, rfl, _, signsZ.length, rfl, ⟨ll, rfl⟩, _, _, rfl, rfl, (show (signsZ.length : Int) ≠ 0 by decide +kernel), signsZ, _, c, rfl, rfl, h.1, (Int.lt_trans h.2 l63), h.2, hc, hQ c ha⟩
    · obtain ⟨c, hc, ha⟩ := pick "_-" (n.fdiv 4) 2 rfl (by decide) (by decide +kernel)
      have h := z0 (n.fdiv 4) 2 (by decide)
      exact ⟨_, rfl, _, _, rfl, rfl, ⟨by decide, by decide⟩, _, rfl, _, _, rfl, rfl, (show (2 : Int) ≠ 0 by decide), _, _, c, rfl, rfl, h.1, (Int.lt_trans h.2 (by decide)), h.2, hc, hQ c ha⟩
def spSpoilt : Sp := fun vs H Q _ => ∃ (z : Str) (n : Int), vs = [.str z, .int n] ∧ Asc z ∧ z.length ≤ 1000 ∧ ∀ y : Str, Asc y → y.length ≤ 2 * z.length + 1 → Q (.str y) H
theorem ok__law_spoilt (T : Tx P K mg) : FnOk P w K mg base CX0 2 (He.fAd K ("_law_spoilt", none)) T.fd__law_spoilt ["text", "number"] spSpoilt := by
  have G__law_sign : FnOk P w K mg base CX0 1 _ _ _ _ := ok__law_sign T
  refine ok0 T.f__law_spoilt sc__law_spoilt (fun vs H Q E h => ?_) (fun cdv A outer s H vs Q E hr h => ?_)
  · obtain ⟨z, n, rfl, _⟩ := h
    rfl
  · obtain ⟨z, n, rfl, za, zl, hQ⟩ := h
    refine ⟨_, (pss_cons (ps_set (i := 2) sc__law_spoilt.nd rfl (Or.inl rfl) (pe_op op_modN (pe_callTy call_intI (by rfl) T.z_int (by decide +kernel) (pa_cons (pv 1) pa_nil)) pe_int))
      (pss_cons (ps_set (i := 3) sc__law_spoilt.nd rfl (Or.inl rfl) (pe_op op_modN (pe_callTy call_intI (by rfl) T.z_int (by decide +kernel) (pa_cons (pe_op op_fdivN (pv 1) pe_int) pa_nil)) (pe_op op_add (pe_callB call_len (by rfl) T.z_len (by decide +kernel) (pa_cons (pv 0) pa_nil)) pe_int)))
      (pss_cons (ps_set (i := 4) sc__law_spoilt.nd rfl (Or.inl rfl) (pe_call G__law_sign (hr.mono (by decide)) rfl T.g__law_sign T.f__law_sign.kp T.b__law_sign .nil pass0 (pa_cons (pe_callTy call_intI (by rfl) T.z_int (by decide +kernel) (pa_cons (pe_op op_fdivN (pv 1) pe_int) pa_nil)) pa_nil)))
      (pss_cons (ps_if (pt_cmpR op_eq (pv 2) pe_int (nomark _))
        (pss_one (ps_ret (pe_op op_add_str (pe_op op_add_str (pe_slice sl_str (pv 0) po_none (po_some (pv 3))) (pv 4)) (pe_slice sl_str (pv 0) (po_some (pv 3)) po_none))))
        pss_nil)
      (pss_cons (ps_if (pt_cmpR op_eq (pv 2) pe_int (nomark _))
        (pss_one (ps_ret (pe_op op_add_str (pe_op op_add_str (pe_slice sl_str (pv 0) po_none (po_some (pv 3))) (pv 4)) (pe_slice sl_str (pv 0) (po_some (pe_op op_add (pv 3) pe_int)) po_none))))
        pss_nil)
      (pss_cons (ps_if (pt_cmpR op_eq (pv 2) pe_int (nomark _))
        (pss_one (ps_ret (pe_op op_add_str (pe_slice sl_str (pv 0) po_none (po_some (pv 3))) (pe_slice sl_str (pv 0) (po_some (pe_op op_add (pv 3) pe_int)) po_none))))
        pss_nil)
      (pss_one (ps_ret (pv 0))))))))), ?_⟩
    have sm : ∀ n : Nat, n ≤ 10000 → n ≤ sizeLine := fun n h => by rw [sizeLine_eq]; omega
    have zs : z.length ≤ sizeLine := sm _ (by omega)
    refine ⟨_, rfl, _, rfl, _, _, rfl, rfl, (show (6 : Int) ≠ 0 by decide), ?_⟩
    refine ⟨_, rfl, _, _, rfl, rfl, ⟨by decide, by decide⟩, _, rfl, _, rfl, _, z.length, rfl, ⟨zs, rfl⟩, _, _, rfl, rfl, _, _, rfl, rfl, (by show (z.length : Int) + 1 ≠ 0; omega), ?_⟩
    have h := fmod_in (x := n.fdiv 6) (b := (z.length : Int) + 1) (by omega)
    refine ⟨_, rfl, _, _, rfl, rfl, ⟨by decide, by decide⟩, _, rfl, _, rfl, fun c hc => ?_⟩
    have cut : ∀ lo hi, (cutS z lo hi).length ≤ z.length := fun lo hi => cutS_length z lo hi
    have l1 := cut none (some ((n.fdiv 6).fmod ((z.length : Int) + 1)))
    have l2 := cut (some ((n.fdiv 6).fmod ((z.length : Int) + 1))) none
    have l3 := cut (some (((n.fdiv 6).fmod ((z.length : Int) + 1)) + 1)) none
    refine ⟨_, rfl, rfl, _, rfl, ?_⟩
    refine ite2 (fun _ => ?_) (fun _ => ?_)
    · exact ⟨_, rfl, _, rfl, _, rfl, z, rfl, zs, _, rfl, _, _, rfl, rfl, sm _ (by rw [one_len]; omega), _, rfl, _, rfl, _, rfl, z, rfl, zs, _, _, rfl, rfl, sm _ (by rw [app_len, one_len]; omega), hQ _ (asc_app (asc_app (asc_cut za _ _) hc) (asc_cut za _ _)) (by rw [app_len, app_len, one_len]; omega)⟩
    refine ⟨_, rfl, rfl, _, rfl, ?_⟩
    refine ite2 (fun _ => ?_) (fun _ => ?_)
    · exact ⟨_, rfl, _, rfl, _, rfl, z, rfl, zs, _, rfl, _, _, rfl, rfl, sm _ (by rw [one_len]; omega), _, rfl, _, rfl, _, _, rfl, rfl, _, rfl, z, rfl, zs, _, _, rfl, rfl, sm _ (by rw [app_len, one_len]; omega), hQ _ (asc_app (asc_app (asc_cut za _ _) hc) (asc_cut za _ _)) (by rw [app_len, app_len, one_len]; omega)⟩
    refine ⟨_, rfl, rfl, _, rfl, ?_⟩
    refine ite2 (fun _ => ?_) (fun _ => ?_)
    · exact ⟨_, rfl, _, rfl, _, rfl, z, rfl, zs, _, rfl, _, rfl, _, _, rfl, rfl, _, rfl, z, rfl, zs, _, _, rfl, rfl, sm _ (by omega), hQ _ (asc_app (asc_cut za _ _) (asc_cut za _ _)) (by rw [app_len]; omega)⟩
    exact ⟨_, rfl, hQ z za (by omega)⟩

/-- the text of a script -/
def spText (K : PySem.W.Frag) : Sp := fun vs H Q _ => ∃ (a : Addr) (cs : List Int), vs = [.ref a] ∧ SqL K H a (cs.map V.int) ∧ (∀ H', Same H H' → SqL K H' a (cs.map V.int)) ∧ ∀ (H' : Hp) (y : Str), Same H H' → Asc y → y.length ≤ 1000 → Q (.str y) H'
theorem num_asc (i : Int) : Asc (toString i : String) := PySem.W.KSb.asc_num i
theorem num_log {i : Int} (h0 : 0 ≤ i) (h1 : i < 10 ^ 10) : i.natAbs.log2 < 1920 := by
  have h : i.natAbs < 2 ^ 1919 := Nat.lt_of_lt_of_le (show i.natAbs < 10 ^ 10 by omega) (by decide +kernel)
  by_cases z : i.natAbs = 0
  · rw [z]; decide
  · have := (Nat.log2_lt z).mpr h
    omega
theorem ok__law_text (T : Tx P K mg) : FnOk P w K mg base CX0 4 (He.fAd K ("_law_text", none)) T.fd__law_text ["script"] (spText K) := by
  have G__law_cell : FnOk P w K mg base CX0 1 _ _ _ _ := ok__law_cell T
  have G__law_row : FnOk P w K mg base CX0 2 _ _ _ _ := ok__law_row T
  have G__law_names : FnOk P w K mg base CX0 3 _ _ _ _ := ok__law_names T
  have G__law_spoilt : FnOk P w K mg base CX0 2 _ _ _ _ := ok__law_spoilt T
  refine ok0 T.f__law_text sc__law_text (fun vs H Q E h => ?_) (fun cdv A outer s H vs Q E hr h => ?_)
  · obtain ⟨a, cs, rfl, _⟩ := h
    rfl
  · obtain ⟨a, cs, rfl, hS0, hS, hQ⟩ := h
    refine ⟨_, (pss_cons (ps_set (i := 1) sc__law_text.nd rfl (Or.inl rfl) (pe_call G__law_names (hr.mono (by decide)) rfl T.g__law_names T.f__law_names.kp T.b__law_names .nil pass0 (pa_cons (pe_call G__law_cell (hr.mono (by decide)) rfl T.g__law_cell T.f__law_cell.kp T.b__law_cell .nil pass0 (pa_cons (pv 0) (pa_cons pe_int pa_nil))) (pa_cons pe_int pa_nil))))
      (pss_cons (ps_set (i := 2) sc__law_text.nd rfl (Or.inl rfl) (pe_call G__law_row (hr.mono (by decide)) rfl T.g__law_row T.f__law_row.kp T.b__law_row .nil pass0 (pa_cons (pe_call G__law_cell (hr.mono (by decide)) rfl T.g__law_cell T.f__law_cell.kp T.b__law_cell .nil pass0 (pa_cons (pv 0) (pa_cons pe_int pa_nil))) (pa_cons pe_int (pa_cons (pe_op op_pow pe_int pe_int) pa_nil)))))
      (pss_meet (ps_if (pt_cmpR op_eq (pe_op op_modN (pe_callTy call_intI (by rfl) T.z_int (by decide +kernel) (pa_cons (pe_call G__law_cell (hr.mono (by decide)) rfl T.g__law_cell T.f__law_cell.kp T.b__law_cell .nil pass0 (pa_cons (pv 0) (pa_cons pe_int pa_nil))) pa_nil)) pe_int) pe_int (nomark _))
        (pss_one (ps_set (i := 2) sc__law_text.nd rfl (Or.inl rfl) (pe_lst (pa_cons (pe_op op_modN (pe_callTy call_intI (by rfl) T.z_int (by decide +kernel) (pa_cons (pe_ix (ix_lK (K := K)) (pv 2) pe_int (fun _ _ => rfl)) pa_nil)) pe_int) (pa_cons (pe_op op_modN (pe_callTy call_intI (by rfl) T.z_int (by decide +kernel) (pa_cons (pe_ix (ix_lK (K := K)) (pv 2) pe_int (fun _ _ => rfl)) pa_nil)) pe_int) pa_nil)))))
        pss_nil)
      (pss_cons (ps_set (i := 3) sc__law_text.nd rfl (Or.inl rfl) (pe_op op_add_str (pe_op op_add_str (pe_op op_add_str (pe_op op_add_str (pe_op op_add_str (pe_op op_add_str (pe_ix (ix_lK (K := K)) (pv 1) pe_int (fun _ _ => rfl)) pe_str) (pe_callTy call_str_int (by rfl) T.z_str (by decide +kernel) (pa_cons (pe_ix (ix_lK (K := K)) (pv 2) pe_int (fun _ _ => rfl)) pa_nil))) pe_str) (pe_callTy call_str_int (by rfl) T.z_str (by decide +kernel) (pa_cons (pe_ix (ix_lK (K := K)) (pv 2) pe_int (fun _ _ => rfl)) pa_nil))) pe_str) (pe_ix (ix_lK (K := K)) (pv 1) pe_int (fun _ _ => rfl))))
      (pss_cons (ps_for PassesOwn.never rfl (pi_list (pe_call G__law_row (hr.mono (by decide)) rfl T.g__law_row T.f__law_row.kp T.b__law_row .nil pass0 (pa_cons (pe_call G__law_cell (hr.mono (by decide)) rfl T.g__law_cell T.f__law_cell.kp T.b__law_cell .nil pass0 (pa_cons (pv 0) (pa_cons pe_int pa_nil))) (pa_cons pe_int (pa_cons (pe_op op_mul pe_int pe_int) pa_nil))))) (pg_name (i := 4) sc__law_text.nd rfl (Or.inl rfl))
        (pss_one (ps_set (i := 3) sc__law_text.nd rfl (Or.inl rfl) (pe_call G__law_spoilt (hr.mono (by decide)) rfl T.g__law_spoilt T.f__law_spoilt.kp T.b__law_spoilt .nil pass0 (pa_cons (pv 3) (pa_cons (pv 4) pa_nil))))))
      (pss_cons (ps_set (i := 5) sc__law_text.nd rfl (Or.inl rfl) (pe_op op_modN (pe_callTy call_intI (by rfl) T.z_int (by decide +kernel) (pa_cons (pe_op op_fdivN (pe_call G__law_cell (hr.mono (by decide)) rfl T.g__law_cell T.f__law_cell.kp T.b__law_cell .nil pass0 (pa_cons (pv 0) (pa_cons pe_int pa_nil))) pe_int) pa_nil)) pe_int))
      (pss_cons (ps_set (i := 6) sc__law_text.nd rfl (Or.inl rfl) (pe_op op_modN (pe_callTy call_intI (by rfl) T.z_int (by decide +kernel) (pa_cons (pe_op op_fdivN (pe_call G__law_cell (hr.mono (by decide)) rfl T.g__law_cell T.f__law_cell.kp T.b__law_cell .nil pass0 (pa_cons (pv 0) (pa_cons pe_int pa_nil))) pe_int) pa_nil)) (pe_op op_add (pe_callB call_len (by rfl) T.z_len (by decide +kernel) (pa_cons (pv 3) pa_nil)) pe_int)))
      (pss_cons (ps_if (pt_cmpR op_eq (pv 5) pe_int (nomark _))
        (pss_one (ps_ret (pe_slice sl_str (pv 3) po_none (po_some (pv 6)))))
        pss_nil)
      (pss_cons (ps_if (pt_cmpR op_eq (pv 5) pe_int (nomark _))
        (pss_one (ps_ret (pe_slice sl_str (pv 3) (po_some (pv 6)) po_none)))
        pss_nil)
      (pss_one (ps_ret (pv 3)))))))))))), ?_⟩
    refine ⟨_, rfl, a, cs, 0, rfl, hS0, by decide, _, 2, rfl, by decide, by decide, fun H1 p zs s1 hp hp1 zl zall => ?_⟩
    refine ⟨_, rfl, a, cs, 1, rfl, hS _ s1, by decide, _, _, rfl, rfl, ⟨by decide, by decide, by decide⟩, _, 2, _, rfl, by decide, by decide, by decide, by decide, fun H2 q ns s2 hq hq2 nl nall => ?_⟩
    obtain ⟨z0, z1, rfl⟩ : ∃ z0 z1, zs = [z0, z1] := match zs, (show zs.length = 2 by omega) with | [z0, z1], _ => ⟨_, _, rfl⟩
    obtain ⟨n0, n1, rfl⟩ : ∃ n0 n1, ns = [n0, n1] := match ns, (show ns.length = 2 by omega) with | [n0, n1], _ => ⟨_, _, rfl⟩
    have s12 := Same.tr s1 s2
    refine ⟨fun σ' H' => ∃ (q' : Addr) (m0 m1 : Int), σ' = [some (.ref a), some (.ref p), some (.ref q'), none, none, none, none] ∧ Same H2 H' ∧ H' q' = some (.lst [.int m0, .int m1]) ∧ (0 ≤ m0 ∧ m0 < 10 ^ 9) ∧ (0 ≤ m1 ∧ m1 < 10 ^ 9), ?_, ?_⟩
    · refine ⟨_, rfl, a, cs, 3, rfl, hS _ s12, by decide, _, rfl, _, _, rfl, rfl, (show (2 : Int) ≠ 0 by decide), rfl, _, rfl, ?_⟩
      refine ite2 (fun _ => ?_) (fun _ => ?_)
      · refine ⟨_, rfl, q, _, _, _, rfl, rfl, SqL.of hq2, rfl, _, rfl, _, _, rfl, rfl, (show (120 : Int) ≠ 0 by decide), _, rfl, q, _, _, _, rfl, rfl, SqL.of hq2, rfl, _, rfl, _, _, rfl, rfl, (show (12 : Int) ≠ 0 by decide), (by show 2 ≤ sizeLine; decide), fun q' hq' => ?_⟩
        have h0 := fmod_in (x := n0) (b := 120) (by decide)
        have h1 := fmod_in (x := n1) (b := 12) (by decide)
        exact ⟨q', _, _, rfl, Same.new hq', upd_same, ⟨h0.1, by omega⟩, ⟨h1.1, by omega⟩⟩
      · exact ⟨q, n0, n1, rfl, fun _ _ e => e, hq2, nall n0 (by simp), nall n1 (by simp)⟩
    rintro σ' H3 ⟨q', m0, m1, rfl, s3, hq', hm0, hm1⟩
    have s123 := Same.tr s12 s3
    have hp3 := s3 _ _ (s2 _ _ hp1)
    have sm : ∀ n : Nat, n ≤ 10000 → n ≤ sizeLine := fun n h => by rw [sizeLine_eq]; omega
    obtain ⟨a0, b0⟩ := zall z0 (by simp)
    obtain ⟨a1, b1⟩ := zall z1 (by simp)
    have t0 : (toString m0 : Str).length ≤ 10 := PySem.W.KT.len_num hm0.1 (by omega)
    have t1 : (toString m1 : Str).length ≤ 10 := PySem.W.KT.len_num hm1.1 (by omega)
    have sp1 : (" " : Str).length = 1 := rfl
    have sp : Asc (" " : Str) := asc_by (by decide +kernel)
    refine ⟨_, rfl, p, _, _, _, rfl, rfl, SqL.of hp3, rfl, _, _, rfl, rfl, sm _ (by omega), _, rfl, q', _, _, _, rfl, rfl, SqL.of hq', rfl, _, rfl, num_log hm0.1 (by omega), _, _, rfl, rfl, sm _ (by rw [app_len]; omega), _, _, rfl, rfl, sm _ (by rw [app_len, app_len]; omega), ?_⟩
    refine ⟨_, rfl, q', _, _, _, rfl, rfl, SqL.of hq', rfl, _, rfl, num_log hm1.1 (by omega), _, _, rfl, rfl, sm _ (by rw [app_len, app_len, app_len]; omega), _, _, rfl, rfl, sm _ (by rw [app_len, app_len, app_len, app_len]; omega), _, rfl, p, _, _, _, rfl, rfl, SqL.of hp3, rfl, _, _, rfl, rfl, sm _ (by rw [app_len, app_len, app_len, app_len, app_len]; omega), ?_⟩
    have xa : Asc (z0 ++ " " ++ toString m0 ++ " " ++ toString m1 ++ " " ++ z1) := asc_app (asc_app (asc_app (asc_app (asc_app (asc_app a0 sp) (num_asc m0)) sp) (num_asc m1)) sp) a1
    have xl : (z0 ++ " " ++ toString m0 ++ " " ++ toString m1 ++ " " ++ z1 : Str).length + 1 ≤ 61 := by rw [app_len, app_len, app_len, app_len, app_len, app_len]; omega
    refine ⟨_, rfl, a, cs, 2, rfl, hS _ s123, by decide, _, _, rfl, rfl, .inl ⟨by decide, by decide⟩, _, 2, _, rfl, by decide, by decide, by decide, by decide, fun H4 r ms s4 hr4 hr5 ml mall => ?_⟩
    refine ⟨r, rfl, ⟨_, SqL.of hr5⟩, for_list (K := K) (a := r) (xs := ms.map V.int) (fun i σ H' => ∃ (y : Str) (v4 : Option V), σ = [some (.ref a), some (.ref p), some (.ref q'), some (.str y), v4, none, none] ∧ Same H4 H' ∧ Asc y ∧ y.length + 1 ≤ 61 * 2 ^ i) ⟨_, none, rfl, fun _ _ e => e, xa, xl⟩ (fun i σ H' _ ⟨_, _, _, e, _⟩ => SqL.of (e _ _ hr5)) ?_ ?_⟩
    · rintro i x σ H5 hx ⟨y, v4, rfl, s5, ya, yl⟩
      obtain ⟨u, hu, rfl⟩ := List.mem_map.mp (List.mem_of_getElem? hx)
      have hi : i < 2 := by
        have h := (List.getElem?_eq_some_iff.mp hx).1
        rw [List.length_map] at h
        omega
      have y1 : y.length ≤ 1000 := by
        have : 61 * 2 ^ i ≤ 61 * 2 ^ 2 := Nat.mul_le_mul_left _ (Nat.pow_le_pow_right (by decide) (by omega))
        omega
      refine ⟨_, rfl, _, rfl, y, u, rfl, ya, y1, fun y' ya' yl' => ?_⟩
      refine ⟨y', _, rfl, s5, ya', ?_⟩
      rw [Nat.pow_succ]
      omega
    · rintro σ H5 ⟨y, v4, rfl, s5, ya, yl⟩
      have hlen : (ms.map V.int).length = 2 := by rw [List.length_map]; omega
      rw [hlen] at yl
      have y1 : y.length ≤ 243 := by
        have : y.length + 1 ≤ 61 * 4 := yl
        omega
      have s05 := Same.tr s123 (Same.tr s4 s5)
      have ys : y.length ≤ sizeLine := sm _ (by omega)
      refine ⟨_, rfl, a, cs, 3, rfl, hS _ s05, by decide, _, _, rfl, rfl, ⟨by decide, by decide⟩, _, rfl, _, _, rfl, rfl, (show (8 : Int) ≠ 0 by decide), ?_⟩
      refine ⟨_, rfl, a, cs, 3, rfl, hS _ s05, by decide, _, _, rfl, rfl, ⟨by decide, by decide⟩, _, rfl, _, rfl, _, y.length, rfl, ⟨ys, rfl⟩, _, _, rfl, rfl, _, _, rfl, rfl, (by show (y.length : Int) + 1 ≠ 0; omega), ?_⟩
      have fin : ∀ lo hi, Q (.str (cutS y lo hi)) H5 := fun lo hi => hQ _ _ s05 (asc_cut ya lo hi) (Nat.le_trans (cutS_length y lo hi) (by omega))
      refine ⟨_, rfl, rfl, _, rfl, ?_⟩
      refine ite2 (fun _ => ?_) (fun _ => ?_)
      · exact ⟨_, rfl, _, rfl, _, rfl, y, rfl, ys, fin _ _⟩
      refine ⟨_, rfl, rfl, _, rfl, ?_⟩
      refine ite2 (fun _ => ?_) (fun _ => ?_)
      · exact ⟨_, rfl, _, rfl, _, rfl, y, rfl, ys, fin _ _⟩
      exact ⟨_, rfl, hQ _ y s05 ya (by omega)⟩
end
end Toy

set_option maxHeartbeats 4000000
namespace Toy
open PySem PySem.Spec PyProof.Rows L2
section
variable {P : Program} {w : World} {K : PySem.W.Frag} {mg : Str → Option Value} {base : Heap}
/-! ### names and numbers: the program's reading and the law's -/
def abcZ : Str := "abcdefghijklmnopqrstuvwxyz"
def digZ : Str := "0123456789"
def NameP (z : Str) : Prop := 1 ≤ z.length ∧ z.length ≤ 8 ∧ ∀ c ∈ z.cps.toList, c ∈ abcZ.cps.toList
def NumP (z : Str) : Prop := 1 ≤ z.length ∧ z.length ≤ 9 ∧ (∀ c ∈ z.cps.toList, c ∈ digZ.cps.toList) ∧ (z = "0" ∨ z.cps[0]? ≠ some 48)
instance (z : Str) : Decidable (NameP z) := inferInstanceAs (Decidable (_ ∧ _ ∧ _))
instance (z : Str) : Decidable (NumP z) := inferInstanceAs (Decidable (_ ∧ _ ∧ _ ∧ _))
theorem len0 {z : Str} (h : z.length = 0) : z = "" := by
  obtain ⟨c⟩ := z
  have h' : c.size = 0 := h
  have e : c = #[] := Array.eq_empty_of_size_eq_zero h'
  rw [e]
  rfl
theorem all_at {z : Str} {S : List Nat} (h : ∀ j, j < z.cps.size → ∀ c, z.cps[j]? = some c → c ∈ S) : ∀ c ∈ z.cps.toList, c ∈ S := fun c hc => by
  obtain ⟨j, hj, e⟩ := List.getElem_of_mem hc
  have hj' : j < z.cps.size := by simpa using hj
  refine h j hj' c ?_
  rw [Array.getElem?_eq_getElem hj', ← e]
  simp
theorem at_mem {z : Str} {j c : Nat} (h : z.cps[j]? = some c) : c ∈ z.cps.toList := by
  obtain ⟨q, e⟩ := Array.getElem?_eq_some_iff.mp h
  rw [← e, Array.mem_toList_iff]
  exact Array.getElem_mem q
def spName : Sp := fun vs H Q _ => ∃ z : Str, vs = [.str z] ∧ z.length ≤ 10000 ∧ Asc z ∧ ∀ H', Same H H' → Q (.bl (decide (NameP z))) H'
def spNum : Sp := fun vs H Q _ => ∃ z : Str, vs = [.str z] ∧ z.length ≤ 10000 ∧ Asc z ∧ ∀ H', Same H H' → Q (.bl (decide (NumP z))) H'
theorem ok_is_name (T : Tx P K mg) : FnOk P w K mg base CX0 1 (He.fAd K ("is_name", none)) T.fd_is_name ["word"] spName := by
  refine ok0 T.f_is_name sc_is_name (fun vs H Q E h => ?_) (fun cdv A outer s H vs Q E hr h => ?_)
  · obtain ⟨z, rfl, _⟩ := h
    rfl
  · obtain ⟨z, rfl, zl, za, hQ⟩ := h
    refine ⟨_, (pss_cons (ps_if (PW.pt (pw_or (pt_cmpR op_eq (pv 0) pe_str (nomark _)) (pw_or1 (pt_cmpR op_gt (pe_callB call_len (by rfl) T.z_len (by decide +kernel) (pa_cons (pv 0) pa_nil)) (pe_gint T.g_LONGEST_NAME) (nomark _)))))
        (pss_one (ps_ret pe_bl))
        pss_nil)
      (pss_cons (ps_for PassesOwn.never rfl (pi_str (pv 0)) (pg_name (i := 1) sc_is_name.nd rfl (Or.inl rfl))
        (pss_one (ps_if (pt_cmpR op_notIn_sign (pv 1) (pe_gstr T.g_SMALL) rfl)
         (pss_one (ps_ret pe_bl))
         pss_nil)))
      (pss_one (ps_ret pe_bl)))), ?_⟩
    have zs : z.length ≤ sizeLine := by rw [sizeLine_eq]; omega
    have yes : NameP z → Q (.bl true) H := fun h => by have q := hQ H (fun _ _ e => e); rwa [decide_eq_true h] at q
    have no : ¬ NameP z → Q (.bl false) H := fun h => by have q := hQ H (fun _ _ e => e); rwa [decide_eq_false h] at q
    refine ⟨_, rfl, rfl, _, rfl, ?_⟩
    refine ite2 (fun h => ?_) (fun h0 => ?_)
    · have e : z = "" := by simpa using h
      exact no fun h => by rw [e] at h; exact absurd h.1 (by decide)
    have zp : 1 ≤ z.length := by
      rcases Nat.eq_zero_or_pos z.length with e | e
      · exact absurd (by simp [len0 e]) h0
      · exact e
    refine ⟨_, rfl, _, z.length, rfl, ⟨zs, rfl⟩, _, _, rfl, rfl, _, rfl, ?_⟩
    refine ite2 (fun h => ?_) (fun h => ?_)
    · exact no fun q => by
        have h' : (z.length : Int) > 8 := by simpa using h
        have := q.2.1
        omega
    have z8 : z.length ≤ 8 := by
      have h' : ¬ (z.length : Int) > 8 := by simpa using h
      omega
    refine ⟨_, rfl, z, rfl, for_it walk_str (fun i σ H' => ∃ v1, σ = [some (.str z), v1] ∧ H' = H ∧ ∀ j, j < i → ∀ c, z.cps[j]? = some c → c ∈ abcZ.cps.toList) ⟨none, rfl, rfl, fun _ h => absurd h (by omega)⟩ (fun _ _ _ _ _ => trivial) ?_ ?_⟩
    · rintro i x σ H1 H2 hi ⟨v1, rfl, rfl, hall⟩ ⟨rfl, c, hc, rfl⟩
      refine ⟨_, rfl, c, abcZ, rfl, rfl, _, rfl, ?_⟩
      refine ite2 (fun h => ?_) (fun h => ?_)
      · exact no fun q => by
          have h' : ¬ c ∈ abcZ.cps.toList := by simpa using h
          exact h' (q.2.2 c (at_mem hc))
      · refine ⟨_, rfl, rfl, fun j hj d hd => ?_⟩
        by_cases e : j = i
        · subst e
          rw [hc] at hd
          cases hd
          simpa using h
        · exact hall j (by omega) d hd
    · rintro σ H1 ⟨v1, rfl, rfl, hall⟩
      exact yes ⟨zp, z8, all_at hall⟩
theorem ok_is_number (T : Tx P K mg) : FnOk P w K mg base CX0 1 (He.fAd K ("is_number", none)) T.fd_is_number ["word"] spNum := by
  refine ok0 T.f_is_number sc_is_number (fun vs H Q E h => ?_) (fun cdv A outer s H vs Q E hr h => ?_)
  · obtain ⟨z, rfl, _⟩ := h
    rfl
  · obtain ⟨z, rfl, zl, za, hQ⟩ := h
    refine ⟨_, (pss_cons (ps_if (PW.pt (pw_or (pt_cmpR op_eq (pv 0) pe_str (nomark _)) (pw_or1 (pt_cmpR op_gt (pe_callB call_len (by rfl) T.z_len (by decide +kernel) (pa_cons (pv 0) pa_nil)) (pe_gint T.g_MOST_DIGITS) (nomark _)))))
        (pss_one (ps_ret pe_bl))
        pss_nil)
      (pss_cons (ps_for PassesOwn.never rfl (pi_str (pv 0)) (pg_name (i := 1) sc_is_number.nd rfl (Or.inl rfl))
        (pss_one (ps_if (pt_cmpR op_notIn_sign (pv 1) (pe_gstr T.g_DIGITS) rfl)
         (pss_one (ps_ret pe_bl))
         pss_nil)))
      (pss_one (ps_ret (pe_or (pe_cmpR op_eq (pv 0) pe_str (nomark _)) (pe_one (pe_cmpR op_ne (pe_item_str (pv 0) pe_int (fun _ _ => rfl)) pe_str (nomark _)))))))), ?_⟩
    have zs : z.length ≤ sizeLine := by rw [sizeLine_eq]; omega
    have yes : NumP z → Q (.bl true) H := fun h => by have q := hQ H (fun _ _ e => e); rwa [decide_eq_true h] at q
    have no : ¬ NumP z → Q (.bl false) H := fun h => by have q := hQ H (fun _ _ e => e); rwa [decide_eq_false h] at q
    refine ⟨_, rfl, rfl, _, rfl, ?_⟩
    refine ite2 (fun h => ?_) (fun h0 => ?_)
    · have e : z = "" := by simpa using h
      exact no fun h => by rw [e] at h; exact absurd h.1 (by decide)
    have zp : 1 ≤ z.length := by
      rcases Nat.eq_zero_or_pos z.length with e | e
      · exact absurd (by simp [len0 e]) h0
      · exact e
    refine ⟨_, rfl, _, z.length, rfl, ⟨zs, rfl⟩, _, _, rfl, rfl, _, rfl, ?_⟩
    refine ite2 (fun h => ?_) (fun h => ?_)
    · exact no fun q => by
        have h' : (z.length : Int) > 9 := by simpa using h
        have := q.2.1
        omega
    have z8 : z.length ≤ 9 := by
      have h' : ¬ (z.length : Int) > 9 := by simpa using h
      omega
    refine ⟨_, rfl, z, rfl, for_it walk_str (fun i σ H' => ∃ v1, σ = [some (.str z), v1] ∧ H' = H ∧ ∀ j, j < i → ∀ c, z.cps[j]? = some c → c ∈ digZ.cps.toList) ⟨none, rfl, rfl, fun _ h => absurd h (by omega)⟩ (fun _ _ _ _ _ => trivial) ?_ ?_⟩
    · rintro i x σ H1 H2 hi ⟨v1, rfl, rfl, hall⟩ ⟨rfl, c, hc, rfl⟩
      refine ⟨_, rfl, c, digZ, rfl, rfl, _, rfl, ?_⟩
      refine ite2 (fun h => ?_) (fun h => ?_)
      · exact no fun q => by
          have h' : ¬ c ∈ digZ.cps.toList := by simpa using h
          exact h' (q.2.2.1 c (at_mem hc))
      · refine ⟨_, rfl, rfl, fun j hj d hd => ?_⟩
        by_cases e : j = i
        · subst e
          rw [hc] at hd
          cases hd
          simpa using h
        · exact hall j (by omega) d hd
    · rintro σ H1 ⟨v1, rfl, rfl, hall⟩
      obtain ⟨c0, hc0⟩ := sign_at (z := z) (i := 0) (by decide) (by omega)
      have fst : z = "0" ∨ z.cps[0]? ≠ some 48 → Q (.bl true) H1 := fun h => yes ⟨zp, z8, all_at hall, h⟩
      have lst : ¬ (z = "0" ∨ z.cps[0]? ≠ some 48) → Q (.bl false) H1 := fun h => no fun q => h q.2.2.2
      refine ⟨_, rfl, rfl, _, rfl, ?_⟩
      refine ite2 (fun h => ?_) (fun h => ?_)
      · exact fst (.inl (by simpa using h))
      · refine ⟨_, rfl, z, _, c0, rfl, rfl, (by decide), (by decide), (by show (0 : Int) < (z.length : Int); omega), hc0, rfl, ?_⟩
        have zn : z ≠ "0" := by simpa using h
        have e : (!decide (V.str ⟨#[c0]⟩ = V.str "0")) = decide (z = "0" ∨ z.cps[0]? ≠ some 48) := by
          have hc1 : z.cps[0]? = some c0 := hc0
          rw [hc1]
          by_cases e0 : c0 = 48
          · subst e0
            have : (V.str ⟨#[48]⟩ = V.str "0") := rfl
            simp [this, zn]
          · have : ¬ (V.str ⟨#[c0]⟩ = V.str "0") := fun q => e0 (by injection q with q; injection q with q; have q' : (#[c0] : Array Nat) = #[48] := q; simpa using q')
            simp [this, e0]
        show Q (.bl (!decide (V.str ⟨#[c0]⟩ = V.str "0"))) H1
        rw [e]
        by_cases hz : z = "0" ∨ z.cps[0]? ≠ some 48
        · rw [decide_eq_true hz]
          exact fst hz
        · rw [decide_eq_false hz]
          exact lst hz
/-- the law's own readings -/
theorem dp_sel {H : Hp} {p : Addr} {acc : List Str} (h : H p = some (.lst (acc.map V.str))) : Dp K H (.ref p) (.list (acc.map PyData.str)) := .lst (SqL.of h) (dp_strs acc)
theorem eqv_nil (acc : List Str) : PyData.eqv (.list (acc.map PyData.str)) (.list []) = decide (acc = []) := by
  cases acc with
  | nil => rfl
  | cons a r => rfl
theorem ok__law_is_name (T : Tx P K mg) : FnOk P w K mg base CX0 1 (He.fAd K ("_law_is_name", none)) T.fd__law_is_name ["word"] spName := by
  refine ok0 T.f__law_is_name sc__law_is_name (fun vs H Q E h => ?_) (fun cdv A outer s H vs Q E hr h => ?_)
  · obtain ⟨z, rfl, _⟩ := h
    rfl
  · obtain ⟨z, rfl, zl, za, hQ⟩ := h
    refine ⟨_, (pss_cons (ps_set (i := 1) sc__law_is_name.nd rfl (Or.inr rfl) pe_str)
      (pss_one (ps_ret (pe_and (pe_cmpR op_le pe_int (pe_callB call_len (by rfl) T.z_len (by decide +kernel) (pa_cons (pv 0) pa_nil)) (nomark _)) (pe_and (pe_cmpR op_le (pe_callB call_len (by rfl) T.z_len (by decide +kernel) (pa_cons (pv 0) pa_nil)) pe_int (nomark _)) (pe_one (pe_cmpR (op_eqD hr.units) (pe_lc (own := [("sign", 2)]) (g := gName 2) rfl sc__law_is_name.nd (pi_str (pv 0)) (blkOk_by (own := [("sign", 2)]) (N := ["word", "letters", "sign"]) (sc := defScope s__law_is_name) (by decide +kernel)) (fun _ _ _ _ _ => (pg_name (i := 2) sc__law_is_name.nd rfl (Or.inl rfl))) (fun _ _ _ _ _ => (pts_one (pt_cmpR op_notIn_sign (pv 2) (pv 1) rfl))) (fun _ _ _ _ _ => (pv 2))) (pe_lst pa_nil) (nomark _)))))))), ?_⟩
    have zs : z.length ≤ sizeLine := by rw [sizeLine_eq]; omega
    have no : ¬ NameP z → Q (.bl false) H := fun h => by have q := hQ H (fun _ _ e => e); rwa [decide_eq_false h] at q
    refine ⟨_, rfl, _, z.length, rfl, ⟨zs, rfl⟩, _, _, rfl, rfl, _, rfl, ?_⟩
    refine ite2 (fun h1 => ?_) (fun h1 => ?_)
    · refine ⟨_, rfl, _, z.length, rfl, ⟨zs, rfl⟩, _, _, rfl, rfl, _, rfl, ?_⟩
      refine ite2 (fun h2 => ?_) (fun h2 => ?_)
      · have zp : 1 ≤ z.length := by
          have h' : (1 : Int) ≤ (z.length : Int) := by simpa using h1
          omega
        have z8 : z.length ≤ 8 := by
          have h' : (z.length : Int) ≤ 8 := by simpa using h2
          omega
        refine ⟨_, rfl, z, rfl, fun D hD => ?_⟩
        refine lc_it walk_str (fun i H' => ∃ acc : List Str, H' D = some (.lst (acc.map V.str)) ∧ Same H H' ∧ acc.length ≤ i ∧ (∀ y ∈ acc, Asc y) ∧ (acc = [] ↔ ∀ j, j < i → ∀ c, z.cps[j]? = some c → c ∈ abcZ.cps.toList)) ⟨[], upd_same, Same.new hD, Nat.le_refl 0, List.forall_mem_nil _, Iff.intro (fun _ j hj => absurd hj (by omega)) fun _ => rfl⟩ (fun _ _ _ _ => trivial) ?_ ?_
        · rintro i x H1 H2 hi ⟨acc, hacc, sm, hlen, hasc, hiff⟩ ⟨rfl, c, hc, rfl⟩
          refine ⟨rfl, _, rfl, _, rfl, c, abcZ, rfl, rfl, _, rfl, ?_⟩
          have zi : i < z.length := hi
          refine ite2 (fun h => ?_) (fun h => ?_)
          · have h' : ¬ c ∈ abcZ.cps.toList := by simpa using h
            refine ⟨_, rfl, acc.map V.str, hacc, (by rw [List.length_map, sizeLine_eq]; omega), acc ++ [⟨#[c]⟩], ?_, Same.mut sm hD, (by simp; omega), ?_, ?_⟩
            · rw [upd_same, List.map_append]
              rfl
            · intro y hy
              rcases List.mem_append.mp hy with hy | hy
              · exact hasc y hy
              · rw [List.mem_singleton.mp hy]
                exact asc_at za hc
            · exact Iff.intro (fun e => absurd e (by simp)) fun q => absurd (q i (by omega) c hc) h'
          · have h' : c ∈ abcZ.cps.toList := by simpa using h
            refine ⟨acc, hacc, sm, by omega, hasc, hiff.trans (Iff.intro (fun q j hj d hd => ?_) fun q j hj => q j (by omega))⟩
            by_cases e : j = i
            · subst e
              rw [hc] at hd
              cases hd
              exact h'
            · exact q j (by omega) d hd
        · rintro H1 ⟨acc, hacc, sm, hlen, hasc, hiff⟩
          refine ⟨Nat.zero_le _, fun F hF => ?_⟩
          refine ⟨_, _, dp_sel ((Same.new hF) _ _ hacc), .lst (SqL.of upd_same) .nil, shaped_strs hasc, (by decide), ?_⟩
          rw [eqv_nil]
          have key : decide (acc = []) = decide (NameP z) := by
            refine decide_eq_decide.mpr (hiff.trans (Iff.intro (fun q => ⟨zp, z8, all_at q⟩) fun q j hj c hc => q.2.2 c (at_mem hc)))
          rw [key]
          exact hQ _ (Same.tr sm (Same.new hF))
      · exact no fun q => by
          have h' : ¬ (z.length : Int) ≤ 8 := by simpa using h2
          have := q.2.1
          omega
    · exact no fun q => by
        have h' : ¬ (1 : Int) ≤ (z.length : Int) := by simpa using h1
        have := q.1
        omega
theorem ok__law_is_number (T : Tx P K mg) : FnOk P w K mg base CX0 1 (He.fAd K ("_law_is_number", none)) T.fd__law_is_number ["word"] spNum := by
  refine ok0 T.f__law_is_number sc__law_is_number (fun vs H Q E h => ?_) (fun cdv A outer s H vs Q E hr h => ?_)
  · obtain ⟨z, rfl, _⟩ := h
    rfl
  · obtain ⟨z, rfl, zl, za, hQ⟩ := h
    refine ⟨_, (pss_cons (ps_if (PW.pt (pw_or (pt_cmpR op_lt (pe_callB call_len (by rfl) T.z_len (by decide +kernel) (pa_cons (pv 0) pa_nil)) pe_int (nomark _)) (pw_or (pt_cmpR op_gt (pe_callB call_len (by rfl) T.z_len (by decide +kernel) (pa_cons (pv 0) pa_nil)) pe_int (nomark _)) (pw_or1 (pt_cmpR (op_neD hr.units) (pe_lc (own := [("sign", 1)]) (g := gName 1) rfl sc__law_is_number.nd (pi_str (pv 0)) (blkOk_by (own := [("sign", 1)]) (N := ["word", "sign"]) (sc := defScope s__law_is_number) (by decide +kernel)) (fun _ _ _ _ _ => (pg_name (i := 1) sc__law_is_number.nd rfl (Or.inl rfl))) (fun _ _ _ _ _ => (pts_one (pt_cmpR op_notIn_sign (pv 1) pe_str rfl))) (fun _ _ _ _ _ => (pv 1))) (pe_lst pa_nil) (nomark _))))))
        (pss_one (ps_ret pe_bl))
        pss_nil)
      (pss_one (ps_ret (pe_or (pe_cmpR op_eq (pv 0) pe_str (nomark _)) (pe_one (pe_cmpR op_ne (pe_item_str (pv 0) pe_int (fun _ _ => rfl)) pe_str (nomark _))))))), ?_⟩
    have zs : z.length ≤ sizeLine := by rw [sizeLine_eq]; omega
    have nos : ∀ H', Same H H' → ¬ NumP z → Q (.bl false) H' := fun H' s h => by have q := hQ H' s; rwa [decide_eq_false h] at q
    have no : ¬ NumP z → Q (.bl false) H := nos H (fun _ _ e => e)
    refine ⟨_, rfl, _, z.length, rfl, ⟨zs, rfl⟩, _, _, rfl, rfl, _, rfl, ?_⟩
    refine ite2 (fun h1 => ?_) (fun h1 => ?_)
    · exact no fun q => by
        have h' : (z.length : Int) < 1 := by simpa using h1
        have := q.1
        omega
    have zp : 1 ≤ z.length := by
      have h' : ¬ (z.length : Int) < 1 := by simpa using h1
      omega
    refine ⟨_, rfl, _, z.length, rfl, ⟨zs, rfl⟩, _, _, rfl, rfl, _, rfl, ?_⟩
    refine ite2 (fun h2 => ?_) (fun h2 => ?_)
    · exact no fun q => by
        have h' : (z.length : Int) > 9 := by simpa using h2
        have := q.2.1
        omega
    have z8 : z.length ≤ 9 := by
      have h' : ¬ (z.length : Int) > 9 := by simpa using h2
      omega
    refine ⟨_, rfl, z, rfl, fun D hD => ?_⟩
    refine lc_it walk_str (fun i H' => ∃ acc : List Str, H' D = some (.lst (acc.map V.str)) ∧ Same H H' ∧ acc.length ≤ i ∧ (∀ y ∈ acc, Asc y) ∧ (acc = [] ↔ ∀ j, j < i → ∀ c, z.cps[j]? = some c → c ∈ digZ.cps.toList)) ⟨[], upd_same, Same.new hD, Nat.le_refl 0, List.forall_mem_nil _, Iff.intro (fun _ j hj => absurd hj (by omega)) fun _ => rfl⟩ (fun _ _ _ _ => trivial) ?_ ?_
    · rintro i x H1 H2 hi ⟨acc, hacc, sm, hlen, hasc, hiff⟩ ⟨rfl, c, hc, rfl⟩
      refine ⟨rfl, _, rfl, c, digZ, rfl, rfl, _, rfl, ?_⟩
      have zi : i < z.length := hi
      refine ite2 (fun h => ?_) (fun h => ?_)
      · have h' : ¬ c ∈ digZ.cps.toList := by simpa using h
        refine ⟨_, rfl, acc.map V.str, hacc, (by rw [List.length_map, sizeLine_eq]; omega), acc ++ [⟨#[c]⟩], ?_, Same.mut sm hD, (by simp; omega), ?_, ?_⟩
        · rw [upd_same, List.map_append]
          rfl
        · intro y hy
          rcases List.mem_append.mp hy with hy | hy
          · exact hasc y hy
          · rw [List.mem_singleton.mp hy]
            exact asc_at za hc
        · exact Iff.intro (fun e => absurd e (by simp)) fun q => absurd (q i (by omega) c hc) h'
      · have h' : c ∈ digZ.cps.toList := by simpa using h
        refine ⟨acc, hacc, sm, by omega, hasc, hiff.trans (Iff.intro (fun q j hj d hd => ?_) fun q j hj => q j (by omega))⟩
        by_cases e : j = i
        · subst e
          rw [hc] at hd
          cases hd
          exact h'
        · exact q j (by omega) d hd
    · rintro H1' ⟨acc, hacc, sm, hlen, hasc, hiff⟩
      refine ⟨Nat.zero_le _, fun F hF => ?_⟩
      refine ⟨_, _, dp_sel ((Same.new hF) _ _ hacc), .lst (SqL.of upd_same) .nil, shaped_strs hasc, (by decide), ?_⟩
      rw [eqv_nil]
      have sF := Same.tr sm (Same.new (o := .lst []) hF)
      generalize upd H1' F (.lst []) = H1 at *
      have no := nos H1 sF
      have yes : NumP z → Q (.bl true) H1 := fun h => by have q := hQ H1 sF; rwa [decide_eq_true h] at q
      refine ⟨_, rfl, ?_⟩
      refine ite2 (fun h3 => ?_) (fun h3 => ?_)
      · exact no fun q => by
          have h' : ¬ acc = [] := by simpa using h3
          exact h' (hiff.mpr fun j hj c hc => q.2.2.1 c (at_mem hc))
      have e3 : acc = [] := by simpa using h3
      have hall := hiff.mp e3
      obtain ⟨c0, hc0⟩ := sign_at (z := z) (i := 0) (by decide) (by omega)
      have fst : z = "0" ∨ z.cps[0]? ≠ some 48 → Q (.bl true) H1 := fun h => yes ⟨zp, z8, all_at hall, h⟩
      have lst : ¬ (z = "0" ∨ z.cps[0]? ≠ some 48) → Q (.bl false) H1 := fun h => no fun q => h q.2.2.2
      refine ⟨_, rfl, rfl, _, rfl, ?_⟩
      refine ite2 (fun h => ?_) (fun h => ?_)
      · exact fst (.inl (by simpa using h))
      · refine ⟨_, rfl, z, _, c0, rfl, rfl, (by decide), (by decide), (by show (0 : Int) < (z.length : Int); omega), hc0, rfl, ?_⟩
        have zn : z ≠ "0" := by simpa using h
        have e : (!decide (V.str ⟨#[c0]⟩ = V.str "0")) = decide (z = "0" ∨ z.cps[0]? ≠ some 48) := by
          have hc1 : z.cps[0]? = some c0 := hc0
          rw [hc1]
          by_cases e0 : c0 = 48
          · subst e0
            have : (V.str ⟨#[48]⟩ = V.str "0") := rfl
            simp [this, zn]
          · have : ¬ (V.str ⟨#[c0]⟩ = V.str "0") := fun q => e0 (by injection q with q; injection q with q; have q' : (#[c0] : Array Nat) = #[48] := q; simpa using q')
            simp [this, e0]
        show Q (.bl (!decide (V.str ⟨#[c0]⟩ = V.str "0"))) H1
        rw [e]
        by_cases hz : z = "0" ∨ z.cps[0]? ≠ some 48
        · rw [decide_eq_true hz]
          exact fst hz
        · rw [decide_eq_false hz]
          exact lst hz
end
end Toy

set_option maxHeartbeats 4000000
namespace Toy
open PySem PySem.Spec PyProof.Rows L2
section
variable {P : Program} {w : World} {K : PySem.W.Frag} {mg : Str → Option Value} {base : Heap}
/-! ### marks, written and read -/
def spBytes : Sp := fun vs H Q _ => ∃ z : Str, vs = [.str z] ∧ Asc z ∧ z.length ≤ 10000 ∧ ∀ b, PySem.W.KBw.bInts b = PySem.W.KSb.codes z → Q (.byt b) H
theorem ok_as_bytes (T : Tx P K mg) : FnOk P w K mg base CX0 1 (He.fAd K ("as_bytes", none)) T.fd_as_bytes ["text"] spBytes := by
  refine ok0 T.f_as_bytes sc_as_bytes (fun vs H Q E h => ?_) (fun cdv A outer s H vs Q E hr h => ?_)
  · obtain ⟨z, rfl, _⟩ := h
    rfl
  · obtain ⟨z, rfl, za, zl, hQ⟩ := h
    refine ⟨_, (pss_one (ps_ret (pe_encA (pv 0)))), ?_⟩
    exact ⟨_, rfl, rfl, z, rfl, rfl, za, by omega, fun c hc => hQ c hc⟩
def spPut (K : PySem.W.Frag) (f : Str) : Sp := fun vs H Q _ => ∃ (x C dx : Addr) (fs : List (Str × V)) (v : V), vs = [.ref x, v] ∧ H x = some (.ins C dx fs) ∧ Cls K C ∧ NoAttr K C f ∧ fs.length < 1000 ∧ Q .non (upd H x (.ins C dx (putF f v fs)))
theorem ok_Numbered___init__ (T : Tx P K mg) : FnOk P w K mg base CX0 1 (He.fAd K ("Numbered", some "__init__")) T.fd_Numbered___init__ ["self", "giving"] (spPut K "giving") := by
  refine ok0 T.f_Numbered___init__ sc_Numbered___init__ (fun vs H Q E h => ?_) (fun cdv A outer s H vs Q E hr h => ?_)
  · obtain ⟨x, C, dx, fs, v, rfl, _⟩ := h
    rfl
  · obtain ⟨x, C, dx, fs, v, rfl, hx, c, n, hl, hQ⟩ := h
    refine ⟨_, (pss_one (ps_fld (pv 0) (pv 1) rfl)), ?_⟩
    exact ⟨_, rfl, _, rfl, x, C, dx, _, rfl, hx, c, n, hl, hQ⟩
theorem ok_Named___init__ (T : Tx P K mg) : FnOk P w K mg base CX0 1 (He.fAd K ("Named", some "__init__")) T.fd_Named___init__ ["self", "name"] (spPut K "name") := by
  refine ok0 T.f_Named___init__ sc_Named___init__ (fun vs H Q E h => ?_) (fun cdv A outer s H vs Q E hr h => ?_)
  · obtain ⟨x, C, dx, fs, v, rfl, _⟩ := h
    rfl
  · obtain ⟨x, C, dx, fs, v, rfl, hx, c, n, hl, hQ⟩ := h
    refine ⟨_, (pss_one (ps_fld (pv 0) (pv 1) rfl)), ?_⟩
    exact ⟨_, rfl, _, rfl, x, C, dx, _, rfl, hx, c, n, hl, hQ⟩
def markFs (l r g n : V) : List (Str × V) := [("giving", g), ("name", n), ("lane", l), ("row", r)]
def spMark (K : PySem.W.Frag) : Sp := fun vs H Q _ => ∃ (x dx : Addr) (l r g n : V), vs = [.ref x, l, r, g, n] ∧ H x = some (.ins (He.ga K "Mark") dx []) ∧ ∀ H', (∀ p o, p ≠ x → H p = some o → H' p = some o) → H' x = some (.ins (He.ga K "Mark") dx (markFs l r g n)) → Q .non H'
theorem ok_Mark (T : Tx P K mg) : FnOk P w K mg base CX0 2 (He.fAd K ("Mark", some "__init__")) T.fd_Mark___init__ ["self", "lane", "row", "giving", "name"] (spMark K) := by
  have G_Numbered___init__ : FnOk P w K mg base CX0 1 _ _ _ _ := ok_Numbered___init__ T
  have G_Named___init__ : FnOk P w K mg base CX0 1 _ _ _ _ := ok_Named___init__ T
  refine ok0 T.f_Mark___init__ sc_Mark___init__ (fun vs H Q E h => ?_) (fun cdv A outer s H vs Q E hr h => ?_)
  · obtain ⟨x, dx, l, r, g, n, rfl, _⟩ := h
    rfl
  · obtain ⟨x, dx, l, r, g, n, rfl, hx, hQ⟩ := h
    refine ⟨_, (pss_cons (ps_expr (pe_clsM (pe_gref T.g_Numbered) T.r_Numbered T.v_Numbered G_Numbered___init__ (hr.mono (by decide)) T.f_Numbered___init__.kp T.b_Numbered___init__ .nil pass0 (pa_cons (pv 0) (pa_cons (pv 3) pa_nil))))
      (pss_cons (ps_expr (pe_clsM (pe_gref T.g_Named) T.r_Named T.v_Named G_Named___init__ (hr.mono (by decide)) T.f_Named___init__.kp T.b_Named___init__ .nil pass0 (pa_cons (pv 0) (pa_cons (pv 4) pa_nil))))
      (pss_cons (ps_fld (pv 0) (pv 1) rfl)
      (pss_one (ps_fld (pv 0) (pv 2) rfl))))), ?_⟩
    refine ⟨rfl, _, rfl, _, rfl, x, _, dx, _, _, rfl, hx, T.c_Mark, T.n_Mark_giving, (by decide), ?_⟩
    refine ⟨rfl, _, rfl, _, rfl, x, _, dx, _, _, rfl, upd_same, T.c_Mark, T.n_Mark_name, Nat.lt_of_le_of_lt (putF_le (Nat.le_refl 0)) (by decide), ?_⟩
    refine ⟨_, rfl, _, rfl, x, _, dx, _, rfl, upd_same, T.c_Mark, T.n_Mark_lane, Nat.lt_of_le_of_lt (putF_le (putF_le (Nat.le_refl 0))) (by decide), ?_⟩
    refine ⟨_, rfl, _, rfl, x, _, dx, _, rfl, upd_same, T.c_Mark, T.n_Mark_row, Nat.lt_of_le_of_lt (putF_le (putF_le (putF_le (Nat.le_refl 0)))) (by decide), ?_⟩
    refine hQ _ (fun p o n e => ?_) ?_
    · rw [upd_ne n, upd_ne n, upd_ne n, upd_ne n]
      exact e
    · rw [upd_same]
      kernel_rfl
def valI (z : Str) : Int := ((NumText.digitsVal z.cps.toList : Nat) : Int)
def MarkOk (z : Str) : Prop := ∃ l r g n, Txt.split z " " = [l, r, g, n] ∧ NameP l ∧ NumP r ∧ NumP g ∧ NameP n
theorem str_ext {a b : Str} (h : a.cps.toList = b.cps.toList) : a = b := by
  obtain ⟨a⟩ := a
  obtain ⟨b⟩ := b
  have h' : a.toList = b.toList := h
  rw [Array.toList_inj.mp h']
theorem app_list (a b : Str) : (a ++ b).cps.toList = a.cps.toList ++ b.cps.toList := by
  show (a.cps ++ b.cps).toList = _
  rw [Array.toList_append]
theorem split4 {z l r g n : Str} (h : Txt.split z " " = [l, r, g, n]) : l ++ " " ++ r ++ " " ++ g ++ " " ++ n = z := by
  have e := StrLaws.join_split z " "
  rw [h] at e
  have e' : l ++ " " ++ (r ++ " " ++ (g ++ " " ++ n)) = z := e
  rw [← e']
  refine str_ext ?_
  simp only [app_list, List.append_assoc]
theorem dig_all {z : Str} (h : NumP z) : NumText.AllDigits z.cps.toList := fun c hc => by
  have key : ∀ c ∈ digZ.cps.toList, 48 ≤ c ∧ c ≤ 57 := by decide +kernel
  exact key c (h.2.2.1 c hc)
theorem num_ne {z : Str} (h : NumP z) : z.cps.toList ≠ [] := fun e => by
  have hl : z.length = 0 := by
    show z.cps.size = 0
    rw [← Array.length_toList, e]
    rfl
  have := h.1
  omega
theorem int_of {z : Str} (h : NumP z) : PySem.intText? z = some (valI z) := intText_digits (dig_all h) (num_ne h) (Nat.le_trans h.2.1 (by decide))
theorem fold_lt : ∀ (cs : List Nat) (a : Nat), NumText.AllDigits cs → cs.foldl (fun acc c => acc * 10 + (c - 48)) a < (a + 1) * 10 ^ cs.length
  | [], a, _ => by simp
  | c :: r, a, h => by
    have hc := h c (by simp)
    have ih := fold_lt r (a * 10 + (c - 48)) fun d hd => h d (by simp [hd])
    have le : (a * 10 + (c - 48) + 1) * 10 ^ r.length ≤ ((a + 1) * 10) * 10 ^ r.length := Nat.mul_le_mul_right _ (by omega)
    rw [List.foldl_cons, List.length_cons, Nat.pow_succ, Nat.mul_comm (10 ^ r.length) 10, ← Nat.mul_assoc]
    exact Nat.lt_of_lt_of_le ih le
theorem val_in {z : Str} (h : NumP z) : 0 ≤ valI z ∧ valI z < 10 ^ 9 := by
  have l := fold_lt z.cps.toList 0 (dig_all h)
  have l2 : (10 : Nat) ^ z.cps.toList.length ≤ 10 ^ 9 := Nat.pow_le_pow_right (by decide) (by rw [Array.length_toList]; exact h.2.1)
  unfold valI NumText.digitsVal
  omega
theorem back_of {z : Str} (h : NumP z) : (toString (valI z) : Str) = z := by
  refine str_ext ?_
  show (PySem.Str.ofString (toString ((NumText.digitsVal z.cps.toList : Nat) : Int))).cps.toList = _
  rw [PySem.W.KIN.signs_num]
  have hd := dig_all h
  have back : ∀ cs : List Nat, NumText.AllDigits cs → (cs.map Char.ofNat).map Char.toNat = cs := fun cs ha => by
    rw [List.map_map]
    have e : ∀ c ∈ cs, (Char.toNat ∘ Char.ofNat) c = c := fun c hc => by
      have r := ha c hc
      have key : ∀ c : Nat, c < 58 → (Char.ofNat c).toNat = c := by decide
      exact key c (by omega)
    rw [List.map_congr_left e]
    simp
  have key : Nat.toDigits 10 (NumText.digitsVal z.cps.toList) = z.cps.toList.map Char.ofNat := by
    obtain ⟨n, hn⟩ : ∃ n, z.cps.toList.length = n + 1 := ⟨z.length - 1, by have := h.1; rw [Array.length_toList]; show z.length = _; omega⟩
    refine NumText.toDigits_digitsVal n z.cps.toList hn hd ?_
    rcases h.2.2.2 with e | e
    · left
      rw [e] at hn
      have : (1 : Nat) = n + 1 := hn
      omega
    · right
      cases q : z.cps.toList with
      | nil => exact absurd q (num_ne h)
      | cons c r =>
        refine ⟨c, r, rfl, ?_⟩
        have hc := hd c (by rw [q]; simp)
        have e2 : z.cps[0]? = some c := by
          rw [← Array.getElem?_toList, q]
          rfl
        rw [e2] at e
        have : c ≠ 48 := fun x => e (by rw [x])
        omega
  rw [key, back _ hd]
theorem sg_of {b : Array UInt8} {z : Str} (h : PySem.W.KBw.bInts b = PySem.W.KSb.codes z) : Dec.sg b = z := by
  refine str_ext ?_
  show ((b.toList.map UInt8.toNat).toArray).toList = _
  have h' : (b.toList.map UInt8.toNat).map (fun c : Nat => (c : Int)) = z.cps.toList.map (fun c : Nat => (c : Int)) := by
    rw [List.map_map]
    exact h
  have k : ∀ l : List Nat, (l.map fun c : Nat => (c : Int)).map Int.toNat = l := fun l => by
    rw [List.map_map]
    have e : ∀ c ∈ l, (Int.toNat ∘ fun c : Nat => (c : Int)) c = c := fun c _ => by simp
    rw [List.map_congr_left e]
    simp
  have h2 := congrArg (List.map Int.toNat) h'
  rw [k, k] at h2
  rw [List.toList_toArray]
  exact h2
theorem low_of {b : Array UInt8} {z : Str} (h : PySem.W.KBw.bInts b = PySem.W.KSb.codes z) (za : Asc z) : ∀ p, p < b.size → (b.getD p 0).toNat < 128 := fun p hp => by
  have e := sg_of h
  refine za _ ?_
  rw [← e]
  show _ ∈ ((b.toList.map UInt8.toNat).toArray).toList
  rw [List.toList_toArray]
  refine List.mem_map.mpr ⟨b.getD p 0, ?_, rfl⟩
  rw [Array.getD_eq_getD_getElem?, Array.getElem?_eq_getElem hp]
  simp
theorem size_of {b : Array UInt8} {z : Str} (h : PySem.W.KBw.bInts b = PySem.W.KSb.codes z) : b.size = z.length := by
  have e := sg_of h
  rw [← e, Dec.sg_len]
theorem part_asc {z l r g n : Str} (h : Txt.split z " " = [l, r, g, n]) (za : Asc z) : (Asc l ∧ Asc r ∧ Asc g ∧ Asc n) ∧ l.length ≤ z.length ∧ r.length ≤ z.length ∧ g.length ≤ z.length ∧ n.length ≤ z.length := by
  have e := split4 h
  rw [← e]
  rw [← e] at za
  simp only [Asc, app_list, List.mem_append] at za
  refine ⟨⟨fun c hc => za c (by simp [hc]), fun c hc => za c (by simp [hc]), fun c hc => za c (by simp [hc]), fun c hc => za c (by simp [hc])⟩, ?_⟩
  simp only [app_len]
  omega
def spRead (K : PySem.W.Frag) : Sp := fun vs H Q E => ∃ (b : Array UInt8) (z : Str), vs = [.byt b] ∧ PySem.W.KBw.bInts b = PySem.W.KSb.codes z ∧ Asc z ∧ z.length ≤ 1000 ∧
  (¬ MarkOk z → ∀ (H' : Hp) (d : Addr), Same H H' → H' d = none → E (.ref (He.ga K "BadText")) (some d) (upd H' d (.xd [("text", .str z)]))) ∧
  (∀ l r g n, Txt.split z " " = [l, r, g, n] → NameP l → NumP r → NumP g → NameP n → ∀ (H' : Hp) (x dx : Addr), Same H H' → H' x = some (.ins (He.ga K "Mark") dx (markFs (.str l) (.int (valI r)) (.int (valI g)) (.str n))) → Q (.ref x) H')
theorem ok_read_mark (T : Tx P K mg) : FnOk P w K mg base (L2.CX P w) 4 (He.fAd K ("read_mark", none)) T.fd_read_mark ["data"] (spRead K) := by
  have G_is_name : FnOk P w K mg base CX0 1 _ _ _ _ := ok_is_name T
  have G_is_number : FnOk P w K mg base CX0 1 _ _ _ _ := ok_is_number T
  have G_Mark : FnOk P w K mg base CX0 2 _ _ _ _ := ok_Mark T
  refine okX T.f_read_mark sc_read_mark (fun vs H Q E h => ?_) (fun cdv A outer s H vs Q E hr h => ?_)
  · obtain ⟨b, z, rfl, _⟩ := h
    rfl
  · obtain ⟨b, z, rfl, hb, za, zl, hE, hQ⟩ := h
    refine ⟨_, (pss_cons (ps_set (i := 1) sc_read_mark.nd rfl (Or.inl rfl) (pe_decA (pv 0) (pa_cons pe_str pa_nil)))
      (pss_cons (ps_set (i := 2) sc_read_mark.nd rfl (Or.inl rfl) (pe_split (pv 1) pe_str))
      (pss_cons (ps_if (pt_cmpR op_ne (pe_callB call_len_seq (by rfl) T.z_len (by decide +kernel) (pa_cons (pv 2) pa_nil)) pe_int (nomark _))
        (pss_one (ps_raiseE rfl T.e_BadText hr (takes_of rfl rfl rfl rfl) (pa_cons (pv 1) pa_nil)))
        pss_nil)
      (pss_cons (ps_asg (pv 2) (pg_unl rfl (pgs_cons (pg_name (i := 3) sc_read_mark.nd rfl (Or.inl rfl)) (pgs_cons (pg_name (i := 4) sc_read_mark.nd rfl (Or.inl rfl)) (pgs_cons (pg_name (i := 5) sc_read_mark.nd rfl (Or.inl rfl)) (pgs_cons (pg_name (i := 6) sc_read_mark.nd rfl (Or.inl rfl)) pgs_nil))))))
      (pss_cons (ps_if (PW.pt (pw_or (pt_not (pt_val (pe_call G_is_name (hr.mono (by decide)) rfl T.g_is_name T.f_is_name.kp T.b_is_name .nil pass0 (pa_cons (pv 3) pa_nil)))) (pw_or (pt_not (pt_val (pe_call G_is_number (hr.mono (by decide)) rfl T.g_is_number T.f_is_number.kp T.b_is_number .nil pass0 (pa_cons (pv 4) pa_nil)))) (pw_or (pt_not (pt_val (pe_call G_is_number (hr.mono (by decide)) rfl T.g_is_number T.f_is_number.kp T.b_is_number .nil pass0 (pa_cons (pv 5) pa_nil)))) (pw_or1 (pt_not (pt_val (pe_call G_is_name (hr.mono (by decide)) rfl T.g_is_name T.f_is_name.kp T.b_is_name .nil pass0 (pa_cons (pv 6) pa_nil)))))))))
        (pss_one (ps_raiseE rfl T.e_BadText hr (takes_of rfl rfl rfl rfl) (pa_cons (pv 1) pa_nil)))
        pss_nil)
      (pss_one (ps_ret (pe_make T.k_Mark G_Mark (hr.mono (by decide)) rfl T.g_Mark T.b_Mark___init__ .nil pass0 (pa_cons (pv 3) (pa_cons (pe_callTy call_int_str (by rfl) T.z_int (by decide +kernel) (pa_cons (pv 4) pa_nil)) (pa_cons (pe_callTy call_int_str (by rfl) T.z_int (by decide +kernel) (pa_cons (pv 5) pa_nil)) (pa_cons (pv 6) pa_nil)))))))))))), ?_⟩
    refine ⟨_, rfl, ⟨b, rfl⟩, b, rfl, rfl, low_of hb za, (by rw [size_of hb]; omega), ?_⟩
    rw [sg_of hb]
    refine ⟨_, rfl, ⟨z, rfl⟩, z, " ", rfl, rfl, rfl, (by rw [sizeLine_eq]; omega), fun p hp => ?_⟩
    have s1 := Same.new (o := .lst ((Txt.split z " ").map V.str)) hp
    refine ⟨_, rfl, p, _, rfl, .inl (SqL.of upd_same), rfl, _, rfl, ?_⟩
    rw [List.length_map]
    refine ite2 (fun h => ?_) (fun h => ?_)
    · have h4 : (Txt.split z " ").length ≠ 4 := fun e => by
        rw [e] at h
        exact absurd h (by decide)
      refine ⟨_, rfl, rfl, fun e he => hE (fun ⟨l, r, g, n, q, _⟩ => h4 (by rw [q]; rfl)) _ e s1 he⟩
    have h4 : (Txt.split z " ").length = 4 := Decidable.byContradiction fun e => h (by simp; omega)
    obtain ⟨l, r, g, n, hsp⟩ : ∃ l r g n, Txt.split z " " = [l, r, g, n] := match Txt.split z " ", h4 with | [l, r, g, n], _ => ⟨l, r, g, n, rfl⟩
    rw [hsp] at s1 ⊢
    obtain ⟨⟨la, ra, ga, na⟩, ll, rl, gl, nl⟩ := part_asc hsp za
    refine ⟨_, rfl, p, _, rfl, SqL.of upd_same, rfl, _, _, rfl, _, _, rfl, _, _, rfl, _, _, rfl, rfl, ?_⟩
    have zb : ∀ {y : Str}, y.length ≤ z.length → y.length ≤ 10000 := fun h => by omega
    have bad : ¬ (NameP l ∧ NumP r ∧ NumP g ∧ NameP n) → ¬ MarkOk z := fun h ⟨l', r', g', n', q, a1, a2, a3, a4⟩ => by
      rw [hsp] at q
      cases q
      exact h ⟨a1, a2, a3, a4⟩
    refine ⟨_, rfl, l, rfl, zb ll, la, fun H2 s2 => ⟨_, rfl, ?_⟩⟩
    refine ite2 (fun h => ?_) (fun h => ?_)
    · have hb : ¬ NameP l := by simpa using h
      exact ⟨_, rfl, rfl, fun e he => hE (bad fun q => hb q.1) _ e (Same.tr s1 s2) he⟩
    have h1 : NameP l := by simpa using h
    refine ⟨_, rfl, r, rfl, zb rl, ra, fun H3 s3 => ⟨_, rfl, ?_⟩⟩
    refine ite2 (fun h => ?_) (fun h => ?_)
    · have hb : ¬ NumP r := by simpa using h
      exact ⟨_, rfl, rfl, fun e he => hE (bad fun q => hb q.2.1) _ e (Same.tr (Same.tr s1 s2) s3) he⟩
    have h2 : NumP r := by simpa using h
    refine ⟨_, rfl, g, rfl, zb gl, ga, fun H4 s4 => ⟨_, rfl, ?_⟩⟩
    refine ite2 (fun h => ?_) (fun h => ?_)
    · have hb : ¬ NumP g := by simpa using h
      exact ⟨_, rfl, rfl, fun e he => hE (bad fun q => hb q.2.2.1) _ e (Same.tr (Same.tr (Same.tr s1 s2) s3) s4) he⟩
    have h3 : NumP g := by simpa using h
    refine ⟨_, rfl, n, rfl, zb nl, na, fun H5 s5 => ⟨_, rfl, ?_⟩⟩
    have st := Same.tr (Same.tr (Same.tr (Same.tr s1 s2) s3) s4) s5
    refine ite2 (fun h => ?_) (fun h => ?_)
    · have hb : ¬ NameP n := by simpa using h
      exact ⟨_, rfl, rfl, fun e he => hE (bad fun q => hb q.2.2.2) _ e st he⟩
    have h4' : NameP n := by simpa using h
    have rl' := h2.2.1
    have gl' := h3.2.1
    refine ⟨_, rfl, _, rfl, r, _, rfl, int_of h2, by omega, _, rfl, g, _, rfl, int_of h3, by omega, _, rfl, fun x dx hx hdx ne => ?_⟩
    refine ⟨x, dx, _, _, _, _, rfl, upd_same, fun H6 bt hx6 => ⟨rfl, ?_⟩⟩
    refine hQ l r g n hsp h1 h2 h3 h4' H6 x dx (fun p' o e => ?_) hx6
    have e5 := st _ _ e
    refine bt _ _ (ne_of_none e5 hx) ?_
    rw [upd_ne (ne_of_none e5 hx), upd_ne (ne_of_none e5 hdx)]
    exact e5
end
end Toy

set_option maxHeartbeats 4000000
namespace Toy
open PySem PySem.Spec PyProof.Rows L2
section
variable {P : Program} {w : World} {K : PySem.W.Frag} {mg : Str → Option Value} {base : Heap}
def spWritten (K : PySem.W.Frag) : Sp := fun vs H Q _ => ∃ (x dx : Addr) (z l r g n : Str), vs = [.ref x] ∧ Txt.split z " " = [l, r, g, n] ∧ NumP r ∧ NumP g ∧ Asc z ∧ z.length ≤ 1000 ∧ H x = some (.ins (He.ga K "Mark") dx (markFs (.str l) (.int (valI r)) (.int (valI g)) (.str n))) ∧ ∀ b, PySem.W.KBw.bInts b = PySem.W.KSb.codes z → Q (.byt b) H
theorem lk_lane (l r g n : V) : (markFs l r g n).lookup ("lane" : Str) = some l := by kernel_rfl
theorem lk_row (l r g n : V) : (markFs l r g n).lookup ("row" : Str) = some r := by kernel_rfl
theorem lk_giving (l r g n : V) : (markFs l r g n).lookup ("giving" : Str) = some g := by kernel_rfl
theorem lk_name (l r g n : V) : (markFs l r g n).lookup ("name" : Str) = some n := by kernel_rfl
theorem ok_written (T : Tx P K mg) : FnOk P w K mg base CX0 2 (He.fAd K ("written", none)) T.fd_written ["mark"] (spWritten K) := by
  have G_as_bytes : FnOk P w K mg base CX0 1 _ _ _ _ := ok_as_bytes T
  refine ok0 T.f_written sc_written (fun vs H Q E h => ?_) (fun cdv A outer s H vs Q E hr h => ?_)
  · obtain ⟨x, dx, z, l, r, g, n, rfl, _⟩ := h
    rfl
  · obtain ⟨x, dx, z, l, r, g, n, rfl, hsp, h2, h3, za, zl, hx, hQ⟩ := h
    refine ⟨_, (pss_one (ps_ret (pe_call G_as_bytes (hr.mono (by decide)) rfl T.g_as_bytes T.f_as_bytes.kp T.b_as_bytes .nil pass0 (pa_cons (pe_joined (PJ.cons (pe_fmt (pe_fld (pv 0) rfl)) (PJ.cons pe_str (PJ.cons (pe_fmt (pe_fld (pv 0) rfl)) (PJ.cons pe_str (PJ.cons (pe_fmt (pe_fld (pv 0) rfl)) (PJ.cons pe_str (PJ.cons (pe_fmt (pe_fld (pv 0) rfl)) PJ.nil)))))))) pa_nil)))), ?_⟩
    obtain ⟨_, ll, rl, gl, nl⟩ := part_asc hsp za
    have sm : ∀ n : Nat, n ≤ 10000 → n ≤ sizeLine := fun n h => by rw [sizeLine_eq]; omega
    have e0 : Str.empty.length = 0 := rfl
    have e1 : (" " : Str).length = 1 := rfl
    have g2 := val_in h2
    have g3 := val_in h3
    have et : Str.empty ++ l ++ " " ++ toString (valI r) ++ " " ++ toString (valI g) ++ " " ++ n = z := by
      rw [back_of h2, back_of h3, PySem.W.KT.empty_app, split4 hsp]
    refine ⟨_, rfl, x, _, dx, _, _, rfl, hx, T.c_Mark, T.n_Mark_lane, lk_lane _ _ _ _, .inl ⟨l, rfl, sm _ (by omega), l, rfl, sm _ (by simp only [app_len]; omega), ?_⟩⟩
    refine ⟨_, rfl, sm _ (by simp only [app_len]; omega), ?_⟩
    refine ⟨_, rfl, x, _, dx, _, _, rfl, hx, T.c_Mark, T.n_Mark_row, lk_row _ _ _ _, .inr ⟨_, rfl, num_log g2.1 (by omega), _, rfl, sm _ (by simp only [app_len, back_of h2]; omega), ?_⟩⟩
    refine ⟨_, rfl, sm _ (by simp only [app_len, back_of h2]; omega), ?_⟩
    refine ⟨_, rfl, x, _, dx, _, _, rfl, hx, T.c_Mark, T.n_Mark_giving, lk_giving _ _ _ _, .inr ⟨_, rfl, num_log g3.1 (by omega), _, rfl, sm _ (by simp only [app_len, back_of h2, back_of h3]; omega), ?_⟩⟩
    refine ⟨_, rfl, sm _ (by simp only [app_len, back_of h2, back_of h3]; omega), ?_⟩
    refine ⟨_, rfl, x, _, dx, _, _, rfl, hx, T.c_Mark, T.n_Mark_name, lk_name _ _ _ _, .inl ⟨n, rfl, sm _ (by omega), n, rfl, sm _ (by simp only [app_len, back_of h2, back_of h3]; omega), ?_⟩⟩
    refine ⟨_, rfl, by rw [et]; exact za, by rw [et]; omega, fun b hb => ?_⟩
    rw [et] at hb
    exact hQ b hb
theorem dp_ints {H : Hp} : ∀ l : List Int, DpAll K H (l.map V.int) (l.map PyData.int)
  | [] => .nil
  | x :: r => .cons (.int x) (dp_ints r)
theorem shaped_ints (l : List Int) : SeqAt.shaped (.list (l.map PyData.int)) = true := by
  have a : ∀ l : List Int, PyData.canLayAll0 (l.map PyData.int) = true := fun l => by
    induction l with
    | nil => simp [PyData.canLayAll0]
    | cons x r ih => simp [PyData.canLayAll0, PyData.canLay0, ih]
  have b : ∀ l : List Int, PyData.depthAll (l.map PyData.int) = 0 := fun l => by
    induction l with
    | nil => simp [PyData.depthAll]
    | cons x r ih => simp [PyData.depthAll, PyData.depth, ih]
  unfold SeqAt.shaped
  simp [PyData.canLay0, PyData.depth, a, b]
theorem codes_take {z : Str} {i c : Nat} (h : z.cps[i]? = some c) : (PySem.W.KSb.codes z).take (i + 1) = (PySem.W.KSb.codes z).take i ++ [(c : Int)] := by
  have e : (PySem.W.KSb.codes z)[i]? = some (c : Int) := by
    show (z.cps.toList.map fun c => ((c : Nat) : Int))[i]? = _
    rw [List.getElem?_map, Array.getElem?_toList, h]
    rfl
  rw [List.take_succ, e]
  rfl
theorem codes_all (z : Str) : (PySem.W.KSb.codes z).take z.cps.size = PySem.W.KSb.codes z := List.take_of_length_le (by rw [PySem.W.KSb.codes_length]; exact Nat.le_refl _)
def spLaw (K : PySem.W.Frag) : Sp := fun vs H Q _ => ∃ (a : Addr) (ns : List Int), vs = [.ref a] ∧ SqL K H a (ns.map V.int) ∧ ns.length ≤ 63 ∧ ∀ H', Q (.bl true) H'
theorem ok_law (T : Tx P K mg) : FnOk P w K mg base CX0 5 (He.fAd K ("law", none)) T.fd_law ["script"] (spLaw K) := by
  have G__law_text : FnOk P w K mg base CX0 4 _ _ _ _ := ok__law_text T
  have G__law_is_name : FnOk P w K mg base CX0 1 _ _ _ _ := ok__law_is_name T
  have G__law_is_number : FnOk P w K mg base CX0 1 _ _ _ _ := ok__law_is_number T
  have G_as_bytes : FnOk P w K mg base CX0 1 _ _ _ _ := ok_as_bytes T
  have G_written : FnOk P w K mg base CX0 2 _ _ _ _ := ok_written T
  have G_read_mark : FnOk P w K mg base (L2.CX P w) 4 _ _ _ _ := ok_read_mark T
  refine ok0 T.f_law sc_law (fun vs H Q E h => ?_) (fun cdv A outer s H vs Q E hr h => ?_)
  · obtain ⟨a, ns, rfl, _⟩ := h
    rfl
  · obtain ⟨a, ns, rfl, hS, hl, hQ⟩ := h
    have hall : ∀ H', Same H H' → SqL K H' a (ns.map V.int) := fun _ sm => Same.seq sm hS
    refine ⟨_, (pss_cons (ps_set (i := 1) sc_law.nd rfl (Or.inl rfl) (pe_call G__law_text (hr.mono (by decide)) rfl T.g__law_text T.f__law_text.kp T.b__law_text .nil pass0 (pa_cons (pv 0) pa_nil)))
      (pss_cons (ps_set (i := 2) sc_law.nd rfl (Or.inl rfl) (pe_call G_as_bytes (hr.mono (by decide)) rfl T.g_as_bytes T.f_as_bytes.kp T.b_as_bytes .nil pass0 (pa_cons (pv 1) pa_nil)))
      (pss_cons (ps_if (PW.pt (pw_or (pt_cmpR (op_neD hr.units) (pe_callTy (call_r1 (rl_listB rfl)) (by rfl) T.z_list (by decide +kernel) (pa_cons (pv 2) pa_nil)) (pe_lc (own := [("sign", 3)]) (g := gName 3) (tt := tYes) rfl sc_law.nd (pi_str (pv 1)) (blkOk_by (own := [("sign", 3)]) (N := ["script", "text", "data", "sign", "words", "good", "told", "mark", "e"]) (sc := defScope s_law) (by decide +kernel)) (fun _ _ _ _ _ => (pg_name (i := 3) sc_law.nd rfl (Or.inl rfl))) (fun _ _ _ _ _ => pts_nil) (fun _ _ _ _ _ => (pe_callB call_ord (by rfl) T.z_ord (by decide +kernel) (pa_cons (pv 3) pa_nil)))) (nomark _)) (pw_or1 (pt_val (pe_callB call_isiT (by rfl) T.z_isinstance (by decide +kernel) (pa_cons (pv 2) (pa_cons (pe_tup (pa_cons (pe_bltn (by rfl) T.z_str (by decide +kernel) (v := .ty "str") rfl) (pa_cons (pe_bltn (by rfl) T.z_list (by decide +kernel) (v := .ty "list") rfl) (pa_cons (pe_bltn (by rfl) T.z_tuple (by decide +kernel) (v := .ty "tuple") rfl) pa_nil)))) pa_nil)))))))
        (pss_one (ps_ret pe_bl))
        pss_nil)
      (pss_cons (ps_set (i := 4) sc_law.nd rfl (Or.inl rfl) (pe_split (pv 1) pe_str))
      (pss_meet (ps_set (i := 5) sc_law.nd rfl (Or.inl rfl) (pe_and (pe_cmpR op_eq (pe_callB call_len_seq (by rfl) T.z_len (by decide +kernel) (pa_cons (pv 4) pa_nil)) pe_int (nomark _)) (pe_and (pe_call G__law_is_name (hr.mono (by decide)) rfl T.g__law_is_name T.f__law_is_name.kp T.b__law_is_name .nil pass0 (pa_cons (pe_ix (ix_lK (K := K)) (pv 4) pe_int (fun _ _ => rfl)) pa_nil)) (pe_one (pe_call G__law_is_name (hr.mono (by decide)) rfl T.g__law_is_name T.f__law_is_name.kp T.b__law_is_name .nil pass0 (pa_cons (pe_ix (ix_lK (K := K)) (pv 4) pe_int (fun _ _ => rfl)) pa_nil))))))
      (pss_meet (ps_set (i := 5) sc_law.nd rfl (Or.inl rfl) (pe_and (pv 5) (pe_and (pe_call G__law_is_number (hr.mono (by decide)) rfl T.g__law_is_number T.f__law_is_number.kp T.b__law_is_number .nil pass0 (pa_cons (pe_ix (ix_lK (K := K)) (pv 4) pe_int (fun _ _ => rfl)) pa_nil)) (pe_one (pe_call G__law_is_number (hr.mono (by decide)) rfl T.g__law_is_number T.f__law_is_number.kp T.b__law_is_number .nil pass0 (pa_cons (pe_ix (ix_lK (K := K)) (pv 4) pe_int (fun _ _ => rfl)) pa_nil))))))
      (pss_cons (ps_set (i := 6) sc_law.nd rfl (Or.inl rfl) pe_non)
      (pss_cons (ps_set (i := 7) sc_law.nd rfl (Or.inl rfl) pe_non)
      (pss_cons (ps_try_as (i := 8) rfl rfl sc_law.nd rfl rfl ⟨rfl, by decide, .inl T.e_BadText.gC⟩ takes0 (fun W pn xe tk _ =>
         (pss_one (ps_set (i := 7) sc_law.nd rfl (Or.inl rfl) (pe_callS G_read_mark (hr.mono (by decide)) rfl T.g_read_mark T.f_read_mark.kp T.b_read_mark (fun σ => passAt tk σ) (pa_cons (pv 2) pa_nil)))))
        (fun a oe cls d pn hz hf =>
         (pss_one (ps_set (i := 6) sc_law.nd rfl (Or.inl rfl) (pe_lst (pa_cons (pe_byE T.e_BadText (by simp) hz hf (pv 8)) (pa_cons (pe_callB (call_isD T.e_BadText hz hf) (by rfl) T.z_isinstance (by decide +kernel) (pa_cons (pv 8) (pa_cons (pe_gref T.g_LaneError) pa_nil))) (pa_cons (pe_callB (call_isD T.e_BadText hz hf) (by rfl) T.z_isinstance (by decide +kernel) (pa_cons (pv 8) (pa_cons (pe_bltn (by rfl) T.z_ValueError (by decide +kernel) (v := .ty "ValueError") rfl) pa_nil))) (pa_cons (pe_callB (call_isD T.e_BadText hz hf) (by rfl) T.z_isinstance (by decide +kernel) (pa_cons (pv 8) (pa_cons (pe_gref T.g_UnknownName) pa_nil))) pa_nil)))))))))
      (pss_cons (ps_if (pt_not (pt_val (pv 5)))
        (pss_one (ps_ret (pe_cmpR (op_eqD hr.units) (pv 6) (pe_lst (pa_cons (pv 1) (pa_cons pe_bl (pa_cons pe_bl (pa_cons pe_bl pa_nil))))) (nomark _))))
        pss_nil)
      (pss_cons (ps_if (PW.pt (pw_or (pt_cmpR op_notN (pv 6) pe_non (nomark _)) (pw_or (pt_not (pt_val (pe_callB call_isi (by rfl) T.z_isinstance (by decide +kernel) (pa_cons (pv 7) (pa_cons (pe_gref T.g_Mark) pa_nil))))) (pw_or1 (pt_cmpR (op_neD hr.units) (pe_callTy (call_r1 (rl_listB rfl)) (by rfl) T.z_list (by decide +kernel) (pa_cons (pe_call G_written (hr.mono (by decide)) rfl T.g_written T.f_written.kp T.b_written .nil pass0 (pa_cons (pv 7) pa_nil)) pa_nil)) (pe_lc (own := [("sign", 3)]) (g := gName 3) (tt := tYes) rfl sc_law.nd (pi_str (pv 1)) (blkOk_by (own := [("sign", 3)]) (N := ["script", "text", "data", "sign", "words", "good", "told", "mark", "e"]) (sc := defScope s_law) (by decide +kernel)) (fun _ _ _ _ _ => (pg_name (i := 3) sc_law.nd rfl (Or.inl rfl))) (fun _ _ _ _ _ => pts_nil) (fun _ _ _ _ _ => (pe_callB call_ord (by rfl) T.z_ord (by decide +kernel) (pa_cons (pv 3) pa_nil)))) (nomark _))))))
        (pss_one (ps_ret pe_bl))
        pss_nil)
      (pss_one (ps_ret (pe_cmpR (op_eqD hr.units) (pe_lst (pa_cons (pe_fld (pv 7) rfl) (pa_cons (pe_fld (pv 7) rfl) (pa_cons (pe_fld (pv 7) rfl) (pa_cons (pe_fld (pv 7) rfl) pa_nil))))) (pe_lst (pa_cons (pe_ix (ix_lK (K := K)) (pv 4) pe_int (fun _ _ => rfl)) (pa_cons (pe_callTy call_int_str (by rfl) T.z_int (by decide +kernel) (pa_cons (pe_ix (ix_lK (K := K)) (pv 4) pe_int (fun _ _ => rfl)) pa_nil)) (pa_cons (pe_callTy call_int_str (by rfl) T.z_int (by decide +kernel) (pa_cons (pe_ix (ix_lK (K := K)) (pv 4) pe_int (fun _ _ => rfl)) pa_nil)) (pa_cons (pe_ix (ix_lK (K := K)) (pv 4) pe_int (fun _ _ => rfl)) pa_nil))))) (nomark _))))))))))))))), ?_⟩
    refine ⟨_, rfl, a, ns, rfl, hS, hall, fun H1 z s1 za zl => ?_⟩
    refine ⟨_, rfl, z, rfl, za, by omega, fun b hb => ?_⟩
    have bsz := size_of hb
    have sm : ∀ n : Nat, n ≤ 10000 → n ≤ sizeLine := fun n h => by rw [sizeLine_eq]; omega
    have zs := sm z.length (by omega)
    refine ⟨_, rfl, b, rfl, (by rw [bsz]; exact zs), fun q hq => ?_⟩
    have s2 := Same.new (o := .lst ((bi b).map V.int)) hq
    refine ⟨_, rfl, z, rfl, fun D hD => ?_⟩
    have hord : ∀ c : Nat, ((⟨#[c]⟩ : Str).cps.getD 0 0 : Nat) = c := fun c => rfl
    refine lc_it walk_str (fun i H' => H' D = some (.lst (((PySem.W.KSb.codes z).take i).map V.int)) ∧ Same (upd H1 q (.lst ((bi b).map V.int))) H') ⟨upd_same, Same.new hD⟩ (fun _ _ _ _ => trivial) ?_ ?_
    · rintro i x H2 H2' hi ⟨hacc, sm2⟩ ⟨rfl, c, hc, rfl⟩
      have zi : i < z.length := hi
      refine ⟨rfl, _, rfl, _, rfl, rfl, _, hacc, (by rw [List.length_map, List.length_take]; omega), ?_, Same.mut sm2 hD⟩
      rw [upd_same, codes_take hc, List.map_append]
      rfl
    rintro H2 ⟨hcs, s3⟩
    rw [codes_all] at hcs
    have s23 := Same.tr s2 s3
    have hq2 := s3 _ _ (upd_same (H := H1) (a := q) (o := .lst ((bi b).map V.int)))
    have hb' : bi b = PySem.W.KSb.codes z := hb
    rw [hb'] at hq2
    have shp := shaped_ints (PySem.W.KSb.codes z)
    refine ⟨.list ((PySem.W.KSb.codes z).map PyData.int), .list ((PySem.W.KSb.codes z).map PyData.int), .lst (SqL.of hq2) (dp_ints _), .lst (SqL.of hcs) (dp_ints _), shp, shp, _, rfl, ?_⟩
    rw [SeqAt.eqv_refl _ (SeqAt.canLay_of_shaped shp)]
    refine iteF ?_
    refine ⟨_, rfl, (by show 3 ≤ sizeLine; decide), fun tp htp => ?_⟩
    have s4 := Same.new (o := .tup [.ty "str", .ty "list", .ty "tuple"]) htp
    refine ⟨_, tp, _, _, _, false, rfl, upd_same, .cons (.ty _) (.cons (.ty _) (.cons (.ty _) .nil)), .byt b, kitAny_cons (b := false) (kit_ty (by decide +kernel)) (fun _ => kitAny_cons (b := false) (kit_ty (by decide +kernel)) (fun _ => kitAny_cons (b := false) (kit_ty (by decide +kernel)) (fun _ => kitAny_nil) (fun h => nomatch h)) (fun h => nomatch h)) (fun h => nomatch h), _, rfl, ?_⟩
    refine iteF ?_
    have s14 := Same.tr s1 (Same.tr s23 s4)
    generalize upd H2 tp (.tup [.ty "str", .ty "list", .ty "tuple"]) = H3 at *
    refine ⟨_, rfl, ⟨z, rfl⟩, z, " ", rfl, rfl, rfl, (by rw [sizeLine_eq]; omega), fun p hp => ?_⟩
    have s5 := Same.new (o := .lst ((Txt.split z " ").map V.str)) hp
    have hp5 := upd_same (H := H3) (a := p) (o := .lst ((Txt.split z " ").map V.str))
    generalize upd H3 p (.lst ((Txt.split z " ").map V.str)) = H4 at *
    refine ⟨fun σ' H' => ∃ gb : Bool, σ' = [some (.ref a), some (.str z), some (.byt b), none, some (.ref p), some (.bl gb), none, none, none] ∧ Same H4 H' ∧ (gb = true ↔ ∃ l r g n, Txt.split z " " = [l, r, g, n] ∧ NameP l ∧ NameP n), ?_, ?_⟩
    · refine ⟨_, rfl, p, _, rfl, .inl (SqL.of hp5), rfl, _, rfl, ?_⟩
      rw [List.length_map]
      refine ite2 (fun h => ?_) (fun h => ?_)
      · have h4 : (Txt.split z " ").length = 4 := by
          have h' : (((Txt.split z " ").length : Nat) : Int) = 4 := by simpa using h
          omega
        obtain ⟨l, r, g, n, hsp⟩ : ∃ l r g n, Txt.split z " " = [l, r, g, n] := match Txt.split z " ", h4 with | [l, r, g, n], _ => ⟨l, r, g, n, rfl⟩
        obtain ⟨⟨la, ra, ga, na⟩, ll, rl, gl, nl⟩ := part_asc hsp za
        rw [hsp] at hp5
        refine ⟨_, rfl, p, _, _, _, rfl, rfl, SqL.of hp5, rfl, l, rfl, by omega, la, fun H5 s6 => ⟨_, rfl, ?_⟩⟩
        refine ite2 (fun h1 => ?_) (fun h1 => ?_)
        · have h1' : NameP l := by simpa using h1
          refine ⟨_, rfl, p, _, _, _, rfl, rfl, SqL.of (s6 _ _ hp5), rfl, n, rfl, by omega, na, fun H6 s7 => ⟨_, rfl, Same.tr s6 s7, ?_⟩⟩
          refine Iff.intro (fun q => ⟨l, r, g, n, hsp, h1', of_decide_eq_true q⟩) fun ⟨l', r', g', n', q, _, q2⟩ => ?_
          rw [hsp] at q
          cases q
          exact decide_eq_true q2
        · have h1' : ¬ NameP l := by simpa using h1
          refine ⟨_, rfl, s6, Iff.intro (fun q => nomatch q) fun ⟨l', r', g', n', q, q1, _⟩ => ?_⟩
          rw [hsp] at q
          cases q
          exact absurd q1 h1'
      · refine ⟨_, rfl, fun _ _ e => e, Iff.intro (fun q => nomatch q) fun ⟨l', r', g', n', q, _⟩ => ?_⟩
        rw [q] at h
        exact absurd rfl h
    rintro σ5 H5 ⟨gb, rfl, s6, hgb⟩
    refine ⟨fun σ' H' => ∃ gb : Bool, σ' = [some (.ref a), some (.str z), some (.byt b), none, some (.ref p), some (.bl gb), none, none, none] ∧ Same H4 H' ∧ (gb = true ↔ MarkOk z), ?_, ?_⟩
    · refine ⟨_, rfl, _, rfl, ?_⟩
      refine ite2 (fun h => ?_) (fun h => ?_)
      · obtain ⟨l, r, g, n, hsp, h1, h4⟩ := hgb.mp h
        obtain ⟨⟨la, ra, ga, na⟩, ll, rl, gl, nl⟩ := part_asc hsp za
        have hp6 := s6 _ _ hp5
        rw [hsp] at hp6
        refine ⟨_, rfl, p, _, _, _, rfl, rfl, SqL.of hp6, rfl, r, rfl, by omega, ra, fun H6 s7 => ⟨_, rfl, ?_⟩⟩
        refine ite2 (fun h2 => ?_) (fun h2 => ?_)
        · have h2' : NumP r := by simpa using h2
          refine ⟨_, rfl, p, _, _, _, rfl, rfl, SqL.of (s7 _ _ hp6), rfl, g, rfl, by omega, ga, fun H7 s8 => ⟨_, rfl, Same.tr s6 (Same.tr s7 s8), ?_⟩⟩
          refine Iff.intro (fun q => ⟨l, r, g, n, hsp, h1, h2', of_decide_eq_true q, h4⟩) fun ⟨l', r', g', n', q, _, _, q2, _⟩ => ?_
          rw [hsp] at q
          cases q
          exact decide_eq_true q2
        · have h2' : ¬ NumP r := by simpa using h2
          refine ⟨_, rfl, Same.tr s6 s7, Iff.intro (fun q => nomatch q) fun ⟨l', r', g', n', q, _, q1, _⟩ => ?_⟩
          rw [hsp] at q
          cases q
          exact absurd q1 h2'
      · refine ⟨_, rfl, s6, Iff.intro (fun q => nomatch q) fun ⟨l', r', g', n', q, q1, _, _, q4⟩ => ?_⟩
        exact absurd (hgb.mpr ⟨l', r', g', n', q, q1, q4⟩) h
    rintro σ6 H6 ⟨gb2, rfl, s7, hg⟩
    clear hgb
    refine ⟨_, rfl, b, z, rfl, hb, za, zl, fun bad H7 d s8 hd => ?_, fun l r g n hsp h1 h2 h3 h4 H7 x dx s8 hx => ?_⟩
    · refine ⟨true, T.x_BadText, fun _ e he => ?_, fun q => nomatch q⟩
      have hgf : gb2 = false := by
        cases gb2 with
        | false => rfl
        | true => exact absurd (hg.mp rfl) bad
      have sd := Same.new (o := .xd [(("text" : Str), V.str z)]) hd
      refine ⟨_, rfl, rfl, rfl, d, _, _, rfl, upd_same, rfl, ?_⟩
      refine ⟨_, rfl, _, _, true, d, _, rfl, fun u e => e, T.i_LaneError, rfl, rfl, upd_same, ?_⟩
      refine ⟨_, rfl, _, _, true, d, _, rfl, fun u e => e, T.i_ValueError, rfl, rfl, upd_same, ?_⟩
      refine ⟨_, rfl, _, _, false, d, _, rfl, fun u e => e, T.i_UnknownName, rfl, rfl, upd_same, ?_⟩
      refine ⟨(by show 4 ≤ sizeLine; decide), fun tp htp => ?_⟩
      subst hgf
      refine ⟨_, rfl, _, rfl, ?_⟩
      refine iteT ?_
      refine ⟨_, rfl, _, rfl, (by show 4 ≤ sizeLine; decide), fun r hr => ?_⟩
      have sr := Same.new (o := .lst [.str z, .bl true, .bl true, .bl false]) hr
      have htp' := sr _ _ (upd_same (H := upd H7 d (.xd [(("text" : Str), V.str z)])) (a := tp) (o := .lst [.str z, .bl true, .bl true, .bl false]))
      have hsh : SeqAt.shaped (.list [.str z, .bool true, .bool true, .bool false]) = true := by
        unfold SeqAt.shaped
        simp [PyData.canLay0, PyData.canLayAll0, PyData.depth, PyData.depthAll, asc_ok za]
      have dat : DpAll K (upd (upd (upd H7 d (.xd [(("text" : Str), V.str z)])) tp (.lst [.str z, .bl true, .bl true, .bl false])) r (.lst [.str z, .bl true, .bl true, .bl false])) [.str z, .bl true, .bl true, .bl false] [.str z, .bool true, .bool true, .bool false] := .cons (.str z) (.cons (.bl true) (.cons (.bl true) (.cons (.bl false) .nil)))
      refine ⟨.list [.str z, .bool true, .bool true, .bool false], .list [.str z, .bool true, .bool true, .bool false], .lst (SqL.of htp') dat, .lst (SqL.of upd_same) dat, hsh, hsh, ?_⟩
      rw [SeqAt.eqv_refl _ (SeqAt.canLay_of_shaped hsh)]
      exact hQ _
    · have hgt : gb2 = true := hg.mpr ⟨l, r, g, n, hsp, h1, h2, h3, h4⟩
      subst hgt
      have s67 := Same.tr s7 s8
      refine ⟨_, rfl, _, rfl, ?_⟩
      refine iteF ?_
      refine ⟨_, rfl, rfl, _, rfl, ?_⟩
      refine iteF ?_
      refine ⟨_, rfl, _, _, _, _, true, rfl, .own _, .base (.ins hx T.c_Mark T.w_Mark.ha T.w_Mark.hn T.w_Mark.htk T.w_Mark.hm), T.w_Mark.me, _, rfl, ?_⟩
      refine iteF ?_
      obtain ⟨⟨la, ra, ga, na⟩, ll, rl, gl, nl⟩ := part_asc hsp za
      refine ⟨_, rfl, x, dx, z, l, r, g, n, rfl, hsp, h2, h3, za, zl, hx, fun b2 hb2 => ?_⟩
      refine ⟨b2, rfl, (by rw [size_of hb2]; exact zs), fun q2 hq2 => ?_⟩
      have t2 := Same.new (o := .lst ((bi b2).map V.int)) hq2
      refine ⟨_, rfl, z, rfl, fun D2 hD2 => ?_⟩
      refine lc_it walk_str (fun i H' => H' D2 = some (.lst (((PySem.W.KSb.codes z).take i).map V.int)) ∧ Same (upd H7 q2 (.lst ((bi b2).map V.int))) H') ⟨upd_same, Same.new hD2⟩ (fun _ _ _ _ => trivial) ?_ ?_
      · rintro i x' H8 H8' hi ⟨hacc, sm2⟩ ⟨rfl, c, hc, rfl⟩
        have zi : i < z.length := hi
        refine ⟨rfl, _, rfl, _, rfl, rfl, _, hacc, (by rw [List.length_map, List.length_take]; omega), ?_, Same.mut sm2 hD2⟩
        rw [upd_same, codes_take hc, List.map_append]
        rfl
      rintro H8 ⟨hcs2, t3⟩
      rw [codes_all] at hcs2
      have t23 := Same.tr t2 t3
      have hqq := t3 _ _ (upd_same (H := H7) (a := q2) (o := .lst ((bi b2).map V.int)))
      have hb2' : bi b2 = PySem.W.KSb.codes z := hb2
      rw [hb2'] at hqq
      refine ⟨.list ((PySem.W.KSb.codes z).map PyData.int), .list ((PySem.W.KSb.codes z).map PyData.int), .lst (SqL.of hqq) (dp_ints _), .lst (SqL.of hcs2) (dp_ints _), shp, shp, _, rfl, ?_⟩
      rw [SeqAt.eqv_refl _ (SeqAt.canLay_of_shaped shp)]
      refine iteF ?_
      have hx8 := t23 _ _ hx
      have hp8 := t23 _ _ (s67 _ _ hp5)
      rw [hsp] at hp8
      refine ⟨_, rfl, x, _, dx, _, _, rfl, hx8, T.c_Mark, T.n_Mark_lane, lk_lane _ _ _ _, _, rfl, x, _, dx, _, _, rfl, hx8, T.c_Mark, T.n_Mark_row, lk_row _ _ _ _, _, rfl, x, _, dx, _, _, rfl, hx8, T.c_Mark, T.n_Mark_giving, lk_giving _ _ _ _, _, rfl, x, _, dx, _, _, rfl, hx8, T.c_Mark, T.n_Mark_name, lk_name _ _ _ _, (by show 4 ≤ sizeLine; decide), fun u hu => ?_⟩
      have u1 := Same.new (o := .lst [.str l, .int (valI r), .int (valI g), .str n]) hu
      have hp9 := SqL.of (K := K) (u1 _ _ hp8)
      have r9 := h2.2.1
      have g9 := h3.2.1
      refine ⟨_, rfl, p, _, _, _, rfl, rfl, hp9, rfl, _, rfl, p, _, _, _, rfl, rfl, hp9, rfl, r, _, rfl, int_of h2, by omega, _, rfl, p, _, _, _, rfl, rfl, hp9, rfl, g, _, rfl, int_of h3, by omega, _, rfl, p, _, _, _, rfl, rfl, hp9, rfl, (by show 4 ≤ sizeLine; decide), fun v hv => ?_⟩
      have v1 := Same.new (o := .lst [.str l, .int (valI r), .int (valI g), .str n]) hv
      have hu' := v1 _ _ (upd_same (H := H8) (a := u) (o := .lst [.str l, .int (valI r), .int (valI g), .str n]))
      have hsh : SeqAt.shaped (.list [.str l, .int (valI r), .int (valI g), .str n]) = true := by
        unfold SeqAt.shaped
        simp [PyData.canLay0, PyData.canLayAll0, PyData.depth, PyData.depthAll, asc_ok la, asc_ok na]
      have dat : ∀ H, DpAll K H [.str l, .int (valI r), .int (valI g), .str n] [.str l, .int (valI r), .int (valI g), .str n] := fun _ => .cons (.str l) (.cons (.int _) (.cons (.int _) (.cons (.str n) .nil)))
      refine ⟨.list [.str l, .int (valI r), .int (valI g), .str n], .list [.str l, .int (valI r), .int (valI g), .str n], .lst (SqL.of hu') (dat _), .lst (SqL.of upd_same) (dat _), hsh, hsh, ?_⟩
      rw [SeqAt.eqv_refl _ (SeqAt.canLay_of_shaped hsh)]
      exact hQ _
end
end Toy

set_option maxHeartbeats 0

/-! ### the head's hook: the defs, the errors, further facts -/
namespace Hk
open PySem PySem.Spec PyProof.Rows L2
abbrev AlH : Type := He.AlD × (Bool × List Er.FnE) × Bool
def obsH (P : Program) (fa : List He.Fa) (fn : List He.DefD) (es : List Er.DE) (ex : PySem.W.Frag → Bool) (K : PySem.W.Frag) : AlH := (He.obsD fa fn K, (es.all fun d => d.ok P K, es.map fun d => Er.fnE K d.x), ex K)
def valH (fn : List He.DefD) (es : List Er.DE) : AlH := (He.valD fn, (true, es.map Er.DE.val), true)
structure SaysH (P : Program) (fa : List He.Fa) (fn : List He.DefD) (es : List Er.DE) (ex : PySem.W.Frag → Bool) (K : PySem.W.Frag) : Prop where
  d : He.SaysD fa fn K
  eo : ∀ (i : Nat) (d : Er.DE), es[i]? = some d → d.ok P K = true
  ef : ∀ (i : Nat) (d : Er.DE), es[i]? = some d → Er.fnE K d.x = d.val
  x : ex K = true
theorem says_of {P : Program} {fa : List He.Fa} {fn : List He.DefD} {es : List Er.DE} {ex : PySem.W.Frag → Bool} {K : PySem.W.Frag} (e : obsH P fa fn es ex K = valH fn es) : SaysH P fa fn es ex K where
  d := congrArg (fun z : AlH => z.1) e
  eo := fun i d h => by
    have q : (es.all fun d => d.ok P K) = true := congrArg (fun z : AlH => z.2.1.1) e
    exact List.all_eq_true.mp q d (List.mem_of_getElem? h)
  ef := fun i d h => by
    have q : (es.map fun d => Er.fnE K d.x) = es.map Er.DE.val := congrArg (fun z : AlH => z.2.1.2) e
    have q2 : (es.map fun d => Er.fnE K d.x)[i]? = (es.map Er.DE.val)[i]? := by rw [q]
    rw [List.getElem?_map, List.getElem?_map, h] at q2
    exact Option.some.inj q2
  x := congrArg (fun z : AlH => z.2.2) e
def obsN (N : Nat) (P : Program) (fa : List He.Fa) (fn : List He.DefD) (es : List Er.DE) (ex : PySem.W.Frag → Bool) (g : Addr → Option Obj) : AlH := obsH P fa fn es ex (He.frG g (List.range N))
def hook (N : Nat) (P : Program) (fa : List He.Fa) (fn : List He.DefD) (es : List Er.DE) (ex : PySem.W.Frag → Bool) : PySem.W.Hook where
  α := AlH
  obs := fun s => obsN N P fa fn es ex s.heap.get?
  val := fun _ => valH fn es
  says := fun _ h => ∃ K : PySem.W.Frag, K.In h ∧ SaysH P fa fn es ex K
  of := fun _ _ e => ⟨_, He.frG_in, says_of e⟩
  keeps := fun _ _ _ ⟨K, hK, c⟩ k => ⟨K, PySem.W.Frag.In.keeps hK k, c⟩
theorem obs_eq {N : Nat} {P : Program} {fa : List He.Fa} {fn : List He.DefD} {es : List Er.DE} {ex : PySem.W.Frag → Bool} (s : PySem.W.SharedT) : obsN N P fa fn es ex (HandSHeadRun.getT s) = (hook N P fa fn es ex).obs s.abs := by
  have e : HandSHeadRun.getT s = s.abs.heap.get? := funext (HandSHeadRun.getT_eq s)
  show obsN N P fa fn es ex _ = obsN N P fa fn es ex _
  rw [e]
end Hk

namespace Toy
open PySem PySem.Spec PyProof.Rows L2
def d_Numbered___init__ : He.DefD := ⟨("Numbered", some "__init__"), "__init__", "Numbered.__init__", defArgs s_Numbered___init__, defBody s_Numbered___init__, defScope s_Numbered___init__, [], []⟩
def d_Named___init__ : He.DefD := ⟨("Named", some "__init__"), "__init__", "Named.__init__", defArgs s_Named___init__, defBody s_Named___init__, defScope s_Named___init__, [], []⟩
def d_Mark___init__ : He.DefD := ⟨("Mark", some "__init__"), "__init__", "Mark.__init__", defArgs s_Mark___init__, defBody s_Mark___init__, defScope s_Mark___init__, [], []⟩
def d_is_name : He.DefD := ⟨("is_name", none), "is_name", "is_name", defArgs s_is_name, defBody s_is_name, defScope s_is_name, [], []⟩
def d_is_number : He.DefD := ⟨("is_number", none), "is_number", "is_number", defArgs s_is_number, defBody s_is_number, defScope s_is_number, [], []⟩
def d_as_bytes : He.DefD := ⟨("as_bytes", none), "as_bytes", "as_bytes", defArgs s_as_bytes, defBody s_as_bytes, defScope s_as_bytes, [], []⟩
def d_written : He.DefD := ⟨("written", none), "written", "written", defArgs s_written, defBody s_written, defScope s_written, [], []⟩
def d_read_mark : He.DefD := ⟨("read_mark", none), "read_mark", "read_mark", defArgs s_read_mark, defBody s_read_mark, defScope s_read_mark, [], []⟩
def d__law_cell : He.DefD := ⟨("_law_cell", none), "_law_cell", "_law_cell", defArgs s__law_cell, defBody s__law_cell, defScope s__law_cell, [], []⟩
def d__law_mixed : He.DefD := ⟨("_law_mixed", none), "_law_mixed", "_law_mixed", defArgs s__law_mixed, defBody s__law_mixed, defScope s__law_mixed, [], []⟩
def d__law_row : He.DefD := ⟨("_law_row", none), "_law_row", "_law_row", defArgs s__law_row, defBody s__law_row, defScope s__law_row, [], []⟩
def d__law_names : He.DefD := ⟨("_law_names", none), "_law_names", "_law_names", defArgs s__law_names, defBody s__law_names, defScope s__law_names, [], []⟩
def d__law_sign : He.DefD := ⟨("_law_sign", none), "_law_sign", "_law_sign", defArgs s__law_sign, defBody s__law_sign, defScope s__law_sign, [], []⟩
def d__law_spoilt : He.DefD := ⟨("_law_spoilt", none), "_law_spoilt", "_law_spoilt", defArgs s__law_spoilt, defBody s__law_spoilt, defScope s__law_spoilt, [], []⟩
def d__law_is_name : He.DefD := ⟨("_law_is_name", none), "_law_is_name", "_law_is_name", defArgs s__law_is_name, defBody s__law_is_name, defScope s__law_is_name, [], []⟩
def d__law_is_number : He.DefD := ⟨("_law_is_number", none), "_law_is_number", "_law_is_number", defArgs s__law_is_number, defBody s__law_is_number, defScope s__law_is_number, [], []⟩
def d__law_text : He.DefD := ⟨("_law_text", none), "_law_text", "_law_text", defArgs s__law_text, defBody s__law_text, defScope s__law_text, [], []⟩
def d_law : He.DefD := ⟨("law", none), "law", "law", defArgs s_law, defBody s_law, defScope s_law, [], []⟩
abbrev b_BadText_0 : Stmt := (defBody s_BadText___init__).getD 0 (.Pass ⟨0, 0, 0, 0⟩)
abbrev b_BadText_1 : Stmt := (defBody s_BadText___init__).getD 1 (.Pass ⟨0, 0, 0, 0⟩)
def de_BadText : Er.DE := ⟨"BadText", "BadText.__init__", defArgs s_BadText___init__, [b_BadText_0, b_BadText_1], defScope s_BadText___init__, ["text"]⟩
theorem sy_BadText : Er.Sy "BadText.__init__" (defArgs s_BadText___init__) (defScope s_BadText___init__) b_BadText_0 "not a written mark" ["text"] :=
  ⟨⟨_, rfl, rfl⟩, rfl, rfl, rfl, rfl, by decide +kernel, by decide +kernel, rfl, rfl, by decide +kernel, fun _ _ _ _ _ _ _ _ _ _ vs h => match vs, h with | [_], _ => rfl, ⟨_, _, _, _, _, _, rfl, fun _ _ _ _ _ _ _ _ _ _ _ => ⟨_, rfl, rfl, rfl⟩⟩⟩
theorem pu_BadText_0 : Er.Pu "BadText.__init__" (defArgs s_BadText___init__) (defScope s_BadText___init__) b_BadText_1 "text" := ⟨⟨_, _, _, _, rfl, fun _ _ _ _ _ _ _ _ _ _ _ => rfl⟩⟩
def fnL_0 : List He.DefD := [d_Numbered___init__, d_Named___init__, d_Mark___init__, d_is_name, d_is_number, d_as_bytes, d_written, d_read_mark, d__law_cell, d__law_mixed, d__law_row, d__law_names, d__law_sign, d__law_spoilt, d__law_is_name, d__law_is_number, d__law_text, d_law]
def fnL : List He.DefD := fnL_0
def faL_0 : List He.Fa := [.glo "is_name", .glo "is_number", .glo "as_bytes", .glo "written", .glo "read_mark", .glo "_law_cell", .glo "_law_mixed", .glo "_law_row", .glo "_law_names", .glo "_law_sign", .glo "_law_spoilt", .glo "_law_is_name", .glo "_law_is_number", .glo "_law_text", .glo "law", .free "len", .free "int", .free "abs", .free "range", .free "isinstance", .free "list", .free "ord", .free "str", .free "tuple", .free "ValueError", .glo "Mark", .cls "Mark", .noat "Mark" "lane", .noat "Mark" "row", .noat "Mark" "giving"]
def faL_1 : List He.Fa := [.noat "Mark" "name", .mkr "Mark", .glo "Numbered", .cls "Numbered", .glo "Named", .cls "Named", .str "SMALL" "abcdefghijklmnopqrstuvwxyz", .str "DIGITS" "0123456789", .int "LONGEST_NAME" 8, .int "MOST_DIGITS" 9, .glo "LaneError", .glo "UnknownName"]
def faL : List He.Fa := faL_0 ++ faL_1
def esL_0 : List Er.DE := [de_BadText]
def esL : List Er.DE := esL_0
def exB (K : PySem.W.Frag) : Bool := [decide (PySem.W.kitOne K (.ref (He.ga K "BadText")) (.ref (He.ga K "LaneError")) = some true), decide (PySem.W.kitOne K (.ref (He.ga K "BadText")) (.type "ValueError") = some true), decide (PySem.W.kitOne K (.ref (He.ga K "BadText")) (.ref (He.ga K "UnknownName")) = some false), decide (PySem.W.exmOne K (.ref (He.ga K "BadText")) (.ref (He.ga K "BadText")) = some true), L2.creadB K (He.ga K "Numbered"), L2.cvalB K (He.ga K "Numbered") "__init__" (He.fAd K ("Numbered", some "__init__")), L2.creadB K (He.ga K "Named"), L2.cvalB K (He.ga K "Named") "__init__" (He.fAd K ("Named", some "__init__")), L2.ownB K (He.ga K "Mark")].all id
def looseL_0 : List Str := ["LaneError", "UnknownName", "BadText", "SMALL", "DIGITS", "LONGEST_NAME", "MOST_DIGITS", "Numbered", "Named", "Mark", "is_name", "is_number", "as_bytes", "written", "read_mark", "_law_cell", "_law_mixed", "_law_row", "_law_names", "_law_sign", "_law_spoilt", "_law_is_name", "_law_is_number", "_law_text"]
def looseL : List Str := looseL_0
abbrev Rw : PySem.W.OpenRow := PySem.W.OpenLaw.row PySem.Challenge.rw_lanesdealt_k54_any_signs_of_a_mark
abbrev hkL : PySem.W.Hook := Hk.hook 400 Rw.prog faL fnL esL exB
def obL (s : PySem.W.SharedT) : Hk.AlH := Hk.obsN 400 Rw.prog faL fnL esL exB (HandSHeadRun.getT s)
theorem obL_eq (s : PySem.W.SharedT) : obL s = hkL.obs s.abs := Hk.obs_eq s
theorem runL (w : World) : HandSHeadRun.RunEq Rw (PySem.W.view Rw.prog [27]) hkL obL 3000 looseL w := by
  intro os
  kernel_rfl
section
variable {K : PySem.W.Frag} {h : Heap} {mg : Str → Option Value}
theorem tx_of (X : K.In h) (G : h.Ns mainGlobals mg) (c : Hk.SaysH Rw.prog faL fnL esL exB K) : Nonempty (Tx Rw.prog K mg) := by
  obtain ⟨v_Numbered___init__, f_Numbered___init__⟩ := c.d.def_ 0 (d := d_Numbered___init__) rfl
  obtain ⟨v_Named___init__, f_Named___init__⟩ := c.d.def_ 1 (d := d_Named___init__) rfl
  obtain ⟨v_Mark___init__, f_Mark___init__⟩ := c.d.def_ 2 (d := d_Mark___init__) rfl
  obtain ⟨v_is_name, f_is_name⟩ := c.d.def_ 3 (d := d_is_name) rfl
  obtain ⟨v_is_number, f_is_number⟩ := c.d.def_ 4 (d := d_is_number) rfl
  obtain ⟨v_as_bytes, f_as_bytes⟩ := c.d.def_ 5 (d := d_as_bytes) rfl
  obtain ⟨v_written, f_written⟩ := c.d.def_ 6 (d := d_written) rfl
  obtain ⟨v_read_mark, f_read_mark⟩ := c.d.def_ 7 (d := d_read_mark) rfl
  obtain ⟨v__law_cell, f__law_cell⟩ := c.d.def_ 8 (d := d__law_cell) rfl
  obtain ⟨v__law_mixed, f__law_mixed⟩ := c.d.def_ 9 (d := d__law_mixed) rfl
  obtain ⟨v__law_row, f__law_row⟩ := c.d.def_ 10 (d := d__law_row) rfl
  obtain ⟨v__law_names, f__law_names⟩ := c.d.def_ 11 (d := d__law_names) rfl
  obtain ⟨v__law_sign, f__law_sign⟩ := c.d.def_ 12 (d := d__law_sign) rfl
  obtain ⟨v__law_spoilt, f__law_spoilt⟩ := c.d.def_ 13 (d := d__law_spoilt) rfl
  obtain ⟨v__law_is_name, f__law_is_name⟩ := c.d.def_ 14 (d := d__law_is_name) rfl
  obtain ⟨v__law_is_number, f__law_is_number⟩ := c.d.def_ 15 (d := d__law_is_number) rfl
  obtain ⟨v__law_text, f__law_text⟩ := c.d.def_ 16 (d := d__law_text) rfl
  obtain ⟨v_law, f_law⟩ := c.d.def_ 17 (d := d_law) rfl
  have hx := List.all_eq_true.mp (show ([decide (PySem.W.kitOne K (.ref (He.ga K "BadText")) (.ref (He.ga K "LaneError")) = some true), decide (PySem.W.kitOne K (.ref (He.ga K "BadText")) (.type "ValueError") = some true), decide (PySem.W.kitOne K (.ref (He.ga K "BadText")) (.ref (He.ga K "UnknownName")) = some false), decide (PySem.W.exmOne K (.ref (He.ga K "BadText")) (.ref (He.ga K "BadText")) = some true), L2.creadB K (He.ga K "Numbered"), L2.cvalB K (He.ga K "Numbered") "__init__" (He.fAd K ("Numbered", some "__init__")), L2.creadB K (He.ga K "Named"), L2.cvalB K (He.ga K "Named") "__init__" (He.fAd K ("Named", some "__init__")), L2.ownB K (He.ga K "Mark")].all id) = true from c.x)
  simp only [List.mem_cons, List.not_mem_nil, or_false, forall_eq_or_imp, forall_eq, id_eq] at hx
  obtain ⟨x_0, x_1, x_2, x_3, x_4, x_5, x_6, x_7, x_8⟩ := hx
  exact ⟨{
    fd_Numbered___init__ := v_Numbered___init__, f_Numbered___init__ := f_Numbered___init__,
    b_Numbered___init__ := f_Numbered___init__.bindsN fun _ _ _ _ _ _ us hl => match us, hl with | [_, _], _ => rfl,
    fd_Named___init__ := v_Named___init__, f_Named___init__ := f_Named___init__,
    b_Named___init__ := f_Named___init__.bindsN fun _ _ _ _ _ _ us hl => match us, hl with | [_, _], _ => rfl,
    fd_Mark___init__ := v_Mark___init__, f_Mark___init__ := f_Mark___init__,
    b_Mark___init__ := f_Mark___init__.bindsN fun _ _ _ _ _ _ us hl => match us, hl with | [_, _, _, _, _], _ => rfl,
    fd_is_name := v_is_name, f_is_name := f_is_name,
    b_is_name := f_is_name.bindsN fun _ _ _ _ _ _ us hl => match us, hl with | [_], _ => rfl,
    g_is_name := He.glo_ok X G (c.d.fact 0 (f := .glo "is_name") rfl),
    fd_is_number := v_is_number, f_is_number := f_is_number,
    b_is_number := f_is_number.bindsN fun _ _ _ _ _ _ us hl => match us, hl with | [_], _ => rfl,
    g_is_number := He.glo_ok X G (c.d.fact 1 (f := .glo "is_number") rfl),
    fd_as_bytes := v_as_bytes, f_as_bytes := f_as_bytes,
    b_as_bytes := f_as_bytes.bindsN fun _ _ _ _ _ _ us hl => match us, hl with | [_], _ => rfl,
    g_as_bytes := He.glo_ok X G (c.d.fact 2 (f := .glo "as_bytes") rfl),
    fd_written := v_written, f_written := f_written,
    b_written := f_written.bindsN fun _ _ _ _ _ _ us hl => match us, hl with | [_], _ => rfl,
    g_written := He.glo_ok X G (c.d.fact 3 (f := .glo "written") rfl),
    fd_read_mark := v_read_mark, f_read_mark := f_read_mark,
    b_read_mark := f_read_mark.bindsN fun _ _ _ _ _ _ us hl => match us, hl with | [_], _ => rfl,
    g_read_mark := He.glo_ok X G (c.d.fact 4 (f := .glo "read_mark") rfl),
    fd__law_cell := v__law_cell, f__law_cell := f__law_cell,
    b__law_cell := f__law_cell.bindsN fun _ _ _ _ _ _ us hl => match us, hl with | [_, _], _ => rfl,
    g__law_cell := He.glo_ok X G (c.d.fact 5 (f := .glo "_law_cell") rfl),
    fd__law_mixed := v__law_mixed, f__law_mixed := f__law_mixed,
    b__law_mixed := f__law_mixed.bindsN fun _ _ _ _ _ _ us hl => match us, hl with | [_, _], _ => rfl,
    g__law_mixed := He.glo_ok X G (c.d.fact 6 (f := .glo "_law_mixed") rfl),
    fd__law_row := v__law_row, f__law_row := f__law_row,
    b__law_row := f__law_row.bindsN fun _ _ _ _ _ _ us hl => match us, hl with | [_, _, _], _ => rfl,
    g__law_row := He.glo_ok X G (c.d.fact 7 (f := .glo "_law_row") rfl),
    fd__law_names := v__law_names, f__law_names := f__law_names,
    b__law_names := f__law_names.bindsN fun _ _ _ _ _ _ us hl => match us, hl with | [_, _], _ => rfl,
    g__law_names := He.glo_ok X G (c.d.fact 8 (f := .glo "_law_names") rfl),
    fd__law_sign := v__law_sign, f__law_sign := f__law_sign,
    b__law_sign := f__law_sign.bindsN fun _ _ _ _ _ _ us hl => match us, hl with | [_], _ => rfl,
    g__law_sign := He.glo_ok X G (c.d.fact 9 (f := .glo "_law_sign") rfl),
    fd__law_spoilt := v__law_spoilt, f__law_spoilt := f__law_spoilt,
    b__law_spoilt := f__law_spoilt.bindsN fun _ _ _ _ _ _ us hl => match us, hl with | [_, _], _ => rfl,
    g__law_spoilt := He.glo_ok X G (c.d.fact 10 (f := .glo "_law_spoilt") rfl),
    fd__law_is_name := v__law_is_name, f__law_is_name := f__law_is_name,
    b__law_is_name := f__law_is_name.bindsN fun _ _ _ _ _ _ us hl => match us, hl with | [_], _ => rfl,
    g__law_is_name := He.glo_ok X G (c.d.fact 11 (f := .glo "_law_is_name") rfl),
    fd__law_is_number := v__law_is_number, f__law_is_number := f__law_is_number,
    b__law_is_number := f__law_is_number.bindsN fun _ _ _ _ _ _ us hl => match us, hl with | [_], _ => rfl,
    g__law_is_number := He.glo_ok X G (c.d.fact 12 (f := .glo "_law_is_number") rfl),
    fd__law_text := v__law_text, f__law_text := f__law_text,
    b__law_text := f__law_text.bindsN fun _ _ _ _ _ _ us hl => match us, hl with | [_], _ => rfl,
    g__law_text := He.glo_ok X G (c.d.fact 13 (f := .glo "_law_text") rfl),
    fd_law := v_law, f_law := f_law,
    b_law := f_law.bindsN fun _ _ _ _ _ _ us hl => match us, hl with | [_], _ => rfl,
    g_law := He.glo_ok X G (c.d.fact 14 (f := .glo "law") rfl),
    z_len := He.free_ok X G (c.d.fact 15 (f := .free "len") rfl),
    z_int := He.free_ok X G (c.d.fact 16 (f := .free "int") rfl),
    z_abs := He.free_ok X G (c.d.fact 17 (f := .free "abs") rfl),
    z_range := He.free_ok X G (c.d.fact 18 (f := .free "range") rfl),
    z_isinstance := He.free_ok X G (c.d.fact 19 (f := .free "isinstance") rfl),
    z_list := He.free_ok X G (c.d.fact 20 (f := .free "list") rfl),
    z_ord := He.free_ok X G (c.d.fact 21 (f := .free "ord") rfl),
    z_str := He.free_ok X G (c.d.fact 22 (f := .free "str") rfl),
    z_tuple := He.free_ok X G (c.d.fact 23 (f := .free "tuple") rfl),
    z_ValueError := He.free_ok X G (c.d.fact 24 (f := .free "ValueError") rfl),
    g_Mark := He.glo_ok X G (c.d.fact 25 (f := .glo "Mark") rfl), c_Mark := He.cls_ok (c.d.fact 26 (f := .cls "Mark") rfl),
    n_Mark_lane := He.noat_ok (c.d.fact 27 (f := .noat "Mark" "lane") rfl),
    n_Mark_row := He.noat_ok (c.d.fact 28 (f := .noat "Mark" "row") rfl),
    n_Mark_giving := He.noat_ok (c.d.fact 29 (f := .noat "Mark" "giving") rfl),
    n_Mark_name := He.noat_ok (c.d.fact 30 (f := .noat "Mark" "name") rfl),
    k_Mark := He.mkr_ok (c.d.fact 31 (f := .mkr "Mark") rfl),
    g_Numbered := He.glo_ok X G (c.d.fact 32 (f := .glo "Numbered") rfl), c_Numbered := He.cls_ok (c.d.fact 33 (f := .cls "Numbered") rfl),
    g_Named := He.glo_ok X G (c.d.fact 34 (f := .glo "Named") rfl), c_Named := He.cls_ok (c.d.fact 35 (f := .cls "Named") rfl),
    e_BadText := Er.err1 X G sy_BadText pu_BadText_0 (c.eo 0 de_BadText rfl) (c.ef 0 de_BadText rfl),
    g_SMALL := He.str_ok X G (c.d.fact 36 (f := .str "SMALL" "abcdefghijklmnopqrstuvwxyz") rfl),
    g_DIGITS := He.str_ok X G (c.d.fact 37 (f := .str "DIGITS" "0123456789") rfl),
    g_LONGEST_NAME := He.int_ok X G (c.d.fact 38 (f := .int "LONGEST_NAME" 8) rfl),
    g_MOST_DIGITS := He.int_ok X G (c.d.fact 39 (f := .int "MOST_DIGITS" 9) rfl),
    g_LaneError := He.glo_ok X G (c.d.fact 40 (f := .glo "LaneError") rfl),
    g_UnknownName := He.glo_ok X G (c.d.fact 41 (f := .glo "UnknownName") rfl),
    i_LaneError := of_decide_eq_true x_0,
    i_ValueError := of_decide_eq_true x_1,
    i_UnknownName := of_decide_eq_true x_2,
    x_BadText := of_decide_eq_true x_3,
    r_Numbered := cread_ok x_4,
    v_Numbered := cval_ok x_5,
    r_Named := cread_ok x_6,
    v_Named := cval_ok x_7,
    w_Mark := own_ok x_8,
  }⟩
end
end Toy
open PySem PySem.W PySem.Calls PyProof.Rows
theorem PySem.Challenge.cw_lanesdealt_k54_any_signs_of_a_mark_holds : PySem.Challenge.rw_lanesdealt_k54_any_signs_of_a_mark.Holds := by
  w_on; o_law
  refine HandSHeadRun.head_any (r := OpenLaw.row PySem.Challenge.rw_lanesdealt_k54_any_signs_of_a_mark) (q := view (OpenLaw.row PySem.Challenge.rw_lanesdealt_k54_any_signs_of_a_mark).prog [27]) (H := Toy.hkL) (ob := Toy.obL) (M := 3000) (loose := Toy.looseL) (d := HandSHeadRun.topDef (OpenLaw.row PySem.Challenge.rw_lanesdealt_k54_any_signs_of_a_mark).prog 27) (kwd := []) Toy.obL_eq
    (by kernel_rfl) (fun s => by kernel_rfl) Toy.runL (by kernel_rfl) (by kernel_rfl) (by kernel_rfl) (by rfl) (by first | assumption | decide +kernel) (by decide +kernel) ⟨rfl, rfl, rfl, rfl, rfl, by decide +kernel⟩ ?hw ?hc
  case hw => w_witness2
  case hc =>
    refine L2.walk_ofE (l := PySem.Challenge.rw_lanesdealt_k54_any_signs_of_a_mark) (n := 63) (k := 5) (x := "script") (CX := L2.CX0) rfl (by decide) (by kernel_rfl) ⟨rfl, by decide, by decide⟩ ?F (fun _ _ _ _ z => z)
    intro w mg fa h Y G hmg0
    obtain ⟨K, KX, c⟩ := Y
    have hmg : mg ("law" : PySem.Str) = some (.ref fa) := by
      have e : (HandSHeadRun.topDef (OpenLaw.row PySem.Challenge.rw_lanesdealt_k54_any_signs_of_a_mark).prog 27).name = ("law" : PySem.Str) := by kernel_rfl
      rw [← e]
      exact hmg0
    obtain ⟨T⟩ := Toy.tx_of KX G c
    have e := hmg.symm.trans T.g_law
    cases e
    have b := L2.FunD.bindsA (ps := ["script"]) T.f_law fun _ _ _ _ _ _ us hl => match us, hl with | [_], _ => rfl
    exact ⟨K, T.fd_law, Toy.spLaw K, KX, fun s v => b s [v] rfl, fun H a ns hl _ hS => ⟨a, ns, rfl, hS, hl, fun _ => rfl⟩, fun base _ _ => Toy.ok_law T⟩

