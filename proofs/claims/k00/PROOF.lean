import PyProof.Rows.All
import Wide.All
import OpenK.AllK
import Wide.FinOn
import KE.KStateDown
import Lean
import HandS.ForExc
import HandS.ExcInit
import HandS.ExcSuper
import KE.KExcSuper
import HandS.HeadWalk
import HandS.ExcValue
import HandS.Defaults
import HandS.ExcIs
import HandS.IsInst
import HandS.TryMany
import KE.KExcIs
import PyProof.EqAt
import PyProof.EqKinds
import PyProof.TupleCall
import HandS.HeadHook1
import HandS.HeadHook2
import HandS.Head0
import HandS.Head1
import HandS.Head2
import HandS.ForMost
import HandS.Evl
import HandS.Walk
import HandS.Codes
import HandS.Replace
import HandS.Style
import HandS.ListItems
import PyProof.StrOps2
import HandS.HeadEnd
import PySem.Challenge.RW_onetest_k00_names_words_errors
set_option Elab.async false
set_option linter.all false
set_option maxRecDepth 100000
set_option maxHeartbeats 4000000
/-! XA: an own exception whose __init__ says super().__init__(..), at the level of the machine. -/
namespace TEX
open PySem PySem.W PySem.Calls PyProof.Rows PySem.HandSPX
/-- the environment of a def that closes over __class__ -/
abbrev sEnv (q : Str) (scope : Scope) (L f : Addr) (cda cc : Addr) : Env := ksEnv q scope L f (.ref cda) cc
abbrev sFn (q : Str) (params : Arguments) (body : List Stmt) (scope : Scope) (dV kV doc pm : Value) (an : Option Addr) (cda : Addr) (ct : Value) (cc : Addr) : FuncData := ksFn "__init__" q params body scope dV kV doc pm an (.ref cda) ct cc
/-- what the written part says of the __init__ at f of the class at D -/
structure SupI (prog : Program) (K : Frag) (D f cc cda : Addr) (fd : FuncData) : Prop where
  lk : ∃ oc od osl, K.lookup f = some ⟨oc, od, .func fd, osl⟩
  code : codeIn K fd.code fd.qualname = true
  cda : ∃ ccl cdd vs ccs file tf, K.lookup cda = some ⟨ccl, cdd, .fields vs, ccs⟩ ∧ vs[2]? = some (.str file tf) ∧ ((prog.main.file : Str) == file) = true
  cell : ∃ cl cld csl, K.lookup cc = some ⟨cl, cld, .cell (some (.ref D)), csl⟩
  clsD : ∃ cdD, clsIn K D = some cdD
  sup : nsIn K mainGlobals "super" = some none
  opq : nsIn K cStatics "thirdparty.any" = some none
  top : (prog.main.scope.names.lookup ("super" : Str)).isSome = false
section
variable {prog : Program} {w : World} {M : Model} {A : Around} {E : Value → Shared → Prop} {h : Heap} {g : Array GenState} {d : Drawn} {t : Nat} {os : OsState}
variable {nm q : Str} {C N : Addr} {bs bm : List Value} {hdct : Bool} {sn : List Str} {sub : List Value} {ab : Bool} {col : Option Bool} {dd : Option Addr} {k0 k1 k2 k3 k5 : Option Value}
/-- ValueError.__init__ bound to the exception at e, called -/
theorem call_mw {u e t0 : Addr} {rest : List Value} {Q : Value → Shared → Prop}
    (hC : h.get? C = some (excClassObj nm q C N bs bm hdct sn sub ab col dd k0 k1 k2 k3 k5 "ValueError.__new__")) (he : h.get? e = some (excO C t0)) (hu : h.get? u = some (kxs_mw "ValueError.__init__" e)) (hrest : rest.length ≤ sizeLine)
    (hq : ∀ h' t1, (∀ b o, b ≠ e → h.get? b = some o → h'.get? b = some o) → h'.get? e = some (excO C t1) → Q .none ⟨h', g, d, t, os⟩) :
    wpAny (model prog w) A (call (.ref u) rest) Q E ⟨h, g, d, t, os⟩ := by
  refine wpAny_call (codeAny_of_tree ?_)
  show wpAny _ A.in1 (callAny (.ref u) ⟨rest, []⟩) _ _ _
  simp only [callAny]
  refine wpAny_bind (wpAny_load hu ?_)
  simp only [kxs_mw, show (Value.type "method-wrapper" == Value.type "method" || Value.type "method-wrapper" == Value.type "builtin_function_or_method" || Value.type "method-wrapper" == Value.type "method-wrapper") = true by decide, if_true]
  refine W.KFB.if_so (by decide) ?_
  refine wpAny_bind (ESX.check_bound F.excBase_ValueError hC he rfl ?_)
  refine wpAny_bind (wpAny_pure (wpAny_pure ?_))
  refine ⟨Code.quiet_builtin _ (by decide +kernel), codeAny_builtin F.excBase_ValueError.initEntry ?_⟩
  rw [Around.under_plainId F.excBase_ValueError.init.plain _]
  wp_walk
  refine hq _ h.objs.size (fun b o hb ho => ?_) ?_
  · rw [Heap.get?_update_other _ _ (Ne.symm hb)]
    exact Heap.get?_push_of_some _ ho
  · rw [Heap.get?_update_self _ (Heap.get?_push_of_some _ he) rfl]
    rfl
end
section
variable {prog : Program} {w : World} {A : Around} {E : Value → Shared → Prop} {s : Shared} {K : Frag} {mg mb : Str → Option Value} {base : Heap}
variable {D f cc cda x C : Addr} {fd : FuncData} {ox : Obj} {L : Addr} {m : Str → Option Value}
/-- super() in such a def: a new super object -/
theorem super_node {body : List Stmt} {q : Str} {scope : Scope} {p0 p1 : Pos} {attr : Str} {whole : Sem Value} {ar : Arg} {Q : Value → Shared → Prop}
    (S : SupI prog K D f cc cda fd) (X : K.In s.heap) (hg : s.heap.Ns mainGlobals mg) (hb : s.heap.Ns builtinsNs mb) (hbb : mb "super" = bootBuiltins "super")
    (hp : (fd.params.posonlyargs ++ fd.params.args).head? = some ar) (hn : s.heap.Ns L m) (hv : m ar.arg = some (.ref x)) (hx : s.heap.get? x = some ox) (hxc : ox.cls = .ref C) (hnc : ∀ c, ox.data ≠ .cls c)
    (hsub : mroIn K C (.ref D) = some true) (hat : (attr == ("__class__" : Str)) = false) (hks : scope.names.lookup ("super" : Str) = some .globalImplicit) (hkc : scope.names.lookup ("__class__" : Str) = some .free)
    (hka : scope.names.lookup ar.arg = some .local) (hk : scope.kind = .function)
    (h : ∀ h', h'.get? s.heap.objs.size = some (ks_superObj D x C) → (∀ b o, s.heap.get? b = some o → h'.get? b = some o) → Q (.ref s.heap.objs.size) { s with heap := h' }) :
    _root_.PySem.wpAt (model prog w) A (.func body (sEnv q scope L f cda cc)) (attributeBase (.Call (.Name "super" p0) [] [] p1) attr (sEnv q scope L f cda cc) whole) Q E s := by
  obtain ⟨hh, g, d, t, os⟩ := s
  obtain ⟨cdD, hD⟩ := S.clsD
  obtain ⟨oc, od, osl, hf⟩ := S.lk
  obtain ⟨ccl, cdd, vs, ccs, file, tf, hcode, hvs, hfile⟩ := S.cda
  obtain ⟨cl, cld, csl, hcell⟩ := S.cell
  obtain ⟨oD, hD1, hD2⟩ : ∃ oD, hh.get? D = some oD ∧ oD.data = .cls cdD := by
    unfold clsIn at hD
    split at hD
    · rename_i c d cd' sl ho
      cases hD
      exact ⟨_, X _ _ ho, rfl⟩
    · cases hD
  refine ks_wpAt_super_base (env := sEnv q scope L f cda cc) hks hkc hat rfl (X _ _ hf) rfl hp rfl (X _ _ hcode) rfl hvs hfile S.top ?_
  refine ks_loadName_global hk hks (loadGlobal_builtin (env := sEnv q scope L f cda cc) hg (mg_none_of X hg S.sup) hb (hbb.trans (by first | boot_by_name | rfl | kernel_rfl)) ⟨rfl, ?_⟩)
  refine wpAny_loadName_free hk hkc rfl ⟨_, X _ _ hcell, rfl⟩ ?_
  refine wpAny_loadName_local hk hka hn hv ?_
  refine ks_wpAny_isType_cls hD1 hD2 ⟨rfl, ?_⟩
  exact ks_wpAny_call_super hD1 hD2 hx hxc hnc (looks_mroIn X hsub) (fun h' e k => h h' e k)
end
end TEX
set_option Elab.async false
set_option linter.all false
set_option maxRecDepth 100000
set_option maxHeartbeats 4000000
/-! XB: the three forms of __init__. -/
namespace TEX
open PySem PySem.W PySem.Calls PyProof.Rows PySem.HandSPX
theorem scall_eq {o : Expr} {name : Str} {apos pos : Pos} {args : List Expr} {env : Env} (hf : methodCallForm (args.length + 0) (backTo pos (starEach args env)) [] = true) (hl : (apos.endLine == pos.line) = true) :
    eval (.Call (.Attribute o name apos) args [] pos) env = (do
      let ov ← attributeBase o name env (eval o env)
      standAt apos.atName
      let (f, first) ← holding [ov] (getMethod ov name (L2.plainOf o env))
      callWith pos f first (backTo pos (starEach args env)) []) := by
  show (do
      let ov ← attributeBase o name env (eval o env)
      standAt apos.atName
      methodCall o name apos pos env ov (args.length + 0) (backTo pos (starEach args env)) []) = _
  simp only [L2.mcall_line hf hl]
/-! ### the texts -/
def arg1 (n : Str) (p : Pos) : Arg := { arg := n, annotation := none, pos := p }
def teArgs (p1 p2 p3 : Pos) : Arguments := { posonlyargs := [], args := [arg1 "self" p1, arg1 "given" p2], vararg := none, kwonlyargs := [], kw_defaults := [], kwarg := none, defaults := [.Constant .none 0 p3] }
def supCall (args : List Expr) (q1 q2 q3 q5 q6 : Pos) : Stmt := .Expr (.Call (.Attribute (.Call (.Name "super" q1) [] [] q2) "__init__" q3) args [] q5) q6
def setSt (x : Str) (q7 q8 q9 q10 : Pos) : Stmt := .Assign [.Attribute (.Name "self" q7) x q8] (.Name x q9) q10
def teBody (q1 q2 q3 q4 q5 q6 q7 q8 q9 q10 : Pos) : List Stmt := [supCall [.Name "given" q4] q1 q2 q3 q5 q6, setSt "given" q7 q8 q9 q10]
def teScope : Scope := { kind := .function, names := [("self", .local), ("given", .local), ("__class__", .free), ("super", .globalImplicit)], isGenerator := false, isCoroutine := false, more := [] }
/-- what the written part says of an error class at C, TestError at D -/
structure ExK (K : Frag) (C D : Addr) : Prop where
  oc : L2.OexC K C
  sub : mroIn K C (.ref D) = some true
  sv : subIn K (.ref C) (.type "ValueError") = some true
  si : ks_superIn K C D "__init__" = some (some (.builtin "ValueError.__init__"))
  noG : findIn K (.ref C) "given" = some none
theorem kept_but {K : Frag} {h h' : Heap} {x : Addr} (X : K.In h) (hx : K.lookup x = none) (k : ∀ b o, b ≠ x → h.get? b = some o → h'.get? b = some o) : K.In h' := fun a o e =>
  k a o (fun z => by rw [z, hx] at e; cases e) (X a o e)
section
variable {prog : Program} {w : World} {A : Around} {R : Result → Shared → Prop} {s : Shared} {K : Frag} {mg mb : Str → Option Value}
variable {D f cc cda x C t0 : Addr}
theorem init_te {q : Str} {p1 p2 p3 q1 q2 q3 q4 q5 q6 q7 q8 q9 q10 : Pos} {dV kV doc pm ct v : Value} {an : Option Addr} {args : Args}
    (S : SupI prog K D f cc cda (sFn q (teArgs p1 p2 p3) (teBody q1 q2 q3 q4 q5 q6 q7 q8 q9 q10) teScope dV kV doc pm an cda ct cc)) (EC : ExK K C D)
    (X : K.In s.heap) (hlim : s.heap.NoLimit) (hg : s.heap.Ns mainGlobals mg) (hb : s.heap.Ns builtinsNs mb) (hbb : mb "super" = bootBuiltins "super")
    (hx : s.heap.get? x = some (excO C t0)) (hnx : K.lookup x = none) (hroom : A.depth < recursionLimit) (hl : (q3.endLine == q5.line) = true)
    (hbind : BindsTo s (sFn q (teArgs p1 p2 p3) (teBody q1 q2 q3 q4 q5 q6 q7 q8 q9 q10) teScope dV kV doc pm an cda ct cc) args [("self", .ref x), ("given", v)])
    (hq : ∀ h' tk dx t1, (∀ b o, b ≠ x → s.heap.get? b = some o → h'.get? b = some o) → s.heap.objs.size ≤ dx → dx ≠ x →
      h'.get? x = some { cls := .ref C, dict := some dx, data := .fields #[.ref t1, .none, .none, .none, .bool false, .none] } → h'.Ns1 dx (fun y => if y = "given" then some v else none) →
      R (.ok (.ret .none)) { s with heap := h', toks := tk }) :
    codeAny (model prog w) A (.call (.ref f) args) R s := by
  obtain ⟨oc, od, osl, hf⟩ := S.lk
  obtain ⟨nm, qq, N, bs, bm, sn, sub, ab, col, dd, k0, k1, k2, k3, k5, hC, hbm⟩ := EC.oc.cls
  have hcl : clsIn K C = some { name := nm, bases := bs, mro := .ref C :: bm, ns := N, qualname := qq, hasDict := true, slotNames := sn, subclasses := sub, abstract := ab, collection := col, hasDel := false } := by unfold clsIn; rw [hC] <;> rfl
  have hsi := EC.si
  unfold ks_superIn at hsi
  rw [hcl] at hsi
  refine ks_codeAny_call_defAt (fd := sFn q (teArgs p1 p2 p3) (teBody q1 q2 q3 q4 q5 q6 q7 q8 q9 q10) teScope dV kV doc pm an cda ct cc) (body := teBody q1 q2 q3 q4 q5 q6 q7 q8 q9 q10) (binds := [("self", .ref x), ("given", v)])
    hroom (X _ _ hf) rfl hlim (codeRec_of X S.code) rfl hbind (show ∀ y ∈ teScope.names, y.2 ≠ .cell by decide) (locs rfl) (fun h₁ hns k₁ => ?_)
  have hxL : x ≠ s.heap.objs.size := Nat.ne_of_lt (Heap.lt_size hx)
  have hx₁ := k₁ _ _ hx
  have X₁ := X.keeps k₁
  show _root_.PySem.wpAt (model prog w) (A.deeper (sEnv q teScope s.heap.objs.size f cda cc)) (.func (teBody q1 q2 q3 q4 q5 q6 q7 q8 q9 q10) (sEnv q teScope s.heap.objs.size f cda cc)) (execs (teBody q1 q2 q3 q4 q5 q6 q7 q8 q9 q10) (sEnv q teScope s.heap.objs.size f cda cc)) _ _ _
  refine ks_wpAt_execs_cons (ks_wpAt_Expr_any (ks_wpAt_MethodCall ?_ (scall_eq rfl hl)) rfl)
  refine super_node S X₁ (hg.keeps k₁) (hb.keeps k₁) hbb rfl hns (x := x) (C := C) rfl hx₁ rfl (fun c z => by cases z) EC.sub rfl rfl rfl rfl rfl (fun h₂ so k₂ => ?_)
  have X₂ := X₁.keeps k₂
  have hx₂ := k₂ _ _ hx₁
  have hT : W.Looks (model prog w) h₂ (typeOf (.ref x)) (.ref C) := fun A Q E s k q => wpAny_typeOf_ref (k _ _ hx₂) q
  have hI : W.Looks (model prog w) h₂ (isInstance (.ref x) (.type "ValueError")) true := hT.andThen (looks_subIn X₂ EC.sv)
  have hxC : x ≠ C := fun z => by rw [z] at hnx; rw [hnx] at hC; cases hC
  refine kxs_getMethod kxs_ValueError so (looks_opaque X₂ S.opq) (fun A Q E s k q => wpAny_bind ((looks_clsIn X₂ hcl) A _ E s k (wpAny_pure q))) rfl X₂ hsi hI hxC (by decide) ?_
  have k₃ : ∀ b o, h₂.get? b = some o → (h₂.push (kxs_mw "ValueError.__init__" x)).get? b = some o := fun b o e => Heap.get?_push_of_some _ e
  have k03 : ∀ b o, s.heap.get? b = some o → (h₂.push (kxs_mw "ValueError.__init__" x)).get? b = some o := fun b o e => k₃ _ _ (k₂ _ _ (k₁ _ _ e))
  have hns₃ := (hns.keeps k₂).keeps k₃
  have hu : (h₂.push (kxs_mw "ValueError.__init__" x)).get? h₂.objs.size = some (kxs_mw "ValueError.__init__" x) := Heap.get?_push_at rfl rfl
  refine kxs_callWith (i := "ValueError.__init__") (x := x) rfl (evalArgs_plain ?_)
  show wpAny _ _ (spliced ((false, eval (.Name "given" q4) (sEnv q teScope s.heap.objs.size f cda cc)) :: backTo q5 (starEach [] (sEnv q teScope s.heap.objs.size f cda cc)))) _ _ _
  refine spliced_cons (wpAny_Name (wpAny_loadName_local rfl rfl hns₃ (v := v) rfl (spliced_nil ⟨hu, ?_⟩)))
  refine call_mw (k03 _ _ (X _ _ hC)) (k03 _ _ hx) hu (by show 1 ≤ sizeLine; rw [sizeLine_eq]; omega) (fun h₄ t1 k₄ hx₄ => ?_)
  have k04 : ∀ b o, b ≠ x → s.heap.get? b = some o → h₄.get? b = some o := fun b o hb e => k₄ b o hb (k03 _ _ e)
  have hns₄ : h₄.Ns s.heap.objs.size (fun x_1 => List.lookup x_1 [(("self" : Str), Value.ref x), ("given", v)].reverse) := hns₃.at fun o e => k₄ _ o (Ne.symm hxL) e
  have X₄ := kept_but X hnx k04
  refine ks_wpAt_execs_cons (ks_wpAt_Assign_Attr (wpAt_of_wpAny (wpAny_Name (wpAny_loadName_local rfl rfl hns₄ (v := v) rfl (wpAny_Name (wpAny_loadName_local rfl rfl hns₄ (v := .ref x) rfl ?_))))))
  refine set_plain X₄ (ox := excO C t1) (od := none) ⟨hx₄, rfl, rfl, trivial⟩ EC.oc.sa ?_
  refine exc_osa X₄ hx₄ hcl (show refsVE (.ref C :: bm) = true from hbm) rfl EC.noG (fun h₅ tk₅ dx k₅ dn dne hx₅ hn₅ => ?_)
  refine wpAt_of_wpAny (wpAny_execs_nil ?_)
  refine hq h₅ _ dx t1 (fun b o hb e => k₅ b o hb (k04 b o hb e)) ?_ dne hx₅ hn₅
  have z1 : s.heap.objs.size < h₁.objs.size := hns.lt
  have z2 : s.heap.objs.size < h₄.objs.size := hns₄.lt
  exact Nat.le_of_lt (Nat.lt_of_lt_of_le z2 dn)
end
end TEX
set_option Elab.async false
set_option linter.all false
set_option maxRecDepth 100000
set_option maxHeartbeats 4000000
/-! XC: the __init__ of a class over TestError. -/
namespace TEX
open PySem PySem.W PySem.Calls PyProof.Rows PySem.HandSPX
def rfArgs (x : Str) (p1 p2 : Pos) : Arguments := { posonlyargs := [], args := [arg1 "self" p1, arg1 x p2], vararg := none, kwonlyargs := [], kw_defaults := [], kwarg := none, defaults := [] }
def r0Args (p1 : Pos) : Arguments := { posonlyargs := [], args := [arg1 "self" p1], vararg := none, kwonlyargs := [], kw_defaults := [], kwarg := none, defaults := [] }
def rfBody (x : Str) (q1 q2 q3 q5 q6 q7 q8 q9 q10 : Pos) : List Stmt := [supCall [] q1 q2 q3 q5 q6, setSt x q7 q8 q9 q10]
def r0Body (q1 q2 q3 q5 q6 : Pos) : List Stmt := [supCall [] q1 q2 q3 q5 q6]
def rfScope (x : Str) : Scope := { kind := .function, names := [("self", .local), (x, .local), ("__class__", .free), ("super", .globalImplicit)], isGenerator := false, isCoroutine := false, more := [] }
def r0Scope : Scope := { kind := .function, names := [("self", .local), ("__class__", .free), ("super", .globalImplicit)], isGenerator := false, isCoroutine := false, more := [] }
/-- TestError's __init__ at f, by its text -/
structure TeD (prog : Program) (K : Frag) (D f : Addr) (fd : FuncData) : Prop where
  ex : ∃ (cc cda : Addr) (q : Str) (p1 p2 p3 q1 q2 q3 q4 q5 q6 q7 q8 q9 q10 : Pos) (dV kV doc pm ct : Value) (an : Option Addr),
    fd = sFn q (teArgs p1 p2 p3) (teBody q1 q2 q3 q4 q5 q6 q7 q8 q9 q10) teScope dV kV doc pm an cda ct cc ∧ SupI prog K D f cc cda fd ∧ (q3.endLine == q5.line) = true
/-- what a field's name must not be -/
structure FxOk (fx : Str) : Prop where
  loc : ∀ {x v : Value}, ∀ y ∈ [(("self" : Str), x), (fx, v)], (rfScope fx).names.lookup y.1 = some .local
  nocell : ∀ y ∈ (rfScope fx).names, y.2 ≠ .cell
  self : ∀ {x v : Value}, [(("self" : Str), x), (fx, v)].reverse.lookup ("self" : Str) = some x
  val : ∀ {x v : Value}, [(("self" : Str), x), (fx, v)].reverse.lookup fx = some v
  sup : (rfScope fx).names.lookup ("super" : Str) = some .globalImplicit
  cls : (rfScope fx).names.lookup ("__class__" : Str) = some .free
  kx : (rfScope fx).names.lookup fx = some .local
  nd : (fx == ("__debug__" : Str)) = false
section
variable {prog : Program} {w : World} {A : Around} {R : Result → Shared → Prop} {s : Shared} {K : Frag} {mg mb : Str → Option Value}
variable {D f x C t0 : Addr} {fd : FuncData}
/-- what is left of a new error's object -/
structure TeEnd (h h' : Heap) (x C dx : Addr) (m : Str → Option Value) : Prop where
  keep : ∀ b o, b ≠ x → h.get? b = some o → h'.get? b = some o
  big : h.objs.size ≤ dx
  ne : dx ≠ x
  obj : ∃ t1, h'.get? x = some { cls := .ref C, dict := some dx, data := .fields #[.ref t1, .none, .none, .none, .bool false, .none] }
  ns : h'.Ns1 dx m
theorem run_te {v : Value} {args : Args} (T : TeD prog K D f fd) (EC : ExK K C D)
    (X : K.In s.heap) (hlim : s.heap.NoLimit) (hg : s.heap.Ns mainGlobals mg) (hb : s.heap.Ns builtinsNs mb) (hbb : mb "super" = bootBuiltins "super")
    (hx : s.heap.get? x = some (excO C t0)) (hnx : K.lookup x = none) (hroom : A.depth < recursionLimit) (hbind : BindsTo s fd args [("self", .ref x), ("given", v)])
    (hq : ∀ h' tk dx, TeEnd s.heap h' x C dx (fun y => if y = "given" then some v else none) → R (.ok (.ret .none)) { s with heap := h', toks := tk }) :
    codeAny (model prog w) A (.call (.ref f) args) R s := by
  obtain ⟨cc, cda, q, p1, p2, p3, q1, q2, q3, q4, q5, q6, q7, q8, q9, q10, dV, kV, doc, pm, ct, an, rfl, S, hl⟩ := T.ex
  exact init_te S EC X hlim hg hb hbb hx hnx hroom hl hbind fun h' tk dx t1 k dn ne ho hn => hq h' tk dx ⟨k, dn, ne, ⟨t1, ho⟩, hn⟩
/-- the call of super().__init__() in the __init__ of C itself -/
theorem sup_call {cc cda fT : Addr} {fdT : FuncData} {fdc : FuncData} {q : Str} {body : List Stmt} {scope : Scope} {L : Addr} {m : Str → Option Value} {ar : Arg} {q1 q2 q3 q5 q6 : Pos} {Q : Flow → Shared → Prop} {E : Value → Shared → Prop}
    (S : SupI prog K C f cc cda fdc) (T : TeD prog K D fT fdT) (kT : keepIn K (.ref fT) = true) (EC : ExK K C D) (hC0 : mroIn K C (.ref C) = some true) (si : ks_superIn K C C "__init__" = some (some (.ref fT))) (tT : typeIn K (.ref fT) = some (.type "function")) (hfT : fnIn K fT = true)
    (hbT : ∀ (s : Shared) (u : Value), K.In s.heap → BindsTo s fdT ⟨[u], []⟩ [("self", u), ("given", .none)])
    (X : K.In s.heap) (hlim : s.heap.NoLimit) (hg : s.heap.Ns mainGlobals mg) (hb : s.heap.Ns builtinsNs mb) (hbb : mb "super" = bootBuiltins "super")
    (hp : (fdc.params.posonlyargs ++ fdc.params.args).head? = some ar) (hn : s.heap.Ns L m) (hv : m ar.arg = some (.ref x))
    (hks : scope.names.lookup ("super" : Str) = some .globalImplicit) (hkc : scope.names.lookup ("__class__" : Str) = some .free)
    (hka : scope.names.lookup ar.arg = some .local) (hk : scope.kind = .function) (hl : (q3.endLine == q5.line) = true)
    (hx : s.heap.get? x = some (excO C t0)) (hnx : K.lookup x = none) (hroom : A.depth < recursionLimit)
    (hq : ∀ h' tk dx, TeEnd s.heap h' x C dx (fun y => if y = "given" then some .none else none) → Q .next { s with heap := h', toks := tk }) :
    _root_.PySem.wpAt (model prog w) A (.func body (sEnv q scope L f cda cc)) (exec (supCall [] q1 q2 q3 q5 q6) (sEnv q scope L f cda cc)) Q E s := by
  obtain ⟨nm, qq, N, bs, bm, sn, sub, ab, col, dd, k0, k1, k2, k3, k5, hC, hbm⟩ := EC.oc.cls
  have hcl : clsIn K C = some { name := nm, bases := bs, mro := .ref C :: bm, ns := N, qualname := qq, hasDict := true, slotNames := sn, subclasses := sub, abstract := ab, collection := col, hasDel := false } := by unfold clsIn; rw [hC] <;> rfl
  unfold ks_superIn at si
  rw [hcl] at si
  refine ks_wpAt_Expr_any (ks_wpAt_MethodCall ?_ (scall_eq rfl hl)) (by simp [interactive, hk]) rfl
  refine super_node S X hg hb hbb hp hn hv hx rfl (fun c z => by cases z) hC0 rfl hks hkc hka hk (fun h₂ so k₂ => ?_)
  have X₂ := X.keeps k₂
  have hx₂ := k₂ _ _ hx
  have hxC : x ≠ C := fun z => by rw [z] at hnx; rw [hnx] at hC; cases hC
  obtain ⟨of, hof, hofc⟩ : ∃ of, K.lookup fT = some of ∧ of.cls = .type "function" := by
    have ht' : (K.lookup fT).map (·.cls) = some (.type "function") := tT
    cases z : K.lookup fT with
    | none => rw [z] at ht'; cases ht'
    | some of => rw [z] at ht'; exact ⟨of, rfl, Option.some.inj ht'⟩
  refine ks_wpAny_getMethod_super so (looks_opaque X₂ S.opq) (fun A Q E s k q => wpAny_bind ((looks_clsIn X₂ hcl) A _ E s k (wpAny_pure q))) rfl X₂ si (X₂ _ _ hof) hofc hxC (by decide) ?_
  have k₃ : ∀ b o, h₂.get? b = some o → (h₂.push (methodObj (.ref fT) (.ref x))).get? b = some o := fun b o e => Heap.get?_push_of_some _ e
  have k03 : ∀ b o, s.heap.get? b = some o → (h₂.push (methodObj (.ref fT) (.ref x))).get? b = some o := fun b o e => k₃ _ _ (k₂ _ _ e)
  have hu : (h₂.push (methodObj (.ref fT) (.ref x))).get? h₂.objs.size = some (methodObj (.ref fT) (.ref x)) := Heap.get?_push_at rfl rfl
  refine callWith_M0 (K := K) (q := h₂.objs.size) (g := fT) (self := .ref x) ⟨hu, X.keeps k03⟩ hfT ?_
  refine wpAny_call (method_call hu ?_)
  refine run_te T EC (X.keeps k03) (hlim.keeps k03) (hg.keeps k03) (hb.keeps k03) hbb (k03 _ _ hx) hnx hroom (hbT _ _ (X.keeps k03)) (fun h' tk dx te => ?_)
  refine hq h' _ dx ⟨fun b o hb e => te.keep b o hb (k03 b o e), ?_, te.ne, te.obj, te.ns⟩
  refine Nat.le_trans ?_ te.big
  have z1 : s.heap.objs.size ≤ h₂.objs.size := Nat.le_of_lt (Heap.lt_size so)
  have z2 : h₂.objs.size < (h₂.push (methodObj (.ref fT) (.ref x))).objs.size := Heap.lt_size hu
  exact Nat.le_of_lt (Nat.lt_of_le_of_lt z1 z2)
/-- __init__(self, x): super().__init__(); self.x = x -/
theorem init_rf {cc cda fT : Addr} {fdT : FuncData} {fx q : Str} {p1 p2 q1 q2 q3 q5 q6 q7 q8 q9 q10 : Pos} {dV kV doc pm ct v : Value} {an : Option Addr} {args : Args}
    (S : SupI prog K C f cc cda (sFn q (rfArgs fx p1 p2) (rfBody fx q1 q2 q3 q5 q6 q7 q8 q9 q10) (rfScope fx) dV kV doc pm an cda ct cc)) (T : TeD prog K D fT fdT) (kT : keepIn K (.ref fT) = true) (EC : ExK K C D)
    (hC0 : mroIn K C (.ref C) = some true) (si : ks_superIn K C C "__init__" = some (some (.ref fT))) (tT : typeIn K (.ref fT) = some (.type "function")) (hfT : fnIn K fT = true)
    (hbT : ∀ (s : Shared) (u : Value), K.In s.heap → BindsTo s fdT ⟨[u], []⟩ [("self", u), ("given", .none)]) (noX : findIn K (.ref C) fx = some none) (hfx : FxOk fx)
    (X : K.In s.heap) (hlim : s.heap.NoLimit) (hg : s.heap.Ns mainGlobals mg) (hb : s.heap.Ns builtinsNs mb) (hbb : mb "super" = bootBuiltins "super")
    (hx : s.heap.get? x = some (excO C t0)) (hnx : K.lookup x = none) (hroom : A.depth + 1 < recursionLimit) (hl : (q3.endLine == q5.line) = true)
    (hbind : BindsTo s (sFn q (rfArgs fx p1 p2) (rfBody fx q1 q2 q3 q5 q6 q7 q8 q9 q10) (rfScope fx) dV kV doc pm an cda ct cc) args [("self", .ref x), (fx, v)])
    (hq : ∀ h' tk dx, TeEnd s.heap h' x C dx (fun y => if y = fx then some v else if y = "given" then some .none else none) → R (.ok (.ret .none)) { s with heap := h', toks := tk }) :
    codeAny (model prog w) A (.call (.ref f) args) R s := by
  obtain ⟨oc, od, osl, hf⟩ := S.lk
  obtain ⟨nm, qq, N, bs, bm, sn, sub, ab, col, dd, k0, k1, k2, k3, k5, hC, hbm⟩ := EC.oc.cls
  have hcl : clsIn K C = some { name := nm, bases := bs, mro := .ref C :: bm, ns := N, qualname := qq, hasDict := true, slotNames := sn, subclasses := sub, abstract := ab, collection := col, hasDel := false } := by unfold clsIn; rw [hC] <;> rfl
  refine ks_codeAny_call_defAt (fd := sFn q (rfArgs fx p1 p2) (rfBody fx q1 q2 q3 q5 q6 q7 q8 q9 q10) (rfScope fx) dV kV doc pm an cda ct cc) (body := rfBody fx q1 q2 q3 q5 q6 q7 q8 q9 q10) (binds := [("self", .ref x), (fx, v)])
    (Nat.lt_of_succ_lt hroom) (X _ _ hf) rfl hlim (codeRec_of X S.code) rfl hbind (show ∀ y ∈ (rfScope fx).names, y.2 ≠ .cell from hfx.nocell) hfx.loc (fun h₁ hns k₁ => ?_)
  have hxL : x ≠ s.heap.objs.size := Nat.ne_of_lt (Heap.lt_size hx)
  show _root_.PySem.wpAt (model prog w) (A.deeper (sEnv q (rfScope fx) s.heap.objs.size f cda cc)) (.func (rfBody fx q1 q2 q3 q5 q6 q7 q8 q9 q10) (sEnv q (rfScope fx) s.heap.objs.size f cda cc)) (execs (rfBody fx q1 q2 q3 q5 q6 q7 q8 q9 q10) (sEnv q (rfScope fx) s.heap.objs.size f cda cc)) _ _ _
  refine ks_wpAt_execs_cons ?_
  refine sup_call (s := { s with heap := h₁, toks := s.toks + 2 }) (L := s.heap.objs.size) (m := fun y => [(("self" : Str), Value.ref x), (fx, v)].reverse.lookup y) (ar := arg1 "self" p1) S T kT EC hC0 si tT hfT hbT (X.keeps k₁) (hlim.keeps k₁) (hg.keeps k₁) (hb.keeps k₁) hbb rfl hns hfx.self hfx.sup hfx.cls rfl rfl hl (k₁ _ _ hx) hnx hroom (fun h₂ tk dx te => ?_)
  obtain ⟨t1, hx₂⟩ := te.obj
  have k02 : ∀ b o, b ≠ x → s.heap.get? b = some o → h₂.get? b = some o := fun b o hb e => te.keep b o hb (k₁ b o e)
  have hns₂ : h₂.Ns s.heap.objs.size (fun y => [(("self" : Str), Value.ref x), (fx, v)].reverse.lookup y) := hns.at fun o e => te.keep _ o (Ne.symm hxL) e
  have X₂ := kept_but X hnx k02
  show _root_.PySem.wpAt _ _ _ (execs [setSt fx q7 q8 q9 q10] _) _ _ _
  refine ks_wpAt_execs_cons (ks_wpAt_Assign_Attr (wpAt_of_wpAny (wpAny_Name (wpAny_loadName_local rfl hfx.kx hns₂ (v := v) hfx.val (wpAny_Name (wpAny_loadName_local rfl rfl hns₂ (v := .ref x) hfx.self ?_))) hfx.nd)))
  obtain ⟨oD, _, _, hoD, _, _⟩ := te.ns
  refine set_plain X₂ (ox := { cls := .ref C, dict := some dx, data := .fields #[.ref t1, .none, .none, .none, .bool false, .none] }) (od := some oD) ⟨hx₂, rfl, rfl, hoD⟩ EC.oc.sa ?_
  refine OEX.osa_old (nl := ["given"]) X₂ hx₂ te.ns (fun y hy => ?_) (by decide) hcl (show refsVE (.ref C :: bm) = true from hbm) rfl noX (fun h' tk' k hn => ?_)
  · by_cases e : y = "given"
    · rw [e]; exact List.mem_cons_self ..
    · exact absurd (if_neg e) hy
  refine wpAt_of_wpAny (wpAny_execs_nil ?_)
  have hLs : s.heap.objs.size < h₁.objs.size := hns.lt
  have dn : s.heap.objs.size ≤ dx := Nat.le_trans (Nat.le_of_lt hLs) te.big
  refine hq h' _ dx ⟨fun b o hb e => k b o (fun z => ?_) (k02 b o hb e), dn, te.ne, ⟨t1, k _ _ (Ne.symm te.ne) hx₂⟩, hn⟩
  exact absurd (Heap.lt_size e) (by rw [z]; exact Nat.not_lt.mpr dn)
/-- __init__(self): super().__init__() -/
theorem init_r0 {cc cda fT : Addr} {fdT : FuncData} {q : Str} {p1 q1 q2 q3 q5 q6 : Pos} {dV kV doc pm ct : Value} {an : Option Addr} {args : Args}
    (S : SupI prog K C f cc cda (sFn q (r0Args p1) (r0Body q1 q2 q3 q5 q6) r0Scope dV kV doc pm an cda ct cc)) (T : TeD prog K D fT fdT) (kT : keepIn K (.ref fT) = true) (EC : ExK K C D)
    (hC0 : mroIn K C (.ref C) = some true) (si : ks_superIn K C C "__init__" = some (some (.ref fT))) (tT : typeIn K (.ref fT) = some (.type "function")) (hfT : fnIn K fT = true)
    (hbT : ∀ (s : Shared) (u : Value), K.In s.heap → BindsTo s fdT ⟨[u], []⟩ [("self", u), ("given", .none)])
    (X : K.In s.heap) (hlim : s.heap.NoLimit) (hg : s.heap.Ns mainGlobals mg) (hb : s.heap.Ns builtinsNs mb) (hbb : mb "super" = bootBuiltins "super")
    (hx : s.heap.get? x = some (excO C t0)) (hnx : K.lookup x = none) (hroom : A.depth + 1 < recursionLimit) (hl : (q3.endLine == q5.line) = true)
    (hbind : BindsTo s (sFn q (r0Args p1) (r0Body q1 q2 q3 q5 q6) r0Scope dV kV doc pm an cda ct cc) args [("self", .ref x)])
    (hq : ∀ h' tk dx, TeEnd s.heap h' x C dx (fun y => if y = "given" then some .none else none) → R (.ok (.ret .none)) { s with heap := h', toks := tk }) :
    codeAny (model prog w) A (.call (.ref f) args) R s := by
  obtain ⟨oc, od, osl, hf⟩ := S.lk
  refine ks_codeAny_call_defAt (fd := sFn q (r0Args p1) (r0Body q1 q2 q3 q5 q6) r0Scope dV kV doc pm an cda ct cc) (body := r0Body q1 q2 q3 q5 q6) (binds := [("self", .ref x)])
    (Nat.lt_of_succ_lt hroom) (X _ _ hf) rfl hlim (codeRec_of X S.code) rfl hbind (show ∀ y ∈ r0Scope.names, y.2 ≠ .cell by decide) (locs rfl) (fun h₁ hns k₁ => ?_)
  show _root_.PySem.wpAt (model prog w) (A.deeper (sEnv q r0Scope s.heap.objs.size f cda cc)) (.func (r0Body q1 q2 q3 q5 q6) (sEnv q r0Scope s.heap.objs.size f cda cc)) (execs (r0Body q1 q2 q3 q5 q6) (sEnv q r0Scope s.heap.objs.size f cda cc)) _ _ _
  refine ks_wpAt_execs_cons ?_
  refine sup_call (s := { s with heap := h₁, toks := s.toks + 1 }) (L := s.heap.objs.size) (m := fun y => [(("self" : Str), Value.ref x)].reverse.lookup y) (ar := arg1 "self" p1) S T kT EC hC0 si tT hfT hbT (X.keeps k₁) (hlim.keeps k₁) (hg.keeps k₁) (hb.keeps k₁) hbb rfl hns rfl rfl rfl rfl rfl hl (k₁ _ _ hx) hnx hroom (fun h₂ tk dx te => ?_)
  refine wpAt_of_wpAny (wpAny_execs_nil ?_)
  have hLs : s.heap.objs.size < h₁.objs.size := hns.lt
  exact hq h₂ _ dx ⟨fun b o hb e => te.keep b o hb (k₁ b o e), Nat.le_trans (Nat.le_of_lt hLs) te.big, te.ne, te.obj, te.ns⟩
end
end TEX
set_option Elab.async false
set_option linter.all false
set_option maxRecDepth 100000
set_option maxHeartbeats 4000000
/-! XD: an own error made with keywords. -/
namespace PySem
namespace TEXK
open HandSPX
abbrev kdv_tup := @PySem.W.kdv_tup
section
variable {M : Model} {A : Around} {E : Value → Shared → Prop} {h : Heap} {g : Array GenState} {d : Drawn} {t : Nat} {os : OsState}
variable {nm q : Str} {C N : Addr} {bs bm bmB : List Value} {hdct : Bool} {sn : List Str} {sub : List Value} {ab : Bool} {col : Option Bool} {dd : Option Addr} {k0 k1 k2 k3 k5 : Option Value} {B newId initId : String}
theorem check_newK (F : ExcBaseFacts B newId initId bmB) (hT : ∀ X : String, bm.contains (.type X) = bmB.contains (.type X)) {rest : List Value} {kw : List (Str × Value)} {Q : Unit → Shared → Prop}
    (hC : h.get? C = some (excClassObj nm q C N bs bm hdct sn sub ab col dd k0 k1 k2 k3 k5 newId)) (hq : Q () ⟨h, g, d, t, os⟩) : wpAny M A (checkBuiltinCall newId ⟨.ref C :: rest, kw⟩) Q E ⟨h, g, d, t, os⟩ := by
  have hB : (Value.ref C :: bm).contains (.type B) = true := by rw [List.contains_cons, hT, F.hasB, Bool.or_true]
  have hstar := F.noStar
  simp only [checkBuiltinCall, F.newKind, F.newSplit, F.newRow]
  repeat (first | refine wpAny_loadPart_at hC ?_ | (refine wpAny_isSubtype_exc hC ?_; rw [hB]) | refine wpAny_staticBase_exc hC ?_ | refine wpAny_madeBy_exc hC ?_ | simp only [bne_self_eq_false, Bool.false_eq_true, if_false] | wp_step)
  exact hq
end
section
variable {prog : Program} {w : World} {A : Around} {E : Value → Shared → Prop} {R : Result → Shared → Prop} {h : Heap} {g : Array GenState} {d : Drawn} {t : Nat} {os : OsState}
variable {nm q : Str} {C N : Addr} {bs bm bmB : List Value} {hdct : Bool} {sn : List Str} {sub : List Value} {ab : Bool} {col : Option Bool} {dd : Option Addr} {k0 k1 k2 k3 k5 : Option Value} {B newId initId : String}
theorem newK (F : ExcBaseFacts B newId initId bmB) (hT : ∀ X : String, bm.contains (.type X) = bmB.contains (.type X)) {rest : List Value} {kw : List (Str × Value)}
    (hC : h.get? C = some (excClassObj nm q C N bs bm hdct sn sub ab col dd k0 k1 k2 k3 k5 newId))
    (hq : R (.ok (.ret (.ref (h.objs.size + 1)))) ⟨(h.push (kdv_tup rest)).push (excO C h.objs.size), g, d, t, os⟩) (hrest : rest.length ≤ sizeLine) :
    codeAny (model prog w) A (.builtin newId ⟨.ref C :: rest, kw⟩) R ⟨h, g, d, t, os⟩ := by
  have hends := F.ends
  have hB : (Value.ref C :: bm).contains (.type B) = true := by rw [List.contains_cons, hT, F.hasB, Bool.or_true]
  have hA : (Value.ref C :: bm).contains (.type "AttributeError") = false := by rw [List.contains_cons, hT, F.noAttr]; rfl
  have hN : (Value.ref C :: bm).contains (.type "NameError") = false := by rw [List.contains_cons, hT, F.noName]; rfl
  refine codeAny_builtinAt F.entry ?_
  unfold Builtin.«BaseException.__new__»
  refine wpAt_bind ?_
  show wpAt _ _ _ (stack >>= _) _ _ _
  refine wpAt_bind (wpAt_stack fun p below => wpAt_of_wpAny ?_)
  wp_walk
  refine wpAt_of_wpAny ?_
  rw [F.owner]
  repeat (first | with_reducible refine wpAny_madeHere_exc F.canon hC ?_ | with_reducible refine wpAny_loadPart_at hC ?_ | (with_reducible refine wpAny_isSubtype_exc hC ?_; first | rw [hB] | rw [hA] | rw [hN]) | wp_step)
  show R _ _
  rw [Heap.size_push]
  exact hq
theorem type_callK (F : ExcBaseFacts B newId initId bmB) (hT : ∀ X : String, bm.contains (.type X) = bmB.contains (.type X)) {rest : List Value} {kw : List (Str × Value)} {fI : Addr} {Q : Fin → Shared → Prop}
    (hC : h.get? C = some (excClassObj nm q C N bs bm hdct sn sub ab col dd k0 k1 k2 k3 k5 newId))
    (hi : W.Looks (model prog w) h (typeLookup (.ref C) "__init__") (some (.ref fI))) (hb : ∀ self, W.Looks (model prog w) h (bindSpecial (.ref fI) self) (.ref fI, [self])) (hrest : rest.length ≤ sizeLine)
    (hq : codeAny (model prog w) A (.call (.ref fI) ⟨.ref (h.objs.size + 1) :: rest, kw⟩)
      (fun r s' => match r with | .ok (.ret v) => v = .none ∧ Q (.done (.ret (.ref (h.objs.size + 1)))) s' | .ok _ => False | .error e => E e s')
      ⟨(h.push (kdv_tup rest)).push (excO C h.objs.size), g, d, t, os⟩) :
    wpAny (model prog w) A (Builtin.«type.__call__» ⟨.ref C :: rest, kw⟩) Q E ⟨h, g, d, t, os⟩ := by
  repeat (first | with_reducible refine wpAny_loadPart_at hC ?_ | with_reducible refine wpAny_madeBy_exc hC ?_ | wp_step)
  refine codeAny_call_builtin_code (Code.quiet_builtin _ F.quiet) (check_newK F hT hC ?_)
  refine newK F hT hC ?_ hrest
  show wpAny _ _ _ _ _ _
  have k : ∀ b o, h.get? b = some o → ((h.push (kdv_tup rest)).push (excO C h.objs.size)).get? b = some o := fun b o e => Heap.get?_push_of_some _ (Heap.get?_push_of_some _ e)
  have hC₁ := k _ _ hC
  have hget : ((h.push (kdv_tup rest)).push (excO C h.objs.size)).get? (h.objs.size + 1) = some (excO C h.objs.size) := by heap_get
  have hcC : (Value.ref C :: bm).contains (.ref C) = true := by simp
  have i1 := hi.keeps k
  have b1 := (hb (.ref (h.objs.size + 1))).keeps k
  unfold isInstance
  repeat (first | with_reducible refine wpAny_loadPart_at hget ?_ | (with_reducible refine wpAny_isSubtype_exc hC₁ ?_; rw [hcC]) | wp_step)
  show wpAny _ _ (typeLookup (.ref C) _) _ _ _
  refine i1.at ?_
  refine wpAny_holding (wpAny_bind (b1.at ?_))
  refine wpAny_bind (wpAny_call (codeAny_mono hq fun r s' z => ?_))
  rcases r with e | (v | _ | _ | _) <;> first | exact z | exact z.elim | skip
  obtain ⟨rfl, z⟩ := z
  first
    | exact wpAny_pure (wpAny_pure z)
    | (wp_walk; exact z)
theorem callK (F : ExcBaseFacts B newId initId bmB) (hT : ∀ X : String, bm.contains (.type X) = bmB.contains (.type X)) {rest : List Value} {kw : List (Str × Value)} {fI : Addr}
    (hC : h.get? C = some (excClassObj nm q C N bs bm hdct sn sub ab col dd k0 k1 k2 k3 k5 newId))
    (hi : W.Looks (model prog w) h (typeLookup (.ref C) "__init__") (some (.ref fI))) (hb : ∀ self, W.Looks (model prog w) h (bindSpecial (.ref fI) self) (.ref fI, [self])) (hrest : rest.length ≤ sizeLine)
    (hq : codeAny (model prog w) (A.under (.builtin "type.__call__" ⟨.ref C :: rest, kw⟩)) (.call (.ref fI) ⟨.ref (h.objs.size + 1) :: rest, kw⟩) (W.InitBack (h.objs.size + 1) R)
      ⟨(h.push (kdv_tup rest)).push (excO C h.objs.size), g, d, t, os⟩) :
    codeAny (model prog w) A (.call (.ref C) ⟨rest, kw⟩) R ⟨h, g, d, t, os⟩ := by
  have f1 := tc_lookup
  have f2 := tc_bind (.ref C)
  have hTy : (⟨h, g, d, t, os⟩ : Shared).TypeIs (.ref C) "type" := ⟨_, hC, rfl⟩
  refine codeAny_of_tree ?_
  show wpAny _ _ (callAny (.ref C) _) _ _ _
  repeat (any_goals (first | assumption | with_reducible refine wpAny_loadPart_at hC ?_ | wp_step))
  refine ⟨rfl, ?_⟩
  refine codeAny_call_builtin_at (Code.quiet_builtin _ (by decide +kernel)) entry_typeCall (wpAny_check_type_call_sub hC (type_callK F hT hC hi hb hrest ?_))
  refine codeAny_mono hq fun r s' z => ?_
  rcases r with e | (v | _ | _ | _) <;> exact z
end
end TEXK
end PySem
set_option Elab.async false
set_option linter.all false
set_option maxRecDepth 100000
set_option maxHeartbeats 4000000
/-! XE: own errors made, over the layer. -/
namespace TEX
open PySem PySem.W PySem.Calls PyProof.Rows PySem.HandSPX
open L2 (V Vals RelV RelO Hp HO exo exd OexC)
/-- C(us ..): an error with the fields F us -/
structure CMk (prog : Program) (w : World) (K : Frag) (C fI : Addr) (fd : FuncData) (ps : List Str) (Fs : List V → List (Str × V)) : Prop where
  oc : OexC K C
  iC : findIn K (.ref C) "__init__" = some (some (.ref fI))
  tI : typeIn K (.ref fI) = some (.type "function")
  run : ∀ (A : Around) (R : Result → Shared → Prop) (s : Shared) (mg mb : Str → Option Value) (x t0 : Addr) (args : Args) (us : List Value), K.In s.heap → s.heap.NoLimit → s.heap.Ns mainGlobals mg → s.heap.Ns builtinsNs mb → mb "super" = bootBuiltins "super" →
    s.heap.get? x = some (excO C t0) → K.lookup x = none → A.depth + 1 < recursionLimit → us.length = ps.length → BindsTo s fd args ((("self" : Str) :: ps).zip (.ref x :: us)) →
    (∀ h' tk dx m, TeEnd s.heap h' x C dx m → (∀ vs, Vals vs us → ∀ f, RelO ((Fs vs).lookup f) (m f)) → R (.ok (.ret .none)) { s with heap := h', toks := tk }) →
    codeAny (model prog w) A (.call (.ref fI) args) R s
/-- the heap behind: a new error at x, its dict at dx -/
structure Made (h h' : Heap) (x C dx : Addr) (m : Str → Option Value) : Prop where
  keep : ∀ b o, h.get? b = some o → h'.get? b = some o
  bigX : h.objs.size ≤ x
  bigD : h.objs.size ≤ dx
  ne : dx ≠ x
  obj : ∃ t1, h'.get? x = some { cls := .ref C, dict := some dx, data := .fields #[.ref t1, .none, .none, .none, .bool false, .none] }
  ns : h'.Ns1 dx m
section
variable {prog : Program} {w : World} {A : Around} {R : Result → Shared → Prop} {s : Shared} {K : Frag} {mg mb : Str → Option Value}
variable {C fI : Addr} {fd : FuncData} {ps : List Str} {Fs : List V → List (Str × V)}
theorem made_run (T : CMk prog w K C fI fd ps Fs) {rest us : List Value} {kw : List (Str × Value)} (X : K.In s.heap) (hlim : s.heap.NoLimit) (hg : s.heap.Ns mainGlobals mg) (hb : s.heap.Ns builtinsNs mb) (hbb : mb "super" = bootBuiltins "super")
    (hroom : A.depth + 2 < recursionLimit) (hrest : rest.length ≤ sizeLine) (hl : us.length = ps.length)
    (hbind : ∀ (s : Shared) (x : Addr), K.In s.heap → BindsTo s fd ⟨.ref x :: rest, kw⟩ ((("self" : Str) :: ps).zip (.ref x :: us)))
    (hq : ∀ h' tk x dx m, Made s.heap h' x C dx m → (∀ vs, Vals vs us → ∀ f, RelO ((Fs vs).lookup f) (m f)) → R (.ok (.ret (.ref x))) { s with heap := h', toks := tk }) :
    codeAny (model prog w) A (.call (.ref C) ⟨rest, kw⟩) R s := by
  obtain ⟨nm, qq, N, bs, bm, sn, sub, ab, col, dd, k0, k1, k2, k3, k5, hC, hbm⟩ := T.oc.cls
  obtain ⟨hp, g, dr, tk, os⟩ := s
  have k : ∀ b o, hp.get? b = some o → ((hp.push (PySem.W.kdv_tup rest)).push (excO C hp.objs.size)).get? b = some o := fun b o e => Heap.get?_push_of_some _ (Heap.get?_push_of_some _ e)
  have hget : ((hp.push (PySem.W.kdv_tup rest)).push (excO C hp.objs.size)).get? (hp.objs.size + 1) = some (excO C hp.objs.size) := by heap_get
  have hnx : K.lookup (hp.objs.size + 1) = none := by
    cases e : K.lookup (hp.objs.size + 1) with
    | none => rfl
    | some o => exact absurd (Nat.lt_of_succ_lt (Heap.lt_size (X _ _ e))) (Nat.lt_irrefl _)
  refine TEXK.callK F.excBase_ValueError (fun Y => refsVE_contains Y bm hbm) (X _ _ hC) (looks_findIn X T.iC) (fun self => bind_fn X self T.tI) hrest ?_
  refine T.run _ _ ⟨(hp.push (PySem.W.kdv_tup rest)).push (excO C hp.objs.size), g, dr, tk, os⟩ mg mb (hp.objs.size + 1) hp.objs.size _ us (X.keeps k) (hlim.keeps k) (hg.keeps k) (hb.keeps k) hbb hget hnx ?_ hl (hbind _ _ (X.keeps k)) (fun h' tk' dx m te rel => ?_)
  · show A.depth + 1 + 1 < recursionLimit
    exact hroom
  · have old : ∀ b o, hp.get? b = some o → h'.get? b = some o := fun b o e => te.keep b o (Nat.ne_of_lt (Nat.lt_succ_of_lt (Heap.lt_size e))) (k b o e)
    have z : hp.objs.size ≤ dx := by
      have q := te.big
      rw [Heap.size_push, Heap.size_push] at q
      omega
    exact ⟨rfl, hq h' tk' (hp.objs.size + 1) dx m ⟨old, Nat.le_succ _, z, te.ne, te.obj, te.ns⟩ rel⟩
end
end TEX

namespace L2
open PySem PySem.Spec PyProof.Rows TEX
/-- a new error at x of the class at C, its dict at dx with the fields fs -/
def putE (H : Hp) (x C dx : Addr) (fs : List (Str × V)) : Hp := upd (upd H dx (exd dx fs)) x (exo x C (some dx))
/-- C(es ..) as a value -/
def tMkV (C : Addr) (n : Nat) (Fs : List V → List (Str × V)) (t : TA) : TE := fun σ H Q => t σ H fun vs H1 => vs.length = n ∧ ∀ x dx, H1 x = none → H1 dx = none → dx ≠ x → Q (.ref x) (putE H1 x C dx (Fs vs))
section
variable {X : Cx} {C fI : Addr} {fd : FuncData} {ps : List Str} {Fs : List V → List (Str × V)}
theorem made_inv {pins : List (Addr × Obj)} {σ : St} {H : Hp} {s : Shared} {h' : Heap} {tk : Nat} {x dx : Addr} {m : Str → Option Value} {fs : List (Str × V)} (I : Inv X pins σ H s) (md : Made s.heap h' x C dx m) (r : ∀ f, RelO (fs.lookup f) (m f)) :
    H x = none ∧ H dx = none ∧ Inv X pins σ (putE H x C dx fs) { s with heap := h', toks := tk } := by
  have nx : H x = none := I.hok.fresh md.bigX
  have nd : H dx = none := I.hok.fresh md.bigD
  have nx2 : (upd H dx (exd dx fs)) x = none := by rw [upd_ne (Ne.symm md.ne)]; exact nx
  obtain ⟨t1, ho⟩ := md.obj
  have u1 : Un X.fs [] H (upd H dx (exd dx fs)) s.heap s.heap := Un.laid (fun _ _ q => q) md.bigD nd
  have u2 : Un X.fs [] (upd H dx (exd dx fs)) (putE H x C dx fs) s.heap h' := Un.laid md.keep md.bigX nx2
  have k1 : HOk X.prog X.w (upd H dx (exd dx fs)) h' := I.hok.laidN md.keep nd (exd_ok md.ns r)
  have k2 : HOk X.prog X.w (putE H x C dx fs) h' := k1.laidN (fun _ _ q => q) nx2 (exo_ok ho)
  exact ⟨nx, nd, I.un (t' := tk) (u1.trans u2) k2⟩
theorem Room.two {k : Nat} {A : Around} (r : Room k A) : A.depth + 2 < recursionLimit := by
  have := r.dp
  omega
/-- positional and named binds of the class's __init__ -/
def BindE (K : PySem.W.Frag) (fd : FuncData) (ps ks : List Str) (n : Nat) : Prop := ∀ (us ws : List Value), us.length = n → ws.length = ks.length → n + ks.length = ps.length → ∀ (s : Shared) (x : Addr), K.In s.heap → BindsTo s fd ⟨.ref x :: us, ks.zip ws⟩ ((("self" : Str) :: ps).zip (.ref x :: (us ++ ws)))
theorem run_mkV {k : Nat} {ks : List Str} {n : Nat} {pins : List (Addr × Obj)} {σ : St} {H : Hp} {s : Shared} {Q : VK} {us ws : List Value} {vs zs : List V} (T : CMk X.prog X.w X.K C fI fd ps Fs) (hr : Room k X.A) (hb : BindE X.K fd ps ks n) (hn : n + ks.length = ps.length) (hn2 : n ≤ 1000)
    (I : Inv X pins σ H s) (r : Vals vs us) (rz : Vals zs ws) (l1 : vs.length = n) (l2 : zs.length = ks.length) (h : ∀ x dx, H x = none → H dx = none → dx ≠ x → Q (.ref x) (putE H x C dx (Fs (vs ++ zs)))) :
    wpAny (model X.prog X.w) X.A (call (.ref C) us (ks.zip ws)) (EP X pins σ Q) X.xe s := by
  have e1 : us.length = n := r.length.symm.trans l1
  have e2 : ws.length = ks.length := rz.length.symm.trans l2
  obtain ⟨mb, hmb, hbt⟩ := I.ok.mod.blt
  refine wpAny_call (made_run (mg := X.mg) (mb := mb) (us := us ++ ws) T I.kIn I.nolimit (I.ok.mod.glob.keeps I.bk) (hmb.keeps I.bk) (hbt _ (by decide)) hr.two ?_ ?_ (hb us ws e1 e2 hn) (fun h' tk x dx m md rel => ?_))
  · rw [e1, PySem.sizeLine_eq]; omega
  · rw [List.length_append, e1, e2, hn]
  · obtain ⟨nx, nd, J⟩ := made_inv (tk := tk) I md (rel _ (r.append rz))
    exact ⟨.ref x, _, J, rfl, h x dx nx nd md.ne⟩
variable {x : Str} {p pos : Pos} {e : Expr} {es : List Expr} {kws : List Keyword} {t tk : TA} {k : Nat}
theorem pe_mkV {n : Nat} (T : CMk X.prog X.w X.K C fI fd ps Fs) (hr : Room k X.A) (hg : Gl X x) (hm : X.mg x = some (.ref C)) (hb : BindE X.K fd ps [] n) (hn : n = ps.length) (hn2 : n ≤ 1000) (ha : PA X (e :: es) t)
    (hdb : (x == ("__debug__" : Str)) = false := by decide) (he : starEach (e :: es) X.env = (false, eval e X.env) :: starEach es X.env := by rfl) (hpl : (backTo pos (starEach es X.env)).any (·.1) = false := by rfl) :
    PE X (.Call (.Name x p) (e :: es) [] pos) (tMkV C n Fs t) := by
  refine ⟨fun pins s σ H Q I h => ?_⟩
  refine wpAny_Call_Name_kw (ld_glob I hg hm ?_ hdb)
  refine PySem.W.callWith_K (h₀ := X.base) I.ok.mod.kin T.oc.kC (thn (ha.run pos pins s σ H _ I h) fun us s1 ⟨vs, H1, I1, r, l, q⟩ => ⟨I1.kIn, ?_⟩) he hpl
  exact run_mkV (ks := []) (zs := []) (ws := []) T hr hb hn hn2 I1 r .nil l rfl (by rw [List.append_nil]; exact q)
theorem pe_mkV0 (T : CMk X.prog X.w X.K C fI fd ps Fs) (hr : Room k X.A) (hg : Gl X x) (hm : X.mg x = some (.ref C)) (hb : BindE X.K fd ps [] 0) (hn : 0 = ps.length)
    (hdb : (x == ("__debug__" : Str)) = false := by decide) : PE X (.Call (.Name x p) [] [] pos) (tMkV C 0 Fs tNil) := by
  refine ⟨fun pins s σ H Q I h => ?_⟩
  refine wpAny_Call_Name_kw (ld_glob I hg hm ?_ hdb)
  refine PySem.W.callWith_K0 I.kIn T.oc.kC ?_
  exact run_mkV (ks := []) (zs := []) (ws := []) (us := []) (vs := []) T hr hb hn (by decide) I .nil .nil rfl rfl h.2
/-- C(k = e ..) as a value -/
theorem pe_mkVK {ks : List Str} (T : CMk X.prog X.w X.K C fI fd ps Fs) (hr : Room k X.A) (hg : Gl X x) (hm : X.mg x = some (.ref C)) (hb : BindE X.K fd ps ks 0) (hn : 0 + ks.length = ps.length) (hkw : PK X kws tk)
    (hall : (backToKw pos (keywordEach kws X.env)).all (·.1.isSome) = true := by rfl) (hks : (backToKw pos (keywordEach kws X.env)).filterMap (·.1) = ks := by rfl) (hdb : (x == ("__debug__" : Str)) = false := by decide)
    (hpl : ((backTo pos (starEach [] X.env)).any (·.1) || (backToKw pos (keywordEach kws X.env)).any (·.1.isNone)) = false := by rfl) :
    PE X (.Call (.Name x p) [] kws pos) (tMkV C ks.length Fs tk) := by
  refine ⟨fun pins s σ H Q I h => ?_⟩
  refine wpAny_Call_Name_kw (ld_glob I hg hm ?_ hdb)
  refine PySem.W.callWith_KW0 (h₀ := X.base) (K := X.K) I.ok.mod.kin T.oc.kC hall (thn (hkw.run pos pins s σ H _ I h) fun ws s2 ⟨zs, H2, I2, rz, l2, q2⟩ => ⟨I2.kIn, ?_⟩) hpl
  rw [hks]
  exact run_mkV (us := []) (vs := []) (n := 0) T hr hb hn (by decide) I2 .nil rz rfl l2 (by rw [List.nil_append]; exact q2)
end
end L2
set_option Elab.async false
set_option linter.all false
set_option maxRecDepth 100000
set_option maxHeartbeats 4000000
/-! XF: own errors raised, caught, read, asked for their class. -/
namespace L2
open PySem PySem.Spec PyProof.Rows TEX
/-! ### raise C(e ..) -/
def tMkR (C : Addr) (n : Nat) (Fs : List V → List (Str × V)) (t : TA) : St → Hp → XK → Prop := fun σ H Q => t σ H fun vs H1 => vs.length = n ∧ ∀ dx, H1 dx = none → Q (.ref C) (some dx) (upd H1 dx (exd dx (Fs vs)))
section
variable {X : Cx} {C fI : Addr} {fd : FuncData} {ps : List Str} {Fs : List V → List (Str × V)} {x : Str} {p pos : Pos} {e : Expr} {es : List Expr} {kws : List Keyword} {t tk : TA} {k : Nat}
theorem pmk_mk {n : Nat} (T : CMk X.prog X.w X.K C fI fd ps Fs) (hr : Room k X.A) (hg : Gl X x) (hm : X.mg x = some (.ref C)) (hb : BindE X.K fd ps [] n) (hn : n = ps.length) (hn2 : n ≤ 1000) (ha : PA X (e :: es) t)
    (hdb : (x == ("__debug__" : Str)) = false := by decide) (he : starEach (e :: es) X.env = (false, eval e X.env) :: starEach es X.env := by rfl) (hpl : (backTo pos (starEach es X.env)).any (·.1) = false := by rfl) :
    PMk X (.Call (.Name x p) (e :: es) [] pos) (tMkR C n Fs t) := by
  intro pins s σ H Q I h
  refine wpAny_Call_Name_kw (ld_glob I hg hm ?_ hdb)
  refine PySem.W.callWith_K (h₀ := X.base) I.ok.mod.kin T.oc.kC (thn (ha.run pos pins s σ H _ I h) fun us s1 ⟨vs, H1, I1, r, l, q⟩ => ⟨I1.kIn, ?_⟩) he hpl
  obtain ⟨mb, hmb, hbt⟩ := I1.ok.mod.blt
  have e1 : us.length = n := r.length.symm.trans l
  refine wpAny_call (made_run (mg := X.mg) (mb := mb) (us := us) T I1.kIn I1.nolimit (I1.ok.mod.glob.keeps I1.bk) (hmb.keeps I1.bk) (hbt _ (by decide)) hr.two ?_ (e1.trans hn) ?_ (fun h' tk x dx m md rel => ?_))
  · show us.length ≤ sizeLine
    rw [e1, PySem.sizeLine_eq]; omega
  · have q2 := hb us [] e1 rfl (by rw [hn]; rfl)
    rw [List.append_nil] at q2
    exact q2
  · have nx : H1 x = none := I1.hok.fresh md.bigX
    have nd : H1 dx = none := I1.hok.fresh md.bigD
    obtain ⟨G, g1, g2⟩ := restrict h' fun b => decide (b ≠ x)
    have gk : ∀ b, b ≠ x → G.get? b = h'.get? b := fun b hb => g1 b (decide_eq_true hb)
    have ge : G.get? x = none := g2 x (by simp)
    have old : ∀ b o, s1.heap.get? b = some o → G.get? b = some o := fun b o q => (gk b (Nat.ne_of_lt (Nat.lt_of_lt_of_le (Heap.lt_size q) md.bigX))).trans (md.keep b o q)
    have ob : ObjOk X.prog X.w (upd H1 dx (exd dx (Fs vs))) G dx (exd dx (Fs vs)) := exd_ok (md.ns.at fun o q => (gk dx md.ne).trans q) (rel vs r)
    have J : Inv X pins σ (upd H1 dx (exd dx (Fs vs))) { s1 with heap := G, toks := tk } := I1.laid (t' := tk) old md.bigD ob
    obtain ⟨t1, ho⟩ := md.obj
    refine ⟨x, _, _, { s1 with heap := G, toks := tk }, _, .ref C, some dx, rfl, J, fun b o q => ?_, ge, ho, ⟨rfl, rfl⟩, rfl, rfl, ?_, rfl, I1.bare, raises_own T.oc.exC T.oc.tyC, q dx nd⟩
    · by_cases hb : b = x
      · have q' : G.get? b = some o := q
        rw [hb, ge] at q'; cases q'
      · exact (gk b hb).symm.trans q
    · rw [upd_ne (Ne.symm md.ne)]
      exact nx
end
/-! ### e.f -/
def tFldE (K : PySem.W.Frag) (te : TE) (f : Str) : TE := fun σ H Q => te σ H fun x H1 => ∃ (a C d : Addr) (fs : List (Str × V)) (v : V), x = .ref a ∧ H1 a = some (exo a C (some d)) ∧ H1 d = some (exd d fs) ∧ ExcC K C ∧ PySem.W.findIn K (.ref C) f = some none ∧ fs.lookup f = some v ∧ Q v H1
def tByE (K : PySem.W.Frag) (a : Addr) (cls : Value) (d : Option Addr) (te : TE) (f : Str) : TE := fun σ H Q => te σ H fun x H1 => x = .ref a ∧ ∃ (C dd : Addr) (fs : List (Str × V)) (v : V), cls = .ref C ∧ d = some dd ∧ H1 dd = some (exd dd fs) ∧ ExcC K C ∧ PySem.W.findIn K (.ref C) f = some none ∧ fs.lookup f = some v ∧ Q v H1
section
variable {X : Cx} {e : Expr} {te : TE} {f : Str} {pos : Pos}
theorem exd_look {H : Hp} {h : Heap} {d : Addr} {fs : List (Str × V)} {v : V} (hok : HOk X.prog X.w H h) (hd : H d = some (exd d fs)) (l : fs.lookup f = some v) : ∃ od u, h.get? d = some od ∧ PySem.W.lookIn f od = some (some u) ∧ RelV v u := by
  obtain ⟨mA, hns, hr⟩ := exd_at hok hd
  obtain ⟨od, ho, hl⟩ := lookIn_ns hns
  have r := hr f
  rw [l] at r
  obtain ⟨u, hu, ru⟩ := RelO.some_of r
  exact ⟨od, u, ho, by rw [hl, hu], ru⟩
theorem pe_fldE (he : PE X e te) (hb : attributeBase e f X.env (eval e X.env) = eval e X.env := by rfl) : PE X (.Attribute e f pos) (tFldE X.K te f) := by
  refine ⟨fun pins s σ H Q I h => ?_⟩
  refine attr_of hb (thn (he.run pins s σ H _ I h) fun u s1 hh => ?_)
  obtain ⟨x, H1, I1, rx, a, C, d, fs, v, ex, ha, hd, T, noF, l, q⟩ := hh
  subst ex
  obtain rfl : u = Value.ref a := rx
  obtain ⟨t1, ho⟩ := exo_at I1.hok ha
  obtain ⟨od, u, hod, hu, ru⟩ := exd_look I1.hok hd l
  have J : PySem.W.InstAt s1.heap a _ C (some od) := ⟨ho, rfl, rfl, hod⟩
  exact HandSPX.exc_get I1.kIn J T.hg T.hk T.hs (PySem.W.findObj_own T.hd noF rfl hu) (handed_of ru) ⟨v, H1, I1.tok _, ru, q⟩
theorem pe_byE {a : Addr} {oe : Obj} {cls : Value} {d : Option Addr} {pn : List (Addr × Obj)} (hz : Zc cls d oe) (hf : ∃ vs, oe.data = .fields vs) (he : PE (X.suite a ((a, oe) :: pn)) e te)
    (hb : attributeBase e f X.env (eval e X.env) = eval e X.env := by rfl) : PE (X.suite a ((a, oe) :: pn)) (.Attribute e f pos) (tByE X.K a cls d te f) := by
  refine ⟨fun pins s σ H Q I h => ?_⟩
  refine attr_of hb (thn (he.run pins s σ H _ I h) fun u s1 hh => ?_)
  obtain ⟨x, H1, I1, rx, ex, C, dd, fs, v, ec, ed, hd, T, noF, l, q⟩ := hh
  subst ex
  obtain rfl : u = Value.ref a := rx
  subst ec
  subst ed
  obtain ⟨ha, _⟩ := I1.pin (a, oe) (List.mem_append_left _ List.mem_cons_self)
  obtain ⟨vs, hdt⟩ := hf
  obtain ⟨od, u, hod, hu, ru⟩ := exd_look (X := X) I1.hok hd l
  have J : PySem.W.InstAt s1.heap a oe C (some od) := ⟨ha, hz.1, by unfold PySem.W.notCls; rw [hdt] <;> rfl, by rw [hz.2]; exact hod⟩
  exact HandSPX.exc_get I1.kIn J T.hg T.hk T.hs (PySem.W.findObj_own T.hd noF rfl hu) (handed_of ru) ⟨v, H1, I1.tok _, ru, q⟩
end
/-! ### isinstance(e, c) -/
def rIsX (K : PySem.W.Frag) : List V → Hp → VK → Prop := fun xs H Q => ∃ (a C d : Addr) (fs : List (Str × V)) (c : V) (cv : Value) (b : Bool), xs = [.ref a, c] ∧ H a = some (exo a C (some d)) ∧ H d = some (exd d fs) ∧ ExcC K C ∧ ClsV c cv ∧ PySem.W.kitOne K (.ref C) cv = some b ∧ Q (.bl b) H
theorem call_isX {X : Cx} : CallR X (.builtin "isinstance") (rIsX X.K) := by
  intro pins s σ H xs us Q I r h
  obtain ⟨a, C, d, fs, c, cv, b, rfl, ha, hd, T, hcv, e, q⟩ := h
  cases r with
  | cons rx rr =>
    cases rr with
    | cons rt rr =>
      cases rr
      cases rx
      have ec := hcv.eq rt
      subst ec
      obtain ⟨t1, ho⟩ := exo_at I.hok ha
      obtain ⟨mA, hns, _⟩ := exd_at I.hok hd
      obtain ⟨od, hod, _⟩ := lookIn_ns hns
      obtain ⟨cdD, hcD, _⟩ := PySem.W.any_some T.hd
      have J : PySem.W.InstAt s.heap a _ C (some od) := ⟨ho, rfl, rfl, hod⟩
      exact PySem.W.kia_one (PySem.W.kitx_exc (by rw [hcD]; rfl) T.hg T.hk T.hs T.ha T.hn T.ht T.hm) I.kIn J e (fun z => nomatch z) fun tk => ⟨.bl b, H, I.kept (t' := tk) fun _ _ z => z, rfl, q⟩
end L2
set_option Elab.async false
set_option linter.all false
set_option maxRecDepth 100000
set_option maxHeartbeats 4000000
/-! XG: several except clauses with names. -/
namespace L2
open PySem PySem.Spec PyProof.Rows
abbrev TSu := Addr → Value → Option Addr → TS
/-- the ends of a suite whose name (slot i) is let go behind it -/
def Ends.gone (D : Ends) (i : Nat) : Ends := { nx := fun σ' H' => D.nx (σ'.set i none) H', rt := D.rt, bk := fun σ' H' => D.bk (σ'.set i none) H', ct := fun σ' H' => D.ct (σ'.set i none) H' }
def wManyA (K : PySem.W.Frag) (Wout : WX) (D : Ends) : List (Value × Nat × TSu) → WX
  | [] => Wout
  | (c, i, ts) :: r => fun cls d σ H => ∃ b, PySem.W.exmOne K cls c = some b ∧ (b = true → ∀ a, H a = none → ts a cls d (D.gone i) (σ.set i (some (.ref a))) H) ∧ (b = false → wManyA K Wout D r cls d σ H)
inductive HdsAs (X : Cx) : List ExceptHandler → List (Value × Nat × TSu) → Prop
  | nil : HdsAs X [] []
  | cons {x n : Str} {c : Value} {i : Nat} {ts : TSu} {b₀ : Stmt} {suite : List Stmt} {np pos' : Pos} {hds : List ExceptHandler} {l : List (Value × Nat × TSu)} (hc : Names X x c) (hi : X.N[i]? = some n) (hln : X.env.kindOf n = some .local)
      (hsu : ∀ (a : Addr) (oe : Obj) (cls : Value) (d : Option Addr) (pn : List (Addr × Obj)), Zc cls d oe → (∃ vs, oe.data = .fields vs) → PSs (X.suite a ((a, oe) :: pn)) (b₀ :: suite) (ts a cls d)) (r : HdsAs X hds l) :
      HdsAs X (.ExceptHandler (some (.Name x np)) (some n) (b₀ :: suite) pos' :: hds) ((c, i, ts) :: l)
section
variable {X : Cx} {body : List Stmt} {h₀ : ExceptHandler} {hds : List ExceptHandler} {l : List (Value × Nat × TSu)} {pos : Pos} {tb : WX → TS} {Wout : WX}
theorem ps_try_manyA (hs : X.stack = X.env :: X.outer) (hf : X.env.frame = some X.env.locals) (hN : X.N.Nodup) (tk : Takes X Wout)
    (hb : ∀ (W : WX) (pn : List (Addr × Obj)) (xe : Value → Shared → Prop), Takes (X.tr pn xe) W → PassesOwn (model X.prog X.w) X.A X.env xe → PSs (X.tr pn xe) body (tb W))
    (hh : HdsAs X (h₀ :: hds) l) : PS X (.Try body (h₀ :: hds) [] [] pos) (fun D σ H => tb (wManyA X.K Wout D l) D σ H) := by
  refine ⟨fun pins s σ H D I h => ?_⟩
  have ok := I.ok
  have hfr : X.A.frames = some (X.env :: X.outer) := by rw [ok.frames, hs]
  refine wpAny_Try_except ?_
  refine wpAny_mono ((hb (wManyA X.K Wout D l) (X.pn ++ pins) (fun e s₁ => wpAny (model X.prog X.w) X.A (noteFrame e X.env) (fun _ s₂ => wpAny (model X.prog X.w) X.A (setFlight e none) (fun _ s₃ =>
    wpAny (model X.prog X.w) X.A (handleBy e X.env (h₀ :: hds)) (SP X pins D) X.xe s₃) X.xe s₂) X.xe s₁) (fun u s' xx => ?_) PassesOwn.looking).run [] s σ H D (I.toTry _) h) (fun f s1 hsp => ?_) (fun e s1 he => he)
  · obtain ⟨a, B, sI, pins', σ', H', cls, d, rfl, J', nb, up, sky, na, os, ag, w⟩ := xx
    have J : Inv X pins σ' H' sI := J'.ofTry ok
    have sky' : Sky B (X.env :: X.outer) a (Zc cls d) X.env.locals s'.heap := by rw [← hs]; exact sky
    show wpAny (model X.prog X.w) X.A (noteFrame (.ref a) X.env) _ _ _
    refine Sky.land Zc.steady hfr hf sky' fun h3 fl3 up3 => ?_
    have J3 : Inv X pins σ' H' { s' with heap := h3 } := J.landed nb fl3.1 (up.trans up3) os ag
    obtain ⟨oe3, vs3, he3, hz3, hd3⟩ := fl3.there
    have nfr : a ∉ frs (X.env :: X.outer) := fun hm => by
      obtain ⟨_, o', e', hnf⟩ := fl3.2.2.1.mem hm
      rw [he3] at e'; cases e'
      exact hnf _ hd3
    have nL : a ≠ X.env.locals := fun z => nfr (List.mem_filterMap.mpr ⟨X.env, List.mem_cons_self, by rw [hf, z]⟩)
    have nF : a ∉ X.fs := fun hm => by
      obtain ⟨e, he, q⟩ := List.mem_filterMap.mp hm
      exact nfr (List.mem_filterMap.mpr ⟨e, List.mem_cons_of_mem _ he, q⟩)
    have S3 := J3.suite he3 hd3 na nL nF
    have go : ∀ {hds' : List ExceptHandler} {l' : List (Value × Nat × TSu)}, HdsAs X hds' l' → wManyA X.K Wout D l' cls d σ' H' →
        wpAny (model X.prog X.w) X.A (handleBy (.ref a) X.env hds') (SP X pins D) X.xe { s' with heap := h3 } := by
      intro hds' l' hk
      induction hk with
      | nil =>
        intro w
        refine wpAny_handleBy_nil ?_
        obtain ⟨k1, k2, k3, oe, vs, T, oT, ts', he, hz, hd, h1, hr⟩ := id fl3
        unfold PySem.passOn
        refine wpAny_bind (wpAny_field he hd h1 ?_)
        rw [if_neg (show ¬ ((Value.ref T == Value.none) = true) from by simp)]
        have fin : wpAny (model X.prog X.w) X.A (setFlight (.ref a) X.env.frame) (fun _ s4 => wpAny (model X.prog X.w) X.A (throw (.ref a) : Sem Flow) (SP X pins D) X.xe s4) X.xe { s' with heap := h3 } := by
          rw [hf]
          refine HandSPX.setFlight_upZ fl3 fun h4 hh4 up4 => wpAny_throw (tk _ _ ?_)
          exact ⟨a, B, sI, pins, σ', H', cls, d, rfl, J, nb, (up.trans up3).trans up4, .inr (.inr (by rw [hs]; exact hh4)), na, os, ag, w⟩
        first
          | exact wpAny_bind (wpAny_pure (wpAny_bind fin))
          | exact wpAny_bind fin
      | @cons x n c i ts b₀ suite np pos' hds2 l2 hc hi hln hsu r ih =>
        intro w
        obtain ⟨b, hb1, hyes, hno⟩ := w
        refine wpAny_handleBy_cons (codeAny_handlers_test ?_) (by intro q; cases q)
        have LT : PySem.W.Looks (model X.prog X.w) h3 (typeOf (.ref a)) cls := fun A Q E s k q => wpAny_typeOf_ref (k _ _ he3) (by rw [hz3.1]; exact q)
        have LM := PySem.W.exm_one (M := model X.prog X.w) (J3.kIn) LT hb1
        have test : ∀ {Q : Value → Shared → Prop} {E : Value → Shared → Prop}, Q c { s' with heap := h3 } → wpAny (model X.prog X.w) (X.A.mark (some (.ref a))) (eval (.Name x np) X.env) Q E { s' with heap := h3 } := fun {Q E} q => by
          obtain ⟨hg, hdbg, hm | ⟨hm, hv, hnn⟩⟩ := hc
          · exact ld_glob (X := X.suite a ((a, oe3) :: (X.pn ++ pins))) S3 hg hm q hdbg
          · exact ld_blt (X := X.suite a ((a, oe3) :: (X.pn ++ pins))) S3 hg hm hv q hnn hdbg
        refine test (LM.here ?_)
        cases b with
        | true =>
          refine codeAny_handlers_suite_as ?_
          refine HandSPX.lands_againZ fl3 fun h4 fl4 up4 => ?_
          have J4 : Inv X pins σ' H' { s' with heap := h4 } := J.landed nb fl4.1 ((up.trans up3).trans up4) os ag
          obtain ⟨oe4, vs4, he4, hz4, hd4⟩ := fl4.there
          have S4 := J4.suite he4 hd4 na nL nF
          refine store_ok (X := X.suite a ((a, oe4) :: (X.pn ++ pins))) (v := .ref a) S4 hN hi (.inl hln) rfl (fun s5 S5 => ?_) (.inr hln)
          refine wpAny_mono ((hsu a oe4 cls d (X.pn ++ pins) hz4 ⟨_, hd4⟩).run [] s5 _ H' _ S5 (hyes rfl a na)) (fun f s6 hsp => ?_) (fun _ _ z => False.elim z)
          have end_ : ∀ {σ6 : St} {H6 : Hp} {Q : Shared → Prop}, Inv (X.suite a ((a, oe4) :: (X.pn ++ pins))) [] σ6 H6 s6 → (∀ s7, Inv X pins (σ6.set i none) H6 s7 → Q s7) →
              wpAny (model X.prog X.w) X.A (do bindName X.env n .none; unbindBehindTheSuite X.env n pos') (fun _ s7 => Q s7) X.xe s6 := fun {σ6 H6 Q} S6 hq => gone_ok (S6.unsuite ok) hN hi hln hq
          cases f with
          | next =>
            obtain ⟨σ6, H6, S6, q6⟩ := hsp
            exact end_ S6 fun s7 J7 => ⟨_, _, J7, q6⟩
          | brk =>
            obtain ⟨σ6, H6, S6, q6⟩ := hsp
            exact end_ S6 fun s7 J7 => ⟨_, _, J7, q6⟩
          | cont =>
            obtain ⟨σ6, H6, S6, q6⟩ := hsp
            exact end_ S6 fun s7 J7 => ⟨_, _, J7, q6⟩
          | ret u =>
            obtain ⟨v6, σ6, H6, S6, r6, q6⟩ := hsp
            exact end_ S6 fun s7 J7 => ⟨_, _, _, J7, r6, q6⟩
        | false =>
          show wpAny _ X.A (handleBy (.ref a) X.env hds2) _ _ _
          exact ih (hno rfl)
    exact go hh w
  · cases f with
    | next =>
      obtain ⟨σ', H', J', q⟩ := hsp
      exact wpAny_execs_nil ⟨σ', H', J'.ofTry ok, q⟩
    | brk =>
      obtain ⟨σ', H', J', q⟩ := hsp
      exact ⟨σ', H', J'.ofTry ok, q⟩
    | cont =>
      obtain ⟨σ', H', J', q⟩ := hsp
      exact ⟨σ', H', J'.ofTry ok, q⟩
    | ret u =>
      obtain ⟨v, σ', H', J', r, q⟩ := hsp
      exact ⟨v, σ', H', J'.ofTry ok, r, q⟩
end
end L2
set_option Elab.async false
set_option linter.all false
set_option maxRecDepth 100000
set_option maxHeartbeats 4000000
/-! XH: the three kinds of error classes. -/
namespace TEX
open PySem PySem.W PySem.Calls PyProof.Rows PySem.HandSPX
open L2 (V Vals RelV RelO Hp HO exo exd OexC BindE)
/-- names of fields -/
theorem fxOk {fx : Str} (h1 : ∀ {x v : Value}, ∀ y ∈ [(("self" : Str), x), (fx, v)], (rfScope fx).names.lookup y.1 = some .local) (h2 : ∀ y ∈ (rfScope fx).names, y.2 ≠ .cell)
    (h3 : ∀ {x v : Value}, [(("self" : Str), x), (fx, v)].reverse.lookup ("self" : Str) = some x) (h4 : ∀ {x v : Value}, [(("self" : Str), x), (fx, v)].reverse.lookup fx = some v)
    (h5 : (rfScope fx).names.lookup ("super" : Str) = some .globalImplicit) (h6 : (rfScope fx).names.lookup ("__class__" : Str) = some .free) (h7 : (rfScope fx).names.lookup fx = some .local) (h8 : (fx == ("__debug__" : Str)) = false) : FxOk fx := ⟨h1, h2, h3, h4, h5, h6, h7, h8⟩
theorem fx_place : FxOk "place" := ⟨locs rfl, by decide, rfl, rfl, rfl, rfl, rfl, rfl⟩
theorem fx_name : FxOk "name" := ⟨locs rfl, by decide, rfl, rfl, rfl, rfl, rfl, rfl⟩
theorem fx_form : FxOk "form" := ⟨locs rfl, by decide, rfl, rfl, rfl, rfl, rfl, rfl⟩
theorem fx_user : FxOk "user" := ⟨locs rfl, by decide, rfl, rfl, rfl, rfl, rfl, rfl⟩
theorem fx_used : FxOk "used" := ⟨locs rfl, by decide, rfl, rfl, rfl, rfl, rfl, rfl⟩
theorem fx_count : FxOk "count" := ⟨locs rfl, by decide, rfl, rfl, rfl, rfl, rfl, rfl⟩
theorem fx_index : FxOk "index" := ⟨locs rfl, by decide, rfl, rfl, rfl, rfl, rfl, rfl⟩
/-- the fields -/
def fsTe (vs : List V) : List (Str × V) := match vs with
  | [v] => [("given", v)]
  | _ => []
def fsRf (fx : Str) (vs : List V) : List (Str × V) := match vs with
  | [v] => [(fx, v), ("given", .non)]
  | _ => []
def fsR0 (_ : List V) : List (Str × V) := [("given", .non)]
theorem vals1' {us : List Value} (h : us.length = 1) : ∃ u, us = [u] := by
  cases us with
  | nil => cases h
  | cons u r =>
    cases r with
    | nil => exact ⟨u, rfl⟩
    | cons _ _ => simp at h
theorem rel_one {fx : Str} {v : V} {u : Value} (r : RelV v u) (f : Str) : RelO ([(fx, v)].lookup f) (if f = fx then some u else none) := L2.relO_put (fs := []) (mA := fun _ => none) r (fun _ => True.intro) f
section
variable {prog : Program} {w : World} {K : Frag} {C D fT : Addr} {fdT : FuncData}
theorem cmk_te (T : TeD prog K D fT fdT) (EC : ExK K C D) (iC : findIn K (.ref C) "__init__" = some (some (.ref fT))) (tT : typeIn K (.ref fT) = some (.type "function")) : CMk prog w K C fT fdT ["given"] fsTe where
  oc := EC.oc
  iC := iC
  tI := tT
  run := fun A R s mg mb x t0 args us X hlim hg hb hbb hx hnx hroom hl hbind hq => by
    obtain ⟨u, rfl⟩ := vals1' hl
    refine run_te T EC X hlim hg hb hbb hx hnx (Nat.lt_of_succ_lt hroom) hbind fun h' tk dx te => hq h' tk dx _ te fun vs r f => ?_
    cases r with
    | cons r1 r2 =>
      cases r2
      exact rel_one r1 f
/-- what is needed of TestError for a class with its own __init__ -/
structure TeB (prog : Program) (K : Frag) (D fT : Addr) (fdT : FuncData) : Prop where
  ted : TeD prog K D fT fdT
  kT : keepIn K (.ref fT) = true
  tT : typeIn K (.ref fT) = some (.type "function")
  fT : fnIn K fT = true
  bT : ∀ (s : Shared) (u : Value), K.In s.heap → BindsTo s fdT ⟨[u], []⟩ [("self", u), ("given", .none)]
theorem cmk_rf {cc cda f : Addr} {fx q : Str} {p1 p2 q1 q2 q3 q5 q6 q7 q8 q9 q10 : Pos} {dV kV doc pm ct : Value} {an : Option Addr} (TB : TeB prog K D fT fdT)
    (S : SupI prog K C f cc cda (sFn q (rfArgs fx p1 p2) (rfBody fx q1 q2 q3 q5 q6 q7 q8 q9 q10) (rfScope fx) dV kV doc pm an cda ct cc)) (EC : ExK K C D) (hl : (q3.endLine == q5.line) = true)
    (hC0 : mroIn K C (.ref C) = some true) (si : ks_superIn K C C "__init__" = some (some (.ref fT))) (noX : findIn K (.ref C) fx = some none) (hfx : FxOk fx)
    (iC : findIn K (.ref C) "__init__" = some (some (.ref f))) (tI : typeIn K (.ref f) = some (.type "function")) :
    CMk prog w K C f (sFn q (rfArgs fx p1 p2) (rfBody fx q1 q2 q3 q5 q6 q7 q8 q9 q10) (rfScope fx) dV kV doc pm an cda ct cc) [fx] (fsRf fx) where
  oc := EC.oc
  iC := iC
  tI := tI
  run := fun A R s mg mb x t0 args us X hlim hg hb hbb hx hnx hroom hlen hbind hq => by
    obtain ⟨u, rfl⟩ := vals1' hlen
    refine init_rf S TB.ted TB.kT EC hC0 si TB.tT TB.fT TB.bT noX hfx X hlim hg hb hbb hx hnx hroom hl hbind fun h' tk dx te => hq h' tk dx _ te fun vs r f => ?_
    cases r with
    | cons r1 r2 =>
      cases r2
      exact L2.relO_put r1 (fun g => rel_one (fx := "given") (v := .non) (u := .none) rfl g) f
theorem cmk_r0 {cc cda f : Addr} {q : Str} {p1 q1 q2 q3 q5 q6 : Pos} {dV kV doc pm ct : Value} {an : Option Addr} (TB : TeB prog K D fT fdT)
    (S : SupI prog K C f cc cda (sFn q (r0Args p1) (r0Body q1 q2 q3 q5 q6) r0Scope dV kV doc pm an cda ct cc)) (EC : ExK K C D) (hl : (q3.endLine == q5.line) = true)
    (hC0 : mroIn K C (.ref C) = some true) (si : ks_superIn K C C "__init__" = some (some (.ref fT)))
    (iC : findIn K (.ref C) "__init__" = some (some (.ref f))) (tI : typeIn K (.ref f) = some (.type "function")) :
    CMk prog w K C f (sFn q (r0Args p1) (r0Body q1 q2 q3 q5 q6) r0Scope dV kV doc pm an cda ct cc) [] fsR0 where
  oc := EC.oc
  iC := iC
  tI := tI
  run := fun A R s mg mb x t0 args us X hlim hg hb hbb hx hnx hroom hlen hbind hq => by
    have e : us = [] := List.eq_nil_of_length_eq_zero hlen
    subst e
    exact init_r0 S TB.ted TB.kT EC hC0 si TB.tT TB.fT TB.bT X hlim hg hb hbb hx hnx hroom hl hbind fun h' tk dx te => hq h' tk dx _ te fun vs r f => rel_one (fx := "given") (v := .non) (u := .none) rfl f
/-! ### binds -/
theorem bindE1 {fd : FuncData} {fx : Str} (h : ∀ x u : Value, bindArgs fd ⟨[x, u], []⟩ = pure [(("self" : Str), x), (fx, u)]) : BindE K fd [fx] [] 1 := fun us ws e1 e2 _ s x _ => by
  obtain ⟨u, rfl⟩ := vals1' e1
  have e : ws = [] := List.eq_nil_of_length_eq_zero e2
  subst e
  exact BindsTo.of_eq (h _ _)
theorem bindEK {fd : FuncData} {fx : Str} (h : ∀ x u : Value, bindArgs fd ⟨[x], [(fx, u)]⟩ = pure [(("self" : Str), x), (fx, u)]) : BindE K fd [fx] [fx] 0 := fun us ws e1 e2 _ s x _ => by
  obtain ⟨u, rfl⟩ := vals1' e2
  have e : us = [] := List.eq_nil_of_length_eq_zero e1
  subst e
  exact BindsTo.of_eq (h _ _)
theorem bindE0 {fd : FuncData} (h : ∀ x : Value, bindArgs fd ⟨[x], []⟩ = pure [(("self" : Str), x)]) : BindE K fd [] [] 0 := fun us ws e1 e2 _ s x _ => by
  have e : us = [] := List.eq_nil_of_length_eq_zero e1
  subst e
  have e : ws = [] := List.eq_nil_of_length_eq_zero e2
  subst e
  exact BindsTo.of_eq (h _)
/-- the defaults of TestError's __init__: one None -/
structure TeDef (K : Frag) (dV : Value) : Prop where
  ex : ∃ (T : Addr) (o : Obj) (n : Nat), dV = .ref T ∧ K.lookup T = some o ∧ o.data = .seq #[.none] n
variable {q : Str} {p1 p2 p3 : Pos} {body : List Stmt} {dV kV doc pm ct : Value} {an : Option Addr} {cda cc : Addr}
theorem te_b1 (h : TeDef K dV) : BindE K (sFn q (teArgs p1 p2 p3) body teScope dV kV doc pm an cda ct cc) ["given"] [] 1 := fun us ws e1 e2 _ s x X => by
  obtain ⟨u, rfl⟩ := vals1' e1
  have e : ws = [] := List.eq_nil_of_length_eq_zero e2
  subst e
  obtain ⟨T, o, n, rfl, lT, oT⟩ := h.ex
  exact BindsTo.of_defaults rfl (X _ _ lT) oT rfl rfl
theorem te_bK (h : TeDef K dV) : BindE K (sFn q (teArgs p1 p2 p3) body teScope dV kV doc pm an cda ct cc) ["given"] ["given"] 0 := fun us ws e1 e2 _ s x X => by
  obtain ⟨u, rfl⟩ := vals1' e2
  have e : us = [] := List.eq_nil_of_length_eq_zero e1
  subst e
  obtain ⟨T, o, n, rfl, lT, oT⟩ := h.ex
  exact BindsTo.of_defaults rfl (X _ _ lT) oT rfl rfl
theorem te_bD (h : TeDef K dV) (s : Shared) (u : Value) (X : K.In s.heap) : BindsTo s (sFn q (teArgs p1 p2 p3) body teScope dV kV doc pm an cda ct cc) ⟨[u], []⟩ [(("self" : Str), u), ("given", .none)] := by
  obtain ⟨T, o, n, rfl, lT, oT⟩ := h.ex
  exact BindsTo.of_defaults rfl (X _ _ lT) oT rfl rfl
end
end TEX
set_option Elab.async false
set_option linter.all false
set_option maxRecDepth 100000
set_option maxHeartbeats 4000000
/-! XI: what the head says of error classes. -/
namespace TEX
open PySem PySem.W PySem.Calls PyProof.Rows PySem.HandSPX He
open L2 (V Vals RelV RelO Hp HO exo exd OexC BindE ExcC)
/-! ### Bool checks -/
def ini (K : Frag) (x : Str) : Addr := ma K (ga K x) "__init__"
def clsB (K : Frag) (x : Str) (tl : List Value) : Bool := match K.lookup (ga K x) with
  | some ⟨.type "type", _, .cls cd, sl⟩ => (match cd.mro, sl.toList with
    | .ref C' :: bm, [_, _, _, _, some (.builtin n), _] => C' == ga K x && (n == "ValueError.__new__" && (!cd.hasDel && (cd.hasDict && bm == tl)))
    | _, _ => false)
  | _ => false
def supB (P : Program) (K : Frag) (x : Str) : Bool := match K.lookup (ini K x) with
  | some ⟨_, _, .func fd, _⟩ => codeIn K fd.code fd.qualname && ((match fd.code with
      | .ref cda => (match K.lookup cda with
        | some ⟨_, _, .fields vs, _⟩ => (match vs.toList[2]? with
          | some (Value.str file _) => ((P.main.file : Str) == file)
          | _ => false)
        | _ => false)
      | _ => false) && ((match fd.closure with
      | [(n, cc)] => (n == ("__class__" : Str)) && (match K.lookup cc with
        | some ⟨_, _, .cell (some (.ref D')), _⟩ => D' == ga K x
        | _ => false)
      | _ => false) && (fd.globals == mainGlobals && fd.builtins == builtinsNs)))
  | _ => false
/-- facts of each class, whatever its __init__ -/
def baseB (K : Frag) (x : Str) : Bool := eqO (nsIn K mainGlobals x) (some (some (.ref (ga K x)))) && (eqO (findIn K (.ref (ga K x)) "__setattr__") (some (some (.builtin "object.__setattr__"))) &&
  (decide (typeIn K (.ref (ga K x)) = some (.type "type")) && (keepIn K (.ref (ga K x)) && (eqO (findIn K (.ref (ga K x)) "__getattribute__") (some (some (.builtin "BaseException.__getattribute__"))) &&
  (eqO (findIn K (.ref (ga K x)) "__getattr__") (some none) && (eqO (findIn K (.ref (ga K x)) "__class__") (some (some (.builtin "object.__class__"))) && (eqO (findIn K (.ref (ga K x)) "given") (some none) &&
  (eqO (findIn K (.ref (ga K x)) "__init__") (some (some (.ref (ini K x)))) && decide (typeIn K (.ref (ini K x)) = some (.type "function"))))))))))
/-- the text of a def: name, qualified name, parameters, body, scope -/
abbrev FnT : Type := Option (Str × Str × Arguments × FuncBody × Scope)
def fnT (K : Frag) (f : Addr) : FnT := match K.lookup f with
  | some ⟨_, _, .func fd, _⟩ => some (fd.name, fd.qualname, fd.params, fd.body, fd.scope)
  | _ => none
structure ClsK (K : Frag) (x : Str) (tl : List Value) : Prop where
  lk : ∃ nm q N bs sn sub ab col dd k0 k1 k2 k3 k5, K.lookup (ga K x) = some (excClassObj nm q (ga K x) N bs tl true sn sub ab col dd k0 k1 k2 k3 k5 "ValueError.__new__")
theorem clsB_ok {K : Frag} {x : Str} {tl : List Value} (h : clsB K x tl = true) : ClsK K x tl := by
  unfold clsB at h
  split at h
  · rename_i dd cd sl ho
    split at h
    · rename_i C' bm k0 k1 k2 k3 n k5 hm hs
      simp only [Bool.and_eq_true, beq_iff_eq, Bool.not_eq_true'] at h
      obtain ⟨e1, e2, e3, e4, e5⟩ := h
      obtain ⟨nm, bs, mro, ns, qn, hd, sn, sub, ab, col, del⟩ := cd
      dsimp only at hm e3 e4
      subst hm e3 e4 e2 e5
      rw [e1] at ho
      have hsl : sl = #[k0, k1, k2, k3, some (.builtin "ValueError.__new__"), k5] := by
        obtain ⟨l⟩ := sl
        simp only at hs
        rw [hs]
      subst hsl
      exact ⟨nm, qn, ns, bs, sn, sub, ab, col, dd, k0, k1, k2, k3, k5, ho⟩
    · cases h
  · cases h
theorem ClsK.cl {K : Frag} {x : Str} {tl : List Value} (c : ClsK K x tl) : ∃ cd, clsIn K (ga K x) = some cd ∧ cd.mro = .ref (ga K x) :: tl ∧ cd.hasDict = true := by
  obtain ⟨nm, q, N, bs, sn, sub, ab, col, dd, k0, k1, k2, k3, k5, h⟩ := c.lk
  refine ⟨_, by unfold clsIn; rw [h], rfl, rfl⟩
theorem ClsK.mro {K : Frag} {x : Str} {tl : List Value} (c : ClsK K x tl) (b : Value) : mroIn K (ga K x) b = some ((Value.ref (ga K x) :: tl).contains b) := by
  obtain ⟨cd, h, m, _⟩ := c.cl
  unfold mroIn
  rw [h, Option.bind_some, m]
  rfl
theorem ClsK.find {K : Frag} {x : Str} {tl : List Value} (c : ClsK K x tl) (n : Str) : findIn K (.ref (ga K x)) n = alongIn K n (.ref (ga K x) :: tl) := by
  obtain ⟨nm, q, N, bs, sn, sub, ab, col, dd, k0, k1, k2, k3, k5, h⟩ := c.lk
  show (match K.lookup (ga K x) with
    | some ⟨_, _, .cls cd, _⟩ => alongIn K n cd.mro
    | _ => none) = _
  rw [h]
theorem along_ve (K : Frag) : alongIn K "__init__" veTail = some (some (.builtin "ValueError.__init__")) := by kernel_rfl
theorem get_cls {K : Frag} : specialIn K (.builtin "object.__class__") "__get__" = some (some (.builtin "getset_descriptor.__get__")) := by kernel_rfl
theorem takes_cls {K : Frag} : takesIn K (.builtin "object.__class__") = some true := by kernel_rfl
/-- what is known of a class x over TestError -/
structure ErrX (K : Frag) (x : Str) : Prop where
  D : ClsK K "TestError" veTail
  C : ClsK K x (.ref (ga K "TestError") :: veTail)
  glo : nsIn K mainGlobals x = some (some (.ref (ga K x)))
  ek : ExK K (ga K x) (ga K "TestError")
  ec : ExcC K (ga K x)
  iC : findIn K (.ref (ga K x)) "__init__" = some (some (.ref (ini K x)))
  tI : typeIn K (.ref (ini K x)) = some (.type "function")
  tC : typeIn K (.ref (ga K x)) = some (.type "type")
theorem refs_te {a : Addr} : refsVE (.ref a :: veTail) = true := rfl
theorem errX {K : Frag} {x : Str} (hD : ClsK K "TestError" veTail) (hC : ClsK K x (.ref (ga K "TestError") :: veTail)) (hne : (ga K x == ga K "TestError") = false) (hb : baseB K x = true) : ErrX K x := by
  obtain ⟨h1, hb⟩ := ba hb
  obtain ⟨h2, hb⟩ := ba hb
  obtain ⟨h3, hb⟩ := ba hb
  obtain ⟨h4, hb⟩ := ba hb
  obtain ⟨h5, hb⟩ := ba hb
  obtain ⟨h6, hb⟩ := ba hb
  obtain ⟨h7, hb⟩ := ba hb
  obtain ⟨h8, hb⟩ := ba hb
  obtain ⟨h9, h10⟩ := ba hb
  have sB : subIn K (.ref (ga K x)) (.type "BaseException") = some true := (hC.mro _).trans (by
    show some ((Value.ref (ga K x) :: Value.ref (ga K "TestError") :: veTail).contains (.type "BaseException")) = some true
    rw [List.contains_cons, List.contains_cons]
    rfl)
  have sV : subIn K (.ref (ga K x)) (.type "ValueError") = some true := (hC.mro _).trans (by
    show some ((Value.ref (ga K x) :: Value.ref (ga K "TestError") :: veTail).contains (.type "ValueError")) = some true
    rw [List.contains_cons, List.contains_cons]
    rfl)
  have sO : mroIn K (ga K x) (.type "object") = some true := (hC.mro _).trans (by
    show some ((Value.ref (ga K x) :: Value.ref (ga K "TestError") :: veTail).contains (.type "object")) = some true
    rw [List.contains_cons, List.contains_cons]
    rfl)
  have sD : mroIn K (ga K x) (.ref (ga K "TestError")) = some true := (hC.mro _).trans (by simp)
  obtain ⟨cd, hcd, hm, hh⟩ := hC.cl
  have oc : OexC K (ga K x) := by
    obtain ⟨nm, q, N, bs, sn, sub, ab, col, dd, k0, k1, k2, k3, k5, h⟩ := hC.lk
    exact ⟨⟨nm, q, N, bs, _, sn, sub, ab, col, dd, k0, k1, k2, k3, k5, h, refs_te⟩, eqO_ok h2, sB, of_decide_eq_true h3, h4⟩
  have si : ks_superIn K (ga K x) (ga K "TestError") "__init__" = some (some (.builtin "ValueError.__init__")) := by
    unfold ks_superIn
    rw [hcd, Option.bind_some, hm]
    have e1 : (Value.ref (ga K x) != Value.ref (ga K "TestError")) = true := by
      have : ga K x ≠ ga K "TestError" := by simpa using hne
      simpa using this
    have e2 : (Value.ref (ga K "TestError") != Value.ref (ga K "TestError")) = false := by simp
    have e3 : ((Value.ref (ga K x) :: Value.ref (ga K "TestError") :: veTail).dropWhile (fun z => z != Value.ref (ga K "TestError"))).drop 1 = veTail := by
      simp only [List.dropWhile, e1, e2, List.drop]
    rw [e3]
    exact along_ve K
  exact ⟨hD, hC, eqO_ok h1, ⟨oc, sD, sV, si, eqO_ok h8⟩, ⟨eqO_ok h5, eqO_ok h6, sB, by unfold hasDictIn; rw [hcd]; exact hh, eqO_ok h7, get_cls, takes_cls, sO⟩, eqO_ok h9, of_decide_eq_true h10, of_decide_eq_true h3⟩
/-- isinstance(e, x') for an error of the class x -/
theorem ErrX.kit {K : Frag} {x y : Str} (hx : ErrX K x) (hy : ErrX K y) : kitOne K (.ref (ga K x)) (.ref (ga K y)) = some (ga K x == ga K y || ga K y == ga K "TestError") := by
  unfold kitOne
  obtain ⟨cd, hcd, _⟩ := hy.C.cl
  by_cases e : ga K x = ga K y
  · rw [if_pos (by rw [e]; simp), e]; simp
  · rw [if_neg (by simpa using e)]
    show (if ((clsIn K (ga K y)).isSome && typeIn K (.ref (ga K y)) == some (.type "type")) = true then subIn K (.ref (ga K x)) (.ref (ga K y)) else none) = _
    rw [if_pos (by rw [hcd, hy.tC]; rfl)]
    show mroIn K (ga K x) (.ref (ga K y)) = _
    rw [hx.C.mro]
    have e1 : (ga K x == ga K y) = false := by simpa using e
    have e2 : (Value.ref (ga K y) == Value.ref (ga K x)) = false := by simpa using fun z => e (Eq.symm z)
    rw [List.contains_cons, List.contains_cons, e1, e2, Bool.false_or, Bool.false_or]
    have e3 : (veTail.contains (Value.ref (ga K y))) = false := rfl
    rw [e3, Bool.or_false]
    congr 1
    by_cases z : ga K y = ga K "TestError"
    · rw [z]; simp
    · have z1 : (ga K y == ga K "TestError") = false := by simpa using z
      have z2 : (Value.ref (ga K y) == Value.ref (ga K "TestError")) = false := by simpa using z
      rw [z1, z2]
theorem ErrX.kitT {K : Frag} {x : Str} (hx : ErrX K x) (tD : typeIn K (.ref (ga K "TestError")) = some (.type "type")) : kitOne K (.ref (ga K x)) (.ref (ga K "TestError")) = some true := by
  unfold kitOne
  obtain ⟨cd, hcd, _⟩ := hx.D.cl
  split
  · rfl
  · show (if ((clsIn K (ga K "TestError")).isSome && typeIn K (.ref (ga K "TestError")) == some (.type "type")) = true then subIn K (.ref (ga K x)) (.ref (ga K "TestError")) else none) = _
    rw [if_pos (by rw [hcd, tD]; rfl)]
    exact hx.ek.sub
theorem ErrX.kitV {K : Frag} {x : Str} (hx : ErrX K x) : kitOne K (.ref (ga K x)) (.type "ValueError") = some true := by
  unfold kitOne
  rw [if_neg (by intro z; exact Bool.noConfusion (show false = true from z))]
  show (if kitMeta "ValueError" = true then subIn K (.ref (ga K x)) (.type "ValueError") else none) = _
  rw [if_pos (by decide +kernel)]
  exact hx.ek.sv
end TEX
set_option Elab.async false
set_option linter.all false
set_option maxRecDepth 100000
set_option maxHeartbeats 4000000
/-! XJ: from the head's checks to the makers of errors. -/
namespace TEX
open PySem PySem.W PySem.Calls PyProof.Rows PySem.HandSPX He
open L2 (V Vals RelV RelO Hp HO exo exd OexC BindE ExcC)
def dflB1 (K : Frag) (x : Str) : Bool := match K.lookup (ini K x) with
  | some ⟨_, _, .func fd, _⟩ => (match fd.defaults with
    | .ref T => (match K.lookup T with
      | some ⟨_, _, .seq its _, _⟩ => (match its.toList with
        | [.none] => true
        | _ => false)
      | _ => false)
    | _ => false)
  | _ => false
def nodB (K : Frag) (x : Str) : Bool := match K.lookup (ini K x) with
  | some ⟨_, _, .func fd, _⟩ => (match fd.defaults with
    | .none => true
    | _ => false)
  | _ => false
section
variable {P : Program} {w : World} {K : Frag} {x : Str} {q : Str} {params : Arguments} {body : List Stmt} {scope : Scope}
theorem sup_of {cd : ClassData} (h : supB P K x = true) (ht : fnT K (ini K x) = some (("__init__" : Str), q, params, .stmts body, scope)) (hc : clsIn K (ga K x) = some cd) (sup : nsIn K mainGlobals "super" = some none) (opq : nsIn K cStatics "thirdparty.any" = some none)
    (top : (P.main.scope.names.lookup ("super" : Str)).isSome = false) :
    ∃ (cc cda : Addr) (dV kV doc pm ct : Value) (an : Option Addr) (oc : Value) (od : Option Addr) (osl : Array (Option Value)),
      K.lookup (ini K x) = some ⟨oc, od, .func (sFn q params body scope dV kV doc pm an cda ct cc), osl⟩ ∧ SupI P K (ga K x) (ini K x) cc cda (sFn q params body scope dV kV doc pm an cda ct cc) := by
  unfold supB at h
  unfold fnT at ht
  split at h
  · rename_i oc od fd osl ho
    rw [ho] at ht
    obtain ⟨n1, n2, n3, n4, n5, n6, n7, n8, n9, n10, n11, n12, n13, n14, n15⟩ := fd
    simp only [Option.some.injEq, Prod.mk.injEq] at ht
    obtain ⟨rfl, rfl, rfl, rfl, rfl⟩ := ht
    obtain ⟨h1, r1⟩ := ba h
    obtain ⟨h2, r2⟩ := ba r1
    obtain ⟨h3, r3⟩ := ba r2
    obtain ⟨h4, h5⟩ := ba r3
    clear h r1 r2 r3
    dsimp only at h1 h2 h3 h4 h5
    have e4 : n6 = mainGlobals := by simpa using h4
    have e5 : n15 = builtinsNs := by simpa using h5
    subst e4 e5
    split at h2
    · rename_i cda
      split at h2
      · rename_i ccl cdd vs ccs hcda
        split at h2
        · rename_i file tf hvs
          split at h3
          · rename_i n cc
            obtain ⟨h6, h7⟩ := ba h3
            have e6 : n = ("__class__" : Str) := by simpa using h6
            subst e6
            split at h7
            · rename_i cl cld D' csl hcell
              have e7 : D' = ga K x := by simpa using h7
              subst e7
              refine ⟨cc, cda, _, _, _, _, _, _, oc, od, osl, ho, ⟨⟨oc, od, osl, ho⟩, h1, ⟨ccl, cdd, vs, ccs, file, tf, hcda, ?_, h2⟩, ⟨cl, cld, csl, hcell⟩, ⟨cd, hc⟩, sup, opq, top⟩⟩
              have e8 : vs = vs.toList.toArray := by simp
              rw [e8, List.getElem?_toArray]
              exact hvs
            · cases h7
          · cases h3
        · cases h2
      · cases h2
    · cases h2
  · cases h
/-- TestError's own __init__ -/
theorem te_of {cd : ClassData} {p1 p2 p3 q1 q2 q3 q4 q5 q6 q7 q8 q9 q10 : Pos} (h : supB P K "TestError" = true) (hd : dflB1 K "TestError" = true) (ht : fnT K (ini K "TestError") = some (("__init__" : Str), q, teArgs p1 p2 p3, .stmts (teBody q1 q2 q3 q4 q5 q6 q7 q8 q9 q10), teScope))
    (hl : (q3.endLine == q5.line) = true) (hc : clsIn K (ga K "TestError") = some cd) (sup : nsIn K mainGlobals "super" = some none) (opq : nsIn K cStatics "thirdparty.any" = some none) (top : (P.main.scope.names.lookup ("super" : Str)).isSome = false) (kT : keepIn K (.ref (ini K "TestError")) = true) (tT : typeIn K (.ref (ini K "TestError")) = some (.type "function")) :
    ∃ fdT, TeB P K (ga K "TestError") (ini K "TestError") fdT ∧ BindE K fdT ["given"] [] 1 ∧ BindE K fdT ["given"] ["given"] 0 := by
  obtain ⟨cc, cda, dV, kV, doc, pm, ct, an, oc, od, osl, ho, S⟩ := sup_of h ht hc sup opq top
  have D : TeDef K dV := by
    unfold dflB1 at hd
    rw [ho] at hd
    dsimp only at hd
    split at hd
    · rename_i T
      split at hd
      · rename_i c2 d2 its n2 s2 hT
        split at hd
        · rename_i hi
          refine ⟨T, _, n2, rfl, hT, ?_⟩
          have e : its = #[.none] := by
            obtain ⟨l⟩ := its
            simp only at hi
            rw [hi]
          rw [e]
        · cases hd
      · cases hd
    · cases hd
  refine ⟨_, ⟨⟨cc, cda, q, p1, p2, p3, q1, q2, q3, q4, q5, q6, q7, q8, q9, q10, dV, kV, doc, pm, ct, an, rfl, S, hl⟩, kT, tT, ?_, te_bD D⟩, te_b1 D, te_bK D⟩
  unfold fnIn
  rw [ho]
theorem own_si {T : Str} (hx : ErrX K x) (hT : T = "TestError") (iT : findIn K (.ref (ga K "TestError")) "__init__" = some (some (.ref (ini K "TestError")))) : mroIn K (ga K x) (.ref (ga K x)) = some true ∧ ks_superIn K (ga K x) (ga K x) "__init__" = some (some (.ref (ini K "TestError"))) := by
  refine ⟨(hx.C.mro _).trans (by simp), ?_⟩
  obtain ⟨cd, hcd, hm, hh⟩ := hx.C.cl
  unfold ks_superIn
  rw [hcd, Option.bind_some, hm]
  have e2 : (Value.ref (ga K x) != Value.ref (ga K x)) = false := by simp
  have e3 : ((Value.ref (ga K x) :: Value.ref (ga K "TestError") :: veTail).dropWhile (fun z => z != Value.ref (ga K x))).drop 1 = .ref (ga K "TestError") :: veTail := by
    simp only [List.dropWhile, e2, List.drop]
  rw [e3, ← hx.D.find]
  exact iT
theorem rf_of {fx : Str} {p1 p2 q1 q2 q3 q5 q6 q7 q8 q9 q10 : Pos} {fdT : FuncData} (hx : ErrX K x) (TB : TeB P K (ga K "TestError") (ini K "TestError") fdT) (iT : findIn K (.ref (ga K "TestError")) "__init__" = some (some (.ref (ini K "TestError"))))
    (h : supB P K x = true) (ht : fnT K (ini K x) = some (("__init__" : Str), q, rfArgs fx p1 p2, .stmts (rfBody fx q1 q2 q3 q5 q6 q7 q8 q9 q10), rfScope fx)) (hl : (q3.endLine == q5.line) = true) (hfx : FxOk fx) (noX : eqO (findIn K (.ref (ga K x)) fx) (some none) = true)
    (hn : nodB K x = true)
    (b1 : ∀ (cc cda : Addr) (kV doc pm ct : Value) (an : Option Addr) (a u : Value), bindArgs (sFn q (rfArgs fx p1 p2) (rfBody fx q1 q2 q3 q5 q6 q7 q8 q9 q10) (rfScope fx) .none kV doc pm an cda ct cc) ⟨[a, u], []⟩ = pure [(("self" : Str), a), (fx, u)])
    (b2 : ∀ (cc cda : Addr) (kV doc pm ct : Value) (an : Option Addr) (a u : Value), bindArgs (sFn q (rfArgs fx p1 p2) (rfBody fx q1 q2 q3 q5 q6 q7 q8 q9 q10) (rfScope fx) .none kV doc pm an cda ct cc) ⟨[a], [(fx, u)]⟩ = pure [(("self" : Str), a), (fx, u)])
    (sup : nsIn K mainGlobals "super" = some none) (opq : nsIn K cStatics "thirdparty.any" = some none) (top : (P.main.scope.names.lookup ("super" : Str)).isSome = false) :
    ∃ fd, CMk P w K (ga K x) (ini K x) fd [fx] (fsRf fx) ∧ BindE K fd [fx] [] 1 ∧ BindE K fd [fx] [fx] 0 := by
  obtain ⟨cd, hcd, hm, hh⟩ := hx.C.cl
  obtain ⟨cc, cda, dV, kV, doc, pm, ct, an, oc, od, osl, ho, S⟩ := sup_of h ht hcd sup opq top
  have eD : dV = .none := by
    unfold nodB at hn
    rw [ho] at hn
    dsimp only at hn
    split at hn
    · rfl
    · cases hn
  subst eD
  obtain ⟨s1, s2⟩ := own_si hx rfl iT
  exact ⟨_, cmk_rf TB S hx.ek hl s1 s2 (eqO_ok noX) hfx hx.iC hx.tI, bindE1 (b1 _ _ _ _ _ _ _), bindEK (b2 _ _ _ _ _ _ _)⟩
theorem r0_of {p1 q1 q2 q3 q5 q6 : Pos} {fdT : FuncData} (hx : ErrX K x) (TB : TeB P K (ga K "TestError") (ini K "TestError") fdT) (iT : findIn K (.ref (ga K "TestError")) "__init__" = some (some (.ref (ini K "TestError"))))
    (h : supB P K x = true) (ht : fnT K (ini K x) = some (("__init__" : Str), q, r0Args p1, .stmts (r0Body q1 q2 q3 q5 q6), r0Scope)) (hl : (q3.endLine == q5.line) = true) (hn : nodB K x = true)
    (sup : nsIn K mainGlobals "super" = some none) (opq : nsIn K cStatics "thirdparty.any" = some none) (top : (P.main.scope.names.lookup ("super" : Str)).isSome = false) :
    ∃ fd, CMk P w K (ga K x) (ini K x) fd [] fsR0 ∧ BindE K fd [] [] 0 := by
  obtain ⟨cd, hcd, hm, hh⟩ := hx.C.cl
  obtain ⟨cc, cda, dV, kV, doc, pm, ct, an, oc, od, osl, ho, S⟩ := sup_of h ht hcd sup opq top
  have eD : dV = .none := by
    unfold nodB at hn
    rw [ho] at hn
    dsimp only at hn
    split at hn
    · rfl
    · cases hn
  subst eD
  obtain ⟨s1, s2⟩ := own_si hx rfl iT
  exact ⟨_, cmk_r0 TB S hx.ek hl s1 s2 hx.iC hx.tI, bindE0 fun x => rfl⟩
theorem te_cmk {fdT : FuncData} (hx : ErrX K x) (TB : TeB P K (ga K "TestError") (ini K "TestError") fdT) (hi : (ini K x == ini K "TestError") = true) : CMk P w K (ga K x) (ini K "TestError") fdT ["given"] fsTe := by
  have e : ini K x = ini K "TestError" := by simpa using hi
  have h1 := hx.iC
  rw [e] at h1
  exact cmk_te TB.ted hx.ek h1 TB.tT
end
end TEX
set_option Elab.async false
set_option linter.all false
set_option maxRecDepth 100000
set_option maxHeartbeats 0
/-! KH: the head of k00: what the top leaves, by names. -/
namespace KH
open PySem PySem.W PySem.Calls PyProof.Rows PySem.HandSPX He TEX
abbrev R : OpenRow := OpenLaw.row PySem.Challenge.rw_onetest_k00_names_words_errors
abbrev qv : Program := view R.prog [95]
def top (i : Nat) : Stmt := PySem.Challenge.pw_onetest_k00_names_words_errors.main.body.getD i (.Pass ⟨0, 0, 0, 0⟩)
/-- the __init__ of the class at i -/
def ist (i : Nat) : Stmt := L2.inClass (top i) 0
def dd (x : Str) (i : Nat) : DefD := ⟨(x, none), x, x, L2.defArgs (top i), L2.defBody (top i), L2.defScope (top i), [], []⟩
def teN : List Str := ["InvalidChain", "InvalidCode", "InvalidCodes", "InvalidForm", "InvalidGoal", "InvalidIndex", "InvalidLot", "InvalidModule", "InvalidName", "InvalidNumber", "InvalidPairs", "InvalidPath", "InvalidPieces", "InvalidPlace", "InvalidPlaces", "InvalidRow", "InvalidRule", "InvalidRules", "InvalidState", "InvalidStep", "InvalidSteps", "InvalidSuite", "InvalidTable", "InvalidTerm", "InvalidText", "InvalidTrees", "InvalidType", "InvalidUses", "InvalidWord"]
def rfN : List (Str × Str) := [("Apart", "place"), ("Circle", "name"), ("Equal", "form"), ("InUse", "user"), ("Loop", "used"), ("NotFew", "count"), ("Taken", "name"), ("TooFew", "count"), ("TooMany", "count"), ("Twice", "name"), ("UnknownName", "name"), ("Unlike", "form"), ("WrongStep", "index"), ("WrongType", "name")]
def r0N : List Str := ["NothingToRedo", "NothingToUndo", "Stopped"]
def fn : List DefD := [dd "is_integer" 34, dd "is_between" 35, dd "is_word" 36, dd "is_name" 43, dd "name_with" 44, dd "name_at" 45, dd "number_of" 46, dd "is_text" 47, dd "check_text" 48, dd "word_at" 49, dd "words_in" 50, dd "words_of" 51, dd "lines_of" 52, dd "_law_cell" 72, dd "_law_box" 73, dd "_law_take" 74, dd "_law_pick" 75, dd "_law_same" 76, dd "_law_grown" 77, dd "_law_name" 78, dd "_law_copy" 79, dd "_law_number_of" 80, dd "_law_is_name" 81, dd "_law_is_text" 82, dd "_law_words" 83, dd "_law_lines" 84, dd "_law_letters" 85, dd "_law_drawn_text" 86, dd "_law_told" 87, dd "_law_names_right" 88, dd "_law_texts_right" 89, dd "_law_refused_right" 90, dd "_law_invalid" 91, dd "_law_refusals" 92, dd "_law_kinds_of" 93, dd "_law_errors_right" 94, dd "law" 95]
def frees : List Str := ["isinstance", "int", "bool", "str", "len", "all", "max", "min", "abs", "sum", "list", "dict", "tuple", "range", "super", "ValueError"]
def errN : List Str := teN ++ (rfN.map (·.1) ++ r0N)
/-- a class's own text -/
def txOf (x : Str) (i : Nat) : FnT := some (("__init__" : Str), x ++ ".__init__", L2.defArgs (ist i), .stmts (L2.defBody (ist i)), L2.defScope (ist i))
def tx : List (Str × Nat) := [("TestError", 1), ("Apart", 54), ("Circle", 55), ("Equal", 56), ("InUse", 57), ("Loop", 58), ("NotFew", 59), ("Taken", 63), ("TooFew", 64), ("TooMany", 65), ("Twice", 66), ("UnknownName", 67), ("Unlike", 68), ("WrongStep", 69), ("WrongType", 70), ("NothingToRedo", 60), ("NothingToUndo", 61), ("Stopped", 62)]
def constB (K : Frag) : Bool := (Fa.int "MOST_WORD" 12).ok K && ((Fa.int "MOST_NUMBER" 4000).ok K && ((Fa.int "MOST_SIGNS" 4000).ok K && ((Fa.str "LETTERS" "abcdefghijklmnopqrstuvwxyz").ok K && ((Fa.str "FEED" "\n").ok K && ((Fa.str "TO" "->").ok K && ((Fa.glo "HALVES").ok K && tupB K "HALVES" [.str "fst", .str "snd"]))))))
def nodupB : List Nat → Bool
  | [] => true
  | a :: r => !r.contains a && nodupB r
def part1 (K : Frag) : Bool := (frees.all fun x => (Fa.free x).ok K) && (constB K && (eqO (nsIn K cStatics "thirdparty.any") (some none) && (nodupB (ga K "TestError" :: errN.map (ga K)) && clsB K "TestError" veTail)))
def part2 (K : Frag) : Bool := keepIn K (.ref (ini K "TestError")) && (decide (typeIn K (.ref (ini K "TestError")) = some (.type "function")) && (decide (typeIn K (.ref (ga K "TestError")) = some (.type "type")) &&
  (eqO (findIn K (.ref (ga K "TestError")) "__init__") (some (some (.ref (ini K "TestError")))) && ((Fa.glo "TestError").ok K && ((errN.all fun x => clsB K x (.ref (ga K "TestError") :: veTail) && (!(ga K x == ga K "TestError") && baseB K x)) && (teN.all fun x => ini K x == ini K "TestError"))))))
def part3 (K : Frag) : Bool := supB R.prog K "TestError" && (dflB1 K "TestError" && ((rfN.all fun p => supB R.prog K p.1 && (nodB K p.1 && eqO (findIn K (.ref (ga K p.1)) p.2) (some none))) && (r0N.all fun x => supB R.prog K x && nodB K x)))
def part4 (K : Frag) : Bool := fn.all fun d => d.ok K && (Fa.glo d.name).ok K
/-- the part of the heap that is looked at, laid out first -/
def keepD : Data → Bool
  | .cls _ => true
  | .func _ => true
  | .cell _ => true
  | .dict _ _ => true
  | .fields vs => (match vs.toList with
    | _ :: .str _ _ :: _ => true
    | _ => false)
  | .seq its _ => (match its.toList with
    | [_] => true
    | [_, _] => true
    | _ => false)
  | _ => false
def frK (g : Addr → Option Obj) : List Addr → Frag
  | [] => []
  | a :: r => match g a with
    | none => frK g r
    | some o => if keepD o.data = true then (a, o) :: frK g r else frK g r
theorem frK_mem (g : Addr → Option Obj) {a : Addr} {o : Obj} : ∀ as : List Addr, (a, o) ∈ frK g as → g a = some o
  | [], h => by cases h
  | b :: r, h => by
    unfold frK at h
    cases e : g b with
    | none =>
      rw [e] at h
      exact frK_mem g r h
    | some u =>
      rw [e] at h
      dsimp only at h
      split at h
      · rcases List.mem_cons.mp h with q | q
        · cases q
          exact e
        · exact frK_mem g r q
      · exact frK_mem g r h
theorem mem_of_lookup {a : Addr} {o : Obj} : ∀ l : Frag, l.lookup a = some o → (a, o) ∈ l
  | [], h => by cases h
  | (b, u) :: r, h => by
    rw [List.lookup_cons] at h
    split at h
    · rename_i e
      have e2 : a = b := by simpa using e
      cases h
      rw [e2]
      exact List.mem_cons_self ..
    · exact List.mem_cons_of_mem _ (mem_of_lookup r h)
theorem frK_in {as : List Addr} {h : Heap} : (frK h.get? as).In h := fun _ _ e => frK_mem _ as (mem_of_lookup _ e)
def frc {α : Type} (g : Addr → Option Obj) : List Addr → (Frag → α) → α
  | [], k => k []
  | a :: r, k => match g a with
    | none => frc g r k
    | some ⟨c, d, dt, sl⟩ => match keepD dt with
      | true => frc g r fun K => k ((a, ⟨c, d, dt, sl⟩) :: K)
      | false => frc g r k
theorem frc_eq {α : Type} (g : Addr → Option Obj) : ∀ (as : List Addr) (k : Frag → α), frc g as k = k (frK g as)
  | [], _ => rfl
  | a :: r, k => by
    unfold frc frK
    cases h : g a with
    | none => exact frc_eq g r k
    | some o =>
      obtain ⟨c, d, dt, sl⟩ := o
      dsimp only
      cases e : keepD dt with
      | true => rw [if_pos rfl]; exact frc_eq g r _
      | false => rw [if_neg Bool.false_ne_true]; exact frc_eq g r _
def KK (g : Addr → Option Obj) : Frag := frK g (List.range 1010)
abbrev AlK : Type := (Bool × Bool) × (Bool × List FnT) × (Bool × List FnW)
def ob1 (g : Addr → Option Obj) : Bool × Bool := frc g (List.range 1010) fun K => (part1 K, part2 K)
def ob2 (g : Addr → Option Obj) : Bool × List FnT := frc g (List.range 1010) fun K => (part3 K, tx.map fun p => fnT K (ini K p.1))
def ob3 (g : Addr → Option Obj) : Bool × List FnW := frc g (List.range 1010) fun K => (part4 K, fn.map fun d => fnW K d.at_)
def val2 : Bool × List FnT := (true, tx.map fun p => txOf p.1 p.2)
def val3 : Bool × List FnW := (true, fn.map DefD.val)
def obsK (K : Frag) : AlK := ((part1 K, part2 K), (part3 K, tx.map fun p => fnT K (ini K p.1)), (part4 K, fn.map fun d => fnW K d.at_))
def valK : AlK := ((true, true), val2, val3)
def Says (K : Frag) : Prop := obsK K = valK
theorem obs_eq (g : Addr → Option Obj) : (ob1 g, ob2 g, ob3 g) = obsK (KK g) := by
  unfold ob1 ob2 ob3
  rw [frc_eq, frc_eq, frc_eq]
  rfl
def hk : Hook where
  α := AlK
  obs := fun s => (ob1 s.heap.get?, ob2 s.heap.get?, ob3 s.heap.get?)
  val := fun _ => valK
  says := fun _ h => ∃ K : Frag, K.In h ∧ Says K
  of := fun _ _ e => ⟨_, frK_in, (obs_eq _).symm.trans e⟩
  keeps := fun _ _ _ ⟨K, hK, c⟩ k => ⟨K, Frag.In.keeps hK k, c⟩
def ob (s : SharedT) : AlK := (ob1 (HandSHeadRun.getT s), ob2 (HandSHeadRun.getT s), ob3 (HandSHeadRun.getT s))
theorem ob_eq (s : SharedT) : ob s = hk.obs s.abs := by
  have e : HandSHeadRun.getT s = s.abs.heap.get? := funext (HandSHeadRun.getT_eq s)
  show (ob1 (HandSHeadRun.getT s), ob2 (HandSHeadRun.getT s), ob3 (HandSHeadRun.getT s)) = (ob1 s.abs.heap.get?, ob2 s.abs.heap.get?, ob3 s.abs.heap.get?)
  rw [e]
def nm0 : List Str := ["TestError", "InvalidChain", "InvalidCode", "InvalidCodes", "InvalidForm", "InvalidGoal", "InvalidIndex", "InvalidLot", "InvalidModule", "InvalidName", "InvalidNumber", "InvalidPairs", "InvalidPath", "InvalidPieces", "InvalidPlace", "InvalidPlaces", "InvalidRow", "InvalidRule", "InvalidRules", "InvalidState", "InvalidStep", "InvalidSteps", "InvalidSuite", "InvalidTable", "InvalidTerm"]
def nm1 : List Str := ["InvalidText", "InvalidTrees", "InvalidType", "InvalidUses", "InvalidWord", "Apart", "Circle", "Equal", "InUse", "Loop", "NotFew", "Taken", "TooFew", "TooMany", "Twice", "UnknownName", "Unlike", "WrongStep", "WrongType", "NothingToRedo", "NothingToUndo", "Stopped", "LETTERS", "MOST_WORD", "HALVES"]
def nm2 : List Str := ["MOST_NUMBER", "MOST_SIGNS", "FEED", "TO", "is_integer", "is_between", "is_word", "is_name", "name_with", "name_at", "number_of", "is_text", "check_text", "word_at", "words_in", "words_of", "lines_of", "_law_cell", "_law_box", "_law_take", "_law_pick", "_law_same", "_law_grown", "_law_name", "_law_copy"]
def nm3 : List Str := ["_law_number_of", "_law_is_name", "_law_is_text", "_law_words", "_law_lines", "_law_letters", "_law_drawn_text", "_law_told", "_law_names_right", "_law_texts_right", "_law_refused_right", "_law_invalid", "_law_refusals", "_law_kinds_of", "_law_errors_right"]
def names : List Str := nm0 ++ (nm1 ++ (nm2 ++ (nm3)))
def ST : Nat := 12100
noncomputable def fin (w : World) (os : OsState) : Option SharedT := HandSHeadRun.endF (HandSHeadRun.stepQ (HandSHeadRun.denQ HandSHeadRun.tabQ) R.prog w) ST R.prog w os
theorem run0 (w : World) (os : OsState) : (fin w os).map (fun s => (HandSHeadRun.looksF R.prog (boot_heap w.params) s.abs, HandSHeadRun.seenQ qv names (importedModules R.prog.main.body) (fun s => xlAt qv [] s && recOk R.toRowW.records s) s.abs)) = some (true, openGood qv names) := by
  kernel_rfl
theorem run1 (w : World) (os : OsState) : (fin w os).map (fun s => ob1 (HandSHeadRun.getT s)) = some (true, true) := by
  kernel_rfl
theorem run2 (w : World) (os : OsState) : (fin w os).map (fun s => ob2 (HandSHeadRun.getT s)) = some val2 := by
  kernel_rfl
theorem run3 (w : World) (os : OsState) : (fin w os).map (fun s => ob3 (HandSHeadRun.getT s)) = some val3 := by
  kernel_rfl
theorem run (w : World) : HandSHeadRun.RunEq R qv hk ob ST names w := by
  intro os
  have h0 := run0 w os
  have h1 := run1 w os
  have h2 := run2 w os
  have h3 := run3 w os
  show (fin w os).map (fun s => (HandSHeadRun.looksF R.prog (boot_heap w.params) s.abs, HandSHeadRun.seenQ qv names (importedModules R.prog.main.body) (fun s => xlAt qv [] s && recOk R.toRowW.records s) s.abs, ob s)) = some (true, openGood qv names, valK)
  cases e : fin w os with
  | none =>
    rw [e] at h0
    cases h0
  | some s =>
    rw [e] at h0 h1 h2 h3
    have g0 := Option.some.inj h0
    have g1 := Option.some.inj h1
    have g2 := Option.some.inj h2
    have g3 := Option.some.inj h3
    obtain ⟨a, b⟩ := Prod.mk.inj g0
    show some (HandSHeadRun.looksF R.prog (boot_heap w.params) s.abs, HandSHeadRun.seenQ qv names (importedModules R.prog.main.body) (fun s => xlAt qv [] s && recOk R.toRowW.records s) s.abs, (ob1 (HandSHeadRun.getT s), ob2 (HandSHeadRun.getT s), ob3 (HandSHeadRun.getT s))) = _
    rw [a, b, show ob1 (HandSHeadRun.getT s) = (true, true) from g1, show ob2 (HandSHeadRun.getT s) = val2 from g2, show ob3 (HandSHeadRun.getT s) = val3 from g3]
    rfl
end KH
set_option Elab.async false
set_option linter.all false
set_option maxRecDepth 100000
set_option maxHeartbeats 4000000
/-! KF: what the defs of k00 may lean on. -/
namespace KF
open PySem PySem.Spec PyProof.Rows L2 TEX He
/-- the written part and the module's names -/
structure Env (P : Program) (w : World) (K : PySem.W.Frag) (mg : Str → Option Value) (base : Heap) : Prop where
  prog : P = KH.R.prog
  X : K.In base
  G : base.Ns mainGlobals mg
  says : KH.Says K
/-- a def that may be called by its name -/
structure Callee (P : Program) (w : World) (K : PySem.W.Frag) (mg : Str → Option Value) (base : Heap) (CX : CXT) (k : Nat) (x : Str) (ps : List Str) (sp : Sp) : Prop where
  ex : ∃ (f : Addr) (fd : FuncData), mg x = some (.ref f) ∧ PySem.W.keepIn K (.ref f) = true ∧ FnOk P w K mg base CX k f fd ps sp ∧ Binds K fd ps [] ∧
    ∀ (s : Shared) (us : List Value), K.In s.heap → us.length = ps.length → BindsTo s fd ⟨[], ps.zip us⟩ (ps.zip us)
section
variable {P : Program} {w : World} {K : PySem.W.Frag} {mg : Str → Option Value} {base : Heap}
theorem Env.p1 (T : Env P w K mg base) : KH.part1 K = true := congrArg (fun z : KH.AlK => z.1.1) T.says
theorem Env.p2 (T : Env P w K mg base) : KH.part2 K = true := congrArg (fun z : KH.AlK => z.1.2) T.says
theorem Env.p3 (T : Env P w K mg base) : KH.part3 K = true := congrArg (fun z : KH.AlK => z.2.1.1) T.says
theorem Env.tx (T : Env P w K mg base) : KH.tx.map (fun p => fnT K (ini K p.1)) = KH.tx.map fun p => KH.txOf p.1 p.2 := congrArg (fun z : KH.AlK => z.2.1.2) T.says
theorem Env.p4 (T : Env P w K mg base) : KH.part4 K = true := congrArg (fun z : KH.AlK => z.2.2.1) T.says
theorem Env.fnw (T : Env P w K mg base) : KH.fn.map (fun d => fnW K d.at_) = KH.fn.map DefD.val := congrArg (fun z : KH.AlK => z.2.2.2) T.says
theorem Env.free (T : Env P w K mg base) (i : Nat) {x : Str} (h : KH.frees[i]? = some x := by rfl) : mg x = none :=
  free_ok T.X T.G (List.all_eq_true.mp (ba T.p1).1 x (List.mem_of_getElem? h))
theorem Env.cB (T : Env P w K mg base) : KH.constB K = true := (ba (ba T.p1).2).1
theorem Env.opq (T : Env P w K mg base) : PySem.W.nsIn K cStatics "thirdparty.any" = some none := eqO_ok (ba (ba (ba T.p1).2).2).1
theorem Env.nodup (T : Env P w K mg base) : KH.nodupB (ga K "TestError" :: KH.errN.map (ga K)) = true := (ba (ba (ba (ba T.p1).2).2).2).1
theorem Env.clsD (T : Env P w K mg base) : ClsK K "TestError" PySem.HandSPX.veTail := clsB_ok (ba (ba (ba (ba T.p1).2).2).2).2
theorem Env.mostWord (T : Env P w K mg base) : ∃ t, mg "MOST_WORD" = some (.int 12 t) := int_ok T.X T.G (ba T.cB).1
theorem Env.mostNumber (T : Env P w K mg base) : ∃ t, mg "MOST_NUMBER" = some (.int 4000 t) := int_ok T.X T.G (ba (ba T.cB).2).1
theorem Env.mostSigns (T : Env P w K mg base) : ∃ t, mg "MOST_SIGNS" = some (.int 4000 t) := int_ok T.X T.G (ba (ba (ba T.cB).2).2).1
theorem Env.letters (T : Env P w K mg base) : ∃ t, mg "LETTERS" = some (.str "abcdefghijklmnopqrstuvwxyz" t) := str_ok T.X T.G (ba (ba (ba (ba T.cB).2).2).2).1
theorem Env.feed (T : Env P w K mg base) : ∃ t, mg "FEED" = some (.str "\n" t) := str_ok T.X T.G (ba (ba (ba (ba (ba T.cB).2).2).2).2).1
theorem Env.to (T : Env P w K mg base) : ∃ t, mg "TO" = some (.str "->" t) := str_ok T.X T.G (ba (ba (ba (ba (ba (ba T.cB).2).2).2).2).2).1
theorem Env.halvesG (T : Env P w K mg base) : mg "HALVES" = some (.ref (ga K "HALVES")) := glo_ok T.X T.G (ba (ba (ba (ba (ba (ba (ba T.cB).2).2).2).2).2).2).1
theorem Env.halves (T : Env P w K mg base) (H : Hp) : SqT K H (ga K "HALVES") [.str "fst", .str "snd"] := tupB_ok (ba (ba (ba (ba (ba (ba (ba T.cB).2).2).2).2).2).2).2 H
/-- a def by its place in the head's list -/
theorem Env.fn (T : Env P w K mg base) (i : Nat) {d : DefD} (h : KH.fn[i]? = some d := by rfl) : ∃ fd, FunD K d.name d.qual d.params d.body d.scope (d.dvs K) (d.kws K) (fAd K d.at_) fd := by
  have c2 := (ba (List.all_eq_true.mp T.p4 d (List.mem_of_getElem? h))).1
  have e2 : (KH.fn.map fun d => fnW K d.at_)[i]? = (KH.fn.map DefD.val)[i]? := by rw [T.fnw]
  rw [List.getElem?_map, List.getElem?_map, h] at e2
  exact DefD.funD (Option.some.inj e2) c2
theorem Env.glo (T : Env P w K mg base) (i : Nat) {d : DefD} (h : KH.fn[i]? = some d := by rfl) : mg d.name = some (.ref (ga K d.name)) :=
  glo_ok T.X T.G (ba (List.all_eq_true.mp T.p4 d (List.mem_of_getElem? h))).2
/-- a def's promise, from its body's walk -/
theorem callee {x : Str} {st : Stmt} {f : Addr} {fd : FuncData} {N ps : List Str} {k : Nat} {sp : Sp} {CX : CXT} (F : FunD K x x (defArgs st) (defBody st) (defScope st) [] [] f fd) (hm : mg x = some (.ref f)) (S : FnScope N ps (defScope st))
    (b : ∀ (kV doc pm : Value) (an : Option Addr) (cdv ct : Value) (us : List Value), us.length = ps.length → bindArgs (PySem.W.fnOf x x (defArgs st) (defBody st) (defScope st) .none kV doc pm an cdv ct) ⟨us, []⟩ = pure (ps.zip us))
    (bk : ∀ (kV doc pm : Value) (an : Option Addr) (cdv ct : Value) (us : List Value), us.length = ps.length → bindArgs (PySem.W.fnOf x x (defArgs st) (defBody st) (defScope st) .none kV doc pm an cdv ct) ⟨[], ps.zip us⟩ = pure (ps.zip us))
    (len : ∀ vs H Q E, sp vs H Q E → vs.length = ps.length)
    (hbody : ∀ (cdv : Value) (A : Around) (outer : List PySem.Env) (s : Shared) (H : Hp) (vs : List V) (Q : VK) (E : XK), Room k (A.deeper (envOfC x (defScope st) s.heap.objs.size f cdv)) → sp vs H Q E →
      ∃ t, PSs (cxOf CX P w K mg base N x (defScope st) f cdv A outer s H E) (defBody st) t ∧ t { nx := fun _ H' => Q .non H', rt := Q } (start N vs) H) :
    Callee P w K mg base CX (k + 1) x ps sp := by
  refine ⟨f, fd, hm, F.kp, F.ok S len hbody, F.bindsN b, fun s us X l => ?_⟩
  obtain ⟨oc, od, dV, kV, doc, pm, an, cdv, ct, osl, rfl, lk, hcd, hD, hK⟩ := F.ex
  rcases hD with ⟨_, e⟩ | ⟨e, _⟩
  · subst e
    exact BindsTo.of_eq (bk kV doc pm an cdv ct us l)
  · exact absurd rfl e
end
section
variable {X : Cx} {CX : CXT} {k : Nat} {x : Str} {ps : List Str} {sp : Sp} {E : XK} {p pos : Pos} {e : Expr} {es : List Expr} {kws : List Keyword} {t : TA}
/-- f(e ..) -/
theorem pe_c (C : Callee X.prog X.w X.K X.mg X.base CX k x ps sp) (hr : Room k X.A) (hx : Passes CX X E) (ha : PA X (e :: es) t) (hg : Gl X x := by rfl) (hdb : (x == ("__debug__" : Str)) = false := by decide)
    (he : starEach (e :: es) X.env = (false, eval e X.env) :: starEach es X.env := by rfl) (hpl : (backTo pos (starEach es X.env)).any (·.1) = false := by rfl) : PE X (.Call (.Name x p) (e :: es) [] pos) (tCall sp [] E t) := by
  obtain ⟨f, fd, hm, hk, F, hb, _⟩ := C.ex
  exact pe_call F hr hg hm hk hb .nil hx ha hdb he hpl
/-- f(k = e ..): all by name -/
def tCallKw (sp : Sp) (E : XK) (t : TA) : TE := fun σ H Q => t σ H fun vs H1 => sp vs H1 Q E
theorem pe_cK (C : Callee X.prog X.w X.K X.mg X.base CX k x ps sp) (hr : Room k X.A) (hx : Passes CX X E) (hkw : PK X kws t) (hall : (backToKw pos (keywordEach kws X.env)).all (·.1.isSome) = true := by rfl) (hks : (backToKw pos (keywordEach kws X.env)).filterMap (·.1) = ps := by rfl)
    (hg : Gl X x := by rfl) (hdb : (x == ("__debug__" : Str)) = false := by decide) (hpl : ((backTo pos (starEach [] X.env)).any (·.1) || (backToKw pos (keywordEach kws X.env)).any (·.1.isNone)) = false := by rfl) :
    PE X (.Call (.Name x p) [] kws pos) (tCallKw sp E t) := by
  obtain ⟨f, fd, hm, hk, F, hb, hbk⟩ := C.ex
  refine ⟨fun pins s σ H Q I h => ?_⟩
  refine wpAny_Call_Name_kw (ld_glob I hg hm ?_ hdb)
  refine PySem.W.callWith_KW0 (h₀ := X.base) (K := X.K) I.ok.mod.kin hk hall (thn (hkw.run pos pins s σ H _ I h) fun ws s2 ⟨zs, H2, I2, rz, q2⟩ => ⟨I2.kIn, ?_⟩) hpl
  rw [hks]
  have l : ws.length = ps.length := rz.length.symm.trans (F.len _ _ _ _ q2)
  refine wpAny_call (codeAny_mono (F.run X.A X.stack s2 H2 ⟨[], ps.zip ws⟩ ws zs Q E hr I2.env0 (hbk s2 ws I2.kIn l) rz q2) fun r s' hq => ?_)
  cases r with
  | error e => exact hx pins σ H2 s2 e s' I2 hq
  | ok fl =>
    cases fl with
    | ret u => exact I2.after hq
    | next => exact False.elim hq
    | brk => exact False.elim hq
    | cont => exact False.elim hq
end
end KF
set_option Elab.async false
set_option linter.all false
set_option maxRecDepth 100000
set_option maxHeartbeats 4000000
/-! KA: tools of the defs of k00. -/
namespace KF
open PySem PySem.Spec PyProof.Rows L2 TEX He Evl
open SX (S S_tl S_len S_cat S_inj)
abbrev CXN : CXT := fun _ _ _ _ _ _ => False
theorem passN {X : Cx} {E : XK} : Passes CXN X E := fun _ _ _ _ _ _ _ h => h.elim
abbrev EN : XK := fun _ _ _ => False
section
variable {X : Cx} {k : Nat} {x : Str} {ps : List Str} {sp : Sp} {p pos : Pos} {e : Expr} {es : List Expr} {kws : List Keyword} {t : TA}
/-- f(e ..), nothing is raised -/
theorem pe_n (C : Callee X.prog X.w X.K X.mg X.base CXN k x ps sp) (hr : Room k X.A) (ha : PA X (e :: es) t) (hg : Gl X x := by rfl) (hdb : (x == ("__debug__" : Str)) = false := by decide)
    (he : starEach (e :: es) X.env = (false, eval e X.env) :: starEach es X.env := by rfl) (hpl : (backTo pos (starEach es X.env)).any (·.1) = false := by rfl) : PE X (.Call (.Name x p) (e :: es) [] pos) (tCall sp [] EN t) := pe_c C hr passN ha hg hdb he hpl
theorem pe_nK (C : Callee X.prog X.w X.K X.mg X.base CXN k x ps sp) (hr : Room k X.A) (hkw : PK X kws t) (hall : (backToKw pos (keywordEach kws X.env)).all (·.1.isSome) = true := by rfl) (hks : (backToKw pos (keywordEach kws X.env)).filterMap (·.1) = ps := by rfl)
    (hg : Gl X x := by rfl) (hdb : (x == ("__debug__" : Str)) = false := by decide) (hpl : ((backTo pos (starEach [] X.env)).any (·.1) || (backToKw pos (keywordEach kws X.env)).any (·.1.isNone)) = false := by rfl) :
    PE X (.Call (.Name x p) [] kws pos) (tCallKw sp EN t) := pe_cK C hr passN hkw hall hks hg hdb hpl
end
/-! ### kinds of values -/
def asc (c : Nat) : Bool := decide (c < 128)
inductive Kd (H : Hp) : V → String → Prop where
  | non : Kd H .non "NoneType"
  | bl (b : Bool) : Kd H (.bl b) "bool"
  | int (i : Int) : Kd H (.int i) "int"
  | str (l : List Nat) (h : l.length ≤ 50000) (h2 : l.all asc = true) : Kd H (.str (S l)) "str"
  | lst {a : Addr} {xs : List V} (e : H a = some (.lst xs)) : Kd H (.ref a) "list"
  | tup {a : Addr} {xs : List V} (e : H a = some (.tup xs)) : Kd H (.ref a) "tuple"
  | dct {a : Addr} {kvs : List (Key × V)} (e : H a = some (.dK kvs)) : Kd H (.ref a) "dict"
theorem Kd.mono {H H' : Hp} {v : V} {n : String} (e : Ex H H') (k : Kd H v n) : Kd H' v n := by
  cases k with
  | non => exact .non
  | bl b => exact .bl b
  | int i => exact .int i
  | str l h h2 => exact .str l h h2
  | lst h => exact .lst (e _ _ h)
  | tup h => exact .tup (e _ _ h)
  | dct h => exact .dct (e _ _ h)
theorem Kd.ty {K : PySem.W.Frag} {H : Hp} {v : V} {n : String} (k : Kd H v n) : TyX K H v (.type n) := by
  cases k with
  | non => exact .base .non
  | bl b => exact .base (.bl b)
  | int i => exact .base (.int i)
  | str l h h2 => exact .base (.str _)
  | lst h => exact .base (.lst h)
  | tup h => exact .base (.tup h)
  | dct h => exact .base (.dK h)
def tys : List String := ["str", "int", "bool", "list", "tuple", "dict"]
def kds : List String := ["NoneType", "bool", "int", "str", "list", "tuple", "dict"]
def isB (n t : String) : Bool := n == t || (t == "int" && n == "bool")
theorem isB_all : (kds.all fun n => tys.all fun t => decide (kitB n t = some (isB n t))) = true := by decide +kernel
theorem Kd.mem {H : Hp} {v : V} {n : String} (k : Kd H v n) : n ∈ kds := by cases k <;> decide
theorem kit_kd {K : PySem.W.Frag} {n t : String} (hn : n ∈ kds) (ht : t ∈ tys) : PySem.W.kitOne K (.type n) (.type t) = some (isB n t) :=
  kit_ty (of_decide_eq_true (List.all_eq_true.mp (List.all_eq_true.mp isB_all n hn) t ht))
section
variable {K : PySem.W.Frag} {σ : L2.St} {H : Hp} {ta tb tc te : TE} {t : TT} {x y z v : V}
theorem ev_isi {n ty : String} (ha : Ev ta σ H v) (k : Kd H v n) (ht : ty ∈ tys := by decide) : Ev (tCB (rIsi K) (tCons ta (tCons (tC (.ty ty)) tNil))) σ H (.bl (isB n ty)) := fun H1 e Q q =>
  ha H1 e _ fun H2 e2 => ⟨v, .ty ty, .type n, .type ty, isB n ty, rfl, .ty ty, (k.mono (e.trans e2)).ty, kit_kd k.mem ht, q H2 e2⟩
/-- isinstance(x, (list, tuple)) -/
theorem ev_isi2 {n t1 t2 : String} (ha : Ev ta σ H v) (k : Kd H v n) (h1 : t1 ∈ tys := by decide) (h2 : t2 ∈ tys := by decide) :
    Ev (tCB (rIsiT K) (tCons ta (tCons (tTup (tCons (tC (.ty t1)) (tCons (tC (.ty t2)) tNil))) tNil))) σ H (.bl (isB n t1 || isB n t2)) := fun H1 e Q q =>
  ha H1 e _ fun H2 e2 => ⟨by show 2 ≤ sizeLine; decide, fun p hp => ⟨v, p, [.ty t1, .ty t2], .type n, [.type t1, .type t2], isB n t1 || isB n t2, rfl, upd_same, .cons (.ty t1) (.cons (.ty t2) .nil),
    (k.mono ((e.trans e2).trans (Ex.new hp))).ty, kitAny_cons (kit_kd k.mem h1) (fun z => kitAny_cons (r := isB n t1 || isB n t2) (b := isB n t2) (kit_kd k.mem h2) (fun z2 => by rw [z, z2]; exact kitAny_nil) (fun z2 => by rw [z2, Bool.or_true])) (fun z => by rw [z, Bool.true_or]), q _ (e2.trans (Ex.new hp))⟩⟩
theorem ev_chain {r r' : R2} {a b : Bool} (ha : Ev ta σ H x) (hb : Ev tb σ H y) (hc : a = true → Ev tc σ H z) (h1 : RV r x y H (.bl a)) (h2 : a = true → RV r' y z H (.bl b)) : Ev (tChain r r' ta tb tc) σ H (.bl (a && b)) := fun H1 e Q q =>
  ha H1 e _ fun H2 e2 => hb H2 (e.trans e2) _ fun H3 e3 => h1 H3 ((e.trans e2).trans e3) _ fun H4 e4 => ⟨a, rfl, by
    cases a with
    | true =>
      show tc σ H4 fun w H5 => r' y w H5 Q
      exact hc rfl H4 (((e.trans e2).trans e3).trans e4) _ fun H5 e5 => h2 rfl H5 ((((e.trans e2).trans e3).trans e4).trans e5) Q fun H6 e6 => q H6 ((((e2.trans e3).trans e4).trans e5).trans e6)
    | false =>
      show Q (.bl false) H4
      exact q H4 ((e2.trans e3).trans e4)⟩
theorem rc_lenS {l : List Nat} (hl : l.length ≤ 50000) : RC (fun xs H Q => ∃ z, xs = [.str z] ∧ z.length ≤ sizeLine ∧ Q (.int z.length) H) [.str (S l)] H (.int (l.length : Int)) := fun H1 _ Q q =>
  ⟨S l, rfl, by rw [S_len]; exact sz_of (by omega), by rw [S_len]; exact q H1 (Ex.refl H1)⟩
theorem rv_sign {c : Nat} {w : Str} : RV (fun x y H Q => ∃ (c : Nat) (z : Str), x = .str ⟨#[c]⟩ ∧ y = .str z ∧ Q (.bl (decide (c ∈ z.cps.toList))) H) (.str ⟨#[c]⟩) (.str w) H (.bl (decide (c ∈ w.cps.toList))) := fun H1 _ Q q => ⟨c, w, rfl, rfl, q H1 (Ex.refl H1)⟩
theorem one_lt {c d : Nat} : decide ([c] < [d]) = decide (c < d) := by
  have e : ([c] < [d]) ↔ c < d := by
    rw [List.cons_lt_cons_iff]
    simp
  by_cases h : c < d
  · rw [decide_eq_true h, decide_eq_true (e.mpr h)]
  · rw [decide_eq_false h, decide_eq_false (fun z => h (e.mp z))]
theorem rv_leS {c d : Nat} : RV (fun x y H Q => ∃ i j, x = .str i ∧ y = .str j ∧ Q (.bl (!decide (j.cps.toList < i.cps.toList))) H) (.str ⟨#[c]⟩) (.str ⟨#[d]⟩) H (.bl (decide (c ≤ d))) := fun H1 _ Q q =>
  ⟨⟨#[c]⟩, ⟨#[d]⟩, rfl, rfl, by
    have e : (!decide ([d] < [c])) = decide (c ≤ d) := by rw [one_lt]; by_cases h : d < c <;> simp [h] <;> omega
    show Q (.bl (!decide ([d] < [c]))) H1
    rw [e]
    exact q H1 (Ex.refl H1)⟩
/-- a comprehension over a text -/
theorem el_lcS {l : List Nat} {ts : TE} {j : Nat} {vs : List Nat} (f : Nat → Bool) (v : Nat → V) (h : Ev ts σ H (.str (S l))) (hz : l.length ≤ 40000) (hw : ∀ x, wipe ((wipe σ vs).set j (some x)) vs = wipe σ vs)
    (ht : ∀ (i c : Nat) H1, Ex H H1 → l[i]? = some c → EvT t ((wipe σ vs).set j (some (.str ⟨#[c]⟩))) H1 (f i)) (he : ∀ (i c : Nat) H1, Ex H H1 → l[i]? = some c → f i = true → Ev te ((wipe σ vs).set j (some (.str ⟨#[c]⟩))) H1 (v i)) :
    EvL (tLc (iStr ts) (gName j) t te vs) σ H (given l.length f v) := fun H0 e Q q => h H0 e _ fun H1 e1 => ⟨S l, rfl, fun Dl hD => by
    have sz : (S l).cps.size = l.length := by simp
    refine lc_it (J := Its (S l)) (n := l.length) (G := fun _ => True) (Y := fun i H v H' => H' = H ∧ ∃ c, (S l).cps[i]? = some c ∧ v = .str ⟨#[c]⟩) (sz ▸ walk_str) (Cw H1 f v Dl) ⟨hD, Ex.new hD, upd_same⟩ (fun _ _ _ _ => True.intro) (fun i x H2 H' hi p y => ?_) (fun H' p => q Dl H' (fresh_back e1 p.1) (e1.trans p.2.1) p.2.2)
    obtain ⟨rfl, c, hc, rfl⟩ := y
    have hc2 : l[i]? = some c := by simpa using hc
    exact ⟨hw _, cw_turn p (by omega) (ht i c H1 (e.trans e1) hc2) (fun hf => he i c H1 (e.trans e1) hc2 hf)⟩⟩
theorem given_all {n : Nat} {v : Nat → V} : given n (fun _ => true) v = (List.range n).map v := by
  unfold given
  rw [List.filter_eq_self.mpr (fun _ _ => rfl)]
theorem range_map {α β : Type} (l : List α) (g : α → β) (v : Nat → β) (h : ∀ i x, l[i]? = some x → v i = g x) : (List.range l.length).map v = l.map g := by
  apply List.ext_getElem?
  intro i
  rw [List.getElem?_map, List.getElem?_map]
  by_cases hi : i < l.length
  · rw [List.getElem?_range hi, List.getElem?_eq_getElem hi]
    show some (v i) = some (g l[i])
    rw [h i l[i] (List.getElem?_eq_getElem hi)]
  · rw [List.getElem?_eq_none (by simpa using hi), List.getElem?_eq_none (by omega)]
    rfl
theorem ev_allL {bs : List Bool} (hL : EvL te σ H (bs.map V.bl)) : Ev (tCB (rAll K) (tCons te tNil)) σ H (.bl (bs.all id)) := fun H0 e Q q => hL H0 e _ fun p H1 hp e1 hl => ⟨p, bs, rfl, sq_of hl, q H1 e1⟩
/-- [.. for sign in text], a bool each: all(..) of it -/
theorem ev_allS {l : List Nat} {ts : TE} {j : Nat} {vs : List Nat} (g : Nat → Bool) (h : Ev ts σ H (.str (S l))) (hz : l.length ≤ 40000) (hw : ∀ x, wipe ((wipe σ vs).set j (some x)) vs = wipe σ vs)
    (ht : ∀ (i c : Nat) H1, Ex H H1 → l[i]? = some c → EvT t ((wipe σ vs).set j (some (.str ⟨#[c]⟩))) H1 true)
    (he : ∀ (i c : Nat) H1, Ex H H1 → l[i]? = some c → Ev te ((wipe σ vs).set j (some (.str ⟨#[c]⟩))) H1 (.bl (g c))) :
    Ev (tCB (rAll K) (tCons (tLc (iStr ts) (gName j) t te vs) tNil)) σ H (.bl (l.all g)) := by
  have hL := el_lcS (te := te) (t := t) (σ := σ) (H := H) (ts := ts) (j := j) (vs := vs) (fun _ => true) (fun i => V.bl (g (l.getD i 0))) h hz hw ht (fun i c H1 e1 hi _ => by
    have e3 : l.getD i 0 = c := by rw [List.getD_eq_getElem?_getD, hi]; rfl
    show Ev te ((wipe σ vs).set j (some (.str ⟨#[c]⟩))) H1 (.bl (g (l.getD i 0)))
    rw [e3]
    exact he i c H1 e1 hi)
  have e4 : given l.length (fun _ => true) (fun i => V.bl (g (l.getD i 0))) = (l.map g).map V.bl := by
    rw [given_all, range_map l (fun c => V.bl (g c)) _ (fun i x hi => by rw [List.getD_eq_getElem?_getD, hi]; rfl), List.map_map]
    rfl
  rw [e4] at hL
  have e2 : (l.map g).all id = l.all g := by rw [List.all_map]; rfl
  rw [← e2]
  exact ev_allL hL
end
/-- the promise of a value -/
theorem SpV.of {sp : Sp} {vs : List V} {H : Hp} {z : V} (h : ∀ H1 Q E, Ex H H1 → RetV z H1 Q → sp vs H1 Q E) : SpV sp vs H z := fun H1 e Q q E => h H1 Q E e q
end KF
set_option Elab.async false
set_option linter.all false
set_option maxRecDepth 100000
set_option maxHeartbeats 4000000
/-! KB: is_integer, is_between, is_word, is_name. -/
namespace KF
open PySem PySem.Spec PyProof.Rows L2 TEX He Evl
open SX (S S_tl S_len S_cat S_inj)
variable {P : Program} {w : World} {K : PySem.W.Frag} {mg : Str → Option Value} {base : Heap}
theorem sc0 : FnScope ["value"] ["value"] (defScope (KH.top 34)) := ⟨rfl, rfl, rfl, by decide +kernel, rfl, by decide +kernel, by decide +kernel⟩
def spIsInt : Sp := fun vs H Q _ => ∃ v n, vs = [v] ∧ Kd H v n ∧ RetV (.bl (n == "int")) H Q
theorem kint {n : String} (h : n ∈ kds) : (isB n "int" && !isB n "bool") = (n == "int") := by
  have e : (kds.all fun n => ((isB n "int" && !isB n "bool") == (n == "int"))) = true := by decide +kernel
  exact eq_of_beq (List.all_eq_true.mp e n h)
theorem c_isint (T : Env P w K mg base) : Callee P w K mg base CXN 1 "is_integer" ["value"] spIsInt := by
  obtain ⟨fd, F⟩ := T.fn 0 (d := KH.dd "is_integer" 34)
  refine callee (st := KH.top 34) F (T.glo 0 (d := KH.dd "is_integer" 34)) sc0 (fun _ _ _ _ _ _ us hl => match us, hl with | [_], _ => rfl) (fun _ _ _ _ _ _ us hl => match us, hl with | [_], _ => rfl) (fun vs H Q E h => by obtain ⟨v, n, rfl, _⟩ := h; rfl) ?_
  intro cdv A outer s H vs Q E hr h
  obtain ⟨v, n, rfl, k, q⟩ := h
  refine ⟨_, pss_one (ps_ret (pe_and (pe_callB call_isi (by rfl) (T.free 0) boot_isinstance (pa_cons (pv 0) (pa_cons (pe_bltn (v := .ty "int") (by rfl) (T.free 1) boot_int rfl) pa_nil)))
    (pe_one (pe_not (pe_callB call_isi (by rfl) (T.free 0) boot_isinstance (pa_cons (pv 0) (pa_cons (pe_bltn (v := .ty "bool") (by rfl) (T.free 2) (by decide +kernel) rfl) pa_nil))))))), ?_⟩
  refine s_ret (v := .bl (n == "int")) ?_ fun H1 e => q H1 e
  rw [← kint k.mem]
  exact ev_andV (ev_isi (ev_var rfl) k) fun _ => ev_notV (ev_isi (ev_var rfl) k)
/-! ### is_between -/
def intOf : V → Int
  | .int i => i
  | _ => 0
def between (v : V) (n : String) (lo hi : Int) : Bool := n == "int" && (decide (lo ≤ intOf v) && decide (intOf v ≤ hi))
theorem Kd.isInt {H : Hp} {v : V} {n : String} (k : Kd H v n) (h : (n == "int") = true) : v = .int (intOf v) := by
  cases k with
  | int i => rfl
  | _ => cases h
theorem sc1 : FnScope ["value", "low", "high"] ["value", "low", "high"] (defScope (KH.top 35)) := ⟨rfl, rfl, rfl, by decide +kernel, rfl, by decide +kernel, by decide +kernel⟩
def spBetween : Sp := fun vs H Q _ => ∃ v n lo hi, vs = [v, .int lo, .int hi] ∧ Kd H v n ∧ RetV (.bl (between v n lo hi)) H Q
theorem isInt_V {H : Hp} {v : V} {n : String} (k : Kd H v n) : SpV spIsInt ([v] ++ []) H (.bl (n == "int")) := SpV.of fun H1 Q E e q => ⟨v, n, rfl, k.mono e, q⟩
theorem c_between (T : Env P w K mg base) : Callee P w K mg base CXN 2 "is_between" ["value", "low", "high"] spBetween := by
  obtain ⟨fd, F⟩ := T.fn 1 (d := KH.dd "is_between" 35)
  refine callee (st := KH.top 35) F (T.glo 1 (d := KH.dd "is_between" 35)) sc1 (fun _ _ _ _ _ _ us hl => match us, hl with | [_, _, _], _ => rfl) (fun _ _ _ _ _ _ us hl => match us, hl with | [_, _, _], _ => rfl) (fun vs H Q E h => by obtain ⟨v, n, lo, hi, rfl, _⟩ := h; rfl) ?_
  intro cdv A outer s H vs Q E hr h
  obtain ⟨v, n, lo, hi, rfl, k, q⟩ := h
  refine ⟨_, pss_one (ps_ret (pe_and (pe_n (c_isint T) hr (pa_cons (pv 0) pa_nil)) (pe_one (pe_chain op_le op_le (pv 1) (pv 0) (pv 2))))), ?_⟩
  refine s_ret (v := .bl (between v n lo hi)) ?_ fun H1 e => q H1 e
  refine ev_andV (ev_call (ea_cons (ev_var rfl) ea_nil) (isInt_V k)) fun h => ?_
  have ev := k.isInt h
  exact ev_chain (x := .int lo) (y := .int (intOf v)) (z := .int hi) (ev_var rfl) (ev_var (by rw [← ev]; rfl)) (fun _ => ev_var rfl) rv_I0 fun _ => rv_I0
/-! ### is_word -/
def ltr (c : Nat) : Bool := decide (97 ≤ c) && decide (c ≤ 122)
def wordL (l : List Nat) : Bool := (decide (1 ≤ l.length) && decide (l.length ≤ 12)) && l.all ltr
def strL : V → List Nat
  | .str z => z.cps.toList
  | _ => []
def wordV (v : V) (n : String) : Bool := n == "str" && wordL (strL v)
theorem Kd.isStr {H : Hp} {v : V} {n : String} (k : Kd H v n) (h : (n == "str") = true) : v = .str (S (strL v)) ∧ (strL v).length ≤ 50000 ∧ (strL v).all asc = true := by
  cases k with
  | str l hl h2 => exact ⟨by show V.str (S l) = V.str (S l.toArray.toList); rfl, hl, h2⟩
  | _ => cases h
theorem kstr {n : String} (h : n ∈ kds) : isB n "str" = (n == "str") := by
  have e : (kds.all fun n => (isB n "str" == (n == "str"))) = true := by decide +kernel
  exact eq_of_beq (List.all_eq_true.mp e n h)
theorem letters_l : ("abcdefghijklmnopqrstuvwxyz" : Str).cps.toList = (List.range 26).map (· + 97) := by decide +kernel
theorem letters_in (c : Nat) : decide (c ∈ ("abcdefghijklmnopqrstuvwxyz" : Str).cps.toList) = ltr c := by
  rw [letters_l]
  unfold ltr
  by_cases h : 97 ≤ c ∧ c ≤ 122
  · rw [decide_eq_true h.1, decide_eq_true h.2, decide_eq_true]
    · rfl
    · rw [List.mem_map]
      exact ⟨c - 97, List.mem_range.mpr (by omega), by omega⟩
  · rw [← Bool.decide_and, decide_eq_false h, decide_eq_false]
    rw [List.mem_map]
    rintro ⟨a, ha, rfl⟩
    have := List.mem_range.mp ha
    omega
theorem sc2 : FnScope ["value", "sign"] ["value"] (defScope (KH.top 36)) := ⟨rfl, rfl, rfl, by decide +kernel, rfl, by decide +kernel, by decide +kernel⟩
def spWord : Sp := fun vs H Q _ => ∃ v n, vs = [v] ∧ Kd H v n ∧ RetV (.bl (wordV v n)) H Q
theorem c_word (T : Env P w K mg base) : Callee P w K mg base CXN 1 "is_word" ["value"] spWord := by
  obtain ⟨fd, F⟩ := T.fn 2 (d := KH.dd "is_word" 36)
  refine callee (st := KH.top 36) F (T.glo 2 (d := KH.dd "is_word" 36)) sc2 (fun _ _ _ _ _ _ us hl => match us, hl with | [_], _ => rfl) (fun _ _ _ _ _ _ us hl => match us, hl with | [_], _ => rfl) (fun vs H Q E h => by obtain ⟨v, n, rfl, _⟩ := h; rfl) ?_
  intro cdv A outer s H vs Q E hr h
  obtain ⟨v, n, rfl, k, q⟩ := h
  obtain ⟨t1, g1⟩ := T.mostWord
  obtain ⟨t2, g2⟩ := T.letters
  refine ⟨_, pss_one (ps_ret (pe_and (pe_callB call_isi (by rfl) (T.free 0) boot_isinstance (pa_cons (pv 0) (pa_cons (pe_bltn (v := .ty "str") (by rfl) (T.free 3) (by decide +kernel) rfl) pa_nil)))
    (pe_and (pe_chain op_le op_le pe_int (pe_callB call_len_str (by rfl) (T.free 4) boot_len (pa_cons (pv 0) pa_nil)) (pe_glob (v := .int 12) (by rfl) g1 ⟨_, rfl⟩))
    (pe_one (pe_callB (cr_all rfl) (by rfl) (T.free 5) boot_all (pa_cons (pe_lc (own := [("sign", 1)]) (g := gName 1) rfl sc2.nd (pi_str (pv 0)) (blkOk_by (N := ["value", "sign"]) (sc := defScope (KH.top 36)) (by decide +kernel))
      (fun _ _ _ _ _ => pg_name (i := 1) sc2.nd rfl (Or.inl rfl)) (fun _ _ _ _ _ => pts_nil) (fun _ _ _ _ _ => pe_cmpR op_in_sign (pv 1) (pe_glob (v := .str "abcdefghijklmnopqrstuvwxyz") (by rfl) g2 ⟨_, rfl⟩) rfl)) pa_nil)))))), ?_⟩
  refine s_ret (v := .bl (wordV v n)) ?_ fun H1 e => q H1 e
  unfold wordV
  rw [← kstr k.mem]
  refine ev_andV (ev_isi (ev_var rfl) k) fun h => ?_
  rw [kstr k.mem] at h
  obtain ⟨e1, e2, _⟩ := k.isStr h
  have vz : (start ["value", "sign"] [v])[0]? = some (some (.str (S (strL v)))) := by rw [← e1]; rfl
  refine ev_andV (ev_is (ev_chain (x := .int 1) (y := .int ((strL v).length : Int)) (z := .int 12) ev_c (ev_cb (ea_cons (ev_var vz) ea_nil) (rc_lenS e2)) (fun _ => ev_c) rv_I0 fun _ => rv_I0) (by
    congr 2 <;> simp <;> omega)) fun h2 => ?_
  have hz : (strL v).length ≤ 40000 := by
    simp at h2
    omega
  refine ev_allS ltr (ev_var vz) hz (fun x => rfl) (fun i c H1 e hi => ?_) fun i c H1 e hi => ?_
  · exact fun H2 _ Q q => q H2 (Ex.refl H2)
  · rw [← letters_in]
    exact ev_op (ev_var rfl) ev_c rv_sign
end KF
set_option Elab.async false
set_option linter.all false
set_option maxRecDepth 100000
set_option maxHeartbeats 4000000
/-! KC: is_name, name_with, _law_name. -/
namespace KF
open PySem PySem.Spec PyProof.Rows L2 TEX He Evl
open SX (S S_tl S_len S_cat S_inj)
variable {P : Program} {w : World} {K : PySem.W.Frag} {mg : Str → Option Value} {base : Heap}
/-! ### is_name -/
def fstL : List Nat := [102, 115, 116]
def sndL : List Nat := [115, 110, 100]
def halfL (l : List Nat) : Bool := l == fstL || l == sndL
def nameLb (l : List Nat) : Bool := wordL l && !halfL l
def nameV (v : V) (n : String) : Bool := n == "str" && nameLb (strL v)
theorem str_beq (a b : List Nat) : ((S a : Str) == S b) = (a == b) := SX.S_beq a b
theorem inV_halves (l : List Nat) : inV (.str (S l)) [.str "fst", .str "snd"] = halfL l := by
  have e1 : ("fst" : Str) = S fstL := by decide +kernel
  have e2 : ("snd" : Str) = S sndL := by decide +kernel
  show (((("fst" : Str)) == S l) || ((("snd" : Str)) == S l || false)) = halfL l
  rw [e1, e2, str_beq, str_beq, Bool.or_false]
  unfold halfL
  congr 1 <;> exact BEq.comm
theorem sc3 : FnScope ["value"] ["value"] (defScope (KH.top 43)) := ⟨rfl, rfl, rfl, by decide +kernel, rfl, by decide +kernel, by decide +kernel⟩
def spName : Sp := fun vs H Q _ => ∃ v n, vs = [v] ∧ Kd H v n ∧ RetV (.bl (nameV v n)) H Q
theorem word_V {H : Hp} {v : V} {n : String} (k : Kd H v n) : SpV spWord ([v] ++ []) H (.bl (wordV v n)) := SpV.of fun H1 Q E e q => ⟨v, n, rfl, k.mono e, q⟩
theorem c_name (T : Env P w K mg base) : Callee P w K mg base CXN 2 "is_name" ["value"] spName := by
  obtain ⟨fd, F⟩ := T.fn 3 (d := KH.dd "is_name" 43)
  refine callee (st := KH.top 43) F (T.glo 3 (d := KH.dd "is_name" 43)) sc3 (fun _ _ _ _ _ _ us hl => match us, hl with | [_], _ => rfl) (fun _ _ _ _ _ _ us hl => match us, hl with | [_], _ => rfl) (fun vs H Q E h => by obtain ⟨v, n, rfl, _⟩ := h; rfl) ?_
  intro cdv A outer s H vs Q E hr h
  obtain ⟨v, n, rfl, k, q⟩ := h
  refine ⟨_, pss_one (ps_ret (pe_and (pe_n (c_word T) hr (pa_cons (pv 0) pa_nil)) (pe_one (pe_cmpR op_notIn_seq (pv 0) (pe_glob (v := .ref (ga K "HALVES")) (by rfl) T.halvesG rfl) rfl)))), ?_⟩
  refine s_ret (v := .bl (nameV v n)) ?_ fun H1 e => q H1 e
  have e0 : nameV v n = (wordV v n && !halfL (strL v)) := by
    unfold nameV wordV nameLb
    rw [Bool.and_assoc]
  rw [e0]
  refine ev_andV (ev_call (ea_cons (ev_var rfl) ea_nil) (word_V k)) fun h => ?_
  have h2 : (n == "str") = true := (Bool.and_eq_true_iff.mp h).1
  obtain ⟨e1, e2, _⟩ := k.isStr h2
  rw [← inV_halves]
  exact ev_op (x := .str (S (strL v))) (ev_var (by rw [← e1]; rfl)) ev_c (rv_niT (T.halves H) rfl rfl)
/-! ### the name of a number -/
def goN (left : Nat) (acc : List Nat) : List Nat := if h : left = 0 then acc else goN ((left - 1) / 26) ((97 + (left - 1) % 26) :: acc)
termination_by left
decreasing_by omega
theorem goN_0 (acc : List Nat) : goN 0 acc = acc := by rw [goN]; rfl
theorem goN_s {left : Nat} (h : 0 < left) (acc : List Nat) : goN left acc = goN ((left - 1) / 26) ((97 + (left - 1) % 26) :: acc) := by
  rw [goN, dif_neg (by omega)]
theorem goN_acc : ∀ (left : Nat) (acc : List Nat), goN left acc = goN left [] ++ acc := by
  intro left
  induction left using Nat.strongRecOn with
  | _ left ih =>
    intro acc
    by_cases h : left = 0
    · subst h
      rw [goN_0, goN_0]
      rfl
    · have hp : 0 < left := by omega
      have hq : (left - 1) / 26 < left := by omega
      rw [goN_s (left := left) hp acc, goN_s (left := left) hp [], ih _ hq ((97 + (left - 1) % 26) :: acc), ih _ hq [97 + (left - 1) % 26], List.append_assoc]
      rfl
theorem goN_len : ∀ (k left : Nat), left < 26 ^ k → (goN left []).length ≤ k
  | 0, left, h => by
    have e : left = 0 := by simpa using h
    subst e
    rw [goN_0]
    exact Nat.le_refl _
  | k + 1, left, h => by
    by_cases e : left = 0
    · subst e
      rw [goN_0]
      exact Nat.zero_le _
    · rw [goN_s (by omega), goN_acc, List.length_append]
      have := goN_len k ((left - 1) / 26) (by rw [Nat.pow_succ] at h; omega)
      show _ + 1 ≤ k + 1
      omega
theorem goN_ltr : ∀ (left : Nat), (goN left []).all ltr = true := by
  intro left
  induction left using Nat.strongRecOn with
  | _ left ih =>
    by_cases h : left = 0
    · subst h
      rw [goN_0]
      rfl
    · rw [goN_s (by omega), goN_acc, List.all_append, ih _ (by omega)]
      show (true && (ltr (97 + (left - 1) % 26) && true)) = true
      unfold ltr
      rw [decide_eq_true (by omega), decide_eq_true (by omega)]
      rfl
theorem goN_pos {left : Nat} (h : 0 < left) : 1 ≤ (goN left []).length := by
  rw [goN_s h, goN_acc, List.length_append]
  show 1 ≤ _ + 1
  omega
/-- the number of a name -/
def numL (l : List Nat) : Nat := l.foldl (fun a c => a * 26 + (c - 97) + 1) 0
theorem numL_snoc (l : List Nat) (c : Nat) : numL (l ++ [c]) = numL l * 26 + (c - 97) + 1 := by
  unfold numL
  rw [List.foldl_append]
  rfl
theorem numL_goN : ∀ left, numL (goN left []) = left := by
  intro left
  induction left using Nat.strongRecOn with
  | _ left ih =>
    by_cases h : left = 0
    · subst h
      rw [goN_0]
      rfl
    · rw [goN_s (by omega), goN_acc, numL_snoc, ih _ (by omega)]
      omega
theorem goN_name {n : Nat} (h : n ≤ 4000) : nameLb (goN (n + 1) []) = true := by
  have h1 := goN_len 12 (n + 1) (by omega)
  have h2 := goN_pos (left := n + 1) (by omega)
  unfold nameLb wordL halfL
  rw [decide_eq_true h2, decide_eq_true h1, goN_ltr]
  have h3 := numL_goN (n + 1)
  have e1 : (goN (n + 1) [] == fstL) = false := by
    refine beq_false_of_ne fun z => ?_
    rw [z] at h3
    have : numL fstL = 4570 := by decide
    omega
  have e2 : (goN (n + 1) [] == sndL) = false := by
    refine beq_false_of_ne fun z => ?_
    rw [z] at h3
    have : numL sndL = 13212 := by decide
    omega
  rw [e1, e2]
  rfl
theorem fold_bound : ∀ (l : List Nat) (a : Nat), l.all ltr = true → l.foldl (fun a c => a * 26 + (c - 97) + 1) a + 1 ≤ (a + 1) * 27 ^ l.length
  | [], a, _ => by simp
  | c :: r, a, h => by
    have h2 : (ltr c && r.all ltr) = true := h
    rw [Bool.and_eq_true] at h2
    have h3 : c ≤ 122 := by
      have := h2.1
      unfold ltr at this
      simp at this
      omega
    have h4 := fold_bound r (a * 26 + (c - 97) + 1) h2.2
    show r.foldl (fun a c => a * 26 + (c - 97) + 1) (a * 26 + (c - 97) + 1) + 1 ≤ (a + 1) * 27 ^ (r.length + 1)
    refine Nat.le_trans h4 ?_
    rw [Nat.pow_succ, Nat.mul_comm (27 ^ r.length) 27, ← Nat.mul_assoc]
    exact Nat.mul_le_mul_right _ (by omega)
theorem numL_bound (l : List Nat) (h : l.all ltr = true) : numL l + 1 ≤ 27 ^ l.length := by
  have := fold_bound l 0 h
  rw [Nat.zero_add, Nat.one_mul] at this
  exact this
end KF
set_option Elab.async false
set_option linter.all false
set_option maxRecDepth 100000
set_option maxHeartbeats 4000000
/-! KD: name_with, _law_name, _law_number_of. -/
namespace KF
open PySem PySem.Spec PyProof.Rows L2 TEX He Evl
open SX (S S_tl S_len S_cat S_inj)
variable {P : Program} {w : World} {K : PySem.W.Frag} {mg : Str → Option Value} {base : Heap}
section
variable {σ : L2.St} {H : Hp}
theorem rv_addS {a b : List Nat} (h : a.length + b.length ≤ 100000) : RV (fun x y H Q => ∃ i j, x = .str i ∧ y = .str j ∧ i.length + j.length ≤ sizeLine ∧ Q (.str (i ++ j)) H) (.str (S a)) (.str (S b)) H (.str (S (a ++ b))) := fun H1 _ Q q =>
  ⟨S a, S b, rfl, rfl, by rw [S_len, S_len]; exact sz_of h, by rw [S_cat]; exact q H1 (Ex.refl H1)⟩
theorem letters_at {k : Nat} (h : k < 26) : atI ("abcdefghijklmnopqrstuvwxyz" : Str).cps.toList (k : Int) = some (97 + k) := by
  rw [letters_l]
  refine atI_nat ?_
  rw [List.getElem?_map, List.getElem?_range h, Nat.add_comm]
  rfl
theorem rv_letter {k : Nat} (h : k < 26) : RV rIxS (.str "abcdefghijklmnopqrstuvwxyz") (.int (k : Int)) H (.str (S [97 + k])) := rv_ixS (by decide) (letters_at h)
theorem rc_lenL : RC (fun xs H Q => ∃ z, xs = [.str z] ∧ z.length ≤ sizeLine ∧ Q (.int z.length) H) [.str "abcdefghijklmnopqrstuvwxyz"] H (.int 26) := fun H1 _ Q q =>
  ⟨_, rfl, by decide +kernel, q H1 (Ex.refl H1)⟩
end
def spNameWith : Sp := fun vs H Q _ => ∃ n : Nat, vs = [.int n] ∧ n ≤ 20000 ∧ RetV (.str (S (goN (n + 1) []))) H Q
theorem sc4 : FnScope ["number", "left", "found"] ["number"] (defScope (KH.top 44)) := ⟨rfl, rfl, rfl, by decide +kernel, rfl, by decide +kernel, by decide +kernel⟩
theorem c_nameWith (T : Env P w K mg base) : Callee P w K mg base CXN 1 "name_with" ["number"] spNameWith := by
  obtain ⟨fd, F⟩ := T.fn 4 (d := KH.dd "name_with" 44)
  refine callee (st := KH.top 44) F (T.glo 4 (d := KH.dd "name_with" 44)) sc4 (fun _ _ _ _ _ _ us hl => match us, hl with | [_], _ => rfl) (fun _ _ _ _ _ _ us hl => match us, hl with | [_], _ => rfl) (fun vs H Q E h => by obtain ⟨n, rfl, _⟩ := h; rfl) ?_
  intro cdv A outer s H vs Q E hr h
  obtain ⟨n, rfl, hn, q⟩ := h
  obtain ⟨t2, g2⟩ := T.letters
  have nd := sc4.nd
  refine ⟨_, PSs.nox (pss_cons (ps_par (i := 1) (j := 2) rfl nd rfl rfl (by decide) rfl rfl (pa_cons (pe_op op_add (pv 0) pe_int) (pa_cons pe_str pa_nil)) (by rfl))
    (pss_cons (ps_while PassesOwn.never (pt_cmpR op_gt (pv 1) pe_int rfl) (pss_cons (ps_set (i := 1) nd rfl (Or.inl rfl) (pe_op op_sub (pv 1) pe_int))
      (pss_cons (ps_set (i := 2) nd rfl (Or.inl rfl) (pe_op op_add_str (pe_ix ix_str (pe_glob (v := .str "abcdefghijklmnopqrstuvwxyz") (by rfl) g2 ⟨_, rfl⟩) (pe_op op_mod (pv 1) (pe_callB call_len_str (by rfl) (T.free 4) boot_len (pa_cons (pe_glob (v := .str "abcdefghijklmnopqrstuvwxyz") (by rfl) g2 ⟨_, rfl⟩) pa_nil))) (fun _ _ => rfl)) (pv 2)))
      (pss_one (ps_set (i := 1) nd rfl (Or.inl rfl) (pe_op op_fdiv (pv 1) (pe_callB call_len_str (by rfl) (T.free 4) boot_len (pa_cons (pe_glob (v := .str "abcdefghijklmnopqrstuvwxyz") (by rfl) g2 ⟨_, rfl⟩) pa_nil))))))))
    (pss_one (ps_ret (pv 2))))), ?_⟩
  refine ⟨_, rfl, _, _, rfl, rfl, .int ((n : Int) + 1), .str "", rfl, ?_⟩
  refine q_while (fun m σ' H' => ∃ found, σ' = [some (.int n), some (.int (m : Int)), some (.str (S found))] ∧ Ex H H' ∧ goN m found = goN (n + 1) [] ∧ found.length + m ≤ n + 1) (n + 1) ⟨[], rfl, Ex.refl H, rfl, by simp⟩ ?_
  rintro m σ' H' ⟨found, rfl, e, hg, hl⟩
  refine ⟨_, et_test (ev_op (ev_var rfl) ev_c rv_I0), fun hb H1 e1 => ?_, fun hb H1 e1 => ?_⟩
  · have hp : 0 < m := by simp at hb; omega
    refine ⟨_, fun σ2 H2 h => h, q_asg (ev_op (ev_var rfl) ev_c rv_I0) fun H2 e2 => q_asg (v := .str (S ([97 + (m - 1) % 26] ++ found))) (ev_op (ev_op ev_c (ev_is (ev_op (ev_var rfl) (ev_cb (ea_cons ev_c ea_nil) rc_lenL) (rv_I (by decide))) (w := .int (((m - 1) % 26 : Nat) : Int)) (by congr 1; omega)) (rv_letter (by omega))) (ev_var rfl) (rv_addS (by simp; omega))) fun H3 e3 =>
      s_asg (v := .int (((m - 1) / 26 : Nat) : Int)) (ev_is (ev_op (ev_var rfl) (ev_cb (ea_cons ev_c ea_nil) rc_lenL) (rv_I (show CDiv _ _ from ⟨by decide, by decide⟩))) (by congr 1; omega)) fun H4 e4 => ⟨(m - 1) / 26, by omega, _, rfl, (((e.trans e1).trans e2).trans e3).trans e4, ?_, ?_⟩⟩
    · rw [← hg, goN_s hp found]
      rfl
    · simp
      omega
  · have hp : m = 0 := by simp at hb; omega
    subst hp
    rw [goN_0] at hg
    subst hg
    exact s_ret (ev_var rfl) fun H2 e2 => q _ ((e.trans e1).trans e2)
end KF
set_option Elab.async false
set_option linter.all false
set_option maxRecDepth 100000
set_option maxHeartbeats 4000000
/-! KE: _law_name, _law_number_of, _law_is_name, is_text, _law_is_text. -/
namespace KF
open PySem PySem.Spec PyProof.Rows L2 TEX He Evl
open SX (S S_tl S_len S_cat S_inj)
variable {P : Program} {w : World} {K : PySem.W.Frag} {mg : Str → Option Value} {base : Heap}
/-! ### tools -/
theorem take_min {α : Type} (l : List α) (n : Nat) : l.take (min n l.length) = l.take n := by
  by_cases h : n ≤ l.length
  · rw [Nat.min_eq_left h]
  · rw [Nat.min_eq_right (by omega), List.take_length, List.take_of_length_le (by omega)]
theorem cut_ab (l : List Nat) (a b : Nat) : cutS (S l) (some (a : Int)) (some (b : Int)) = S ((l.drop a).take (b - a)) := by
  unfold cutS
  rw [HT.sIx_nat, HT.sIx_nat, S_len]
  show S ((l.drop (min a l.length)).take (min b l.length - min a l.length)) = _
  congr 1
  by_cases h : a ≤ l.length
  · rw [Nat.min_eq_left h]
    by_cases h2 : b ≤ l.length
    · rw [Nat.min_eq_left h2]
    · rw [Nat.min_eq_right (by omega), List.take_of_length_le (by simp), List.take_of_length_le (by simp; omega)]
  · rw [show min a l.length = l.length from Nat.min_eq_right (by omega), List.drop_length, List.drop_eq_nil_of_le (show l.length ≤ a by omega), List.take_nil, List.take_nil]
theorem cut_0b (l : List Nat) (b : Nat) : cutS (S l) none (some (b : Int)) = S (l.take b) := by
  unfold cutS
  rw [HT.sIx_none, HT.sIx_nat, S_len]
  show S ((l.drop 0).take (min b l.length - 0)) = _
  rw [List.drop_zero, Nat.sub_zero, take_min]
theorem take_one {l : List Nat} {k c : Nat} (h : l[k]? = some c) : (l.drop k).take (k + 1 - k) = [c] := by
  have hk : k < l.length := (List.getElem?_eq_some_iff.mp h).1
  have e : k + 1 - k = 1 := by omega
  rw [e, List.drop_eq_getElem_cons hk]
  have : l[k] = c := (List.getElem?_eq_some_iff.mp h).2
  rw [this]
  rfl
section
variable {σ : L2.St} {H : Hp} {ta tb te tc : TE} {t : TT}
theorem ev_slS {l : List Nat} {a b : Nat} {tl th : TO} (h : Ev te σ H (.str (S l))) (h1 : EvO tl σ H (some (a : Int))) (h2 : EvO th σ H (some (b : Int))) (hz : l.length ≤ 100000) : Ev (tSl rSlS te tl th) σ H (.str (S ((l.drop a).take (b - a)))) := fun H1 e Q q =>
  h H1 e _ fun H2 e2 => h1 H2 (e.trans e2) _ fun H3 e3 => h2 H3 ((e.trans e2).trans e3) _ fun H4 e4 => ⟨S l, rfl, by rw [S_len]; exact sz_of hz, by rw [cut_ab]; exact q H4 ((e2.trans e3).trans e4)⟩
theorem ev_slS0 {l : List Nat} {b : Nat} {th : TO} (h : Ev te σ H (.str (S l))) (h2 : EvO th σ H (some (b : Int))) (hz : l.length ≤ 100000) : Ev (tSl rSlS te tNoPart th) σ H (.str (S (l.take b))) := fun H1 e Q q =>
  h H1 e _ fun H2 e2 => h2 H2 (e.trans e2) _ fun H4 e4 => ⟨S l, rfl, by rw [S_len]; exact sz_of hz, by rw [cut_0b]; exact q H4 (e2.trans e4)⟩
theorem ev_bmS {K : PySem.W.Frag} {r : V → List V → Hp → VK → Prop} {tl : TA} {z : Str} {vs : List V} {v : V} (h : Ev te σ H (.str z)) (ha : EvA tl σ H vs) (hr : ∀ H1, Ex H H1 → ∀ Q : VK, (∀ H2, Ex H1 H2 → Q v H2) → r (.str z) vs H1 Q) : Ev (tBM K "str" r te tl) σ H v := fun H1 e Q q =>
  h H1 e _ fun H2 e2 => ⟨rfl, ha H2 (e.trans e2) _ fun H3 e3 => hr H3 ((e.trans e2).trans e3) Q fun H4 e4 => q H4 ((e2.trans e3).trans e4)⟩
theorem rc_int1 {i : Int} : RC (fun xs H Q => (∃ i, xs = [.int i] ∧ Q (.int i) H) ∨ ∃ k, xs = [.bl k] ∧ Q (.int (if k then 1 else 0)) H) [.int i] H (.int i) := fun H1 _ Q q => Or.inl ⟨i, rfl, q H1 (Ex.refl H1)⟩
theorem rv_eqS {a b : List Nat} : RV rEq (.str (S a)) (.str (S b)) H (.bl (a == b)) := by
  have e : (a == b) = decide (V.str (S a) = V.str (S b)) := by
    by_cases h : a = b
    · subst h; simp
    · rw [beq_false_of_ne h, decide_eq_false]
      intro z
      exact h (S_inj (V.str.inj z))
  rw [e]
  exact rv_eq rfl
theorem rv_neS {a b : List Nat} : RV rNe (.str (S a)) (.str (S b)) H (.bl (a != b)) := by
  have e : (a != b) = !decide (V.str (S a) = V.str (S b)) := by
    by_cases h : a = b
    · subst h; simp
    · rw [decide_eq_false (fun z => h (S_inj (V.str.inj z)))]
      simpa using h
  rw [e]
  exact rv_ne rfl
def pd : V → PyData
  | .bl b => .bool b
  | .int i => .int i
  | .str s => .str s
  | _ => .none
/-- a flat item that can be compared -/
def flA : V → Bool
  | .non => true
  | .bl _ => true
  | .int _ => true
  | .str s => strOk' s
  | _ => false
where strOk' (s : Str) : Bool := s.cps.all (· < 0x110000)
theorem dp_fl {K : PySem.W.Frag} {H : Hp} {x : V} (h : flA x = true) : Dp K H x (pd x) ∧ (pd x).canLay0 = true ∧ (pd x).depth = 0 := by
  cases x with
  | non => exact ⟨.non, by simp only [pd, PyData.canLay0], by simp only [pd, PyData.depth]⟩
  | bl b => exact ⟨.bl b, by simp only [pd, PyData.canLay0], by simp only [pd, PyData.depth]⟩
  | int i => exact ⟨.int i, by simp only [pd, PyData.canLay0], by simp only [pd, PyData.depth]⟩
  | str s => exact ⟨.str s, by simp only [pd, PyData.canLay0]; exact h, by simp only [pd, PyData.depth]⟩
  | _ => cases h
theorem dp_all {K : PySem.W.Frag} {H : Hp} : ∀ {xs : List V}, xs.all flA = true → DpAll K H xs (xs.map pd) ∧ PyData.canLayAll0 (xs.map pd) = true ∧ PyData.depthAll (xs.map pd) = 0
  | [], _ => ⟨.nil, by simp only [List.map_nil, PyData.canLayAll0], by simp only [List.map_nil, PyData.depthAll]⟩
  | x :: xs, h => by
    have h2 : (flA x && xs.all flA) = true := h
    rw [Bool.and_eq_true] at h2
    obtain ⟨a1, a2, a3⟩ := dp_fl (K := K) (H := H) h2.1
    obtain ⟨b1, b2, b3⟩ := dp_all (K := K) (H := H) h2.2
    exact ⟨.cons a1 b1, by simp only [List.map_cons, PyData.canLayAll0, a2, b2, Bool.and_self], by simp only [List.map_cons, PyData.depthAll, a3, b3]; rfl⟩
theorem shaped_fl {xs : List V} (h : xs.all flA = true) : SeqAt.shaped (.list (xs.map pd)) = true := by
  obtain ⟨_, h2, h3⟩ := dp_all (K := []) (H := fun _ => none) h
  unfold SeqAt.shaped
  simp only [PyData.canLay0, PyData.depth, h2, h3]
  rfl
theorem eqv_nil {xs : List V} : PyData.eqv (.list (xs.map pd)) (.list []) = xs.isEmpty := by
  cases xs with
  | nil => simp only [List.map_nil, PyData.eqv, PyData.eqvAll]; rfl
  | cons x xs => simp only [List.map_cons, PyData.eqv, PyData.eqvAll]; rfl
/-- [..] == [] -/
theorem ev_eqNil {K : PySem.W.Frag} {xs : List V} (h : EvL ta σ H xs) (hf : xs.all flA = true) : Ev (tOp (rEqD K) ta (tLst tNil)) σ H (.bl xs.isEmpty) :=
  ev_opLL h (el_lst ea_nil (by decide)) fun p q H1 hp hq e => fun H2 e2 Q k => ⟨.list (xs.map pd), .list [], .lst (sq_of (e2 p _ hp)) (dp_all hf).1, .lst (sq_of (e2 q _ hq)) .nil, shaped_fl hf, by decide +kernel, by rw [eqv_nil]; exact k H2 (Ex.refl H2)⟩
theorem map_getD (l : List Nat) : (List.range l.length).map (fun i => l.getD i 0) = l := by
  rw [range_map l id _ (fun i x hi => by rw [List.getD_eq_getElem?_getD, hi]; rfl), List.map_id]
/-- [sign for sign in text if p(sign)] -/
theorem el_fltS {l : List Nat} {ts : TE} {j : Nat} {vs : List Nat} (p : Nat → Bool) (h : Ev ts σ H (.str (S l))) (hz : l.length ≤ 40000) (hw : ∀ x, wipe ((wipe σ vs).set j (some x)) vs = wipe σ vs)
    (ht : ∀ (i c : Nat) H1, Ex H H1 → l[i]? = some c → EvT t ((wipe σ vs).set j (some (.str ⟨#[c]⟩))) H1 (p c))
    (he : ∀ (i c : Nat) H1, Ex H H1 → l[i]? = some c → p c = true → Ev te ((wipe σ vs).set j (some (.str ⟨#[c]⟩))) H1 (.str (S [c]))) :
    EvL (tLc (iStr ts) (gName j) t te vs) σ H ((l.filter p).map fun c => .str (S [c])) := by
  have e0 : ∀ (i c : Nat), l[i]? = some c → l.getD i 0 = c := fun i c hi => by rw [List.getD_eq_getElem?_getD, hi]; rfl
  have hL := el_lcS (te := te) (t := t) (σ := σ) (H := H) (ts := ts) (j := j) (vs := vs) (fun i => p (l.getD i 0)) (fun i => V.str (S [l.getD i 0])) h hz hw (fun i c H1 e1 hi => by
    show EvT t ((wipe σ vs).set j (some (.str ⟨#[c]⟩))) H1 (p (l.getD i 0))
    rw [e0 i c hi]
    exact ht i c H1 e1 hi) (fun i c H1 e1 hi hp => by
    have hp2 : p (l.getD i 0) = true := hp
    show Ev te ((wipe σ vs).set j (some (.str ⟨#[c]⟩))) H1 (.str (S [l.getD i 0]))
    rw [e0 i c hi] at hp2 ⊢
    exact he i c H1 e1 hi hp2)
  have e4 : given l.length (fun i => p (l.getD i 0)) (fun i => V.str (S [l.getD i 0])) = (l.filter p).map fun c => V.str (S [c]) := by
    unfold given
    have := map_getD l
    conv => rhs; rw [← this]
    rw [List.filter_map, List.map_map]
    rfl
  rw [e4] at hL
  exact hL
theorem flt_fl {l : List Nat} (h : l.all asc = true) (p : Nat → Bool) : ((l.filter p).map fun c => V.str (S [c])).all flA = true := by
  rw [List.all_map, List.all_eq_true]
  intro c hc
  have h1 := List.all_eq_true.mp h c (List.mem_filter.mp hc).1
  unfold asc at h1
  have h2 : c < 128 := of_decide_eq_true h1
  show ((#[c] : Array Nat).all (· < 0x110000)) = true
  simp
  omega
theorem flt_empty (l : List Nat) (p g : Nat → Bool) (e : ∀ c, p c = !g c) : ((l.filter p).map fun c => V.str (S [c])).isEmpty = l.all g := by
  induction l with
  | nil => rfl
  | cons c r ih =>
    rw [List.filter_cons, e c, List.all_cons]
    cases g c with
    | true => exact ih
    | false => rfl
end
/-! ### _law_name -/
theorem sc19 : FnScope ["number", "found", "rest"] ["number"] (defScope (KH.top 78)) := ⟨rfl, rfl, rfl, by decide +kernel, rfl, by decide +kernel, by decide +kernel⟩
theorem c_lawName (T : Env P w K mg base) : Callee P w K mg base CXN 1 "_law_name" ["number"] spNameWith := by
  obtain ⟨fd, F⟩ := T.fn 19 (d := KH.dd "_law_name" 78)
  refine callee (st := KH.top 78) F (T.glo 19 (d := KH.dd "_law_name" 78)) sc19 (fun _ _ _ _ _ _ us hl => match us, hl with | [_], _ => rfl) (fun _ _ _ _ _ _ us hl => match us, hl with | [_], _ => rfl) (fun vs H Q E h => by obtain ⟨n, rfl, _⟩ := h; rfl) ?_
  intro cdv A outer s H vs Q E hr h
  obtain ⟨n, rfl, hn, q⟩ := h
  have nd := sc19.nd
  refine ⟨_, PSs.nox (pss_cons (ps_par (i := 1) (j := 2) rfl nd rfl rfl (by decide) rfl rfl (pa_cons pe_str (pa_cons (pe_op op_add (pv 0) pe_int) pa_nil)) (by rfl))
    (pss_cons (ps_while PassesOwn.never (pt_cmpR op_gt (pv 2) pe_int rfl) (pss_cons (ps_set (i := 2) nd rfl (Or.inl rfl) (pe_op op_sub (pv 2) pe_int))
      (pss_one (ps_par (i := 1) (j := 2) rfl nd rfl rfl (by decide) rfl rfl (pa_cons (pe_op op_add_str (pe_ix ix_str pe_str (pe_op op_mod (pe_callTy call_int1 (by rfl) (T.free 1) boot_int (pa_cons (pv 2) pa_nil)) pe_int) (fun _ _ => rfl)) (pv 1)) (pa_cons (pe_op op_fdiv (pv 2) pe_int) pa_nil)) (by rfl)))))
    (pss_one (ps_ret (pv 1))))), ?_⟩
  refine ⟨_, rfl, _, _, rfl, rfl, .str "", .int ((n : Int) + 1), rfl, ?_⟩
  refine q_while (fun m σ' H' => ∃ found, σ' = [some (.int n), some (.str (S found)), some (.int (m : Int))] ∧ Ex H H' ∧ goN m found = goN (n + 1) [] ∧ found.length + m ≤ n + 1) (n + 1) ⟨[], rfl, Ex.refl H, rfl, by simp⟩ ?_
  rintro m σ' H' ⟨found, rfl, e, hg, hl⟩
  refine ⟨_, et_test (ev_op (ev_var rfl) ev_c rv_I0), fun hb H1 e1 => ?_, fun hb H1 e1 => ?_⟩
  · have hp : 0 < m := by simp at hb; omega
    refine ⟨_, fun σ2 H2 h => h, q_asg (ev_op (ev_var rfl) ev_c rv_I0) fun H2 e2 => ?_⟩
    refine ea_cons (ev_op (x := .str (S [97 + (m - 1) % 26])) (ev_op ev_c (ev_is (ev_op (ev_cb (ea_cons (ev_var rfl) ea_nil) rc_int1) ev_c (rv_I (by decide))) (w := .int (((m - 1) % 26 : Nat) : Int)) (by congr 1; omega)) (rv_letter (by omega))) (ev_var rfl) (rv_addS (by simp; omega)))
      (ea_cons (x := .int (((m - 1) / 26 : Nat) : Int)) (ev_is (ev_op (ev_var rfl) ev_c (rv_I (show CDiv _ _ from ⟨by decide, by decide⟩))) (by congr 1; omega)) ea_nil) H2 (Ex.refl H2) _ fun H4 e4 => ⟨_, _, rfl, (m - 1) / 26, by omega, [97 + (m - 1) % 26] ++ found, rfl, ((e.trans e1).trans e2).trans e4, ?_, ?_⟩
    · rw [← hg, goN_s hp found]
      rfl
    · simp
      omega
  · have hp : m = 0 := by simp at hb; omega
    subst hp
    rw [goN_0] at hg
    subst hg
    exact s_ret (ev_var rfl) fun H2 e2 => q _ ((e.trans e1).trans e2)
end KF
set_option Elab.async false
set_option linter.all false
set_option maxRecDepth 100000
set_option maxHeartbeats 4000000
/-! KI: _law_is_name, is_text, _law_is_text, _law_number_of. -/
namespace KF
open PySem PySem.Spec PyProof.Rows L2 TEX He Evl
open SX (S S_tl S_len S_cat S_inj)
variable {P : Program} {w : World} {K : PySem.W.Frag} {mg : Str → Option Value} {base : Heap}
/-! ### _law_is_name -/
theorem sc22 : FnScope ["value", "sign"] ["value"] (defScope (KH.top 81)) := ⟨rfl, rfl, rfl, by decide +kernel, rfl, by decide +kernel, by decide +kernel⟩
theorem inU_halves (l : List Nat) : inV (.str (S l)) [.str "fst", .str "snd"] = halfL l := inV_halves l
theorem c_lawIsName (T : Env P w K mg base) : Callee P w K mg base CXN 1 "_law_is_name" ["value"] spName := by
  obtain ⟨fd, F⟩ := T.fn 22 (d := KH.dd "_law_is_name" 81)
  refine callee (st := KH.top 81) F (T.glo 22 (d := KH.dd "_law_is_name" 81)) sc22 (fun _ _ _ _ _ _ us hl => match us, hl with | [_], _ => rfl) (fun _ _ _ _ _ _ us hl => match us, hl with | [_], _ => rfl) (fun vs H Q E h => by obtain ⟨v, n, rfl, _⟩ := h; rfl) ?_
  intro cdv A outer s H vs Q E hr h
  obtain ⟨v, n, rfl, k, q⟩ := h
  have nd := sc22.nd
  refine ⟨_, PSs.nox (pss_cons (ps_if (PW.pt (pw_or (pt_not (pt_val (pe_callB call_isi (by rfl) (T.free 0) boot_isinstance (pa_cons (pv 0) (pa_cons (pe_bltn (v := .ty "str") (by rfl) (T.free 3) (by decide +kernel) rfl) pa_nil)))))
      (pw_or (pt_not (pt_chain op_le op_le pe_int (pe_callB call_len_str (by rfl) (T.free 4) boot_len (pa_cons (pv 0) pa_nil)) pe_int))
      (pw_or1 (pt_cmpR op_in_seq (pv 0) (pe_tup (pa_cons pe_str (pa_cons pe_str pa_nil))) rfl))))) (pss_one (ps_ret pe_bl)) pss_nil)
    (pss_one (ps_ret (pe_cmpR (op_eqD hr.units) (pe_lc (own := [("sign", 1)]) (g := gName 1) rfl nd (pi_str (pv 0)) (blkOk_by (N := ["value", "sign"]) (sc := defScope (KH.top 81)) (by decide +kernel))
      (fun _ _ _ _ _ => pg_name (i := 1) nd rfl (Or.inl rfl)) (fun _ _ _ _ _ => pts_one (pt_not (pt_chain op_le_str op_le_str pe_str (pv 1) pe_str))) (fun _ _ _ _ _ => pv 1)) (pe_lst pa_nil) rfl)))), ?_⟩
  refine q_when (et_or (et_not (et_B (ev_isi (ev_var rfl) k))) fun h1 => et_or (b := halfL (strL v)) (et_not (a := decide (1 ≤ (strL v).length) && decide ((strL v).length ≤ 12)) ?_) fun h2 => ?_) (fun hb H1 e1 => ?_) (fun hb H1 e1 => ?_)
  · have h3 : (n == "str") = true := by rw [kstr k.mem] at h1; simpa using h1
    obtain ⟨z1, z2, _⟩ := k.isStr h3
    have vz : (start ["value", "sign"] [v])[0]? = some (some (.str (S (strL v)))) := by rw [← z1]; rfl
    exact et_test (ev_is (ev_chain (x := .int 1) (y := .int ((strL v).length : Int)) (z := .int 12) ev_c (ev_cb (ea_cons (ev_var vz) ea_nil) (rc_lenS z2)) (fun _ => ev_c) rv_I0 fun _ => rv_I0) (by congr 2 <;> simp <;> omega))
  · have h3 : (n == "str") = true := by rw [kstr k.mem] at h1; simpa using h1
    obtain ⟨z1, z2, _⟩ := k.isStr h3
    have vz : (start ["value", "sign"] [v])[0]? = some (some (.str (S (strL v)))) := by rw [← z1]; rfl
    rw [← inU_halves]
    exact et_test (ev_inU (ev_var vz) (eu_tup (ea_cons ev_c (ea_cons ev_c ea_nil)) (by decide)) rfl rfl)
  · refine s_ret (v := .bl (nameV v n)) (ev_is ev_c ?_) fun H2 e2 => q _ (e1.trans e2)
    unfold nameV nameLb wordL
    rw [kstr k.mem] at hb
    cases h4 : (n == "str") <;> rw [h4] at hb <;> revert hb <;> cases decide (1 ≤ (strL v).length) <;> cases decide ((strL v).length ≤ 12) <;> cases halfL (strL v) <;> cases (strL v).all ltr <;> simp
  · rw [kstr k.mem] at hb
    have h3 : (n == "str") = true := by revert hb; cases (n == "str") <;> simp
    obtain ⟨z1, z2, z3⟩ := k.isStr h3
    have vz : (start ["value", "sign"] [v])[0]? = some (some (.str (S (strL v)))) := by rw [← z1]; rfl
    have h5 : (decide (1 ≤ (strL v).length) && decide ((strL v).length ≤ 12)) = true := by revert hb; rw [h3]; cases (decide (1 ≤ (strL v).length) && decide ((strL v).length ≤ 12)) <;> simp
    have h6 : halfL (strL v) = false := by revert hb; rw [h3, h5]; cases halfL (strL v) <;> simp
    have hz : (strL v).length ≤ 40000 := by simp at h5; omega
    refine s_ret (v := .bl (nameV v n)) ?_ fun H2 e2 => q _ (e1.trans e2)
    have e7 : nameV v n = (((strL v).filter fun c => !ltr c).map fun c => V.str (S [c])).isEmpty := by
      rw [flt_empty _ (fun c => !ltr c) ltr (fun _ => rfl)]
      unfold nameV nameLb wordL
      rw [h3, h5, h6]
      simp
    rw [e7]
    refine ev_eqNil (el_fltS (fun c => !ltr c) (ev_var vz) hz (fun _ => rfl) (fun i c H2 e2 hi => ?_) (fun i c H2 e2 hi hp => ev_var rfl)) (flt_fl z3 _)
    exact et_not (et_test (ev_chain (x := .str ⟨#[97]⟩) (y := .str ⟨#[c]⟩) (z := .str ⟨#[122]⟩) ev_c (ev_var rfl) (fun _ => ev_c) rv_leS fun _ => rv_leS))
/-! ### texts -/
def txc (c : Nat) : Bool := (decide (32 ≤ c) && decide (c ≤ 126)) || c == 10
def textLb (l : List Nat) : Bool := decide (l.length ≤ 4000) && l.all txc
def textV (v : V) (n : String) : Bool := n == "str" && textLb (strL v)
def spText : Sp := fun vs H Q _ => ∃ v n, vs = [v] ∧ Kd H v n ∧ RetV (.bl (textV v n)) H Q
theorem sc7 : FnScope ["value", "sign"] ["value"] (defScope (KH.top 47)) := ⟨rfl, rfl, rfl, by decide +kernel, rfl, by decide +kernel, by decide +kernel⟩
theorem c_isText (T : Env P w K mg base) : Callee P w K mg base CXN 1 "is_text" ["value"] spText := by
  obtain ⟨fd, F⟩ := T.fn 7 (d := KH.dd "is_text" 47)
  refine callee (st := KH.top 47) F (T.glo 7 (d := KH.dd "is_text" 47)) sc7 (fun _ _ _ _ _ _ us hl => match us, hl with | [_], _ => rfl) (fun _ _ _ _ _ _ us hl => match us, hl with | [_], _ => rfl) (fun vs H Q E h => by obtain ⟨v, n, rfl, _⟩ := h; rfl) ?_
  intro cdv A outer s H vs Q E hr h
  obtain ⟨v, n, rfl, k, q⟩ := h
  have nd := sc7.nd
  obtain ⟨t1, g1⟩ := T.mostSigns
  obtain ⟨t2, g2⟩ := T.feed
  refine ⟨_, PSs.nox (pss_cons (ps_if (PW.pt (pw_or (pt_not (pt_val (pe_callB call_isi (by rfl) (T.free 0) boot_isinstance (pa_cons (pv 0) (pa_cons (pe_bltn (v := .ty "str") (by rfl) (T.free 3) (by decide +kernel) rfl) pa_nil)))))
      (pw_or1 (pt_cmpR op_gt (pe_callB call_len_str (by rfl) (T.free 4) boot_len (pa_cons (pv 0) pa_nil)) (pe_glob (v := .int 4000) (by rfl) g1 ⟨_, rfl⟩) rfl)))) (pss_one (ps_ret pe_bl)) pss_nil)
    (pss_one (ps_ret (pe_callB (cr_all rfl) (by rfl) (T.free 5) boot_all (pa_cons (pe_lc (own := [("sign", 1)]) (g := gName 1) rfl nd (pi_str (pv 0)) (blkOk_by (N := ["value", "sign"]) (sc := defScope (KH.top 47)) (by decide +kernel))
      (fun _ _ _ _ _ => pg_name (i := 1) nd rfl (Or.inl rfl)) (fun _ _ _ _ _ => pts_nil) (fun _ _ _ _ _ => pe_or (pe_chain op_le_str op_le_str pe_str (pv 1) pe_str) (pe_one (pe_cmpR op_eq (pv 1) (pe_glob (v := .str "\n") (by rfl) g2 ⟨_, rfl⟩) rfl)))) pa_nil))))), ?_⟩
  refine q_when (et_or (b := decide (4000 < (strL v).length)) (et_not (et_B (ev_isi (ev_var rfl) k))) fun h1 => ?_) (fun hb H1 e1 => ?_) (fun hb H1 e1 => ?_)
  · have h3 : (n == "str") = true := by rw [kstr k.mem] at h1; simpa using h1
    obtain ⟨z1, z2, _⟩ := k.isStr h3
    have vz : (start ["value", "sign"] [v])[0]? = some (some (.str (S (strL v)))) := by rw [← z1]; rfl
    exact et_test (ev_is (ev_op (x := .int ((strL v).length : Int)) (y := .int 4000) (ev_cb (ea_cons (ev_var vz) ea_nil) (rc_lenS z2)) ev_c rv_I0) (by congr 1; simp; omega))
  · refine s_ret (v := .bl (textV v n)) (ev_is ev_c ?_) fun H2 e2 => q _ (e1.trans e2)
    unfold textV textLb
    rw [kstr k.mem] at hb
    congr 1
    cases h4 : (n == "str") with
    | false => rfl
    | true =>
      rw [h4] at hb
      have h5 : ¬ (strL v).length ≤ 4000 := by simp at hb; omega
      rw [decide_eq_false h5]
      rfl
  · rw [kstr k.mem] at hb
    have h3 : (n == "str") = true := by revert hb; cases (n == "str") <;> simp
    obtain ⟨z1, z2, z3⟩ := k.isStr h3
    have vz : (start ["value", "sign"] [v])[0]? = some (some (.str (S (strL v)))) := by rw [← z1]; rfl
    have h5 : (strL v).length ≤ 4000 := by rw [h3] at hb; simp at hb; omega
    refine s_ret (v := .bl (textV v n)) ?_ fun H2 e2 => q _ (e1.trans e2)
    have e7 : textV v n = (strL v).all txc := by
      unfold textV textLb
      rw [h3, decide_eq_true h5]
      rfl
    rw [e7]
    refine ev_allS txc (ev_var vz) (by omega) (fun _ => rfl) (fun i c H2 e2 hi => fun H3 _ Q q => q H3 (Ex.refl H3)) (fun i c H2 e2 hi => ?_)
    exact ev_orV (ev_chain (x := .str ⟨#[32]⟩) (y := .str ⟨#[c]⟩) (z := .str ⟨#[126]⟩) ev_c (ev_var rfl) (fun _ => ev_c) rv_leS fun _ => rv_leS) fun _ => ev_is (ev_op (x := .str (S [c])) (y := .str (S [10])) (ev_var rfl) ev_c rv_eqS) (by congr 1; simp)
theorem sc23 : FnScope ["value", "sign"] ["value"] (defScope (KH.top 82)) := ⟨rfl, rfl, rfl, by decide +kernel, rfl, by decide +kernel, by decide +kernel⟩
theorem c_lawIsText (T : Env P w K mg base) : Callee P w K mg base CXN 1 "_law_is_text" ["value"] spText := by
  obtain ⟨fd, F⟩ := T.fn 23 (d := KH.dd "_law_is_text" 82)
  refine callee (st := KH.top 82) F (T.glo 23 (d := KH.dd "_law_is_text" 82)) sc23 (fun _ _ _ _ _ _ us hl => match us, hl with | [_], _ => rfl) (fun _ _ _ _ _ _ us hl => match us, hl with | [_], _ => rfl) (fun vs H Q E h => by obtain ⟨v, n, rfl, _⟩ := h; rfl) ?_
  intro cdv A outer s H vs Q E hr h
  obtain ⟨v, n, rfl, k, q⟩ := h
  have nd := sc23.nd
  refine ⟨_, PSs.nox (pss_one (ps_ret (pe_and (pe_callB call_isi (by rfl) (T.free 0) boot_isinstance (pa_cons (pv 0) (pa_cons (pe_bltn (v := .ty "str") (by rfl) (T.free 3) (by decide +kernel) rfl) pa_nil)))
      (pe_and (pe_cmpR op_le (pe_callB call_len_str (by rfl) (T.free 4) boot_len (pa_cons (pv 0) pa_nil)) pe_int rfl)
      (pe_one (pe_cmpR (op_eqD hr.units) (pe_lc (own := [("sign", 1)]) (g := gName 1) rfl nd (pi_str (pv 0)) (blkOk_by (N := ["value", "sign"]) (sc := defScope (KH.top 82)) (by decide +kernel))
      (fun _ _ _ _ _ => pg_name (i := 1) nd rfl (Or.inl rfl)) (fun _ _ _ _ _ => pts_one (PW.pt (pw_and (pt_cmpR op_ne (pv 1) pe_str rfl) (pw_and1 (pt_not (pt_chain op_le_str op_le_str pe_str (pv 1) pe_str)))))) (fun _ _ _ _ _ => pv 1)) (pe_lst pa_nil) rfl)))))), ?_⟩
  refine s_ret (v := .bl (textV v n)) ?_ fun H2 e2 => q _ e2
  unfold textV
  rw [← kstr k.mem]
  refine ev_andV (ev_isi (ev_var rfl) k) fun h => ?_
  rw [kstr k.mem] at h
  obtain ⟨z1, z2, z3⟩ := k.isStr h
  have vz : (start ["value", "sign"] [v])[0]? = some (some (.str (S (strL v)))) := by rw [← z1]; rfl
  refine ev_andV (ev_is (ev_op (x := .int ((strL v).length : Int)) (y := .int 4000) (ev_cb (ea_cons (ev_var vz) ea_nil) (rc_lenS z2)) ev_c rv_I0) (by congr 1; simp; omega)) fun h2 => ?_
  have hz : (strL v).length ≤ 4000 := of_decide_eq_true h2
  rw [← flt_empty _ (fun c => !txc c) txc (fun _ => rfl)]
  refine ev_eqNil (el_fltS (fun c => !txc c) (ev_var vz) (by omega) (fun _ => rfl) (fun i c H2 e2 hi => ?_) (fun i c H2 e2 hi hp => ev_var rfl)) (flt_fl z3 _)
  refine et_is (et_and (et_test (ev_op (x := .str (S [c])) (y := .str (S [10])) (ev_var rfl) ev_c rv_neS)) fun _ => et_not (et_test (ev_chain (x := .str ⟨#[32]⟩) (y := .str ⟨#[c]⟩) (z := .str ⟨#[126]⟩) ev_c (ev_var rfl) (fun _ => ev_c) rv_leS fun _ => rv_leS))) ?_
  show ([c] != [10] && !(decide (32 ≤ c) && decide (c ≤ 126))) = !((decide (32 ≤ c) && decide (c ≤ 126)) || c == 10)
  have e : ([c] != [10]) = !(c == 10) := by simp [bne]
  rw [e]
  cases (c == 10) <;> cases (decide (32 ≤ c) && decide (c ≤ 126)) <;> rfl
/-! ### _law_number_of -/
def spNumOf : Sp := fun vs H Q _ => ∃ l : List Nat, vs = [.str (S l)] ∧ l.all ltr = true ∧ 1 ≤ l.length ∧ l.length ≤ 12 ∧ RetV (.int ((numL l : Int) - 1)) H Q
theorem idx_letter : ∀ k : Fin 26, Builtin.Str.occurrences ("abcdefghijklmnopqrstuvwxyz" : Str) ⟨#[97 + k.val]⟩ 0 26 1 = [k.val] := by decide +kernel
theorem ltr_fin {c : Nat} (h : ltr c = true) : ∃ k : Fin 26, c = 97 + k.val := by
  unfold ltr at h
  simp at h
  exact ⟨⟨c - 97, by omega⟩, by show c = 97 + (c - 97); omega⟩
theorem len_letters : ("abcdefghijklmnopqrstuvwxyz" : Str).length = 26 := by decide +kernel
theorem rindex {c : Nat} (h : ltr c = true) {H : Hp} {Q : VK} (q : Q (.int ((c - 97 : Nat) : Int)) H) : ∃ a b i rest, V.str "abcdefghijklmnopqrstuvwxyz" = .str a ∧ [V.str (S [c])] = [.str b] ∧ Builtin.Str.occurrences a b 0 a.length 1 = i :: rest ∧ Q (.int (i : Nat)) H := by
  obtain ⟨k, rfl⟩ := ltr_fin h
  refine ⟨_, _, k.val, [], rfl, rfl, ?_, ?_⟩
  · rw [len_letters]
    exact idx_letter k
  · have e : 97 + k.val - 97 = k.val := by omega
    rw [e] at q
    exact q
theorem numL_take {l : List Nat} {i c : Nat} (h : l[i]? = some c) : numL (l.take (i + 1)) = numL (l.take i) * 26 + (c - 97) + 1 := by
  have hi : i < l.length := (List.getElem?_eq_some_iff.mp h).1
  have hc : l[i] = c := (List.getElem?_eq_some_iff.mp h).2
  rw [List.take_succ_eq_append_getElem hi, hc, numL_snoc]
theorem all_get {l : List Nat} {p : Nat → Bool} {i c : Nat} (h : l.all p = true) (hi : l[i]? = some c) : p c = true := List.all_eq_true.mp h c (List.mem_of_getElem? hi)
theorem sc21 : FnScope ["name", "found", "k"] ["name"] (defScope (KH.top 80)) := ⟨rfl, rfl, rfl, by decide +kernel, rfl, by decide +kernel, by decide +kernel⟩
theorem c_lawNumOf (T : Env P w K mg base) : Callee P w K mg base CXN 1 "_law_number_of" ["name"] spNumOf := by
  obtain ⟨fd, F⟩ := T.fn 21 (d := KH.dd "_law_number_of" 80)
  refine callee (st := KH.top 80) F (T.glo 21 (d := KH.dd "_law_number_of" 80)) sc21 (fun _ _ _ _ _ _ us hl => match us, hl with | [_], _ => rfl) (fun _ _ _ _ _ _ us hl => match us, hl with | [_], _ => rfl) (fun vs H Q E h => by obtain ⟨l, rfl, _⟩ := h; rfl) ?_
  intro cdv A outer s H vs Q E hr h
  obtain ⟨l, rfl, hl, h1, h2, q⟩ := h
  have nd := sc21.nd
  refine ⟨_, PSs.nox (pss_cons (ps_set (i := 1) nd rfl (Or.inl rfl) pe_int) (pss_cons (ps_for PassesOwn.never rfl (pi_range1 rfl (T.free 13) (pa_cons (pe_callB call_len_str (by rfl) (T.free 4) boot_len (pa_cons (pv 0) pa_nil)) pa_nil)) (pg_name (i := 2) nd rfl (Or.inl rfl))
      (pss_one (ps_set (i := 1) nd rfl (Or.inl rfl) (pe_op op_add (pe_op op_add (pe_op op_mul pe_int (pv 1)) (pe_bm PySem.F.plainAttrs_str PySem.F.slot_str_index PySem.F.type_str_index mt_sindex pe_str (pa_cons (pe_slice sl_str (pv 0) (po_some (pv 2)) (po_some (pe_op op_add (pv 2) pe_int))) pa_nil))) pe_int))))
    (pss_one (ps_ret (pe_op op_sub (pv 1) pe_int))))), ?_⟩
  refine q_asg ev_c fun H0 e0 => q_forR1 (n := (l.length : Int)) (ea_cons (ev_cb (ea_cons (ev_var rfl) ea_nil) (rc_lenS (by omega))) ea_nil) ⟨by omega, by omega⟩ (fun i σ' H' => Ex H H' ∧ ∃ kv, σ' = [some (.str (S l)), some (.int (numL (l.take i) : Int)), kv]) (fun H1 e1 => ⟨e0.trans e1, _, rfl⟩) ?_ ?_
  · rintro i σ' H' hi ⟨e1, kv, rfl⟩
    have hi2 : i < l.length := by omega
    have hc : l[i]? = some l[i] := List.getElem?_eq_getElem hi2
    have hlt := all_get hl hc
    refine s_asg (v := .int (numL (l.take (i + 1)) : Int)) (ev_is (ev_op (ev_op (ev_op (x := .int 26) (y := .int (numL (l.take i) : Int)) ev_c (ev_var rfl) (rv_I (show CMul _ _ from .inl ⟨by decide, by decide⟩))) (ev_bmS (z := "abcdefghijklmnopqrstuvwxyz") (v := .int ((l[i] - 97 : Nat) : Int)) ev_c (ea_cons (ev_slS (ev_var rfl) (eo_some (ev_var rfl)) (eo_some (i := ((i + 1 : Nat) : Int)) (ev_op (ev_var rfl) ev_c rv_I0)) (by omega)) ea_nil) fun H2 e2 Q q => ?_) rv_I0) ev_c rv_I0) ?_) fun H2 e2 => ⟨e1.trans e2, _, rfl⟩
    · rw [take_one hc]
      exact rindex hlt (q _ (Ex.refl _))
    · rw [numL_take hc]
      congr 1
      push_cast
      omega
  · rintro σ' H' ⟨e1, kv, rfl⟩
    have e : l.take ((l.length : Int)).toNat = l := by rw [Int.toNat_natCast, List.take_length]
    rw [e]
    exact s_ret (v := .int ((numL l : Int) - 1)) (ev_op (ev_var rfl) ev_c rv_I0) fun H2 e2 => q _ (e1.trans e2)
end KF
set_option Elab.async false
set_option linter.all false
set_option maxRecDepth 100000
set_option maxHeartbeats 4000000
/-! KW: words and lines. -/
namespace KF
open PySem PySem.Spec PyProof.Rows L2 TEX He Evl
open SX (S S_tl S_len S_cat S_inj)
variable {P : Program} {w : World} {K : PySem.W.Frag} {mg : Str → Option Value} {base : Heap}
/-! ### the mathematics -/
def blk (c : Nat) : Bool := c == 32 || c == 10
def wordAt (r : List Nat) : List Nat := if r.take 2 = [45, 62] then [45, 62] else r.take (max (r.takeWhile ltr).length 1)
theorem wordAt_pos {c : Nat} {r : List Nat} : 1 ≤ (wordAt (c :: r)).length := by
  unfold wordAt
  split
  · decide
  · rw [List.length_take, List.length_cons]
    omega
theorem wordAt_le (r : List Nat) : (wordAt r).length ≤ r.length := by
  unfold wordAt
  split
  · rename_i h
    have := congrArg List.length h
    rw [List.length_take] at this
    simp at this
    simp
    omega
  · rw [List.length_take]
    omega
def wds (l : List Nat) : List (List Nat) := match l with
  | [] => []
  | c :: r => if blk c = true then wds r else wordAt (c :: r) :: wds ((c :: r).drop (wordAt (c :: r)).length)
termination_by l.length
decreasing_by
  · simp
  · have := wordAt_pos (c := c) (r := r)
    rw [List.length_drop, List.length_cons]
    omega
theorem wds_nil : wds [] = [] := by rw [wds]
theorem wds_blk {c : Nat} {r : List Nat} (h : blk c = true) : wds (c :: r) = wds r := by rw [wds, if_pos h]
theorem wds_word {c : Nat} {r : List Nat} (h : blk c = false) : wds (c :: r) = wordAt (c :: r) :: wds ((c :: r).drop (wordAt (c :: r)).length) := by
  rw [wds, if_neg (by rw [h]; exact Bool.false_ne_true)]
def pre1 (run : List Nat) : List (List Nat) := if run = [] then [] else [run]
def lw (l run : List Nat) : List (List Nat) := match l with
  | [] => pre1 run
  | c :: r => if ltr c = true then lw r (run ++ [c]) else pre1 run ++ (if (c :: r).take 2 = [45, 62] then [45, 62] :: lw (r.drop 1) [] else if blk c = true then lw r [] else [c] :: lw r [])
termination_by l.length
decreasing_by all_goals (simp; try omega)
theorem ltr_blk {c : Nat} (h : ltr c = true) : blk c = false := by
  unfold ltr at h
  unfold blk
  simp at h ⊢
  omega
theorem ltr_dash {c : Nat} {r : List Nat} (h : ltr c = true) : (c :: r).take 2 ≠ [45, 62] := by
  unfold ltr at h
  simp at h
  intro z
  have : c = 45 := by
    have := congrArg List.head? z
    simpa using this
  omega
theorem lw_eq : ∀ (n : Nat) (l run : List Nat), l.length ≤ n → lw l run = if run = [] then wds l else (run ++ l.takeWhile ltr) :: wds (l.dropWhile ltr) := by
  intro n
  induction n with
  | zero =>
    intro l run h
    have e : l = [] := List.length_eq_zero_iff.mp (by omega)
    subst e
    rw [lw]
    unfold pre1
    split
    · rw [wds_nil]
    · simp [wds_nil]
  | succ n ih =>
    intro l run h
    cases l with
    | nil =>
      rw [lw]
      unfold pre1
      split
      · rw [wds_nil]
      · simp [wds_nil]
    | cons c r =>
      rw [lw]
      have hr : r.length ≤ n := by simpa using h
      by_cases hc : ltr c = true
      · rw [if_pos hc, ih r _ hr, if_neg (by simp)]
        rw [List.takeWhile_cons, List.dropWhile_cons, if_pos hc, if_pos hc]
        split
        · rename_i e
          subst e
          rw [wds_word (ltr_blk hc)]
          have hw : wordAt (c :: r) = c :: r.takeWhile ltr := by
            unfold wordAt
            rw [if_neg (ltr_dash hc), List.takeWhile_cons, if_pos hc]
            have e1 : max (c :: r.takeWhile ltr).length 1 = (r.takeWhile ltr).length + 1 := by simp
            rw [e1, List.take_succ_cons]
            congr 1
            exact (List.prefix_iff_eq_take.mp (List.takeWhile_prefix ltr)).symm
          rw [hw]
          congr 2
          rw [List.length_cons, List.drop_succ_cons]
          conv => lhs; rw [← List.takeWhile_append_dropWhile (p := ltr) (l := r)]
          rw [List.takeWhile_append_dropWhile]
          have e2 := List.takeWhile_append_dropWhile (p := ltr) (l := r)
          exact (List.drop_left' rfl ▸ congrArg (List.drop (r.takeWhile ltr).length) e2 : _).symm ▸ rfl
        · rw [List.append_assoc]
          rfl
      · rw [if_neg hc]
        have hX : (if (c :: r).take 2 = [45, 62] then [45, 62] :: lw (r.drop 1) [] else if blk c = true then lw r [] else [c] :: lw r []) = wds (c :: r) := by
          by_cases h2 : (c :: r).take 2 = [45, 62]
          · rw [if_pos h2, ih _ _ (by simp; omega), if_pos rfl]
            have hc45 : c = 45 := by
              have := congrArg List.head? h2
              simpa using this
            rw [wds_word (by subst hc45; decide)]
            unfold wordAt
            rw [if_pos h2]
            rfl
          · rw [if_neg h2]
            by_cases h3 : blk c = true
            · rw [if_pos h3, ih _ _ hr, if_pos rfl, wds_blk h3]
            · rw [if_neg h3, ih _ _ hr, if_pos rfl, wds_word (by simpa using h3)]
              have hw : wordAt (c :: r) = [c] := by
                unfold wordAt
                rw [if_neg h2, List.takeWhile_cons, if_neg hc]
                rfl
              rw [hw]
              rfl
        rw [hX]
        unfold pre1
        split
        · rfl
        · rw [List.takeWhile_cons, List.dropWhile_cons, if_neg hc, if_neg hc, List.append_nil]
          rfl
theorem lw_wds (l : List Nat) : lw l [] = wds l := by
  rw [lw_eq l.length l [] (Nat.le_refl _), if_pos rfl]
def lns : List Nat → List Nat → List (List Nat)
  | [], cur => [cur]
  | c :: r, cur => if c = 10 then cur :: lns r [] else lns r (cur ++ [c])
theorem spl_lns : ∀ (l cur : List Nat), TL.spl [10] 0 cur l = lns l cur
  | [], cur => rfl
  | c :: r, cur => by
    show (if TL.pre [10] (c :: r) = true then cur :: TL.spl [10] ([10].length - 1) [] r else TL.spl [10] 0 (cur ++ [c]) r) = if c = 10 then cur :: lns r [] else lns r (cur ++ [c])
    have e : (TL.pre [10] (c :: r) = true) ↔ c = 10 := by
      unfold TL.pre
      simp
    by_cases h : c = 10
    · rw [if_pos (e.mpr h), if_pos h, ← spl_lns r []]
      rfl
    · rw [if_neg (fun z => h (e.mp z)), if_neg h, spl_lns r (cur ++ [c])]
theorem split_lns (l : List Nat) : Txt.split (S l) (S [10]) = (lns l []).map S := by
  rw [SX.split_S (by simp) (by decide), spl_lns]
end KF
set_option Elab.async false
set_option linter.all false
set_option maxRecDepth 100000
set_option maxHeartbeats 4000000
/-! KX: word_at, words_in. -/
namespace KF
open PySem PySem.Spec PyProof.Rows L2 TEX He Evl
open SX (S S_tl S_len S_cat S_inj)
variable {P : Program} {w : World} {K : PySem.W.Frag} {mg : Str → Option Value} {base : Heap}
section
variable {σ : L2.St} {H : Hp} {ta tb te tc : TE} {t : TT}
theorem ev_maxL {K : PySem.W.Frag} {ns : List Int} {z : Int} (h : EvL te σ H (ns.map V.int)) (h0 : 0 < ns.length) (hz : ∀ m, m ∈ ns → (∀ y, y ∈ ns → y ≤ m) → m = z) : Ev (tCB (rMax K) (tCons te tNil)) σ H (.int z) := fun H1 e Q q =>
  h H1 e _ fun p H2 hp e2 h2 => ⟨p, ns, rfl, sq_of h2, h0, fun m hm hle => by rw [hz m hm hle]; exact q H2 e2⟩
theorem atI_last {α : Type} (xs : List α) (x : α) : atI (xs ++ [x]) (-1) = some x := by
  have e : ixN (xs ++ [x]).length (-1) = some xs.length := by
    unfold ixN
    rw [if_neg (by omega)]
    have h : (xs ++ [x]).length = xs.length + 1 := by simp
    rw [h, if_pos (by omega)]
    congr 1
    omega
  unfold atI
  rw [e]
  simp
theorem rv_ixC {l : List Nat} {i c : Nat} (h : l[i]? = some c) (hz : l.length ≤ 100000) : RV rIxS (.str (S l)) (.int (i : Int)) H (.str (S [c])) := rv_ixS (by rw [S_len]; exact hz) (atI_nat h)
end
theorem tw_at (p : Nat → Bool) : ∀ (r : List Nat) (j : Nat), j ≤ (r.takeWhile p).length → decide (j < (r.takeWhile p).length) = (match r[j]? with | some c => p c | none => false)
  | [], j, _ => by simp
  | c :: r, j, h => by
    by_cases hc : p c = true
    · rw [List.takeWhile_cons, if_pos hc] at h ⊢
      cases j with
      | zero =>
        show decide (0 < _ + 1) = p c
        rw [hc]
        simp
      | succ j =>
        have := tw_at p r j (by simpa using h)
        show decide (j + 1 < _ + 1) = (match r[j]? with | some c => p c | none => false)
        rw [← this]
        simp
    · rw [List.takeWhile_cons, if_neg hc] at h ⊢
      have e : j = 0 := by simpa using h
      subst e
      show decide (0 < 0) = p c
      simpa using hc
theorem sc9 : FnScope ["text", "start", "end"] ["text", "start"] (defScope (KH.top 49)) := ⟨rfl, rfl, rfl, by decide +kernel, rfl, by decide +kernel, by decide +kernel⟩
def spWordAt : Sp := fun vs H Q _ => ∃ (l : List Nat) (at_ : Nat), vs = [.str (S l), .int (at_ : Int)] ∧ at_ < l.length ∧ l.length ≤ 5000 ∧ RetV (.str (S (wordAt (l.drop at_)))) H Q
theorem c_wordAt (T : Env P w K mg base) : Callee P w K mg base CXN 1 "word_at" ["text", "start"] spWordAt := by
  obtain ⟨fd, F⟩ := T.fn 9 (d := KH.dd "word_at" 49)
  refine callee (st := KH.top 49) F (T.glo 9 (d := KH.dd "word_at" 49)) sc9 (fun _ _ _ _ _ _ us hl => match us, hl with | [_, _], _ => rfl) (fun _ _ _ _ _ _ us hl => match us, hl with | [_, _], _ => rfl) (fun vs H Q E h => by obtain ⟨l, a, rfl, _⟩ := h; rfl) ?_
  intro cdv A outer s H vs Q E hr h
  obtain ⟨l, a, rfl, ha, hl, q⟩ := h
  have nd := sc9.nd
  obtain ⟨t1, g1⟩ := T.to
  obtain ⟨t2, g2⟩ := T.letters
  refine ⟨_, PSs.nox (pss_cons (ps_if (pt_cmpR op_eq (pe_slice sl_str (pv 0) (po_some (pv 1)) (po_some (pe_op op_add (pv 1) (pe_callB call_len_str (by rfl) (T.free 4) boot_len (pa_cons (pe_glob (v := .str "->") (by rfl) g1 ⟨_, rfl⟩) pa_nil))))) (pe_glob (v := .str "->") (by rfl) g1 ⟨_, rfl⟩) rfl) (pss_one (ps_ret (pe_glob (v := .str "->") (by rfl) g1 ⟨_, rfl⟩))) pss_nil)
    (pss_cons (ps_set (i := 2) nd rfl (Or.inl rfl) (pv 1))
    (pss_cons (ps_while PassesOwn.never (PW.pt (pw_and (pt_cmpR op_lt (pv 2) (pe_callB call_len_str (by rfl) (T.free 4) boot_len (pa_cons (pv 0) pa_nil)) rfl) (pw_and1 (pt_cmpR op_in_sign (pe_ix ix_str (pv 0) (pv 2) (fun _ _ => rfl)) (pe_glob (v := .str "abcdefghijklmnopqrstuvwxyz") (by rfl) g2 ⟨_, rfl⟩) rfl))))
      (pss_one (ps_set (i := 2) nd rfl (Or.inl rfl) (pe_op op_add (pv 2) pe_int))))
    (pss_one (ps_ret (pe_slice sl_str (pv 0) (po_some (pv 1)) (po_some (pe_callB (cr_max rfl) (by rfl) (T.free 6) (by decide +kernel) (pa_cons (pe_lst (pa_cons (pv 2) (pa_cons (pe_op op_add (pv 1) pe_int) pa_nil))) pa_nil))))))))), ?_⟩
  have hTO : ("->" : Str) = S [45, 62] := by decide +kernel
  have e2 : a + 2 - a = 2 := by omega
  refine q_when (b := (l.drop a).take 2 == [45, 62]) (et_test (ev_op (x := .str (S ((l.drop a).take 2))) (y := .str (S [45, 62])) ?_ ev_c rv_eqS)) (fun hb H1 e1 => ?_) (fun hb H1 e1 => ?_)
  · refine ev_is (ev_slS (l := l) (a := a) (b := a + 2) (ev_var rfl) (eo_some (ev_var rfl)) (eo_some (i := ((a + 2 : Nat) : Int)) (ev_op (y := .int 2) (ev_var rfl) (ev_cb (ea_cons ev_c ea_nil) ?_) rv_I0)) (by omega)) (by rw [e2])
    exact fun H1 _ Q q => ⟨_, rfl, by decide +kernel, q H1 (Ex.refl H1)⟩
  · refine s_ret (v := .str (S (wordAt (l.drop a)))) (ev_is ev_c ?_) fun H2 e2 => q _ (e1.trans e2)
    have h3 : (l.drop a).take 2 = [45, 62] := eq_of_beq hb
    unfold wordAt
    rw [if_pos h3, hTO]
  · have h3 : ¬ (l.drop a).take 2 = [45, 62] := fun z => by rw [z] at hb; exact absurd hb (by decide)
    have hw : wordAt (l.drop a) = (l.drop a).take (max ((l.drop a).takeWhile ltr).length 1) := by
      unfold wordAt
      rw [if_neg h3]
    have htl : ((l.drop a).takeWhile ltr).length ≤ l.length - a := by
      have := (List.takeWhile_prefix ltr (l := l.drop a)).length_le
      simpa using this
    refine q_asg (ev_var rfl) fun H2 e2 => q_while (fun m σ' H' => ∃ j, σ' = [some (.str (S l)), some (.int (a : Int)), some (.int ((a + j : Nat) : Int))] ∧ Ex H H' ∧ j + m = ((l.drop a).takeWhile ltr).length) ((l.drop a).takeWhile ltr).length ⟨0, rfl, e1.trans e2, by omega⟩ ?_
    rintro m σ' H' ⟨j, rfl, e, hj⟩
    refine ⟨decide (j < ((l.drop a).takeWhile ltr).length), ?_, fun hb H3 e3 => ?_, fun hb H3 e3 => ?_⟩
    · rw [tw_at ltr _ j (by omega)]
      by_cases hlt : a + j < l.length
      · have hc : l[a + j]? = some l[a + j] := List.getElem?_eq_getElem hlt
        have hd : (l.drop a)[j]? = some l[a + j] := by rw [List.getElem?_drop]; exact hc
        rw [hd]
        refine et_is (et_and (a := true) (b := ltr l[a + j]) (et_test (ev_is (ev_op (ev_var rfl) (ev_cb (ea_cons (ev_var rfl) ea_nil) (rc_lenS (by omega))) rv_I0) (by congr 1; simp; omega))) fun _ => ?_) (by simp)
        rw [← letters_in]
        exact et_test (ev_op (x := .str ⟨#[l[a + j]]⟩) (ev_op (ev_var rfl) (ev_var rfl) (rv_ixC hc (by omega))) ev_c rv_sign)
      · have hd : (l.drop a)[j]? = none := by rw [List.getElem?_drop]; exact List.getElem?_eq_none (by omega)
        rw [hd]
        exact et_is (et_and (a := false) (b := true) (et_test (ev_is (ev_op (ev_var rfl) (ev_cb (ea_cons (ev_var rfl) ea_nil) (rc_lenS (by omega))) rv_I0) (by congr 1; simp; omega))) fun z => by cases z) (by simp)
    · have h5 : j < ((l.drop a).takeWhile ltr).length := of_decide_eq_true hb
      exact ⟨_, fun σ2 H2 h => h, s_asg (v := .int ((a + (j + 1) : Nat) : Int)) (ev_is (ev_op (ev_var rfl) ev_c rv_I0) (by congr 1)) fun H4 e4 => ⟨m - 1, by omega, j + 1, rfl, (e.trans e3).trans e4, by omega⟩⟩
    · have h5 : ¬ j < ((l.drop a).takeWhile ltr).length := of_decide_eq_false hb
      have h6 : j = ((l.drop a).takeWhile ltr).length := by omega
      refine s_ret (v := .str (S (wordAt (l.drop a)))) ?_ fun H4 e4 => q _ ((e.trans e3).trans e4)
      rw [hw]
      refine ev_is (ev_slS (l := l) (a := a) (b := a + max ((l.drop a).takeWhile ltr).length 1) (ev_var rfl) (eo_some (ev_var rfl)) (eo_some (i := ((a + max ((l.drop a).takeWhile ltr).length 1 : Nat) : Int)) (ev_maxL (K := K) (ns := [((a + j : Nat) : Int), (a : Int) + 1]) (el_lst (ea_cons (ev_var rfl) (ea_cons (x := .int ((a : Int) + 1)) (ev_op (ev_var rfl) ev_c rv_I0) ea_nil)) (by show 2 ≤ 100000; decide)) (by show 0 < 2; decide) (fun m hm hle => by
        have g1 := hle ((a + j : Nat) : Int) (by simp)
        have g2 := hle ((a : Int) + 1) (by simp)
        have g3 : m = ((a + j : Nat) : Int) ∨ m = (a : Int) + 1 := by simpa using hm
        omega))) (by omega)) ?_
      rw [show a + max ((l.drop a).takeWhile ltr).length 1 - a = max ((l.drop a).takeWhile ltr).length 1 by omega]
end KF
set_option Elab.async false
set_option linter.all false
set_option maxRecDepth 100000
set_option maxHeartbeats 4000000
/-! KY: words_in, _law_words, _law_lines. -/
namespace KF
open PySem PySem.Spec PyProof.Rows L2 TEX He Evl
open SX (S S_tl S_len S_cat S_inj)
variable {P : Program} {w : World} {K : PySem.W.Frag} {mg : Str → Option Value} {base : Heap}
def RetU (xs : List V) (H : Hp) (Q : VK) : Prop := ∀ p H2, H p = none → Ex H H2 → H2 p = some (.tup xs) → Q (.ref p) H2
def txl (l : List (List Nat)) : List V := l.map fun x => .str (S x)
theorem wds_len : ∀ (n : Nat) (l : List Nat), l.length ≤ n → (wds l).length ≤ l.length := by
  intro n
  induction n with
  | zero =>
    intro l h
    have e : l = [] := List.length_eq_zero_iff.mp (by omega)
    subst e
    rw [wds_nil]
    exact Nat.le_refl _
  | succ n ih =>
    intro l h
    cases l with
    | nil => rw [wds_nil]; exact Nat.le_refl _
    | cons c r =>
      have hr : r.length ≤ n := by simpa using h
      cases hb : blk c with
      | true =>
        rw [wds_blk hb, List.length_cons]
        have := ih r hr
        omega
      | false =>
        rw [wds_word hb, List.length_cons]
        have h1 := wordAt_pos (c := c) (r := r)
        have h2 := ih ((c :: r).drop (wordAt (c :: r)).length) (by rw [List.length_drop, List.length_cons]; omega)
        rw [List.length_drop, List.length_cons] at h2
        rw [List.length_cons]
        omega
theorem drop_some {l : List Nat} {i : Nat} (h : i < l.length) : ∃ c, l[i]? = some c ∧ l.drop i = c :: l.drop (i + 1) := ⟨l[i], List.getElem?_eq_getElem h, List.drop_eq_getElem_cons h⟩
theorem sc10 : FnScope ["text", "at", "found"] ["text"] (defScope (KH.top 50)) := ⟨rfl, rfl, rfl, by decide +kernel, rfl, by decide +kernel, by decide +kernel⟩
def spWordsIn : Sp := fun vs H Q _ => ∃ l : List Nat, vs = [.str (S l)] ∧ l.length ≤ 5000 ∧ RetL (txl (wds l)) H Q
theorem inV_blk (c : Nat) : inV (.str (S [c])) [.str (S [32]), .str (S [10])] = blk c := by
  show ((S [32] : Str) == S [c] || ((S [10] : Str) == S [c] || false)) = blk c
  rw [str_beq, str_beq, Bool.or_false]
  unfold blk
  have e1 : ([32] == [c]) = (c == 32) := by rw [BEq.comm]; simp
  have e2 : ([10] == [c]) = (c == 10) := by rw [BEq.comm]; simp
  rw [e1, e2]
theorem c_wordsIn (T : Env P w K mg base) : Callee P w K mg base CXN 2 "words_in" ["text"] spWordsIn := by
  obtain ⟨fd, F⟩ := T.fn 10 (d := KH.dd "words_in" 50)
  refine callee (st := KH.top 50) F (T.glo 10 (d := KH.dd "words_in" 50)) sc10 (fun _ _ _ _ _ _ us hl => match us, hl with | [_], _ => rfl) (fun _ _ _ _ _ _ us hl => match us, hl with | [_], _ => rfl) (fun vs H Q E h => by obtain ⟨l, rfl, _⟩ := h; rfl) ?_
  intro cdv A outer s H vs Q E hr h
  obtain ⟨l, rfl, hl, q⟩ := h
  have nd := sc10.nd
  obtain ⟨t1, g1⟩ := T.feed
  refine ⟨_, PSs.nox (pss_cons (ps_par (i := 1) (j := 2) rfl nd rfl rfl (by decide) rfl rfl (pa_cons pe_int (pa_cons (pe_lst pa_nil) pa_nil)) (by rfl))
    (pss_cons (ps_while PassesOwn.never (pt_cmpR op_lt (pv 1) (pe_callB call_len_str (by rfl) (T.free 4) boot_len (pa_cons (pv 0) pa_nil)) rfl)
      (pss_one (ps_if (pt_cmpR op_in_seq (pe_ix ix_str (pv 0) (pv 1) (fun _ _ => rfl)) (pe_tup (pa_cons pe_str (pa_cons (pe_glob (v := .str (S [10])) (by rfl) g1 ⟨_, rfl⟩) pa_nil))) rfl) (pss_one (ps_set (i := 1) nd rfl (Or.inl rfl) (pe_op op_add (pv 1) pe_int)))
        (pss_cons (ps_expr (pe_bm PySem.F.plainAttrs_list PySem.F.slot_list_append PySem.F.type_list_append mt_append (pv 2) (pa_cons (pe_n (c_wordAt T) hr (pa_cons (pv 0) (pa_cons (pv 1) pa_nil))) pa_nil)))
        (pss_one (ps_set (i := 1) nd rfl (Or.inl rfl) (pe_op op_add (pv 1) (pe_callB call_len_str (by rfl) (T.free 4) boot_len (pa_cons (pe_ix ix_list (pv 2) (pe_un un_neg pe_int) (fun _ _ => rfl)) pa_nil)))))))))
    (pss_one (ps_ret (pv 2))))), ?_⟩
  refine ⟨by decide, fun p hp => ⟨_, _, rfl, ?_⟩⟩
  refine q_while (fun m σ' H' => ∃ (a : Nat) (ws : List (List Nat)), σ' = [some (.str (S l)), some (.int (a : Int)), some (.ref p)] ∧ Ex H H' ∧ H' p = some (.lst (txl ws)) ∧ ws ++ wds (l.drop a) = wds l ∧ a + m = l.length) l.length ⟨0, [], rfl, Ex.new hp, upd_same, rfl, by omega⟩ ?_
  rintro m σ' H' ⟨a, ws, rfl, e, hpl, hw, ham⟩
  refine ⟨decide (a < l.length), et_test (ev_is (ev_op (ev_var rfl) (ev_cb (ea_cons (ev_var rfl) ea_nil) (rc_lenS (by omega))) rv_I0) (by congr 1; simp)), fun hb H1 e1 => ?_, fun hb H1 e1 => ?_⟩
  · have ha : a < l.length := of_decide_eq_true hb
    obtain ⟨c, hc, hd⟩ := drop_some ha
    refine ⟨_, fun σ2 H2 h => h, s_if (b := blk c) ?_ (fun hbl H2 e2 => ?_) (fun hbl H2 e2 => ?_)⟩
    · rw [← inV_blk]
      exact et_test (ev_inU (ev_op (ev_var rfl) (ev_var rfl) (rv_ixC hc (by omega))) (eu_tup (ea_cons ev_c (ea_cons ev_c ea_nil)) (by show 2 ≤ 100000; decide)) rfl rfl)
    · refine s_asg (v := .int ((a + 1 : Nat) : Int)) (ev_op (ev_var rfl) ev_c rv_I0) fun H3 e3 => ⟨m - 1, by omega, a + 1, ws, rfl, ((e.trans e1).trans e2).trans e3, e3 _ _ (e2 _ _ (e1 _ _ hpl)), ?_, by omega⟩
      rw [← hw, hd, wds_blk hbl]
    · have hws : ws.length ≤ 5000 := by
        have h1 := wds_len _ l (Nat.le_refl _)
        have h2 := congrArg List.length hw
        rw [List.length_append] at h2
        omega
      refine q_app (v := .str (S (wordAt (l.drop a)))) (e2 _ _ (e1 _ _ hpl)) (ev_var rfl) (ev_call (ea_cons (ev_var rfl) (ea_cons (ev_var rfl) ea_nil)) (SpV.of fun H3 Q2 E2 e3 q2 => ⟨l, a, rfl, ha, by omega, q2⟩)) (by unfold txl; rw [List.length_map]; omega) fun H3 e3 => ?_
      have hpos : 1 ≤ (wordAt (l.drop a)).length := by rw [hd]; exact wordAt_pos
      have hle := wordAt_le (l.drop a)
      rw [List.length_drop] at hle
      have hlast : upd H3 p (.lst (txl ws ++ [.str (S (wordAt (l.drop a)))])) p = some (.lst (txl ws ++ [.str (S (wordAt (l.drop a)))])) := upd_same
      have hE : Ex H (upd H3 p (.lst (txl ws ++ [.str (S (wordAt (l.drop a)))]))) := Ex.mut (((e.trans e1).trans e2).trans e3) hp
      refine s_asg (v := .int ((a + (wordAt (l.drop a)).length : Nat) : Int)) (ev_is (ev_op (ev_var rfl) (ev_cb (ea_cons (ev_op (y := .int (-1)) (ev_var rfl) (ev_un ev_c ru_neg) (rv_ixL (sq_of hlast) (atI_last _ _))) ea_nil) (rc_lenS (by omega))) rv_I0) (by congr 1)) fun H4 e4 => ⟨m - (wordAt (l.drop a)).length, by omega, a + (wordAt (l.drop a)).length, ws ++ [wordAt (l.drop a)], rfl, hE.trans e4, e4 _ _ (by rw [hlast]; unfold txl; rw [List.map_append]; rfl), ?_, by omega⟩
      have hbf : blk c = false := hbl
      rw [← hw, List.append_assoc, hd, wds_word hbf, ← hd, List.drop_drop]
      rfl
  · have ha : ¬ a < l.length := of_decide_eq_false hb
    rw [List.drop_eq_nil_of_le (by omega), wds_nil, List.append_nil] at hw
    subst hw
    exact s_ret (ev_var rfl) fun H2 e2 => q p H2 hp ((e.trans e1).trans e2) (e2 _ _ (e1 _ _ hpl))
end KF
set_option Elab.async false
set_option linter.all false
set_option maxRecDepth 100000
set_option maxHeartbeats 4000000
/-! KZ: _law_words, _law_lines. -/
namespace KF
open PySem PySem.Spec PyProof.Rows L2 TEX He Evl
open SX (S S_tl S_len S_cat S_inj)
variable {P : Program} {w : World} {K : PySem.W.Frag} {mg : Str → Option Value} {base : Heap}
section
variable {σ : L2.St} {H : Hp} {ta tb tc te : TE} {t : TT} {D : Ends} {tu tz : TS}
theorem el_if {b : Bool} {xs ys : List V} (h : EvT t σ H b) (h1 : b = true → EvL ta σ H xs) (h2 : b = false → EvL tb σ H ys) : EvL (tIf t ta tb) σ H (if b = true then xs else ys) := fun H1 e Q q => h H1 e _ fun H2 e2 => by
  cases b with
  | true =>
    show ta σ H2 Q
    exact h1 rfl H2 (e.trans e2) Q fun p H3 hp e3 h3 => q p H3 (fresh_back e2 hp) (e2.trans e3) h3
  | false =>
    show tb σ H2 Q
    exact h2 rfl H2 (e.trans e2) Q fun p H3 hp e3 h3 => q p H3 (fresh_back e2 hp) (e2.trans e3) h3
theorem el_is {xs ys : List V} (h : EvL te σ H xs) (e : xs = ys) : EvL te σ H ys := e ▸ h
theorem el_pre {i : Nat} {run : List Nat} (h : σ[i]? = some (some (.str (S run)))) : EvL (tIf (tTest (tOp rNe (tVar i) (tC (.str "")))) (tLst (tCons (tVar i) tNil)) (tLst tNil)) σ H (txl (pre1 run)) :=
  el_is (el_if (et_test (ev_op (x := .str (S run)) (y := .str (S [])) (ev_var h) ev_c rv_neS)) (fun _ => el_lst (ea_cons (ev_var h) ea_nil) (by show 1 ≤ 100000; decide)) (fun _ => el_lst ea_nil (by decide))) (by
    unfold pre1
    cases run with
    | nil => rfl
    | cons c r => rfl)
theorem q_ext {K : PySem.W.Frag} {l : Addr} {xs ys : List V} (hl : H l = some (.lst xs)) (ha : Ev ta σ H (.ref l)) (h : EvL te σ H ys) (hz : xs.length + ys.length ≤ 100000) (k : ∀ H1, Ex H H1 → tz D σ (upd H1 l (.lst (xs ++ ys)))) :
    tSeq (tDrop (tBM K "list" rExtend ta (tCons te tNil))) tz D σ H := ha H (Ex.refl H) _ fun H1 e1 =>
  ⟨Or.inl ⟨rfl, xs, sq_of (e1 l _ hl)⟩, h H1 e1 _ fun p H2 hp e2 h2 => ⟨l, p, xs, ys, rfl, rfl, e2 l _ (e1 l _ hl), h2, sz_of hz, k H2 (e1.trans e2)⟩⟩
theorem el_cat {l : Addr} {xs ys : List V} (ha : Ev ta σ H (.ref l)) (hl : H l = some (.lst xs)) (h : EvL tb σ H ys) (hz : xs.length + ys.length ≤ 100000) : EvL (tOp rCat ta tb) σ H (xs ++ ys) := fun H1 e Q q =>
  ha H1 e _ fun H2 e2 => h H2 (e.trans e2) _ fun p H3 hp e3 h3 => ⟨l, p, xs, ys, rfl, rfl, e3 _ _ (e2 _ _ (e _ _ hl)), h3, sz_of hz, fun r hr => q r _ (fresh_back (e2.trans e3) hr) ((e2.trans e3).trans (Ex.new hr)) upd_same⟩
theorem eu_tuple {K : PySem.W.Frag} {xs : List V} (h : EvL te σ H xs) : EvU (tCB (fun xs H Q => ∃ p ys, xs = [.ref p] ∧ ((SqL K H p ys ∧ ∀ l, H l = none → Q (.ref l) (upd H l (.tup ys))) ∨ (SqT K H p ys ∧ Q (.ref p) H))) (tCons te tNil)) σ H xs := fun H1 e Q q =>
  h H1 e _ fun p H2 hp e2 h2 => ⟨p, xs, rfl, Or.inl ⟨sq_of h2, fun r hr => q r _ (fresh_back e2 hr) (e2.trans (Ex.new hr)) upd_same⟩⟩
/-- for c in text -/
theorem q_forS {l : List Nat} {j : Nat} (h : Ev te σ H (.str (S l))) (Pv : Nat → L2.St → Hp → Prop) (h0 : ∀ H1, Ex H H1 → Pv 0 σ H1)
    (hs : ∀ i c σ' H', l[i]? = some c → Pv i σ' H' → tu { D with nx := Pv (i + 1), ct := Pv (i + 1), bk := tz D } (σ'.set j (some (.str (S [c])))) H') (hd : ∀ σ' H', Pv l.length σ' H' → tz D σ' H') : tSeq (tFor (iStr te) (gName j) tu) tz D σ H :=
  h H (Ex.refl H) _ fun H1 e => ⟨S l, rfl, by
    have sz : (S l).cps.size = l.length := by simp
    refine for_it (J := Its (S l)) (n := l.length) (G := fun _ => True) (Y := fun i H v H' => H' = H ∧ ∃ c, (S l).cps[i]? = some c ∧ v = .str ⟨#[c]⟩) (sz ▸ walk_str) (D := { D with nx := tz D }) Pv (h0 H1 e) (fun _ _ _ _ _ => True.intro) (fun i x σ' H2 H' hi p y => ?_) hd
    obtain ⟨rfl, c, hc, rfl⟩ := y
    have hc2 : l[i]? = some c := by simpa using hc
    exact hs i c σ' H' hc2 p⟩
end
theorem lw_nil (run : List Nat) : lw [] run = pre1 run := by rw [lw]
theorem lw_ltr {c : Nat} {r run : List Nat} (h : ltr c = true) : lw (c :: r) run = lw r (run ++ [c]) := by rw [lw, if_pos h]
theorem lw_oth {c : Nat} {r run : List Nat} (h : ltr c = false) : lw (c :: r) run = pre1 run ++ (if (c :: r).take 2 = [45, 62] then [45, 62] :: lw (r.drop 1) [] else if blk c = true then lw r [] else [c] :: lw r []) := by
  rw [lw, if_neg (by rw [h]; exact Bool.false_ne_true)]
theorem pre1_len (run : List Nat) : (pre1 run).length ≤ 1 := by unfold pre1; split <;> simp
theorem txl_len (ws : List (List Nat)) : (txl ws).length = ws.length := by unfold txl; rw [List.length_map]
theorem txl_app (a b : List (List Nat)) : txl (a ++ b) = txl a ++ txl b := by unfold txl; rw [List.map_append]
def spLawWords : Sp := fun vs H Q _ => ∃ l : List Nat, vs = [.str (S l)] ∧ l.length ≤ 5000 ∧ RetU (txl (wds l)) H Q
theorem sc24 : FnScope ["text", "found", "run", "at", "sign"] ["text"] (defScope (KH.top 83)) := ⟨rfl, rfl, rfl, by decide +kernel, rfl, by decide +kernel, by decide +kernel⟩
theorem c_lawWords (T : Env P w K mg base) : Callee P w K mg base CXN 1 "_law_words" ["text"] spLawWords := by
  obtain ⟨fd, F⟩ := T.fn 24 (d := KH.dd "_law_words" 83)
  refine callee (st := KH.top 83) F (T.glo 24 (d := KH.dd "_law_words" 83)) sc24 (fun _ _ _ _ _ _ us hl => match us, hl with | [_], _ => rfl) (fun _ _ _ _ _ _ us hl => match us, hl with | [_], _ => rfl) (fun vs H Q E h => by obtain ⟨l, rfl, _⟩ := h; rfl) ?_
  intro cdv A outer s H vs Q E hr h
  obtain ⟨l, rfl, hl, q⟩ := h
  have nd := sc24.nd
  refine ⟨_, PSs.nox (pss_cons (ps_par3 (i := 1) (j := 2) (l := 3) rfl nd rfl rfl rfl (by decide) (by decide) (by decide) rfl rfl rfl (pa_cons (pe_lst pa_nil) (pa_cons pe_str (pa_cons pe_int pa_nil))) (by rfl))
    (pss_cons (ps_while PassesOwn.never (pt_cmpR op_lt (pv 3) (pe_callB call_len_str (by rfl) (T.free 4) boot_len (pa_cons (pv 0) pa_nil)) rfl)
      (pss_cons (ps_set (i := 4) nd rfl (Or.inl rfl) (pe_slice sl_str (pv 0) (po_some (pv 3)) (po_some (pe_op op_add (pv 3) pe_int))))
      (pss_cons (ps_if (pt_chain op_le_str op_le_str pe_str (pv 4) pe_str) (pss_one (ps_set (i := 2) nd rfl (Or.inl rfl) (pe_op op_add_str (pv 2) (pv 4))))
        (pss_cons (ps_expr (pe_bm PySem.F.plainAttrs_list PySem.F.slot_list_extend PySem.F.type_list_extend mt_extend (pv 1) (pa_cons (pe_ifExp (pt_cmpR op_ne (pv 2) pe_str rfl) (pe_lst (pa_cons (pv 2) pa_nil)) (pe_lst pa_nil)) pa_nil)))
        (pss_cons (ps_set (i := 2) nd rfl (Or.inl rfl) pe_str)
        (pss_one (ps_if (pt_cmpR op_eq (pe_slice sl_str (pv 0) (po_some (pv 3)) (po_some (pe_op op_add (pv 3) pe_int))) pe_str rfl)
          (pss_cons (ps_expr (pe_bm PySem.F.plainAttrs_list PySem.F.slot_list_append PySem.F.type_list_append mt_append (pv 1) (pa_cons pe_str pa_nil))) (pss_one (ps_set (i := 3) nd rfl (Or.inl rfl) (pe_op op_add (pv 3) pe_int))))
          (pss_one (ps_if (pt_cmpR op_notIn_seq (pv 4) (pe_tup (pa_cons pe_str (pa_cons pe_str pa_nil))) rfl) (pss_one (ps_expr (pe_bm PySem.F.plainAttrs_list PySem.F.slot_list_append PySem.F.type_list_append mt_append (pv 1) (pa_cons (pv 4) pa_nil)))) pss_nil)))))))
      (pss_one (ps_set (i := 3) nd rfl (Or.inl rfl) (pe_op op_add (pv 3) pe_int))))))
    (pss_one (ps_ret (pe_callTy call_tuple_of (by rfl) (T.free 12) (by decide +kernel) (pa_cons (pe_op op_cat (pv 1) (pe_ifExp (pt_cmpR op_ne (pv 2) pe_str rfl) (pe_lst (pa_cons (pv 2) pa_nil)) (pe_lst pa_nil))) pa_nil)))))), ?_⟩
  refine ⟨by decide, fun p hp => ⟨_, _, _, rfl, ?_⟩⟩
  refine q_while (fun m σ' H' => ∃ (a : Nat) (fs : List (List Nat)) (run : List Nat) (sg : Option V), σ' = [some (.str (S l)), some (.ref p), some (.str (S run)), some (.int (a : Int)), sg] ∧ Ex H H' ∧ H' p = some (.lst (txl fs)) ∧ fs ++ lw (l.drop a) run = wds l ∧ a + m = l.length ∧ fs.length ≤ 2 * a ∧ run.length ≤ a)
    l.length ⟨0, [], [], none, rfl, Ex.new hp, upd_same, by rw [← lw_wds]; rfl, by omega, by simp, by simp⟩ ?_
  rintro m σ' H' ⟨a, fs, run, sg, rfl, e, hpl, hw, ham, hfs, hrun⟩
  refine ⟨decide (a < l.length), et_test (ev_is (ev_op (ev_var rfl) (ev_cb (ea_cons (ev_var rfl) ea_nil) (rc_lenS (by omega))) rv_I0) (by congr 1; simp)), fun hb H1 e1 => ?_, fun hb H1 e1 => ?_⟩
  · have ha : a < l.length := of_decide_eq_true hb
    obtain ⟨c, hc, hd⟩ := drop_some ha
    refine ⟨_, fun σ2 H2 h => h, q_asg (v := .str (S [c])) (ev_is (ev_slS (a := a) (b := a + 1) (ev_var rfl) (eo_some (ev_var rfl)) (eo_some (i := ((a + 1 : Nat) : Int)) (ev_op (ev_var rfl) ev_c rv_I0)) (by omega)) (by rw [take_one hc])) fun H2 e2 => q_if (b := ltr c) (et_test (ev_chain (x := .str ⟨#[97]⟩) (y := .str ⟨#[c]⟩) (z := .str ⟨#[122]⟩) ev_c (ev_var rfl) (fun _ => ev_c) rv_leS fun _ => rv_leS)) (fun hlt H3 e3 => ?_) (fun hlt H3 e3 => ?_)⟩
    · refine s_asg (v := .str (S (run ++ [c]))) (ev_op (ev_var rfl) (ev_var rfl) (rv_addS (by simp; omega))) fun H4 e4 => s_asg (v := .int ((a + 1 : Nat) : Int)) (ev_op (ev_var rfl) ev_c rv_I0) fun H5 e5 => ⟨m - 1, by omega, a + 1, fs, run ++ [c], _, rfl, ((((e.trans e1).trans e2).trans e3).trans e4).trans e5, ?_, ?_, by omega, by omega, by simp; omega⟩
      · exact e5 _ _ (e4 _ _ (e3 _ _ (e2 _ _ (e1 _ _ hpl))))
      · rw [← hw, hd, lw_ltr hlt]
    · refine q_ext (e3 _ _ (e2 _ _ (e1 _ _ hpl))) (ev_var rfl) (el_pre (run := run) rfl) (by have := pre1_len run; rw [txl_len, txl_len]; omega) fun H4 e4 => ?_
      have hE : Ex H (upd H4 p (.lst (txl fs ++ txl (pre1 run)))) := Ex.mut ((((e.trans e1).trans e2).trans e3).trans e4) hp
      have hpl2 : upd H4 p (.lst (txl fs ++ txl (pre1 run))) p = some (.lst (txl (fs ++ pre1 run))) := by rw [upd_same, txl_app]
      have hfs2 : (fs ++ pre1 run).length ≤ 2 * a + 1 := by have := pre1_len run; rw [List.length_append]; omega
      rw [hd, lw_oth hlt, ← hd, ← List.append_assoc] at hw
      refine q_asg (v := .str (S [])) ev_c fun H5 e5 => s_if (b := (l.drop a).take 2 == [45, 62]) (et_test (ev_op (x := .str (S ((l.drop a).take 2))) (y := .str (S [45, 62])) (ev_is (ev_slS (l := l) (a := a) (b := a + 2) (ev_var rfl) (eo_some (ev_var rfl)) (eo_some (i := ((a + 2 : Nat) : Int)) (ev_op (ev_var rfl) ev_c rv_I0)) (by omega)) (by rw [show a + 2 - a = 2 by omega])) ev_c rv_eqS)) (fun h2 H6 e6 => ?_) (fun h2 H6 e6 => ?_)
      · have h3 : (l.drop a).take 2 = [45, 62] := eq_of_beq h2
        have h4 : a + 2 ≤ l.length := by
          have := congrArg List.length h3
          simp at this
          omega
        rw [if_pos h3] at hw
        refine q_app (v := .str (S [45, 62])) (e6 _ _ (e5 _ _ hpl2)) (ev_var rfl) ev_c (by rw [txl_len]; omega) fun H7 e7 => ?_
        refine s_asg (v := .int ((a + 1 : Nat) : Int)) (ev_op (ev_var rfl) ev_c rv_I0) fun H8 e8 => s_asg (v := .int ((a + 2 : Nat) : Int)) (ev_op (ev_var rfl) ev_c rv_I0) fun H9 e9 => ⟨m - 2, by omega, a + 2, fs ++ pre1 run ++ [[45, 62]], [], _, rfl, ((Ex.mut (((hE.trans e5).trans e6).trans e7) hp).trans e8).trans e9, e9 _ _ (e8 _ _ (by rw [upd_same, txl_app (fs ++ pre1 run)]; rfl)), ?_, by omega, by rw [List.length_append]; simp; simp at hfs2; omega, by simp⟩
        rw [← hw, List.append_assoc (fs ++ pre1 run), List.drop_drop]
        rfl
      · have h3 : ¬ (l.drop a).take 2 = [45, 62] := fun z => by rw [z] at h2; exact absurd h2 (by decide)
        rw [if_neg h3] at hw
        refine s_when (b := !blk c) ?_ (fun hbl H7 e7 => ?_) (fun hbl H7 e7 => ?_)
        · rw [← inV_blk]
          exact et_test (ev_niU (ev_var rfl) (eu_tup (ea_cons ev_c (ea_cons ev_c ea_nil)) (by decide)) rfl rfl)
        · have hbl2 : blk c = false := by simpa using hbl
          rw [hbl2, if_neg Bool.false_ne_true] at hw
          refine s_app (v := .str (S [c])) (e7 _ _ (e6 _ _ (e5 _ _ hpl2))) (ev_var rfl) (ev_var rfl) (by rw [txl_len]; omega) fun H8 e8 => ?_
          refine s_asg (v := .int ((a + 1 : Nat) : Int)) (ev_op (ev_var rfl) ev_c rv_I0) fun H9 e9 => ⟨m - 1, by omega, a + 1, fs ++ pre1 run ++ [[c]], [], _, rfl, (Ex.mut ((((hE.trans e5).trans e6).trans e7).trans e8) hp).trans e9, e9 _ _ (by rw [upd_same, txl_app (fs ++ pre1 run)]; rfl), ?_, by omega, by rw [List.length_append]; simp; simp at hfs2; omega, by simp⟩
          rw [← hw, List.append_assoc (fs ++ pre1 run)]
          rfl
        · have hbl2 : blk c = true := by simpa using hbl
          rw [if_pos hbl2] at hw
          refine s_asg (v := .int ((a + 1 : Nat) : Int)) (ev_op (ev_var rfl) ev_c rv_I0) fun H9 e9 => ⟨m - 1, by omega, a + 1, fs ++ pre1 run, [], _, rfl, (((hE.trans e5).trans e6).trans e7).trans e9, e9 _ _ (e7 _ _ (e6 _ _ (e5 _ _ hpl2))), hw, by omega, by omega, by simp⟩
  · have ha : ¬ a < l.length := of_decide_eq_false hb
    rw [List.drop_eq_nil_of_le (by omega), lw_nil] at hw
    refine s_retU (eu_tuple (el_cat (ev_var rfl) (e1 _ _ hpl) (el_pre (run := run) rfl) (by have := pre1_len run; rw [txl_len, txl_len]; omega))) fun r H2 hr e2 h2 => q r H2 (fresh_back (e.trans e1) hr) ((e.trans e1).trans e2) ?_
    rw [h2, ← txl_app, hw]
/-! ### _law_lines -/
theorem lns_len : ∀ (l cur : List Nat), (lns l cur).length ≤ l.length + 1
  | [], cur => by show 1 ≤ _; omega
  | c :: r, cur => by
    show (if c = 10 then cur :: lns r [] else lns r (cur ++ [c])).length ≤ _
    split
    · have := lns_len r []
      simp
      omega
    · have := lns_len r (cur ++ [c])
      simp
      omega
def spLawLines : Sp := fun vs H Q _ => ∃ l : List Nat, vs = [.str (S l)] ∧ l.length ≤ 5000 ∧ RetU (txl (lns l [])) H Q
theorem sc25 : FnScope ["text", "found", "line", "sign"] ["text"] (defScope (KH.top 84)) := ⟨rfl, rfl, rfl, by decide +kernel, rfl, by decide +kernel, by decide +kernel⟩
theorem c_lawLines (T : Env P w K mg base) : Callee P w K mg base CXN 1 "_law_lines" ["text"] spLawLines := by
  obtain ⟨fd, F⟩ := T.fn 25 (d := KH.dd "_law_lines" 84)
  refine callee (st := KH.top 84) F (T.glo 25 (d := KH.dd "_law_lines" 84)) sc25 (fun _ _ _ _ _ _ us hl => match us, hl with | [_], _ => rfl) (fun _ _ _ _ _ _ us hl => match us, hl with | [_], _ => rfl) (fun vs H Q E h => by obtain ⟨l, rfl, _⟩ := h; rfl) ?_
  intro cdv A outer s H vs Q E hr h
  obtain ⟨l, rfl, hl, q⟩ := h
  have nd := sc25.nd
  refine ⟨_, PSs.nox (pss_cons (ps_par (i := 1) (j := 2) rfl nd rfl rfl (by decide) rfl rfl (pa_cons (pe_lst pa_nil) (pa_cons pe_str pa_nil)) (by rfl))
    (pss_cons (ps_for PassesOwn.never rfl (pi_str (pv 0)) (pg_name (i := 3) nd rfl (Or.inl rfl))
      (pss_one (ps_if (pt_cmpR op_eq (pv 3) pe_str rfl) (pss_cons (ps_expr (pe_bm PySem.F.plainAttrs_list PySem.F.slot_list_append PySem.F.type_list_append mt_append (pv 1) (pa_cons (pv 2) pa_nil))) (pss_one (ps_set (i := 2) nd rfl (Or.inl rfl) pe_str)))
        (pss_one (ps_set (i := 2) nd rfl (Or.inl rfl) (pe_op op_add_str (pv 2) (pv 3)))))))
    (pss_one (ps_ret (pe_callTy call_tuple_of (by rfl) (T.free 12) (by decide +kernel) (pa_cons (pe_op op_cat (pv 1) (pe_lst (pa_cons (pv 2) pa_nil))) pa_nil)))))), ?_⟩
  refine ⟨by decide, fun p hp => ⟨_, _, rfl, ?_⟩⟩
  refine q_forS (l := l) (ev_var rfl) (fun i σ' H' => ∃ (fs : List (List Nat)) (cur : List Nat) (sg : Option V), σ' = [some (.str (S l)), some (.ref p), some (.str (S cur)), sg] ∧ Ex H H' ∧ H' p = some (.lst (txl fs)) ∧ fs ++ lns (l.drop i) cur = lns l [] ∧ cur.length ≤ i)
    (fun H1 e1 => ⟨[], [], none, rfl, (Ex.new hp).trans e1, e1 _ _ upd_same, rfl, Nat.le_refl _⟩) ?_ ?_
  · rintro i c σ' H' hc ⟨fs, cur, sg, rfl, e, hpl, hw, hcur⟩
    have hi : i < l.length := (List.getElem?_eq_some_iff.mp hc).1
    obtain ⟨c', hc', hd⟩ := drop_some hi
    have ec : c' = c := by rw [hc] at hc'; exact (Option.some.inj hc').symm
    subst ec
    have hfs : fs.length ≤ 6000 := by
      have h1 := lns_len l []
      have h2 := congrArg List.length hw
      rw [List.length_append] at h2
      omega
    rw [hd] at hw
    have hw2 : fs ++ (if c' = 10 then cur :: lns (l.drop (i + 1)) [] else lns (l.drop (i + 1)) (cur ++ [c'])) = lns l [] := hw
    refine s_if (b := [c'] == [10]) (et_test (ev_op (x := .str (S [c'])) (y := .str (S [10])) (ev_var rfl) ev_c rv_eqS)) (fun h2 H1 e1 => ?_) (fun h2 H1 e1 => ?_)
    · have h3 : c' = 10 := by simpa using h2
      rw [if_pos h3] at hw2
      refine q_app (v := .str (S cur)) (e1 _ _ hpl) (ev_var rfl) (ev_var rfl) (by rw [txl_len]; omega) fun H2 e2 => ?_
      refine s_asg (v := .str (S [])) ev_c fun H3 e3 => ⟨fs ++ [cur], [], _, rfl, (Ex.mut ((e.trans e1).trans e2) hp).trans e3, e3 _ _ (by rw [upd_same, txl_app fs]; rfl), ?_, by simp⟩
      rw [← hw2, List.append_assoc]
      rfl
    · have h3 : ¬ c' = 10 := by simpa using h2
      rw [if_neg h3] at hw2
      exact s_asg (v := .str (S (cur ++ [c']))) (ev_op (ev_var rfl) (ev_var rfl) (rv_addS (by simp; omega))) fun H3 e3 => ⟨fs, cur ++ [c'], _, rfl, (e.trans e1).trans e3, e3 _ _ (e1 _ _ hpl), hw2, by simp; omega⟩
  · rintro σ' H' ⟨fs, cur, sg, rfl, e, hpl, hw, hcur⟩
    rw [List.drop_length] at hw
    have hfs : fs.length ≤ 6000 := by
      have h1 := lns_len l []
      have h2 := congrArg List.length hw
      rw [List.length_append] at h2
      omega
    refine s_retU (eu_tuple (el_cat (ev_var rfl) hpl (el_lst (ea_cons (ev_var rfl) ea_nil) (by show 1 ≤ 100000; decide)) (by rw [txl_len]; simp; omega))) fun r H2 hr e2 h2 => q r H2 (fresh_back e hr) (e.trans e2) ?_
    rw [h2, ← hw, txl_app]
    rfl
end KF
set_option Elab.async false
set_option linter.all false
set_option maxRecDepth 100000
set_option maxHeartbeats 4000000
/-! EA: what the head says of the error classes. -/
namespace KF
open PySem PySem.Spec PyProof.Rows L2 TEX He Evl
open SX (S S_tl S_len S_cat S_inj)
variable {P : Program} {w : World} {K : PySem.W.Frag} {mg : Str → Option Value} {base : Heap}
/-- a class whose errors can be made -/
structure MkE (P : Program) (w : World) (K : PySem.W.Frag) (mg : Str → Option Value) (x : Str) (ps : List Str) (Fs : List V → List (Str × V)) : Prop where
  ex : ∃ (fI : Addr) (fd : FuncData), CMk P w K (ga K x) fI fd ps Fs ∧ BindE K fd ps [] ps.length ∧ BindE K fd ps ps 0
  glo : mg x = some (.ref (ga K x))
  er : ErrX K x
theorem Env.p2a (T : Env P w K mg base) : PySem.W.keepIn K (.ref (ini K "TestError")) = true := (ba T.p2).1
theorem Env.p2b (T : Env P w K mg base) : PySem.W.typeIn K (.ref (ini K "TestError")) = some (.type "function") := of_decide_eq_true (ba (ba T.p2).2).1
theorem Env.p2c (T : Env P w K mg base) : PySem.W.typeIn K (.ref (ga K "TestError")) = some (.type "type") := of_decide_eq_true (ba (ba (ba T.p2).2).2).1
theorem Env.p2d (T : Env P w K mg base) : PySem.W.findIn K (.ref (ga K "TestError")) "__init__" = some (some (.ref (ini K "TestError"))) := eqO_ok (ba (ba (ba (ba T.p2).2).2).2).1
theorem Env.gloTE (T : Env P w K mg base) : mg "TestError" = some (.ref (ga K "TestError")) := glo_ok T.X T.G (ba (ba (ba (ba (ba T.p2).2).2).2).2).1
theorem Env.er (T : Env P w K mg base) {x : Str} (h : x ∈ KH.errN) : ErrX K x := by
  have q := List.all_eq_true.mp (ba (ba (ba (ba (ba (ba T.p2).2).2).2).2).2).1 x h
  obtain ⟨q1, q2⟩ := ba q
  obtain ⟨q3, q4⟩ := ba q2
  exact errX T.clsD (clsB_ok q1) (by simpa using q3) q4
theorem Env.ini (T : Env P w K mg base) {x : Str} (h : x ∈ KH.teN) : (ini K x == ini K "TestError") = true := List.all_eq_true.mp (ba (ba (ba (ba (ba (ba T.p2).2).2).2).2).2).2 x h
theorem Env.sup (T : Env P w K mg base) : PySem.W.nsIn K mainGlobals "super" = some none := by
  have h := List.all_eq_true.mp (ba T.p1).1 "super" (by decide)
  exact eqO_ok h
theorem top_sup : (KH.R.prog.main.scope.names.lookup ("super" : Str)).isSome = false := by kernel_rfl
theorem Env.glE (T : Env P w K mg base) {x : Str} (h : x ∈ KH.errN) : mg x = some (.ref (ga K x)) := glo_ok T.X T.G (by
  have q := (T.er h).glo
  show eqO (PySem.W.nsIn K mainGlobals x) (some (some (.ref (ga K x)))) = true
  rw [q]
  exact decide_eq_true rfl)
theorem Env.txt (T : Env P w K mg base) (i : Nat) {p : Str × Nat} (h : KH.tx[i]? = some p := by rfl) : fnT K (TEX.ini K p.1) = KH.txOf p.1 p.2 := by
  have e2 : (KH.tx.map (fun p => fnT K (TEX.ini K p.1)))[i]? = (KH.tx.map fun p => KH.txOf p.1 p.2)[i]? := by rw [T.tx]
  rw [List.getElem?_map, List.getElem?_map, h] at e2
  exact Option.some.inj e2
theorem Env.teb (T : Env P w K mg base) : ∃ fdT, TeB P K (ga K "TestError") (TEX.ini K "TestError") fdT ∧ BindE K fdT ["given"] [] 1 ∧ BindE K fdT ["given"] ["given"] 0 := by
  have e := T.prog
  subst e
  obtain ⟨cd, hc, _⟩ := T.clsD.cl
  exact te_of (ba T.p3).1 (ba (ba T.p3).2).1 ((T.txt 0 (p := ("TestError", 1))).trans rfl) rfl hc T.sup T.opq top_sup T.p2a T.p2b
theorem Env.mkTe (T : Env P w K mg base) {x : Str} (h : x ∈ KH.teN) : MkE P w K mg x ["given"] fsTe := by
  have hx : x ∈ KH.errN := List.mem_append_left _ h
  obtain ⟨fdT, TB, b1, b2⟩ := T.teb
  exact ⟨⟨_, fdT, te_cmk (T.er hx) TB (T.ini h), b1, b2⟩, T.glE hx, T.er hx⟩
theorem Env.rf3 (T : Env P w K mg base) {p : Str × Str} (h : p ∈ KH.rfN) : supB P K p.1 = true ∧ nodB K p.1 = true ∧ eqO (PySem.W.findIn K (.ref (ga K p.1)) p.2) (some none) = true := by
  have e := T.prog
  subst e
  have q := List.all_eq_true.mp (ba (ba (ba T.p3).2).2).1 p h
  obtain ⟨q1, q2⟩ := ba q
  obtain ⟨q3, q4⟩ := ba q2
  exact ⟨q1, q3, q4⟩
theorem Env.r03 (T : Env P w K mg base) {x : Str} (h : x ∈ KH.r0N) : supB P K x = true ∧ nodB K x = true := by
  have e := T.prog
  subst e
  exact ba (List.all_eq_true.mp (ba (ba (ba T.p3).2).2).2 x h)
theorem Env.mkApart (T : Env P w K mg base) : MkE P w K mg "Apart" ["place"] (fsRf "place") := by
  have hx : ("Apart" : Str) ∈ KH.errN := by decide
  obtain ⟨s1, s2, s3⟩ := T.rf3 (p := ("Apart", "place")) (by decide)
  obtain ⟨fdT, TB, _, _⟩ := T.teb
  have e := T.prog
  subst e
  obtain ⟨fd, c, b1, b2⟩ := rf_of (w := w) (T.er hx) TB T.p2d s1 ((T.txt 1 (p := ("Apart", 54))).trans rfl) rfl fx_place s3 s2 (fun _ _ _ _ _ _ _ _ _ => rfl) (fun _ _ _ _ _ _ _ _ _ => rfl) T.sup T.opq top_sup
  exact ⟨⟨_, fd, c, b1, b2⟩, T.glE hx, T.er hx⟩
theorem Env.mkCircle (T : Env P w K mg base) : MkE P w K mg "Circle" ["name"] (fsRf "name") := by
  have hx : ("Circle" : Str) ∈ KH.errN := by decide
  obtain ⟨s1, s2, s3⟩ := T.rf3 (p := ("Circle", "name")) (by decide)
  obtain ⟨fdT, TB, _, _⟩ := T.teb
  have e := T.prog
  subst e
  obtain ⟨fd, c, b1, b2⟩ := rf_of (w := w) (T.er hx) TB T.p2d s1 ((T.txt 2 (p := ("Circle", 55))).trans rfl) rfl fx_name s3 s2 (fun _ _ _ _ _ _ _ _ _ => rfl) (fun _ _ _ _ _ _ _ _ _ => rfl) T.sup T.opq top_sup
  exact ⟨⟨_, fd, c, b1, b2⟩, T.glE hx, T.er hx⟩
theorem Env.mkEqual (T : Env P w K mg base) : MkE P w K mg "Equal" ["form"] (fsRf "form") := by
  have hx : ("Equal" : Str) ∈ KH.errN := by decide
  obtain ⟨s1, s2, s3⟩ := T.rf3 (p := ("Equal", "form")) (by decide)
  obtain ⟨fdT, TB, _, _⟩ := T.teb
  have e := T.prog
  subst e
  obtain ⟨fd, c, b1, b2⟩ := rf_of (w := w) (T.er hx) TB T.p2d s1 ((T.txt 3 (p := ("Equal", 56))).trans rfl) rfl fx_form s3 s2 (fun _ _ _ _ _ _ _ _ _ => rfl) (fun _ _ _ _ _ _ _ _ _ => rfl) T.sup T.opq top_sup
  exact ⟨⟨_, fd, c, b1, b2⟩, T.glE hx, T.er hx⟩
theorem Env.mkInUse (T : Env P w K mg base) : MkE P w K mg "InUse" ["user"] (fsRf "user") := by
  have hx : ("InUse" : Str) ∈ KH.errN := by decide
  obtain ⟨s1, s2, s3⟩ := T.rf3 (p := ("InUse", "user")) (by decide)
  obtain ⟨fdT, TB, _, _⟩ := T.teb
  have e := T.prog
  subst e
  obtain ⟨fd, c, b1, b2⟩ := rf_of (w := w) (T.er hx) TB T.p2d s1 ((T.txt 4 (p := ("InUse", 57))).trans rfl) rfl fx_user s3 s2 (fun _ _ _ _ _ _ _ _ _ => rfl) (fun _ _ _ _ _ _ _ _ _ => rfl) T.sup T.opq top_sup
  exact ⟨⟨_, fd, c, b1, b2⟩, T.glE hx, T.er hx⟩
theorem Env.mkLoop (T : Env P w K mg base) : MkE P w K mg "Loop" ["used"] (fsRf "used") := by
  have hx : ("Loop" : Str) ∈ KH.errN := by decide
  obtain ⟨s1, s2, s3⟩ := T.rf3 (p := ("Loop", "used")) (by decide)
  obtain ⟨fdT, TB, _, _⟩ := T.teb
  have e := T.prog
  subst e
  obtain ⟨fd, c, b1, b2⟩ := rf_of (w := w) (T.er hx) TB T.p2d s1 ((T.txt 5 (p := ("Loop", 58))).trans rfl) rfl fx_used s3 s2 (fun _ _ _ _ _ _ _ _ _ => rfl) (fun _ _ _ _ _ _ _ _ _ => rfl) T.sup T.opq top_sup
  exact ⟨⟨_, fd, c, b1, b2⟩, T.glE hx, T.er hx⟩
theorem Env.mkNotFew (T : Env P w K mg base) : MkE P w K mg "NotFew" ["count"] (fsRf "count") := by
  have hx : ("NotFew" : Str) ∈ KH.errN := by decide
  obtain ⟨s1, s2, s3⟩ := T.rf3 (p := ("NotFew", "count")) (by decide)
  obtain ⟨fdT, TB, _, _⟩ := T.teb
  have e := T.prog
  subst e
  obtain ⟨fd, c, b1, b2⟩ := rf_of (w := w) (T.er hx) TB T.p2d s1 ((T.txt 6 (p := ("NotFew", 59))).trans rfl) rfl fx_count s3 s2 (fun _ _ _ _ _ _ _ _ _ => rfl) (fun _ _ _ _ _ _ _ _ _ => rfl) T.sup T.opq top_sup
  exact ⟨⟨_, fd, c, b1, b2⟩, T.glE hx, T.er hx⟩
theorem Env.mkTaken (T : Env P w K mg base) : MkE P w K mg "Taken" ["name"] (fsRf "name") := by
  have hx : ("Taken" : Str) ∈ KH.errN := by decide
  obtain ⟨s1, s2, s3⟩ := T.rf3 (p := ("Taken", "name")) (by decide)
  obtain ⟨fdT, TB, _, _⟩ := T.teb
  have e := T.prog
  subst e
  obtain ⟨fd, c, b1, b2⟩ := rf_of (w := w) (T.er hx) TB T.p2d s1 ((T.txt 7 (p := ("Taken", 63))).trans rfl) rfl fx_name s3 s2 (fun _ _ _ _ _ _ _ _ _ => rfl) (fun _ _ _ _ _ _ _ _ _ => rfl) T.sup T.opq top_sup
  exact ⟨⟨_, fd, c, b1, b2⟩, T.glE hx, T.er hx⟩
theorem Env.mkTooFew (T : Env P w K mg base) : MkE P w K mg "TooFew" ["count"] (fsRf "count") := by
  have hx : ("TooFew" : Str) ∈ KH.errN := by decide
  obtain ⟨s1, s2, s3⟩ := T.rf3 (p := ("TooFew", "count")) (by decide)
  obtain ⟨fdT, TB, _, _⟩ := T.teb
  have e := T.prog
  subst e
  obtain ⟨fd, c, b1, b2⟩ := rf_of (w := w) (T.er hx) TB T.p2d s1 ((T.txt 8 (p := ("TooFew", 64))).trans rfl) rfl fx_count s3 s2 (fun _ _ _ _ _ _ _ _ _ => rfl) (fun _ _ _ _ _ _ _ _ _ => rfl) T.sup T.opq top_sup
  exact ⟨⟨_, fd, c, b1, b2⟩, T.glE hx, T.er hx⟩
theorem Env.mkTooMany (T : Env P w K mg base) : MkE P w K mg "TooMany" ["count"] (fsRf "count") := by
  have hx : ("TooMany" : Str) ∈ KH.errN := by decide
  obtain ⟨s1, s2, s3⟩ := T.rf3 (p := ("TooMany", "count")) (by decide)
  obtain ⟨fdT, TB, _, _⟩ := T.teb
  have e := T.prog
  subst e
  obtain ⟨fd, c, b1, b2⟩ := rf_of (w := w) (T.er hx) TB T.p2d s1 ((T.txt 9 (p := ("TooMany", 65))).trans rfl) rfl fx_count s3 s2 (fun _ _ _ _ _ _ _ _ _ => rfl) (fun _ _ _ _ _ _ _ _ _ => rfl) T.sup T.opq top_sup
  exact ⟨⟨_, fd, c, b1, b2⟩, T.glE hx, T.er hx⟩
theorem Env.mkTwice (T : Env P w K mg base) : MkE P w K mg "Twice" ["name"] (fsRf "name") := by
  have hx : ("Twice" : Str) ∈ KH.errN := by decide
  obtain ⟨s1, s2, s3⟩ := T.rf3 (p := ("Twice", "name")) (by decide)
  obtain ⟨fdT, TB, _, _⟩ := T.teb
  have e := T.prog
  subst e
  obtain ⟨fd, c, b1, b2⟩ := rf_of (w := w) (T.er hx) TB T.p2d s1 ((T.txt 10 (p := ("Twice", 66))).trans rfl) rfl fx_name s3 s2 (fun _ _ _ _ _ _ _ _ _ => rfl) (fun _ _ _ _ _ _ _ _ _ => rfl) T.sup T.opq top_sup
  exact ⟨⟨_, fd, c, b1, b2⟩, T.glE hx, T.er hx⟩
theorem Env.mkUnknownName (T : Env P w K mg base) : MkE P w K mg "UnknownName" ["name"] (fsRf "name") := by
  have hx : ("UnknownName" : Str) ∈ KH.errN := by decide
  obtain ⟨s1, s2, s3⟩ := T.rf3 (p := ("UnknownName", "name")) (by decide)
  obtain ⟨fdT, TB, _, _⟩ := T.teb
  have e := T.prog
  subst e
  obtain ⟨fd, c, b1, b2⟩ := rf_of (w := w) (T.er hx) TB T.p2d s1 ((T.txt 11 (p := ("UnknownName", 67))).trans rfl) rfl fx_name s3 s2 (fun _ _ _ _ _ _ _ _ _ => rfl) (fun _ _ _ _ _ _ _ _ _ => rfl) T.sup T.opq top_sup
  exact ⟨⟨_, fd, c, b1, b2⟩, T.glE hx, T.er hx⟩
theorem Env.mkUnlike (T : Env P w K mg base) : MkE P w K mg "Unlike" ["form"] (fsRf "form") := by
  have hx : ("Unlike" : Str) ∈ KH.errN := by decide
  obtain ⟨s1, s2, s3⟩ := T.rf3 (p := ("Unlike", "form")) (by decide)
  obtain ⟨fdT, TB, _, _⟩ := T.teb
  have e := T.prog
  subst e
  obtain ⟨fd, c, b1, b2⟩ := rf_of (w := w) (T.er hx) TB T.p2d s1 ((T.txt 12 (p := ("Unlike", 68))).trans rfl) rfl fx_form s3 s2 (fun _ _ _ _ _ _ _ _ _ => rfl) (fun _ _ _ _ _ _ _ _ _ => rfl) T.sup T.opq top_sup
  exact ⟨⟨_, fd, c, b1, b2⟩, T.glE hx, T.er hx⟩
theorem Env.mkWrongStep (T : Env P w K mg base) : MkE P w K mg "WrongStep" ["index"] (fsRf "index") := by
  have hx : ("WrongStep" : Str) ∈ KH.errN := by decide
  obtain ⟨s1, s2, s3⟩ := T.rf3 (p := ("WrongStep", "index")) (by decide)
  obtain ⟨fdT, TB, _, _⟩ := T.teb
  have e := T.prog
  subst e
  obtain ⟨fd, c, b1, b2⟩ := rf_of (w := w) (T.er hx) TB T.p2d s1 ((T.txt 13 (p := ("WrongStep", 69))).trans rfl) rfl fx_index s3 s2 (fun _ _ _ _ _ _ _ _ _ => rfl) (fun _ _ _ _ _ _ _ _ _ => rfl) T.sup T.opq top_sup
  exact ⟨⟨_, fd, c, b1, b2⟩, T.glE hx, T.er hx⟩
theorem Env.mkWrongType (T : Env P w K mg base) : MkE P w K mg "WrongType" ["name"] (fsRf "name") := by
  have hx : ("WrongType" : Str) ∈ KH.errN := by decide
  obtain ⟨s1, s2, s3⟩ := T.rf3 (p := ("WrongType", "name")) (by decide)
  obtain ⟨fdT, TB, _, _⟩ := T.teb
  have e := T.prog
  subst e
  obtain ⟨fd, c, b1, b2⟩ := rf_of (w := w) (T.er hx) TB T.p2d s1 ((T.txt 14 (p := ("WrongType", 70))).trans rfl) rfl fx_name s3 s2 (fun _ _ _ _ _ _ _ _ _ => rfl) (fun _ _ _ _ _ _ _ _ _ => rfl) T.sup T.opq top_sup
  exact ⟨⟨_, fd, c, b1, b2⟩, T.glE hx, T.er hx⟩
theorem Env.mkNothingToRedo (T : Env P w K mg base) : MkE P w K mg "NothingToRedo" [] fsR0 := by
  have hx : ("NothingToRedo" : Str) ∈ KH.errN := by decide
  obtain ⟨s1, s2⟩ := T.r03 (x := "NothingToRedo") (by decide)
  obtain ⟨fdT, TB, _, _⟩ := T.teb
  have e := T.prog
  subst e
  obtain ⟨fd, c, b1⟩ := r0_of (w := w) (T.er hx) TB T.p2d s1 ((T.txt 15 (p := ("NothingToRedo", 60))).trans rfl) rfl s2 T.sup T.opq top_sup
  exact ⟨⟨_, fd, c, b1, b1⟩, T.glE hx, T.er hx⟩
theorem Env.mkNothingToUndo (T : Env P w K mg base) : MkE P w K mg "NothingToUndo" [] fsR0 := by
  have hx : ("NothingToUndo" : Str) ∈ KH.errN := by decide
  obtain ⟨s1, s2⟩ := T.r03 (x := "NothingToUndo") (by decide)
  obtain ⟨fdT, TB, _, _⟩ := T.teb
  have e := T.prog
  subst e
  obtain ⟨fd, c, b1⟩ := r0_of (w := w) (T.er hx) TB T.p2d s1 ((T.txt 16 (p := ("NothingToUndo", 61))).trans rfl) rfl s2 T.sup T.opq top_sup
  exact ⟨⟨_, fd, c, b1, b1⟩, T.glE hx, T.er hx⟩
theorem Env.mkStopped (T : Env P w K mg base) : MkE P w K mg "Stopped" [] fsR0 := by
  have hx : ("Stopped" : Str) ∈ KH.errN := by decide
  obtain ⟨s1, s2⟩ := T.r03 (x := "Stopped") (by decide)
  obtain ⟨fdT, TB, _, _⟩ := T.teb
  have e := T.prog
  subst e
  obtain ⟨fd, c, b1⟩ := r0_of (w := w) (T.er hx) TB T.p2d s1 ((T.txt 17 (p := ("Stopped", 62))).trans rfl) rfl s2 T.sup T.opq top_sup
  exact ⟨⟨_, fd, c, b1, b1⟩, T.glE hx, T.er hx⟩
/-! ### the classes differ -/
theorem nodup_ne {i j : Nat} : ∀ {l : List Nat} {a b : Nat}, KH.nodupB l = true → l[i]? = some a → l[j]? = some b → i ≠ j → a ≠ b := by
  intro l
  induction l generalizing i j with
  | nil => intro a b _ h; cases h
  | cons c r ih =>
    intro a b hn h1 h2 hij
    have hn2 : (!r.contains c && KH.nodupB r) = true := hn
    rw [Bool.and_eq_true] at hn2
    have hc : c ∉ r := by
      have := hn2.1
      simpa using this
    cases i with
    | zero =>
      cases j with
      | zero => exact absurd rfl hij
      | succ j =>
        have e : c = a := by simpa using h1
        subst e
        have h3 : r[j]? = some b := by simpa using h2
        exact fun z => hc (z ▸ List.mem_of_getElem? h3)
    | succ i =>
      have h3 : r[i]? = some a := by simpa using h1
      cases j with
      | zero =>
        have e : c = b := by simpa using h2
        subst e
        exact fun z => hc (z ▸ List.mem_of_getElem? h3)
      | succ j => exact ih hn2.2 h3 (by simpa using h2) (by omega)
theorem Env.ne (T : Env P w K mg base) {x y : Str} (i j : Nat) (hx : KH.errN[i]? = some x := by rfl) (hy : KH.errN[j]? = some y := by rfl) (hij : i ≠ j := by decide) : ga K x ≠ ga K y := by
  have h1 : (ga K "TestError" :: KH.errN.map (ga K))[i + 1]? = some (ga K x) := by
    show (KH.errN.map (ga K))[i]? = _
    rw [List.getElem?_map, hx]; rfl
  have h2 : (ga K "TestError" :: KH.errN.map (ga K))[j + 1]? = some (ga K y) := by
    show (KH.errN.map (ga K))[j]? = _
    rw [List.getElem?_map, hy]; rfl
  exact nodup_ne T.nodup h1 h2 (by omega)
theorem Env.neT (T : Env P w K mg base) {x : Str} (i : Nat) (hx : KH.errN[i]? = some x := by rfl) : ga K x ≠ ga K "TestError" := by
  have h1 : (ga K "TestError" :: KH.errN.map (ga K))[i + 1]? = some (ga K x) := by
    show (KH.errN.map (ga K))[i]? = _
    rw [List.getElem?_map, hx]; rfl
  exact nodup_ne T.nodup h1 (show (ga K "TestError" :: KH.errN.map (ga K))[0]? = some (ga K "TestError") from rfl) (by omega)
theorem errX_sub2 {x y : Str} (hx : ErrX K x) (hne : ga K y ≠ ga K "TestError") : PySem.W.subIn K (.ref (ga K x)) (.ref (ga K y)) = some (ga K x == ga K y) := by
  show PySem.W.mroIn K (ga K x) (.ref (ga K y)) = _
  rw [hx.C.mro]
  congr 1
  rw [List.contains_cons, List.contains_cons]
  have e3 : (PySem.HandSPX.veTail.contains (Value.ref (ga K y))) = false := rfl
  have e4 : (Value.ref (ga K y) == Value.ref (ga K "TestError")) = false := by simpa using hne
  rw [e3, e4, Bool.or_false, Bool.or_false]
  by_cases e : ga K x = ga K y
  · rw [e]; simp
  · have e1 : (ga K x == ga K y) = false := by simpa using e
    have e2 : (Value.ref (ga K y) == Value.ref (ga K x)) = false := by simpa using fun z => e (Eq.symm z)
    rw [e1, e2]
/-- except y: an error of the class x -/
theorem errX_exm {x y : Str} (hx : ErrX K x) (hy : ErrX K y) (hne : ga K y ≠ ga K "TestError") : PySem.W.exmOne K (.ref (ga K x)) (.ref (ga K y)) = some (ga K x == ga K y) := PySem.W.exm_ref hy.ec.hs hy.ec.hd hy.tC (errX_sub2 hx hne)
end KF
set_option Elab.async false
set_option linter.all false
set_option maxRecDepth 100000
set_option maxHeartbeats 4000000
/-! EB: check_text, words_of, lines_of, name_at, number_of. -/
namespace KF
open PySem PySem.Spec PyProof.Rows L2 TEX He Evl
open SX (S S_tl S_len S_cat S_inj)
variable {P : Program} {w : World} {K : PySem.W.Frag} {mg : Str → Option Value} {base : Heap}
/-- raise C(v) -/
def RaiseTe (C : Addr) (v : V) (H : Hp) (E : XK) : Prop := ∀ d H', H d = none → Ex H H' → H' d = some (exd d [("given", v)]) → E (.ref C) (some d) H'
theorem s_raise {σ : L2.St} {H : Hp} {C : Addr} {v : V} {ta : TE} {E : XK} (h : Ev ta σ H v) (q : RaiseTe C v H E) : tMkR C ["given"].length fsTe (tCons ta tNil) σ H fun cls d H' => E cls d H' :=
  h H (Ex.refl H) _ fun H1 e1 => ⟨rfl, fun dx hd => q dx _ (fresh_back e1 hd) (e1.trans (Ex.new hd)) upd_same⟩
section
variable {X : Cx} {x : Str} {p pos : Pos} {e : Expr} {es : List Expr} {kws : List Keyword} {t : TA} {k : Nat} {ps : List Str} {Fs : List V → List (Str × V)}
theorem MkE.raise (M : MkE X.prog X.w X.K X.mg x ps Fs) (hr : Room k X.A) (hn2 : ps.length ≤ 1000) (ha : PA X (e :: es) t) (hg : Gl X x := by rfl)
    (hdb : (x == ("__debug__" : Str)) = false := by decide) (he : starEach (e :: es) X.env = (false, eval e X.env) :: starEach es X.env := by rfl) (hpl : (backTo pos (starEach es X.env)).any (·.1) = false := by rfl) :
    PMk X (.Call (.Name x p) (e :: es) [] pos) (tMkR (ga X.K x) ps.length Fs t) := by
  obtain ⟨fI, fd, c, b1, b2⟩ := M.ex
  exact pmk_mk c hr hg M.glo b1 rfl hn2 ha hdb he hpl
end
def spCheck (K : PySem.W.Frag) : Sp := fun vs H Q E => ∃ v n, vs = [v] ∧ Kd H v n ∧ (textV v n = true → RetV .non H Q) ∧ (textV v n = false → RaiseTe (ga K "InvalidText") v H E)
theorem sc8 : FnScope ["text"] ["text"] (defScope (KH.top 48)) := ⟨rfl, rfl, rfl, by decide +kernel, rfl, by decide +kernel, by decide +kernel⟩
theorem text_V {H : Hp} {v : V} {n : String} (k : Kd H v n) : SpV spText ([v] ++ []) H (.bl (textV v n)) := SpV.of fun H1 Q E e q => ⟨v, n, rfl, k.mono e, q⟩
theorem c_check (T : Env P w K mg base) : Callee P w K mg base (CX P w) 2 "check_text" ["text"] (spCheck K) := by
  obtain ⟨fd, F⟩ := T.fn 8 (d := KH.dd "check_text" 48)
  have M := T.mkTe (x := "InvalidText") (by decide)
  refine callee (st := KH.top 48) F (T.glo 8 (d := KH.dd "check_text" 48)) sc8 (fun _ _ _ _ _ _ us hl => match us, hl with | [_], _ => rfl) (fun _ _ _ _ _ _ us hl => match us, hl with | [_], _ => rfl) (fun vs H Q E h => by obtain ⟨v, n, rfl, _⟩ := h; rfl) ?_
  intro cdv A outer s H vs Q E hr h
  obtain ⟨v, n, rfl, k, q1, q2⟩ := h
  refine ⟨_, pss_one (ps_if (pt_not (pt_val (pe_n (c_isText T) hr (pa_cons (pv 0) pa_nil)))) (pss_one (ps_raise rfl (takes_of rfl rfl rfl rfl) (MkE.raise M hr (by decide) (pa_cons (pv 0) pa_nil)))) pss_nil), ?_⟩
  refine s_when (et_not (et_B (ev_call (ea_cons (ev_var rfl) ea_nil) (text_V k)))) (fun hb H1 e1 => ?_) (fun hb H1 e1 => ?_)
  · have hb2 : textV v n = false := by simpa using hb
    exact s_raise (ev_var rfl) fun d H' hd e2 h => q2 hb2 d H' (fresh_back e1 hd) (e1.trans e2) h
  · have hb2 : textV v n = true := by simpa using hb
    exact q1 hb2 _ e1
theorem RaiseTe.mono {C : Addr} {v : V} {H H1 : Hp} {E : XK} (q : RaiseTe C v H E) (e : Ex H H1) : RaiseTe C v H1 E := fun d H' hd e2 h => q d H' (fresh_back e hd) (e.trans e2) h
/-- a call of a raising def that comes back with None -/
theorem s_call {σ : L2.St} {H : Hp} {ta : TA} {sp : Sp} {E : XK} {vs : List V} {D : Ends} (h : EvA ta σ H vs) (k : ∀ H1, Ex H H1 → sp (vs ++ []) H1 (fun _ H2 => D.nx σ H2) E) : tDrop (tCall sp [] E ta) D σ H :=
  h H (Ex.refl H) _ fun H1 e1 => k H1 e1
def spWordsOf (K : PySem.W.Frag) : Sp := fun vs H Q E => ∃ v n, vs = [v] ∧ Kd H v n ∧ (textV v n = true → RetU (txl (wds (strL v))) H Q) ∧ (textV v n = false → RaiseTe (ga K "InvalidText") v H E)
theorem sc11 : FnScope ["text"] ["text"] (defScope (KH.top 51)) := ⟨rfl, rfl, rfl, by decide +kernel, rfl, by decide +kernel, by decide +kernel⟩
theorem textV_len {v : V} {n : String} (h : textV v n = true) : (n == "str") = true ∧ (strL v).length ≤ 4000 := by
  unfold textV textLb at h
  simp only [Bool.and_eq_true, decide_eq_true_eq] at h
  exact ⟨h.1, h.2.1⟩
theorem c_wordsOf (T : Env P w K mg base) : Callee P w K mg base (CX P w) 3 "words_of" ["text"] (spWordsOf K) := by
  obtain ⟨fd, F⟩ := T.fn 11 (d := KH.dd "words_of" 51)
  refine callee (st := KH.top 51) F (T.glo 11 (d := KH.dd "words_of" 51)) sc11 (fun _ _ _ _ _ _ us hl => match us, hl with | [_], _ => rfl) (fun _ _ _ _ _ _ us hl => match us, hl with | [_], _ => rfl) (fun vs H Q E h => by obtain ⟨v, n, rfl, _⟩ := h; rfl) ?_
  intro cdv A outer s H vs Q E hr h
  obtain ⟨v, n, rfl, k, q1, q2⟩ := h
  refine ⟨_, pss_cons (ps_expr (pe_c (c_check T) hr (passes_call (takes_of rfl rfl rfl rfl) fun _ _ _ _ h => h) (pa_cons (pv 0) pa_nil)))
    (pss_one (ps_ret (pe_callTy call_tuple_of (by rfl) (T.free 12) (by decide +kernel) (pa_cons (pe_n (c_wordsIn T) hr (pa_cons (pv 0) pa_nil)) pa_nil)))), ?_⟩
  refine s_call (ea_cons (ev_var rfl) ea_nil) fun H1 e1 => ⟨v, n, rfl, k.mono e1, fun ht H2 e2 => ?_, fun ht => (q2 ht).mono e1⟩
  obtain ⟨h1, h2⟩ := textV_len ht
  obtain ⟨z1, z2, z3⟩ := k.isStr h1
  have vz : (start ["text"] [v])[0]? = some (some (.str (S (strL v)))) := by rw [← z1]; rfl
  refine s_retU (xs := txl (wds (strL v))) (eu_tuple (el_call (ea_cons (ev_var vz) ea_nil) fun H3 e3 Q3 q3 E3 => ⟨strL v, rfl, by omega, fun p H4 hp e4 h4 => q3 p H4 hp e4 h4⟩)) fun p H3 hp e3 h3 => q1 ht p H3 (fresh_back (e1.trans e2) hp) ((e1.trans e2).trans e3) h3
def spLinesOf (K : PySem.W.Frag) : Sp := fun vs H Q E => ∃ v n, vs = [v] ∧ Kd H v n ∧ (textV v n = true → RetU (txl (lns (strL v) [])) H Q) ∧ (textV v n = false → RaiseTe (ga K "InvalidText") v H E)
theorem sc12 : FnScope ["text"] ["text"] (defScope (KH.top 52)) := ⟨rfl, rfl, rfl, by decide +kernel, rfl, by decide +kernel, by decide +kernel⟩
theorem el_split {σ : L2.St} {H : Hp} {ta tb : TE} {l : List Nat} (h1 : Ev ta σ H (.str (S l))) (h2 : Ev tb σ H (.str (S [10]))) (hl : l.length ≤ 5000) :
    EvL (tM1 (fun x xs H Q => ∃ a b, x = .str a ∧ xs = [.str b] ∧ (b.length == 0) = false ∧ a.length + 2 ≤ sizeLine ∧ rNewStrs (Txt.split a b) H Q) ta tb) σ H (txl (lns l [])) := fun H1 e Q q =>
  h1 H1 e _ fun H2 e2 => ⟨⟨_, rfl⟩, h2 H2 (e.trans e2) _ fun H3 e3 => ⟨S l, S [10], rfl, rfl, rfl, by rw [S_len]; exact sz_of (by omega), fun p hp => by
    rw [split_lns]
    refine q p _ (fresh_back (e2.trans e3) hp) ((e2.trans e3).trans (Ex.new hp)) ?_
    rw [upd_same, List.map_map]
    rfl⟩⟩
theorem c_linesOf (T : Env P w K mg base) : Callee P w K mg base (CX P w) 3 "lines_of" ["text"] (spLinesOf K) := by
  obtain ⟨fd, F⟩ := T.fn 12 (d := KH.dd "lines_of" 52)
  refine callee (st := KH.top 52) F (T.glo 12 (d := KH.dd "lines_of" 52)) sc12 (fun _ _ _ _ _ _ us hl => match us, hl with | [_], _ => rfl) (fun _ _ _ _ _ _ us hl => match us, hl with | [_], _ => rfl) (fun vs H Q E h => by obtain ⟨v, n, rfl, _⟩ := h; rfl) ?_
  intro cdv A outer s H vs Q E hr h
  obtain ⟨v, n, rfl, k, q1, q2⟩ := h
  obtain ⟨t1, g1⟩ := T.feed
  refine ⟨_, pss_cons (ps_expr (pe_c (c_check T) hr (passes_call (takes_of rfl rfl rfl rfl) fun _ _ _ _ h => h) (pa_cons (pv 0) pa_nil)))
    (pss_one (ps_ret (pe_callTy call_tuple_of (by rfl) (T.free 12) (by decide +kernel) (pa_cons (pe_split (pv 0) (pe_glob (v := .str (S [10])) (by rfl) g1 ⟨_, rfl⟩)) pa_nil)))), ?_⟩
  refine s_call (ea_cons (ev_var rfl) ea_nil) fun H1 e1 => ⟨v, n, rfl, k.mono e1, fun ht H2 e2 => ?_, fun ht => (q2 ht).mono e1⟩
  obtain ⟨h1, h2⟩ := textV_len ht
  obtain ⟨z1, z2, z3⟩ := k.isStr h1
  have vz : (start ["text"] [v])[0]? = some (some (.str (S (strL v)))) := by rw [← z1]; rfl
  exact s_retU (xs := txl (lns (strL v) [])) (eu_tuple (el_split (ev_var vz) ev_c (by omega))) fun p H3 hp e3 h3 => q1 ht p H3 (fresh_back (e1.trans e2) hp) ((e1.trans e2).trans e3) h3
/-! ### name_at, number_of -/
def spNameAt (K : PySem.W.Frag) : Sp := fun vs H Q E => ∃ v n, vs = [v] ∧ Kd H v n ∧ (between v n 0 4000 = true → RetV (.str (S (goN ((intOf v).toNat + 1) []))) H Q) ∧ (between v n 0 4000 = false → RaiseTe (ga K "InvalidNumber") v H E)
theorem sc5 : FnScope ["number"] ["number"] (defScope (KH.top 45)) := ⟨rfl, rfl, rfl, by decide +kernel, rfl, by decide +kernel, by decide +kernel⟩
theorem c_nameAt (T : Env P w K mg base) : Callee P w K mg base (CX P w) 3 "name_at" ["number"] (spNameAt K) := by
  obtain ⟨fd, F⟩ := T.fn 5 (d := KH.dd "name_at" 45)
  have M := T.mkTe (x := "InvalidNumber") (by decide)
  obtain ⟨t1, g1⟩ := T.mostNumber
  refine callee (st := KH.top 45) F (T.glo 5 (d := KH.dd "name_at" 45)) sc5 (fun _ _ _ _ _ _ us hl => match us, hl with | [_], _ => rfl) (fun _ _ _ _ _ _ us hl => match us, hl with | [_], _ => rfl) (fun vs H Q E h => by obtain ⟨v, n, rfl, _⟩ := h; rfl) ?_
  intro cdv A outer s H vs Q E hr h
  obtain ⟨v, n, rfl, k, q1, q2⟩ := h
  refine ⟨_, pss_cons (ps_if (pt_not (pt_val (pe_n (c_between T) hr (pa_cons (pv 0) (pa_cons pe_int (pa_cons (pe_glob (v := .int 4000) (by rfl) g1 ⟨_, rfl⟩) pa_nil)))))) (pss_one (ps_raise rfl (takes_of rfl rfl rfl rfl) (MkE.raise M hr (by decide) (pa_cons (pv 0) pa_nil)))) pss_nil)
    (pss_one (ps_ret (pe_n (c_nameWith T) (hr.mono (by decide)) (pa_cons (pv 0) pa_nil)))), ?_⟩
  refine q_when (et_not (a := between v n 0 4000) (et_B (ev_call (ea_cons (ev_var rfl) (ea_cons ev_c (ea_cons ev_c ea_nil))) (SpV.of fun H1 Q E e q => ⟨v, n, 0, 4000, rfl, k.mono e, q⟩)))) (fun hb H1 e1 => ?_) (fun hb H1 e1 => ?_)
  · have hb2 : between v n 0 4000 = false := by simpa using hb
    exact s_raise (ev_var rfl) fun d H' hd e2 h => q2 hb2 d H' (fresh_back e1 hd) (e1.trans e2) h
  · have hb2 : between v n 0 4000 = true := by simpa using hb
    have h3 := hb2
    unfold between at h3
    simp only [Bool.and_eq_true, decide_eq_true_eq] at h3
    have ev := k.isInt h3.1
    have ez : intOf v = ((intOf v).toNat : Int) := by omega
    have vz : (start ["number"] [v])[0]? = some (some (.int ((intOf v).toNat : Int))) := by rw [← ez, ← ev]; rfl
    exact s_ret (v := .str (S (goN ((intOf v).toNat + 1) []))) (ev_call (ea_cons (ev_var vz) ea_nil) (SpV.of fun H1 Q E e q => ⟨(intOf v).toNat, rfl, by omega, q⟩)) fun H2 e2 => q1 hb2 _ (e1.trans e2)
def spNumberOf (K : PySem.W.Frag) : Sp := fun vs H Q E => ∃ v n, vs = [v] ∧ Kd H v n ∧ (nameV v n = true → RetV (.int ((numL (strL v) : Int) - 1)) H Q) ∧ (nameV v n = false → RaiseTe (ga K "InvalidName") v H E)
theorem name_V {H : Hp} {v : V} {n : String} (k : Kd H v n) : SpV spName ([v] ++ []) H (.bl (nameV v n)) := SpV.of fun H1 Q E e q => ⟨v, n, rfl, k.mono e, q⟩
theorem sc6 : FnScope ["name", "found", "sign"] ["name"] (defScope (KH.top 46)) := ⟨rfl, rfl, rfl, by decide +kernel, rfl, by decide +kernel, by decide +kernel⟩
theorem c_numberOf (T : Env P w K mg base) : Callee P w K mg base (CX P w) 3 "number_of" ["name"] (spNumberOf K) := by
  obtain ⟨fd, F⟩ := T.fn 6 (d := KH.dd "number_of" 46)
  have M := T.mkTe (x := "InvalidName") (by decide)
  obtain ⟨t2, g2⟩ := T.letters
  refine callee (st := KH.top 46) F (T.glo 6 (d := KH.dd "number_of" 46)) sc6 (fun _ _ _ _ _ _ us hl => match us, hl with | [_], _ => rfl) (fun _ _ _ _ _ _ us hl => match us, hl with | [_], _ => rfl) (fun vs H Q E h => by obtain ⟨v, n, rfl, _⟩ := h; rfl) ?_
  intro cdv A outer s H vs Q E hr h
  obtain ⟨v, n, rfl, k, q1, q2⟩ := h
  have nd := sc6.nd
  refine ⟨_, pss_cons (ps_if (pt_not (pt_val (pe_n (c_name T) hr (pa_cons (pv 0) pa_nil)))) (pss_one (ps_raise rfl (takes_of rfl rfl rfl rfl) (MkE.raise M hr (by decide) (pa_cons (pv 0) pa_nil)))) pss_nil)
    (PSs.nox (pss_cons (ps_set (i := 1) nd rfl (Or.inl rfl) pe_int) (pss_cons (ps_for PassesOwn.never rfl (pi_str (pv 0)) (pg_name (i := 2) nd rfl (Or.inl rfl))
      (pss_one (ps_set (i := 1) nd rfl (Or.inl rfl) (pe_op op_add (pe_op op_add (pe_op op_mul (pv 1) (pe_callB call_len_str (by rfl) (T.free 4) boot_len (pa_cons (pe_glob (v := .str "abcdefghijklmnopqrstuvwxyz") (by rfl) g2 ⟨_, rfl⟩) pa_nil))) (pe_bm PySem.F.plainAttrs_str PySem.F.slot_str_index PySem.F.type_str_index mt_sindex (pe_glob (v := .str "abcdefghijklmnopqrstuvwxyz") (by rfl) g2 ⟨_, rfl⟩) (pa_cons (pv 2) pa_nil))) pe_int))))
    (pss_one (ps_ret (pe_op op_sub (pv 1) pe_int)))))), ?_⟩
  refine q_when (et_not (et_B (ev_call (ea_cons (ev_var rfl) ea_nil) (name_V k)))) (fun hb H1 e1 => ?_) (fun hb H1 e1 => ?_)
  · have hb2 : nameV v n = false := by simpa using hb
    exact s_raise (ev_var rfl) fun d H' hd e2 h => q2 hb2 d H' (fresh_back e1 hd) (e1.trans e2) h
  · have hb2 : nameV v n = true := by simpa using hb
    have h3 := hb2
    unfold nameV nameLb wordL at h3
    simp only [Bool.and_eq_true] at h3
    obtain ⟨h4, ⟨_, h5⟩, _⟩ := h3
    obtain ⟨z1, z2, z3⟩ := k.isStr h4
    have vz : (start ["name", "found", "sign"] [v]).set 1 (some (.int 0)) = [some (.str (S (strL v))), some (.int 0), none] := by rw [← z1]; rfl
    refine q_asg ev_c fun H2 e2 => ?_
    rw [vz]
    refine q_forS (l := strL v) (ev_var rfl) (fun i σ' H' => Ex H H' ∧ ∃ kv, σ' = [some (.str (S (strL v))), some (.int (numL ((strL v).take i) : Int)), kv]) (fun H3 e3 => ⟨(e1.trans e2).trans e3, _, rfl⟩) ?_ ?_
    · rintro i c σ' H' hc ⟨e, kv, rfl⟩
      have hlt := all_get h5 hc
      have hL := numL_bound _ (show ((strL v).take i).all ltr = true from List.all_eq_true.mpr fun x hx => List.all_eq_true.mp h5 x (List.mem_of_mem_take hx))
      refine s_asg (v := .int (numL ((strL v).take (i + 1)) : Int)) (ev_is (ev_op (ev_op (ev_op (x := .int (numL ((strL v).take i) : Int)) (y := .int 26) (ev_var rfl) (ev_cb (ea_cons ev_c ea_nil) rc_lenL) (rv_I (show CMul _ _ from .inr ⟨by decide, by decide⟩))) (ev_bmS (z := "abcdefghijklmnopqrstuvwxyz") (v := .int ((c - 97 : Nat) : Int)) ev_c (ea_cons (ev_var rfl) ea_nil) fun H2 e2 Q q => ?_) rv_I0) ev_c rv_I0) ?_) fun H2 e2 => ⟨e.trans e2, _, rfl⟩
      · exact rindex hlt (q _ (Ex.refl _))
      · rw [numL_take hc]
        congr 1
    · rintro σ' H' ⟨e, kv, rfl⟩
      rw [List.take_length]
      exact s_ret (v := .int ((numL (strL v) : Int) - 1)) (ev_op (ev_var rfl) ev_c rv_I0) fun H2 e2 => q1 hb2 _ (e.trans e2)
end KF
set_option Elab.async false
set_option linter.all false
set_option maxRecDepth 100000
set_option maxHeartbeats 4000000
/-! EC: _law_same. -/
namespace KF
open PySem PySem.Spec PyProof.Rows L2 TEX He Evl
open SX (S S_tl S_len S_cat S_inj)
variable {P : Program} {w : World} {K : PySem.W.Frag} {mg : Str → Option Value} {base : Heap}
/-- the same by value, to a depth -/
inductive Sn (H : Hp) : Nat → V → V → Prop where
  | non {n : Nat} : Sn H n .non .non
  | bl {n : Nat} (b : Bool) : Sn H n (.bl b) (.bl b)
  | int {n : Nat} (i : Int) : Sn H n (.int i) (.int i)
  | str {n : Nat} (l : List Nat) (h : l.length ≤ 30000) (h2 : l.all asc = true) : Sn H n (.str (S l)) (.str (S l))
  | lst {n : Nat} {a b : Addr} {xs ys : List V} (ha : H a = some (.lst xs)) (hb : H b = some (.lst ys)) (hl : xs.length = ys.length) (hz : ys.length ≤ 30000) (hi : ∀ (i : Nat) (x y : V), xs[i]? = some x → ys[i]? = some y → Sn H n x y) : Sn H (n + 1) (.ref a) (.ref b)
  | tup {n : Nat} {a b : Addr} {xs ys : List V} (ha : H a = some (.tup xs)) (hb : H b = some (.tup ys)) (hl : xs.length = ys.length) (hz : ys.length ≤ 30000) (hi : ∀ (i : Nat) (x y : V), xs[i]? = some x → ys[i]? = some y → Sn H n x y) : Sn H (n + 1) (.ref a) (.ref b)
theorem Sn.mono {H H' : Hp} (e : ∀ a u, H a = some u → (∀ kvs, u ≠ .dK kvs) → H' a = some u) {n : Nat} {t d : V} (h : Sn H n t d) : Sn H' n t d := by
  induction h with
  | non => exact .non
  | bl b => exact .bl b
  | int i => exact .int i
  | str l h h2 => exact .str l h h2
  | lst ha hb hl hz _ ih => exact .lst (e _ _ ha (fun _ z => nomatch z)) (e _ _ hb (fun _ z => nomatch z)) hl hz ih
  | tup ha hb hl hz _ ih => exact .tup (e _ _ ha (fun _ z => nomatch z)) (e _ _ hb (fun _ z => nomatch z)) hl hz ih
theorem Sn.ex {H H' : Hp} (e : Ex H H') {n : Nat} {t d : V} (h : Sn H n t d) : Sn H' n t d := h.mono fun a u q _ => e a u q
/-- .. or one and the same dict -/
def Sm (H : Hp) (n : Nat) (t d : V) : Prop := Sn H n t d ∨ ∃ a kvs m, n = m + 1 ∧ t = .ref a ∧ d = .ref a ∧ H a = some (.dK kvs) ∧ kvs.length ≤ 1000 ∧ ∀ (i : Nat) (k : Key) (v : V), kvs[i]? = some (k, v) → valV kvs k = some v ∧ Sn H m v v
theorem Sm.ex {H H' : Hp} (e : Ex H H') {n : Nat} {t d : V} (h : Sm H n t d) : Sm H' n t d := by
  rcases h with h | ⟨a, kvs, m, e1, e2, e3, h1, h2, h3⟩
  · exact .inl (h.ex e)
  · exact .inr ⟨a, kvs, m, e1, e2, e3, e _ _ h1, h2, fun i k v q => ⟨(h3 i k v q).1, (h3 i k v q).2.ex e⟩⟩
theorem Sm.kd {H : Hp} {n : Nat} {t d : V} (h : Sm H n t d) : ∃ s, Kd H t s ∧ Kd H d s := by
  rcases h with h | ⟨a, kvs, m, rfl, rfl, rfl, h1, h2, h3⟩
  · cases h with
    | non => exact ⟨_, .non, .non⟩
    | bl b => exact ⟨_, .bl b, .bl b⟩
    | int i => exact ⟨_, .int i, .int i⟩
    | str l h h2 => exact ⟨_, .str l (by omega) h2, .str l (by omega) h2⟩
    | lst ha hb => exact ⟨_, .lst ha, .lst hb⟩
    | tup ha hb => exact ⟨_, .tup ha, .tup hb⟩
  · exact ⟨_, .dct h1, .dct h1⟩
def spSame (n : Nat) : Sp := fun vs H Q _ => ∃ t d, vs = [t, d] ∧ Sm H n t d ∧ RetV (.bl true) H Q
section
variable {σ : L2.St} {H : Hp} {ta tb tc te : TE} {t : TT} {D : Ends} {tu tz : TS} {x v : V}
theorem rv_isN {x : V} : RV (fun x y H Q => y = .non ∧ Q (.bl (decide (x = .non))) H) x .non H (.bl (decide (x = .non))) := fun H1 _ _ q => ⟨rfl, q H1 (Ex.refl H1)⟩
theorem rv_isB {a b : Bool} : RV rIsB (.bl a) (.bl b) H (.bl (decide (a = b))) := fun H1 _ _ q => ⟨a, b, rfl, rfl, q H1 (Ex.refl H1)⟩
theorem kd_non {n : String} (k : Kd H v n) : decide (v = .non) = (n == "NoneType") := by
  cases k with
  | non => rw [decide_eq_true rfl]; rfl
  | _ => rw [decide_eq_false (fun z => nomatch z)]; rfl
theorem rc_len {K : PySem.W.Frag} {x : V} {n : Nat} (h : ∀ H1, Ex H H1 → LenV K x H1 n) : RC (fun xs H Q => ∃ x n, xs = [x] ∧ LenV K x H n ∧ Q (.int n) H) [x] H (.int (n : Int)) := fun H1 e Q q => ⟨x, n, rfl, h H1 e, q H1 (Ex.refl H1)⟩
theorem given_none {n : Nat} {v : Nat → V} : given n (fun _ => false) v = [] := by
  unfold given
  rw [List.filter_eq_nil_iff.mpr (by simp)]
  rfl
end
theorem sc17 : FnScope ["told", "due", "k", "key"] ["told", "due"] (defScope (KH.top 76)) := ⟨rfl, rfl, rfl, by decide +kernel, rfl, by decide +kernel, by decide +kernel⟩
theorem same_never (T : Env P w K mg base) : Callee P w K mg base CXN 1 "_law_same" ["told", "due"] (fun _ _ _ _ => False) := by
  obtain ⟨fd, F⟩ := T.fn 17 (d := KH.dd "_law_same" 76)
  exact callee (st := KH.top 76) F (T.glo 17 (d := KH.dd "_law_same" 76)) sc17 (fun _ _ _ _ _ _ us hl => match us, hl with | [_, _], _ => rfl) (fun _ _ _ _ _ _ us hl => match us, hl with | [_, _], _ => rfl) (fun vs H Q E h => h.elim) (fun _ _ _ _ _ _ _ _ _ h => h.elim)
theorem same_items {sp : Sp} {a b : Addr} {xs ys : List V} {H : Hp} (lv : ∀ H1 : Hp, Ex H H1 → LenV K (.ref b) H1 ys.length) (hz : ys.length ≤ 40000)
    (hix : ∀ (i : Nat) (x y : V) (H1 : Hp), xs[i]? = some x → ys[i]? = some y → Ex H H1 → RV (rIx K) (.ref a) (.int (i : Int)) H1 x ∧ RV (rIx K) (.ref b) (.int (i : Int)) H1 y) (hl : xs.length = ys.length)
    (hc : ∀ (i : Nat) (x y : V) (H1 : Hp), xs[i]? = some x → ys[i]? = some y → Ex H H1 → SpV sp ([x, y] ++ []) H1 (.bl true)) :
    Ev (tOp (rEqD K) (tLc (iRng1 (tCons (tCB (fun xs H Q => ∃ x n, xs = [x] ∧ LenV K x H n ∧ Q (.int n) H) (tCons (tVar 1) tNil)) tNil)) (gName 2) (tNot (tB (tCall sp [] EN (tCons (tOp (rIx K) (tVar 0) (tVar 2)) (tCons (tOp (rIx K) (tVar 1) (tVar 2)) tNil))))) (tVar 2) [2]) (tLst tNil)) (start ["told", "due", "k", "key"] [.ref a, .ref b]) H (.bl true) := by
  have hL := el_lcR1 (te := tVar 2) (fun _ => false) (fun _ => V.non) (σ := start ["told", "due", "k", "key"] [.ref a, .ref b]) (H := H) (j := 2) (vs := [2]) (n := (ys.length : Int)) (t := tNot (tB (tCall sp [] EN (tCons (tOp (rIx K) (tVar 0) (tVar 2)) (tCons (tOp (rIx K) (tVar 1) (tVar 2)) tNil))))) (ta := tCons (tCB (fun xs H Q => ∃ x n, xs = [x] ∧ LenV K x H n ∧ Q (.int n) H) (tCons (tVar 1) tNil)) tNil)
    (ea_cons (ev_cb (ea_cons (ev_var rfl) ea_nil) (rc_len lv)) ea_nil) ⟨by omega, by omega⟩ (fun _ => rfl) (fun i H1 e1 hi => by
      have hi2 : i < ys.length := by omega
      have hy : ys[i]? = some ys[i] := List.getElem?_eq_getElem hi2
      have hx : xs[i]? = some (xs[i]'(by omega)) := List.getElem?_eq_getElem (by omega)
      obtain ⟨r1, r2⟩ := hix i _ _ H1 hx hy e1
      exact et_is (et_not (et_B (ev_call (ea_cons (ev_op (ev_var rfl) (ev_var rfl) r1) (ea_cons (ev_op (ev_var rfl) (ev_var rfl) r2) ea_nil)) (hc i _ _ H1 hx hy e1)))) rfl) (fun i H1 e1 hi h => by cases h)
  rw [given_none] at hL
  exact ev_eqNil hL rfl
theorem same_step (T : Env P w K mg base) {k n : Nat} {sp : Sp} (C : Callee P w K mg base CXN (k + 1) "_law_same" ["told", "due"] sp) (hsp : ∀ m, n = m + 1 → ∀ t d H Q E, Sn H m t d → RetV (.bl true) H Q → sp [t, d] H Q E) : Callee P w K mg base CXN (k + 2) "_law_same" ["told", "due"] (spSame n) := by
  obtain ⟨fd, F⟩ := T.fn 17 (d := KH.dd "_law_same" 76)
  refine callee (st := KH.top 76) F (T.glo 17 (d := KH.dd "_law_same" 76)) sc17 (fun _ _ _ _ _ _ us hl => match us, hl with | [_, _], _ => rfl) (fun _ _ _ _ _ _ us hl => match us, hl with | [_, _], _ => rfl) (fun vs H Q E h => by obtain ⟨t, d, rfl, _⟩ := h; rfl) ?_
  intro cdv A outer s H vs Q E hr h
  obtain ⟨t, d, rfl, sm, q⟩ := h
  have nd := sc17.nd
  have hu := hu_of hr
  refine ⟨_, (PSs.nox (pss_cons (ps_if (PW.pt (pw_or (pt_cmpR op_isN (pv 1) pe_non rfl) (pw_or1 (pt_val (pe_callB call_isi (by rfl) (T.free 0) (by decide +kernel) (pa_cons (pv 1) (pa_cons (pe_bltn (v := .ty "bool") (by rfl) (T.free 2) (by decide +kernel) rfl) pa_nil))))))) (pss_one (ps_ret (pe_ifExp (pt_cmpR op_isN (pv 1) pe_non rfl) (pe_cmpR op_isN (pv 0) pe_non rfl) (pe_and (pe_callB call_isi (by rfl) (T.free 0) (by decide +kernel) (pa_cons (pv 0) (pa_cons (pe_bltn (v := .ty "bool") (by rfl) (T.free 2) (by decide +kernel) rfl) pa_nil))) (pe_one (pe_cmpR op_eq (pe_cmpR op_isBl (pv 0) pe_bl rfl) (pe_cmpR op_isBl (pv 1) pe_bl rfl) rfl)))))) pss_nil) (pss_cons (ps_if (pt_val (pe_callB call_isi (by rfl) (T.free 0) (by decide +kernel) (pa_cons (pv 1) (pa_cons (pe_bltn (v := .ty "int") (by rfl) (T.free 1) (by decide +kernel) rfl) pa_nil)))) (pss_one (ps_ret (pe_and (pe_callB call_isi (by rfl) (T.free 0) (by decide +kernel) (pa_cons (pv 0) (pa_cons (pe_bltn (v := .ty "int") (by rfl) (T.free 1) (by decide +kernel) rfl) pa_nil))) (pe_and (pe_not (pe_callB call_isi (by rfl) (T.free 0) (by decide +kernel) (pa_cons (pv 0) (pa_cons (pe_bltn (v := .ty "bool") (by rfl) (T.free 2) (by decide +kernel) rfl) pa_nil)))) (pe_one (pe_cmpR op_eq (pe_op op_sub (pe_callTy call_int1 (by rfl) (T.free 1) (by decide +kernel) (pa_cons (pv 0) pa_nil)) (pv 1)) pe_int rfl)))))) pss_nil) (pss_cons (ps_if (pt_val (pe_callB call_isi (by rfl) (T.free 0) (by decide +kernel) (pa_cons (pv 1) (pa_cons (pe_bltn (v := .ty "str") (by rfl) (T.free 3) (by decide +kernel) rfl) pa_nil)))) (pss_one (ps_ret (pe_and (pe_callB call_isi (by rfl) (T.free 0) (by decide +kernel) (pa_cons (pv 0) (pa_cons (pe_bltn (v := .ty "str") (by rfl) (T.free 3) (by decide +kernel) rfl) pa_nil))) (pe_and (pe_cmpR op_eq (pe_callB call_len (by rfl) (T.free 4) (by decide +kernel) (pa_cons (pv 0) pa_nil)) (pe_callB call_len (by rfl) (T.free 4) (by decide +kernel) (pa_cons (pv 1) pa_nil)) rfl) (pe_one (pe_cmpR (op_eqD hr.units) (pe_lc (own := [("k", 2)]) (g := gName 2) rfl nd (pi_range1 rfl (T.free 13) (pa_cons (pe_callB call_len (by rfl) (T.free 4) (by decide +kernel) (pa_cons (pv 1) pa_nil)) pa_nil)) (blkOk_by (N := ["told", "due", "k", "key"]) (sc := defScope (KH.top 76)) (by decide +kernel)) (fun _ _ _ _ _ => pg_name (i := 2) nd rfl (Or.inl rfl)) (fun _ _ _ _ _ => (pts_one (pt_cmpR op_ne (pe_slice sl_str (pv 0) (po_some (pv 2)) (po_some (pe_op op_add (pv 2) pe_int))) (pe_ix ix_str (pv 1) (pv 2) (fun _ _ => rfl)) rfl))) (fun _ _ _ _ _ => (pv 2))) (pe_lst pa_nil) rfl)))))) pss_nil) (pss_cons (ps_if (pt_val (pe_callB call_isi (by rfl) (T.free 0) (by decide +kernel) (pa_cons (pv 1) (pa_cons (pe_bltn (v := .ty "dict") (by rfl) (T.free 11) (by decide +kernel) rfl) pa_nil)))) (pss_cons (ps_if (PW.pt (pw_or (pt_not (pt_val (pe_callB call_isi (by rfl) (T.free 0) (by decide +kernel) (pa_cons (pv 0) (pa_cons (pe_bltn (v := .ty "dict") (by rfl) (T.free 11) (by decide +kernel) rfl) pa_nil))))) (pw_or1 (pt_cmpR op_ne (pe_callB call_lenD (by rfl) (T.free 4) (by decide +kernel) (pa_cons (pv 0) pa_nil)) (pe_callB call_lenD (by rfl) (T.free 4) (by decide +kernel) (pa_cons (pv 1) pa_nil)) rfl)))) (pss_one (ps_ret pe_bl)) pss_nil) (pss_one (ps_ret (pe_cmpR (op_eqD hr.units) (pe_lock (pe_lc (own := [("key", 3)]) (g := gName 3) rfl nd (pi_keys (pv 1)) (blkOk_by (N := ["told", "due", "k", "key"]) (sc := defScope (KH.top 76)) (by decide +kernel)) (fun _ _ _ _ _ => pg_name (i := 3) nd rfl (Or.inl rfl)) (fun _ _ _ _ _ => (pts_one (PW.pt (pw_or (pt_cmp (pc_dnotin hu (pv 3) (pv 0))) (pw_or1 (pt_not (pt_val (pe_n C hr (pa_cons (pe_dget hu (pv 0) (pv 3) (fun _ _ => rfl)) (pa_cons (pe_dget hu (pv 1) (pv 3) (fun _ _ => rfl)) pa_nil)))))))))) (fun _ _ _ _ _ => (pv 3)))) (pe_lst pa_nil) rfl)))) pss_nil) (pss_cons (ps_if (PW.pt (pw_or (pt_cmpR op_ne (pe_callB call_isi (by rfl) (T.free 0) (by decide +kernel) (pa_cons (pv 0) (pa_cons (pe_bltn (v := .ty "list") (by rfl) (T.free 10) (by decide +kernel) rfl) pa_nil))) (pe_callB call_isi (by rfl) (T.free 0) (by decide +kernel) (pa_cons (pv 1) (pa_cons (pe_bltn (v := .ty "list") (by rfl) (T.free 10) (by decide +kernel) rfl) pa_nil))) rfl) (pw_or1 (pt_cmpR op_ne (pe_callB call_isi (by rfl) (T.free 0) (by decide +kernel) (pa_cons (pv 0) (pa_cons (pe_bltn (v := .ty "tuple") (by rfl) (T.free 12) (by decide +kernel) rfl) pa_nil))) (pe_callB call_isi (by rfl) (T.free 0) (by decide +kernel) (pa_cons (pv 1) (pa_cons (pe_bltn (v := .ty "tuple") (by rfl) (T.free 12) (by decide +kernel) rfl) pa_nil))) rfl)))) (pss_one (ps_ret pe_bl)) pss_nil) (pss_cons (ps_if (pt_not (pt_val (pe_callB call_isiT (by rfl) (T.free 0) (by decide +kernel) (pa_cons (pv 1) (pa_cons (pe_tup (pa_cons (pe_bltn (v := .ty "list") (by rfl) (T.free 10) (by decide +kernel) rfl) (pa_cons (pe_bltn (v := .ty "tuple") (by rfl) (T.free 12) (by decide +kernel) rfl) pa_nil))) pa_nil))))) (pss_one (ps_ret pe_bl)) pss_nil) (pss_one (ps_ret (pe_and (pe_cmpR op_eq (pe_callB call_len (by rfl) (T.free 4) (by decide +kernel) (pa_cons (pv 0) pa_nil)) (pe_callB call_len (by rfl) (T.free 4) (by decide +kernel) (pa_cons (pv 1) pa_nil)) rfl) (pe_one (pe_cmpR (op_eqD hr.units) (pe_lc (own := [("k", 2)]) (g := gName 2) rfl nd (pi_range1 rfl (T.free 13) (pa_cons (pe_callB call_len (by rfl) (T.free 4) (by decide +kernel) (pa_cons (pv 1) pa_nil)) pa_nil)) (blkOk_by (N := ["told", "due", "k", "key"]) (sc := defScope (KH.top 76)) (by decide +kernel)) (fun _ _ _ _ _ => pg_name (i := 2) nd rfl (Or.inl rfl)) (fun _ _ _ _ _ => (pts_one (pt_not (pt_val (pe_n C hr (pa_cons (pe_ix (show IxR _ (rIx K) from ix_seq) (pv 0) (pv 2) (fun _ _ => rfl)) (pa_cons (pe_ix (show IxR _ (rIx K) from ix_seq) (pv 1) (pv 2) (fun _ _ => rfl)) pa_nil))))))) (fun _ _ _ _ _ => (pv 2))) (pe_lst pa_nil) rfl)))))))))))), ?_⟩
  rcases sm with sn | ⟨a, kvs, m, rfl, rfl, rfl, ha, hz, hi⟩
  · cases sn with
    | non =>
      have kd : Kd H .non "NoneType" := .non
      refine q_when (b := true) (et_is (et_or (et_test (ev_op (ev_var rfl) ev_c rv_isN)) fun _ => et_B (ev_isi (ev_var rfl) kd)) (by rw [kd_non kd]; decide)) (fun _ H1 e1 => ?_) (fun h => by cases h)
      exact s_ret (v := .bl true) (ev_if (b := true) (et_is (et_test (ev_op (ev_var rfl) ev_c rv_isN)) (by rw [kd_non kd]; decide)) (fun _ => ev_is (ev_op (ev_var rfl) ev_c rv_isN) (by rw [kd_non kd]; rfl)) (fun h => by cases h)) fun H2 e2 => q _ (e1.trans e2)
    | bl b =>
      have kd : Kd H (.bl b) "bool" := .bl b
      refine q_when (b := true) (et_is (et_or (et_test (ev_op (ev_var rfl) ev_c rv_isN)) fun _ => et_B (ev_isi (ev_var rfl) kd)) (by rw [kd_non kd]; decide)) (fun _ H1 e1 => ?_) (fun h => by cases h)
      exact s_ret (v := .bl true) (ev_if (b := false) (et_is (et_test (ev_op (ev_var rfl) ev_c rv_isN)) (by rw [kd_non kd]; decide)) (fun h => by cases h) (fun _ => ev_is (ev_andV (ev_isi (ev_var rfl) (kd.mono e1)) fun _ => ev_op (ev_op (ev_var rfl) ev_c rv_isB) (ev_op (ev_var rfl) ev_c rv_isB) (rv_eq rfl)) (by rw [decide_eq_true rfl]; decide))) fun H2 e2 => q _ (e1.trans e2)
    | int i =>
      have kd : Kd H (.int i) "int" := .int i
      refine q_when (b := false) (et_is (et_or (et_test (ev_op (ev_var rfl) ev_c rv_isN)) fun _ => et_B (ev_isi (ev_var rfl) kd)) (by rw [kd_non kd]; decide)) (fun h => by cases h) (fun _ H1 e1 => ?_)
      refine q_when (b := true) (et_is (et_B (ev_isi (ev_var rfl) (kd.mono e1))) (by decide)) (fun _ H2 e2 => ?_) (fun h => by cases h)
      exact s_ret (v := .bl true) (ev_is (ev_andV (ev_isi (ev_var rfl) (kd.mono (e1.trans e2))) fun _ => ev_andV (ev_notV (ev_isi (ev_var rfl) (kd.mono (e1.trans e2)))) fun _ => ev_op (ev_op (ev_cb (ea_cons (ev_var rfl) ea_nil) rc_int1) (ev_var rfl) rv_I0) ev_c (rv_eq rfl)) (by rw [Int.sub_self, decide_eq_true rfl]; decide)) fun H3 e3 => q _ ((e1.trans e2).trans e3)
    | str l hl hl2 =>
      have kd : Kd H (.str (S l)) "str" := .str l (by omega) hl2
      refine q_when (b := false) (et_is (et_or (et_test (ev_op (ev_var rfl) ev_c rv_isN)) fun _ => et_B (ev_isi (ev_var rfl) kd)) (by rw [kd_non kd]; decide)) (fun h => by cases h) (fun _ H1 e1 => ?_)
      refine q_when (b := false) (et_is (et_B (ev_isi (ev_var rfl) (kd.mono e1))) (by decide)) (fun h => by cases h) (fun _ H2 e2 => ?_)
      refine q_when (b := true) (et_is (et_B (ev_isi (ev_var rfl) (kd.mono (e1.trans e2)))) (by decide)) (fun _ H3 e3 => ?_) (fun h => by cases h)
      have lv : ∀ H1 : Hp, LenV K (.str (S l)) H1 l.length := fun _ => ⟨by rw [S_len]; exact sz_of (by omega), by rw [S_len]⟩
      refine s_ret (v := .bl true) (ev_is (ev_andV (b := true) (ev_isi (ev_var rfl) (kd.mono ((e1.trans e2).trans e3))) fun _ => ev_is (ev_andV (b := true) (ev_op (ev_cb (ea_cons (ev_var rfl) ea_nil) (rc_len fun H1 _ => lv H1)) (ev_cb (ea_cons (ev_var rfl) ea_nil) (rc_len fun H1 _ => lv H1)) (rv_eq rfl)) fun _ => ?_) (by rw [decide_eq_true rfl]; rfl)) (by decide)) fun H4 e4 => q _ (((e1.trans e2).trans e3).trans e4)
      have hL := el_lcR1 (te := tVar 2) (fun _ => false) (fun _ => V.non) (σ := start ["told", "due", "k", "key"] [.str (S l), .str (S l)]) (H := H3) (j := 2) (vs := [2]) (n := (l.length : Int)) (t := tTest (tOp rNe (tSl rSlS (tVar 0) (tPart (tVar 2)) (tPart (tOp (rI0 fun i j => .int (i + j)) (tVar 2) (tC (.int 1))))) (tOp rIxS (tVar 1) (tVar 2)))) (ta := tCons (tCB (fun xs H Q => ∃ x n, xs = [x] ∧ LenV K x H n ∧ Q (.int n) H) (tCons (tVar 1) tNil)) tNil)
        (ea_cons (ev_cb (ea_cons (ev_var rfl) ea_nil) (rc_len fun H1 _ => lv H1)) ea_nil) ⟨by omega, by omega⟩ (fun _ => rfl) (fun i H4 e4 hi => by
          have hi2 : i < l.length := by omega
          have hc : l[i]? = some l[i] := List.getElem?_eq_getElem hi2
          exact et_is (et_test (ev_op (x := .str (S [l[i]])) (ev_is (ev_slS (l := l) (a := i) (b := i + 1) (ev_var rfl) (eo_some (ev_var rfl)) (eo_some (i := ((i + 1 : Nat) : Int)) (ev_op (ev_var rfl) ev_c rv_I0)) (by omega)) (by rw [take_one hc])) (ev_op (ev_var rfl) (ev_var rfl) (rv_ixC hc (by omega))) rv_neS)) (by simp)) (fun i H4 e4 hi h => by cases h)
      rw [given_none] at hL
      exact ev_eqNil hL rfl
    | @lst n a b xs ys ha hb hl hz hi =>
      have kt : Kd H (.ref a) "list" := .lst ha
      have kd : Kd H (.ref b) "list" := .lst hb
      refine q_when (b := false) (et_is (et_or (et_test (ev_op (ev_var rfl) ev_c rv_isN)) fun _ => et_B (ev_isi (ev_var rfl) kd)) (by rw [kd_non kd]; decide)) (fun h => by cases h) (fun _ H1 e1 => ?_)
      refine q_when (b := false) (et_is (et_B (ev_isi (ev_var rfl) (kd.mono e1))) (by decide)) (fun h => by cases h) (fun _ H2 e2 => ?_)
      refine q_when (b := false) (et_is (et_B (ev_isi (ev_var rfl) (kd.mono (e1.trans e2)))) (by decide)) (fun h => by cases h) (fun _ H3 e3 => ?_)
      have E3 := (e1.trans e2).trans e3
      refine q_when (b := false) (et_is (et_B (ev_isi (ev_var rfl) (kd.mono E3))) (by decide)) (fun h => by cases h) (fun _ H4 e4 => ?_)
      have E4 := E3.trans e4
      refine q_when (b := false) (et_is (et_or (et_test (ev_op (ev_isi (ev_var rfl) (kt.mono E4)) (ev_isi (ev_var rfl) (kd.mono E4)) (rv_ne rfl))) fun _ => et_test (ev_op (ev_isi (ev_var rfl) (kt.mono E4)) (ev_isi (ev_var rfl) (kd.mono E4)) (rv_ne rfl))) (by rw [decide_eq_true rfl, decide_eq_true rfl]; rfl)) (fun h => by cases h) (fun _ H5 e5 => ?_)
      have E5 := E4.trans e5
      refine q_when (b := false) (et_is (et_not (et_B (ev_isi2 (ev_var rfl) (kd.mono E5)))) (by decide)) (fun h => by cases h) (fun _ H6 e6 => ?_)
      have E6 := E5.trans e6
      have lt : ∀ H7 : Hp, Ex H6 H7 → LenV K (.ref a) H7 xs.length := fun H7 e7 => .inl ⟨xs, sq_of (e7 _ _ (E6 _ _ ha)), rfl⟩
      have lv : ∀ H7 : Hp, Ex H6 H7 → LenV K (.ref b) H7 ys.length := fun H7 e7 => .inl ⟨ys, sq_of (e7 _ _ (E6 _ _ hb)), rfl⟩
      refine s_ret (v := .bl true) (ev_is (ev_andV (b := true) (ev_op (ev_cb (ea_cons (ev_var rfl) ea_nil) (rc_len lt)) (ev_cb (ea_cons (ev_var rfl) ea_nil) (rc_len lv)) (rv_eq rfl)) fun _ => ?_) (by rw [hl, decide_eq_true rfl]; rfl)) fun H7 e7 => q _ (E6.trans e7)
      refine same_items lv (by omega) (fun i x y H7 hx hy e7 => ⟨fun H8 e8 Q8 q8 => Or.inl ⟨_, _, _, _, rfl, rfl, sq_of (e8 _ _ (e7 _ _ (E6 _ _ ha))), atI_nat hx, q8 _ (Ex.refl _)⟩, fun H8 e8 Q8 q8 => Or.inl ⟨_, _, _, _, rfl, rfl, sq_of (e8 _ _ (e7 _ _ (E6 _ _ hb))), atI_nat hy, q8 _ (Ex.refl _)⟩⟩) hl (fun i x y H7 hx hy e7 => SpV.of fun H8 Q8 E8 e8 q8 => hsp n rfl x y H8 Q8 E8 ((hi i x y hx hy).ex ((E6.trans e7).trans e8)) q8)
    | @tup n a b xs ys ha hb hl hz hi =>
      have kt : Kd H (.ref a) "tuple" := .tup ha
      have kd : Kd H (.ref b) "tuple" := .tup hb
      refine q_when (b := false) (et_is (et_or (et_test (ev_op (ev_var rfl) ev_c rv_isN)) fun _ => et_B (ev_isi (ev_var rfl) kd)) (by rw [kd_non kd]; decide)) (fun h => by cases h) (fun _ H1 e1 => ?_)
      refine q_when (b := false) (et_is (et_B (ev_isi (ev_var rfl) (kd.mono e1))) (by decide)) (fun h => by cases h) (fun _ H2 e2 => ?_)
      refine q_when (b := false) (et_is (et_B (ev_isi (ev_var rfl) (kd.mono (e1.trans e2)))) (by decide)) (fun h => by cases h) (fun _ H3 e3 => ?_)
      have E3 := (e1.trans e2).trans e3
      refine q_when (b := false) (et_is (et_B (ev_isi (ev_var rfl) (kd.mono E3))) (by decide)) (fun h => by cases h) (fun _ H4 e4 => ?_)
      have E4 := E3.trans e4
      refine q_when (b := false) (et_is (et_or (et_test (ev_op (ev_isi (ev_var rfl) (kt.mono E4)) (ev_isi (ev_var rfl) (kd.mono E4)) (rv_ne rfl))) fun _ => et_test (ev_op (ev_isi (ev_var rfl) (kt.mono E4)) (ev_isi (ev_var rfl) (kd.mono E4)) (rv_ne rfl))) (by rw [decide_eq_true rfl, decide_eq_true rfl]; rfl)) (fun h => by cases h) (fun _ H5 e5 => ?_)
      have E5 := E4.trans e5
      refine q_when (b := false) (et_is (et_not (et_B (ev_isi2 (ev_var rfl) (kd.mono E5)))) (by decide)) (fun h => by cases h) (fun _ H6 e6 => ?_)
      have E6 := E5.trans e6
      have lt : ∀ H7 : Hp, Ex H6 H7 → LenV K (.ref a) H7 xs.length := fun H7 e7 => .inr ⟨xs, st_of (e7 _ _ (E6 _ _ ha)), rfl⟩
      have lv : ∀ H7 : Hp, Ex H6 H7 → LenV K (.ref b) H7 ys.length := fun H7 e7 => .inr ⟨ys, st_of (e7 _ _ (E6 _ _ hb)), rfl⟩
      refine s_ret (v := .bl true) (ev_is (ev_andV (b := true) (ev_op (ev_cb (ea_cons (ev_var rfl) ea_nil) (rc_len lt)) (ev_cb (ea_cons (ev_var rfl) ea_nil) (rc_len lv)) (rv_eq rfl)) fun _ => ?_) (by rw [hl, decide_eq_true rfl]; rfl)) fun H7 e7 => q _ (E6.trans e7)
      refine same_items lv (by omega) (fun i x y H7 hx hy e7 => ⟨fun H8 e8 Q8 q8 => Or.inr (Or.inl ⟨_, _, _, _, rfl, rfl, st_of (e8 _ _ (e7 _ _ (E6 _ _ ha))), atI_nat hx, q8 _ (Ex.refl _)⟩), fun H8 e8 Q8 q8 => Or.inr (Or.inl ⟨_, _, _, _, rfl, rfl, st_of (e8 _ _ (e7 _ _ (E6 _ _ hb))), atI_nat hy, q8 _ (Ex.refl _)⟩)⟩) hl (fun i x y H7 hx hy e7 => SpV.of fun H8 Q8 E8 e8 q8 => hsp n rfl x y H8 Q8 E8 ((hi i x y hx hy).ex ((E6.trans e7).trans e8)) q8)
  · have kd : Kd H (.ref a) "dict" := .dct ha
    refine q_when (b := false) (et_is (et_or (et_test (ev_op (ev_var rfl) ev_c rv_isN)) fun _ => et_B (ev_isi (ev_var rfl) kd)) (by rw [kd_non kd]; decide)) (fun h => by cases h) (fun _ H1 e1 => ?_)
    refine q_when (b := false) (et_is (et_B (ev_isi (ev_var rfl) (kd.mono e1))) (by decide)) (fun h => by cases h) (fun _ H2 e2 => ?_)
    refine q_when (b := false) (et_is (et_B (ev_isi (ev_var rfl) (kd.mono (e1.trans e2)))) (by decide)) (fun h => by cases h) (fun _ H3 e3 => ?_)
    have E3 := (e1.trans e2).trans e3
    refine q_when (b := true) (et_is (et_B (ev_isi (ev_var rfl) (kd.mono E3))) (by decide)) (fun _ H4 e4 => ?_) (fun h => by cases h)
    have E4 := E3.trans e4
    have rl : ∀ H5 : Hp, Ex H4 H5 → RC (fun xs H Q => ∃ a kvs, xs = [V.ref a] ∧ H a = some (.dK kvs) ∧ Q (.int kvs.length) H) [.ref a] H5 (.int (kvs.length : Int)) := fun H5 e5 H6 e6 Q6 q6 => ⟨a, kvs, rfl, e6 _ _ (e5 _ _ (E4 _ _ ha)), q6 _ (Ex.refl _)⟩
    refine q_when (b := false) (et_is (et_or (et_not (et_B (ev_isi (ev_var rfl) (kd.mono E4)))) fun _ => et_test (ev_op (ev_cb (ea_cons (ev_var rfl) ea_nil) (rl _ (Ex.refl _))) (ev_cb (ea_cons (ev_var rfl) ea_nil) (rl _ (Ex.refl _))) (rv_ne rfl))) (by rw [decide_eq_true rfl]; decide)) (fun h => by cases h) (fun _ H5 e5 => ?_)
    have E5 := E4.trans e5
    refine s_ret (v := .bl true) (ev_eqNil (xs := []) (fun H6 e6 Q6 q6 => ⟨a, .dK kvs, e6 _ _ (E5 _ _ ha), True.intro, fun od => ⟨_, rfl, a, od, rfl, .inl ⟨kvs, upd_same, fun D hD => ?_⟩⟩⟩) rfl) fun H7 e7 => q _ (E5.trans e7)
    have hne : D ≠ a := fun z => by rw [z, upd_same] at hD; cases hD
    have hD6 : H6 D = none := by rw [upd_ne hne] at hD; exact hD
    refine lc_it (J := Itk a od kvs) walk_keys (fun _ H' => H' D = some (.lst []) ∧ H' a = some (.frz od (.dK kvs)) ∧ ∀ b u, H6 b = some u → b ≠ a → H' b = some u) ⟨upd_same, by rw [upd_ne (Ne.symm hne)]; exact upd_same, fun b u hb hba => by rw [upd_ne (ne_of_none hb hD6), upd_ne hba]; exact hb⟩ (fun i H' _ p => p.2.1) (fun i x H' H'' hi' p y => ?_) (fun H' p => ⟨p.2.1, q6 D _ hD6 (fun b u hb => ?_) (by rw [upd_ne hne]; exact p.1)⟩)
    · obtain ⟨rfl, k, v, hk, rfl⟩ := y
      obtain ⟨hv, hs⟩ := hi i k v hk
      refine ⟨rfl, ?_⟩
      have hf := p.2.1
      have tst : EvT (tOr (tB (tDNotIn (tVar 3) (tVar 0))) (tNot (tB (tCall sp [] EN (tCons (tDGet (tVar 0) (tVar 3)) (tCons (tDGet (tVar 1) (tVar 3)) tNil)))))) ((wipe (start ["told", "due", "k", "key"] [.ref a, .ref a]) [3]).set 3 (some (kV k))) H'' false := by
        have dg : ∀ i, ((wipe (start ["told", "due", "k", "key"] [.ref a, .ref a]) [3]).set 3 (some (kV k)))[i]? = some (some (.ref a)) → Ev (tDGet (tVar i) (tVar 3)) ((wipe (start ["told", "due", "k", "key"] [.ref a, .ref a]) [3]).set 3 (some (kV k))) H'' v := fun i hi H8 e8 Q8 q8 => ⟨_, hi, _, rfl, a, v, rfl, .inl ⟨kvs, k, .inr ⟨od, e8 _ _ hf⟩, rfl, hv.symm⟩, q8 _ (Ex.refl _)⟩
        refine et_is (et_or (a := false) (b := false) (et_B ?_) fun _ => et_is (et_not (et_B (ev_call (ea_cons (dg 0 rfl) (ea_cons (dg 1 rfl) ea_nil)) (SpV.of fun H8 Q8 E8 e8 q8 => hsp m rfl v v H8 Q8 E8 (hs.mono fun b u hb hn => e8 _ _ (p.2.2 b u (e6 _ _ (E5 _ _ hb)) ?_)) q8)))) rfl) rfl
        · intro H8 e8 Q8 q8
          exact ⟨_, rfl, _, rfl, a, some v, rfl, .inl ⟨kvs, k, .inr ⟨od, e8 _ _ hf⟩, rfl, hv.symm⟩, q8 _ (Ex.refl _)⟩
        · intro z
          rw [z, ha] at hb
          exact hn kvs (Option.some.inj hb).symm
      refine tst H'' (Ex.refl _) _ fun H8 e8 => ?_
      rw [if_neg Bool.false_ne_true]
      exact ⟨e8 _ _ p.1, e8 _ _ hf, fun b u hb hba => e8 _ _ (p.2.2 b u hb hba)⟩
    · by_cases hba : b = a
      · subst hba
        rw [e6 _ _ (E5 _ _ ha)] at hb
        rw [upd_same]
        exact hb
      · rw [upd_ne hba]
        exact p.2.2 b u hb hba
theorem c_same (T : Env P w K mg base) : ∀ n, Callee P w K mg base CXN (n + 2) "_law_same" ["told", "due"] (spSame n)
  | 0 => same_step T (same_never T) fun m h => by cases h
  | n + 1 => same_step T (c_same T n) fun m h t d H Q E hs q => by
    cases h
    exact ⟨t, d, rfl, .inl hs, q⟩
end KF
set_option Elab.async false
set_option linter.all false
set_option maxRecDepth 100000
set_option maxHeartbeats 4000000
/-! ED: cells, boxes, draws. -/
namespace KF
open PySem PySem.Spec PyProof.Rows L2 TEX He Evl
open SX (S S_tl S_len S_cat S_inj)
variable {P : Program} {w : World} {K : PySem.W.Frag} {mg : Str → Option Value} {base : Heap}
/-- all but b stays -/
def Kp (b : Addr) (H H' : Hp) : Prop := ∀ a u, a ≠ b → H a = some u → H' a = some u
theorem Kp.refl {b : Addr} {H : Hp} : Kp b H H := fun _ _ _ h => h
theorem Kp.trans {b : Addr} {H H1 H2 : Hp} (h : Kp b H H1) (k : Kp b H1 H2) : Kp b H H2 := fun a u n e => k a u n (h a u n e)
theorem Kp.of {b : Addr} {H H1 : Hp} (e : Ex H H1) : Kp b H H1 := fun a u _ h => e a u h
theorem Kp.mut {b : Addr} {H H1 : Hp} {o : HO} (e : Kp b H H1) : Kp b H (upd H1 b o) := fun a u n h => by rw [upd_ne n]; exact e a u n h
/-- a box, from which no more than n were mixed -/
def BoxAt (H : Hp) (b : Addr) (n : Nat) : Prop := ∃ (g c k : Int) (f : Bool), H b = some (.lst [.int g, .bl f, .int c, .int k]) ∧ 0 ≤ g ∧ 0 ≤ c ∧ c < 2147483629 ∧ 0 ≤ k ∧ k ≤ (n : Int)
theorem BoxAt.ex {H H' : Hp} {b : Addr} {n : Nat} (h : BoxAt H b n) (e : Ex H H') : BoxAt H' b n := by
  obtain ⟨g, c, k, f, h1, h2⟩ := h
  exact ⟨g, c, k, f, e _ _ h1, h2⟩
theorem BoxAt.le {H : Hp} {b : Addr} {n n' : Nat} (h : BoxAt H b n) (e : n ≤ n') : BoxAt H b n' := by
  obtain ⟨g, c, k, f, h1, h2, h3, h4, h5, h6⟩ := h
  exact ⟨g, c, k, f, h1, h2, h3, h4, h5, by omega⟩
structure Stp (b : Addr) (n : Nat) (H H' : Hp) : Prop where
  kp : Kp b H H'
  bx : BoxAt H' b n
theorem Stp.ex {b : Addr} {n : Nat} {H H1 H2 : Hp} (h : Stp b n H H1) (e : Ex H1 H2) : Stp b n H H2 := ⟨h.kp.trans (Kp.of e), h.bx.ex e⟩
theorem Stp.pre {b : Addr} {n : Nat} {H H1 H2 : Hp} (e : Ex H H1) (h : Stp b n H1 H2) : Stp b n H H2 := ⟨(Kp.of e).trans h.kp, h.bx⟩
theorem Stp.trans {b : Addr} {n m : Nat} {H H1 H2 : Hp} (h : Stp b n H H1) (k : Stp b m H1 H2) : Stp b m H H2 := ⟨h.kp.trans k.kp, k.bx⟩
theorem Stp.le {b : Addr} {n n' : Nat} {H H1 : Hp} (h : Stp b n H H1) (e : n ≤ n') : Stp b n' H H1 := ⟨h.kp, h.bx.le e⟩
/-- new behind steps: new before them -/
theorem Kp.back {b : Addr} {n m : Nat} {H H1 : Hp} {p : Addr} (h : Kp b H H1) (hb : BoxAt H1 b m) (hp : H1 p = none) : H p = none := by
  have hne : p ≠ b := fun z => by
    obtain ⟨g, c, k, f, h1, _⟩ := hb
    rw [z, h1] at hp
    cases hp
  cases h1 : H p with
  | none => rfl
  | some o =>
    rw [h p o hne h1] at hp
    cases hp
/-! ### _law_cell -/
def spCell (K : PySem.W.Frag) : Sp := fun vs H Q _ => ∃ (a : Addr) (ns : List Int) (k : Int), vs = [.ref a, .int k] ∧ SqL K H a (ns.map V.int) ∧ 0 ≤ k ∧ k ≤ 100 ∧ ∀ i H2, Ex H H2 → Q (.int i) H2
theorem ev_sumL {σ : L2.St} {H : Hp} {te : TE} {K : PySem.W.Frag} {ns : List Int} (h : EvL te σ H (ns.map V.int)) : Ev (tCB (rSum K) (tCons te tNil)) σ H (.int ns.sum) := fun H1 e Q q => h H1 e _ fun p H2 hp e2 h2 => ⟨p, ns, rfl, sq_of h2, q H2 e2⟩
/-- return a if t else b, told by a value each -/
theorem ev_tern {σ : L2.St} {H : Hp} {t : TT} {ta tb : TE} {b : Bool} {D : Ends} (h : EvT t σ H b) (h1 : b = true → ∃ v, Ev ta σ H v ∧ ∀ H2, Ex H H2 → D.rt v H2) (h2 : b = false → ∃ v, Ev tb σ H v ∧ ∀ H2, Ex H H2 → D.rt v H2) : tRet (tIf t ta tb) D σ H := h H (Ex.refl H) _ fun H2 e2 => by
  cases b with
  | true =>
    obtain ⟨v, hv, q⟩ := h1 rfl
    exact hv H2 e2 _ fun H3 e3 => q H3 (e2.trans e3)
  | false =>
    obtain ⟨v, hv, q⟩ := h2 rfl
    exact hv H2 e2 _ fun H3 e3 => q H3 (e2.trans e3)
theorem sc13 : FnScope ["script", "k"] ["script", "k"] (defScope (KH.top 72)) := ⟨rfl, rfl, rfl, by decide +kernel, rfl, by decide +kernel, by decide +kernel⟩
theorem c_cell (T : Env P w K mg base) : Callee P w K mg base CXN 1 "_law_cell" ["script", "k"] (spCell K) := by
  obtain ⟨fd, F⟩ := T.fn 13 (d := KH.dd "_law_cell" 72)
  refine callee (st := KH.top 72) F (T.glo 13 (d := KH.dd "_law_cell" 72)) sc13 (fun _ _ _ _ _ _ us hl => match us, hl with | [_, _], _ => rfl) (fun _ _ _ _ _ _ us hl => match us, hl with | [_, _], _ => rfl) (fun vs H Q E h => by obtain ⟨a, ns, k, rfl, _⟩ := h; rfl) ?_
  intro cdv A outer s H vs Q E hr h
  obtain ⟨a, ns, k, rfl, hs, hk0, hk1, q⟩ := h
  have nd := sc13.nd
  refine ⟨_, (PSs.nox (pss_one (ps_ret (pe_ifExp (pt_cmpR op_lt (pv 1) (pe_callB call_len_seq (by rfl) (T.free 4) (by decide +kernel) (pa_cons (pv 0) pa_nil)) rfl) (pe_ix ix_list (pv 0) (pv 1) (fun _ _ => rfl)) (pe_op op_add (pe_op op_mul pe_int (pv 1)) (pe_op op_mod (pe_callTy call_int1 (by rfl) (T.free 1) (by decide +kernel) (pa_cons (pe_callB (cr_sum rfl) (by rfl) (T.free 9) (by decide +kernel) (pa_cons (pe_slice sl_list (pv 0) po_none (po_some pe_int)) pa_nil)) pa_nil)) pe_int)))))), ?_⟩
  refine ev_tern (b := decide (k < (ns.length : Int))) (et_test (ev_op (ev_var rfl) (ev_cb (z := .int (ns.length : Int)) (ea_cons (ev_var rfl) ea_nil) fun H1 e Q q => ⟨a, _, rfl, .inl (ex_l e hs), by rw [List.length_map]; exact q _ (Ex.refl _)⟩) rv_I0)) (fun hb => ?_) (fun hb => ?_)
  · have h1 : k.toNat < ns.length := by have := of_decide_eq_true hb; omega
    refine ⟨.int ns[k.toNat], ev_op (ev_var rfl) (ev_var rfl) (rv_ixL hs (by
      have e0 : ((k.toNat : Nat) : Int) = k := by omega
      have e1 : atI (ns.map V.int) ((k.toNat : Nat) : Int) = some (V.int ns[k.toNat]) := atI_nat (by
        rw [List.getElem?_map, List.getElem?_eq_getElem h1]
        rfl)
      rw [e0] at e1
      exact e1)), fun H2 e2 => q _ H2 e2⟩
  · refine ⟨.int (6043 * k + (ns.take 1).sum % 1000033), ev_op (ev_op ev_c (ev_var rfl) (rv_I (show CMul _ _ from .inl ⟨by decide, by decide⟩))) (ev_op (ev_cb (ea_cons (ev_sumL (ns := ns.take 1) ?_) ea_nil) rc_int1) ev_c (rv_I (by decide))) rv_I0, fun H2 e2 => q _ H2 e2⟩
    have hc : cutV (ns.map V.int) none (some 1) = (ns.take 1).map V.int := by
      unfold cutV
      rw [HT.sIx_none, show ((1 : Int)) = ((1 : Nat) : Int) from rfl, HT.sIx_nat, List.drop_zero, Nat.sub_zero, List.length_map, List.map_take]
      have := take_min (ns.map V.int) 1
      rw [List.length_map] at this
      exact this
    rw [← hc]
    exact el_sl (ev_var rfl) eo_none (eo_some ev_c) hs
/-! ### _law_box -/
def spBox : Sp := fun vs H Q _ => ∃ g : Int, vs = [.int g] ∧ ∀ b H2, H b = none → Ex H H2 → BoxAt H2 b 0 → Q (.ref b) H2
theorem rc_abs {H : Hp} {i : Int} : RC (fun xs H Q => ∃ i, xs = [V.int i] ∧ Q (.int (if i < 0 then -i else i)) H) [.int i] H (.int (if i < 0 then -i else i)) := fun H1 _ Q q => ⟨i, rfl, q H1 (Ex.refl H1)⟩
theorem sc14 : FnScope ["great"] ["great"] (defScope (KH.top 73)) := ⟨rfl, rfl, rfl, by decide +kernel, rfl, by decide +kernel, by decide +kernel⟩
theorem c_box (T : Env P w K mg base) : Callee P w K mg base CXN 1 "_law_box" ["great"] spBox := by
  obtain ⟨fd, F⟩ := T.fn 14 (d := KH.dd "_law_box" 73)
  refine callee (st := KH.top 73) F (T.glo 14 (d := KH.dd "_law_box" 73)) sc14 (fun _ _ _ _ _ _ us hl => match us, hl with | [_], _ => rfl) (fun _ _ _ _ _ _ us hl => match us, hl with | [_], _ => rfl) (fun vs H Q E h => by obtain ⟨g, rfl, _⟩ := h; rfl) ?_
  intro cdv A outer s H vs Q E hr h
  obtain ⟨g, rfl, q⟩ := h
  have nd := sc14.nd
  refine ⟨_, (PSs.nox (pss_one (ps_ret (pe_lst (pa_cons (pe_callB call_abs (by rfl) (T.free 8) (by decide +kernel) (pa_cons (pv 0) pa_nil)) (pa_cons (pe_cmpR op_ge (pe_callB call_abs (by rfl) (T.free 8) (by decide +kernel) (pa_cons (pv 0) pa_nil)) (pe_op op_pow pe_int pe_int) rfl) (pa_cons (pe_op op_mod (pe_callTy call_int1 (by rfl) (T.free 1) (by decide +kernel) (pa_cons (pe_callB call_abs (by rfl) (T.free 8) (by decide +kernel) (pa_cons (pv 0) pa_nil)) pa_nil)) pe_int) (pa_cons pe_int pa_nil)))))))), ?_⟩
  have ea : ∀ H1, Ev (tCB (fun xs H Q => ∃ i, xs = [V.int i] ∧ Q (.int (if i < 0 then -i else i)) H) (tCons (tVar 0) tNil)) (start ["great"] [.int g]) H1 (.int (if g < 0 then -g else g)) := fun H1 => ev_cb (ea_cons (ev_var rfl) ea_nil) rc_abs
  refine s_retL (el_lst (ea_cons (ea H) (ea_cons (ev_op (ea H) (ev_op ev_c ev_c (rv_I (show CPow _ _ from ⟨by decide, by decide, by decide⟩))) rv_I0) (ea_cons (ev_op (ev_cb (ea_cons (ea H) ea_nil) rc_int1) ev_c (rv_I (by decide))) (ea_cons ev_c ea_nil)))) (by show 4 ≤ 100000; decide)) fun p H1 hp e1 h1 => q p H1 hp e1 ⟨_, _, _, _, h1, ?_, ?_, ?_, by decide, by decide⟩
  · split <;> omega
  · exact Int.emod_nonneg _ (by decide)
  · exact Int.emod_lt_of_pos _ (by decide)
/-! ### _law_take -/
def spTake : Sp := fun vs H Q _ => ∃ (b : Addr) (m : Int) (n : Nat), vs = [.ref b, .int m] ∧ 0 < m ∧ m < 1073741824 ∧ BoxAt H b n ∧ n ≤ 100000000 ∧ ∀ r H2, 0 ≤ r → r < m → Stp b (n + 1) H H2 → Q (.int r) H2
theorem sc15 : FnScope ["box", "many", "digit", "mixed"] ["box", "many"] (defScope (KH.top 74)) := ⟨rfl, rfl, rfl, by decide +kernel, rfl, by decide +kernel, by decide +kernel⟩
theorem c_take (T : Env P w K mg base) : Callee P w K mg base CXN 1 "_law_take" ["box", "many"] spTake := by
  obtain ⟨fd, F⟩ := T.fn 15 (d := KH.dd "_law_take" 74)
  refine callee (st := KH.top 74) F (T.glo 15 (d := KH.dd "_law_take" 74)) sc15 (fun _ _ _ _ _ _ us hl => match us, hl with | [_, _], _ => rfl) (fun _ _ _ _ _ _ us hl => match us, hl with | [_, _], _ => rfl) (fun vs H Q E h => by obtain ⟨b, m, n, rfl, _⟩ := h; rfl) ?_
  intro cdv A outer s H vs Q E hr h
  obtain ⟨b, m, n, rfl, hm0, hm1, hb, hn, q⟩ := h
  have nd := sc15.nd
  refine ⟨_, (PSs.nox (pss_cons (ps_if (PW.pt (pw_and (pt_val (pe_ix ix_list (pv 0) pe_int (fun _ _ => rfl))) (pw_and1 (pt_cmpR op_gt (pe_ix ix_list (pv 0) pe_int (fun _ _ => rfl)) pe_int rfl)))) (pss_cons (ps_set (i := 2) nd rfl (Or.inl rfl) (pe_op op_mod (pe_callTy call_int1 (by rfl) (T.free 1) (by decide +kernel) (pa_cons (pe_ix ix_list (pv 0) pe_int (fun _ _ => rfl)) pa_nil)) (pv 1))) (pss_cons (ps_asg (pe_op op_fdiv (pe_ix ix_list (pv 0) pe_int (fun _ _ => rfl)) (pv 1)) (pg_sub (pv 0) pe_int set_list)) (pss_one (ps_ret (pv 2))))) pss_nil) (pss_cons (ps_asg (pe_op op_add (pe_ix ix_list (pv 0) pe_int (fun _ _ => rfl)) pe_int) (pg_sub (pv 0) pe_int set_list)) (pss_cons (ps_set (i := 3) nd rfl (Or.inl rfl) (pe_op op_mod (pe_callTy call_int1 (by rfl) (T.free 1) (by decide +kernel) (pa_cons (pe_op op_pow (pe_op op_add (pe_op op_add (pe_ix ix_list (pv 0) pe_int (fun _ _ => rfl)) (pe_op op_mul pe_int (pe_ix ix_list (pv 0) pe_int (fun _ _ => rfl)))) pe_int) pe_int) pa_nil)) pe_int)) (pss_one (ps_ret (pe_op op_mod (pe_callTy call_int1 (by rfl) (T.free 1) (by decide +kernel) (pa_cons (pe_op op_fdiv (pe_op op_mod (pe_callTy call_int1 (by rfl) (T.free 1) (by decide +kernel) (pa_cons (pe_op op_pow (pe_op op_add (pe_op op_mul (pv 3) pe_int) (pe_op op_mul pe_int (pe_ix ix_list (pv 0) pe_int (fun _ _ => rfl)))) pe_int) pa_nil)) pe_int) pe_int) pa_nil)) (pv 1)))))))), ?_⟩
  obtain ⟨g, c, k, f, hB, hg, hc0, hc1, hk0, hkn⟩ := hb
  have ix : ∀ (i : Nat) (v : V) (H1 : Hp) (xs : List V) (σ : L2.St), H1 b = some (.lst xs) → xs[i]? = some v → σ[0]? = some (some (.ref b)) → Ev (tOp (rIxL K) (tVar 0) (tC (.int (i : Int)))) σ H1 v := fun i v H1 xs σ h1 h2 h3 => ev_op (ev_var h3) ev_c (rv_ixL (sq_of h1) (atI_nat h2))
  refine q_when (b := f && decide (0 < g)) (et_and (et_B (ix 1 _ H _ _ hB rfl rfl)) fun _ => et_test (ev_op (ix 0 _ H _ _ hB rfl rfl) ev_c rv_I0)) (fun hb H1 e1 => ?_) (fun hb H1 e1 => ?_)
  · have hB1 := e1 _ _ hB
    refine q_asg (ev_op (ev_cb (ea_cons (ix 0 _ H1 _ _ hB1 rfl rfl) ea_nil) rc_int1) (ev_var rfl) (rv_I hm0)) fun H2 e2 => ?_
    have hB2 := e2 _ _ hB1
    refine q_setL (j := 0) hB2 (ev_op (ix 0 _ H2 _ _ hB2 rfl rfl) (ev_var rfl) (rv_I (show CDiv _ _ from ⟨hm0, hm1⟩))) (ev_var rfl) ev_c (by show 0 < 4; decide) fun H3 e3 => ?_
    refine s_ret (ev_var rfl) fun H4 e4 => q _ H4 (Int.emod_nonneg _ (by omega)) (Int.emod_lt_of_pos _ hm0) (Stp.ex ⟨Kp.mut (Kp.of ((e1.trans e2).trans e3)), ⟨g / m, c, k, f, upd_same, Int.ediv_nonneg hg (by omega), hc0, hc1, hk0, by omega⟩⟩ e4)
  · have hB1 := e1 _ _ hB
    refine q_setL (j := 3) hB1 (ev_op (ix 3 _ H1 _ _ hB1 rfl rfl) ev_c rv_I0) (ev_var rfl) ev_c (by show 3 < 4; decide) fun H2 e2 => ?_
    have hB2 : upd H2 b (.lst ([V.int g, .bl f, .int c, .int k].set 3 (.int (k + 1)))) b = some (.lst [V.int g, .bl f, .int c, .int (k + 1)]) := upd_same
    refine q_asg (ev_op (ev_cb (ea_cons (ev_op (ev_op (ev_op (ix 2 _ _ _ _ hB2 rfl rfl) (ev_op ev_c (ix 3 _ _ _ _ hB2 rfl rfl) (rv_I (show CMul _ _ from .inl ⟨by decide, by decide⟩))) rv_I0) ev_c rv_I0) ev_c (rv_I (show CPow _ _ from ⟨by decide, by decide, by omega⟩))) ea_nil) rc_int1) ev_c (rv_I (by decide))) fun H3 e3 => ?_
    have hB3 := e3 _ _ hB2
    have hx0 := Int.emod_nonneg ((c + 15486271 * (k + 1) + 179425151) ^ (5 : Int).toNat) (show (2147483647 : Int) ≠ 0 by decide)
    have hx1 := Int.emod_lt_of_pos ((c + 15486271 * (k + 1) + 179425151) ^ (5 : Int).toNat) (show (0 : Int) < 2147483647 by decide)
    refine s_ret (ev_op (ev_cb (ea_cons (ev_op (ev_op (ev_cb (ea_cons (ev_op (ev_op (ev_op (ev_var rfl) ev_c (rv_I (show CMul _ _ from .inr ⟨by decide, by decide⟩))) (ev_op ev_c (ix 3 _ _ _ _ hB3 rfl rfl) (rv_I (show CMul _ _ from .inl ⟨by decide, by decide⟩))) rv_I0) ev_c (rv_I (show CPow _ _ from ⟨by decide, by decide, by omega⟩))) ea_nil) rc_int1) ev_c (rv_I (by decide))) ev_c (rv_I (show CDiv _ _ from ⟨by decide, by decide⟩))) ea_nil) rc_int1) (ev_var rfl) (rv_I hm0)) fun H4 e4 => q _ H4 (Int.emod_nonneg _ (by omega)) (Int.emod_lt_of_pos _ hm0) (Stp.ex (Stp.ex ⟨Kp.mut (Kp.of (e1.trans e2)), ⟨g, c, k + 1, f, upd_same, hg, hc0, hc1, by omega, by omega⟩⟩ e3) e4)
end KF
set_option Elab.async false
set_option linter.all false
set_option maxRecDepth 100000
set_option maxHeartbeats 4000000
/-! EE: draws. -/
namespace KF
open PySem PySem.Spec PyProof.Rows L2 TEX He Evl
open SX (S S_tl S_len S_cat S_inj)
variable {P : Program} {w : World} {K : PySem.W.Frag} {mg : Str → Option Value} {base : Heap}
theorem BoxAt.some {H : Hp} {b p : Addr} {n : Nat} (h : BoxAt H b n) (hp : H p = none) : p ≠ b := fun z => by
  obtain ⟨g, c, k, f, h1, _⟩ := h
  rw [z, h1] at hp
  cases hp
theorem Stp.upd {b : Addr} {n : Nat} {H H1 : Hp} {p : Addr} {o : HO} (h : Stp b n H H1) (hp : H p = none) (hne : p ≠ b) : Stp b n H (upd H1 p o) := by
  refine ⟨fun a u na ha => ?_, ?_⟩
  · rw [upd_ne (ne_of_none ha hp)]
    exact h.kp a u na ha
  · obtain ⟨g, c, k, f, h1, h2⟩ := h.bx
    exact ⟨g, c, k, f, by rw [upd_ne (Ne.symm hne)]; exact h1, h2⟩
theorem Stp.back {b : Addr} {n : Nat} {H H1 : Hp} {p : Addr} (h : Stp b n H H1) (hp : H1 p = none) : H p = none := Kp.back (n := 0) h.kp h.bx hp
theorem t_yes {σ : L2.St} {H : Hp} {te : TE} {R : VK} {N : Hp → Prop} (h : te σ H R) : tYes σ H (fun b H3 => if b = true then te σ H3 R else N H3) := by
  show (if true = true then te σ H R else N H)
  rw [if_pos rfl]
  exact h
/-! ### _law_pick -/
def spPick : Sp := fun vs H Q _ => ∃ (b : Addr) (l : List Nat) (n : Nat), vs = [.ref b, .str (S l)] ∧ 1 ≤ l.length ∧ l.length ≤ 1000 ∧ BoxAt H b n ∧ n ≤ 100000000 ∧ ∀ c H2, c ∈ l → Stp b (n + 1) H H2 → Q (.str (S [c])) H2
theorem sc16 : FnScope ["box", "items"] ["box", "items"] (defScope (KH.top 75)) := ⟨rfl, rfl, rfl, by decide +kernel, rfl, by decide +kernel, by decide +kernel⟩
theorem c_pick (T : Env P w K mg base) : Callee P w K mg base CXN 2 "_law_pick" ["box", "items"] spPick := by
  obtain ⟨fd, F⟩ := T.fn 16 (d := KH.dd "_law_pick" 75)
  refine callee (st := KH.top 75) F (T.glo 16 (d := KH.dd "_law_pick" 75)) sc16 (fun _ _ _ _ _ _ us hl => match us, hl with | [_, _], _ => rfl) (fun _ _ _ _ _ _ us hl => match us, hl with | [_, _], _ => rfl) (fun vs H Q E h => by obtain ⟨b, l, n, rfl, _⟩ := h; rfl) ?_
  intro cdv A outer s H vs Q E hr h
  obtain ⟨b, l, n, rfl, hl1, hl2, hb, hn, q⟩ := h
  have nd := sc16.nd
  refine ⟨_, (PSs.nox (pss_one (ps_ret (pe_ix ix_str (pv 1) (pe_n (c_take T) hr (pa_cons (pv 0) (pa_cons (pe_callB call_len_str (by rfl) (T.free 4) (by decide +kernel) (pa_cons (pv 1) pa_nil)) pa_nil))) (fun _ _ => rfl))))), ?_⟩
  refine ⟨_, rfl, _, rfl, _, rfl, S l, rfl, by rw [S_len]; exact sz_of (by omega), b, ((S l).length : Int), n, rfl, by rw [S_len]; omega, by rw [S_len]; omega, hb, hn, fun r H2 h0 h1 st => ?_⟩
  rw [S_len] at h1
  have hr2 : r.toNat < l.length := by omega
  have e0 : ((r.toNat : Nat) : Int) = r := by omega
  have e1 : atI l ((r.toNat : Nat) : Int) = some l[r.toNat] := atI_nat (List.getElem?_eq_getElem hr2)
  rw [e0] at e1
  exact ⟨S l, r, l[r.toNat], rfl, rfl, by rw [S_len]; exact sz_of (by omega), e1, q _ H2 (List.getElem_mem hr2) st⟩
/-! ### _law_letters -/
theorem joinL_nil : ∀ (l : List Nat), TL.joinL [] (l.map fun c => [c]) = l
  | [] => rfl
  | [c] => rfl
  | c :: d :: r => by
    show [c] ++ ([] ++ TL.joinL [] ((d :: r).map fun c => [c])) = _
    rw [joinL_nil (d :: r)]
    rfl
theorem join_signs (l : List Nat) : Txt.join (S []) (l.map fun c => S [c]) = S l := by
  have e := SX.join_S [] (l.map fun c => [c])
  rw [joinL_nil, List.map_map] at e
  exact e
theorem sum_ones (l : List Nat) : ((l.map fun c => S [c]).map (·.length)).sum = l.length := by
  induction l with
  | nil => rfl
  | cons c r ih =>
    rw [List.map_cons, List.map_cons, List.sum_cons, ih, S_len]
    show 1 + r.length = r.length + 1
    omega
def spLetters : Sp := fun vs H Q _ => ∃ (b : Addr) (m n : Nat), vs = [.ref b, .int (m : Int)] ∧ 1 ≤ m ∧ m ≤ 100 ∧ BoxAt H b n ∧ n ≤ 10000000 ∧ ∀ l H2, l.all ltr = true → 1 ≤ l.length → l.length ≤ m → Stp b (n + m + 1) H H2 → Q (.str (S l)) H2
theorem sc26 : FnScope ["box", "most", "k"] ["box", "most"] (defScope (KH.top 85)) := ⟨rfl, rfl, rfl, by decide +kernel, rfl, by decide +kernel, by decide +kernel⟩
theorem c_letters (T : Env P w K mg base) : Callee P w K mg base CXN 3 "_law_letters" ["box", "most"] spLetters := by
  obtain ⟨fd, F⟩ := T.fn 26 (d := KH.dd "_law_letters" 85)
  refine callee (st := KH.top 85) F (T.glo 26 (d := KH.dd "_law_letters" 85)) sc26 (fun _ _ _ _ _ _ us hl => match us, hl with | [_, _], _ => rfl) (fun _ _ _ _ _ _ us hl => match us, hl with | [_, _], _ => rfl) (fun vs H Q E h => by obtain ⟨b, m, n, rfl, _⟩ := h; rfl) ?_
  intro cdv A outer s H vs Q E hr h
  obtain ⟨b, m, n, rfl, hm1, hm2, hb, hn, q⟩ := h
  have nd := sc26.nd
  refine ⟨_, (PSs.nox (pss_one (ps_ret (pe_join pe_str (pe_lc (own := [("k", 2)]) (g := gName 2) rfl nd (pi_range1 rfl (T.free 13) (pa_cons (pe_op op_add pe_int (pe_n (c_take T) (hr.mono (by decide)) (pa_cons (pv 0) (pa_cons (pv 1) pa_nil)))) pa_nil)) (blkOk_by (N := ["box", "most", "k"]) (sc := defScope (KH.top 85)) (by decide +kernel)) (fun _ _ _ _ _ => pg_name (i := 2) nd rfl (Or.inl rfl)) (fun _ _ _ _ _ => pts_nil) (fun _ _ _ _ _ => (pe_n (c_pick T) hr (pa_cons (pv 0) (pa_cons pe_str pa_nil))))))))), ?_⟩
  refine ⟨⟨_, rfl⟩, _, rfl, _, rfl, b, (m : Int), n, rfl, by omega, by omega, hb, by omega, fun r H1 h0 h1 st => ⟨_, _, rfl, rfl, 1 + r, rfl, by omega, by omega, fun D hD => ?_⟩⟩
  have hDb := st.bx.some hD
  have hD0 := st.back hD
  refine lc_it (J := Itr 0 (1 + r).toNat) walk_range (fun i H' => ∃ ls : List Nat, ls.length = i ∧ ls.all ltr = true ∧ H' D = some (.lst (ls.map fun c => V.str (S [c]))) ∧ Stp b (n + 1 + i) H H') ⟨[], rfl, rfl, upd_same, st.upd hD0 hDb⟩ (fun _ _ _ _ => True.intro) (fun i x H' H'' hi p y => ?_) (fun H' p => ?_)
  · obtain ⟨rfl, rfl⟩ := y
    obtain ⟨ls, e1, e2, e3, e4⟩ := p
    refine ⟨rfl, t_yes ?_⟩
    refine ⟨_, rfl, b, [97, 98, 102, 110, 115, 116, 122], n + 1 + i, rfl, by decide, by decide, e4.bx, by omega, fun c H2 hc st2 => ⟨_, st2.kp _ _ hDb e3, ?_, ls ++ [c], by simp [e1], ?_, ?_, ?_⟩⟩
    · rw [List.length_map]
      exact sz_lt (by omega)
    · rw [List.all_append, e2]
      have : ([97, 98, 102, 110, 115, 116, 122].all ltr) = true := by decide
      have h3 := List.all_eq_true.mp this c hc
      show (true && (ltr c && true)) = true
      rw [h3]
      rfl
    · rw [upd_same, List.map_append]
      rfl
    · exact ((e4.trans st2).upd hD0 hDb).le (by omega)
  · obtain ⟨ls, e1, e2, e3, e4⟩ := p
    refine ⟨S [], D, ls.map fun c => S [c], rfl, rfl, .inl (sq_of (by rw [e3, List.map_map]; rfl)), ?_, ?_⟩
    · rw [sum_ones, S_len, List.length_map]
      show ls.length + ls.length * 0 ≤ _
      omega
    · rw [join_signs]
      exact q ls H' e2 (by omega) (by omega) (e4.le (by omega))
/-! ### _law_drawn_text -/
theorem ltr_txc {c : Nat} (h : ltr c = true) : txc c = true := by
  unfold ltr at h
  unfold txc
  simp at h ⊢
  omega
theorem txc_asc {c : Nat} (h : txc c = true) : asc c = true := by
  unfold txc at h
  unfold asc
  simp at h ⊢
  omega
theorem all_imp {l : List Nat} {p q : Nat → Bool} (h : ∀ c, p c = true → q c = true) (hl : l.all p = true) : l.all q = true := List.all_eq_true.mpr fun c hc => h c (List.all_eq_true.mp hl c hc)
def spDrawn : Sp := fun vs H Q _ => ∃ (b : Addr) (m n : Nat), vs = [.ref b, .int (m : Int)] ∧ m ≤ 100 ∧ BoxAt H b n ∧ n ≤ 1000000 ∧ ∀ l H2, l.all txc = true → l.length ≤ 4 * m → Stp b (n + 8 * m) H H2 → Q (.str (S l)) H2
theorem way_ok {lt : List Nat} {c : Nat} (h1 : lt.all ltr = true) (h2 : lt.length ≤ 4) (h3 : txc c = true) {r : Int} (h0 : 0 ≤ r) (h8 : r < 8) : ∃ z, atI [V.str (S lt), .str "->", .str "-", .str ">", .str " ", .str "\n", .str "  ", .str (S [c])] r = some (.str (S z)) ∧ z.all txc = true ∧ z.length ≤ 4 := by
  have hr : r = 0 ∨ r = 1 ∨ r = 2 ∨ r = 3 ∨ r = 4 ∨ r = 5 ∨ r = 6 ∨ r = 7 := by omega
  rcases hr with rfl | rfl | rfl | rfl | rfl | rfl | rfl | rfl
  · exact ⟨lt, rfl, all_imp (fun c => ltr_txc) h1, h2⟩
  · exact ⟨[45, 62], by rfl, by decide, by decide⟩
  · exact ⟨[45], by rfl, by decide, by decide⟩
  · exact ⟨[62], by rfl, by decide, by decide⟩
  · exact ⟨[32], by rfl, by decide, by decide⟩
  · exact ⟨[10], by rfl, by decide, by decide⟩
  · exact ⟨[32, 32], by rfl, by decide, by decide⟩
  · exact ⟨[c], by rfl, by show (txc c && true) = true; rw [h3]; rfl, by show 1 ≤ 4; decide⟩
theorem sc27 : FnScope ["box", "many", "found", "k", "way"] ["box", "many"] (defScope (KH.top 86)) := ⟨rfl, rfl, rfl, by decide +kernel, rfl, by decide +kernel, by decide +kernel⟩
theorem c_drawn (T : Env P w K mg base) : Callee P w K mg base CXN 4 "_law_drawn_text" ["box", "many"] spDrawn := by
  obtain ⟨fd, F⟩ := T.fn 27 (d := KH.dd "_law_drawn_text" 86)
  refine callee (st := KH.top 86) F (T.glo 27 (d := KH.dd "_law_drawn_text" 86)) sc27 (fun _ _ _ _ _ _ us hl => match us, hl with | [_, _], _ => rfl) (fun _ _ _ _ _ _ us hl => match us, hl with | [_, _], _ => rfl) (fun vs H Q E h => by obtain ⟨b, m, n, rfl, _⟩ := h; rfl) ?_
  intro cdv A outer s H vs Q E hr h
  obtain ⟨b, m, n, rfl, hm, hb, hn, q⟩ := h
  have nd := sc27.nd
  refine ⟨_, (PSs.nox (pss_cons (ps_set (i := 2) nd rfl (Or.inl rfl) pe_str) (pss_cons (ps_for PassesOwn.never rfl (pi_range1 rfl (T.free 13) (pa_cons (pv 1) pa_nil)) (pg_name (i := 3) nd rfl (Or.inl rfl)) (pss_cons (ps_set (i := 4) nd rfl (Or.inl rfl) (pe_n (c_take T) (hr.mono (by decide)) (pa_cons (pv 0) (pa_cons pe_int pa_nil)))) (pss_one (ps_set (i := 2) nd rfl (Or.inl rfl) (pe_op op_add_str (pv 2) (pe_ix ix_list (pe_lst (pa_cons (pe_n (c_letters T) hr (pa_cons (pv 0) (pa_cons pe_int pa_nil))) (pa_cons pe_str (pa_cons pe_str (pa_cons pe_str (pa_cons pe_str (pa_cons pe_str (pa_cons pe_str (pa_cons (pe_n (c_pick T) (hr.mono (by decide)) (pa_cons (pv 0) (pa_cons pe_str pa_nil))) pa_nil))))))))) (pv 4) (fun _ _ => rfl))))))) (pss_one (ps_ret (pv 2)))))), ?_⟩
  refine q_asg ev_c fun H0 e0 => q_forR1 (n := (m : Int)) (ea_cons (ev_var rfl) ea_nil) ⟨by omega, by omega⟩ (fun i σ' H' => ∃ (l : List Nat) (kv wv : Option V), σ' = [some (.ref b), some (.int (m : Int)), some (.str (S l)), kv, wv] ∧ l.all txc = true ∧ l.length ≤ 4 * i ∧ Stp b (n + 8 * i) H H') (fun H1 e1 => ⟨[], none, none, rfl, rfl, by simp, ⟨Kp.of (e0.trans e1), hb.ex (e0.trans e1)⟩⟩) ?_ ?_
  · rintro i σ' H' hi ⟨l, kv, wv, rfl, h1, h2, st⟩
    refine ⟨_, rfl, b, 8, n + 8 * i, rfl, by decide, by decide, st.bx, by omega, fun r H1 h0 h8 st1 => ?_⟩
    refine ⟨_, rfl, _, rfl, b, 4, n + 8 * i + 1, rfl, by decide, by decide, st1.bx, by omega, fun lt H2 g1 g2 g3 st2 => ?_⟩
    refine ⟨_, rfl, b, [92, 46, 40, 41, 44, 42, 49, 61, 95, 90, 126, 33, 48], n + 8 * i + 1 + 4 + 1, rfl, by decide, by decide, st2.bx, by omega, fun c H3 hc st3 => ?_⟩
    have hc2 : txc c = true := List.all_eq_true.mp (show ([92, 46, 40, 41, 44, 42, 49, 61, 95, 90, 126, 33, 48].all txc) = true by decide) c hc
    obtain ⟨z, z1, z2, z3⟩ := way_ok g1 g3 hc2 h0 h8
    refine ⟨by show 8 ≤ sizeLine; decide, fun p hp => ⟨_, rfl, p, _, r, _, rfl, rfl, sq_of upd_same, z1, S l, S z, rfl, rfl, by rw [S_len, S_len]; exact sz_of (by omega), l ++ z, _, _, by rw [S_cat]; rfl, by rw [List.all_append, h1, z2]; rfl, by rw [List.length_append]; omega, ?_⟩⟩
    have stA := ((st.trans st1).trans st2).trans st3
    exact (stA.upd (stA.back hp) (st3.bx.some hp)).le (by omega)
  · rintro σ' H' ⟨l, kv, wv, rfl, h1, h2, st⟩
    have em : ((m : Int)).toNat = m := Int.toNat_natCast m
    rw [em] at h2 st
    exact s_ret (ev_var rfl) fun H2 e2 => q l H2 h1 h2 (st.ex e2)
end KF
set_option Elab.async false
set_option linter.all false
set_option maxRecDepth 100000
set_option maxHeartbeats 4000000
/-! EF: _law_told. -/
namespace KF
open PySem PySem.Spec PyProof.Rows L2 TEX He Evl
open SX (S S_tl S_len S_cat S_inj)
variable {P : Program} {w : World} {K : PySem.W.Frag} {mg : Str → Option Value} {base : Heap}
/-! ### calls within a try -/
def tCallKwS (sp : Sp) (E : L2.St → XK) (t : TA) : TE := fun σ H Q => t σ H fun vs H1 => sp vs H1 Q (E σ)
section
variable {X : Cx} {k : Nat} {x : Str} {ps : List Str} {sp : Sp} {W : WX} {p pos : Pos} {e : Expr} {es : List Expr} {kws : List Keyword} {t : TA}
theorem pe_cS (C : Callee X.prog X.w X.K X.mg X.base (CX X.prog X.w) k x ps sp) (hr : Room k X.A) (tk : Takes X W) (ha : PA X (e :: es) t) (hg : Gl X x := by rfl) (hdb : (x == ("__debug__" : Str)) = false := by decide)
    (he : starEach (e :: es) X.env = (false, eval e X.env) :: starEach es X.env := by rfl) (hpl : (backTo pos (starEach es X.env)).any (·.1) = false := by rfl) : PE X (.Call (.Name x p) (e :: es) [] pos) (tCallS sp (WE W) t) := by
  obtain ⟨f, fd, hm, hk, F, hb, _⟩ := C.ex
  exact pe_callS F hr hg hm hk hb (fun σ => passAt tk σ) ha hdb he hpl
theorem pe_cKS (C : Callee X.prog X.w X.K X.mg X.base (CX X.prog X.w) k x ps sp) (hr : Room k X.A) (tk : Takes X W) (hkw : PK X kws t) (hall : (backToKw pos (keywordEach kws X.env)).all (·.1.isSome) = true := by rfl) (hks : (backToKw pos (keywordEach kws X.env)).filterMap (·.1) = ps := by rfl)
    (hg : Gl X x := by rfl) (hdb : (x == ("__debug__" : Str)) = false := by decide) (hpl : ((backTo pos (starEach [] X.env)).any (·.1) || (backToKw pos (keywordEach kws X.env)).any (·.1.isNone)) = false := by rfl) :
    PE X (.Call (.Name x p) [] kws pos) (tCallKwS sp (WE W) t) := by
  obtain ⟨f, fd, hm, hk, F, hb, hbk⟩ := C.ex
  refine ⟨fun pins s σ H Q I h => ?_⟩
  refine wpAny_Call_Name_kw (ld_glob I hg hm ?_ hdb)
  refine PySem.W.callWith_KW0 (h₀ := X.base) (K := X.K) I.ok.mod.kin hk hall (thn (hkw.run pos pins s σ H _ I h) fun ws s2 ⟨zs, H2, I2, rz, q2⟩ => ⟨I2.kIn, ?_⟩) hpl
  rw [hks]
  have l : ws.length = ps.length := rz.length.symm.trans (F.len _ _ _ _ q2)
  refine wpAny_call (codeAny_mono (F.run X.A X.stack s2 H2 ⟨[], ps.zip ws⟩ ws zs Q (WE W σ) hr I2.env0 (hbk s2 ws I2.kIn l) rz q2) fun r s' hq => ?_)
  cases r with
  | error e => exact passAt tk σ pins H2 s2 e s' I2 hq
  | ok fl =>
    cases fl with
    | ret u => exact I2.after hq
    | next => exact False.elim hq
    | brk => exact False.elim hq
    | cont => exact False.elim hq
end
/-- ['told', f(k = value) if named else f(value)] -/
theorem s_told {σ : L2.St} {H : Hp} {D : Ends} {sp : Sp} {E : L2.St → XK} {v : V} {nm : Bool} {R : VK} (h1 : σ[1]? = some (some v)) (h2 : σ[2]? = some (some (.bl nm))) (h : ∀ Q : VK, (∀ x H1, R x H1 → Q x H1) → sp [v] H Q (E σ)) (k : ∀ x H1, R x H1 → ∀ p, H1 p = none → D.rt (.ref p) (upd H1 p (.lst [.str "told", x]))) :
    tRet (tLst (tCons (tC (.str "told")) (tCons (tIf (tB (tVar 2)) (tCallKwS sp E (tCons (tVar 1) tNil)) (tCallS sp E (tCons (tVar 1) tNil))) tNil))) D σ H := by
  have g : sp [v] H (fun x H1 => [V.str "told", x].length ≤ sizeLine ∧ ∀ p, H1 p = none → D.rt (.ref p) (upd H1 p (.lst [.str "told", x]))) (E σ) := h _ fun x H1 r => ⟨by show 2 ≤ sizeLine; decide, k x H1 r⟩
  refine ⟨_, h2, nm, rfl, ?_⟩
  cases nm with
  | true => exact ⟨v, h1, g⟩
  | false => exact ⟨v, h1, g⟩
theorem s_toldN {σ : L2.St} {H : Hp} {D : Ends} {sp : Sp} {v : V} {nm : Bool} {R : VK} (h1 : σ[1]? = some (some v)) (h2 : σ[2]? = some (some (.bl nm))) (h : ∀ Q : VK, (∀ x H1, R x H1 → Q x H1) → sp [v] H Q EN) (k : ∀ x H1, R x H1 → ∀ p, H1 p = none → D.rt (.ref p) (upd H1 p (.lst [.str "told", x]))) :
    tRet (tLst (tCons (tC (.str "told")) (tCons (tIf (tB (tVar 2)) (tCallKw sp EN (tCons (tVar 1) tNil)) (tCall sp [] EN (tCons (tVar 1) tNil))) tNil))) D σ H := by
  have g : sp [v] H (fun x H1 => [V.str "told", x].length ≤ sizeLine ∧ ∀ p, H1 p = none → D.rt (.ref p) (upd H1 p (.lst [.str "told", x]))) EN := h _ fun x H1 r => ⟨by show 2 ≤ sizeLine; decide, k x H1 r⟩
  refine ⟨_, h2, nm, rfl, ?_⟩
  cases nm with
  | true => exact ⟨v, h1, g⟩
  | false => exact ⟨v, h1, g⟩
inductive Wd where
  | at_ | number | words | lines | name | text
def Wd.l : Wd → List Nat
  | .at_ => [97, 116]
  | .number => [110, 117, 109, 98, 101, 114]
  | .words => [119, 111, 114, 100, 115]
  | .lines => [108, 105, 110, 101, 115]
  | .name => [110, 97, 109, 101]
  | .text => [116, 101, 120, 116]
def RetLU (us : List V) (H : Hp) (Q : VK) : Prop := ∀ p t H2, H p = none → Ex H H2 → H2 t = some (.tup us) → H2 p = some (.lst [.str "told", .ref t]) → Q (.ref p) H2
def toldQ (wd : Wd) (v : V) (n : String) (H : Hp) (Q : VK) : Prop := match wd with
  | .at_ => (between v n 0 4000 = true → RetL [.str "told", .str (S (goN ((intOf v).toNat + 1) []))] H Q) ∧ (between v n 0 4000 = false → RetL [.str "number", v] H Q)
  | .number => (nameV v n = true → RetL [.str "told", .int ((numL (strL v) : Int) - 1)] H Q) ∧ (nameV v n = false → RetL [.str "name", v] H Q)
  | .words => (textV v n = true → RetLU (txl (wds (strL v))) H Q) ∧ (textV v n = false → RetL [.str "text", v] H Q)
  | .lines => (textV v n = true → RetLU (txl (lns (strL v) [])) H Q) ∧ (textV v n = false → RetL [.str "text", v] H Q)
  | .name => RetL [.str "told", .bl (nameV v n)] H Q
  | .text => RetL [.str "told", .bl (textV v n)] H Q
def spTold : Sp := fun vs H Q _ => ∃ (wd : Wd) (v : V) (n : String) (nm : Bool), vs = [.str (S wd.l), v, .bl nm] ∧ Kd H v n ∧ toldQ wd v n H Q
theorem rt_new {H H1 : Hp} {xs : List V} {Q : VK} (q : RetL xs H Q) (e : Ex H H1) {p : Addr} (hp : H1 p = none) : Q (.ref p) (upd H1 p (.lst xs)) := q p _ (fresh_back e hp) (e.trans (Ex.new hp)) upd_same
/-- except X as e: return [kind, e.given] -/
theorem s_suite {x : Str} (M : MkE P w K mg x ["given"] fsTe) {σ : L2.St} {H H1 : Hp} {D : Ends} {a d : Addr} {v : V} {z : Str} {Q : VK} (hσ : σ[3]? = some (some (.ref a))) (hd : H1 d = some (exd d [("given", v)])) (e : Ex H H1) (q : RetL [.str z, v] H D.rt) :
    tRet (tLst (tCons (tC (.str z)) (tCons (tByE K a (.ref (ga K x)) (some d) (tVar 3) "given") tNil))) D σ H1 :=
  ⟨_, hσ, rfl, ga K x, d, _, v, rfl, rfl, hd, M.er.ec, M.er.ek.noG, rfl, by show 2 ≤ sizeLine; decide, fun p hp => rt_new q e hp⟩
theorem sc28 : FnScope ["word", "value", "named", "e"] ["word", "value", "named"] (defScope (KH.top 87)) := ⟨rfl, rfl, rfl, by decide +kernel, rfl, by decide +kernel, by decide +kernel⟩
theorem c_told (T : Env P w K mg base) : Callee P w K mg base CXN 4 "_law_told" ["word", "value", "named"] spTold := by
  obtain ⟨fd, F⟩ := T.fn 28 (d := KH.dd "_law_told" 87)
  refine callee (st := KH.top 87) F (T.glo 28 (d := KH.dd "_law_told" 87)) sc28 (fun _ _ _ _ _ _ us hl => match us, hl with | [_, _, _], _ => rfl) (fun _ _ _ _ _ _ us hl => match us, hl with | [_, _, _], _ => rfl) (fun vs H Q E h => by obtain ⟨wd, v, n, nm, rfl, _⟩ := h; rfl) ?_
  intro cdv A outer s H vs Q E hr h
  obtain ⟨wd, v, n, nm, rfl, k, q⟩ := h
  have nd := sc28.nd
  have MN := T.mkTe (x := "InvalidNumber") (by decide)
  have MM := T.mkTe (x := "InvalidName") (by decide)
  have MT := T.mkTe (x := "InvalidText") (by decide)
  have nT : ∀ {x : Str} (i : Nat) (hx : KH.errN[i]? = some x), ga K x ≠ ga K "TestError" := fun i hx => T.neT i hx
  have xNN : PySem.W.exmOne K (.ref (ga K "InvalidNumber")) (.ref (ga K "InvalidNumber")) = some true := (errX_exm MN.er MN.er (nT 9 rfl)).trans (by simp)
  have xMN : PySem.W.exmOne K (.ref (ga K "InvalidName")) (.ref (ga K "InvalidNumber")) = some false := (errX_exm MM.er MN.er (nT 9 rfl)).trans (by rw [beq_false_of_ne (T.ne 8 9)])
  have xMM : PySem.W.exmOne K (.ref (ga K "InvalidName")) (.ref (ga K "InvalidName")) = some true := (errX_exm MM.er MM.er (nT 8 rfl)).trans (by simp)
  have xTN : PySem.W.exmOne K (.ref (ga K "InvalidText")) (.ref (ga K "InvalidNumber")) = some false := (errX_exm MT.er MN.er (nT 9 rfl)).trans (by rw [beq_false_of_ne (T.ne 24 9)])
  have xTM : PySem.W.exmOne K (.ref (ga K "InvalidText")) (.ref (ga K "InvalidName")) = some false := (errX_exm MT.er MM.er (nT 8 rfl)).trans (by rw [beq_false_of_ne (T.ne 24 8)])
  have xTT : PySem.W.exmOne K (.ref (ga K "InvalidText")) (.ref (ga K "InvalidText")) = some true := (errX_exm MT.er MT.er (nT 24 rfl)).trans (by simp)
  refine ⟨_, (pss_one (ps_try_manyA rfl rfl nd takes0 (fun W pn xe tk po => (pss_cons (ps_if (pt_cmpR op_eq (pv 0) pe_str rfl) (pss_one (ps_ret (pe_lst (pa_cons pe_str (pa_cons (pe_ifExp (pt_val (pv 2)) (pe_cKS (c_nameAt T) hr tk (pk_cons (pv 1) pk_nil)) (pe_cS (c_nameAt T) hr tk (pa_cons (pv 1) pa_nil))) pa_nil))))) pss_nil) (pss_cons (ps_if (pt_cmpR op_eq (pv 0) pe_str rfl) (pss_one (ps_ret (pe_lst (pa_cons pe_str (pa_cons (pe_ifExp (pt_val (pv 2)) (pe_cKS (c_numberOf T) hr tk (pk_cons (pv 1) pk_nil)) (pe_cS (c_numberOf T) hr tk (pa_cons (pv 1) pa_nil))) pa_nil))))) pss_nil) (pss_cons (ps_if (pt_cmpR op_eq (pv 0) pe_str rfl) (pss_one (ps_ret (pe_lst (pa_cons pe_str (pa_cons (pe_ifExp (pt_val (pv 2)) (pe_cKS (c_wordsOf T) hr tk (pk_cons (pv 1) pk_nil)) (pe_cS (c_wordsOf T) hr tk (pa_cons (pv 1) pa_nil))) pa_nil))))) pss_nil) (pss_cons (ps_if (pt_cmpR op_eq (pv 0) pe_str rfl) (pss_one (ps_ret (pe_lst (pa_cons pe_str (pa_cons (pe_ifExp (pt_val (pv 2)) (pe_cKS (c_linesOf T) hr tk (pk_cons (pv 1) pk_nil)) (pe_cS (c_linesOf T) hr tk (pa_cons (pv 1) pa_nil))) pa_nil))))) pss_nil) (pss_cons (ps_if (pt_cmpR op_eq (pv 0) pe_str rfl) (pss_one (ps_ret (pe_lst (pa_cons pe_str (pa_cons (pe_ifExp (pt_val (pv 2)) (pe_nK (c_name T) (hr.mono (by decide)) (pk_cons (pv 1) pk_nil)) (pe_n (c_name T) (hr.mono (by decide)) (pa_cons (pv 1) pa_nil))) pa_nil))))) pss_nil) (pss_one (ps_ret (pe_lst (pa_cons pe_str (pa_cons (pe_ifExp (pt_val (pv 2)) (pe_nK (c_isText T) (hr.mono (by decide)) (pk_cons (pv 1) pk_nil)) (pe_n (c_isText T) (hr.mono (by decide)) (pa_cons (pv 1) pa_nil))) pa_nil))))))))))) (HdsAs.cons (i := 3) ⟨rfl, by decide, .inl MN.glo⟩ rfl rfl (fun a oe cls d pn hz hf => (pss_one (ps_ret (pe_lst (pa_cons pe_str (pa_cons (pe_byE hz hf (pv 3)) pa_nil)))))) (HdsAs.cons (i := 3) ⟨rfl, by decide, .inl MM.glo⟩ rfl rfl (fun a oe cls d pn hz hf => (pss_one (ps_ret (pe_lst (pa_cons pe_str (pa_cons (pe_byE hz hf (pv 3)) pa_nil)))))) (HdsAs.cons (i := 3) ⟨rfl, by decide, .inl MT.glo⟩ rfl rfl (fun a oe cls d pn hz hf => (pss_one (ps_ret (pe_lst (pa_cons pe_str (pa_cons (pe_byE hz hf (pv 3)) pa_nil)))))) HdsAs.nil))))), ?_⟩
  have tq : ∀ (z : List Nat) (H1 : Hp), EvT (tTest (tOp rEq (tVar 0) (tC (.str (S z))))) (start ["word", "value", "named", "e"] [.str (S wd.l), v, .bl nm]) H1 (wd.l == z) := fun z H1 => et_test (ev_op (x := .str (S wd.l)) (y := .str (S z)) (ev_var rfl) ev_c rv_eqS)
  cases wd with
  | at_ =>
    refine q_when (b := true) (tq [97, 116] _) (fun _ H1 e1 => ?_) (fun h => by cases h)
    cases hb : between v n 0 4000 with
    | true =>
      exact s_told (R := fun x H2 => x = .str (S (goN ((intOf v).toNat + 1) [])) ∧ Ex H1 H2) rfl rfl (fun Q' hq => ⟨v, n, rfl, k.mono e1, fun _ H2 e2 => hq _ _ ⟨rfl, e2⟩, fun z => absurd (hb.symm.trans z) (by decide)⟩) fun x H2 r p hp => by
        rw [r.1]
        exact rt_new (q.1 hb) (e1.trans r.2) hp
    | false =>
      exact s_told (R := fun x H2 => False) rfl rfl (fun Q' hq => ⟨v, n, rfl, k.mono e1, fun z => absurd (hb.symm.trans z) (by decide), fun _ d H2 hd e2 h2 => ⟨true, xNN, fun _ a ha => s_suite MN (Q := Q) rfl h2 (e1.trans e2) (q.2 hb), fun z => (by cases z)⟩⟩) fun x H2 r => r.elim
  | number =>
    refine q_when (b := false) (tq [97, 116] _) (fun h => by cases h) (fun _ H0 e0 => q_when (b := true) (tq [110, 117, 109, 98, 101, 114] _) (fun _ H1 e1' => ?_) (fun h => by cases h))
    have e1 := e0.trans e1'
    cases hb : nameV v n with
    | true =>
      exact s_told (R := fun x H2 => x = .int ((numL (strL v) : Int) - 1) ∧ Ex H1 H2) rfl rfl (fun Q' hq => ⟨v, n, rfl, k.mono e1, fun _ H2 e2 => hq _ _ ⟨rfl, e2⟩, fun z => absurd (hb.symm.trans z) (by decide)⟩) fun x H2 r p hp => by
        rw [r.1]
        exact rt_new (q.1 hb) (e1.trans r.2) hp
    | false =>
      exact s_told (R := fun x H2 => False) rfl rfl (fun Q' hq => ⟨v, n, rfl, k.mono e1, fun z => absurd (hb.symm.trans z) (by decide), fun _ d H2 hd e2 h2 => ⟨false, xMN, fun z => (by cases z), fun _ => ⟨true, xMM, fun _ a ha => s_suite MM (Q := Q) rfl h2 (e1.trans e2) (q.2 hb), fun z => (by cases z)⟩⟩⟩) fun x H2 r => r.elim
  | words =>
    refine q_when (b := false) (tq [97, 116] _) (fun h => by cases h) (fun _ H0 e0 => q_when (b := false) (tq [110, 117, 109, 98, 101, 114] _) (fun h => by cases h) (fun _ H01 e01 => q_when (b := true) (tq [119, 111, 114, 100, 115] _) (fun _ H1 e1' => ?_) (fun h => by cases h)))
    have e1 := (e0.trans e01).trans e1'
    cases hb : textV v n with
    | true =>
      exact s_told (R := fun x H2 => ∃ t, x = .ref t ∧ H2 t = some (.tup (txl (wds (strL v)))) ∧ Ex H1 H2) rfl rfl (fun Q' hq => ⟨v, n, rfl, k.mono e1, fun _ t H2 ht e2 h2 => hq _ _ ⟨t, rfl, h2, e2⟩, fun z => absurd (hb.symm.trans z) (by decide)⟩) fun x H2 r p hp => by
        obtain ⟨t, rfl, ht, e2⟩ := r
        exact q.1 hb p t _ (fresh_back (e1.trans e2) hp) ((e1.trans e2).trans (Ex.new hp)) (by rw [upd_ne (ne_of_none ht hp)]; exact ht) upd_same
    | false =>
      exact s_told (R := fun x H2 => False) rfl rfl (fun Q' hq => ⟨v, n, rfl, k.mono e1, fun z => absurd (hb.symm.trans z) (by decide), fun _ d H2 hd e2 h2 => ⟨false, xTN, fun z => (by cases z), fun _ => ⟨false, xTM, fun z => (by cases z), fun _ => ⟨true, xTT, fun _ a ha => s_suite MT (Q := Q) rfl h2 (e1.trans e2) (q.2 hb), fun z => (by cases z)⟩⟩⟩⟩) fun x H2 r => r.elim
  | lines =>
    refine q_when (b := false) (tq [97, 116] _) (fun h => by cases h) (fun _ H0 e0 => q_when (b := false) (tq [110, 117, 109, 98, 101, 114] _) (fun h => by cases h) (fun _ H01 e01 => q_when (b := false) (tq [119, 111, 114, 100, 115] _) (fun h => by cases h) (fun _ H02 e02 => q_when (b := true) (tq [108, 105, 110, 101, 115] _) (fun _ H1 e1' => ?_) (fun h => by cases h))))
    have e1 := ((e0.trans e01).trans e02).trans e1'
    cases hb : textV v n with
    | true =>
      exact s_told (R := fun x H2 => ∃ t, x = .ref t ∧ H2 t = some (.tup (txl (lns (strL v) []))) ∧ Ex H1 H2) rfl rfl (fun Q' hq => ⟨v, n, rfl, k.mono e1, fun _ t H2 ht e2 h2 => hq _ _ ⟨t, rfl, h2, e2⟩, fun z => absurd (hb.symm.trans z) (by decide)⟩) fun x H2 r p hp => by
        obtain ⟨t, rfl, ht, e2⟩ := r
        exact q.1 hb p t _ (fresh_back (e1.trans e2) hp) ((e1.trans e2).trans (Ex.new hp)) (by rw [upd_ne (ne_of_none ht hp)]; exact ht) upd_same
    | false =>
      exact s_told (R := fun x H2 => False) rfl rfl (fun Q' hq => ⟨v, n, rfl, k.mono e1, fun z => absurd (hb.symm.trans z) (by decide), fun _ d H2 hd e2 h2 => ⟨false, xTN, fun z => (by cases z), fun _ => ⟨false, xTM, fun z => (by cases z), fun _ => ⟨true, xTT, fun _ a ha => s_suite MT (Q := Q) rfl h2 (e1.trans e2) (q.2 hb), fun z => (by cases z)⟩⟩⟩⟩) fun x H2 r => r.elim
  | name =>
    refine q_when (b := false) (tq [97, 116] _) (fun h => by cases h) (fun _ H0 e0 => q_when (b := false) (tq [110, 117, 109, 98, 101, 114] _) (fun h => by cases h) (fun _ H01 e01 => q_when (b := false) (tq [119, 111, 114, 100, 115] _) (fun h => by cases h) (fun _ H02 e02 => q_when (b := false) (tq [108, 105, 110, 101, 115] _) (fun h => by cases h) (fun _ H03 e03 => q_when (b := true) (tq [110, 97, 109, 101] _) (fun _ H1 e1' => ?_) (fun h => by cases h)))))
    have e1 := (((e0.trans e01).trans e02).trans e03).trans e1'
    exact s_toldN (R := fun x H2 => x = .bl (nameV v n) ∧ Ex H1 H2) rfl rfl (fun Q' hq => ⟨v, n, rfl, k.mono e1, fun H2 e2 => hq _ _ ⟨rfl, e2⟩⟩) fun x H2 r p hp => by
      rw [r.1]
      exact rt_new q (e1.trans r.2) hp
  | text =>
    refine q_when (b := false) (tq [97, 116] _) (fun h => by cases h) (fun _ H0 e0 => q_when (b := false) (tq [110, 117, 109, 98, 101, 114] _) (fun h => by cases h) (fun _ H01 e01 => q_when (b := false) (tq [119, 111, 114, 100, 115] _) (fun h => by cases h) (fun _ H02 e02 => q_when (b := false) (tq [108, 105, 110, 101, 115] _) (fun h => by cases h) (fun _ H03 e03 => q_when (b := false) (tq [110, 97, 109, 101] _) (fun h => by cases h) (fun _ H1 e1' => ?_)))))
    have e1 := (((e0.trans e01).trans e02).trans e03).trans e1'
    exact s_toldN (R := fun x H2 => x = .bl (textV v n) ∧ Ex H1 H2) rfl rfl (fun Q' hq => ⟨v, n, rfl, k.mono e1, fun H2 e2 => hq _ _ ⟨rfl, e2⟩⟩) fun x H2 r p hp => by
      rw [r.1]
      exact rt_new q (e1.trans r.2) hp
end KF
set_option Elab.async false
set_option linter.all false
set_option maxRecDepth 100000
set_option maxHeartbeats 4000000
/-! EG: _law_grown, _law_copy. -/
namespace KF
open PySem PySem.Spec PyProof.Rows L2 TEX He Evl
open SX (S S_tl S_len S_cat S_inj)
variable {P : Program} {w : World} {K : PySem.W.Frag} {mg : Str → Option Value} {base : Heap}
def Grown (H : Hp) (v : V) (n : String) (H2 : Hp) : Prop := match n with
  | "list" => ∃ a xs, v = .ref a ∧ H a = some (.lst xs) ∧ Kp a H H2 ∧ H2 a = some (.lst (xs ++ [.str "more"]))
  | "dict" => ∃ a kvs, v = .ref a ∧ H a = some (.dK kvs) ∧ Kp a H H2 ∧ H2 a = some (.dK (putK kvs (Sum.inr "more") (.int 1)))
  | _ => Ex H H2
/-- small enough -/
def Smal (H : Hp) (v : V) : Prop := ∀ a, v = .ref a → (∀ xs, H a = some (.lst xs) → xs.length ≤ 1000) ∧ ∀ kvs, H a = some (.dK kvs) → kvs.length ≤ 1000
def spGrown : Sp := fun vs H Q _ => ∃ v n, vs = [v] ∧ Kd H v n ∧ Smal H v ∧ ∀ H2, Grown H v n H2 → Q .non H2
theorem sc18 : FnScope ["value"] ["value"] (defScope (KH.top 77)) := ⟨rfl, rfl, rfl, by decide +kernel, rfl, by decide +kernel, by decide +kernel⟩
theorem c_grown (T : Env P w K mg base) : Callee P w K mg base CXN 1 "_law_grown" ["value"] spGrown := by
  obtain ⟨fd, F⟩ := T.fn 18 (d := KH.dd "_law_grown" 77)
  refine callee (st := KH.top 77) F (T.glo 18 (d := KH.dd "_law_grown" 77)) sc18 (fun _ _ _ _ _ _ us hl => match us, hl with | [_], _ => rfl) (fun _ _ _ _ _ _ us hl => match us, hl with | [_], _ => rfl) (fun vs H Q E h => by obtain ⟨v, n, rfl, _⟩ := h; rfl) ?_
  intro cdv A outer s H vs Q E hr h
  obtain ⟨v, n, rfl, k, sm, q⟩ := h
  have nd := sc18.nd
  refine ⟨_, (PSs.nox (pss_cons (ps_if (pt_val (pe_callB call_isi (by rfl) (T.free 0) (by decide +kernel) (pa_cons (pv 0) (pa_cons (pe_bltn (v := .ty "list") (by rfl) (T.free 10) (by decide +kernel) rfl) pa_nil)))) (pss_one (ps_expr (pe_bm PySem.F.plainAttrs_list PySem.F.slot_list_append PySem.F.type_list_append mt_append (pv 0) (pa_cons pe_str pa_nil)))) pss_nil) (pss_one (ps_if (pt_val (pe_callB call_isi (by rfl) (T.free 0) (by decide +kernel) (pa_cons (pv 0) (pa_cons (pe_bltn (v := .ty "dict") (by rfl) (T.free 11) (by decide +kernel) rfl) pa_nil)))) (pss_one (ps_dput (hu_of hr) (pv 0) pe_str pe_int rfl)) pss_nil)))), ?_⟩
  have ti : ∀ (t : String) (H1 : Hp), t ∈ tys → Kd H1 v n → EvT (tB (tCB (rIsi K) (tCons (tVar 0) (tCons (tC (.ty t)) tNil)))) (start ["value"] [v]) H1 (isB n t) := fun t H1 ht k1 => et_B (ev_isi (ev_var rfl) k1 ht)
  cases k with
  | @lst a xs ha =>
    have hx := (sm a rfl).1 xs ha
    refine q_when (b := true) (et_is (ti "list" H (by decide) (.lst ha)) (by decide)) (fun _ H1 e1 => ?_) (fun h => by cases h)
    refine s_app (v := .str "more") (e1 _ _ ha) (ev_var rfl) ev_c (by omega) fun H2 e2 => ?_
    have h2 : upd H2 a (.lst (xs ++ [.str "more"])) a = some (.lst (xs ++ [.str "more"])) := upd_same
    refine s_when (b := false) (et_is (ti "dict" _ (by decide) (.lst h2)) (by decide)) (fun h => by cases h) (fun _ H3 e3 => q H3 ⟨a, xs, rfl, ha, (Kp.mut (Kp.of (e1.trans e2))).trans (Kp.of e3), e3 _ _ h2⟩)
  | @dct a kvs ha =>
    have hx := (sm a rfl).2 kvs ha
    refine q_when (b := false) (et_is (ti "list" H (by decide) (.dct ha)) (by decide)) (fun h => by cases h) (fun _ H1 e1 => ?_)
    refine s_when (b := true) (et_is (ti "dict" H1 (by decide) (.dct (e1 _ _ ha))) (by decide)) (fun _ H2 e2 => ?_) (fun h => by cases h)
    exact ⟨_, rfl, a, _, rfl, .inl ⟨kvs, Sum.inr "more", e2 _ _ (e1 _ _ ha), rfl, sz_lt (by omega), rfl⟩, q _ ⟨a, kvs, rfl, ha, Kp.mut (Kp.of (e1.trans e2)), upd_same⟩⟩
  | non =>
    refine q_when (b := false) (et_is (ti "list" H (by decide) .non) (by decide)) (fun h => by cases h) (fun _ H1 e1 => ?_)
    exact s_when (b := false) (et_is (ti "dict" H1 (by decide) .non) (by decide)) (fun h => by cases h) (fun _ H2 e2 => q H2 (e1.trans e2))
  | bl b =>
    refine q_when (b := false) (et_is (ti "list" H (by decide) (.bl b)) (by decide)) (fun h => by cases h) (fun _ H1 e1 => ?_)
    exact s_when (b := false) (et_is (ti "dict" H1 (by decide) (.bl b)) (by decide)) (fun h => by cases h) (fun _ H2 e2 => q H2 (e1.trans e2))
  | int i =>
    refine q_when (b := false) (et_is (ti "list" H (by decide) (.int i)) (by decide)) (fun h => by cases h) (fun _ H1 e1 => ?_)
    exact s_when (b := false) (et_is (ti "dict" H1 (by decide) (.int i)) (by decide)) (fun h => by cases h) (fun _ H2 e2 => q H2 (e1.trans e2))
  | str l h1 h2 =>
    refine q_when (b := false) (et_is (ti "list" H (by decide) (.str l h1 h2)) (by decide)) (fun h => by cases h) (fun _ H1 e1 => ?_)
    exact s_when (b := false) (et_is (ti "dict" H1 (by decide) (.str l h1 h2)) (by decide)) (fun h => by cases h) (fun _ H2 e2 => q H2 (e1.trans e2))
  | @tup a xs ha =>
    refine q_when (b := false) (et_is (ti "list" H (by decide) (.tup ha)) (by decide)) (fun h => by cases h) (fun _ H1 e1 => ?_)
    exact s_when (b := false) (et_is (ti "dict" H1 (by decide) (.tup (e1 _ _ ha))) (by decide)) (fun h => by cases h) (fun _ H2 e2 => q H2 (e1.trans e2))
def Copied (H : Hp) (v : V) (n : String) (Q : VK) : Prop := match n with
  | "list" => ∀ a xs, v = .ref a → H a = some (.lst xs) → RetL xs H Q
  | "dict" => ∀ a kvs, v = .ref a → H a = some (.dK kvs) → ∀ p H2, H p = none → Ex H H2 → H2 p = some (.dK (mergeK [] kvs)) → Q (.ref p) H2
  | _ => RetV v H Q
def spCopy : Sp := fun vs H Q _ => ∃ v n, vs = [v] ∧ Kd H v n ∧ Copied H v n Q
theorem sc20 : FnScope ["value"] ["value"] (defScope (KH.top 79)) := ⟨rfl, rfl, rfl, by decide +kernel, rfl, by decide +kernel, by decide +kernel⟩
theorem c_copy (T : Env P w K mg base) : Callee P w K mg base CXN 1 "_law_copy" ["value"] spCopy := by
  obtain ⟨fd, F⟩ := T.fn 20 (d := KH.dd "_law_copy" 79)
  refine callee (st := KH.top 79) F (T.glo 20 (d := KH.dd "_law_copy" 79)) sc20 (fun _ _ _ _ _ _ us hl => match us, hl with | [_], _ => rfl) (fun _ _ _ _ _ _ us hl => match us, hl with | [_], _ => rfl) (fun vs H Q E h => by obtain ⟨v, n, rfl, _⟩ := h; rfl) ?_
  intro cdv A outer s H vs Q E hr h
  obtain ⟨v, n, rfl, k, q⟩ := h
  have nd := sc20.nd
  refine ⟨_, (PSs.nox (pss_one (ps_ret (pe_ifExp (pt_val (pe_callB call_isi (by rfl) (T.free 0) (by decide +kernel) (pa_cons (pv 0) (pa_cons (pe_bltn (v := .ty "list") (by rfl) (T.free 10) (by decide +kernel) rfl) pa_nil)))) (pe_callTy call_list_of (by rfl) (T.free 10) (by decide +kernel) (pa_cons (pv 0) pa_nil)) (pe_ifExp (pt_val (pe_callB call_isi (by rfl) (T.free 0) (by decide +kernel) (pa_cons (pv 0) (pa_cons (pe_bltn (v := .ty "dict") (by rfl) (T.free 11) (by decide +kernel) rfl) pa_nil)))) (pe_callTy (call_dictP rfl) (by rfl) (T.free 11) (by decide +kernel) (pa_cons (LiI.pe_listItems rfl (pv 0) (by rfl) (T.free 10) (by decide +kernel)) pa_nil)) (pv 0)))))), ?_⟩
  have ti : ∀ (t : String) (H1 : Hp), t ∈ tys → Kd H1 v n → EvT (tB (tCB (rIsi K) (tCons (tVar 0) (tCons (tC (.ty t)) tNil)))) (start ["value"] [v]) H1 (isB n t) := fun t H1 ht k1 => et_B (ev_isi (ev_var rfl) k1 ht)
  have nn : isB n "list" = false → isB n "dict" = false → RetV v H Q → (tRet (tIf (tB (tCB (rIsi K) (tCons (tVar 0) (tCons (tC (.ty "list")) tNil)))) (tCB (fun xs H Q => ∃ p ys, xs = [V.ref p] ∧ (SqL K H p ys ∨ SqT K H p ys) ∧ ∀ l, H l = none → Q (.ref l) (upd H l (.lst ys))) (tCons (tVar 0) tNil)) (tIf (tB (tCB (rIsi K) (tCons (tVar 0) (tCons (tC (.ty "dict")) tNil)))) (tCB (fun xs H Q => ∃ (a : Addr) (ps : List Addr) (kvs : List (Key × V)), xs = [V.ref a] ∧ SqL K H a (ps.map V.ref) ∧ Paired (fun p kv => SqT K H p [kV kv.1, kv.2]) ps kvs ∧ ∀ p, H p = none → Q (.ref p) (upd H p (.dK (mergeK [] kvs)))) (tCons (LiI.tListItems (tVar 0)) tNil)) (tVar 0)))) { nx := fun _ H' => Q .non H', rt := Q } (start ["value"] [v]) H := fun h1 h2 q => by
    refine s_ret (ev_if (b := false) (et_is (ti "list" H (by decide) k) h1) (fun h => by cases h) fun _ => ev_if (b := false) (et_is (ti "dict" H (by decide) k) h2) (fun h => by cases h) fun _ => ev_var rfl) fun H2 e2 => q H2 e2
  cases k with
  | @lst a xs ha =>
    refine ti "list" H (by decide) (.lst ha) H (Ex.refl _) _ fun H1 e1 => ?_
    rw [if_pos (by decide)]
    exact ⟨_, rfl, a, xs, rfl, .inl (sq_of (e1 _ _ ha)), fun l hl => q a xs rfl ha l _ (fresh_back e1 hl) (e1.trans (Ex.new hl)) upd_same⟩
  | @dct a kvs ha =>
    refine ti "list" H (by decide) (.dct ha) H (Ex.refl _) _ fun H1 e1 => ?_
    rw [if_neg (by decide)]
    refine ti "dict" H1 (by decide) (.dct (e1 _ _ ha)) H1 (Ex.refl _) _ fun H2 e2 => ?_
    rw [if_pos (by decide)]
    refine ⟨_, rfl, a, kvs, rfl, e2 _ _ (e1 _ _ ha), fun H3 p ts e3 hp hts hpt h3 hpd => ⟨p, ts, kvs, rfl, sq_of h3, Paired.mapP hpd fun _ _ z => st_of z, fun r hr => ?_⟩⟩
    exact q a kvs rfl ha r _ (fresh_back ((e1.trans e2).trans e3) hr) (((e1.trans e2).trans e3).trans (Ex.new hr)) upd_same
  | non => exact nn (by decide) (by decide) q
  | bl b => exact nn (by decide) (by decide) q
  | int i => exact nn (by decide) (by decide) q
  | str l h1 h2 => exact nn (by decide) (by decide) q
  | @tup a xs ha => exact nn (by decide) (by decide) q
end KF
set_option Elab.async false
set_option linter.all false
set_option maxRecDepth 100000
set_option maxHeartbeats 4000000
/-! EH: text times int; told and same together. -/
namespace KF
open PySem PySem.Spec PyProof.Rows L2 TEX He Evl
open SX (S S_tl S_len S_cat S_inj)
variable {P : Program} {w : World} {K : PySem.W.Frag} {mg : Str → Option Value} {base : Heap}
theorem foldl_app (L : List (Array Nat)) : ∀ acc : Array Nat, (L.foldl (· ++ ·) acc).toList = acc.toList ++ (L.map Array.toList).flatten := by
  induction L with
  | nil => intro acc; simp
  | cons x r ih =>
    intro acc
    rw [List.foldl_cons, ih, List.map_cons, List.flatten_cons, Array.toList_append, List.append_assoc]
def mulL (k : Nat) (l : List Nat) : List Nat := (List.replicate k l).flatten
theorem mul_S (k : Nat) (l : List Nat) : (⟨(List.replicate k (S l).cps).foldl (· ++ ·) #[]⟩ : Str) = S (mulL k l) := by
  have e := foldl_app (List.replicate k (S l).cps) #[]
  have e2 : (List.replicate k (S l).cps).map Array.toList = List.replicate k l := by simp
  rw [e2] at e
  have e3 : (List.replicate k (S l).cps).foldl (· ++ ·) #[] = (mulL k l).toArray := by
    apply Array.toList_inj.mp
    rw [e]
    rfl
  rw [e3]
theorem op_mulS {X : Cx} : OpR X (binaryOp .Mult) (fun x y H Q => ∃ (a : List Nat) (k : Nat), x = .str (S a) ∧ y = .int (k : Int) ∧ 2 ≤ k ∧ 1 ≤ a.length ∧ a.length * k ≤ 2000000 ∧ Q (.str (S (mulL k a))) H) := by
  intro pins s σ H x y v u Q I rx ry h
  obtain ⟨a, k, rfl, rfl, hk, ha, hz, q⟩ := h
  obtain ⟨t, rfl⟩ := rx
  obtain ⟨t', rfl⟩ := ry
  have hk2 : k ≤ 2000000 := Nat.le_trans (Nat.le_mul_of_pos_left k ha) hz
  have n1 : ¬ (k : Int) < 1 := by omega
  have n2 : ((k : Int) == 1 || (S a).length == 0) = false := by
    rw [S_len]
    have : ((k : Int) == 1) = false := beq_false_of_ne (by omega)
    have h2 : (a.length == 0) = false := beq_false_of_ne (by omega)
    rw [this, h2]
    rfl
  have hr : (decide ((k : Int) < -(2 ^ 63 : Int)) || decide ((k : Int) ≥ 2 ^ 63)) = false := by
    rw [decide_eq_false (by omega), decide_eq_false (by omega)]
    rfl
  have hb : ¬ (((S a).length : Int) > (2 ^ 63 - 1) / (k : Int)) := by
    rw [S_len]
    have h1 : (a.length : Int) ≤ (2 ^ 63 - 1) / (k : Int) := Int.le_ediv_of_mul_le (by omega) (by
      have h3 : ((a.length * k : Nat) : Int) ≤ 2000000 := by omega
      rw [Int.natCast_mul] at h3
      exact Int.le_trans h3 (by decide))
    omega
  have hl : Builtin.Str.tooLong ((S a).length * (k : Int).toNat) = false := by
    rw [S_len, Int.toNat_natCast]
    unfold Builtin.Str.tooLong
    exact decide_eq_false (Nat.not_lt.mpr (Nat.le_trans hz (by decide)))
  refine PySem.P.mul_str hr (fun _ _ => hb) (fun _ _ => hl) ?_
  rw [if_neg n1, if_neg (by rw [n2]; exact Bool.false_ne_true), Int.toNat_natCast, mul_S]
  refine ⟨?_, .str (S (mulL k a)), H, I.tok _, ⟨_, rfl⟩, q⟩
  rw [S_len]
  unfold mulL
  rw [List.length_flatten, List.map_replicate, List.sum_replicate_nat]
  rw [Nat.mul_comm]
  exact Nat.le_trans hz (by decide)
theorem mulL_len (k : Nat) (l : List Nat) : (mulL k l).length = k * l.length := by
  unfold mulL
  rw [List.length_flatten, List.map_replicate, List.sum_replicate_nat]
theorem mulL_all {k : Nat} {l : List Nat} {p : Nat → Bool} (h : l.all p = true) : (mulL k l).all p = true := by
  unfold mulL
  rw [List.all_eq_true]
  intro c hc
  obtain ⟨x, hx, hc⟩ := List.mem_flatten.mp hc
  rw [List.eq_of_mem_replicate hx] at hc
  exact List.all_eq_true.mp h c hc
section
variable {σ : L2.St} {H : Hp} {ta tb tc te : TE} {t : TT} {tl : TA}
theorem ev_mulS {a : List Nat} {k : Nat} (h1 : Ev ta σ H (.str (S a))) (h2 : Ev tb σ H (.int (k : Int))) (hk : 2 ≤ k) (ha : 1 ≤ a.length) (hz : a.length * k ≤ 2000000) :
    Ev (tOp (fun x y H Q => ∃ (a : List Nat) (k : Nat), x = .str (S a) ∧ y = .int (k : Int) ∧ 2 ≤ k ∧ 1 ≤ a.length ∧ a.length * k ≤ 2000000 ∧ Q (.str (S (mulL k a))) H) ta tb) σ H (.str (S (mulL k a))) :=
  ev_op h1 h2 fun H1 _ Q q => ⟨a, k, rfl, rfl, hk, ha, hz, q _ (Ex.refl _)⟩
/-- a new value with a property -/
def EvS (te : TE) (σ : L2.St) (H : Hp) (P : V → Hp → Prop) : Prop := ∀ H1, Ex H H1 → ∀ Q : VK, (∀ a H2, H1 a = none → Ex H1 H2 → P (.ref a) H2 → Q (.ref a) H2) → te σ H1 Q
theorem EvS.mono {H' : Hp} {P : V → Hp → Prop} (e : Ex H H') (h : EvS te σ H P) : EvS te σ H' P := fun H1 e1 Q q => h H1 (e.trans e1) Q q
/-- the same: a scalar, or tuples of the same texts -/
def SameV (y due : V) (H : Hp) : Prop := (y = due ∧ ∀ H', Sn H' 0 y due) ∨ ∃ (t d : Addr) (ws : List (List Nat)), y = .ref t ∧ due = .ref d ∧ H t = some (.tup (txl ws)) ∧ H d = some (.tup (txl ws)) ∧ ws.length ≤ 30000 ∧ ∀ x ∈ ws, x.length ≤ 30000 ∧ x.all asc = true
theorem SameV.keep {H' : Hp} {y due : V} (h : SameV y due H) (e : ∀ a xs, H a = some (.tup xs) → H' a = some (.tup xs)) : SameV y due H' := by
  rcases h with h | ⟨t, d, ws, e1, e2, h1, h2, h3⟩
  · exact .inl h
  · exact .inr ⟨t, d, ws, e1, e2, e _ _ h1, e _ _ h2, h3⟩
theorem Sn.up {n : Nat} {x y : V} (h : Sn H 0 x y) : Sn H n x y := by
  cases h with
  | non => exact .non
  | bl b => exact .bl b
  | int i => exact .int i
  | str l h h2 => exact .str l h h2
theorem txl_get {ws : List (List Nat)} {i : Nat} {x : V} (h : (txl ws)[i]? = some x) : ∃ z, ws[i]? = some z ∧ x = .str (S z) := by
  unfold txl at h
  rw [List.getElem?_map] at h
  cases hz : ws[i]? with
  | none => rw [hz] at h; cases h
  | some z =>
    rw [hz] at h
    exact ⟨z, rfl, (Option.some.inj h).symm⟩
theorem SameV.sn {n : Nat} {y due : V} (h : SameV y due H) : Sn H (n + 1) y due := by
  rcases h with ⟨_, h⟩ | ⟨t, d, ws, rfl, rfl, h1, h2, h3, h4⟩
  · exact (h H).up
  · refine .tup h1 h2 rfl (by rw [txl_len]; exact h3) fun i x y hx hy => ?_
    rw [hx] at hy
    have e := Option.some.inj hy
    subst e
    obtain ⟨z, hz, rfl⟩ := txl_get hx
    obtain ⟨q1, q2⟩ := h4 z (List.mem_of_getElem? hz)
    exact .str z q1 q2
def TlV (due : V) : V → Hp → Prop := fun x H => ∃ p y, x = .ref p ∧ H p = some (.lst [.str "told", y]) ∧ SameV y due H
theorem TlV.keep {H' : Hp} {due x : V} {D : Addr} (h : TlV due x H) (hx : x ≠ .ref D) (e : ∀ a xs, a ≠ D → H a = some xs → H' a = some xs) (hD : ∃ xs, H D = some (.lst xs)) : TlV due x H' := by
  obtain ⟨p, y, rfl, h1, h2⟩ := h
  refine ⟨p, y, rfl, e _ _ (fun z => hx (by rw [z])) h1, h2.keep fun a xs ha => e a _ (fun z => ?_) ha⟩
  obtain ⟨us, hu⟩ := hD
  rw [z, hu] at ha
  cases ha
theorem TlV.ex {H' : Hp} {due x : V} (h : TlV due x H) (e : Ex H H') : TlV due x H' := by
  obtain ⟨p, y, rfl, h1, h2⟩ := h
  exact ⟨p, y, rfl, e _ _ h1, h2.keep fun a xs ha => e a _ ha⟩
theorem told_S : V.str "told" = V.str (S [116, 111, 108, 100]) := rfl
theorem sn_pair {n : Nat} {a b : Addr} {y due : V} (ha : H a = some (.lst [.str "told", y])) (hb : H b = some (.lst [.str "told", due])) (h : SameV y due H) : Sn H (n + 2) (.ref a) (.ref b) := by
  refine .lst ha hb rfl (by show 2 ≤ 30000; decide) fun i x z hx hz => ?_
  match i with
  | 0 =>
    have e1 : x = .str "told" := (Option.some.inj hx).symm
    have e2 : z = .str "told" := (Option.some.inj hz).symm
    subst e1 e2
    exact .str [116, 111, 108, 100] (by decide) (by decide)
  | 1 =>
    have e1 : x = y := (Option.some.inj hx).symm
    have e2 : z = due := (Option.some.inj hz).symm
    subst e1 e2
    exact h.sn
  | i + 2 => cases hx
/-- how a word is told -/
def TOk (wd : Wd) (v : V) (n : String) (due : V) (H : Hp) : Prop := ∀ H1 Q, Ex H H1 → (∀ a H2, H1 a = none → Ex H1 H2 → TlV due (.ref a) H2 → Q (.ref a) H2) → toldQ wd v n H1 Q
theorem es_told {wd : Wd} {v : V} {n : String} {nm : Bool} {due : V} (h : EvA tl σ H [.str (S wd.l), v, .bl nm]) (k : Kd H v n) (ok : TOk wd v n due H) : EvS (tCall spTold [] EN tl) σ H (TlV due) := fun H1 e Q q =>
  h H1 e _ fun H2 e2 => ⟨wd, v, n, nm, rfl, k.mono (e.trans e2), ok H2 Q (e.trans e2) fun a H3 ha e3 p => q a H3 (fresh_back e2 ha) (e2.trans e3) p⟩
theorem ev_same1 {due : V} (h1 : EvS ta σ H (TlV due)) (h2 : EvL tb σ H [.str "told", due]) : Ev (tCall (spSame 3) [] EN (tCons ta (tCons tb tNil))) σ H (.bl true) := fun H1 e Q q =>
  h1 H1 e _ fun a H2 ha e2 pt => h2 H2 (e.trans e2) _ fun d H3 hd e3 h3 => ⟨.ref a, .ref d, rfl, .inl (by
    obtain ⟨p, y, hp, g1, g2⟩ := pt
    cases hp
    exact sn_pair (e3 _ _ g1) h3 (g2.keep fun a xs ha => e3 a _ ha)), fun H4 e4 => q H4 ((e2.trans e3).trans e4)⟩
def P2 (due : V) : V → Hp → Prop := fun x H => ∃ D a b, x = .ref D ∧ H D = some (.lst [a, b]) ∧ TlV due a H ∧ TlV due b H
def P3 (due : V) : V → Hp → Prop := fun x H => ∃ D p, x = .ref D ∧ H D = some (.lst [.ref p, .ref p]) ∧ H p = some (.lst [.str "told", due])
theorem ev_same2 {due : V} (h1 : EvS ta σ H (P2 due)) (h2 : EvS tb σ H (P3 due)) : Ev (tCall (spSame 3) [] EN (tCons ta (tCons tb tNil))) σ H (.bl true) := fun H1 e Q q =>
  h1 H1 e _ fun a H2 ha e2 pt => h2 H2 (e.trans e2) _ fun d H3 hd e3 h3 => ⟨.ref a, .ref d, rfl, .inl (by
    obtain ⟨D, x, y, hp, g1, g2, g3⟩ := pt
    obtain ⟨D2, p, hp2, g4, g5⟩ := h3
    cases hp
    cases hp2
    obtain ⟨p1, y1, rfl, g6, g7⟩ := g2.ex e3
    obtain ⟨p2, y2, rfl, g8, g9⟩ := g3.ex e3
    refine .lst (e3 _ _ g1) g4 rfl (by show 2 ≤ 30000; decide) fun i u z hu hz => ?_
    match i with
    | 0 =>
      have e1 : u = .ref p1 := (Option.some.inj hu).symm
      have e2 : z = .ref p := (Option.some.inj hz).symm
      subst e1 e2
      exact sn_pair g6 g5 g7
    | 1 =>
      have e1 : u = .ref p2 := (Option.some.inj hu).symm
      have e2 : z = .ref p := (Option.some.inj hz).symm
      subst e1 e2
      exact sn_pair g8 g5 g9
    | i + 2 => cases hu), fun H4 e4 => q H4 ((e2.trans e3).trans e4)⟩
/-- [['told', due]] * 2 -/
theorem es_rep {td : TE} {due : V} (h : Ev td σ H due) : EvS (tOp rRep (tLst (tCons (tLst (tCons (tC (.str "told")) (tCons td tNil))) tNil)) (tC (.int 2))) σ H (P3 due) := fun H1 e Q q =>
  h H1 e _ fun H2 e2 => ⟨by show 2 ≤ sizeLine; decide, fun p hp => ⟨by show 1 ≤ sizeLine; decide, fun l hl => ⟨l, 2, [.ref p], rfl, rfl, upd_same, by decide, by decide, by show 1 * 2 ≤ sizeLine; decide, fun r hr => by
    have e3 := (Ex.new (o := .lst [.str "told", due]) hp).trans (Ex.new (o := .lst [.ref p]) hl)
    have hp3 := Ex.new (o := .lst [.ref p]) hl p _ upd_same
    refine q r _ (fresh_back (e2.trans e3) hr) ((e2.trans e3).trans (Ex.new hr)) ⟨r, p, rfl, upd_same, Ex.new hr p _ hp3⟩⟩⟩⟩
/-- [told(word, value, way) for way in (named, not named)] -/
theorem es_told2 {K : PySem.W.Frag} {wd : Wd} {v : V} {n : String} {b : Bool} {due : V} {nm i j y : Nat} (hn : σ[nm]? = some (some (.bl b))) (hw : ∀ x, wipe ((wipe σ [y]).set y (some x)) [y] = wipe σ [y]) (hi : ∀ x, ((wipe σ [y]).set y (some x))[i]? = some (some (.str (S wd.l)))) (hj : ∀ x, ((wipe σ [y]).set y (some x))[j]? = some (some v))
    (hy : ∀ x, ((wipe σ [y]).set y (some x))[y]? = some (some x)) (k : Kd H v n) (ok : TOk wd v n due H) :
    EvS (tLc (iTup K (tTup (tCons (tVar nm) (tCons (tNotV (tVar nm)) tNil)))) (gName y) tYes (tCall spTold [] EN (tCons (tVar i) (tCons (tVar j) (tCons (tVar y) tNil)))) [y]) σ H (P2 due) := fun H1 e Q q => by
  refine ⟨_, hn, _, hn, b, rfl, by show 2 ≤ sizeLine; decide, fun t ht => ⟨t, rfl, ⟨[.bl b, .bl (!b)], st_of upd_same⟩, fun D hD => ?_⟩⟩
  have hDt : D ≠ t := fun z => by rw [z, upd_same] at hD; cases hD
  have hD1 : H1 D = none := by rw [upd_ne hDt] at hD; exact hD
  refine lc_it (J := Itt K t) (n := 2) (walk_tup (K := K) (xs := [.bl b, .bl (!b)])) (fun i H' => ∃ acc, acc.length = i ∧ H' D = some (.lst acc) ∧ (∀ x ∈ acc, TlV due x H' ∧ x ≠ .ref D) ∧ Ex H1 H' ∧ H' t = some (.tup [.bl b, .bl (!b)])) ⟨[], rfl, upd_same, fun x hx => (by cases hx), (Ex.new ht).trans (Ex.new hD), Ex.new hD _ _ upd_same⟩ (fun _ _ _ p => by obtain ⟨_, _, _, _, _, h⟩ := p; exact st_of h) (fun m x H' H'' hm p yl => ?_) (fun H' p => ?_)
  · obtain ⟨rfl, hx⟩ := yl
    obtain ⟨acc, a1, a2, a3, a4, a5⟩ := p
    have hb : ∃ bb, x = .bl bb := by
      match m with
      | 0 => exact ⟨_, (Option.some.inj hx).symm⟩
      | 1 => exact ⟨_, (Option.some.inj hx).symm⟩
      | m + 2 => omega
    obtain ⟨bb, rfl⟩ := hb
    refine ⟨hw _, t_yes (es_told (ea_cons (ev_var (hi _)) (ea_cons (ev_var (hj _)) (ea_cons (ev_var (hy _)) ea_nil))) (k.mono (e.trans a4)) (fun H2 Q2 e2 q2 => ok H2 Q2 ((e.trans a4).trans e2) q2) H'' (Ex.refl _) _ fun a H2 ha e2 pt => ⟨acc, e2 _ _ a2, by
      have : acc.length < 2 := by omega
      exact sz_lt (by omega), acc ++ [.ref a], by simp [a1], upd_same, fun x hx => ?_, Ex.mut (a4.trans e2) hD1, ?_⟩)⟩
    · have haD : V.ref a ≠ .ref D := fun z => by
        cases z
        rw [a2] at ha
        cases ha
      have key : ∀ z, TlV due z H2 → z ≠ .ref D → TlV due z (upd H2 D (.lst (acc ++ [.ref a]))) := fun z hz hn => hz.keep hn (fun c u hc hu => by rw [upd_ne hc]; exact hu) ⟨acc, e2 _ _ a2⟩
      rcases List.mem_append.mp hx with h | h
      · exact ⟨key x ((a3 x h).1.ex e2) (a3 x h).2, (a3 x h).2⟩
      · have e3 : x = .ref a := by simpa using h
        subst e3
        exact ⟨key _ pt haD, haD⟩
    · rw [upd_ne (Ne.symm hDt)]
      exact e2 _ _ a5
  · obtain ⟨acc, a1, a2, a3, a4, a5⟩ := p
    match acc, a1 with
    | [x, z], _ => exact q D H' hD1 a4 ⟨D, x, z, rfl, a2, (a3 x (by simp)).1, (a3 z (by simp)).1⟩
end
end KF
set_option Elab.async false
set_option linter.all false
set_option maxRecDepth 100000
set_option maxHeartbeats 4000000
/-! EI: _law_names_right. -/
namespace KF
open PySem PySem.Spec PyProof.Rows L2 TEX He Evl
open SX (S S_tl S_len S_cat S_inj)
variable {P : Program} {w : World} {K : PySem.W.Frag} {mg : Str → Option Value} {base : Heap}
/-! ### the words told of a scalar -/
theorem SameV.sc {v : V} (h : ∀ H', Sn H' 0 v v) (H : Hp) : SameV v v H := .inl ⟨rfl, h⟩
theorem tlv_of {H1 H2 : Hp} {p : Addr} {y due : V} (h : H2 p = some (.lst [.str "told", y])) (s : SameV y due H2) : TlV due (.ref p) H2 := ⟨p, y, rfl, h, s⟩
theorem tok_at {n : Nat} (hn : n ≤ 4000) (H : Hp) : TOk .at_ (.int (n : Int)) "int" (.str (S (goN (n + 1) []))) H := by
  intro H1 Q e q
  have hb : between (.int (n : Int)) "int" 0 4000 = true := by
    show (true && (decide ((0 : Int) ≤ n) && decide ((n : Int) ≤ 4000))) = true
    rw [decide_eq_true (by omega), decide_eq_true (by omega)]
    rfl
  refine ⟨fun _ p H2 hp e2 h2 => q p H2 hp e2 (tlv_of (H1 := H1) h2 (SameV.sc (fun H' => ?_) _)), fun z => absurd (hb.symm.trans z) (by decide)⟩
  have hl := goN_len 12 (n + 1) (by omega)
  show Sn H' 0 (.str (S (goN (n + 1) []))) (.str (S (goN (n + 1) [])))
  exact .str _ (by omega) (all_imp (fun c h => by unfold ltr at h; unfold asc; simp at h ⊢; omega) (goN_ltr (n + 1)))
theorem ltr_asc {c : Nat} (h : ltr c = true) : asc c = true := by
  unfold ltr at h
  unfold asc
  simp at h ⊢
  omega
theorem tok_num {l : List Nat} {k : Int} (hl : nameLb l = true) (hk : (numL l : Int) - 1 = k) (H : Hp) : TOk .number (.str (S l)) "str" (.int k) H := by
  intro H1 Q e q
  have hb : nameV (.str (S l)) "str" = true := hl
  subst hk
  exact ⟨fun _ p H2 hp e2 h2 => q p H2 hp e2 (tlv_of (H1 := H1) h2 (SameV.sc (fun H' => .int _) _)), fun z => absurd (hb.symm.trans z) (by decide)⟩
theorem tok_name {v : V} {n : String} {b : Bool} (h : nameV v n = b) (H : Hp) : TOk .name v n (.bl b) H := by
  intro H1 Q e q
  subst h
  exact fun p H2 hp e2 h2 => q p H2 hp e2 (tlv_of (H1 := H1) h2 (SameV.sc (fun H' => .bl _) _))
theorem tok_text {v : V} {n : String} {b : Bool} (h : textV v n = b) (H : Hp) : TOk .text v n (.bl b) H := by
  intro H1 Q e q
  subst h
  exact fun p H2 hp e2 h2 => q p H2 hp e2 (tlv_of (H1 := H1) h2 (SameV.sc (fun H' => .bl _) _))
/-! ### rows -/
def RowOk (H : Hp) (x : V) : Prop := ∃ (t : Addr) (wd : Wd) (v due : V) (n : String), x = .ref t ∧ H t = some (.tup [.str (S wd.l), v, due]) ∧ (∀ H', Kd H' v n) ∧ ∀ H', TOk wd v n due H'
theorem RowOk.keep {H H' : Hp} {x : V} (h : RowOk H x) (e : ∀ a xs, H a = some (.tup xs) → H' a = some (.tup xs)) : RowOk H' x := by
  obtain ⟨t, wd, v, due, n, e1, h1, h2⟩ := h
  exact ⟨t, wd, v, due, n, e1, e _ _ h1, h2⟩
theorem q_asgUU {σ : L2.St} {H : Hp} {D : Ends} {tz : TS} {i : Nat} {u1 u2 : TE} {xs1 xs2 : List V} (h1 : EvU u1 σ H xs1) (h2 : EvU u2 σ H xs2) (k : ∀ p t1 t2 H1, H p = none → Ex H H1 → H1 t1 = some (.tup xs1) → H1 t2 = some (.tup xs2) → H1 p = some (.lst [.ref t1, .ref t2]) → tz D (σ.set i (some (.ref p))) H1) :
    tSeq (tAsg (tLst (tCons u1 (tCons u2 tNil))) (gName i)) tz D σ H :=
  h1 H (Ex.refl _) _ fun t1 H1 ht1 e1 g1 => h2 H1 e1 _ fun t2 H2 ht2 e2 g2 => ⟨by show 2 ≤ sizeLine; decide, fun p hp => k p t1 t2 _ (fresh_back (e1.trans e2) hp) ((e1.trans e2).trans (Ex.new hp)) (Ex.new hp _ _ (e2 _ _ g1)) (Ex.new hp _ _ g2) upd_same⟩
theorem q_extUU {K : PySem.W.Frag} {σ : L2.St} {H : Hp} {D : Ends} {tz : TS} {l : Addr} {xs : List V} {ta u1 u2 : TE} {xs1 xs2 : List V} (hl : H l = some (.lst xs)) (ha : Ev ta σ H (.ref l)) (h1 : EvU u1 σ H xs1) (h2 : EvU u2 σ H xs2) (hz : xs.length ≤ 10000)
    (k : ∀ t1 t2 H1, Ex H H1 → H1 t1 = some (.tup xs1) → H1 t2 = some (.tup xs2) → tz D σ (upd H1 l (.lst (xs ++ [.ref t1, .ref t2])))) :
    tSeq (tDrop (tBM K "list" rExtend ta (tCons (tLst (tCons u1 (tCons u2 tNil))) tNil))) tz D σ H :=
  ha H (Ex.refl _) _ fun H0 e0 => ⟨Or.inl ⟨rfl, xs, sq_of (e0 _ _ hl)⟩, h1 H0 e0 _ fun t1 H1 ht1 e1 g1 => h2 H1 (e0.trans e1) _ fun t2 H2 ht2 e2 g2 => ⟨by show 2 ≤ sizeLine; decide, fun q hq =>
    ⟨l, q, xs, [.ref t1, .ref t2], rfl, rfl, Ex.new hq _ _ (e2 _ _ (e1 _ _ (e0 _ _ hl))), upd_same, sz_of (by show xs.length + 2 ≤ 100000; omega), k t1 t2 _ (((e0.trans e1).trans e2).trans (Ex.new hq)) (Ex.new hq _ _ (e2 _ _ g1)) (Ex.new hq _ _ g2)⟩⟩⟩
/-! ### values of any kind, none of them the box -/
def EvK (b : Addr) (te : TE) (σ : L2.St) (H : Hp) : Prop := ∀ H1, Ex H H1 → ∀ Q : VK, (∀ v H2, Ex H1 H2 → (∃ n, Kd H2 v n) → v ≠ .ref b → Q v H2) → te σ H1 Q
def EvKs (b : Addr) (k : Nat) (ta : TA) (σ : L2.St) (H : Hp) : Prop := ∀ H1, Ex H H1 → ∀ Q : List V → Hp → Prop, (∀ vs H2, Ex H1 H2 → vs.length = k → (∀ x ∈ vs, (∃ n, Kd H2 x n) ∧ x ≠ .ref b) → Q vs H2) → ta σ H1 Q
section
variable {σ : L2.St} {H : Hp} {te : TE} {ta : TA} {b : Addr}
theorem ek_nil : EvKs b 0 tNil σ H := fun H1 _ Q q => q [] H1 (Ex.refl _) rfl fun x hx => by cases hx
theorem ek_cons {k : Nat} (h : EvK b te σ H) (hr : EvKs b k ta σ H) : EvKs b (k + 1) (tCons te ta) σ H := fun H1 e Q q =>
  h H1 e _ fun v H2 e2 kv nv => hr H2 (e.trans e2) _ fun vs H3 e3 hl hk => q _ H3 (e2.trans e3) (by rw [List.length_cons, hl]) fun x hx => by
    rcases List.mem_cons.mp hx with h | h
    · subst h
      obtain ⟨n, kn⟩ := kv
      exact ⟨⟨n, kn.mono e3⟩, nv⟩
    · exact hk x h
theorem ek_of {v : V} {n : String} (h : Ev te σ H v) (k : ∀ H', Kd H' v n) (hv : v ≠ .ref b) : EvK b te σ H := fun H1 e Q q => h H1 e _ fun H2 e2 => q v H2 e2 ⟨n, k H2⟩ hv
theorem ek_str {l : List Nat} (h : Ev te σ H (.str (S l))) (h1 : l.length ≤ 50000) (h2 : l.all asc = true) : EvK b te σ H := ek_of h (fun _ => .str l h1 h2) (fun z => nomatch z)
theorem ne_box {H1 : Hp} {p : Addr} {o : HO} (hb : H b = some o) (e : Ex H H1) (hp : H1 p = none) : V.ref p ≠ .ref b := fun z => by
  cases z
  rw [e _ _ hb] at hp
  cases hp
theorem ek_lst {o : HO} {xs : List V} (hb : H b = some o) (h : EvL te σ H xs) : EvK b te σ H := fun H1 e Q q => h H1 e _ fun p H2 hp e2 h2 => q _ H2 e2 ⟨_, .lst h2⟩ (ne_box hb e hp)
theorem ek_tup {o : HO} {xs : List V} (hb : H b = some o) (h : EvU te σ H xs) : EvK b te σ H := fun H1 e Q q => h H1 e _ fun p H2 hp e2 h2 => q _ H2 e2 ⟨_, .tup h2⟩ (ne_box hb e hp)
theorem ek_dict {o : HO} (hb : H b = some o) : EvK b (tDisp [(tC (.str "a"), tC (.int 1))]) σ H := fun H1 e Q q p hp => ⟨upd_same, [(Sum.inr "a", .int 1)], rfl, by show 1 ≤ 15; decide, q _ _ (by
    have e1 := Ex.new (o := HO.dK []) hp
    exact Ex.mut e1 hp) ⟨_, .dct upd_same⟩ (ne_box hb e hp)⟩
end
theorem q_asgK {σ : L2.St} {H : Hp} {ta : TA} {D : Ends} {tz : TS} {b : Addr} {i n : Nat} (h : EvKs b n ta σ H) (hn : n ≤ 1000) (k : ∀ p vs H1, H p = none → Ex H H1 → vs.length = n → (∀ x ∈ vs, (∃ n, Kd H1 x n) ∧ x ≠ .ref b) → H1 p = some (.lst vs) → tz D (σ.set i (some (.ref p))) H1) : tSeq (tAsg (tLst ta) (gName i)) tz D σ H :=
  h H (Ex.refl _) _ fun vs H1 e1 hl hk => ⟨sz_of (by omega), fun p hp => k p vs _ (fresh_back e1 hp) (e1.trans (Ex.new hp)) hl (fun x hx => by
    obtain ⟨⟨n0, k0⟩, hb0⟩ := hk x hx
    exact ⟨⟨n0, k0.mono (Ex.new hp)⟩, hb0⟩) upd_same⟩
theorem Kd.keepK {H H' : Hp} {v : V} {n : String} {b : Addr} (k : Kd H v n) (hv : v ≠ .ref b) (e : Kp b H H') : Kd H' v n := by
  cases k with
  | non => exact .non
  | bl b => exact .bl b
  | int i => exact .int i
  | str l h h2 => exact .str l h h2
  | lst h => exact .lst (e _ _ (fun z => hv (by rw [z])) h)
  | tup h => exact .tup (e _ _ (fun z => hv (by rw [z])) h)
  | dct h => exact .dct (e _ _ (fun z => hv (by rw [z])) h)
theorem num_ok {r r2 : Int} (h0 : 0 ≤ r) (h1 : r < 4001) (g0 : 0 ≤ r2) (g1 : r2 < 7) : ∃ m : Nat, atI [V.int 0, .int 25, .int 26, .int 701, .int 702, .int 4000, .int r] r2 = some (.int (m : Int)) ∧ m ≤ 4000 := by
  have hr : r2 = 0 ∨ r2 = 1 ∨ r2 = 2 ∨ r2 = 3 ∨ r2 = 4 ∨ r2 = 5 ∨ r2 = 6 := by omega
  rcases hr with rfl | rfl | rfl | rfl | rfl | rfl | rfl
  · exact ⟨0, rfl, by decide⟩
  · exact ⟨25, rfl, by decide⟩
  · exact ⟨26, rfl, by decide⟩
  · exact ⟨701, rfl, by decide⟩
  · exact ⟨702, rfl, by decide⟩
  · exact ⟨4000, rfl, by decide⟩
  · exact ⟨r.toNat, by
      have e : ((r.toNat : Nat) : Int) = r := by omega
      rw [e]
      rfl, by omega⟩
def spNR : Sp := fun vs H Q _ => ∃ (b : Addr) (nm : Bool) (n : Nat), vs = [.ref b, .bl nm] ∧ BoxAt H b n ∧ n ≤ 900000 ∧ ∀ H2, Stp b (n + 100) H H2 → Q (.bl true) H2
def zz : List Nat := [122, 122, 122, 122, 122, 122, 122, 122, 122, 122, 122, 122]
theorem sc29 : FnScope ["box", "named", "number", "name", "rows", "word", "value", "due", "values", "good", "way"] ["box", "named"] (defScope (KH.top 88)) := ⟨rfl, rfl, rfl, by decide +kernel, rfl, by decide +kernel, by decide +kernel⟩
theorem c_namesRight (T : Env P w K mg base) : Callee P w K mg base CXN 6 "_law_names_right" ["box", "named"] spNR := by
  obtain ⟨fd, F⟩ := T.fn 29 (d := KH.dd "_law_names_right" 88)
  refine callee (st := KH.top 88) F (T.glo 29 (d := KH.dd "_law_names_right" 88)) sc29 (fun _ _ _ _ _ _ us hl => match us, hl with | [_, _], _ => rfl) (fun _ _ _ _ _ _ us hl => match us, hl with | [_, _], _ => rfl) (fun vs H Q E h => by obtain ⟨b, nm, n, rfl, _⟩ := h; rfl) ?_
  intro cdv A outer s H vs Q E hr h
  obtain ⟨b, nm, n, rfl, hb, hn, q⟩ := h
  have nd := sc29.nd
  refine ⟨_, (PSs.nox (pss_cons (ps_par (i := 2) (j := 3) rfl nd rfl rfl (by decide) rfl rfl (pa_cons (pe_ix ix_list (pe_lst (pa_cons pe_int (pa_cons pe_int (pa_cons pe_int (pa_cons pe_int (pa_cons pe_int (pa_cons pe_int (pa_cons (pe_n (c_take T) (hr.mono (by decide)) (pa_cons (pv 0) (pa_cons pe_int pa_nil))) pa_nil)))))))) (pe_n (c_take T) (hr.mono (by decide)) (pa_cons (pv 0) (pa_cons pe_int pa_nil))) (fun _ _ => rfl)) (pa_cons (pe_n (c_letters T) (hr.mono (by decide)) (pa_cons (pv 0) (pa_cons pe_int pa_nil))) pa_nil)) (by rfl)) (pss_cons (ps_set (i := 4) nd rfl (Or.inl rfl) (pe_lst (pa_cons (pe_tup (pa_cons pe_str (pa_cons (pv 2) (pa_cons (pe_n (c_lawName T) (hr.mono (by decide)) (pa_cons (pv 2) pa_nil)) pa_nil)))) (pa_cons (pe_tup (pa_cons pe_str (pa_cons (pe_n (c_lawName T) (hr.mono (by decide)) (pa_cons (pv 2) pa_nil)) (pa_cons (pv 2) pa_nil)))) pa_nil)))) (pss_cut (ps_if (pt_cmpR op_notIn_seq (pv 3) (pe_tup (pa_cons pe_str (pa_cons pe_str pa_nil))) rfl) (pss_one (ps_expr (pe_bm PySem.F.plainAttrs_list PySem.F.slot_list_append PySem.F.type_list_append mt_append (pv 4) (pa_cons (pe_tup (pa_cons pe_str (pa_cons (pv 3) (pa_cons (pe_n (c_lawNumOf T) (hr.mono (by decide)) (pa_cons (pv 3) pa_nil)) pa_nil)))) pa_nil)))) pss_nil) (pss_cons (ps_expr (pe_bm PySem.F.plainAttrs_list PySem.F.slot_list_extend PySem.F.type_list_extend mt_extend (pv 4) (pa_cons (pe_lst (pa_cons (pe_tup (pa_cons pe_str (pa_cons pe_str (pa_cons (pe_n (c_lawNumOf T) (hr.mono (by decide)) (pa_cons pe_str pa_nil)) pa_nil)))) (pa_cons (pe_tup (pa_cons pe_str (pa_cons (pe_n (c_lawName T) (hr.mono (by decide)) (pa_cons (pv 2) pa_nil)) (pa_cons pe_bl pa_nil)))) pa_nil))) pa_nil))) (pss_cons (ps_for PassesOwn.never rfl (pi_list (pv 4)) (pg_tup rfl (pgs_cons (pg_name (i := 5) nd rfl (Or.inr rfl)) (pgs_cons (pg_name (i := 6) nd rfl (Or.inr rfl)) (pgs_cons (pg_name (i := 7) nd rfl (Or.inl rfl)) pgs_nil)))) (pss_one (ps_if (pt_not (pt_val (pe_n (c_same T 3) hr (pa_cons (pe_lc (own := [("way", 10)]) (g := gName 10) rfl nd (pi_tup (pe_tup (pa_cons (pv 1) (pa_cons (pe_not (pv 1)) pa_nil)))) (blkOk_by (N := ["box", "named", "number", "name", "rows", "word", "value", "due", "values", "good", "way"]) (sc := defScope (KH.top 88)) (by decide +kernel)) (fun _ _ _ _ _ => pg_name (i := 10) nd rfl (Or.inl rfl)) (fun _ _ _ _ _ => pts_nil) (fun _ _ _ _ _ => (pe_n (c_told T) (hr.mono (by decide)) (pa_cons (pv 5) (pa_cons (pv 6) (pa_cons (pv 10) pa_nil)))))) (pa_cons (pe_op op_rep (pe_lst (pa_cons (pe_lst (pa_cons pe_str (pa_cons (pv 7) pa_nil))) pa_nil)) pe_int) pa_nil))))) (pss_one (ps_ret pe_bl)) pss_nil))) (pss_cons (ps_set (i := 8) nd rfl (Or.inl rfl) (pe_lst (pa_cons (pv 3) (pa_cons pe_str (pa_cons pe_str (pa_cons pe_str (pa_cons pe_str (pa_cons pe_str (pa_cons (pe_op op_mulS pe_str pe_int) (pa_cons (pe_op op_mulS pe_str pe_int) (pa_cons pe_str (pa_cons pe_str (pa_cons pe_str (pa_cons pe_str (pa_cons pe_str (pa_cons pe_str (pa_cons pe_non (pa_cons pe_bl (pa_cons pe_int (pa_cons (pe_lst (pa_cons pe_str pa_nil)) (pa_cons (pe_tup (pa_cons pe_str pa_nil)) (pa_cons (pe_disp (pps_cons pe_str pe_int pps_nil) (by rfl) (by rfl) (fun z => by cases z) (by decide)) (pa_cons (pe_op op_add_str (pv 3) pe_str) (pa_cons (pe_op op_add_str (pe_slice sl_str (pv 3) po_none (po_some pe_int)) pe_str) pa_nil)))))))))))))))))))))))) (pss_cons (ps_for PassesOwn.never rfl (pi_list (pe_op op_cat (pv 8) (pe_lst (pa_cons (pe_n (c_drawn T) (hr.mono (by decide)) (pa_cons (pv 0) (pa_cons pe_int pa_nil))) pa_nil)))) (pg_name (i := 6) nd rfl (Or.inr rfl)) (pss_cons (ps_set (i := 9) nd rfl (Or.inl rfl) (pe_n (c_lawIsName T) (hr.mono (by decide)) (pa_cons (pv 6) pa_nil))) (pss_cons (ps_if (PW.pt (pw_or (pt_not (pt_val (pe_n (c_same T 3) hr (pa_cons (pe_n (c_told T) (hr.mono (by decide)) (pa_cons pe_str (pa_cons (pv 6) (pa_cons (pv 1) pa_nil)))) (pa_cons (pe_lst (pa_cons pe_str (pa_cons (pv 9) pa_nil))) pa_nil))))) (pw_or1 (pt_not (pt_val (pe_n (c_same T 3) hr (pa_cons (pe_n (c_told T) (hr.mono (by decide)) (pa_cons pe_str (pa_cons (pv 6) (pa_cons (pe_not (pv 1)) pa_nil)))) (pa_cons (pe_lst (pa_cons pe_str (pa_cons (pe_n (c_lawIsText T) (hr.mono (by decide)) (pa_cons (pv 6) pa_nil)) pa_nil))) pa_nil)))))))) (pss_one (ps_ret pe_bl)) pss_nil) (pss_one (ps_set (i := 1) nd rfl (Or.inl rfl) (pe_not (pv 1))))))) (pss_one (ps_ret pe_bl)))))))))), ?_⟩
  refine ⟨_, rfl, b, 4001, n, rfl, by decide, by decide, hb, by omega, fun r H1 h0 h1 st1 => ⟨by show 7 ≤ sizeLine; decide, fun p hp => ⟨_, rfl, b, 7, n + 1, rfl, by decide, by decide, (st1.upd (o := .lst _) (st1.back hp) (st1.bx.some hp)).bx, by omega, fun r2 H2 g0 g1 st2 => ?_⟩⟩⟩
  obtain ⟨m, hm, hm2⟩ := num_ok h0 h1 g0 g1
  have hpb := st1.bx.some hp
  refine ⟨p, _, r2, _, rfl, rfl, sq_of (st2.kp p _ hpb upd_same), hm, _, rfl, b, 12, n + 2, rfl, by decide, by decide, st2.bx.le (by omega), by omega, fun l G hl1 hl2 hl3 st3 => ⟨_, _, rfl, ?_⟩⟩
  have stG : Stp b (n + 15) H G := (((st1.upd (st1.back hp) hpb).trans st2).trans st3).le (by omega)
  clear st1 st2 st3 hp hpb h0 h1 g0 g1 hm
  obtain ⟨g, c, kk, f, hbG, _⟩ := id stG.bx
  have hasc : l.all asc = true := all_imp (fun c => ltr_asc) hl1
  have rvName : ∀ H1, SpV spNameWith ([V.int (m : Int)] ++ []) H1 (.str (S (goN (m + 1) []))) := fun H1 => SpV.of fun H2 Q E e q => ⟨m, rfl, by omega, q⟩
  have rvNum : ∀ (z : List Nat) H1, z.all ltr = true → 1 ≤ z.length → z.length ≤ 12 → SpV spNumOf ([V.str (S z)] ++ []) H1 (.int ((numL z : Int) - 1)) := fun z H1 a1 a2 a3 => SpV.of fun H2 Q E e q => ⟨z, rfl, a1, a2, a3, q⟩
  have gl := goN_len 12 (m + 1) (by omega)
  have gN := goN_name (n := m) hm2
  have gA : (goN (m + 1) []).all asc = true := all_imp (fun c => ltr_asc) (goN_ltr (m + 1))
  have k1 : ∀ H', Kd H' (.int (m : Int)) "int" := fun _ => .int _
  have k2 : ∀ H', Kd H' (.str (S (goN (m + 1) []))) "str" := fun _ => .str _ (by omega) gA
  have k3 : ∀ H', Kd H' (.str (S l)) "str" := fun _ => .str _ (by omega) hasc
  have e3 : (numL (goN (m + 1) []) : Int) - 1 = (m : Int) := by rw [numL_goN]; omega
  -- rows
  refine q_asgUU (xs1 := [.str (S Wd.at_.l), .int (m : Int), .str (S (goN (m + 1) []))]) (xs2 := [.str (S Wd.number.l), .str (S (goN (m + 1) [])), .int (m : Int)]) (eu_tup (ea_cons ev_c (ea_cons (ev_var rfl) (ea_cons (ev_call (ea_cons (ev_var rfl) ea_nil) (rvName _)) ea_nil))) (by show 3 ≤ 100000; decide)) (eu_tup (ea_cons ev_c (ea_cons (ev_call (ea_cons (ev_var rfl) ea_nil) (rvName _)) (ea_cons (ev_var rfl) ea_nil))) (by show 3 ≤ 100000; decide)) fun p t1 t2 H3 hp0 E3 h1 h2 h3 => ?_
  have row1 : ∀ H', H' t1 = some (.tup [.str (S Wd.at_.l), .int (m : Int), .str (S (goN (m + 1) []))]) → RowOk H' (.ref t1) := fun H' h => ⟨t1, .at_, _, _, "int", rfl, h, k1, fun H' => tok_at hm2 H'⟩
  have row2 : ∀ H', H' t2 = some (.tup [.str (S Wd.number.l), .str (S (goN (m + 1) [])), .int (m : Int)]) → RowOk H' (.ref t2) := fun H' h => ⟨t2, .number, _, _, "str", rfl, h, k2, fun H' => tok_num gN e3 H'⟩
  refine ⟨fun σ' H' => σ' = [some (.ref b), some (.bl nm), some (.int (m : Int)), some (.str (S l)), some (.ref p), none, none, none, none, none, none] ∧ ∃ xs, H' p = some (.lst xs) ∧ xs.length ≤ 3 ∧ (∀ x ∈ xs, RowOk H' x) ∧ Ex G H', ?_, ?_⟩
  · have base : ∀ H', Ex H3 H' → (∀ x ∈ [V.ref t1, .ref t2], RowOk H' x) := fun H' e x hx => by
      have n1 : H' t1 = _ := e _ _ h1
      have n2 : H' t2 = _ := e _ _ h2
      rcases List.mem_cons.mp hx with h | h
      · subst h; exact row1 _ n1
      · have : x = .ref t2 := by simpa using h
        subst this; exact row2 _ n2
    refine s_when (b := !halfL l) ?_ (fun hh H4 e4 => ?_) (fun hh H4 e4 => ?_)
    · rw [← inU_halves]
      exact et_test (ev_niU (ev_var rfl) (eu_tup (ea_cons ev_c (ea_cons ev_c ea_nil)) (by decide)) rfl rfl)
    · refine s_appU (xs := [.ref t1, .ref t2]) (ys := [.str (S Wd.number.l), .str (S l), .int ((numL l : Int) - 1)]) (e4 _ _ h3) (ev_var rfl) (eu_tup (ea_cons ev_c (ea_cons (ev_var rfl) (ea_cons (ev_call (ea_cons (ev_var rfl) ea_nil) (rvNum l _ hl1 hl2 hl3)) ea_nil))) (by show 3 ≤ 100000; decide)) (by show 2 < 100000; decide) fun t3 H5 ht3 e5 h5 => ⟨rfl, _, upd_same, by show 3 ≤ 3; decide, fun x hx => ?_, Ex.mut ((E3.trans e4).trans e5) hp0⟩
      have hpl5 : H5 p = some (.lst [.ref t1, .ref t2]) := e5 _ _ (e4 _ _ h3)
      have kp : ∀ a xs, H5 a = some (.tup xs) → upd H5 p (.lst ([.ref t1, .ref t2] ++ [.ref t3])) a = some (.tup xs) := fun a xs ha => by
        rw [upd_ne (fun z => by rw [z, hpl5] at ha; cases ha)]
        exact ha
      rcases List.mem_append.mp hx with h | h
      · exact (base H5 (e4.trans e5) x h).keep kp
      · have : x = .ref t3 := by simpa using h
        subst this
        have hn : nameLb l = true := by
          unfold nameLb wordL
          rw [decide_eq_true hl2, decide_eq_true hl3, hl1, hh]
          rfl
        exact ⟨t3, .number, _, _, "str", rfl, kp _ _ h5, k3, fun H' => tok_num hn rfl H'⟩
    · exact ⟨rfl, _, e4 _ _ h3, by show 2 ≤ 3; decide, base H4 e4, E3.trans e4⟩
  rintro σ' H4 ⟨rfl, xs, hx1, hx2, hx3, E4⟩
  clear E3 h1 h2 h3 row1 row2
  -- the two rows more
  refine q_extUU (xs1 := [.str (S Wd.number.l), .str (S zz), .int ((numL zz : Int) - 1)]) (xs2 := [.str (S Wd.name.l), .str (S (goN (m + 1) [])), .bl true]) hx1 (ev_var rfl) (eu_tup (ea_cons ev_c (ea_cons ev_c (ea_cons (ev_call (vs := [.str (S zz)]) (ea_cons ev_c ea_nil) (rvNum zz _ (by decide) (by decide) (by decide))) ea_nil))) (by show 3 ≤ 100000; decide)) (eu_tup (ea_cons ev_c (ea_cons (ev_call (ea_cons (ev_var rfl) ea_nil) (rvName _)) (ea_cons ev_c ea_nil))) (by show 3 ≤ 100000; decide)) (by omega) fun t1 t2 H6 E6 h1 h2 => ?_
  have E7 : Ex G (upd H6 p (.lst (xs ++ [.ref t1, .ref t2]))) := Ex.mut (E4.trans E6) hp0
  have hpl6 : H6 p = some (.lst xs) := E6 _ _ hx1
  have kp : ∀ a ys, H6 a = some (.tup ys) → upd H6 p (.lst (xs ++ [.ref t1, .ref t2])) a = some (.tup ys) := fun a ys ha => by
    rw [upd_ne (fun z => by rw [z, hpl6] at ha; cases ha)]
    exact ha
  have rows : ∀ x ∈ xs ++ [.ref t1, .ref t2], RowOk (upd H6 p (.lst (xs ++ [.ref t1, .ref t2]))) x := fun x hx => by
    rcases List.mem_append.mp hx with h | h
    · exact ((hx3 x h).keep fun a ys ha => E6 _ _ ha).keep kp
    · rcases List.mem_cons.mp h with h | h
      · subst h
        exact ⟨t1, .number, _, _, "str", rfl, kp _ _ h1, fun _ => .str zz (by decide) (by decide), fun H' => tok_num (by decide) rfl H'⟩
      · have : x = .ref t2 := by simpa using h
        subst this
        exact ⟨t2, .name, _, _, "str", rfl, kp _ _ h2, k2, fun H' => tok_name (v := .str (S (goN (m + 1) []))) (n := "str") (b := true) gN H'⟩
  generalize hH7 : upd H6 p (.lst (xs ++ [.ref t1, .ref t2])) = H7 at E7 rows ⊢
  have hpl : H7 p = some (.lst (xs ++ [.ref t1, .ref t2])) := by rw [← hH7]; exact upd_same
  clear kp hpl6 E6 hH7 h1 h2
  -- each row
  refine q_forL (xs := xs ++ [.ref t1, .ref t2]) (ev_var rfl) (sq_of hpl) (fun i σ' H' => Ex H7 H' ∧ ∃ a1 a2 a3, σ' = [some (.ref b), some (.bl nm), some (.int (m : Int)), some (.str (S l)), some (.ref p), a1, a2, a3, none, none, none]) (fun H8 e8 => ⟨e8, none, none, none, rfl⟩) (fun i σ' H' _ pv => sq_of (pv.1 _ _ hpl)) ?_ ?_
  · rintro i x σ' H8 hx ⟨e8, a1, a2, a3, rfl⟩
    obtain ⟨t, wd, vv, due, nn, rfl, ht, kv, tk⟩ := rows x (List.mem_of_getElem? hx)
    refine ⟨t, _, rfl, st_of (e8 _ _ ht), rfl, _, _, rfl, _, _, rfl, _, _, rfl, rfl, ?_⟩
    refine s_when (b := false) (et_is (et_not (et_B (ev_same2 (es_told2 (wd := wd) (v := vv) (n := nn) (b := nm) (due := due) rfl (fun _ => rfl) (fun _ => rfl) (fun _ => rfl) (fun _ => rfl) (kv _) (tk _)) (es_rep (ev_var rfl))))) rfl) (fun h => by cases h) (fun _ H9 e9 => ⟨e8.trans e9, _, _, _, rfl⟩)
  rintro σ' H8 ⟨e8, a1, a2, a3, rfl⟩
  have E8 := E7.trans e8
  have hbG8 := E8 _ _ hbG
  clear rows hpl e8
  -- the values
  have l11 : (l.take 11).length ≤ 11 := by rw [List.length_take]; omega
  have l11a : (l.take 11).all asc = true := List.all_eq_true.mpr fun c hc => List.all_eq_true.mp hasc c (List.mem_of_mem_take hc)
  refine q_asgK (b := b) (n := 22) (ek_cons (ek_str (l := l) (ev_var rfl) (by omega) hasc) (ek_cons (ek_str (l := fstL) ev_c (by decide) (by decide)) (ek_cons (ek_str (l := sndL) ev_c (by decide) (by decide)) (ek_cons (ek_str (l := [102, 115, 116, 120]) ev_c (by decide) (by decide)) (ek_cons (ek_str (l := [115, 110]) ev_c (by decide) (by decide)) (ek_cons (ek_str (l := []) ev_c (by decide) (by decide))
    (ek_cons (ek_str (l := mulL 12 [97]) (ev_mulS (k := 12) (a := [97]) ev_c ev_c (by decide) (by decide) (by decide)) (by decide) (by decide)) (ek_cons (ek_str (l := mulL 13 [97]) (ev_mulS (k := 13) (a := [97]) ev_c ev_c (by decide) (by decide) (by decide)) (by decide) (by decide))
    (ek_cons (ek_str (l := [65, 98]) ev_c (by decide) (by decide)) (ek_cons (ek_str (l := [97, 49]) ev_c (by decide) (by decide)) (ek_cons (ek_str (l := [97, 32, 98]) ev_c (by decide) (by decide)) (ek_cons (ek_str (l := [32, 97]) ev_c (by decide) (by decide)) (ek_cons (ek_str (l := [97, 10]) ev_c (by decide) (by decide)) (ek_cons (ek_str (l := [45]) ev_c (by decide) (by decide))
    (ek_cons (ek_of ev_c (fun _ => .non) (fun z => nomatch z)) (ek_cons (ek_of ev_c (fun _ => .bl true) (fun z => nomatch z)) (ek_cons (ek_of ev_c (fun _ => .int 7) (fun z => nomatch z)) (ek_cons (ek_lst hbG8 (el_lst (ea_cons ev_c ea_nil) (by show 1 ≤ 100000; decide))) (ek_cons (ek_tup hbG8 (eu_tup (ea_cons ev_c ea_nil) (by show 1 ≤ 100000; decide))) (ek_cons (ek_dict hbG8)
    (ek_cons (ek_str (l := l ++ [90]) (ev_op (ev_var rfl) (y := .str (S [90])) ev_c (rv_addS (by simp; omega))) (by simp; omega) (by rw [List.all_append, hasc]; rfl))
    (ek_cons (ek_str (l := l.take 11 ++ [122]) (ev_op (y := .str (S [122])) (ev_slS0 (b := 11) (ev_var rfl) (eo_some ev_c) (by omega)) ev_c (rv_addS (by simp; omega))) (by simp; omega) (by rw [List.all_append, l11a]; rfl)) ek_nil)))))))))))))))))))))) (by decide) fun pv vs H10 hpv0 E10 hvl hvk10 hpv10 => ?_
  have hpvb : pv ≠ b := fun z => by
    rw [z, hbG8] at hpv0
    cases hpv0
  have st10 : Stp b (n + 15) H H10 := stG.ex (E8.trans E10)
  -- each value
  refine ⟨_, rfl, _, rfl, b, 2, n + 15, rfl, by decide, st10.bx, by omega, fun dl H11 hd1 hd2 st11 => ⟨by show 1 ≤ sizeLine; decide, fun pd hpd => ⟨pv, pd, vs, [.str (S dl)], rfl, rfl, ?_, upd_same, ?_, fun pr hpr => ⟨pr, rfl, ⟨_, sq_of upd_same⟩, ?_⟩⟩⟩⟩
  · exact Ex.new hpd _ _ (st11.kp _ _ hpvb hpv10)
  · show vs.length + 1 ≤ sizeLine
    rw [hvl]
    decide
  have stE : Stp b (n + 15 + 8 * 2) H H11 := st10.trans st11
  have e12 := (Ex.new (o := .lst [V.str (S dl)]) hpd).trans (Ex.new (o := .lst (vs ++ [.str (S dl)])) hpr)
  have st12 := stE.ex e12
  have hk12 : ∀ x ∈ vs ++ [.str (S dl)], ∃ n, Kd (upd (upd H11 pd (.lst [V.str (S dl)])) pr (.lst (vs ++ [.str (S dl)]))) x n := fun x hx => by
    rcases List.mem_append.mp hx with h | h
    · obtain ⟨⟨n0, k0⟩, hb0⟩ := hvk10 x h
      exact ⟨n0, (k0.keepK hb0 st11.kp).mono e12⟩
    · have : x = .str (S dl) := by simpa using h
      subst this
      exact ⟨_, .str dl (by omega) (all_imp (fun c => txc_asc) hd1)⟩
  have hpr12 : upd (upd H11 pd (.lst [V.str (S dl)])) pr (.lst (vs ++ [.str (S dl)])) pr = some (.lst (vs ++ [.str (S dl)])) := upd_same
  generalize upd (upd H11 pd (.lst [V.str (S dl)])) pr (.lst (vs ++ [.str (S dl)])) = H12 at st12 hk12 hpr12 e12 ⊢
  refine for_list (D := { nx := tRet (tC (.bl true)) { nx := fun _ H' => Q .non H', rt := Q }, rt := Q }) (xs := vs ++ [.str (S dl)]) (fun i σ' H' => Ex H12 H' ∧ ∃ nm2 b1 b2 b3 b4, σ' = [some (.ref b), some (.bl nm2), some (.int (m : Int)), some (.str (S l)), some (.ref p), b1, b2, b3, some (.ref pv), b4, none]) ⟨Ex.refl _, nm, a1, a2, a3, none, rfl⟩ (fun i σ' H' _ pq => sq_of (pq.1 _ _ hpr12)) ?_ ?_
  · rintro i x σ' H13 hx ⟨e13, nm2, b1, b2, b3, b4, rfl⟩
    obtain ⟨nn, kx0⟩ := hk12 x (List.mem_of_getElem? hx)
    have kx := kx0.mono e13
    refine q_asg (v := .bl (nameV x nn)) (ev_call (ea_cons (ev_var rfl) ea_nil) (SpV.of fun H1 Q E e q => ⟨x, nn, rfl, kx.mono e, q⟩)) fun H14 e14 => ?_
    have kx14 := kx.mono e14
    refine q_when (b := false) (et_is (et_or (a := false) (b := false) (et_is (et_not (et_B (ev_same1 (due := .bl (nameV x nn)) (es_told (wd := .name) (v := x) (n := nn) (nm := nm2) (ea_cons ev_c (ea_cons (ev_var rfl) (ea_cons (ev_var rfl) ea_nil))) kx14 (tok_name rfl _)) (el_lst (ea_cons ev_c (ea_cons (ev_var rfl) ea_nil)) (by show 2 ≤ 100000; decide))))) rfl)
      fun _ => et_is (et_not (et_B (ev_same1 (due := .bl (textV x nn)) (es_told (wd := .text) (v := x) (n := nn) (nm := !nm2) (ea_cons ev_c (ea_cons (ev_var rfl) (ea_cons (ev_notV (ev_var rfl)) ea_nil))) kx14 (tok_text rfl _)) (el_lst (ea_cons ev_c (ea_cons (ev_call (ea_cons (ev_var rfl) ea_nil) (SpV.of fun H1 Q E e q => ⟨x, nn, rfl, kx14.mono e, q⟩)) ea_nil)) (by show 2 ≤ 100000; decide))))) rfl) rfl) (fun h => by cases h) (fun _ H15 e15 => ?_)
    exact s_asg (v := .bl (!nm2)) (ev_notV (ev_var rfl)) fun H16 e16 => ⟨((e13.trans e14).trans e15).trans e16, _, _, _, _, _, rfl⟩
  · rintro σ' H13 ⟨e13, nm2, b1, b2, b3, b4, rfl⟩
    show Q (.bl true) H13
    exact q H13 ((st12.ex e13).le (by omega))
end KF
set_option Elab.async false
set_option linter.all false
set_option maxRecDepth 100000
set_option maxHeartbeats 4000000
/-! EJ: _law_texts_right. -/
namespace KF
open PySem PySem.Spec PyProof.Rows L2 TEX He Evl
open SX (S S_tl S_len S_cat S_inj)
variable {P : Program} {w : World} {K : PySem.W.Frag} {mg : Str → Option Value} {base : Heap}
/-! ### the words and lines are parts -/
theorem wordAt_take (r : List Nat) : ∃ k, wordAt r = r.take k := by
  unfold wordAt
  split
  · rename_i h
    exact ⟨2, h.symm⟩
  · exact ⟨_, rfl⟩
theorem wds_parts (p : Nat → Bool) : ∀ (n : Nat) (l : List Nat), l.length ≤ n → l.all p = true → ∀ x ∈ wds l, x.length ≤ l.length ∧ x.all p = true := by
  intro n
  induction n with
  | zero =>
    intro l h _ x hx
    have e : l = [] := List.length_eq_zero_iff.mp (by omega)
    subst e
    rw [wds_nil] at hx
    cases hx
  | succ n ih =>
    intro l h hp x hx
    cases l with
    | nil => rw [wds_nil] at hx; cases hx
    | cons c r =>
      have hr : r.length ≤ n := by simpa using h
      have hp2 : r.all p = true := by
        have : (p c && r.all p) = true := hp
        exact (Bool.and_eq_true_iff.mp this).2
      cases hb : blk c with
      | true =>
        rw [wds_blk hb] at hx
        obtain ⟨q1, q2⟩ := ih r hr hp2 x hx
        exact ⟨by rw [List.length_cons]; omega, q2⟩
      | false =>
        rw [wds_word hb] at hx
        have h1 := wordAt_pos (c := c) (r := r)
        rcases List.mem_cons.mp hx with h2 | h2
        · subst h2
          refine ⟨wordAt_le _, ?_⟩
          obtain ⟨k, hk⟩ := wordAt_take (c :: r)
          rw [hk]
          exact List.all_eq_true.mpr fun d hd => List.all_eq_true.mp hp d (List.mem_of_mem_take hd)
        · obtain ⟨q1, q2⟩ := ih ((c :: r).drop (wordAt (c :: r)).length) (by rw [List.length_drop, List.length_cons]; omega) (List.all_eq_true.mpr fun d hd => List.all_eq_true.mp hp d (List.mem_of_mem_drop hd)) x h2
          rw [List.length_drop] at q1
          exact ⟨by omega, q2⟩
theorem lns_parts (p : Nat → Bool) : ∀ (l cur : List Nat), l.all p = true → cur.all p = true → ∀ x ∈ lns l cur, x.length ≤ cur.length + l.length ∧ x.all p = true
  | [], cur, _, hc, x, hx => by
    have e : x = cur := by simpa [lns] using hx
    subst e
    exact ⟨by simp, hc⟩
  | c :: r, cur, h, hc, x, hx => by
    have h2 : (p c && r.all p) = true := h
    rw [Bool.and_eq_true] at h2
    have hx2 : x ∈ (if c = 10 then cur :: lns r [] else lns r (cur ++ [c])) := hx
    split at hx2
    · rcases List.mem_cons.mp hx2 with h3 | h3
      · subst h3
        exact ⟨by omega, hc⟩
      · obtain ⟨q1, q2⟩ := lns_parts p r [] h2.2 rfl x h3
        simp at q1
        exact ⟨by rw [List.length_cons]; omega, q2⟩
    · obtain ⟨q1, q2⟩ := lns_parts p r (cur ++ [c]) h2.2 (by rw [List.all_append, hc]; show (true && (p c && true)) = true; rw [h2.1]; rfl) x hx2
      rw [List.length_append] at q1
      simp at q1
      exact ⟨by rw [List.length_cons]; omega, q2⟩
theorem text_ok {l : List Nat} (h1 : l.all txc = true) (h2 : l.length ≤ 4000) : textV (.str (S l)) "str" = true := by
  show (true && (decide (l.length ≤ 4000) && l.all txc)) = true
  rw [decide_eq_true h2, h1]
  rfl
theorem tok_words {l : List Nat} {pw : Addr} {H : Hp} (h1 : l.all txc = true) (h2 : l.length ≤ 4000) (hp : H pw = some (.tup (txl (wds l)))) : TOk .words (.str (S l)) "str" (.ref pw) H := by
  intro H1 Q e q
  have hb := text_ok h1 h2
  refine ⟨fun _ p t H2 h0 e2 g1 g2 => q p H2 h0 e2 (tlv_of (H1 := H1) g2 (.inr ⟨t, pw, wds l, rfl, rfl, g1, e2 _ _ (e _ _ hp), ?_, fun x hx => ?_⟩)), fun z => absurd (hb.symm.trans z) (by decide)⟩
  · have := wds_len _ l (Nat.le_refl _)
    omega
  · obtain ⟨q1, q2⟩ := wds_parts txc _ l (Nat.le_refl _) h1 x hx
    exact ⟨by omega, all_imp (fun c => txc_asc) q2⟩
theorem tok_lines {l : List Nat} {pw : Addr} {H : Hp} (h1 : l.all txc = true) (h2 : l.length ≤ 4000) (hp : H pw = some (.tup (txl (lns l [])))) : TOk .lines (.str (S l)) "str" (.ref pw) H := by
  intro H1 Q e q
  have hb := text_ok h1 h2
  refine ⟨fun _ p t H2 h0 e2 g1 g2 => q p H2 h0 e2 (tlv_of (H1 := H1) g2 (.inr ⟨t, pw, lns l [], rfl, rfl, g1, e2 _ _ (e _ _ hp), ?_, fun x hx => ?_⟩)), fun z => absurd (hb.symm.trans z) (by decide)⟩
  · have := lns_len l []
    omega
  · obtain ⟨q1, q2⟩ := lns_parts txc l [] h1 rfl x hx
    simp at q1
    exact ⟨by omega, all_imp (fun c => txc_asc) q2⟩
/-! ### lists of told values -/
def PN (dues : List V) : V → Hp → Prop := fun x H => ∃ D acc, x = .ref D ∧ H D = some (.lst acc) ∧ acc.length = dues.length ∧ ∀ (j : Nat) (x d : V), acc[j]? = some x → dues[j]? = some d → TlV d x H
def QN (dues : List V) : V → Hp → Prop := fun x H => ∃ D acc, x = .ref D ∧ H D = some (.lst acc) ∧ acc.length = dues.length ∧ ∀ (j : Nat) (x d : V), acc[j]? = some x → dues[j]? = some d → ∃ p, x = .ref p ∧ H p = some (.lst [.str "told", d])
section
variable {σ : L2.St} {H : Hp} {ta tb tc te : TE} {t : TT} {tl : TA} {D : Ends} {tz : TS}
theorem q_asgS {i : Nat} {Pr : V → Hp → Prop} (h : EvS te σ H Pr) (k : ∀ a H1, H a = none → Ex H H1 → Pr (.ref a) H1 → tz D (σ.set i (some (.ref a))) H1) : tSeq (tAsg te (gName i)) tz D σ H := h H (Ex.refl _) _ fun a H1 ha e1 p => k a H1 ha e1 p
theorem PN.ex {H' : Hp} {dues : List V} {x : V} (h : PN dues x H) (e : Ex H H') : PN dues x H' := by
  obtain ⟨D, acc, e1, h1, h2, h3⟩ := h
  exact ⟨D, acc, e1, e _ _ h1, h2, fun j x d hx hd => (h3 j x d hx hd).ex e⟩
theorem ev_sameN {dues : List V} {v : V} (hz : dues.length ≤ 1000) (h1 : Ev ta σ H v) (hv : PN dues v H) (h2 : EvS tb σ H (QN dues)) : Ev (tCall (spSame 3) [] EN (tCons ta (tCons tb tNil))) σ H (.bl true) := fun H1 e Q q =>
  h1 H1 e _ fun H2 e2 => h2 H2 (e.trans e2) _ fun d H3 hd e3 h3 => ⟨v, .ref d, rfl, .inl (by
    obtain ⟨D, acc, rfl, g1, g2, g3⟩ := hv.ex ((e.trans e2).trans e3)
    obtain ⟨D2, qs, hp2, g4, g5, g6⟩ := h3
    cases hp2
    refine .lst g1 g4 (by omega) (by omega) fun i u z hu hz => ?_
    have hi : i < dues.length := by
      have := (List.getElem?_eq_some_iff.mp hu).1
      omega
    have hd : dues[i]? = some dues[i] := List.getElem?_eq_getElem hi
    obtain ⟨p, y, rfl, g7, g8⟩ := g3 i u _ hu hd
    obtain ⟨p2, rfl, g9⟩ := g6 i z _ hz hd
    exact sn_pair g7 g9 g8), fun H4 e4 => q H4 ((e2.trans e3).trans e4)⟩
/-- [told('text', value, named) for value in [..]], texts all -/
theorem es_toldN {K : PySem.W.Frag} {b : Bool} {nm y : Nat} {ls : List (List Nat)} (h : EvL te σ H (txl ls)) (hz : ls.length ≤ 1000) (hk : ∀ x ∈ ls, x.length ≤ 50000 ∧ x.all asc = true) (hw : ∀ x, wipe ((wipe σ [y]).set y (some x)) [y] = wipe σ [y]) (hn : ∀ x, ((wipe σ [y]).set y (some x))[nm]? = some (some (.bl b)))
    (hy : ∀ x, ((wipe σ [y]).set y (some x))[y]? = some (some x)) : EvS (tLc (iList K te) (gName y) tYes (tCall spTold [] EN (tCons (tC (.str "text")) (tCons (tVar y) (tCons (tVar nm) tNil)))) [y]) σ H (PN (ls.map fun z => .bl (textLb z))) := fun H1 e Q q =>
  h H1 e _ fun t H2 ht e2 h2 => ⟨t, rfl, ⟨_, sq_of h2⟩, fun D hD => by
    have hD1 : H1 D = none := fresh_back e2 hD
    have hDt : t ≠ D := fun z => by rw [z, hD] at h2; cases h2
    refine lc_it (J := Itl K t) (n := (txl ls).length) walk_list (fun i H' => ∃ acc, acc.length = i ∧ H' D = some (.lst acc) ∧ (∀ (j : Nat) (x : V) (z : List Nat), acc[j]? = some x → ls[j]? = some z → TlV (.bl (textLb z)) x H' ∧ x ≠ .ref D) ∧ Ex H1 H' ∧ H' t = some (.lst (txl ls))) ⟨[], rfl, upd_same, fun j x z hx => (by cases hx), e2.trans (Ex.new hD), Ex.new hD _ _ h2⟩ (fun _ _ _ p => by obtain ⟨_, _, _, _, _, h⟩ := p; exact sq_of h) (fun m x H' H'' hm p yl => ?_) (fun H' p => ?_)
    · obtain ⟨rfl, hx⟩ := yl
      obtain ⟨acc, a1, a2, a3, a4, a5⟩ := p
      obtain ⟨z, hz2, rfl⟩ := txl_get hx
      obtain ⟨kz1, kz2⟩ := hk z (List.mem_of_getElem? hz2)
      have hm2 : m < ls.length := (List.getElem?_eq_some_iff.mp hz2).1
      refine ⟨hw _, t_yes (es_told (wd := .text) (v := .str (S z)) (n := "str") (nm := b) (due := .bl (textLb z)) (ea_cons ev_c (ea_cons (ev_var (hy _)) (ea_cons (ev_var (hn _)) ea_nil))) (.str z kz1 kz2) (tok_text (show textV (.str (S z)) "str" = textLb z from Bool.true_and _) _) H'' (Ex.refl _) _ fun a H3 ha e3 pt => ⟨acc, e3 _ _ a2, sz_lt (by omega), acc ++ [.ref a], by simp [a1], upd_same, fun j x z2 hx2 hz3 => ?_, Ex.mut (a4.trans e3) hD1, ?_⟩)⟩
      · have haD : V.ref a ≠ .ref D := fun z => by
          cases z
          rw [a2] at ha
          cases ha
        have key : ∀ d z, TlV d z H3 → z ≠ .ref D → TlV d z (upd H3 D (.lst (acc ++ [.ref a]))) := fun d z hz hn => hz.keep hn (fun c u hc hu => by rw [upd_ne hc]; exact hu) ⟨acc, e3 _ _ a2⟩
        by_cases hj : j < acc.length
        · rw [List.getElem?_append_left hj] at hx2
          obtain ⟨q1, q2⟩ := a3 j x z2 hx2 hz3
          exact ⟨key _ _ (q1.ex e3) q2, q2⟩
        · rw [List.getElem?_append_right (by omega)] at hx2
          have hj2 : j - acc.length = 0 := by
            have := (List.getElem?_eq_some_iff.mp hx2).1
            simp at this
            omega
          rw [hj2] at hx2
          have e4 : x = .ref a := (Option.some.inj hx2).symm
          have e5 : j = m := by omega
          subst e4 e5
          rw [hz2] at hz3
          have e6 := Option.some.inj hz3
          subst e6
          exact ⟨key _ _ pt haD, haD⟩
      · rw [upd_ne hDt]
        exact e3 _ _ a5
    · obtain ⟨acc, a1, a2, a3, a4, a5⟩ := p
      refine q D H' hD1 a4 ⟨D, acc, rfl, a2, by rw [a1, txl_len, List.length_map], fun j x d hx hd => ?_⟩
      rw [List.getElem?_map] at hd
      cases hz3 : ls[j]? with
      | none => rw [hz3] at hd; cases hd
      | some z =>
        rw [hz3] at hd
        have e6 : d = .bl (textLb z) := (Option.some.inj hd).symm
        subst e6
        exact (a3 j x z hx hz3).1⟩
/-- [['told', b], ..], four of them -/
theorem es_four {b1 b2 b3 b4 : V} : EvS (tLst (tCons (tLst (tCons (tC (.str "told")) (tCons (tC b1) tNil))) (tCons (tLst (tCons (tC (.str "told")) (tCons (tC b2) tNil))) (tCons (tLst (tCons (tC (.str "told")) (tCons (tC b3) tNil))) (tCons (tLst (tCons (tC (.str "told")) (tCons (tC b4) tNil))) tNil))))) σ H (QN [b1, b2, b3, b4]) := fun H1 e Q q =>
  ⟨by show 2 ≤ sizeLine; decide, fun p1 h1 => ⟨by show 2 ≤ sizeLine; decide, fun p2 h2 => ⟨by show 2 ≤ sizeLine; decide, fun p3 h3 => ⟨by show 2 ≤ sizeLine; decide, fun p4 h4 => ⟨by show 4 ≤ sizeLine; decide, fun p hp => by
    have e1 := Ex.new (o := .lst [.str "told", b1]) h1
    have e2 := Ex.new (o := .lst [.str "told", b2]) h2
    have e3 := Ex.new (o := .lst [.str "told", b3]) h3
    have e4 := Ex.new (o := .lst [.str "told", b4]) h4
    have e5 := Ex.new (o := .lst [.ref p1, .ref p2, .ref p3, .ref p4]) hp
    refine q p _ (fresh_back (((e1.trans e2).trans e3).trans e4) hp) ((((e1.trans e2).trans e3).trans e4).trans e5) ⟨p, _, rfl, upd_same, rfl, fun j x d hx hd => ?_⟩
    match j with
    | 0 =>
      have r1 : x = .ref p1 := (Option.some.inj hx).symm
      have r2 : d = b1 := (Option.some.inj hd).symm
      subst r1 r2
      exact ⟨p1, rfl, e5 _ _ (e4 _ _ (e3 _ _ (e2 _ _ upd_same)))⟩
    | 1 =>
      have r1 : x = .ref p2 := (Option.some.inj hx).symm
      have r2 : d = b2 := (Option.some.inj hd).symm
      subst r1 r2
      exact ⟨p2, rfl, e5 _ _ (e4 _ _ (e3 _ _ upd_same))⟩
    | 2 =>
      have r1 : x = .ref p3 := (Option.some.inj hx).symm
      have r2 : d = b3 := (Option.some.inj hd).symm
      subst r1 r2
      exact ⟨p3, rfl, e5 _ _ (e4 _ _ upd_same)⟩
    | 3 =>
      have r1 : x = .ref p4 := (Option.some.inj hx).symm
      have r2 : d = b4 := (Option.some.inj hd).symm
      subst r1 r2
      exact ⟨p4, rfl, e5 _ _ upd_same⟩
    | j + 4 => cases hx⟩⟩⟩⟩⟩
theorem ev_slS0' {l : List Nat} {b : Nat} {th : TO} (h : Ev te σ H (.str (S l))) (h2 : EvO th σ H (some (b : Int))) (hz : l.length ≤ 2000000) : Ev (tSl rSlS te tNoPart th) σ H (.str (S (l.take b))) := fun H1 e Q q =>
  h H1 e _ fun H2 e2 => h2 H2 (e.trans e2) _ fun H4 e4 => ⟨S l, rfl, by rw [S_len]; exact Nat.le_trans hz (by decide), by rw [cut_0b]; exact q H4 (e2.trans e4)⟩
end
theorem five_ok {r : Int} (g0 : 0 ≤ r) (g1 : r < 5) : ∃ m : Nat, atI [V.int 0, .int 1, .int 3, .int 12, .int 40] r = some (.int (m : Int)) ∧ m ≤ 40 := by
  have hr : r = 0 ∨ r = 1 ∨ r = 2 ∨ r = 3 ∨ r = 4 := by omega
  rcases hr with rfl | rfl | rfl | rfl | rfl
  · exact ⟨0, rfl, by decide⟩
  · exact ⟨1, rfl, by decide⟩
  · exact ⟨3, rfl, by decide⟩
  · exact ⟨12, rfl, by decide⟩
  · exact ⟨40, rfl, by decide⟩
theorem dashes (k : Nat) (h : 2 ≤ k) (h2 : k ≤ 4500) : textLb (mulL k [45]) = decide (k ≤ 4000) := by
  unfold textLb
  rw [mulL_len, mulL_all (p := txc) (by decide)]
  simp
def spTR : Sp := fun vs H Q _ => ∃ (b : Addr) (nm : Bool) (n : Nat), vs = [.ref b, .bl nm] ∧ BoxAt H b n ∧ n ≤ 900000 ∧ ∀ H2, Stp b (n + 400) H H2 → Q (.bl true) H2
theorem sc30 : FnScope ["box", "named", "text", "word", "due", "told", "way", "value"] ["box", "named"] (defScope (KH.top 89)) := ⟨rfl, rfl, rfl, by decide +kernel, rfl, by decide +kernel, by decide +kernel⟩
theorem c_textsRight (T : Env P w K mg base) : Callee P w K mg base CXN 6 "_law_texts_right" ["box", "named"] spTR := by
  obtain ⟨fd, F⟩ := T.fn 30 (d := KH.dd "_law_texts_right" 89)
  refine callee (st := KH.top 89) F (T.glo 30 (d := KH.dd "_law_texts_right" 89)) sc30 (fun _ _ _ _ _ _ us hl => match us, hl with | [_, _], _ => rfl) (fun _ _ _ _ _ _ us hl => match us, hl with | [_, _], _ => rfl) (fun vs H Q E h => by obtain ⟨b, nm, n, rfl, _⟩ := h; rfl) ?_
  intro cdv A outer s H vs Q E hr h
  obtain ⟨b, nm, n, rfl, hb, hn, q⟩ := h
  have nd := sc30.nd
  refine ⟨_, (PSs.nox (pss_cons (ps_set (i := 2) nd rfl (Or.inr rfl) (pe_n (c_drawn T) (hr.mono (by decide)) (pa_cons (pv 0) (pa_cons (pe_ix ix_list (pe_lst (pa_cons pe_int (pa_cons pe_int (pa_cons pe_int (pa_cons pe_int (pa_cons pe_int pa_nil)))))) (pe_n (c_take T) (hr.mono (by decide)) (pa_cons (pv 0) (pa_cons pe_int pa_nil))) (fun _ _ => rfl)) pa_nil)))) (pss_cut (ps_if (pt_cmpR op_eq (pe_n (c_take T) (hr.mono (by decide)) (pa_cons (pv 0) (pa_cons pe_int pa_nil))) pe_int rfl) (pss_cons (ps_set (i := 2) nd rfl (Or.inr rfl) (pe_op op_mulS (pe_op op_add_str (pv 2) pe_str) pe_int)) (pss_one (ps_set (i := 2) nd rfl (Or.inr rfl) (pe_slice sl_str (pv 2) po_none (po_some pe_int))))) pss_nil) (pss_cons (ps_for PassesOwn.never rfl (pi_list (pe_lst (pa_cons (pe_tup (pa_cons pe_str (pa_cons (pe_n (c_lawWords T) (hr.mono (by decide)) (pa_cons (pv 2) pa_nil)) pa_nil))) (pa_cons (pe_tup (pa_cons pe_str (pa_cons (pe_n (c_lawLines T) (hr.mono (by decide)) (pa_cons (pv 2) pa_nil)) pa_nil))) pa_nil)))) (pg_tup rfl (pgs_cons (pg_name (i := 3) nd rfl (Or.inr rfl)) (pgs_cons (pg_name (i := 4) nd rfl (Or.inl rfl)) pgs_nil))) (pss_one (ps_if (pt_not (pt_val (pe_n (c_same T 3) hr (pa_cons (pe_lc (own := [("way", 6)]) (g := gName 6) rfl nd (pi_tup (pe_tup (pa_cons (pv 1) (pa_cons (pe_not (pv 1)) pa_nil)))) (blkOk_by (N := ["box", "named", "text", "word", "due", "told", "way", "value"]) (sc := defScope (KH.top 89)) (by decide +kernel)) (fun _ _ _ _ _ => pg_name (i := 6) nd rfl (Or.inl rfl)) (fun _ _ _ _ _ => pts_nil) (fun _ _ _ _ _ => (pe_n (c_told T) (hr.mono (by decide)) (pa_cons (pv 3) (pa_cons (pv 2) (pa_cons (pv 6) pa_nil)))))) (pa_cons (pe_op op_rep (pe_lst (pa_cons (pe_lst (pa_cons pe_str (pa_cons (pv 4) pa_nil))) pa_nil)) pe_int) pa_nil))))) (pss_one (ps_ret pe_bl)) pss_nil))) (pss_cons (ps_setLc (i := 5) (own := [("value", 7)]) (g := gName 7) rfl nd rfl rfl (sw_true rfl rfl rfl (by decide +kernel)) (pi_list (pe_lst (pa_cons (pv 2) (pa_cons (pe_op op_mulS pe_str pe_int) (pa_cons (pe_op op_mulS pe_str pe_int) (pa_cons pe_str pa_nil)))))) (blkOk_by (N := ["box", "named", "text", "word", "due", "told", "way", "value"]) (sc := defScope (KH.top 89)) (by decide +kernel)) (fun _ _ _ _ _ => pg_name (i := 7) nd rfl (Or.inl rfl)) (fun _ _ _ _ _ => pts_nil) (fun _ _ _ _ _ => (pe_n (c_told T) (hr.mono (by decide)) (pa_cons pe_str (pa_cons (pv 7) (pa_cons (pv 1) pa_nil)))))) (pss_one (ps_ret (pe_n (c_same T 3) hr (pa_cons (pv 5) (pa_cons (pe_lst (pa_cons (pe_lst (pa_cons pe_str (pa_cons pe_bl pa_nil))) (pa_cons (pe_lst (pa_cons pe_str (pa_cons pe_bl pa_nil))) (pa_cons (pe_lst (pa_cons pe_str (pa_cons pe_bl pa_nil))) (pa_cons (pe_lst (pa_cons pe_str (pa_cons pe_bl pa_nil))) pa_nil))))) pa_nil)))))))))), ?_⟩
  refine ⟨_, rfl, by show 5 ≤ sizeLine; decide, fun p hp => ⟨_, rfl, b, 5, n, rfl, by decide, by decide, hb.ex (Ex.new hp), by omega, fun r H1 h0 h1 st1 => ?_⟩⟩
  obtain ⟨m, hm, hm2⟩ := five_ok h0 h1
  have hpb := hb.some hp
  refine ⟨p, _, r, _, rfl, rfl, sq_of (st1.kp p _ hpb upd_same), hm, b, m, n + 1, rfl, by omega, st1.bx, by omega, fun l H2 hl1 hl2 st2 => ?_⟩
  have st3 : Stp b (n + 330) H H2 := ((Stp.pre (Ex.new hp) st1).trans st2).le (by omega)
  refine ⟨fun σ' H' => ∃ l : List Nat, σ' = [some (.ref b), some (.bl nm), some (.str (S l)), none, none, none, none, none] ∧ l.all txc = true ∧ l.length ≤ 4000 ∧ Stp b (n + 400) H H', ?_, ?_⟩
  · refine ⟨_, rfl, b, 8, n + 330, rfl, by decide, by decide, st3.bx, by omega, fun r H3 g0 g1 st4 => ⟨rfl, _, rfl, ?_⟩⟩
    have st5 := st3.trans st4
    by_cases hz : V.int r = V.int 0
    · dsimp only
      rw [if_pos (decide_eq_true hz)]
      refine q_asg (v := .str (S (mulL 4000 (l ++ [97, 98, 45, 62, 99, 10])))) (ev_mulS (k := 4000) (ev_op (ev_var rfl) (y := .str (S [97, 98, 45, 62, 99, 10])) ev_c (rv_addS (by simp; omega))) ev_c (by decide) (by simp) (by simp; omega)) fun H4 e4 => ?_
      refine s_asg (v := .str (S ((mulL 4000 (l ++ [97, 98, 45, 62, 99, 10])).take 4000))) (ev_slS0' (b := 4000) (ev_var rfl) (eo_some ev_c) (by rw [mulL_len]; simp; omega)) fun H5 e5 => ⟨_, rfl, ?_, ?_, ((st5.ex e4).ex e5).le (by omega)⟩
      · have : (mulL 4000 (l ++ [97, 98, 45, 62, 99, 10])).all txc = true := mulL_all (by rw [List.all_append, hl1]; decide)
        exact List.all_eq_true.mpr fun c hc => List.all_eq_true.mp this c (List.mem_of_mem_take hc)
      · rw [List.length_take]
        omega
    · dsimp only
      rw [if_neg (by rw [decide_eq_false hz]; exact Bool.false_ne_true)]
      exact ⟨l, rfl, hl1, by omega, st5.le (by omega)⟩
  clear hp hpb hm h0 h1 st1 st2 st3 hl1 hl2
  rintro σ' G ⟨l, rfl, hl1, hl2, stG⟩
  have hasc : l.all asc = true := all_imp (fun c => txc_asc) hl1
  have kl : ∀ H', Kd H' (.str (S l)) "str" := fun _ => .str l (by omega) hasc
  refine ⟨_, rfl, l, rfl, by omega, fun pw H1 hw e1 h1 => ⟨by show 2 ≤ sizeLine; decide, fun t1 ht1 => ⟨_, rfl, l, rfl, by omega, fun pl H2 hpl e2 h2 => ⟨by show 2 ≤ sizeLine; decide, fun t2 ht2 => ⟨by show 2 ≤ sizeLine; decide, fun p hp => ⟨p, rfl, ⟨_, sq_of upd_same⟩, ?_⟩⟩⟩⟩⟩⟩
  have x1 := Ex.new (o := .tup [.str "words", .ref pw]) ht1
  have x2 := Ex.new (o := .tup [.str "lines", .ref pl]) ht2
  have x3 := Ex.new (o := .lst [.ref t1, .ref t2]) hp
  have EG := (((e1.trans x1).trans e2).trans x2).trans x3
  have w1 := x3 _ _ (x2 _ _ (e2 _ _ (x1 _ _ h1)))
  have w2 := x3 _ _ (x2 _ _ h2)
  have w3 : upd (upd H2 t2 (.tup [.str "lines", .ref pl])) p (HO.lst [.ref t1, .ref t2]) t1 = some (HO.tup [V.str "words", .ref pw]) := x3 _ _ (x2 _ _ (e2 _ _ upd_same))
  have w4 : upd (upd H2 t2 (.tup [.str "lines", .ref pl])) p (HO.lst [.ref t1, .ref t2]) t2 = some (HO.tup [V.str "lines", .ref pl]) := x3 _ _ upd_same
  have w5 : upd (upd H2 t2 (.tup [.str "lines", .ref pl])) p (HO.lst [.ref t1, .ref t2]) p = some (.lst [.ref t1, .ref t2]) := upd_same
  generalize upd (upd H2 t2 (.tup [.str "lines", .ref pl])) p (HO.lst [.ref t1, .ref t2]) = H3 at EG w1 w2 w3 w4 w5 ⊢
  have fin : ∀ (a1 a2 : Option V) (H4 : Hp), Ex H3 H4 → tSeq (tAsg (tLc (iList K (tLst (tCons (tVar 2) (tCons (tOp (fun x y H Q => ∃ (a : List Nat) (k : Nat), x = .str (S a) ∧ y = .int (k : Int) ∧ 2 ≤ k ∧ 1 ≤ a.length ∧ a.length * k ≤ 2000000 ∧ Q (.str (S (mulL k a))) H) (tC (.str "-")) (tC (.int 4000))) (tCons (tOp (fun x y H Q => ∃ (a : List Nat) (k : Nat), x = .str (S a) ∧ y = .int (k : Int) ∧ 2 ≤ k ∧ 1 ≤ a.length ∧ a.length * k ≤ 2000000 ∧ Q (.str (S (mulL k a))) H) (tC (.str "-")) (tC (.int 4001))) (tCons (tC (.str "a\tb")) tNil)))))) (gName 7) tYes (tCall spTold [] EN (tCons (tC (.str "text")) (tCons (tVar 7) (tCons (tVar 1) tNil)))) [7]) (gName 5))
      (tRet (tCall (spSame 3) [] EN (tCons (tVar 5) (tCons (tLst (tCons (tLst (tCons (tC (.str "told")) (tCons (tC (.bl true)) tNil))) (tCons (tLst (tCons (tC (.str "told")) (tCons (tC (.bl true)) tNil))) (tCons (tLst (tCons (tC (.str "told")) (tCons (tC (.bl false)) tNil))) (tCons (tLst (tCons (tC (.str "told")) (tCons (tC (.bl false)) tNil))) tNil))))) tNil)))) { nx := fun _ H' => Q .non H', rt := Q } [some (.ref b), some (.bl nm), some (.str (S l)), a1, a2, none, none, none] H4 := fun a1 a2 H4 e4 => by
    refine q_asgS (es_toldN (b := nm) (nm := 1) (ls := [l, mulL 4000 [45], mulL 4001 [45], [97, 9, 98]]) (el_lst (ea_cons (ev_var rfl) (ea_cons (ev_mulS (k := 4000) (a := [45]) ev_c ev_c (by decide) (by decide) (by decide)) (ea_cons (ev_mulS (k := 4001) (a := [45]) ev_c ev_c (by decide) (by decide) (by decide)) (ea_cons ev_c ea_nil)))) (by show 4 ≤ 100000; decide)) (by show 4 ≤ 1000; decide) (fun x hx => ?_) (fun _ => rfl) (fun _ => rfl) (fun _ => rfl)) fun a H5 ha e5 hP => ?_
    · rcases List.mem_cons.mp hx with h | hx
      · subst h; exact ⟨by omega, hasc⟩
      rcases List.mem_cons.mp hx with h | hx
      · subst h; exact ⟨by rw [mulL_len]; decide, mulL_all (by decide)⟩
      rcases List.mem_cons.mp hx with h | hx
      · subst h; exact ⟨by rw [mulL_len]; decide, mulL_all (by decide)⟩
      rcases List.mem_cons.mp hx with h | hx
      · subst h; exact ⟨by decide, by decide⟩
      · cases hx
    · have hd : ([l, mulL 4000 [45], mulL 4001 [45], [97, 9, 98]].map fun z => V.bl (textLb z)) = [.bl true, .bl true, .bl false, .bl false] := by
        have g1 : textLb l = true := text_ok hl1 hl2
        have g2 := dashes 4000 (by decide) (by decide)
        have g3 := dashes 4001 (by decide) (by decide)
        show [V.bl (textLb l), .bl (textLb (mulL 4000 [45])), .bl (textLb (mulL 4001 [45])), .bl (textLb [97, 9, 98])] = _
        rw [g1, g2, g3]
        rfl
      rw [hd] at hP
      exact s_ret (v := .bl true) (ev_sameN (by show 4 ≤ 1000; decide) (ev_var rfl) hP es_four) fun H6 e6 => q H6 (stG.ex (((EG.trans e4).trans e5).trans e6))
  refine for_list (xs := [.ref t1, .ref t2]) (fun i σ' H' => Ex H3 H' ∧ ∃ a1 a2, σ' = [some (.ref b), some (.bl nm), some (.str (S l)), a1, a2, none, none, none]) ⟨Ex.refl _, none, none, rfl⟩ (fun i σ' H' _ pq => sq_of (pq.1 _ _ w5)) ?_ ?_
  · rintro i x σ' H4 hx ⟨e4, a1, a2, rfl⟩
    match i with
    | 0 =>
      have ex : x = .ref t1 := (Option.some.inj hx).symm
      subst ex
      refine ⟨t1, _, rfl, st_of (e4 _ _ w3), rfl, _, _, rfl, _, _, rfl, rfl, ?_⟩
      exact s_when (b := false) (et_is (et_not (et_B (ev_same2 (es_told2 (wd := .words) (v := .str (S l)) (n := "str") (b := nm) (due := .ref pw) rfl (fun _ => rfl) (fun _ => rfl) (fun _ => rfl) (fun _ => rfl) (kl _) (tok_words hl1 hl2 (e4 _ _ w1))) (es_rep (ev_var rfl))))) rfl) (fun h => by cases h) (fun _ H9 e9 => ⟨e4.trans e9, _, _, rfl⟩)
    | 1 =>
      have ex : x = .ref t2 := (Option.some.inj hx).symm
      subst ex
      refine ⟨t2, _, rfl, st_of (e4 _ _ w4), rfl, _, _, rfl, _, _, rfl, rfl, ?_⟩
      exact s_when (b := false) (et_is (et_not (et_B (ev_same2 (es_told2 (wd := .lines) (v := .str (S l)) (n := "str") (b := nm) (due := .ref pl) rfl (fun _ => rfl) (fun _ => rfl) (fun _ => rfl) (fun _ => rfl) (kl _) (tok_lines hl1 hl2 (e4 _ _ w2))) (es_rep (ev_var rfl))))) rfl) (fun h => by cases h) (fun _ H9 e9 => ⟨e4.trans e9, _, _, rfl⟩)
    | i + 2 => cases hx
  · rintro σ' H4 ⟨e4, a1, a2, rfl⟩
    exact fin a1 a2 H4 e4
end KF
set_option Elab.async false
set_option linter.all false
set_option maxRecDepth 100000
set_option maxHeartbeats 4000000
/-! EK: _law_refused_right. -/
namespace KF
open PySem PySem.Spec PyProof.Rows L2 TEX He Evl
open SX (S S_tl S_len S_cat S_inj)
variable {P : Program} {w : World} {K : PySem.W.Frag} {mg : Str → Option Value} {base : Heap}
def Wd.kd : Wd → List Nat
  | .at_ => [110, 117, 109, 98, 101, 114]
  | .number => [110, 97, 109, 101]
  | _ => [116, 101, 120, 116]
def refuses (wd : Wd) (v : V) (n : String) : Prop := match wd with
  | .at_ => between v n 0 4000 = false
  | .number => nameV v n = false
  | .words => textV v n = false
  | .lines => textV v n = false
  | _ => False
theorem refuses.q {wd : Wd} {v : V} {n : String} (h : refuses wd v n) {H : Hp} {Q : VK} (q : RetL [.str (S wd.kd), v] H Q) : toldQ wd v n H Q := by
  cases wd with
  | at_ => exact ⟨fun z => absurd (z.symm.trans h) (by decide), fun _ => q⟩
  | number => exact ⟨fun z => absurd (z.symm.trans h) (by decide), fun _ => q⟩
  | words => exact ⟨fun z => absurd (z.symm.trans h) (by decide), fun _ => q⟩
  | lines => exact ⟨fun z => absurd (z.symm.trans h) (by decide), fun _ => q⟩
  | name => exact h.elim
  | text => exact h.elim
theorem key_ne : ¬ (Sum.inr ("a" : Str) : Key) = (Sum.inr ("more" : Str) : Key) := by decide
/-- a word that may be refused -/
def Wd.may : Wd → Prop
  | .name => False
  | .text => False
  | _ => True
theorem ref_ref {wd : Wd} (hw : wd.may) {a : Addr} {n : String} (h1 : (n == "int") = false) (h2 : (n == "str") = false) : refuses wd (.ref a) n := by
  cases wd with
  | at_ => show (n == "int" && _) = false; rw [h1]; rfl
  | number => show (n == "str" && _) = false; rw [h2]; rfl
  | words => show (n == "str" && _) = false; rw [h2]; rfl
  | lines => show (n == "str" && _) = false; rw [h2]; rfl
  | name => exact hw.elim
  | text => exact hw.elim
def Scal (v : V) : Prop := ∀ H', Sn H' 0 v v
/-- a value that is refused -/
inductive Bd (wd : Wd) (H : Hp) : V → Prop where
  | non (r : refuses wd .non "NoneType") : Bd wd H .non
  | bl (b : Bool) (r : refuses wd (.bl b) "bool") : Bd wd H (.bl b)
  | int (i : Int) (r : refuses wd (.int i) "int") : Bd wd H (.int i)
  | str (l : List Nat) (h : l.length ≤ 30000) (h2 : l.all asc = true) (r : refuses wd (.str (S l)) "str") : Bd wd H (.str (S l))
  | lst {a : Addr} {xs : List V} (e : H a = some (.lst xs)) (hl : xs.length ≤ 10) (s : ∀ x ∈ xs, Scal x) : Bd wd H (.ref a)
  | tup {a : Addr} {xs : List V} (e : H a = some (.tup xs)) (hl : xs.length ≤ 10) (s : ∀ x ∈ xs, Scal x) : Bd wd H (.ref a)
  | dct {a : Addr} {y : V} (e : H a = some (.dK [(Sum.inr "a", y)])) (s : Scal y) : Bd wd H (.ref a)
theorem Bd.keepK {wd : Wd} {H H' : Hp} {v : V} {b : Addr} (k : Bd wd H v) (hv : v ≠ .ref b) (e : Kp b H H') : Bd wd H' v := by
  cases k with
  | non r => exact .non r
  | bl b r => exact .bl b r
  | int i r => exact .int i r
  | str l h h2 r => exact .str l h h2 r
  | lst h hl s => exact .lst (e _ _ (fun z => hv (by rw [z])) h) hl s
  | tup h hl s => exact .tup (e _ _ (fun z => hv (by rw [z])) h) hl s
  | dct h s => exact .dct (e _ _ (fun z => hv (by rw [z])) h) s
theorem Bd.ex {wd : Wd} {H H' : Hp} {v : V} (k : Bd wd H v) (e : Ex H H') : Bd wd H' v := by
  cases k with
  | non r => exact .non r
  | bl b r => exact .bl b r
  | int i r => exact .int i r
  | str l h h2 r => exact .str l h h2 r
  | lst h hl s => exact .lst (e _ _ h) hl s
  | tup h hl s => exact .tup (e _ _ h) hl s
  | dct h s => exact .dct (e _ _ h) s
def EvD (wd : Wd) (b : Addr) (te : TE) (σ : L2.St) (H : Hp) : Prop := ∀ H1, Ex H H1 → ∀ Q : VK, (∀ v H2, Ex H1 H2 → Bd wd H2 v → v ≠ .ref b → Q v H2) → te σ H1 Q
def EvDs (wd : Wd) (b : Addr) (ta : TA) (σ : L2.St) (H : Hp) : Prop := ∀ H1, Ex H H1 → ∀ Q : List V → Hp → Prop, (∀ vs H2, Ex H1 H2 → vs.length ≤ 20 → (∀ x ∈ vs, Bd wd H2 x ∧ x ≠ .ref b) → Q vs H2) → ta σ H1 Q
def EvDn (wd : Wd) (b : Addr) (n : Nat) (ta : TA) (σ : L2.St) (H : Hp) : Prop := ∀ H1, Ex H H1 → ∀ Q : List V → Hp → Prop, (∀ vs H2, Ex H1 H2 → vs.length = n → (∀ x ∈ vs, Bd wd H2 x ∧ x ≠ .ref b) → Q vs H2) → ta σ H1 Q
section
variable {wd : Wd} {σ : L2.St} {H : Hp} {te : TE} {ta : TA} {b : Addr}
theorem ed_nil : EvDn wd b 0 tNil σ H := fun H1 _ Q q => q [] H1 (Ex.refl _) rfl fun x hx => by cases hx
theorem ed_cons {k : Nat} (h : EvD wd b te σ H) (hr : EvDn wd b k ta σ H) : EvDn wd b (k + 1) (tCons te ta) σ H := fun H1 e Q q =>
  h H1 e _ fun v H2 e2 kv nv => hr H2 (e.trans e2) _ fun vs H3 e3 hl hk => q _ H3 (e2.trans e3) (by rw [List.length_cons, hl]) fun x hx => by
    rcases List.mem_cons.mp hx with h | h
    · subst h
      exact ⟨kv.ex e3, nv⟩
    · exact hk x h
theorem ed_n {k : Nat} (h : EvDn wd b k ta σ H) (hk : k ≤ 20) : EvDs wd b ta σ H := fun H1 e Q q => h H1 e Q fun vs H2 e2 hl hx => q vs H2 e2 (by omega) hx
theorem ed_non (h : Ev te σ H .non) (r : refuses wd .non "NoneType") : EvD wd b te σ H := fun H1 e Q q => h H1 e _ fun H2 e2 => q _ H2 e2 (.non r) (fun z => nomatch z)
theorem ed_bl {c : Bool} (h : Ev te σ H (.bl c)) (r : refuses wd (.bl c) "bool") : EvD wd b te σ H := fun H1 e Q q => h H1 e _ fun H2 e2 => q _ H2 e2 (.bl c r) (fun z => nomatch z)
theorem ed_int {i : Int} (h : Ev te σ H (.int i)) (r : refuses wd (.int i) "int") : EvD wd b te σ H := fun H1 e Q q => h H1 e _ fun H2 e2 => q _ H2 e2 (.int i r) (fun z => nomatch z)
theorem ed_str {l : List Nat} (h : Ev te σ H (.str (S l))) (h1 : l.length ≤ 30000) (h2 : l.all asc = true) (r : refuses wd (.str (S l)) "str") : EvD wd b te σ H := fun H1 e Q q => h H1 e _ fun H2 e2 => q _ H2 e2 (.str l h1 h2 r) (fun z => nomatch z)
theorem ed_lst {o : HO} {x : V} (hb : H b = some o) (h : Ev te σ H x) (s : Scal x) : EvD wd b (tLst (tCons te tNil)) σ H := fun H1 e Q q => h H1 e _ fun H2 e2 => ⟨by show 1 ≤ sizeLine; decide, fun p hp => q _ _ (e2.trans (Ex.new hp)) (.lst upd_same (by show 1 ≤ 10; decide) fun y hy => by
  have : y = x := by simpa using hy
  rw [this]; exact s) (ne_box hb (e.trans e2) hp)⟩
theorem ed_tup {o : HO} {x : V} (hb : H b = some o) (h : Ev te σ H x) (s : Scal x) : EvD wd b (tTup (tCons te tNil)) σ H := fun H1 e Q q => h H1 e _ fun H2 e2 => ⟨by show 1 ≤ sizeLine; decide, fun p hp => q _ _ (e2.trans (Ex.new hp)) (.tup upd_same (by show 1 ≤ 10; decide) fun y hy => by
  have : y = x := by simpa using hy
  rw [this]; exact s) (ne_box hb (e.trans e2) hp)⟩
theorem ed_dct {o : HO} {x : V} (hb : H b = some o) (s : Scal x) : EvD wd b (tDisp [(tC (.str "a"), tC x)]) σ H := fun H1 e Q q p hp => ⟨upd_same, [(Sum.inr "a", x)], rfl, by show 1 ≤ 15; decide, q _ _ (by
    have e1 := Ex.new (o := HO.dK []) hp
    exact Ex.mut e1 hp) (.dct upd_same s) (ne_box hb e hp)⟩
def MenuOk (b : Addr) (H : Hp) (x : V) : Prop := ∃ (t : Addr) (wd : Wd) (pm : Addr) (xs : List V), x = .ref t ∧ t ≠ b ∧ pm ≠ b ∧ wd.may ∧ H t = some (.tup [.str (S wd.l), .str (S wd.kd), .ref pm]) ∧ H pm = some (.lst xs) ∧ xs.length ≤ 20 ∧ ∀ y ∈ xs, Bd wd H y ∧ y ≠ .ref b
theorem MenuOk.keepK {H' : Hp} {x : V} (h : MenuOk b H x) (e : Kp b H H') : MenuOk b H' x := by
  obtain ⟨t, wd, pm, xs, e1, h1, h2, h3, h4, h5, h6, h7⟩ := h
  exact ⟨t, wd, pm, xs, e1, h1, h2, h3, e _ _ h1 h4, e _ _ h2 h5, h6, fun y hy => ⟨(h7 y hy).1.keepK (h7 y hy).2 e, (h7 y hy).2⟩⟩
theorem es_menu {tw tk : TE} {o : HO} (hb : H b = some o) (hw : wd.may) (h1 : Ev tw σ H (.str (S wd.l))) (h2 : Ev tk σ H (.str (S wd.kd))) (h3 : EvDs wd b ta σ H) : EvS (tTup (tCons tw (tCons tk (tCons (tLst ta) tNil)))) σ H (fun x H => MenuOk b H x) := fun H1 e Q q =>
  h1 H1 e _ fun H2 e2 => h2 H2 (e.trans e2) _ fun H3 e3 => h3 H3 ((e.trans e2).trans e3) _ fun xs H4 e4 hl hx => ⟨sz_of (by omega), fun pm hpm => ⟨by show 3 ≤ sizeLine; decide, fun t ht => by
    have x1 := Ex.new (o := .lst xs) hpm
    have x2 := Ex.new (o := .tup [.str (S wd.l), .str (S wd.kd), .ref pm]) ht
    have E := ((e2.trans e3).trans e4).trans x1
    have n1 : V.ref t ≠ .ref b := ne_box hb (e.trans E) ht
    have n2 : V.ref pm ≠ .ref b := ne_box hb (e.trans ((e2.trans e3).trans e4)) hpm
    exact q t _ (fresh_back E ht) (E.trans x2) ⟨t, wd, pm, xs, rfl, fun z => n1 (by rw [z]), fun z => n2 (by rw [z]), hw, upd_same, x2 _ _ upd_same, hl, fun y hy => ⟨((hx y hy).1.ex x1).ex x2, (hx y hy).2⟩⟩⟩⟩
end
theorem scal_non : Scal .non := fun _ => .non
theorem scal_bl (b : Bool) : Scal (.bl b) := fun _ => .bl b
theorem scal_int (i : Int) : Scal (.int i) := fun _ => .int i
theorem scal_str (l : List Nat) (h : l.length ≤ 30000) (h2 : l.all asc = true) : Scal (.str (S l)) := fun _ => .str l h h2
def spRR : Sp := fun vs H Q _ => ∃ (b : Addr) (nm : Bool) (n : Nat), vs = [.ref b, .bl nm] ∧ BoxAt H b n ∧ ∀ H2, Ex H H2 → Q (.bl true) H2
theorem q_asgS2 {σ : L2.St} {H : Hp} {D : Ends} {tz : TS} {u1 u2 : TE} {i : Nat} {b : Addr} {o : HO} (hb : H b = some o) (h1 : EvS u1 σ H (fun x H => MenuOk b H x)) (h2 : EvS u2 σ H (fun x H => MenuOk b H x)) (k : ∀ p x1 x2 H1, H p = none → Ex H H1 → MenuOk b H1 x1 → MenuOk b H1 x2 → H1 p = some (.lst [x1, x2]) → tz D (σ.set i (some (.ref p))) H1) :
    tSeq (tAsg (tLst (tCons u1 (tCons u2 tNil))) (gName i)) tz D σ H :=
  h1 H (Ex.refl _) _ fun t1 H1 ht1 e1 g1 => h2 H1 e1 _ fun t2 H2 ht2 e2 g2 => ⟨by show 2 ≤ sizeLine; decide, fun p hp => k p _ _ _ (fresh_back (e1.trans e2) hp) ((e1.trans e2).trans (Ex.new hp)) (g1.keepK (Kp.of (e2.trans (Ex.new hp)))) (g2.keepK (Kp.of (Ex.new hp))) upd_same⟩
theorem sc31 : FnScope ["box", "named", "menus", "word", "kind", "menu", "bad", "given", "told"] ["box", "named"] (defScope (KH.top 90)) := ⟨rfl, rfl, rfl, by decide +kernel, rfl, by decide +kernel, by decide +kernel⟩
theorem c_refusedRight (T : Env P w K mg base) : Callee P w K mg base CXN 6 "_law_refused_right" ["box", "named"] spRR := by
  obtain ⟨fd, F⟩ := T.fn 31 (d := KH.dd "_law_refused_right" 90)
  refine callee (st := KH.top 90) F (T.glo 31 (d := KH.dd "_law_refused_right" 90)) sc31 (fun _ _ _ _ _ _ us hl => match us, hl with | [_, _], _ => rfl) (fun _ _ _ _ _ _ us hl => match us, hl with | [_, _], _ => rfl) (fun vs H Q E h => by obtain ⟨b, nm, n, rfl, _⟩ := h; rfl) ?_
  intro cdv A outer s H vs Q E hr h
  obtain ⟨b, nm, n, rfl, hb, q⟩ := h
  have nd := sc31.nd
  refine ⟨_, (PSs.nox (pss_cons (ps_set (i := 2) nd rfl (Or.inl rfl) (pe_lst (pa_cons (pe_tup (pa_cons pe_str (pa_cons pe_str (pa_cons (pe_lst (pa_cons (pe_un un_neg pe_int) (pa_cons pe_int (pa_cons pe_non (pa_cons pe_bl (pa_cons pe_str (pa_cons (pe_lst (pa_cons pe_int pa_nil)) (pa_cons (pe_tup (pa_cons pe_int pa_nil)) (pa_cons (pe_disp (pps_cons pe_str pe_int pps_nil) (by rfl) (by rfl) (fun z => by cases z) (by decide)) (pa_cons (pe_op op_pow pe_int pe_int) pa_nil)))))))))) pa_nil)))) (pa_cons (pe_tup (pa_cons pe_str (pa_cons pe_str (pa_cons (pe_lst (pa_cons pe_str (pa_cons pe_str (pa_cons pe_str (pa_cons (pe_op op_mulS pe_str pe_int) (pa_cons pe_str (pa_cons pe_str (pa_cons pe_non (pa_cons pe_int (pa_cons (pe_lst (pa_cons pe_str pa_nil)) (pa_cons (pe_tup (pa_cons pe_str pa_nil)) (pa_cons (pe_disp (pps_cons pe_str pe_int pps_nil) (by rfl) (by rfl) (fun z => by cases z) (by decide)) (pa_cons pe_bl pa_nil))))))))))))) pa_nil)))) pa_nil)))) (pss_cons (ps_set (i := 2) nd rfl (Or.inl rfl) (pe_op op_cat (pv 2) (pe_lc (own := [("word", 3)]) (g := gName 3) rfl nd (pi_list (pe_lst (pa_cons pe_str (pa_cons pe_str pa_nil)))) (blkOk_by (N := ["box", "named", "menus", "word", "kind", "menu", "bad", "given", "told"]) (sc := defScope (KH.top 90)) (by decide +kernel)) (fun _ _ _ _ _ => pg_name (i := 3) nd rfl (Or.inl rfl)) (fun _ _ _ _ _ => pts_nil) (fun _ _ _ _ _ => (pe_tup (pa_cons (pv 3) (pa_cons pe_str (pa_cons (pe_lst (pa_cons pe_non (pa_cons pe_int (pa_cons pe_bl (pa_cons pe_str (pa_cons pe_str (pa_cons (pe_op op_mulS pe_str pe_int) (pa_cons (pe_lst (pa_cons pe_str pa_nil)) (pa_cons (pe_tup (pa_cons pe_str pa_nil)) (pa_cons (pe_disp (pps_cons pe_str pe_str pps_nil) (by rfl) (by rfl) (fun z => by cases z) (by decide)) pa_nil)))))))))) pa_nil)))))))) (pss_cons (ps_for PassesOwn.never rfl (pi_list (pv 2)) (pg_tup rfl (pgs_cons (pg_name (i := 3) nd rfl (Or.inl rfl)) (pgs_cons (pg_name (i := 4) nd rfl (Or.inl rfl)) (pgs_cons (pg_name (i := 5) nd rfl (Or.inl rfl)) pgs_nil)))) (pss_one (ps_for PassesOwn.never rfl (pi_list (pv 5)) (pg_name (i := 6) nd rfl (Or.inl rfl)) (pss_cons (ps_set (i := 7) nd rfl (Or.inl rfl) (pe_n (c_copy T) (hr.mono (by decide)) (pa_cons (pv 6) pa_nil))) (pss_cons (ps_set (i := 8) nd rfl (Or.inl rfl) (pe_n (c_told T) (hr.mono (by decide)) (pa_cons (pv 3) (pa_cons (pv 7) (pa_cons (pv 1) pa_nil))))) (pss_cons (ps_expr (pe_n (c_grown T) (hr.mono (by decide)) (pa_cons (pv 7) pa_nil))) (pss_cons (ps_if (PW.pt (pw_or (pt_cmpR op_ne (pe_ix ix_list (pv 8) pe_int (fun _ _ => rfl)) (pv 4) rfl) (pw_or1 (pt_not (pt_val (pe_n (c_same T 3) hr (pa_cons (pe_ix ix_list (pv 8) pe_int (fun _ _ => rfl)) (pa_cons (pv 7) pa_nil)))))))) (pss_one (ps_ret pe_bl)) pss_nil) (pss_one (ps_set (i := 1) nd rfl (Or.inl rfl) (pe_not (pv 1))))))))))) (pss_one (ps_ret pe_bl)))))), ?_⟩
  obtain ⟨g, c, kk, f, hbo, _⟩ := id hb
  refine q_asgS2 (b := b) hbo (es_menu (wd := .at_) hbo True.intro ev_c ev_c (ed_n (ed_cons (ed_int (i := -1) (ev_un ev_c ru_neg) (show between _ _ _ _ = false by decide +kernel)) (ed_cons (ed_int ev_c (show between _ _ _ _ = false by decide +kernel)) (ed_cons (ed_non ev_c rfl) (ed_cons (ed_bl ev_c rfl) (ed_cons (ed_str (l := [48]) ev_c (by decide) (by decide) rfl) (ed_cons (ed_lst hbo ev_c (scal_int 1)) (ed_cons (ed_tup hbo ev_c (scal_int 0)) (ed_cons (ed_dct hbo (scal_int 1)) (ed_cons (ed_int (ev_op ev_c ev_c (rv_I (show CPow _ _ from ⟨by decide, by decide, by decide⟩))) (show between _ _ _ _ = false by decide +kernel)) ed_nil))))))))) (by decide))) (es_menu (wd := .number) hbo True.intro ev_c ev_c (ed_n (ed_cons (ed_str (l := []) ev_c (by decide) (by decide) (show nameV _ _ = false by decide +kernel)) (ed_cons (ed_str (l := [102, 115, 116]) ev_c (by decide) (by decide) (show nameV _ _ = false by decide +kernel)) (ed_cons (ed_str (l := [115, 110, 100]) ev_c (by decide) (by decide) (show nameV _ _ = false by decide +kernel)) (ed_cons (ed_str (l := mulL 13 [97]) (ev_mulS (k := 13) (a := [97]) ev_c ev_c (by decide) (by decide) (by decide)) (by decide) (by decide) (show nameV _ _ = false by decide +kernel)) (ed_cons (ed_str (l := [65]) ev_c (by decide) (by decide) (show nameV _ _ = false by decide +kernel)) (ed_cons (ed_str (l := [97, 32, 98]) ev_c (by decide) (by decide) (show nameV _ _ = false by decide +kernel)) (ed_cons (ed_non ev_c rfl) (ed_cons (ed_int ev_c rfl) (ed_cons (ed_lst hbo ev_c (scal_str [97] (by decide) (by decide))) (ed_cons (ed_tup hbo ev_c (scal_str [97] (by decide) (by decide))) (ed_cons (ed_dct hbo (scal_int 1)) (ed_cons (ed_bl ev_c rfl) ed_nil)))))))))))) (by decide))) fun p x1 x2 H1 hp0 e1 m1 m2 hp1 => ?_
  -- the two menus more
  refine ⟨_, rfl, by show 2 ≤ sizeLine; decide, fun pw hpw => ⟨pw, rfl, ⟨_, sq_of upd_same⟩, fun D hD => ?_⟩⟩
  have hpw2 : upd H1 pw (.lst [V.str "words", .str "lines"]) pw = some (.lst [V.str "words", .str "lines"]) := upd_same
  have ew := Ex.new (o := .lst [V.str "words", .str "lines"]) hpw
  generalize upd H1 pw (.lst [V.str "words", .str "lines"]) = H2 at hD hpw2 ew ⊢
  have hD1 : H1 D = none := fresh_back ew hD
  refine lc_it (J := Itl K pw) (n := 2) (walk_list (K := K) (xs := [V.str "words", .str "lines"])) (fun i H' => ∃ acc, acc.length = i ∧ H' D = some (.lst acc) ∧ (∀ x ∈ acc, MenuOk D H' x) ∧ Ex H2 H') ⟨[], rfl, upd_same, fun x hx => (by cases hx), Ex.new hD⟩ (fun _ _ _ p => by obtain ⟨_, _, _, _, h⟩ := p; exact sq_of (h _ _ hpw2)) (fun m x H' H'' hm pp yl => ?_) (fun H' pp => ?_)
  · obtain ⟨rfl, hx⟩ := yl
    obtain ⟨acc, a1, a2, a3, a4⟩ := pp
    have hwd : ∃ wd : Wd, x = .str (S wd.l) ∧ wd.may ∧ wd.kd = [116, 101, 120, 116] ∧ ∀ v n, textV v n = false → refuses wd v n := by
      match m with
      | 0 => exact ⟨.words, (Option.some.inj hx).symm, True.intro, rfl, fun v n h => h⟩
      | 1 => exact ⟨.lines, (Option.some.inj hx).symm, True.intro, rfl, fun v n h => h⟩
      | m + 2 => omega
    obtain ⟨wd, rfl, hmay, hkd, tx⟩ := hwd
    refine ⟨rfl, t_yes (es_menu (wd := wd) (b := D) a2 hmay (ev_var rfl) (by rw [hkd]; exact ev_c) (ed_n (ed_cons (ed_non ev_c (tx _ _ rfl)) (ed_cons (ed_int ev_c (tx _ _ rfl)) (ed_cons (ed_bl ev_c (tx _ _ rfl)) (ed_cons (ed_str (l := [9]) ev_c (by decide) (by decide) (tx _ _ (by decide))) (ed_cons (ed_str (l := [97, 9, 98]) ev_c (by decide) (by decide) (tx _ _ (by decide))) (ed_cons (ed_str (l := mulL 4001 [45]) (ev_mulS (k := 4001) (a := [45]) ev_c ev_c (by decide) (by decide) (by decide)) (by rw [mulL_len]; decide) (mulL_all (by decide)) (tx _ _ (show (true && textLb (mulL 4001 [45])) = false by rw [dashes 4001 (by decide) (by decide)]; rfl))) (ed_cons (ed_lst a2 ev_c (scal_str [97] (by decide) (by decide))) (ed_cons (ed_tup a2 ev_c (scal_str [97] (by decide) (by decide))) (ed_cons (ed_dct a2 (scal_str [98] (by decide) (by decide))) ed_nil))))))))) (by decide)) H'' (Ex.refl _) _ fun a H3 ha e3 mk => ⟨acc, e3 _ _ a2, sz_lt (by omega), acc ++ [.ref a], by simp [a1], upd_same, fun x hx => ?_, Ex.mut (a4.trans e3) hD⟩)⟩
    have kk : Kp D H3 (upd H3 D (.lst (acc ++ [.ref a]))) := Kp.mut Kp.refl
    rcases List.mem_append.mp hx with h | h
    · exact ((a3 x h).keepK (Kp.of e3)).keepK kk
    · have : x = .ref a := by simpa using h
      rw [this]
      exact mk.keepK kk
  obtain ⟨acc, a1, a2, a3, a4⟩ := pp
  have hpl : H' p = some (.lst [x1, x2]) := a4 _ _ (ew _ _ hp1)
  refine ⟨p, D, [x1, x2], acc, rfl, rfl, hpl, a2, sz_of (by show 2 + acc.length ≤ 100000; omega), fun pm hpm => ?_⟩
  have E1 : Ex H (upd H' pm (.lst ([x1, x2] ++ acc))) := (((e1.trans ew).trans a4).trans (Ex.new hpm))
  have hme : ∀ x ∈ [x1, x2] ++ acc, ∃ bb, MenuOk bb (upd H' pm (.lst ([x1, x2] ++ acc))) x := fun x hx => by
    rcases List.mem_append.mp hx with h | h
    · rcases List.mem_cons.mp h with h | h
      · subst h; exact ⟨b, m1.keepK (Kp.of ((ew.trans a4).trans (Ex.new hpm)))⟩
      · have : x = x2 := by simpa using h
        subst this; exact ⟨b, m2.keepK (Kp.of ((ew.trans a4).trans (Ex.new hpm)))⟩
    · exact ⟨D, (a3 x h).keepK (Kp.of (Ex.new hpm))⟩
  have hpm2 : upd H' pm (.lst ([x1, x2] ++ acc)) pm = some (.lst ([x1, x2] ++ acc)) := upd_same
  generalize upd H' pm (.lst ([x1, x2] ++ acc)) = H0 at E1 hme hpm2 ⊢
  refine q_forL (xs := [x1, x2] ++ acc) (ev_var rfl) (sq_of hpm2) (fun i σ' H' => Ex H0 H' ∧ ∃ nm2 b3 b4 b5 b6 b7 b8, σ' = [some (.ref b), some (.bl nm2), some (.ref pm), b3, b4, b5, b6, b7, b8]) (fun H8 e8 => ⟨e8, nm, none, none, none, none, none, none, rfl⟩) (fun i σ' H' _ pv => sq_of (pv.1 _ _ hpm2)) ?_ ?_
  · rintro i x σ' H8 hx ⟨e8, nm2, b3, b4, b5, b6, b7, b8, rfl⟩
    obtain ⟨bb, t, wd, pq, ys, rfl, _, _, hw, ht, hpq, _, hbd⟩ := hme x (List.mem_of_getElem? hx)
    refine ⟨t, _, rfl, st_of (e8 _ _ ht), rfl, _, _, rfl, _, _, rfl, _, _, rfl, rfl, ?_⟩
    refine s_forL (xs := ys) (ev_var rfl) (sq_of (e8 _ _ hpq)) (fun i σ' H' => Ex H0 H' ∧ ∃ nm2 b6 b7 b8, σ' = [some (.ref b), some (.bl nm2), some (.ref pm), some (.str (S wd.l)), some (.str (S wd.kd)), some (.ref pq), b6, b7, b8]) (fun H9 e9 => ⟨e8.trans e9, nm2, b6, b7, b8, rfl⟩) (fun i σ' H' _ pv => sq_of (pv.1 _ _ hpq)) ?_ (fun σ' H' pv => by
      obtain ⟨e9, nm3, c6, c7, c8, rfl⟩ := pv
      exact ⟨e9, nm3, _, _, _, c6, c7, c8, rfl⟩)
    rintro j y σ' H1 hy ⟨ex, nm2, c6, c7, c8, rfl⟩
    have hb0 := ((hbd y (List.mem_of_getElem? hy)).1).ex ex
    cases hb0 with
    | non r =>
      refine q_asg (v := .non) (ev_call (ea_cons (ev_var rfl) ea_nil) (SpV.of fun H4 Q4 E4 e4 q4 => ⟨.non, "NoneType", rfl, .non, q4⟩)) fun H2 e2 => ?_
      refine q_asgL (xs := [.str (S wd.kd), (.non)]) (el_call (ea_cons (ev_var rfl) (ea_cons (ev_var rfl) (ea_cons (ev_var rfl) ea_nil))) fun H4 e4 Q4 q4 E4 => ⟨wd, (.non), "NoneType", nm2, rfl, .non, refuses.q r q4⟩) fun p3 H3 hp3 e3 h3 => ?_
      refine ⟨_, rfl, (.non), "NoneType", rfl, .non, (fun a z => nomatch z), fun H5 gr => ?_⟩
      have e5 : Ex H3 H5 := gr
      have h5 := e5 _ _ h3
      refine q_when (b := false) (et_is (et_or (a := false) (b := false) (et_is (et_test (ev_op (x := .str (S wd.kd)) (y := .str (S wd.kd)) (ev_op (ev_var rfl) ev_c (rv_ixL (i := ((0 : Nat) : Int)) (sq_of h5) (atI_nat rfl))) (ev_var rfl) rv_neS)) (by simp)) fun _ => et_is (et_not (et_B (ev_call (ea_cons (ev_op (ev_var rfl) ev_c (rv_ixL (i := ((1 : Nat) : Int)) (sq_of h5) (atI_nat rfl))) (ea_cons (ev_var rfl) ea_nil)) (SpV.of fun H6 Q6 E6 e6 q6 => ⟨(.non), (.non), rfl, Sm.ex e6 (.inl Sn.non), q6⟩)))) rfl) rfl) (fun h => by cases h) fun _ H6 e6 => ?_
      exact s_asg (v := .bl (!nm2)) (ev_notV (ev_var rfl)) fun H7 e7 => ⟨((((ex.trans e2).trans e3).trans e5).trans e6).trans e7, _, _, _, _, rfl⟩
    | bl c r =>
      refine q_asg (v := .bl c) (ev_call (ea_cons (ev_var rfl) ea_nil) (SpV.of fun H4 Q4 E4 e4 q4 => ⟨.bl c, "bool", rfl, (.bl c), q4⟩)) fun H2 e2 => ?_
      refine q_asgL (xs := [.str (S wd.kd), (.bl c)]) (el_call (ea_cons (ev_var rfl) (ea_cons (ev_var rfl) (ea_cons (ev_var rfl) ea_nil))) fun H4 e4 Q4 q4 E4 => ⟨wd, (.bl c), "bool", nm2, rfl, (.bl c), refuses.q r q4⟩) fun p3 H3 hp3 e3 h3 => ?_
      refine ⟨_, rfl, (.bl c), "bool", rfl, (.bl c), (fun a z => nomatch z), fun H5 gr => ?_⟩
      have e5 : Ex H3 H5 := gr
      have h5 := e5 _ _ h3
      refine q_when (b := false) (et_is (et_or (a := false) (b := false) (et_is (et_test (ev_op (x := .str (S wd.kd)) (y := .str (S wd.kd)) (ev_op (ev_var rfl) ev_c (rv_ixL (i := ((0 : Nat) : Int)) (sq_of h5) (atI_nat rfl))) (ev_var rfl) rv_neS)) (by simp)) fun _ => et_is (et_not (et_B (ev_call (ea_cons (ev_op (ev_var rfl) ev_c (rv_ixL (i := ((1 : Nat) : Int)) (sq_of h5) (atI_nat rfl))) (ea_cons (ev_var rfl) ea_nil)) (SpV.of fun H6 Q6 E6 e6 q6 => ⟨(.bl c), (.bl c), rfl, Sm.ex e6 (.inl (.bl c)), q6⟩)))) rfl) rfl) (fun h => by cases h) fun _ H6 e6 => ?_
      exact s_asg (v := .bl (!nm2)) (ev_notV (ev_var rfl)) fun H7 e7 => ⟨((((ex.trans e2).trans e3).trans e5).trans e6).trans e7, _, _, _, _, rfl⟩
    | int i r =>
      refine q_asg (v := .int i) (ev_call (ea_cons (ev_var rfl) ea_nil) (SpV.of fun H4 Q4 E4 e4 q4 => ⟨.int i, "int", rfl, (.int i), q4⟩)) fun H2 e2 => ?_
      refine q_asgL (xs := [.str (S wd.kd), (.int i)]) (el_call (ea_cons (ev_var rfl) (ea_cons (ev_var rfl) (ea_cons (ev_var rfl) ea_nil))) fun H4 e4 Q4 q4 E4 => ⟨wd, (.int i), "int", nm2, rfl, (.int i), refuses.q r q4⟩) fun p3 H3 hp3 e3 h3 => ?_
      refine ⟨_, rfl, (.int i), "int", rfl, (.int i), (fun a z => nomatch z), fun H5 gr => ?_⟩
      have e5 : Ex H3 H5 := gr
      have h5 := e5 _ _ h3
      refine q_when (b := false) (et_is (et_or (a := false) (b := false) (et_is (et_test (ev_op (x := .str (S wd.kd)) (y := .str (S wd.kd)) (ev_op (ev_var rfl) ev_c (rv_ixL (i := ((0 : Nat) : Int)) (sq_of h5) (atI_nat rfl))) (ev_var rfl) rv_neS)) (by simp)) fun _ => et_is (et_not (et_B (ev_call (ea_cons (ev_op (ev_var rfl) ev_c (rv_ixL (i := ((1 : Nat) : Int)) (sq_of h5) (atI_nat rfl))) (ea_cons (ev_var rfl) ea_nil)) (SpV.of fun H6 Q6 E6 e6 q6 => ⟨(.int i), (.int i), rfl, Sm.ex e6 (.inl (.int i)), q6⟩)))) rfl) rfl) (fun h => by cases h) fun _ H6 e6 => ?_
      exact s_asg (v := .bl (!nm2)) (ev_notV (ev_var rfl)) fun H7 e7 => ⟨((((ex.trans e2).trans e3).trans e5).trans e6).trans e7, _, _, _, _, rfl⟩
    | str l h h2 r =>
      refine q_asg (v := .str (S l)) (ev_call (ea_cons (ev_var rfl) ea_nil) (SpV.of fun H4 Q4 E4 e4 q4 => ⟨.str (S l), "str", rfl, (.str l (by omega) h2), q4⟩)) fun H2 e2 => ?_
      refine q_asgL (xs := [.str (S wd.kd), (.str (S l))]) (el_call (ea_cons (ev_var rfl) (ea_cons (ev_var rfl) (ea_cons (ev_var rfl) ea_nil))) fun H4 e4 Q4 q4 E4 => ⟨wd, (.str (S l)), "str", nm2, rfl, (.str l (by omega) h2), refuses.q r q4⟩) fun p3 H3 hp3 e3 h3 => ?_
      refine ⟨_, rfl, (.str (S l)), "str", rfl, (.str l (by omega) h2), (fun a z => nomatch z), fun H5 gr => ?_⟩
      have e5 : Ex H3 H5 := gr
      have h5 := e5 _ _ h3
      refine q_when (b := false) (et_is (et_or (a := false) (b := false) (et_is (et_test (ev_op (x := .str (S wd.kd)) (y := .str (S wd.kd)) (ev_op (ev_var rfl) ev_c (rv_ixL (i := ((0 : Nat) : Int)) (sq_of h5) (atI_nat rfl))) (ev_var rfl) rv_neS)) (by simp)) fun _ => et_is (et_not (et_B (ev_call (ea_cons (ev_op (ev_var rfl) ev_c (rv_ixL (i := ((1 : Nat) : Int)) (sq_of h5) (atI_nat rfl))) (ea_cons (ev_var rfl) ea_nil)) (SpV.of fun H6 Q6 E6 e6 q6 => ⟨(.str (S l)), (.str (S l)), rfl, Sm.ex e6 (.inl (.str l h h2)), q6⟩)))) rfl) rfl) (fun h => by cases h) fun _ H6 e6 => ?_
      exact s_asg (v := .bl (!nm2)) (ev_notV (ev_var rfl)) fun H7 e7 => ⟨((((ex.trans e2).trans e3).trans e5).trans e6).trans e7, _, _, _, _, rfl⟩
    | @lst a xs ha hl s =>
      refine q_asgL (xs := xs) (el_call (ea_cons (ev_var rfl) ea_nil) fun H4 e4 Q4 q4 E4 => ⟨.ref a, "list", rfl, .lst (e4 _ _ ha), fun a' xs' ea hx => by
        cases ea
        rw [e4 _ _ ha] at hx
        cases hx
        exact q4⟩) fun g H2 hg e2 hg2 => ?_
      refine q_asgL (xs := [.str (S wd.kd), (.ref g)]) (el_call (ea_cons (ev_var rfl) (ea_cons (ev_var rfl) (ea_cons (ev_var rfl) ea_nil))) fun H4 e4 Q4 q4 E4 => ⟨wd, (.ref g), "list", nm2, rfl, (.lst (e4 _ _ hg2)), refuses.q (ref_ref hw rfl rfl) q4⟩) fun p3 H3 hp3 e3 h3 => ?_
      refine ⟨_, rfl, (.ref g), "list", rfl, (.lst (e3 _ _ hg2)), (fun a z => by cases z; exact ⟨fun ys hy => (by rw [e3 _ _ hg2] at hy; cases hy; omega), fun ys hy => (by rw [e3 _ _ hg2] at hy; cases hy)⟩), fun H5 gr => ?_⟩
      obtain ⟨a', xs', ea, hx, kp, h6⟩ := (show ∃ a' xs', V.ref g = .ref a' ∧ H3 a' = some (.lst xs') ∧ Kp a' H3 H5 ∧ H5 a' = some (.lst (xs' ++ [.str "more"])) from gr)
      cases ea
      rw [e3 _ _ hg2] at hx
      cases hx
      have hpg : p3 ≠ g := fun z => by rw [z, hg2] at hp3; cases hp3
      have h5 := kp _ _ hpg h3
      have sc : ∀ x ∈ xs ++ [V.str "more"], Scal x := fun x hx => by
        rcases List.mem_append.mp hx with h | h
        · exact s x h
        · have : x = .str "more" := by simpa using h
          rw [this]
          exact scal_str [109, 111, 114, 101] (by decide) (by decide)
      have sm : Sm H5 3 (.ref g) (.ref g) := .inl (.lst h6 h6 rfl (by simp; omega) fun i x y hx hy => by
        rw [hx] at hy
        cases hy
        exact (sc x (List.mem_of_getElem? hx) H5).up)
      have ex5 : Ex H0 H5 := fun c u hc => kp c u (fun z => by rw [z] at hc; rw [ex _ _ hc] at hg; cases hg) (e3 _ _ (e2 _ _ (ex _ _ hc)))
      refine q_when (b := false) (et_is (et_or (a := false) (b := false) (et_is (et_test (ev_op (x := .str (S wd.kd)) (y := .str (S wd.kd)) (ev_op (ev_var rfl) ev_c (rv_ixL (i := ((0 : Nat) : Int)) (sq_of h5) (atI_nat rfl))) (ev_var rfl) rv_neS)) (by simp)) fun _ => et_is (et_not (et_B (ev_call (ea_cons (ev_op (ev_var rfl) ev_c (rv_ixL (i := ((1 : Nat) : Int)) (sq_of h5) (atI_nat rfl))) (ea_cons (ev_var rfl) ea_nil)) (SpV.of fun H6 Q6 E6 e6 q6 => ⟨(.ref g), (.ref g), rfl, Sm.ex e6 sm, q6⟩)))) rfl) rfl) (fun h => by cases h) fun _ H6 e6 => ?_
      exact s_asg (v := .bl (!nm2)) (ev_notV (ev_var rfl)) fun H7 e7 => ⟨(ex5.trans e6).trans e7, _, _, _, _, rfl⟩
    | @tup a xs ha hl s =>
      refine q_asg (v := .ref a) (ev_call (ea_cons (ev_var rfl) ea_nil) (SpV.of fun H4 Q4 E4 e4 q4 => ⟨.ref a, "tuple", rfl, .tup (e4 _ _ ha), q4⟩)) fun H2 e2 => ?_
      have ha2 := e2 _ _ ha
      refine q_asgL (xs := [.str (S wd.kd), (.ref a)]) (el_call (ea_cons (ev_var rfl) (ea_cons (ev_var rfl) (ea_cons (ev_var rfl) ea_nil))) fun H4 e4 Q4 q4 E4 => ⟨wd, (.ref a), "tuple", nm2, rfl, (.tup (e4 _ _ ha2)), refuses.q (ref_ref hw rfl rfl) q4⟩) fun p3 H3 hp3 e3 h3 => ?_
      refine ⟨_, rfl, (.ref a), "tuple", rfl, (.tup (e3 _ _ ha2)), (fun a z => by cases z; exact ⟨fun ys hy => (by rw [e3 _ _ ha2] at hy; cases hy), fun ys hy => (by rw [e3 _ _ ha2] at hy; cases hy)⟩), fun H5 gr => ?_⟩
      have e5 : Ex H3 H5 := gr
      have h5 := e5 _ _ h3
      have h6 := e5 _ _ (e3 _ _ ha2)
      have sm : Sm H5 3 (.ref a) (.ref a) := .inl (.tup h6 h6 rfl (by omega) fun i x y hx hy => by
        rw [hx] at hy
        cases hy
        exact (s x (List.mem_of_getElem? hx) H5).up)
      refine q_when (b := false) (et_is (et_or (a := false) (b := false) (et_is (et_test (ev_op (x := .str (S wd.kd)) (y := .str (S wd.kd)) (ev_op (ev_var rfl) ev_c (rv_ixL (i := ((0 : Nat) : Int)) (sq_of h5) (atI_nat rfl))) (ev_var rfl) rv_neS)) (by simp)) fun _ => et_is (et_not (et_B (ev_call (ea_cons (ev_op (ev_var rfl) ev_c (rv_ixL (i := ((1 : Nat) : Int)) (sq_of h5) (atI_nat rfl))) (ea_cons (ev_var rfl) ea_nil)) (SpV.of fun H6 Q6 E6 e6 q6 => ⟨(.ref a), (.ref a), rfl, Sm.ex e6 sm, q6⟩)))) rfl) rfl) (fun h => by cases h) fun _ H6 e6 => ?_
      exact s_asg (v := .bl (!nm2)) (ev_notV (ev_var rfl)) fun H7 e7 => ⟨((((ex.trans e2).trans e3).trans e5).trans e6).trans e7, _, _, _, _, rfl⟩
    | @dct a y ha s =>
      refine q_asgS (Pr := fun x H4 => ∃ g, x = .ref g ∧ H4 g = some (.dK [(Sum.inr "a", y)])) (fun H4 e4 Q4 q4 => ⟨_, rfl, .ref a, "dict", rfl, .dct (e4 _ _ ha), fun a' kvs ea hx => by
        cases ea
        rw [e4 _ _ ha] at hx
        cases hx
        exact fun p5 H5 hp5 e5 h5 => q4 p5 H5 hp5 e5 ⟨p5, rfl, h5⟩⟩) fun g H2 hg e2 hgx => ?_
      obtain ⟨g', eg, hg2⟩ := hgx
      cases eg
      refine q_asgL (xs := [.str (S wd.kd), (.ref g)]) (el_call (ea_cons (ev_var rfl) (ea_cons (ev_var rfl) (ea_cons (ev_var rfl) ea_nil))) fun H4 e4 Q4 q4 E4 => ⟨wd, (.ref g), "dict", nm2, rfl, (.dct (e4 _ _ hg2)), refuses.q (ref_ref hw rfl rfl) q4⟩) fun p3 H3 hp3 e3 h3 => ?_
      refine ⟨_, rfl, (.ref g), "dict", rfl, (.dct (e3 _ _ hg2)), (fun a z => by cases z; exact ⟨fun ys hy => (by rw [e3 _ _ hg2] at hy; cases hy), fun ys hy => (by rw [e3 _ _ hg2] at hy; cases hy; exact (by decide : 1 ≤ 1000))⟩), fun H5 gr => ?_⟩
      obtain ⟨a', kvs, ea, hx, kp, h6⟩ := (show ∃ a' kvs, V.ref g = .ref a' ∧ H3 a' = some (.dK kvs) ∧ Kp a' H3 H5 ∧ H5 a' = some (.dK (putK kvs (Sum.inr "more") (.int 1))) from gr)
      cases ea
      rw [e3 _ _ hg2] at hx
      cases hx
      have hpg : p3 ≠ g := fun z => by rw [z, hg2] at hp3; cases hp3
      have h5 := kp _ _ hpg h3
      have h7 : H5 g = some (.dK [(Sum.inr "a", y), (Sum.inr "more", .int 1)]) := h6
      have sm : Sm H5 3 (.ref g) (.ref g) := .inr ⟨g, _, 2, rfl, rfl, rfl, h7, by show 2 ≤ 1000; decide, fun i k v hk => by
        match i with
        | 0 =>
          cases hk
          exact ⟨valV_pos rfl, (s H5).up⟩
        | 1 =>
          cases hk
          exact ⟨(valV_neg key_ne).trans (valV_pos rfl), .int 1⟩
        | i + 2 => cases hk⟩
      have ex5 : Ex H0 H5 := fun c u hc => kp c u (fun z => by rw [z] at hc; rw [ex _ _ hc] at hg; cases hg) (e3 _ _ (e2 _ _ (ex _ _ hc)))
      refine q_when (b := false) (et_is (et_or (a := false) (b := false) (et_is (et_test (ev_op (x := .str (S wd.kd)) (y := .str (S wd.kd)) (ev_op (ev_var rfl) ev_c (rv_ixL (i := ((0 : Nat) : Int)) (sq_of h5) (atI_nat rfl))) (ev_var rfl) rv_neS)) (by simp)) fun _ => et_is (et_not (et_B (ev_call (ea_cons (ev_op (ev_var rfl) ev_c (rv_ixL (i := ((1 : Nat) : Int)) (sq_of h5) (atI_nat rfl))) (ea_cons (ev_var rfl) ea_nil)) (SpV.of fun H6 Q6 E6 e6 q6 => ⟨(.ref g), (.ref g), rfl, Sm.ex e6 sm, q6⟩)))) rfl) rfl) (fun h => by cases h) fun _ H6 e6 => ?_
      exact s_asg (v := .bl (!nm2)) (ev_notV (ev_var rfl)) fun H7 e7 => ⟨(ex5.trans e6).trans e7, _, _, _, _, rfl⟩
  · rintro σ' H8 ⟨e8, nm2, b3, b4, b5, b6, b7, b8, rfl⟩
    exact s_ret ev_c fun H9 e9 => q H9 ((E1.trans e8).trans e9)
end KF
set_option Elab.async false
set_option linter.all false
set_option maxRecDepth 100000
set_option maxHeartbeats 4000000
/-! EL: _law_invalid, _law_refusals, _law_kinds_of. -/
namespace KF
open PySem PySem.Spec PyProof.Rows L2 TEX He Evl
open SX (S S_tl S_len S_cat S_inj)
variable {P : Program} {w : World} {K : PySem.W.Frag} {mg : Str → Option Value} {base : Heap}
section
variable {X : Cx} {x : Str} {p pos : Pos} {e : Expr} {es : List Expr} {kws : List Keyword} {t tk : TA} {k : Nat} {ps : List Str} {Fs : List V → List (Str × V)}
theorem MkE.mkP (M : MkE X.prog X.w X.K X.mg x ps Fs) (hr : Room k X.A) (hn2 : ps.length ≤ 1000) (ha : PA X (e :: es) t) (hg : Gl X x := by rfl)
    (hdb : (x == ("__debug__" : Str)) = false := by decide) (he : starEach (e :: es) X.env = (false, eval e X.env) :: starEach es X.env := by rfl) (hpl : (backTo pos (starEach es X.env)).any (·.1) = false := by rfl) :
    PE X (.Call (.Name x p) (e :: es) [] pos) (tMkV (ga X.K x) ps.length Fs t) := by
  obtain ⟨fI, fd, c, b1, b2⟩ := M.ex
  exact pe_mkV c hr hg M.glo b1 rfl hn2 ha hdb he hpl
theorem MkE.mkK (M : MkE X.prog X.w X.K X.mg x ps Fs) (hr : Room k X.A) (hkw : PK X kws tk) (hg : Gl X x := by rfl)
    (hall : (backToKw pos (keywordEach kws X.env)).all (·.1.isSome) = true := by rfl) (hks : (backToKw pos (keywordEach kws X.env)).filterMap (·.1) = ps := by rfl) (hdb : (x == ("__debug__" : Str)) = false := by decide)
    (hpl : ((backTo pos (starEach [] X.env)).any (·.1) || (backToKw pos (keywordEach kws X.env)).any (·.1.isNone)) = false := by rfl) : PE X (.Call (.Name x p) [] kws pos) (tMkV (ga X.K x) ps.length Fs tk) := by
  obtain ⟨fI, fd, c, b1, b2⟩ := M.ex
  exact pe_mkVK c hr hg M.glo b2 (Nat.zero_add _) hkw hall hks hdb hpl
theorem MkE.mkN (M : MkE X.prog X.w X.K X.mg x [] Fs) (hr : Room k X.A) (hg : Gl X x := by rfl) (hdb : (x == ("__debug__" : Str)) = false := by decide) : PE X (.Call (.Name x p) [] [] pos) (tMkV (ga X.K x) 0 Fs tNil) := by
  obtain ⟨fI, fd, c, b1, b2⟩ := M.ex
  exact pe_mkV0 c hr hg M.glo b1 rfl hdb
end
/-- an error of the class c with the field fx = v -/
def ErrIs (K : PySem.W.Frag) (H : Hp) (x : V) (c : Str × Str × V) : Prop := ∃ a d fs, x = .ref a ∧ H a = some (exo a (ga K c.1) (some d)) ∧ H d = some (exd d fs) ∧ fs.lookup c.2.1 = some c.2.2
theorem ErrIs.ex {H H' : Hp} {x : V} {c : Str × Str × V} (h : ErrIs K H x c) (e : Ex H H') : ErrIs K H' x c := by
  obtain ⟨a, d, fs, e1, h1, h2, h3⟩ := h
  exact ⟨a, d, fs, e1, e _ _ h1, e _ _ h2, h3⟩
def Errs (K : PySem.W.Frag) (H : Hp) (cs : List (Str × Str × V)) (vs : List V) : Prop := vs.length = cs.length ∧ ∀ (i : Nat) (x : V) (c : Str × Str × V), vs[i]? = some x → cs[i]? = some c → ErrIs K H x c
theorem Errs.ex {H H' : Hp} {cs : List (Str × Str × V)} {vs : List V} (h : Errs K H cs vs) (e : Ex H H') : Errs K H' cs vs := ⟨h.1, fun i x c hx hc => (h.2 i x c hx hc).ex e⟩
theorem Errs.app {H : Hp} {cs ds : List (Str × Str × V)} {vs ws : List V} (h : Errs K H cs vs) (k : Errs K H ds ws) : Errs K H (cs ++ ds) (vs ++ ws) := by
  refine ⟨by rw [List.length_append, List.length_append, h.1, k.1], fun i x c hx hc => ?_⟩
  by_cases hi : i < vs.length
  · rw [List.getElem?_append_left hi] at hx
    rw [List.getElem?_append_left (by rw [← h.1]; exact hi)] at hc
    exact h.2 i x c hx hc
  · rw [List.getElem?_append_right (by omega)] at hx
    rw [List.getElem?_append_right (by rw [← h.1]; omega), ← h.1] at hc
    exact k.2 _ x c hx hc
def LE (K : PySem.W.Frag) (cs : List (Str × Str × V)) (x : V) (H : Hp) : Prop := ∃ p vs, x = .ref p ∧ H p = some (.lst vs) ∧ Errs K H cs vs
theorem LE.ex {H H' : Hp} {cs : List (Str × Str × V)} {x : V} (h : LE K cs x H) (e : Ex H H') : LE K cs x H' := by
  obtain ⟨p, vs, e1, h1, h2⟩ := h
  exact ⟨p, vs, e1, e _ _ h1, h2.ex e⟩
def EvEs (K : PySem.W.Frag) (cs : List (Str × Str × V)) (ta : TA) (σ : L2.St) (H : Hp) : Prop := ∀ H1, Ex H H1 → ∀ Q : List V → Hp → Prop, (∀ vs H2, Ex H1 H2 → Errs K H2 cs vs → Q vs H2) → ta σ H1 Q
section
variable {σ : L2.St} {H : Hp} {te : TE} {ta : TA}
theorem es_mk {C : Addr} {c : Str} {fx : Str} {v : V} {us : List V} {n : Nat} {Fs : List V → List (Str × V)} (hC : C = ga K c) (h : EvA ta σ H us) (hn : us.length = n) (hf : (Fs us).lookup fx = some v) : EvS (tMkV C n Fs ta) σ H (fun x H2 => ErrIs K H2 x (c, fx, v)) := fun H1 e Q q =>
  h H1 e _ fun H2 e2 => ⟨hn, fun x dx hx hdx hne => by
    subst hC
    have x1 := Ex.new (o := exd dx (Fs us)) hdx
    have hx2 : upd H2 dx (exd dx (Fs us)) x = none := by rw [upd_ne (Ne.symm hne)]; exact hx
    have x2 := Ex.new (o := exo x (ga K c) (some dx)) hx2
    exact q x _ (fresh_back e2 hx) ((e2.trans x1).trans x2) ⟨x, dx, Fs us, rfl, upd_same, x2 _ _ upd_same, hf⟩⟩
theorem ee_nil : EvEs K [] tNil σ H := fun H1 _ Q q => q [] H1 (Ex.refl _) ⟨rfl, fun i x c hx => by cases hx⟩
theorem ee_cons {c : Str × Str × V} {cs : List (Str × Str × V)} (h : EvS te σ H (fun x H2 => ErrIs K H2 x c)) (hr : EvEs K cs ta σ H) : EvEs K (c :: cs) (tCons te ta) σ H := fun H1 e Q q =>
  h H1 e _ fun a H2 _ e2 he => hr H2 (e.trans e2) _ fun vs H3 e3 hk => q _ H3 (e2.trans e3) ⟨by rw [List.length_cons, List.length_cons, hk.1], fun i x d hx hd => by
    cases i with
    | zero =>
      have h1 : x = .ref a := (Option.some.inj hx).symm
      have h2 : d = c := (Option.some.inj hd).symm
      subst h1 h2
      exact he.ex e3
    | succ i => exact hk.2 i x d (by simpa using hx) (by simpa using hd)⟩
theorem es_lstE {cs : List (Str × Str × V)} (h : EvEs K cs ta σ H) (hz : cs.length ≤ 1000) : EvS (tLst ta) σ H (LE K cs) := fun H1 e Q q =>
  h H1 e _ fun vs H2 e2 hk => ⟨sz_of (by rw [hk.1]; omega), fun p hp => q p _ (fresh_back e2 hp) (e2.trans (Ex.new hp)) ⟨p, vs, rfl, upd_same, hk.ex (Ex.new hp)⟩⟩
theorem es_catE {cs ds : List (Str × Str × V)} {i : Nat} {x : V} (hi : σ[i]? = some (some x)) (hx : LE K cs x H) (h : EvEs K ds ta σ H) (hz : cs.length + ds.length ≤ 1000) : EvS (tOp rCat (tVar i) (tLst ta)) σ H (LE K (cs ++ ds)) := fun H1 e Q q => by
  obtain ⟨p, vs, rfl, h1, h2⟩ := hx
  refine ⟨_, hi, h H1 e _ fun ws H2 e2 hk => ⟨sz_of (by rw [hk.1]; omega), fun r hr => ⟨p, r, vs, ws, rfl, rfl, Ex.new hr _ _ (e2 _ _ (e _ _ h1)), upd_same, sz_of (by rw [h2.1, hk.1]; omega), fun s hs => ?_⟩⟩⟩
  have x1 := Ex.new (o := .lst ws) hr
  have x2 := Ex.new (o := .lst (vs ++ ws)) hs
  exact q s _ (fresh_back (e2.trans x1) hs) ((e2.trans x1).trans x2) ⟨s, _, rfl, upd_same, (h2.ex (((e.trans e2).trans x1).trans x2)).app ((hk.ex x1).ex x2)⟩
end
def csInv (v : V) : List (Str × Str × V) := KH.teN.map fun c => (c, ("given" : Str), v)
def spInv (K : PySem.W.Frag) : Sp := fun vs H Q _ => ∃ v nm, vs = [v, .bl nm] ∧ ∀ a H2, H a = none → Ex H H2 → LE K (csInv v) (.ref a) H2 → Q (.ref a) H2
theorem sc32 : FnScope ["thing", "named", "found"] ["thing", "named"] (defScope (KH.top 91)) := ⟨rfl, rfl, rfl, by decide +kernel, rfl, by decide +kernel, by decide +kernel⟩
theorem c_invalid (T : Env P w K mg base) : Callee P w K mg base CXN 3 "_law_invalid" ["thing", "named"] (spInv K) := by
  obtain ⟨fd, F⟩ := T.fn 32 (d := KH.dd "_law_invalid" 91)
  refine callee (st := KH.top 91) F (T.glo 32 (d := KH.dd "_law_invalid" 91)) sc32 (fun _ _ _ _ _ _ us hl => match us, hl with | [_, _], _ => rfl) (fun _ _ _ _ _ _ us hl => match us, hl with | [_, _], _ => rfl) (fun vs H Q E h => by obtain ⟨v, nm, rfl, _⟩ := h; rfl) ?_
  intro cdv A outer s H vs Q E hr h
  obtain ⟨v, nm, rfl, q⟩ := h
  have nd := sc32.nd
  refine ⟨_, (PSs.nox (pss_cons (ps_if (pt_val (pv 1)) (pss_cons (ps_set (i := 2) nd rfl (Or.inl rfl) (pe_lst (pa_cons (MkE.mkK (T.mkTe (x := "InvalidChain") (by decide)) hr (pk_cons (pv 0) pk_nil)) (pa_cons (MkE.mkK (T.mkTe (x := "InvalidCode") (by decide)) hr (pk_cons (pv 0) pk_nil)) (pa_cons (MkE.mkK (T.mkTe (x := "InvalidCodes") (by decide)) hr (pk_cons (pv 0) pk_nil)) (pa_cons (MkE.mkK (T.mkTe (x := "InvalidForm") (by decide)) hr (pk_cons (pv 0) pk_nil)) (pa_cons (MkE.mkK (T.mkTe (x := "InvalidGoal") (by decide)) hr (pk_cons (pv 0) pk_nil)) (pa_cons (MkE.mkK (T.mkTe (x := "InvalidIndex") (by decide)) hr (pk_cons (pv 0) pk_nil)) pa_nil)))))))) (pss_cons (ps_set (i := 2) nd rfl (Or.inl rfl) (pe_op op_cat (pv 2) (pe_lst (pa_cons (MkE.mkK (T.mkTe (x := "InvalidLot") (by decide)) hr (pk_cons (pv 0) pk_nil)) (pa_cons (MkE.mkK (T.mkTe (x := "InvalidModule") (by decide)) hr (pk_cons (pv 0) pk_nil)) (pa_cons (MkE.mkK (T.mkTe (x := "InvalidName") (by decide)) hr (pk_cons (pv 0) pk_nil)) (pa_cons (MkE.mkK (T.mkTe (x := "InvalidNumber") (by decide)) hr (pk_cons (pv 0) pk_nil)) (pa_cons (MkE.mkK (T.mkTe (x := "InvalidPairs") (by decide)) hr (pk_cons (pv 0) pk_nil)) (pa_cons (MkE.mkK (T.mkTe (x := "InvalidPath") (by decide)) hr (pk_cons (pv 0) pk_nil)) pa_nil))))))))) (pss_cons (ps_set (i := 2) nd rfl (Or.inl rfl) (pe_op op_cat (pv 2) (pe_lst (pa_cons (MkE.mkK (T.mkTe (x := "InvalidPieces") (by decide)) hr (pk_cons (pv 0) pk_nil)) (pa_cons (MkE.mkK (T.mkTe (x := "InvalidPlace") (by decide)) hr (pk_cons (pv 0) pk_nil)) (pa_cons (MkE.mkK (T.mkTe (x := "InvalidPlaces") (by decide)) hr (pk_cons (pv 0) pk_nil)) (pa_cons (MkE.mkK (T.mkTe (x := "InvalidRow") (by decide)) hr (pk_cons (pv 0) pk_nil)) (pa_cons (MkE.mkK (T.mkTe (x := "InvalidRule") (by decide)) hr (pk_cons (pv 0) pk_nil)) (pa_cons (MkE.mkK (T.mkTe (x := "InvalidRules") (by decide)) hr (pk_cons (pv 0) pk_nil)) pa_nil))))))))) (pss_cons (ps_set (i := 2) nd rfl (Or.inl rfl) (pe_op op_cat (pv 2) (pe_lst (pa_cons (MkE.mkK (T.mkTe (x := "InvalidState") (by decide)) hr (pk_cons (pv 0) pk_nil)) (pa_cons (MkE.mkK (T.mkTe (x := "InvalidStep") (by decide)) hr (pk_cons (pv 0) pk_nil)) (pa_cons (MkE.mkK (T.mkTe (x := "InvalidSteps") (by decide)) hr (pk_cons (pv 0) pk_nil)) (pa_cons (MkE.mkK (T.mkTe (x := "InvalidSuite") (by decide)) hr (pk_cons (pv 0) pk_nil)) (pa_cons (MkE.mkK (T.mkTe (x := "InvalidTable") (by decide)) hr (pk_cons (pv 0) pk_nil)) (pa_cons (MkE.mkK (T.mkTe (x := "InvalidTerm") (by decide)) hr (pk_cons (pv 0) pk_nil)) pa_nil))))))))) (pss_cons (ps_set (i := 2) nd rfl (Or.inl rfl) (pe_op op_cat (pv 2) (pe_lst (pa_cons (MkE.mkK (T.mkTe (x := "InvalidText") (by decide)) hr (pk_cons (pv 0) pk_nil)) (pa_cons (MkE.mkK (T.mkTe (x := "InvalidTrees") (by decide)) hr (pk_cons (pv 0) pk_nil)) (pa_cons (MkE.mkK (T.mkTe (x := "InvalidType") (by decide)) hr (pk_cons (pv 0) pk_nil)) (pa_cons (MkE.mkK (T.mkTe (x := "InvalidUses") (by decide)) hr (pk_cons (pv 0) pk_nil)) (pa_cons (MkE.mkK (T.mkTe (x := "InvalidWord") (by decide)) hr (pk_cons (pv 0) pk_nil)) pa_nil)))))))) (pss_one (ps_ret (pv 2)))))))) pss_nil) (pss_cons (ps_set (i := 2) nd rfl (Or.inl rfl) (pe_lst (pa_cons (MkE.mkP (T.mkTe (x := "InvalidChain") (by decide)) hr (by decide) (pa_cons (pv 0) pa_nil)) (pa_cons (MkE.mkP (T.mkTe (x := "InvalidCode") (by decide)) hr (by decide) (pa_cons (pv 0) pa_nil)) (pa_cons (MkE.mkP (T.mkTe (x := "InvalidCodes") (by decide)) hr (by decide) (pa_cons (pv 0) pa_nil)) (pa_cons (MkE.mkP (T.mkTe (x := "InvalidForm") (by decide)) hr (by decide) (pa_cons (pv 0) pa_nil)) (pa_cons (MkE.mkP (T.mkTe (x := "InvalidGoal") (by decide)) hr (by decide) (pa_cons (pv 0) pa_nil)) (pa_cons (MkE.mkP (T.mkTe (x := "InvalidIndex") (by decide)) hr (by decide) (pa_cons (pv 0) pa_nil)) (pa_cons (MkE.mkP (T.mkTe (x := "InvalidLot") (by decide)) hr (by decide) (pa_cons (pv 0) pa_nil)) (pa_cons (MkE.mkP (T.mkTe (x := "InvalidModule") (by decide)) hr (by decide) (pa_cons (pv 0) pa_nil)) pa_nil)))))))))) (pss_cons (ps_set (i := 2) nd rfl (Or.inl rfl) (pe_op op_cat (pv 2) (pe_lst (pa_cons (MkE.mkP (T.mkTe (x := "InvalidName") (by decide)) hr (by decide) (pa_cons (pv 0) pa_nil)) (pa_cons (MkE.mkP (T.mkTe (x := "InvalidNumber") (by decide)) hr (by decide) (pa_cons (pv 0) pa_nil)) (pa_cons (MkE.mkP (T.mkTe (x := "InvalidPairs") (by decide)) hr (by decide) (pa_cons (pv 0) pa_nil)) (pa_cons (MkE.mkP (T.mkTe (x := "InvalidPath") (by decide)) hr (by decide) (pa_cons (pv 0) pa_nil)) (pa_cons (MkE.mkP (T.mkTe (x := "InvalidPieces") (by decide)) hr (by decide) (pa_cons (pv 0) pa_nil)) (pa_cons (MkE.mkP (T.mkTe (x := "InvalidPlace") (by decide)) hr (by decide) (pa_cons (pv 0) pa_nil)) (pa_cons (MkE.mkP (T.mkTe (x := "InvalidPlaces") (by decide)) hr (by decide) (pa_cons (pv 0) pa_nil)) (pa_cons (MkE.mkP (T.mkTe (x := "InvalidRow") (by decide)) hr (by decide) (pa_cons (pv 0) pa_nil)) pa_nil))))))))))) (pss_cons (ps_set (i := 2) nd rfl (Or.inl rfl) (pe_op op_cat (pv 2) (pe_lst (pa_cons (MkE.mkP (T.mkTe (x := "InvalidRule") (by decide)) hr (by decide) (pa_cons (pv 0) pa_nil)) (pa_cons (MkE.mkP (T.mkTe (x := "InvalidRules") (by decide)) hr (by decide) (pa_cons (pv 0) pa_nil)) (pa_cons (MkE.mkP (T.mkTe (x := "InvalidState") (by decide)) hr (by decide) (pa_cons (pv 0) pa_nil)) (pa_cons (MkE.mkP (T.mkTe (x := "InvalidStep") (by decide)) hr (by decide) (pa_cons (pv 0) pa_nil)) (pa_cons (MkE.mkP (T.mkTe (x := "InvalidSteps") (by decide)) hr (by decide) (pa_cons (pv 0) pa_nil)) (pa_cons (MkE.mkP (T.mkTe (x := "InvalidSuite") (by decide)) hr (by decide) (pa_cons (pv 0) pa_nil)) (pa_cons (MkE.mkP (T.mkTe (x := "InvalidTable") (by decide)) hr (by decide) (pa_cons (pv 0) pa_nil)) (pa_cons (MkE.mkP (T.mkTe (x := "InvalidTerm") (by decide)) hr (by decide) (pa_cons (pv 0) pa_nil)) pa_nil))))))))))) (pss_cons (ps_set (i := 2) nd rfl (Or.inl rfl) (pe_op op_cat (pv 2) (pe_lst (pa_cons (MkE.mkP (T.mkTe (x := "InvalidText") (by decide)) hr (by decide) (pa_cons (pv 0) pa_nil)) (pa_cons (MkE.mkP (T.mkTe (x := "InvalidTrees") (by decide)) hr (by decide) (pa_cons (pv 0) pa_nil)) (pa_cons (MkE.mkP (T.mkTe (x := "InvalidType") (by decide)) hr (by decide) (pa_cons (pv 0) pa_nil)) (pa_cons (MkE.mkP (T.mkTe (x := "InvalidUses") (by decide)) hr (by decide) (pa_cons (pv 0) pa_nil)) (pa_cons (MkE.mkP (T.mkTe (x := "InvalidWord") (by decide)) hr (by decide) (pa_cons (pv 0) pa_nil)) pa_nil)))))))) (pss_one (ps_ret (pv 2))))))))), ?_⟩
  refine q_when (b := nm) (et_B (ev_var rfl)) (fun hb G eG => ?_) (fun hb G eG => ?_)
  · clear hb
    refine q_asgS (es_lstE (ee_cons (c := ("InvalidChain", "given", v)) (es_mk rfl (ea_cons (ev_var rfl) ea_nil) rfl rfl) (ee_cons (c := ("InvalidCode", "given", v)) (es_mk rfl (ea_cons (ev_var rfl) ea_nil) rfl rfl) (ee_cons (c := ("InvalidCodes", "given", v)) (es_mk rfl (ea_cons (ev_var rfl) ea_nil) rfl rfl) (ee_cons (c := ("InvalidForm", "given", v)) (es_mk rfl (ea_cons (ev_var rfl) ea_nil) rfl rfl) (ee_cons (c := ("InvalidGoal", "given", v)) (es_mk rfl (ea_cons (ev_var rfl) ea_nil) rfl rfl) (ee_cons (c := ("InvalidIndex", "given", v)) (es_mk rfl (ea_cons (ev_var rfl) ea_nil) rfl rfl) ee_nil)))))) (Nat.le_of_ble_eq_true rfl)) fun a0 H1 n0 e0 l0 => ?_
    refine q_asgS (es_catE rfl l0 (ee_cons (c := ("InvalidLot", "given", v)) (es_mk rfl (ea_cons (ev_var rfl) ea_nil) rfl rfl) (ee_cons (c := ("InvalidModule", "given", v)) (es_mk rfl (ea_cons (ev_var rfl) ea_nil) rfl rfl) (ee_cons (c := ("InvalidName", "given", v)) (es_mk rfl (ea_cons (ev_var rfl) ea_nil) rfl rfl) (ee_cons (c := ("InvalidNumber", "given", v)) (es_mk rfl (ea_cons (ev_var rfl) ea_nil) rfl rfl) (ee_cons (c := ("InvalidPairs", "given", v)) (es_mk rfl (ea_cons (ev_var rfl) ea_nil) rfl rfl) (ee_cons (c := ("InvalidPath", "given", v)) (es_mk rfl (ea_cons (ev_var rfl) ea_nil) rfl rfl) ee_nil)))))) (Nat.le_of_ble_eq_true rfl)) fun a1 H2 n1 e1 l1 => ?_
    refine q_asgS (es_catE rfl l1 (ee_cons (c := ("InvalidPieces", "given", v)) (es_mk rfl (ea_cons (ev_var rfl) ea_nil) rfl rfl) (ee_cons (c := ("InvalidPlace", "given", v)) (es_mk rfl (ea_cons (ev_var rfl) ea_nil) rfl rfl) (ee_cons (c := ("InvalidPlaces", "given", v)) (es_mk rfl (ea_cons (ev_var rfl) ea_nil) rfl rfl) (ee_cons (c := ("InvalidRow", "given", v)) (es_mk rfl (ea_cons (ev_var rfl) ea_nil) rfl rfl) (ee_cons (c := ("InvalidRule", "given", v)) (es_mk rfl (ea_cons (ev_var rfl) ea_nil) rfl rfl) (ee_cons (c := ("InvalidRules", "given", v)) (es_mk rfl (ea_cons (ev_var rfl) ea_nil) rfl rfl) ee_nil)))))) (Nat.le_of_ble_eq_true rfl)) fun a2 H3 n2 e2 l2 => ?_
    refine q_asgS (es_catE rfl l2 (ee_cons (c := ("InvalidState", "given", v)) (es_mk rfl (ea_cons (ev_var rfl) ea_nil) rfl rfl) (ee_cons (c := ("InvalidStep", "given", v)) (es_mk rfl (ea_cons (ev_var rfl) ea_nil) rfl rfl) (ee_cons (c := ("InvalidSteps", "given", v)) (es_mk rfl (ea_cons (ev_var rfl) ea_nil) rfl rfl) (ee_cons (c := ("InvalidSuite", "given", v)) (es_mk rfl (ea_cons (ev_var rfl) ea_nil) rfl rfl) (ee_cons (c := ("InvalidTable", "given", v)) (es_mk rfl (ea_cons (ev_var rfl) ea_nil) rfl rfl) (ee_cons (c := ("InvalidTerm", "given", v)) (es_mk rfl (ea_cons (ev_var rfl) ea_nil) rfl rfl) ee_nil)))))) (Nat.le_of_ble_eq_true rfl)) fun a3 H4 n3 e3 l3 => ?_
    refine q_asgS (es_catE rfl l3 (ee_cons (c := ("InvalidText", "given", v)) (es_mk rfl (ea_cons (ev_var rfl) ea_nil) rfl rfl) (ee_cons (c := ("InvalidTrees", "given", v)) (es_mk rfl (ea_cons (ev_var rfl) ea_nil) rfl rfl) (ee_cons (c := ("InvalidType", "given", v)) (es_mk rfl (ea_cons (ev_var rfl) ea_nil) rfl rfl) (ee_cons (c := ("InvalidUses", "given", v)) (es_mk rfl (ea_cons (ev_var rfl) ea_nil) rfl rfl) (ee_cons (c := ("InvalidWord", "given", v)) (es_mk rfl (ea_cons (ev_var rfl) ea_nil) rfl rfl) ee_nil))))) (Nat.le_of_ble_eq_true rfl)) fun a4 H5 n4 e4 l4 => ?_
    exact s_ret (v := .ref a4) (ev_var rfl) fun G2 eG2 => q _ _ (fresh_back eG (fresh_back (((e0.trans e1).trans e2).trans e3) n4)) ((eG.trans ((((e0.trans e1).trans e2).trans e3).trans e4)).trans eG2) (LE.ex l4 eG2)
  · clear hb
    refine q_asgS (es_lstE (ee_cons (c := ("InvalidChain", "given", v)) (es_mk rfl (ea_cons (ev_var rfl) ea_nil) rfl rfl) (ee_cons (c := ("InvalidCode", "given", v)) (es_mk rfl (ea_cons (ev_var rfl) ea_nil) rfl rfl) (ee_cons (c := ("InvalidCodes", "given", v)) (es_mk rfl (ea_cons (ev_var rfl) ea_nil) rfl rfl) (ee_cons (c := ("InvalidForm", "given", v)) (es_mk rfl (ea_cons (ev_var rfl) ea_nil) rfl rfl) (ee_cons (c := ("InvalidGoal", "given", v)) (es_mk rfl (ea_cons (ev_var rfl) ea_nil) rfl rfl) (ee_cons (c := ("InvalidIndex", "given", v)) (es_mk rfl (ea_cons (ev_var rfl) ea_nil) rfl rfl) (ee_cons (c := ("InvalidLot", "given", v)) (es_mk rfl (ea_cons (ev_var rfl) ea_nil) rfl rfl) (ee_cons (c := ("InvalidModule", "given", v)) (es_mk rfl (ea_cons (ev_var rfl) ea_nil) rfl rfl) ee_nil)))))))) (Nat.le_of_ble_eq_true rfl)) fun a0 H1 n0 e0 l0 => ?_
    refine q_asgS (es_catE rfl l0 (ee_cons (c := ("InvalidName", "given", v)) (es_mk rfl (ea_cons (ev_var rfl) ea_nil) rfl rfl) (ee_cons (c := ("InvalidNumber", "given", v)) (es_mk rfl (ea_cons (ev_var rfl) ea_nil) rfl rfl) (ee_cons (c := ("InvalidPairs", "given", v)) (es_mk rfl (ea_cons (ev_var rfl) ea_nil) rfl rfl) (ee_cons (c := ("InvalidPath", "given", v)) (es_mk rfl (ea_cons (ev_var rfl) ea_nil) rfl rfl) (ee_cons (c := ("InvalidPieces", "given", v)) (es_mk rfl (ea_cons (ev_var rfl) ea_nil) rfl rfl) (ee_cons (c := ("InvalidPlace", "given", v)) (es_mk rfl (ea_cons (ev_var rfl) ea_nil) rfl rfl) (ee_cons (c := ("InvalidPlaces", "given", v)) (es_mk rfl (ea_cons (ev_var rfl) ea_nil) rfl rfl) (ee_cons (c := ("InvalidRow", "given", v)) (es_mk rfl (ea_cons (ev_var rfl) ea_nil) rfl rfl) ee_nil)))))))) (Nat.le_of_ble_eq_true rfl)) fun a1 H2 n1 e1 l1 => ?_
    refine q_asgS (es_catE rfl l1 (ee_cons (c := ("InvalidRule", "given", v)) (es_mk rfl (ea_cons (ev_var rfl) ea_nil) rfl rfl) (ee_cons (c := ("InvalidRules", "given", v)) (es_mk rfl (ea_cons (ev_var rfl) ea_nil) rfl rfl) (ee_cons (c := ("InvalidState", "given", v)) (es_mk rfl (ea_cons (ev_var rfl) ea_nil) rfl rfl) (ee_cons (c := ("InvalidStep", "given", v)) (es_mk rfl (ea_cons (ev_var rfl) ea_nil) rfl rfl) (ee_cons (c := ("InvalidSteps", "given", v)) (es_mk rfl (ea_cons (ev_var rfl) ea_nil) rfl rfl) (ee_cons (c := ("InvalidSuite", "given", v)) (es_mk rfl (ea_cons (ev_var rfl) ea_nil) rfl rfl) (ee_cons (c := ("InvalidTable", "given", v)) (es_mk rfl (ea_cons (ev_var rfl) ea_nil) rfl rfl) (ee_cons (c := ("InvalidTerm", "given", v)) (es_mk rfl (ea_cons (ev_var rfl) ea_nil) rfl rfl) ee_nil)))))))) (Nat.le_of_ble_eq_true rfl)) fun a2 H3 n2 e2 l2 => ?_
    refine q_asgS (es_catE rfl l2 (ee_cons (c := ("InvalidText", "given", v)) (es_mk rfl (ea_cons (ev_var rfl) ea_nil) rfl rfl) (ee_cons (c := ("InvalidTrees", "given", v)) (es_mk rfl (ea_cons (ev_var rfl) ea_nil) rfl rfl) (ee_cons (c := ("InvalidType", "given", v)) (es_mk rfl (ea_cons (ev_var rfl) ea_nil) rfl rfl) (ee_cons (c := ("InvalidUses", "given", v)) (es_mk rfl (ea_cons (ev_var rfl) ea_nil) rfl rfl) (ee_cons (c := ("InvalidWord", "given", v)) (es_mk rfl (ea_cons (ev_var rfl) ea_nil) rfl rfl) ee_nil))))) (Nat.le_of_ble_eq_true rfl)) fun a3 H4 n3 e3 l3 => ?_
    exact s_ret (v := .ref a3) (ev_var rfl) fun G2 eG2 => q _ _ (fresh_back eG (fresh_back ((e0.trans e1).trans e2) n3)) ((eG.trans (((e0.trans e1).trans e2).trans e3)).trans eG2) (LE.ex l3 eG2)
def csRef (v : V) : List (Str × Str × V) := (KH.rfN.map fun c : Str × Str => (c.1, c.2, v)) ++ KH.r0N.map fun c : Str => (c, ("given" : Str), V.non)
def spRef (K : PySem.W.Frag) : Sp := fun vs H Q _ => ∃ v nm, vs = [v, .bl nm] ∧ ∀ a H2, H a = none → Ex H H2 → LE K (csRef v) (.ref a) H2 → Q (.ref a) H2
theorem s_asgS {σ : L2.St} {H : Hp} {te : TE} {D : Ends} {i : Nat} {Pr : V → Hp → Prop} (h : EvS te σ H Pr) (k : ∀ a H1, H a = none → Ex H H1 → Pr (.ref a) H1 → D.nx (σ.set i (some (.ref a))) H1) : tAsg te (gName i) D σ H := h H (Ex.refl _) _ fun a H1 ha e1 p => k a H1 ha e1 p
theorem sc33 : FnScope ["thing", "named", "found"] ["thing", "named"] (defScope (KH.top 92)) := ⟨rfl, rfl, rfl, by decide +kernel, rfl, by decide +kernel, by decide +kernel⟩
theorem c_refusals (T : Env P w K mg base) : Callee P w K mg base CXN 3 "_law_refusals" ["thing", "named"] (spRef K) := by
  obtain ⟨fd, F⟩ := T.fn 33 (d := KH.dd "_law_refusals" 92)
  refine callee (st := KH.top 92) F (T.glo 33 (d := KH.dd "_law_refusals" 92)) sc33 (fun _ _ _ _ _ _ us hl => match us, hl with | [_, _], _ => rfl) (fun _ _ _ _ _ _ us hl => match us, hl with | [_, _], _ => rfl) (fun vs H Q E h => by obtain ⟨v, nm, rfl, _⟩ := h; rfl) ?_
  intro cdv A outer s H vs Q E hr h
  obtain ⟨v, nm, rfl, q⟩ := h
  have nd := sc33.nd
  refine ⟨_, (PSs.nox (pss_cut (ps_if (pt_val (pv 1)) (pss_cons (ps_set (i := 2) nd rfl (Or.inl rfl) (pe_lst (pa_cons (MkE.mkK T.mkApart hr (pk_cons (pv 0) pk_nil)) (pa_cons (MkE.mkK T.mkCircle hr (pk_cons (pv 0) pk_nil)) (pa_cons (MkE.mkK T.mkEqual hr (pk_cons (pv 0) pk_nil)) (pa_cons (MkE.mkK T.mkInUse hr (pk_cons (pv 0) pk_nil)) (pa_cons (MkE.mkK T.mkLoop hr (pk_cons (pv 0) pk_nil)) (pa_cons (MkE.mkK T.mkNotFew hr (pk_cons (pv 0) pk_nil)) (pa_cons (MkE.mkK T.mkTaken hr (pk_cons (pv 0) pk_nil)) pa_nil))))))))) (pss_one (ps_set (i := 2) nd rfl (Or.inl rfl) (pe_op op_cat (pv 2) (pe_lst (pa_cons (MkE.mkK T.mkTooFew hr (pk_cons (pv 0) pk_nil)) (pa_cons (MkE.mkK T.mkTooMany hr (pk_cons (pv 0) pk_nil)) (pa_cons (MkE.mkK T.mkTwice hr (pk_cons (pv 0) pk_nil)) (pa_cons (MkE.mkK T.mkUnknownName hr (pk_cons (pv 0) pk_nil)) (pa_cons (MkE.mkK T.mkUnlike hr (pk_cons (pv 0) pk_nil)) (pa_cons (MkE.mkK T.mkWrongStep hr (pk_cons (pv 0) pk_nil)) (pa_cons (MkE.mkK T.mkWrongType hr (pk_cons (pv 0) pk_nil)) pa_nil)))))))))))) (pss_cons (ps_set (i := 2) nd rfl (Or.inl rfl) (pe_lst (pa_cons (MkE.mkP T.mkApart hr (by decide) (pa_cons (pv 0) pa_nil)) (pa_cons (MkE.mkP T.mkCircle hr (by decide) (pa_cons (pv 0) pa_nil)) (pa_cons (MkE.mkP T.mkEqual hr (by decide) (pa_cons (pv 0) pa_nil)) (pa_cons (MkE.mkP T.mkInUse hr (by decide) (pa_cons (pv 0) pa_nil)) (pa_cons (MkE.mkP T.mkLoop hr (by decide) (pa_cons (pv 0) pa_nil)) (pa_cons (MkE.mkP T.mkNotFew hr (by decide) (pa_cons (pv 0) pa_nil)) (pa_cons (MkE.mkP T.mkTaken hr (by decide) (pa_cons (pv 0) pa_nil)) (pa_cons (MkE.mkP T.mkTooFew hr (by decide) (pa_cons (pv 0) pa_nil)) (pa_cons (MkE.mkP T.mkTooMany hr (by decide) (pa_cons (pv 0) pa_nil)) pa_nil))))))))))) (pss_one (ps_set (i := 2) nd rfl (Or.inl rfl) (pe_op op_cat (pv 2) (pe_lst (pa_cons (MkE.mkP T.mkTwice hr (by decide) (pa_cons (pv 0) pa_nil)) (pa_cons (MkE.mkP T.mkUnknownName hr (by decide) (pa_cons (pv 0) pa_nil)) (pa_cons (MkE.mkP T.mkUnlike hr (by decide) (pa_cons (pv 0) pa_nil)) (pa_cons (MkE.mkP T.mkWrongStep hr (by decide) (pa_cons (pv 0) pa_nil)) (pa_cons (MkE.mkP T.mkWrongType hr (by decide) (pa_cons (pv 0) pa_nil)) pa_nil))))))))))) (pss_one (ps_ret (pe_op op_cat (pv 2) (pe_lst (pa_cons (MkE.mkN T.mkNothingToRedo hr) (pa_cons (MkE.mkN T.mkNothingToUndo hr) (pa_cons (MkE.mkN T.mkStopped hr) pa_nil))))))))), ?_⟩
  refine ⟨fun σ' H' => ∃ a, σ' = [some v, some (.bl nm), some (.ref a)] ∧ Ex H H' ∧ LE K (KH.rfN.map fun c : Str × Str => (c.1, c.2, v)) (.ref a) H', ?_, ?_⟩
  · refine s_if (b := nm) (et_B (ev_var rfl)) (fun hb G eG => ?_) (fun hb G eG => ?_)
    · refine q_asgS (es_lstE (ee_cons (c := ("Apart", "place", v)) (es_mk rfl (ea_cons (ev_var rfl) ea_nil) rfl rfl) (ee_cons (c := ("Circle", "name", v)) (es_mk rfl (ea_cons (ev_var rfl) ea_nil) rfl rfl) (ee_cons (c := ("Equal", "form", v)) (es_mk rfl (ea_cons (ev_var rfl) ea_nil) rfl rfl) (ee_cons (c := ("InUse", "user", v)) (es_mk rfl (ea_cons (ev_var rfl) ea_nil) rfl rfl) (ee_cons (c := ("Loop", "used", v)) (es_mk rfl (ea_cons (ev_var rfl) ea_nil) rfl rfl) (ee_cons (c := ("NotFew", "count", v)) (es_mk rfl (ea_cons (ev_var rfl) ea_nil) rfl rfl) (ee_cons (c := ("Taken", "name", v)) (es_mk rfl (ea_cons (ev_var rfl) ea_nil) rfl rfl) ee_nil))))))) (Nat.le_of_ble_eq_true rfl)) fun a0 H1 n0 e0 l0 => ?_
      exact s_asgS (es_catE rfl l0 (ee_cons (c := ("TooFew", "count", v)) (es_mk rfl (ea_cons (ev_var rfl) ea_nil) rfl rfl) (ee_cons (c := ("TooMany", "count", v)) (es_mk rfl (ea_cons (ev_var rfl) ea_nil) rfl rfl) (ee_cons (c := ("Twice", "name", v)) (es_mk rfl (ea_cons (ev_var rfl) ea_nil) rfl rfl) (ee_cons (c := ("UnknownName", "name", v)) (es_mk rfl (ea_cons (ev_var rfl) ea_nil) rfl rfl) (ee_cons (c := ("Unlike", "form", v)) (es_mk rfl (ea_cons (ev_var rfl) ea_nil) rfl rfl) (ee_cons (c := ("WrongStep", "index", v)) (es_mk rfl (ea_cons (ev_var rfl) ea_nil) rfl rfl) (ee_cons (c := ("WrongType", "name", v)) (es_mk rfl (ea_cons (ev_var rfl) ea_nil) rfl rfl) ee_nil))))))) (Nat.le_of_ble_eq_true rfl)) fun a1 H2 n1 e1 l1 => ⟨a1, rfl, (eG.trans e0).trans e1, l1⟩
    · refine q_asgS (es_lstE (ee_cons (c := ("Apart", "place", v)) (es_mk rfl (ea_cons (ev_var rfl) ea_nil) rfl rfl) (ee_cons (c := ("Circle", "name", v)) (es_mk rfl (ea_cons (ev_var rfl) ea_nil) rfl rfl) (ee_cons (c := ("Equal", "form", v)) (es_mk rfl (ea_cons (ev_var rfl) ea_nil) rfl rfl) (ee_cons (c := ("InUse", "user", v)) (es_mk rfl (ea_cons (ev_var rfl) ea_nil) rfl rfl) (ee_cons (c := ("Loop", "used", v)) (es_mk rfl (ea_cons (ev_var rfl) ea_nil) rfl rfl) (ee_cons (c := ("NotFew", "count", v)) (es_mk rfl (ea_cons (ev_var rfl) ea_nil) rfl rfl) (ee_cons (c := ("Taken", "name", v)) (es_mk rfl (ea_cons (ev_var rfl) ea_nil) rfl rfl) (ee_cons (c := ("TooFew", "count", v)) (es_mk rfl (ea_cons (ev_var rfl) ea_nil) rfl rfl) (ee_cons (c := ("TooMany", "count", v)) (es_mk rfl (ea_cons (ev_var rfl) ea_nil) rfl rfl) ee_nil))))))))) (Nat.le_of_ble_eq_true rfl)) fun a0 H1 n0 e0 l0 => ?_
      exact s_asgS (es_catE rfl l0 (ee_cons (c := ("Twice", "name", v)) (es_mk rfl (ea_cons (ev_var rfl) ea_nil) rfl rfl) (ee_cons (c := ("UnknownName", "name", v)) (es_mk rfl (ea_cons (ev_var rfl) ea_nil) rfl rfl) (ee_cons (c := ("Unlike", "form", v)) (es_mk rfl (ea_cons (ev_var rfl) ea_nil) rfl rfl) (ee_cons (c := ("WrongStep", "index", v)) (es_mk rfl (ea_cons (ev_var rfl) ea_nil) rfl rfl) (ee_cons (c := ("WrongType", "name", v)) (es_mk rfl (ea_cons (ev_var rfl) ea_nil) rfl rfl) ee_nil))))) (Nat.le_of_ble_eq_true rfl)) fun a1 H2 n1 e1 l1 => ⟨a1, rfl, (eG.trans e0).trans e1, l1⟩
  rintro σ' G ⟨a, rfl, eG, l0⟩
  exact es_catE (cs := KH.rfN.map fun c : Str × Str => (c.1, c.2, v)) (ds := KH.r0N.map fun c : Str => (c, ("given" : Str), V.non)) rfl l0 (ee_cons (c := ("NothingToRedo", "given", .non)) (es_mk rfl ea_nil rfl rfl) (ee_cons (c := ("NothingToUndo", "given", .non)) (es_mk rfl ea_nil rfl rfl) (ee_cons (c := ("Stopped", "given", .non)) (es_mk rfl ea_nil rfl rfl) ee_nil))) (Nat.le_of_ble_eq_true rfl) G (Ex.refl _) _ fun a2 H2 n2 e2 l2 => q a2 H2 (fresh_back eG n2) (eG.trans e2) l2
/-! ### _law_kinds_of -/
theorem Env.eqB (T : Env P w K mg base) {i j : Nat} {x y : Str} (hx : KH.errN[i]? = some x) (hy : KH.errN[j]? = some y) : (ga K x == ga K y) = decide (j = i) := by
  by_cases h : j = i
  · subst h
    rw [hx] at hy
    cases hy
    simp
  · rw [decide_eq_false h]
    have h1 : (ga K "TestError" :: KH.errN.map (ga K))[i + 1]? = some (ga K x) := by
      show (KH.errN.map (ga K))[i]? = _
      rw [List.getElem?_map, hx]; rfl
    have h2 : (ga K "TestError" :: KH.errN.map (ga K))[j + 1]? = some (ga K y) := by
      show (KH.errN.map (ga K))[j]? = _
      rw [List.getElem?_map, hy]; rfl
    exact beq_false_of_ne (nodup_ne T.nodup h1 h2 (by omega))
theorem Env.neT2 (T : Env P w K mg base) {i : Nat} {x : Str} (hx : KH.errN[i]? = some x) : ga K x ≠ ga K "TestError" := by
  have h1 : (ga K "TestError" :: KH.errN.map (ga K))[i + 1]? = some (ga K x) := by
    show (KH.errN.map (ga K))[i]? = _
    rw [List.getElem?_map, hx]; rfl
  exact nodup_ne T.nodup h1 (show (ga K "TestError" :: KH.errN.map (ga K))[0]? = some (ga K "TestError") from rfl) (by omega)
/-- an error of the k-th class -/
def ErrK (K : PySem.W.Frag) (H : Hp) (x : V) (k : Nat) : Prop := ∃ a d fs c, x = .ref a ∧ KH.errN[k]? = some c ∧ H a = some (exo a (ga K c) (some d)) ∧ H d = some (exd d fs)
theorem ErrK.ex {H H' : Hp} {x : V} {k : Nat} (h : ErrK K H x k) (e : Ex H H') : ErrK K H' x k := by
  obtain ⟨a, d, fs, c, e1, h1, h2, h3⟩ := h
  exact ⟨a, d, fs, c, e1, h1, e _ _ h2, e _ _ h3⟩
theorem ev_isX (T : Env P w K mg base) {σ : L2.St} {H : Hp} {te : TE} {x : V} {k : Nat} (j : Nat) {y : Str} (h : Ev te σ H x) (hx : ErrK K H x k) (hy : KH.errN[j]? = some y := by rfl) : Ev (tCB (rIsX K) (tCons te (tCons (tC (.ref (ga K y))) tNil))) σ H (.bl (decide (j = k))) := fun H1 e Q q =>
  h H1 e _ fun H2 e2 => by
    obtain ⟨a, d, fs, c, rfl, hc, h1, h2⟩ := hx
    have ec := T.er (List.mem_of_getElem? hc)
    have ey := T.er (List.mem_of_getElem? hy)
    have kt := ec.kit ey
    rw [T.eqB hc hy, beq_false_of_ne (T.neT2 hy), Bool.or_false] at kt
    exact ⟨a, ga K c, d, fs, .ref (ga K y), .ref (ga K y), decide (j = k), rfl, e2 _ _ (e _ _ h1), e2 _ _ (e _ _ h2), ec.ec, .own _, kt, q H2 e2⟩
def kindsL (k : Nat) : List V := (List.range 46).map fun j => V.bl (decide (j = k))
def spKinds (K : PySem.W.Frag) : Sp := fun vs H Q _ => ∃ x k, vs = [x] ∧ ErrK K H x k ∧ RetL (kindsL k) H Q
theorem sc34 : FnScope ["e", "found"] ["e"] (defScope (KH.top 93)) := ⟨rfl, rfl, rfl, by decide +kernel, rfl, by decide +kernel, by decide +kernel⟩
theorem c_kinds (T : Env P w K mg base) : Callee P w K mg base CXN 1 "_law_kinds_of" ["e"] (spKinds K) := by
  obtain ⟨fd, F⟩ := T.fn 34 (d := KH.dd "_law_kinds_of" 93)
  refine callee (st := KH.top 93) F (T.glo 34 (d := KH.dd "_law_kinds_of" 93)) sc34 (fun _ _ _ _ _ _ us hl => match us, hl with | [_], _ => rfl) (fun _ _ _ _ _ _ us hl => match us, hl with | [_], _ => rfl) (fun vs H Q E h => by obtain ⟨x, k, rfl, _⟩ := h; rfl) ?_
  intro cdv A outer s H vs Q E hr h
  obtain ⟨x, k, rfl, hx, q⟩ := h
  have nd := sc34.nd
  refine ⟨_, (PSs.nox (pss_cons (ps_set (i := 1) nd rfl (Or.inl rfl) (pe_lst (pa_cons (pe_callB call_isX (by rfl) (T.free 0) (by decide +kernel) (pa_cons (pv 0) (pa_cons (pe_glob (v := .ref (ga K "InvalidChain")) (by rfl) (T.glE (x := "InvalidChain") (by decide)) rfl) pa_nil))) (pa_cons (pe_callB call_isX (by rfl) (T.free 0) (by decide +kernel) (pa_cons (pv 0) (pa_cons (pe_glob (v := .ref (ga K "InvalidCode")) (by rfl) (T.glE (x := "InvalidCode") (by decide)) rfl) pa_nil))) (pa_cons (pe_callB call_isX (by rfl) (T.free 0) (by decide +kernel) (pa_cons (pv 0) (pa_cons (pe_glob (v := .ref (ga K "InvalidCodes")) (by rfl) (T.glE (x := "InvalidCodes") (by decide)) rfl) pa_nil))) (pa_cons (pe_callB call_isX (by rfl) (T.free 0) (by decide +kernel) (pa_cons (pv 0) (pa_cons (pe_glob (v := .ref (ga K "InvalidForm")) (by rfl) (T.glE (x := "InvalidForm") (by decide)) rfl) pa_nil))) (pa_cons (pe_callB call_isX (by rfl) (T.free 0) (by decide +kernel) (pa_cons (pv 0) (pa_cons (pe_glob (v := .ref (ga K "InvalidGoal")) (by rfl) (T.glE (x := "InvalidGoal") (by decide)) rfl) pa_nil))) (pa_cons (pe_callB call_isX (by rfl) (T.free 0) (by decide +kernel) (pa_cons (pv 0) (pa_cons (pe_glob (v := .ref (ga K "InvalidIndex")) (by rfl) (T.glE (x := "InvalidIndex") (by decide)) rfl) pa_nil))) pa_nil)))))))) (pss_cons (ps_set (i := 1) nd rfl (Or.inl rfl) (pe_op op_cat (pv 1) (pe_lst (pa_cons (pe_callB call_isX (by rfl) (T.free 0) (by decide +kernel) (pa_cons (pv 0) (pa_cons (pe_glob (v := .ref (ga K "InvalidLot")) (by rfl) (T.glE (x := "InvalidLot") (by decide)) rfl) pa_nil))) (pa_cons (pe_callB call_isX (by rfl) (T.free 0) (by decide +kernel) (pa_cons (pv 0) (pa_cons (pe_glob (v := .ref (ga K "InvalidModule")) (by rfl) (T.glE (x := "InvalidModule") (by decide)) rfl) pa_nil))) (pa_cons (pe_callB call_isX (by rfl) (T.free 0) (by decide +kernel) (pa_cons (pv 0) (pa_cons (pe_glob (v := .ref (ga K "InvalidName")) (by rfl) (T.glE (x := "InvalidName") (by decide)) rfl) pa_nil))) (pa_cons (pe_callB call_isX (by rfl) (T.free 0) (by decide +kernel) (pa_cons (pv 0) (pa_cons (pe_glob (v := .ref (ga K "InvalidNumber")) (by rfl) (T.glE (x := "InvalidNumber") (by decide)) rfl) pa_nil))) (pa_cons (pe_callB call_isX (by rfl) (T.free 0) (by decide +kernel) (pa_cons (pv 0) (pa_cons (pe_glob (v := .ref (ga K "InvalidPairs")) (by rfl) (T.glE (x := "InvalidPairs") (by decide)) rfl) pa_nil))) (pa_cons (pe_callB call_isX (by rfl) (T.free 0) (by decide +kernel) (pa_cons (pv 0) (pa_cons (pe_glob (v := .ref (ga K "InvalidPath")) (by rfl) (T.glE (x := "InvalidPath") (by decide)) rfl) pa_nil))) pa_nil))))))))) (pss_cons (ps_set (i := 1) nd rfl (Or.inl rfl) (pe_op op_cat (pv 1) (pe_lst (pa_cons (pe_callB call_isX (by rfl) (T.free 0) (by decide +kernel) (pa_cons (pv 0) (pa_cons (pe_glob (v := .ref (ga K "InvalidPieces")) (by rfl) (T.glE (x := "InvalidPieces") (by decide)) rfl) pa_nil))) (pa_cons (pe_callB call_isX (by rfl) (T.free 0) (by decide +kernel) (pa_cons (pv 0) (pa_cons (pe_glob (v := .ref (ga K "InvalidPlace")) (by rfl) (T.glE (x := "InvalidPlace") (by decide)) rfl) pa_nil))) (pa_cons (pe_callB call_isX (by rfl) (T.free 0) (by decide +kernel) (pa_cons (pv 0) (pa_cons (pe_glob (v := .ref (ga K "InvalidPlaces")) (by rfl) (T.glE (x := "InvalidPlaces") (by decide)) rfl) pa_nil))) (pa_cons (pe_callB call_isX (by rfl) (T.free 0) (by decide +kernel) (pa_cons (pv 0) (pa_cons (pe_glob (v := .ref (ga K "InvalidRow")) (by rfl) (T.glE (x := "InvalidRow") (by decide)) rfl) pa_nil))) (pa_cons (pe_callB call_isX (by rfl) (T.free 0) (by decide +kernel) (pa_cons (pv 0) (pa_cons (pe_glob (v := .ref (ga K "InvalidRule")) (by rfl) (T.glE (x := "InvalidRule") (by decide)) rfl) pa_nil))) (pa_cons (pe_callB call_isX (by rfl) (T.free 0) (by decide +kernel) (pa_cons (pv 0) (pa_cons (pe_glob (v := .ref (ga K "InvalidRules")) (by rfl) (T.glE (x := "InvalidRules") (by decide)) rfl) pa_nil))) pa_nil))))))))) (pss_cons (ps_set (i := 1) nd rfl (Or.inl rfl) (pe_op op_cat (pv 1) (pe_lst (pa_cons (pe_callB call_isX (by rfl) (T.free 0) (by decide +kernel) (pa_cons (pv 0) (pa_cons (pe_glob (v := .ref (ga K "InvalidState")) (by rfl) (T.glE (x := "InvalidState") (by decide)) rfl) pa_nil))) (pa_cons (pe_callB call_isX (by rfl) (T.free 0) (by decide +kernel) (pa_cons (pv 0) (pa_cons (pe_glob (v := .ref (ga K "InvalidStep")) (by rfl) (T.glE (x := "InvalidStep") (by decide)) rfl) pa_nil))) (pa_cons (pe_callB call_isX (by rfl) (T.free 0) (by decide +kernel) (pa_cons (pv 0) (pa_cons (pe_glob (v := .ref (ga K "InvalidSteps")) (by rfl) (T.glE (x := "InvalidSteps") (by decide)) rfl) pa_nil))) (pa_cons (pe_callB call_isX (by rfl) (T.free 0) (by decide +kernel) (pa_cons (pv 0) (pa_cons (pe_glob (v := .ref (ga K "InvalidSuite")) (by rfl) (T.glE (x := "InvalidSuite") (by decide)) rfl) pa_nil))) (pa_cons (pe_callB call_isX (by rfl) (T.free 0) (by decide +kernel) (pa_cons (pv 0) (pa_cons (pe_glob (v := .ref (ga K "InvalidTable")) (by rfl) (T.glE (x := "InvalidTable") (by decide)) rfl) pa_nil))) (pa_cons (pe_callB call_isX (by rfl) (T.free 0) (by decide +kernel) (pa_cons (pv 0) (pa_cons (pe_glob (v := .ref (ga K "InvalidTerm")) (by rfl) (T.glE (x := "InvalidTerm") (by decide)) rfl) pa_nil))) pa_nil))))))))) (pss_cons (ps_set (i := 1) nd rfl (Or.inl rfl) (pe_op op_cat (pv 1) (pe_lst (pa_cons (pe_callB call_isX (by rfl) (T.free 0) (by decide +kernel) (pa_cons (pv 0) (pa_cons (pe_glob (v := .ref (ga K "InvalidText")) (by rfl) (T.glE (x := "InvalidText") (by decide)) rfl) pa_nil))) (pa_cons (pe_callB call_isX (by rfl) (T.free 0) (by decide +kernel) (pa_cons (pv 0) (pa_cons (pe_glob (v := .ref (ga K "InvalidTrees")) (by rfl) (T.glE (x := "InvalidTrees") (by decide)) rfl) pa_nil))) (pa_cons (pe_callB call_isX (by rfl) (T.free 0) (by decide +kernel) (pa_cons (pv 0) (pa_cons (pe_glob (v := .ref (ga K "InvalidType")) (by rfl) (T.glE (x := "InvalidType") (by decide)) rfl) pa_nil))) (pa_cons (pe_callB call_isX (by rfl) (T.free 0) (by decide +kernel) (pa_cons (pv 0) (pa_cons (pe_glob (v := .ref (ga K "InvalidUses")) (by rfl) (T.glE (x := "InvalidUses") (by decide)) rfl) pa_nil))) (pa_cons (pe_callB call_isX (by rfl) (T.free 0) (by decide +kernel) (pa_cons (pv 0) (pa_cons (pe_glob (v := .ref (ga K "InvalidWord")) (by rfl) (T.glE (x := "InvalidWord") (by decide)) rfl) pa_nil))) (pa_cons (pe_callB call_isX (by rfl) (T.free 0) (by decide +kernel) (pa_cons (pv 0) (pa_cons (pe_glob (v := .ref (ga K "Apart")) (by rfl) (T.glE (x := "Apart") (by decide)) rfl) pa_nil))) pa_nil))))))))) (pss_cons (ps_set (i := 1) nd rfl (Or.inl rfl) (pe_op op_cat (pv 1) (pe_lst (pa_cons (pe_callB call_isX (by rfl) (T.free 0) (by decide +kernel) (pa_cons (pv 0) (pa_cons (pe_glob (v := .ref (ga K "Circle")) (by rfl) (T.glE (x := "Circle") (by decide)) rfl) pa_nil))) (pa_cons (pe_callB call_isX (by rfl) (T.free 0) (by decide +kernel) (pa_cons (pv 0) (pa_cons (pe_glob (v := .ref (ga K "Equal")) (by rfl) (T.glE (x := "Equal") (by decide)) rfl) pa_nil))) (pa_cons (pe_callB call_isX (by rfl) (T.free 0) (by decide +kernel) (pa_cons (pv 0) (pa_cons (pe_glob (v := .ref (ga K "InUse")) (by rfl) (T.glE (x := "InUse") (by decide)) rfl) pa_nil))) (pa_cons (pe_callB call_isX (by rfl) (T.free 0) (by decide +kernel) (pa_cons (pv 0) (pa_cons (pe_glob (v := .ref (ga K "Loop")) (by rfl) (T.glE (x := "Loop") (by decide)) rfl) pa_nil))) (pa_cons (pe_callB call_isX (by rfl) (T.free 0) (by decide +kernel) (pa_cons (pv 0) (pa_cons (pe_glob (v := .ref (ga K "NotFew")) (by rfl) (T.glE (x := "NotFew") (by decide)) rfl) pa_nil))) (pa_cons (pe_callB call_isX (by rfl) (T.free 0) (by decide +kernel) (pa_cons (pv 0) (pa_cons (pe_glob (v := .ref (ga K "Taken")) (by rfl) (T.glE (x := "Taken") (by decide)) rfl) pa_nil))) pa_nil))))))))) (pss_cons (ps_set (i := 1) nd rfl (Or.inl rfl) (pe_op op_cat (pv 1) (pe_lst (pa_cons (pe_callB call_isX (by rfl) (T.free 0) (by decide +kernel) (pa_cons (pv 0) (pa_cons (pe_glob (v := .ref (ga K "TooFew")) (by rfl) (T.glE (x := "TooFew") (by decide)) rfl) pa_nil))) (pa_cons (pe_callB call_isX (by rfl) (T.free 0) (by decide +kernel) (pa_cons (pv 0) (pa_cons (pe_glob (v := .ref (ga K "TooMany")) (by rfl) (T.glE (x := "TooMany") (by decide)) rfl) pa_nil))) (pa_cons (pe_callB call_isX (by rfl) (T.free 0) (by decide +kernel) (pa_cons (pv 0) (pa_cons (pe_glob (v := .ref (ga K "Twice")) (by rfl) (T.glE (x := "Twice") (by decide)) rfl) pa_nil))) (pa_cons (pe_callB call_isX (by rfl) (T.free 0) (by decide +kernel) (pa_cons (pv 0) (pa_cons (pe_glob (v := .ref (ga K "UnknownName")) (by rfl) (T.glE (x := "UnknownName") (by decide)) rfl) pa_nil))) (pa_cons (pe_callB call_isX (by rfl) (T.free 0) (by decide +kernel) (pa_cons (pv 0) (pa_cons (pe_glob (v := .ref (ga K "Unlike")) (by rfl) (T.glE (x := "Unlike") (by decide)) rfl) pa_nil))) (pa_cons (pe_callB call_isX (by rfl) (T.free 0) (by decide +kernel) (pa_cons (pv 0) (pa_cons (pe_glob (v := .ref (ga K "WrongStep")) (by rfl) (T.glE (x := "WrongStep") (by decide)) rfl) pa_nil))) pa_nil))))))))) (pss_cons (ps_set (i := 1) nd rfl (Or.inl rfl) (pe_op op_cat (pv 1) (pe_lst (pa_cons (pe_callB call_isX (by rfl) (T.free 0) (by decide +kernel) (pa_cons (pv 0) (pa_cons (pe_glob (v := .ref (ga K "WrongType")) (by rfl) (T.glE (x := "WrongType") (by decide)) rfl) pa_nil))) (pa_cons (pe_callB call_isX (by rfl) (T.free 0) (by decide +kernel) (pa_cons (pv 0) (pa_cons (pe_glob (v := .ref (ga K "NothingToRedo")) (by rfl) (T.glE (x := "NothingToRedo") (by decide)) rfl) pa_nil))) (pa_cons (pe_callB call_isX (by rfl) (T.free 0) (by decide +kernel) (pa_cons (pv 0) (pa_cons (pe_glob (v := .ref (ga K "NothingToUndo")) (by rfl) (T.glE (x := "NothingToUndo") (by decide)) rfl) pa_nil))) (pa_cons (pe_callB call_isX (by rfl) (T.free 0) (by decide +kernel) (pa_cons (pv 0) (pa_cons (pe_glob (v := .ref (ga K "Stopped")) (by rfl) (T.glE (x := "Stopped") (by decide)) rfl) pa_nil))) pa_nil))))))) (pss_one (ps_ret (pv 1)))))))))))), ?_⟩
  refine q_asgL (el_lst (ea_cons (ev_isX T 0 (ev_var rfl) hx) (ea_cons (ev_isX T 1 (ev_var rfl) hx) (ea_cons (ev_isX T 2 (ev_var rfl) hx) (ea_cons (ev_isX T 3 (ev_var rfl) hx) (ea_cons (ev_isX T 4 (ev_var rfl) hx) (ea_cons (ev_isX T 5 (ev_var rfl) hx) ea_nil)))))) (by show 6 ≤ 100000; decide)) fun p0 H0 n0 E0 l0 => ?_
  refine q_asgL (el_cat (ev_var rfl) l0 (el_lst (ea_cons (ev_isX T 6 (ev_var rfl) (hx.ex E0)) (ea_cons (ev_isX T 7 (ev_var rfl) (hx.ex E0)) (ea_cons (ev_isX T 8 (ev_var rfl) (hx.ex E0)) (ea_cons (ev_isX T 9 (ev_var rfl) (hx.ex E0)) (ea_cons (ev_isX T 10 (ev_var rfl) (hx.ex E0)) (ea_cons (ev_isX T 11 (ev_var rfl) (hx.ex E0)) ea_nil)))))) (by show 6 ≤ 100000; decide)) (by show 6 + 6 ≤ 100000; decide)) fun p1 H1 n1 e1 l1 => ?_
  have E1 := E0.trans e1
  refine q_asgL (el_cat (ev_var rfl) l1 (el_lst (ea_cons (ev_isX T 12 (ev_var rfl) (hx.ex E1)) (ea_cons (ev_isX T 13 (ev_var rfl) (hx.ex E1)) (ea_cons (ev_isX T 14 (ev_var rfl) (hx.ex E1)) (ea_cons (ev_isX T 15 (ev_var rfl) (hx.ex E1)) (ea_cons (ev_isX T 16 (ev_var rfl) (hx.ex E1)) (ea_cons (ev_isX T 17 (ev_var rfl) (hx.ex E1)) ea_nil)))))) (by show 6 ≤ 100000; decide)) (by show 12 + 6 ≤ 100000; decide)) fun p2 H2 n2 e2 l2 => ?_
  have E2 := E1.trans e2
  refine q_asgL (el_cat (ev_var rfl) l2 (el_lst (ea_cons (ev_isX T 18 (ev_var rfl) (hx.ex E2)) (ea_cons (ev_isX T 19 (ev_var rfl) (hx.ex E2)) (ea_cons (ev_isX T 20 (ev_var rfl) (hx.ex E2)) (ea_cons (ev_isX T 21 (ev_var rfl) (hx.ex E2)) (ea_cons (ev_isX T 22 (ev_var rfl) (hx.ex E2)) (ea_cons (ev_isX T 23 (ev_var rfl) (hx.ex E2)) ea_nil)))))) (by show 6 ≤ 100000; decide)) (by show 18 + 6 ≤ 100000; decide)) fun p3 H3 n3 e3 l3 => ?_
  have E3 := E2.trans e3
  refine q_asgL (el_cat (ev_var rfl) l3 (el_lst (ea_cons (ev_isX T 24 (ev_var rfl) (hx.ex E3)) (ea_cons (ev_isX T 25 (ev_var rfl) (hx.ex E3)) (ea_cons (ev_isX T 26 (ev_var rfl) (hx.ex E3)) (ea_cons (ev_isX T 27 (ev_var rfl) (hx.ex E3)) (ea_cons (ev_isX T 28 (ev_var rfl) (hx.ex E3)) (ea_cons (ev_isX T 29 (ev_var rfl) (hx.ex E3)) ea_nil)))))) (by show 6 ≤ 100000; decide)) (by show 24 + 6 ≤ 100000; decide)) fun p4 H4 n4 e4 l4 => ?_
  have E4 := E3.trans e4
  refine q_asgL (el_cat (ev_var rfl) l4 (el_lst (ea_cons (ev_isX T 30 (ev_var rfl) (hx.ex E4)) (ea_cons (ev_isX T 31 (ev_var rfl) (hx.ex E4)) (ea_cons (ev_isX T 32 (ev_var rfl) (hx.ex E4)) (ea_cons (ev_isX T 33 (ev_var rfl) (hx.ex E4)) (ea_cons (ev_isX T 34 (ev_var rfl) (hx.ex E4)) (ea_cons (ev_isX T 35 (ev_var rfl) (hx.ex E4)) ea_nil)))))) (by show 6 ≤ 100000; decide)) (by show 30 + 6 ≤ 100000; decide)) fun p5 H5 n5 e5 l5 => ?_
  have E5 := E4.trans e5
  refine q_asgL (el_cat (ev_var rfl) l5 (el_lst (ea_cons (ev_isX T 36 (ev_var rfl) (hx.ex E5)) (ea_cons (ev_isX T 37 (ev_var rfl) (hx.ex E5)) (ea_cons (ev_isX T 38 (ev_var rfl) (hx.ex E5)) (ea_cons (ev_isX T 39 (ev_var rfl) (hx.ex E5)) (ea_cons (ev_isX T 40 (ev_var rfl) (hx.ex E5)) (ea_cons (ev_isX T 41 (ev_var rfl) (hx.ex E5)) ea_nil)))))) (by show 6 ≤ 100000; decide)) (by show 36 + 6 ≤ 100000; decide)) fun p6 H6 n6 e6 l6 => ?_
  have E6 := E5.trans e6
  refine q_asgL (el_cat (ev_var rfl) l6 (el_lst (ea_cons (ev_isX T 42 (ev_var rfl) (hx.ex E6)) (ea_cons (ev_isX T 43 (ev_var rfl) (hx.ex E6)) (ea_cons (ev_isX T 44 (ev_var rfl) (hx.ex E6)) (ea_cons (ev_isX T 45 (ev_var rfl) (hx.ex E6)) ea_nil)))) (by show 4 ≤ 100000; decide)) (by show 42 + 4 ≤ 100000; decide)) fun p7 H7 n7 e7 l7 => ?_
  have E7 := E6.trans e7
  exact s_ret (ev_var rfl) fun G eG => q p7 G (fresh_back E6 n7) (E7.trans eG) (eG _ _ l7)
end KF
set_option Elab.async false
set_option linter.all false
set_option maxRecDepth 100000
set_option maxHeartbeats 4000000
/-! EM: _law_errors_right. -/
namespace KF
open PySem PySem.Spec PyProof.Rows L2 TEX He Evl
open SX (S S_tl S_len S_cat S_inj)
variable {P : Program} {w : World} {K : PySem.W.Frag} {mg : Str → Option Value} {base : Heap}
/-! ### the thing -/
def Th (b : Addr) (H0 H : Hp) (v : V) : Prop := ∃ n, v ≠ .ref b ∧ (∀ p o, H0 p = some o → V.ref p ≠ v) ∧ ∀ H2, Kp b H H2 → Kd H2 v n ∧ Smal H2 v ∧ ∀ H3, Grown H2 v n H3 → Sm H3 3 v v ∧ ∀ p o, H2 p = some o → V.ref p ≠ v → H3 p = some o
theorem Th.keep {b : Addr} {H0 H H' : Hp} {v : V} (h : Th b H0 H v) (e : Kp b H H') : Th b H0 H' v := by
  obtain ⟨n, h1, h0, h2⟩ := h
  exact ⟨n, h1, h0, fun H2 k => h2 H2 (e.trans k)⟩
theorem th_non {b : Addr} {H0 H : Hp} : Th b H0 H .non := ⟨"NoneType", (fun z => nomatch z), (fun p o _ z => nomatch z), fun H2 _ => ⟨.non, (fun a z => nomatch z), fun H3 (gr : Ex H2 H3) => ⟨.inl .non, fun p o h _ => gr _ _ h⟩⟩⟩
theorem th_bl {b : Addr} {H0 H : Hp} (c : Bool) : Th b H0 H (.bl c) := ⟨"bool", (fun z => nomatch z), (fun p o _ z => nomatch z), fun H2 _ => ⟨.bl c, (fun a z => nomatch z), fun H3 (gr : Ex H2 H3) => ⟨.inl (.bl c), fun p o h _ => gr _ _ h⟩⟩⟩
theorem th_int {b : Addr} {H0 H : Hp} (i : Int) : Th b H0 H (.int i) := ⟨"int", (fun z => nomatch z), (fun p o _ z => nomatch z), fun H2 _ => ⟨.int i, (fun a z => nomatch z), fun H3 (gr : Ex H2 H3) => ⟨.inl (.int i), fun p o h _ => gr _ _ h⟩⟩⟩
theorem th_str {b : Addr} {H0 H : Hp} (l : List Nat) (h1 : l.length ≤ 1000) (h2 : l.all asc = true) : Th b H0 H (.str (S l)) := ⟨"str", (fun z => nomatch z), (fun p o _ z => nomatch z), fun H2 _ => ⟨.str l (by omega) h2, (fun a z => nomatch z), fun H3 (gr : Ex H2 H3) => ⟨.inl (.str l (by omega) h2), fun p o h _ => gr _ _ h⟩⟩⟩
theorem th_lst {b a : Addr} {H0 H : Hp} {xs : List V} (ha : H a = some (.lst xs)) (hab : a ≠ b) (hl : xs.length ≤ 10) (s : ∀ x ∈ xs, Scal x) (h0 : ∀ p o, H0 p = some o → p ≠ a) : Th b H0 H (.ref a) := ⟨"list", (fun z => hab (by cases z; rfl)), (fun p o h z => h0 p o h (by cases z; rfl)), fun H2 k => by
  have h2 := k a _ hab ha
  refine ⟨.lst h2, fun a' z => (by cases z; exact ⟨fun ys hy => (by rw [h2] at hy; cases hy; omega), fun ys hy => (by rw [h2] at hy; cases hy)⟩), fun H3 gr => ?_⟩
  obtain ⟨a', xs', ea, hx, kp, h6⟩ := (show ∃ a' xs', V.ref a = .ref a' ∧ H2 a' = some (.lst xs') ∧ Kp a' H2 H3 ∧ H3 a' = some (.lst (xs' ++ [.str "more"])) from gr)
  cases ea
  rw [h2] at hx
  cases hx
  have sc : ∀ x ∈ xs ++ [V.str "more"], Scal x := fun x hx => by
    rcases List.mem_append.mp hx with h | h
    · exact s x h
    · have : x = .str "more" := by simpa using h
      rw [this]
      exact scal_str [109, 111, 114, 101] (by decide) (by decide)
  refine ⟨.inl (.lst h6 h6 rfl (by simp; omega) fun i x y hx hy => ?_), fun p o h hne => kp p o (fun z => hne (by rw [z])) h⟩
  rw [hx] at hy
  cases hy
  exact (sc x (List.mem_of_getElem? hx) H3).up⟩
theorem th_tup {b a : Addr} {H0 H : Hp} {xs : List V} (ha : H a = some (.tup xs)) (hab : a ≠ b) (hl : xs.length ≤ 10) (s : ∀ x ∈ xs, Scal x) (h0 : ∀ p o, H0 p = some o → p ≠ a) : Th b H0 H (.ref a) := ⟨"tuple", (fun z => hab (by cases z; rfl)), (fun p o h z => h0 p o h (by cases z; rfl)), fun H2 k => by
  have h2 := k a _ hab ha
  refine ⟨.tup h2, fun a' z => (by cases z; exact ⟨fun ys hy => (by rw [h2] at hy; cases hy), fun ys hy => (by rw [h2] at hy; cases hy)⟩), fun H3 gr => ?_⟩
  have e : Ex H2 H3 := gr
  refine ⟨.inl (.tup (e _ _ h2) (e _ _ h2) rfl (by omega) fun i x y hx hy => ?_), fun p o h _ => e _ _ h⟩
  rw [hx] at hy
  cases hy
  exact (s x (List.mem_of_getElem? hx) H3).up⟩
theorem th_dct {b a q : Addr} {H0 H : Hp} (ha : H a = some (.dK [(Sum.inr "a", .ref q)])) (hq : H q = some (.lst [.int 2])) (hab : a ≠ b) (hqb : q ≠ b) (h0 : ∀ p o, H0 p = some o → p ≠ a) : Th b H0 H (.ref a) := ⟨"dict", (fun z => hab (by cases z; rfl)), (fun p o h z => h0 p o h (by cases z; rfl)), fun H2 k => by
  have h2 := k a _ hab ha
  have g2 := k q _ hqb hq
  refine ⟨.dct h2, fun a' z => (by cases z; exact ⟨fun ys hy => (by rw [h2] at hy; cases hy), fun ys hy => (by rw [h2] at hy; cases hy; exact (Nat.le_of_ble_eq_true rfl))⟩), fun H3 gr => ?_⟩
  obtain ⟨a', kvs, ea, hx, kp, h6⟩ := (show ∃ a' kvs, V.ref a = .ref a' ∧ H2 a' = some (.dK kvs) ∧ Kp a' H2 H3 ∧ H3 a' = some (.dK (putK kvs (Sum.inr "more") (.int 1))) from gr)
  cases ea
  rw [h2] at hx
  cases hx
  have hqa : q ≠ a := fun z => by rw [z, h2] at g2; cases g2
  have g3 := kp q _ hqa g2
  have h7 : H3 a = some (.dK [(Sum.inr "a", .ref q), (Sum.inr "more", .int 1)]) := h6
  refine ⟨.inr ⟨a, _, 2, rfl, rfl, rfl, h7, Nat.le_of_ble_eq_true rfl, fun i k v hk => ?_⟩, fun p o h hne => kp p o (fun z => hne (by rw [z])) h⟩
  match i with
  | 0 =>
    cases hk
    refine ⟨valV_pos rfl, .lst g3 g3 rfl (by decide) fun i x y hx hy => ?_⟩
    rw [hx] at hy
    cases hy
    match i with
    | 0 =>
      cases hx
      exact .int 2
    | i + 1 => cases hx
  | 1 =>
    cases hk
    exact ⟨(valV_neg key_ne).trans (valV_pos rfl), .int 1⟩
  | i + 2 => cases hk⟩
def EvH (b : Addr) (te : TE) (σ : L2.St) (H : Hp) : Prop := ∀ H1, Ex H H1 → ∀ Q : VK, (∀ v H2, Ex H1 H2 → Th b H H2 v → Q v H2) → te σ H1 Q
def EvHn (b : Addr) (n : Nat) (ta : TA) (σ : L2.St) (H : Hp) : Prop := ∀ H1, Ex H H1 → ∀ Q : List V → Hp → Prop, (∀ vs H2, Ex H1 H2 → vs.length = n → (∀ x ∈ vs, Th b H H2 x) → Q vs H2) → ta σ H1 Q
section
variable {σ : L2.St} {H : Hp} {te : TE} {ta : TA} {b : Addr}
theorem eh_nil : EvHn b 0 tNil σ H := fun H1 _ Q q => q [] H1 (Ex.refl _) rfl fun x hx => by cases hx
theorem eh_cons {k : Nat} (h : EvH b te σ H) (hr : EvHn b k ta σ H) : EvHn b (k + 1) (tCons te ta) σ H := fun H1 e Q q =>
  h H1 e _ fun v H2 e2 kv => hr H2 (e.trans e2) _ fun vs H3 e3 hl hk => q _ H3 (e2.trans e3) (by rw [List.length_cons, hl]) fun x hx => by
    rcases List.mem_cons.mp hx with h | h
    · subst h
      exact kv.keep (Kp.of e3)
    · exact hk x h
theorem eh_of {v : V} (h : Ev te σ H v) (t : ∀ H', Th b H H' v) : EvH b te σ H := fun H1 e Q q => h H1 e _ fun H2 e2 => q v H2 e2 (t H2)
theorem eh_lst {o : HO} {xs : List V} (hb : H b = some o) (h : EvL te σ H xs) (hl : xs.length ≤ 10) (s : ∀ x ∈ xs, Scal x) : EvH b te σ H := fun H1 e Q q => h H1 e _ fun p H2 hp e2 h2 => q _ H2 e2 (th_lst h2 (fun z => ne_box hb e hp (by rw [z])) hl s (fun p' o' h' z => by rw [← z] at hp; rw [e _ _ h'] at hp; cases hp))
theorem eh_tup {o : HO} {xs : List V} (hb : H b = some o) (h : EvU te σ H xs) (hl : xs.length ≤ 10) (s : ∀ x ∈ xs, Scal x) : EvH b te σ H := fun H1 e Q q => h H1 e _ fun p H2 hp e2 h2 => q _ H2 e2 (th_tup h2 (fun z => ne_box hb e hp (by rw [z])) hl s (fun p' o' h' z => by rw [← z] at hp; rw [e _ _ h'] at hp; cases hp))
theorem eh_dct {o : HO} (hb : H b = some o) : EvH b (tDisp [(tC (.str "a"), tLst (tCons (tC (.int 2)) tNil))]) σ H := fun H1 e Q q p hp => ⟨by show 1 ≤ sizeLine; decide, fun l hl => ⟨by
    rw [upd_ne (fun z => by rw [← z, upd_same] at hl; cases hl)]
    exact upd_same, [(Sum.inr "a", .ref l)], rfl, Nat.le_of_ble_eq_true rfl, by
    have e1 := Ex.new (o := HO.dK []) hp
    have hlp : l ≠ p := fun z => by rw [z, upd_same] at hl; cases hl
    have hl1 : H1 l = none := fresh_back e1 hl
    have e2 := e1.trans (Ex.new (o := .lst [.int 2]) hl)
    refine q _ _ (Ex.mut e2 hp) (th_dct upd_same (by rw [upd_ne hlp]; exact upd_same) (fun z => ne_box hb e hp (by rw [z])) (fun z => ne_box hb e hl1 (by rw [z])) (fun p' o' h' z => by rw [← z] at hp; rw [e _ _ h'] at hp; cases hp))⟩⟩
theorem q_ixH {n i : Nat} {tc : TE} {D : Ends} {tz : TS} (h : EvHn b n ta σ H) (hn : n ≤ 1000) (k : ∀ vs p H1, Ex H H1 → H1 p = none → vs.length = n → (∀ x ∈ vs, Th b H H1 x) → tc σ (upd H1 p (.lst vs)) fun y H2 => rIxL K (.ref p) y H2 fun v H3 => tz D (σ.set i (some v)) H3) :
    tSeq (tAsg (tOp (rIxL K) (tLst ta) tc) (gName i)) tz D σ H := h H (Ex.refl _) _ fun vs H1 e1 hl hk => ⟨sz_of (by omega), fun p hp => k vs p H1 e1 hp hl hk⟩
theorem es_catLL {cs ds : List (Str × Str × V)} {i j : Nat} {x y : V} (hi : σ[i]? = some (some x)) (hj : σ[j]? = some (some y)) (hx : LE K cs x H) (hy : LE K ds y H) (hz : cs.length + ds.length ≤ 1000) : EvS (tOp rCat (tVar i) (tVar j)) σ H (LE K (cs ++ ds)) := fun H1 e Q q => by
  obtain ⟨p, vs, rfl, h1, h2⟩ := hx
  obtain ⟨r, ws, rfl, h3, h4⟩ := hy
  exact ⟨_, hi, _, hj, p, r, vs, ws, rfl, rfl, e _ _ h1, e _ _ h3, sz_of (by rw [h2.1, h4.1]; omega), fun s hs => q s _ hs (Ex.new hs) ⟨s, _, rfl, upd_same, (h2.ex (e.trans (Ex.new hs))).app (h4.ex (e.trans (Ex.new hs)))⟩⟩
theorem ev_fld {x : V} {c : Str × Str × V} (h : Ev te σ H x) (hx : ErrIs K H x c) (he : ErrX K c.1) (hn : PySem.W.findIn K (.ref (ga K c.1)) c.2.1 = some none) : Ev (tFldE K te c.2.1) σ H c.2.2 := fun H1 e Q q =>
  h H1 e _ fun H2 e2 => by
    obtain ⟨a, d, fs, rfl, h1, h2, h3⟩ := hx
    exact ⟨a, ga K c.1, d, fs, c.2.2, rfl, e2 _ _ (e _ _ h1), e2 _ _ (e _ _ h2), he.ec, hn, h3, q H2 e2⟩
theorem ev_isT (T : Env P w K mg base) {x : V} {k : Nat} (h : Ev te σ H x) (hx : ErrK K H x k) : Ev (tCB (rIsX K) (tCons te (tCons (tC (.ref (ga K "TestError"))) tNil))) σ H (.bl true) := fun H1 e Q q =>
  h H1 e _ fun H2 e2 => by
    obtain ⟨a, d, fs, c, rfl, hc, h1, h2⟩ := hx
    have ec := T.er (List.mem_of_getElem? hc)
    exact ⟨a, ga K c, d, fs, .ref _, .ref _, true, rfl, e2 _ _ (e _ _ h1), e2 _ _ (e _ _ h2), ec.ec, .own _, ec.kitT T.p2c, q H2 e2⟩
theorem ev_isV (T : Env P w K mg base) {x : V} {k : Nat} (h : Ev te σ H x) (hx : ErrK K H x k) : Ev (tCB (rIsX K) (tCons te (tCons (tC (.ty "ValueError")) tNil))) σ H (.bl true) := fun H1 e Q q =>
  h H1 e _ fun H2 e2 => by
    obtain ⟨a, d, fs, c, rfl, hc, h1, h2⟩ := hx
    have ec := T.er (List.mem_of_getElem? hc)
    exact ⟨a, ga K c, d, fs, .ty _, .type _, true, rfl, e2 _ _ (e _ _ h1), e2 _ _ (e _ _ h2), ec.ec, .ty _, ec.kitV, q H2 e2⟩
end
theorem eqv_pd {x : V} (h : flA x = true) : PyData.eqv (pd x) (pd x) = true := by
  cases x with
  | non => simp only [pd, PyData.eqv]
  | bl b => simp only [pd, PyData.eqv, beq_self_eq_true]
  | int i => simp only [pd, PyData.eqv, beq_self_eq_true]
  | str s => simp only [pd, PyData.eqv, beq_self_eq_true]
  | _ => cases h
theorem eqv_self : ∀ {xs : List V}, xs.all flA = true → PyData.eqvAll (xs.map pd) (xs.map pd) = true
  | [], _ => by simp only [List.map_nil, PyData.eqvAll]
  | x :: xs, h => by
    have h2 : (flA x && xs.all flA) = true := h
    rw [Bool.and_eq_true] at h2
    simp only [List.map_cons, PyData.eqvAll, eqv_pd h2.1, eqv_self h2.2, Bool.and_self]
theorem ev_neSame {σ : L2.St} {H : Hp} {ta tb : TE} {xs : List V} (h1 : EvL ta σ H xs) (h2 : EvL tb σ H xs) (hf : xs.all flA = true) : Ev (tOp (rNeD K) ta tb) σ H (.bl false) :=
  ev_opLL h1 h2 fun p q H1 hp hq e => fun H2 e2 Q k => ⟨.list (xs.map pd), .list (xs.map pd), .lst (sq_of (e2 p _ hp)) (dp_all hf).1, .lst (sq_of (e2 q _ hq)) (dp_all hf).1, shaped_fl hf, shaped_fl hf, by
    have e3 : PyData.eqv (.list (xs.map pd)) (.list (xs.map pd)) = true := by
      simp only [PyData.eqv]
      exact eqv_self hf
    rw [e3]
    exact k H2 (Ex.refl _)⟩
theorem kinds_fl (k : Nat) : (kindsL k).all flA = true := by
  unfold kindsL
  rw [List.all_map, List.all_eq_true]
  intro j _
  rfl
theorem dec_int (j k : Nat) : decide (V.int (j : Int) = V.int (k : Int)) = decide (j = k) := by
  by_cases h : j = k
  · subst h; simp
  · rw [decide_eq_false h, decide_eq_false]
    intro z
    cases z
    omega
theorem err_k {H : Hp} {v : V} {vs : List V} (h : Errs K H (csInv v ++ csRef v) vs) {k : Nat} {x : V} (hx : vs[k]? = some x) : ErrK K H x k := by
  have hk : k < (csInv v ++ csRef v).length := by
    rw [← h.1]
    exact (List.getElem?_eq_some_iff.mp hx).1
  have hc : (csInv v ++ csRef v)[k]? = some (csInv v ++ csRef v)[k] := List.getElem?_eq_getElem hk
  obtain ⟨a, d, fs, e1, h1, h2, h3⟩ := h.2 k x _ hx hc
  have hm : (csInv v ++ csRef v).map (·.1) = KH.errN := by rfl
  have hn : KH.errN[k]? = some (csInv v ++ csRef v)[k].1 := by rw [← hm, List.getElem?_map, hc]; rfl
  exact ⟨a, d, fs, _, e1, hn, h1, h2⟩
theorem Kd.ne_err {H : Hp} {v : V} {n : String} {a C : Addr} {d : Option Addr} (k : Kd H v n) (h : H a = some (exo a C d)) : V.ref a ≠ v := fun z => by
  subst z
  cases k with
  | lst e => rw [e] at h; cases h
  | tup e => rw [e] at h; cases h
  | dct e => rw [e] at h; cases h
theorem Kd.ne_exd {H : Hp} {v : V} {n : String} {a d : Addr} {fs : List (Str × V)} (k : Kd H v n) (h : H a = some (exd d fs)) : V.ref a ≠ v := fun z => by
  subst z
  cases k with
  | lst e => rw [e] at h; cases h
  | tup e => rw [e] at h; cases h
  | dct e => rw [e] at h; cases h
theorem Kd.ne_new {H : Hp} {v : V} {n : String} {p : Addr} (k : Kd H v n) (h : H p = none) : V.ref p ≠ v := fun z => by
  subst z
  cases k with
  | lst e => rw [e] at h; cases h
  | tup e => rw [e] at h; cases h
  | dct e => rw [e] at h; cases h
def spER : Sp := fun vs H Q _ => ∃ (b : Addr) (nm : Bool) (n : Nat), vs = [.ref b, .bl nm] ∧ BoxAt H b n ∧ n ≤ 900000 ∧ ∀ H2, Stp b (n + 1) H H2 → Q (.bl true) H2
theorem csInv_len (v : V) : (csInv v).length = 29 := rfl
theorem csRef_len (v : V) : (csRef v).length = 17 := rfl
theorem sc35 : FnScope ["box", "named", "thing", "made", "told", "every", "k", "kept", "j", "e", "value"] ["box", "named"] (defScope (KH.top 94)) := ⟨rfl, rfl, rfl, by decide +kernel, rfl, by decide +kernel, by decide +kernel⟩
theorem c_errorsRight (T : Env P w K mg base) : Callee P w K mg base CXN 6 "_law_errors_right" ["box", "named"] spER := by
  obtain ⟨fd, F⟩ := T.fn 35 (d := KH.dd "_law_errors_right" 94)
  refine callee (st := KH.top 94) F (T.glo 35 (d := KH.dd "_law_errors_right" 94)) sc35 (fun _ _ _ _ _ _ us hl => match us, hl with | [_, _], _ => rfl) (fun _ _ _ _ _ _ us hl => match us, hl with | [_, _], _ => rfl) (fun vs H Q E h => by obtain ⟨b, nm, n, rfl, _⟩ := h; rfl) ?_
  intro cdv A outer s H vs Q E hr h
  obtain ⟨b, nm, n, rfl, hb, hn, q⟩ := h
  have nd := sc35.nd
  refine ⟨_, (PSs.nox (pss_cons (ps_set (i := 2) nd rfl (Or.inr rfl) (pe_ix ix_list (pe_lst (pa_cons pe_non (pa_cons pe_int (pa_cons pe_str (pa_cons (pe_lst (pa_cons pe_int (pa_cons pe_str pa_nil))) (pa_cons (pe_disp (pps_cons pe_str (pe_lst (pa_cons pe_int pa_nil)) pps_nil) (by rfl) (by rfl) (fun z => by cases z) (by decide)) (pa_cons (pe_tup (pa_cons pe_str pa_nil)) (pa_cons pe_bl pa_nil)))))))) (pe_n (c_take T) (hr.mono (by decide)) (pa_cons (pv 0) (pa_cons pe_int pa_nil))) (fun _ _ => rfl))) (pss_cons (ps_par (i := 3) (j := 4) rfl nd rfl rfl (by decide) rfl rfl (pa_cons (pe_n (c_invalid T) (hr.mono (by decide)) (pa_cons (pv 2) (pa_cons (pv 1) pa_nil))) (pa_cons (pe_n (c_refusals T) (hr.mono (by decide)) (pa_cons (pv 2) (pa_cons (pv 1) pa_nil))) pa_nil)) (by rfl)) (pss_cons (ps_set (i := 5) nd rfl (Or.inl rfl) (pe_op op_cat (pv 3) (pv 4))) (pss_cons (ps_for PassesOwn.never rfl (pi_range1 rfl (T.free 13) (pa_cons (pe_callB call_len_seq (by rfl) (T.free 4) (by decide +kernel) (pa_cons (pv 5) pa_nil)) pa_nil)) (pg_name (i := 6) nd rfl (Or.inr rfl)) (pss_one (ps_if (PW.pt (pw_or (pt_not (pt_val (pe_callB call_isX (by rfl) (T.free 0) (by decide +kernel) (pa_cons (pe_ix ix_list (pv 5) (pv 6) (fun _ _ => rfl)) (pa_cons (pe_glob (v := .ref (ga K "TestError")) (by rfl) T.gloTE rfl) pa_nil))))) (pw_or (pt_not (pt_val (pe_callB call_isX (by rfl) (T.free 0) (by decide +kernel) (pa_cons (pe_ix ix_list (pv 5) (pv 6) (fun _ _ => rfl)) (pa_cons (pe_bltn (v := .ty "ValueError") (by rfl) (T.free 15) (by decide +kernel) rfl) pa_nil))))) (pw_or1 (pt_cmpR (op_neD hr.units) (pe_n (c_kinds T) (hr.mono (by decide)) (pa_cons (pe_ix ix_list (pv 5) (pv 6) (fun _ _ => rfl)) pa_nil)) (pe_lc (own := [("j", 8)]) (g := gName 8) rfl nd (pi_range1 rfl (T.free 13) (pa_cons (pe_callB call_len_seq (by rfl) (T.free 4) (by decide +kernel) (pa_cons (pv 5) pa_nil)) pa_nil)) (blkOk_by (N := ["box", "named", "thing", "made", "told", "every", "k", "kept", "j", "e", "value"]) (sc := defScope (KH.top 94)) (by decide +kernel)) (fun _ _ _ _ _ => pg_name (i := 8) nd rfl (Or.inl rfl)) (fun _ _ _ _ _ => pts_nil) (fun _ _ _ _ _ => (pe_cmpR op_eq (pv 8) (pv 6) rfl))) rfl))))) (pss_one (ps_ret pe_bl)) pss_nil))) (pss_cons (ps_expr (pe_n (c_grown T) (hr.mono (by decide)) (pa_cons (pv 2) pa_nil))) (pss_cons (ps_setLc (i := 7) (own := [("e", 9)]) (g := gName 9) rfl nd rfl rfl (sw_true rfl rfl rfl (by decide +kernel)) (pi_list (pv 3)) (blkOk_by (N := ["box", "named", "thing", "made", "told", "every", "k", "kept", "j", "e", "value"]) (sc := defScope (KH.top 94)) (by decide +kernel)) (fun _ _ _ _ _ => pg_name (i := 9) nd rfl (Or.inl rfl)) (fun _ _ _ _ _ => pts_nil) (fun _ _ _ _ _ => (show PE _ _ (tFldE K (tVar 9) "given") from pe_fldE (pv 9)))) (pss_cons (ps_set (i := 7) nd rfl (Or.inl rfl) (pe_op op_cat (pv 7) (pe_lst (pa_cons (pe_fldE (pe_ix ix_list (pv 4) pe_int (fun _ _ => rfl))) (pa_cons (pe_fldE (pe_ix ix_list (pv 4) pe_int (fun _ _ => rfl))) (pa_cons (pe_fldE (pe_ix ix_list (pv 4) pe_int (fun _ _ => rfl))) (pa_cons (pe_fldE (pe_ix ix_list (pv 4) pe_int (fun _ _ => rfl))) (pa_cons (pe_fldE (pe_ix ix_list (pv 4) pe_int (fun _ _ => rfl))) (pa_cons (pe_fldE (pe_ix ix_list (pv 4) pe_int (fun _ _ => rfl))) (pa_cons (pe_fldE (pe_ix ix_list (pv 4) pe_int (fun _ _ => rfl))) (pa_cons (pe_fldE (pe_ix ix_list (pv 4) pe_int (fun _ _ => rfl))) pa_nil))))))))))) (pss_cons (ps_set (i := 7) nd rfl (Or.inl rfl) (pe_op op_cat (pv 7) (pe_lst (pa_cons (pe_fldE (pe_ix ix_list (pv 4) pe_int (fun _ _ => rfl))) (pa_cons (pe_fldE (pe_ix ix_list (pv 4) pe_int (fun _ _ => rfl))) (pa_cons (pe_fldE (pe_ix ix_list (pv 4) pe_int (fun _ _ => rfl))) (pa_cons (pe_fldE (pe_ix ix_list (pv 4) pe_int (fun _ _ => rfl))) (pa_cons (pe_fldE (pe_ix ix_list (pv 4) pe_int (fun _ _ => rfl))) (pa_cons (pe_fldE (pe_ix ix_list (pv 4) pe_int (fun _ _ => rfl))) pa_nil))))))))) (pss_one (ps_ret (pe_cmpR (op_eqD hr.units) (pe_lc (own := [("value", 10)]) (g := gName 10) rfl nd (pi_list (pv 7)) (blkOk_by (N := ["box", "named", "thing", "made", "told", "every", "k", "kept", "j", "e", "value"]) (sc := defScope (KH.top 94)) (by decide +kernel)) (fun _ _ _ _ _ => pg_name (i := 10) nd rfl (Or.inl rfl)) (fun _ _ _ _ _ => (pts_one (pt_not (pt_val (pe_n (c_same T 3) hr (pa_cons (pv 10) (pa_cons (pv 2) pa_nil))))))) (fun _ _ _ _ _ => (pv 10))) (pe_lst pa_nil) rfl)))))))))))), ?_⟩
  obtain ⟨g, c, kk, f, hbo, _⟩ := id hb
  refine q_ixH (b := b) (n := 7) (eh_cons (eh_of ev_c (fun _ => th_non)) (eh_cons (eh_of ev_c (fun _ => th_int 7)) (eh_cons (eh_of ev_c (fun _ => th_str [97] (by decide) (by decide))) (eh_cons (eh_lst hbo (el_lst (ea_cons ev_c (ea_cons ev_c ea_nil)) (by show 2 ≤ 100000; decide)) (by show 2 ≤ 10; decide) (fun x hx => ?_)) (eh_cons (eh_dct hbo) (eh_cons (eh_tup hbo (eu_tup (ea_cons ev_c ea_nil) (by show 1 ≤ 100000; decide)) (by show 1 ≤ 10; decide) (fun x hx => ?_)) (eh_cons (eh_of ev_c (fun _ => th_bl true)) eh_nil))))))) (by decide) fun vs p H1 e1 hp hvl hvk => ⟨_, rfl, b, 7, n, rfl, by decide, by decide, hb.ex (e1.trans (Ex.new hp)), by omega, fun r G h0 h1 st => ?_⟩
  · rcases List.mem_cons.mp hx with h | h
    · rw [h]; exact scal_int 1
    · have : x = .str "b" := by simpa using h
      rw [this]; exact scal_str [98] (by decide) (by decide)
  · have : x = .str "one" := by simpa using hx
    rw [this]; exact scal_str [111, 110, 101] (by decide) (by decide)
  have hr0 : r.toNat < vs.length := by omega
  have e0 : ((r.toNat : Nat) : Int) = r := by omega
  have hat : atI vs ((r.toNat : Nat) : Int) = some vs[r.toNat] := atI_nat (List.getElem?_eq_getElem hr0)
  rw [e0] at hat
  have hpb : p ≠ b := fun z => ne_box hbo e1 hp (by rw [z])
  have th0 : Th b H G vs[r.toNat] := (hvk _ (List.getElem_mem hr0)).keep ((Kp.of (Ex.new hp)).trans st.kp)
  have stG : Stp b (n + 1) H G := Stp.pre (e1.trans (Ex.new hp)) st
  refine ⟨p, vs, r, _, rfl, rfl, sq_of (st.kp p _ hpb upd_same), hat, ?_⟩
  generalize vs[r.toNat] = v at th0 ⊢
  clear hat hvk hvl hp hpb st e0 hr0 e1
  obtain ⟨nn, hvb, hv0, thG⟩ := th0
  -- the errors
  refine ⟨_, rfl, _, rfl, v, nm, rfl, fun a1 H3 n1 e1 l1 => ⟨_, rfl, _, rfl, v, nm, rfl, fun a2 H4 n2 e2 l2 => ⟨_, _, rfl, ?_⟩⟩⟩
  refine q_asgS (es_catLL (K := K) rfl rfl (l1.ex e2) l2 (by rw [csInv_len, csRef_len]; decide)) fun a3 H5 n3 e3 l3 => ?_
  obtain ⟨p3, es, ep3, hp3, er⟩ := l3
  cases ep3
  have hes : es.length = 46 := by rw [er.1, List.length_append, csInv_len, csRef_len]
  have ln : ∀ H6 (σ : L2.St), Ex H5 H6 → σ[5]? = some (some (.ref a3)) → EvA (tCons (tCB (fun xs H Q => ∃ p ys, xs = [V.ref p] ∧ (SqL K H p ys ∨ SqT K H p ys) ∧ Q (.int ys.length) H) (tCons (tVar 5) tNil)) tNil) σ H6 [.int (46 : Int)] := fun H6 σ e6 hσ => ea_cons (ev_cb (ea_cons (ev_var hσ) ea_nil) fun H7 e7 Q7 q7 => ⟨a3, es, rfl, .inl (sq_of (e7 _ _ (e6 _ _ hp3))), by rw [hes]; exact q7 _ (Ex.refl _)⟩) ea_nil
  refine q_forR1 (n := (46 : Int)) (ln H5 _ (Ex.refl _) rfl) ⟨by decide, by decide⟩ (fun i σ' H' => Ex H5 H' ∧ ∃ kv, σ' = [some (.ref b), some (.bl nm), some v, some (.ref a1), some (.ref a2), some (.ref a3), kv, none, none, none, none]) (fun H6 e6 => ⟨e6, none, rfl⟩) ?_ ?_
  · rintro i σ' H6 hi ⟨e6, kv, rfl⟩
    have hi2 : i < es.length := by omega
    have hx : es[i]? = some es[i] := List.getElem?_eq_getElem hi2
    have ek : ErrK K H6 es[i] i := (err_k er hx).ex e6
    have ex : ∀ σ : L2.St, σ[5]? = some (some (.ref a3)) → σ[6]? = some (some (.int (i : Int))) → Ev (tOp (rIxL K) (tVar 5) (tVar 6)) σ H6 es[i] := fun σ h5 h6 => ev_op (ev_var h5) (ev_var h6) (rv_ixL (sq_of (e6 _ _ hp3)) (atI_nat hx))
    refine s_when (b := false) (et_is (et_or (a := false) (b := false) (et_is (et_not (et_B (ev_isT T (ex _ rfl rfl) ek))) rfl) fun _ => et_or (a := false) (b := false) (et_is (et_not (et_B (ev_isV T (ex _ rfl rfl) ek))) rfl) fun _ => et_test (ev_neSame (xs := kindsL i) (el_call (ea_cons (ex _ rfl rfl) ea_nil) fun H7 e7 Q7 q7 E7 => ⟨es[i], i, rfl, ek.ex e7, fun p H8 hp e8 h8 => q7 p H8 hp e8 h8⟩) ?_ (kinds_fl i))) rfl) (fun h => by cases h) (fun _ H7 e7 => ⟨e6.trans e7, _, rfl⟩)
    refine el_is (el_lcR1 (fun _ => true) (fun j => V.bl (decide (V.int (j : Int) = V.int (i : Int)))) (ln H6 _ e6 rfl) ⟨by decide, by decide⟩ (fun _ => rfl) (fun j H7 e7 hj => fun H8 _ Q8 q8 => q8 H8 (Ex.refl _)) (fun j H7 e7 hj _ => ev_op (ev_var rfl) (ev_var rfl) (rv_eq rfl))) ?_
    rw [given_all]
    unfold kindsL
    exact List.map_congr_left fun j _ => by rw [dec_int]
  rintro σ' H6 ⟨e6, kv, rfl⟩
  -- the thing grows
  have EG6 := ((e1.trans e2).trans e3).trans e6
  obtain ⟨kd6, sm6, gro⟩ := thG H6 (Kp.of EG6)
  obtain ⟨kdG, _, _⟩ := thG G Kp.refl
  refine ⟨_, rfl, v, nn, rfl, kd6, sm6, fun H7 gr => ?_⟩
  obtain ⟨sm, kp7⟩ := gro H7 gr
  have mkE : ∀ (cs : List (Str × Str × V)) (xs : List V), Errs K H6 cs xs → Errs K H7 cs xs := fun cs xs h => ⟨h.1, fun i x c hx hc => by
    obtain ⟨a, d, fs, e1, g1, g2, g3⟩ := h.2 i x c hx hc
    exact ⟨a, d, fs, e1, kp7 _ _ g1 (kd6.ne_err g1), kp7 _ _ g2 (kd6.ne_exd g2), g3⟩⟩
  obtain ⟨p1, xs1, ep1, hp1, er1⟩ := l1.ex ((e2.trans e3).trans e6)
  cases ep1
  obtain ⟨p2, xs2, ep2, hp2, er2⟩ := l2.ex (e3.trans e6)
  cases ep2
  have hp17 := kp7 _ _ hp1 (kdG.ne_new n1)
  have hp27 := kp7 _ _ hp2 (kdG.ne_new (fresh_back e1 n2))
  have er17 := mkE _ _ er1
  have er27 := mkE _ _ er2
  have stk : Stp b (n + 1) H H7 := by
    refine ⟨fun a o na ha => kp7 _ _ ((stG.kp.trans (Kp.of EG6)) a o na ha) (hv0 a o ha), ?_⟩
    obtain ⟨g1, c1, k1, f1, h1, h2⟩ := stG.bx
    exact ⟨g1, c1, k1, f1, kp7 _ _ (EG6 _ _ h1) (fun z => hvb z.symm), h2⟩
  -- what they keep
  have hx1 : xs1.length = 29 := by rw [er17.1, csInv_len]
  refine q_asgL (xs := (List.range 29).map fun _ => v) (el_is (el_lcL (xs := xs1) (fun _ => true) (fun _ => v) (ev_var rfl) (sq_of hp17) (by omega) (fun _ => rfl) (fun i x H8 e8 hx => fun H9 _ Q9 q9 => q9 H9 (Ex.refl _)) (fun i x H8 e8 hx _ => ?_)) (by rw [given_all, hx1])) fun p8 H8 n8 e8 h8 => ?_
  · have hi : i < KH.teN.length := by
      have := (List.getElem?_eq_some_iff.mp hx).1
      rw [hx1] at this
      exact this
    have hc : (csInv v)[i]? = some (KH.teN[i], ("given" : Str), v) := by
      unfold csInv
      rw [List.getElem?_map, List.getElem?_eq_getElem hi]
      rfl
    have hm : KH.teN[i] ∈ KH.errN := List.mem_append_left _ (List.getElem_mem hi)
    have := ev_fld (te := tVar 9) (σ := (wipe [some (.ref b), some (.bl nm), some v, some (.ref a1), some (.ref a2), some (.ref a3), kv, none, none, none, none] [9]).set 9 (some x)) (H := H8) (ev_var rfl) ((er17.2 i x _ hx hc).ex e8) (T.er hm) (T.er hm).ek.noG
    exact this
  have fld : ∀ (i : Nat) (c : Str × Str × V) (H9 : Hp) (σ : L2.St), Ex H7 H9 → σ[4]? = some (some (.ref a2)) → (csRef v)[i]? = some c → c.2.2 = v → ErrX K c.1 → PySem.W.findIn K (.ref (ga K c.1)) c.2.1 = some none → Ev (tFldE K (tOp (rIxL K) (tVar 4) (tC (.int (i : Int)))) c.2.1) σ H9 v := fun i c H9 σ e9 hσ hc hv he hn => by
    have hi : i < xs2.length := by
      rw [er27.1]
      exact (List.getElem?_eq_some_iff.mp hc).1
    have hx : xs2[i]? = some xs2[i] := List.getElem?_eq_getElem hi
    have := ev_fld (te := tOp (rIxL K) (tVar 4) (tC (.int (i : Int)))) (σ := σ) (H := H9) (ev_op (ev_var hσ) ev_c (rv_ixL (sq_of (e9 _ _ hp27)) (atI_nat hx))) ((er27.2 i _ _ hx hc).ex e9) he hn
    rw [hv] at this
    exact this
  refine q_asgL (el_cat (ev_var rfl) h8 (el_lst (ea_cons (fld 0 ("Apart", "place", v) H8 _ e8 rfl rfl rfl (T.er (x := "Apart") (by decide)) (eqO_ok (T.rf3 (p := ("Apart", "place")) (by decide)).2.2)) (ea_cons (fld 1 ("Circle", "name", v) H8 _ e8 rfl rfl rfl (T.er (x := "Circle") (by decide)) (eqO_ok (T.rf3 (p := ("Circle", "name")) (by decide)).2.2)) (ea_cons (fld 2 ("Equal", "form", v) H8 _ e8 rfl rfl rfl (T.er (x := "Equal") (by decide)) (eqO_ok (T.rf3 (p := ("Equal", "form")) (by decide)).2.2)) (ea_cons (fld 3 ("InUse", "user", v) H8 _ e8 rfl rfl rfl (T.er (x := "InUse") (by decide)) (eqO_ok (T.rf3 (p := ("InUse", "user")) (by decide)).2.2)) (ea_cons (fld 4 ("Loop", "used", v) H8 _ e8 rfl rfl rfl (T.er (x := "Loop") (by decide)) (eqO_ok (T.rf3 (p := ("Loop", "used")) (by decide)).2.2)) (ea_cons (fld 5 ("NotFew", "count", v) H8 _ e8 rfl rfl rfl (T.er (x := "NotFew") (by decide)) (eqO_ok (T.rf3 (p := ("NotFew", "count")) (by decide)).2.2)) (ea_cons (fld 6 ("Taken", "name", v) H8 _ e8 rfl rfl rfl (T.er (x := "Taken") (by decide)) (eqO_ok (T.rf3 (p := ("Taken", "name")) (by decide)).2.2)) (ea_cons (fld 7 ("TooFew", "count", v) H8 _ e8 rfl rfl rfl (T.er (x := "TooFew") (by decide)) (eqO_ok (T.rf3 (p := ("TooFew", "count")) (by decide)).2.2)) ea_nil)))))))) (by show 8 ≤ 100000; decide)) (by simp)) fun p9 H9 n9 e9 h9 => ?_
  refine q_asgL (el_cat (ev_var rfl) h9 (el_lst (ea_cons (fld 8 ("TooMany", "count", v) H9 _ (e8.trans e9) rfl rfl rfl (T.er (x := "TooMany") (by decide)) (eqO_ok (T.rf3 (p := ("TooMany", "count")) (by decide)).2.2)) (ea_cons (fld 9 ("Twice", "name", v) H9 _ (e8.trans e9) rfl rfl rfl (T.er (x := "Twice") (by decide)) (eqO_ok (T.rf3 (p := ("Twice", "name")) (by decide)).2.2)) (ea_cons (fld 10 ("UnknownName", "name", v) H9 _ (e8.trans e9) rfl rfl rfl (T.er (x := "UnknownName") (by decide)) (eqO_ok (T.rf3 (p := ("UnknownName", "name")) (by decide)).2.2)) (ea_cons (fld 11 ("Unlike", "form", v) H9 _ (e8.trans e9) rfl rfl rfl (T.er (x := "Unlike") (by decide)) (eqO_ok (T.rf3 (p := ("Unlike", "form")) (by decide)).2.2)) (ea_cons (fld 12 ("WrongStep", "index", v) H9 _ (e8.trans e9) rfl rfl rfl (T.er (x := "WrongStep") (by decide)) (eqO_ok (T.rf3 (p := ("WrongStep", "index")) (by decide)).2.2)) (ea_cons (fld 13 ("WrongType", "name", v) H9 _ (e8.trans e9) rfl rfl rfl (T.er (x := "WrongType") (by decide)) (eqO_ok (T.rf3 (p := ("WrongType", "name")) (by decide)).2.2)) ea_nil)))))) (by show 6 ≤ 100000; decide)) (by simp)) fun p10 H10 n10 e10 h10 => ?_
  have E10 := (e8.trans e9).trans e10
  have all_v : ∀ x ∈ (((List.range 29).map fun _ => v) ++ [v, v, v, v, v, v, v, v]) ++ [v, v, v, v, v, v], x = v := fun x hx => by
    rcases List.mem_append.mp hx with h | h
    · rcases List.mem_append.mp h with h | h
      · obtain ⟨_, _, rfl⟩ := List.mem_map.mp h
        rfl
      · simpa using h
    · simpa using h
  have smV : ∀ H11, Ex H7 H11 → Sm H11 3 v v := fun H11 e => sm.ex e
  refine s_ret (v := .bl true) (ev_eqNil (xs := []) (el_is (el_lcL (xs := (((List.range 29).map fun _ => v) ++ [v, v, v, v, v, v, v, v]) ++ [v, v, v, v, v, v]) (fun _ => false) (fun _ => V.non) (ev_var rfl) (sq_of h10) (by simp) (fun _ => rfl) (fun i x H11 e11 hx => ?_) (fun i x H11 e11 hx h => by cases h)) given_none) rfl) fun H11 e11 => q H11 (stk.ex (E10.trans e11))
  have ex : x = v := all_v x (List.mem_of_getElem? hx)
  subst ex
  exact et_is (et_not (et_B (ev_call (ea_cons (ev_var rfl) (ea_cons (ev_var rfl) ea_nil)) (SpV.of fun H12 Q12 E12 e12 q12 => ⟨x, x, rfl, smV H12 ((E10.trans e11).trans e12), q12⟩)))) rfl
end KF
set_option Elab.async false
set_option linter.all false
set_option maxRecDepth 100000
set_option maxHeartbeats 4000000
/-! EN: law. -/
namespace KF
open PySem PySem.Spec PyProof.Rows L2 TEX He Evl
open SX (S S_tl S_len S_cat S_inj)
variable {P : Program} {w : World} {K : PySem.W.Frag} {mg : Str → Option Value} {base : Heap}
theorem sql_kp {H H' : Hp} {a b : Addr} {xs : List V} (h : SqL K H a xs) (hb : H b = none) (e : Kp b H H') : SqL K H' a xs := by
  rcases h with h | h
  · refine Or.inl ?_
    rcases h with h | ⟨o, h⟩
    · exact Or.inl (e a _ (fun z => by rw [z, hb] at h; cases h) h)
    · exact Or.inr ⟨o, e a _ (fun z => by rw [z, hb] at h; cases h) h⟩
  · exact Or.inr h
def spLaw (K : PySem.W.Frag) : Sp := fun vs H Q _ => ∃ (a : Addr) (ns : List Int), vs = [.ref a] ∧ SqL K H a (ns.map V.int) ∧ ns.length ≤ 63 ∧ ∀ H', Q (.bl true) H'
theorem sc36 : FnScope ["script", "k", "box", "named", "turn"] ["script"] (defScope (KH.top 95)) := ⟨rfl, rfl, rfl, by decide +kernel, rfl, by decide +kernel, by decide +kernel⟩
theorem law_ok (T : Env P w K mg base) {fd : FuncData} (F : FunD K "law" "law" (defArgs (KH.top 95)) (defBody (KH.top 95)) (defScope (KH.top 95)) [] [] (ga K "law") fd) : FnOk P w K mg base CXN 7 (ga K "law") fd ["script"] (spLaw K) := by
  refine F.ok sc36 (fun vs H Q E h => by obtain ⟨a, ns, rfl, _⟩ := h; rfl) ?_
  intro cdv A outer s H vs Q E hr h
  obtain ⟨a, ns, rfl, hs, hn, q⟩ := h
  have nd := sc36.nd
  refine ⟨_, (PSs.nox (pss_cons (ps_for PassesOwn.never rfl (pi_range1 rfl (T.free 13) (pa_cons (pe_callB (call_max2 rfl) (by rfl) (T.free 6) (by decide +kernel) (pa_cons pe_int (pa_cons (pe_callB (call_min2 rfl) (by rfl) (T.free 7) (by decide +kernel) (pa_cons pe_int (pa_cons (pe_callB call_len_seq (by rfl) (T.free 4) (by decide +kernel) (pa_cons (pv 0) pa_nil)) pa_nil))) pa_nil))) pa_nil)) (pg_name (i := 1) nd rfl (Or.inl rfl)) (pss_cons (ps_set (i := 2) nd rfl (Or.inl rfl) (pe_n (c_box T) (hr.mono (by decide)) (pa_cons (pe_n (c_cell T) (hr.mono (by decide)) (pa_cons (pv 0) (pa_cons (pv 1) pa_nil))) pa_nil))) (pss_cons (ps_set (i := 3) nd rfl (Or.inl rfl) (pe_cmpR op_eq (pe_n (c_take T) (hr.mono (by decide)) (pa_cons (pv 2) (pa_cons pe_int pa_nil))) pe_int rfl)) (pss_cons (ps_for PassesOwn.never rfl (pi_range1 rfl (T.free 13) (pa_cons pe_int pa_nil)) (pg_name (i := 4) nd rfl (Or.inl rfl)) (pss_cons (ps_if (PW.pt (pw_or (pt_not (pt_val (pe_n (c_namesRight T) hr (pa_cons (pv 2) (pa_cons (pv 3) pa_nil))))) (pw_or (pt_not (pt_val (pe_n (c_textsRight T) hr (pa_cons (pv 2) (pa_cons (pe_not (pv 3)) pa_nil))))) (pw_or1 (pt_not (pt_val (pe_n (c_errorsRight T) hr (pa_cons (pv 2) (pa_cons (pv 3) pa_nil))))))))) (pss_one (ps_ret pe_bl)) pss_nil) (pss_one (ps_set (i := 3) nd rfl (Or.inl rfl) (pe_not (pv 3)))))) (pss_one (ps_if (pt_not (pt_val (pe_n (c_refusedRight T) hr (pa_cons (pv 2) (pa_cons (pv 3) pa_nil))))) (pss_one (ps_ret pe_bl)) pss_nil)))))) (pss_one (ps_ret pe_bl)))), ?_⟩
  have hlen : EvA (tCons (tCB (fun xs H Q => ∃ i j, xs = [V.int i, .int j] ∧ Q (.int (if j > i then j else i)) H) (tCons (tC (.int 2)) (tCons (tCB (fun xs H Q => ∃ i j, xs = [V.int i, .int j] ∧ Q (.int (if j < i then j else i)) H) (tCons (tC (.int 5)) (tCons (tCB (fun xs H Q => ∃ p ys, xs = [V.ref p] ∧ (SqL K H p ys ∨ SqT K H p ys) ∧ Q (.int ys.length) H) (tCons (tVar 0) tNil)) tNil))) tNil))) tNil) (start ["script", "k", "box", "named", "turn"] [.ref a]) H
      [.int (if (if (ns.length : Int) < 5 then (ns.length : Int) else 5) > 2 then (if (ns.length : Int) < 5 then (ns.length : Int) else 5) else 2)] :=
    ea_cons (ev_cb (ea_cons ev_c (ea_cons (ev_cb (ea_cons ev_c (ea_cons (ev_cb (z := .int (ns.length : Int)) (ea_cons (ev_var rfl) ea_nil) fun H1 e Q q => ⟨a, _, rfl, .inl (ex_l e hs), by rw [List.length_map]; exact q _ (Ex.refl _)⟩) ea_nil)) fun H1 e Q q => ⟨_, _, rfl, q _ (Ex.refl _)⟩) ea_nil)) fun H1 e Q q => ⟨_, _, rfl, q _ (Ex.refl _)⟩) ea_nil
  generalize hn0 : (if (if (ns.length : Int) < 5 then (ns.length : Int) else 5) > 2 then (if (ns.length : Int) < 5 then (ns.length : Int) else 5) else 2) = n0 at hlen
  have hn1 : 0 ≤ n0 ∧ n0 ≤ 5 := by
    subst hn0
    split <;> split <;> omega
  refine q_forR1 (n := n0) hlen ⟨hn1.1, by omega⟩ (fun i σ' H' => SqL K H' a (ns.map V.int) ∧ ∃ kv bv nv tv, σ' = [some (.ref a), kv, bv, nv, tv]) (fun H1 e1 => ⟨ex_l e1 hs, none, none, none, none, rfl⟩) ?_ ?_
  · rintro i σ' H0 hi ⟨hs0, kv, bv, nv, tv, rfl⟩
    refine ⟨_, rfl, _, rfl, a, ns, (i : Int), rfl, hs0, by omega, by omega, fun g H1 e1 => ⟨g, rfl, fun b H2 hb e2 bx => ?_⟩⟩
    refine ⟨_, rfl, b, 2, 0, rfl, by decide, by decide, bx, by decide, fun r H3 h0 h1 st => ⟨rfl, ?_⟩⟩
    have hs1 : SqL K H1 a (ns.map V.int) := ex_l e1 hs0
    have kp3 : Kp b H1 H3 := (Kp.of e2).trans st.kp
    refine q_forR1 (n := 2) (ea_cons ev_c ea_nil) ⟨by decide, by decide⟩ (fun j σ' H' => Kp b H1 H' ∧ BoxAt H' b (1 + 501 * j) ∧ ∃ nm tv, σ' = [some (.ref a), some (.int (i : Int)), some (.ref b), some (.bl nm), tv]) (fun H4 e4 => ⟨kp3.trans (Kp.of e4), st.bx.ex e4, _, _, rfl⟩) ?_ ?_
    · rintro j σ' H4 hj ⟨kp4, bx4, nm, tv, rfl⟩
      refine ⟨_, rfl, _, rfl, b, nm, 1 + 501 * j, rfl, bx4, by omega, fun H5 st5 => ⟨true, rfl, iteF ?_⟩⟩
      refine ⟨_, rfl, _, rfl, nm, rfl, b, !nm, 1 + 501 * j + 100, rfl, st5.bx, by omega, fun H6 st6 => ⟨true, rfl, iteF ?_⟩⟩
      refine ⟨_, rfl, _, rfl, b, nm, 1 + 501 * j + 100 + 400, rfl, st6.bx, by omega, fun H7 st7 => ⟨true, rfl, iteF ?_⟩⟩
      exact ⟨_, rfl, nm, rfl, ((kp4.trans st5.kp).trans st6.kp).trans st7.kp, st7.bx.le (by omega), _, _, rfl⟩
    · rintro σ' H4 ⟨kp4, bx4, nm, tv, rfl⟩
      exact ⟨_, rfl, _, rfl, b, nm, _, rfl, bx4, fun H5 e5 => ⟨true, rfl, iteF ⟨sql_kp hs1 hb (kp4.trans (Kp.of e5)), _, _, _, _, rfl⟩⟩⟩
  · rintro σ' H1 ⟨hs1, kv, bv, nv, tv, rfl⟩
    exact s_ret ev_c fun H2 _ => q H2
end KF
set_option Elab.async false
set_option linter.all false
set_option maxRecDepth 100000
set_option maxHeartbeats 0
open PySem PySem.W PySem.Calls PyProof.Rows
theorem PySem.Challenge.cw_onetest_k00_names_words_errors_holds : PySem.Challenge.rw_onetest_k00_names_words_errors.Holds := by
  w_on; o_law
  refine HandSHeadRun.head_any (r := OpenLaw.row PySem.Challenge.rw_onetest_k00_names_words_errors) (q := KH.qv) (H := KH.hk) (ob := KH.ob) (M := KH.ST) (loose := KH.names) (d := HandSHeadRun.topDef (OpenLaw.row PySem.Challenge.rw_onetest_k00_names_words_errors).prog 95) (kwd := []) KH.ob_eq
    (by kernel_rfl) (fun s => by kernel_rfl) KH.run (by kernel_rfl) (by kernel_rfl) (by kernel_rfl) (by rfl) (by first | assumption | decide +kernel) (by decide +kernel) ⟨rfl, rfl, rfl, rfl, rfl, by decide +kernel⟩ ?hw ?hc
  case hw => w_witness2
  case hc =>
    refine L2.walk_ofE (l := PySem.Challenge.rw_onetest_k00_names_words_errors) (n := 63) (k := 7) (x := "script") (CX := KF.CXN) rfl (by decide) (by kernel_rfl) ⟨rfl, by decide, by decide⟩ ?F (fun _ _ _ _ z => z)
    intro w mg fa h Y G hmg0
    obtain ⟨K, KX, c⟩ := Y
    have hmg : mg ("law" : PySem.Str) = some (.ref fa) := by
      have e : (HandSHeadRun.topDef (OpenLaw.row PySem.Challenge.rw_onetest_k00_names_words_errors).prog 95).name = ("law" : PySem.Str) := by kernel_rfl
      rw [← e]
      exact hmg0
    have T0 : KF.Env (PySem.Challenge.rw_onetest_k00_names_words_errors).prog w K mg h := ⟨rfl, KX, G, c⟩
    obtain ⟨fd, F⟩ := T0.fn 36 (d := KH.dd "law" 95)
    have e2 := hmg.symm.trans (T0.glo 36 (d := KH.dd "law" 95))
    have e3 : fa = He.ga K "law" := by
      have := Option.some.inj e2
      cases this
      rfl
    subst e3
    have b := L2.FunD.bindsA (ps := ["script"]) F fun _ _ _ _ _ _ us hl => match us, hl with | [_], _ => rfl
    exact ⟨K, fd, KF.spLaw K, KX, fun s v => b s [v] rfl, fun H a ns hl _ hS => ⟨a, ns, rfl, hS, hl, fun _ => rfl⟩, fun base hb hg => KF.law_ok ⟨rfl, hb, hg, c⟩ F⟩
