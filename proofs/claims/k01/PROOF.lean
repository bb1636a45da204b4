import PyProof.Rows.All
import Wide.All
import OpenK.AllK
import Wide.FinOn
import KE.KStateDown
import KE.KExcSuper
import KE.KExcIs
import KE.KExcPX
import HandS.Base
import HandS.Call
import HandS.List
import HandS.Exc
import HandS.ExcInit
import HandS.ExcField
import HandS.ExcIs
import HandS.IsInst
import HandS.Words
import HandS.Defaults
import HandS.MakeKw
import HandS.ForExc
import HandS.Dict
import PyProof.ReprRoads
import PyProof.CallFns
import HandS.Comp
import HandS.Evl
import HandS.HeadHook2
import HandS.HeadEnd
import HandS.EndBits
import PySem.Challenge.RW_whytypes_k01_errors_and_what_they_keep
import HandS.Head0
import HandS.Head1
import HandS.Head2
set_option Elab.async false
set_option linter.all false
set_option maxRecDepth 100000
set_option maxHeartbeats 4000000
/-! Wy, part A: an exception class D over ValueError whose __init__ says super().__init__(value); self.value = value, and the classes below it. -/
namespace Wy
open PySem PySem.W PySem.Calls PyProof.Rows PySem.HandSPX

/-- what the written part says of the class C, seen from D's super() -/
structure Cl (K : Frag) (D C : Addr) : Prop where
  cls : ∃ nm q N bs bm sn sub ab col dd k0 k1 k2 k3 k5, K.lookup C = some (excClassObj nm q C N bs bm true sn sub ab col dd k0 k1 k2 k3 k5 "ValueError.__new__") ∧ refsVE bm = true
  sa : findIn K (.ref C) "__setattr__" = some (some (.builtin "object.__setattr__"))
  op : nsIn K cStatics "thirdparty.any" = some none
  mro : mroIn K C (.ref D) = some true
  ve : subIn K (.ref C) (.type "ValueError") = some true
/-- a def that says super(): where it stands, its class's cell, its code's file -/
structure Sup (prog : Program) (K : Frag) (D f cc cda : Addr) (fd : FuncData) (ar : Arg) : Prop where
  fn : ∃ oc od osl, K.lookup f = some ⟨oc, od, .func fd, osl⟩
  par : (fd.params.posonlyargs ++ fd.params.args).head? = some ar
  cell : ∃ cl cld csl, K.lookup cc = some ⟨cl, cld, .cell (some (.ref D)), csl⟩
  code : ∃ ccl cdd vs ccs file tf, K.lookup cda = some ⟨ccl, cdd, .fields vs, ccs⟩ ∧ vs[2]? = some (.str file tf) ∧ ((prog.main.file : Str) == file) = true
  dcl : ∃ cd, clsIn K D = some cd
  top : (prog.main.scope.names.lookup ("super" : Str)).isSome = false

section
variable {prog : Program} {w : World} {A : Around} {E : Value → Shared → Prop} {R : Result → Shared → Prop} {hp : Heap} {g : Array GenState} {dr : Drawn} {tk : Nat} {os : OsState} {K : Frag}
variable {D C f cc cda x : Addr} {fd : FuncData} {ar : Arg} {env : Env} {m mg mb : Str → Option Value} {ox : Obj} {od : Option Obj} {body : List Stmt}

theorem cls_at (X : K.In hp) {cd : ClassData} (h : clsIn K D = some cd) : ∃ oD, hp.get? D = some oD ∧ oD.data = .cls cd := by
  unfold clsIn at h
  split at h
  · rename_i c d cd' sl ho
    cases h
    exact ⟨_, X _ _ ho, rfl⟩
  · cases h
/-- super() made -/
theorem sup_obj {p0 p1 : Pos} {attr : Str} {whole : Sem Value} {Q : Value → Shared → Prop} (X : K.In hp) (S : Sup prog K D f cc cda fd ar) (hs : mroIn K C (.ref D) = some true)
    (hk : env.scope.kind = .function) (k1 : env.kindOf "super" = some .globalImplicit) (k2 : env.kindOf "__class__" = some .free) (k3 : env.kindOf ar.arg = some .local) (hfu : env.func = some f) (hco : env.code = .ref cda)
    (hce : env.cells.lookup ("__class__" : Str) = some cc) (hgl : env.globals = mainGlobals) (hbl : env.builtins = builtinsNs) (hat : (attr == ("__class__" : Str)) = false)
    (G : hp.Ns mainGlobals mg) (g0 : mg "super" = none) (B : hp.Ns builtinsNs mb) (b0 : mb "super" = some (.type "super")) (L : hp.Ns env.locals m) (l0 : m ar.arg = some (.ref x)) (I : InstAt hp x ox C od)
    (h : ∀ h', h'.get? hp.objs.size = some (ks_superObj D x C) → (∀ b o, hp.get? b = some o → h'.get? b = some o) → Q (.ref hp.objs.size) ⟨h', g, dr, tk, os⟩) :
    _root_.PySem.wpAt (model prog w) A (.func body env) (attributeBase (.Call (.Name "super" p0) [] [] p1) attr env whole) Q E ⟨hp, g, dr, tk, os⟩ := by
  obtain ⟨oc, odf, osl, hf⟩ := S.fn
  obtain ⟨cl, cld, csl, hcl⟩ := S.cell
  obtain ⟨ccl, cdd, vs, ccs, file, tf, hcd, hvs, hfile⟩ := S.code
  obtain ⟨cdD, hD⟩ := S.dcl
  obtain ⟨oD, hD1, hD2⟩ := cls_at X hD
  refine ks_wpAt_super_base k1 k2 hat hfu (X _ _ hf) (by rfl) S.par hco (X _ _ hcd) (by rfl) hvs hfile S.top ?_
  refine ks_loadName_global hk k1 (loadGlobal_builtin (by rw [hgl]; exact G) g0 (by rw [hbl]; exact B) b0 ⟨rfl, ?_⟩)
  refine wpAny_loadName_free hk k2 hce ⟨_, X _ _ hcl, rfl⟩ ?_
  refine wpAny_loadName_local hk k3 L l0 ?_
  refine ks_wpAny_isType_cls hD1 hD2 ⟨rfl, ?_⟩
  refine ks_wpAny_call_super hD1 hD2 I.at_ I.cls (fun c e => ?_) (looks_mroIn X hs) (fun h' e k => h h' e k)
  have := I.no
  unfold notCls at this
  rw [e] at this
  exact Bool.noConfusion this
/-- the built-in __init__, bound to the object, called -/
theorem mw_call {u e t0 : Addr} {dv : Option Addr} {c2 : Value} {rest : List Value} {Q : Value → Shared → Prop} {nm q : Str} {N : Addr} {bs bm : List Value} {sn : List Str} {sub : List Value} {ab : Bool} {col : Option Bool} {dd : Option Addr} {k0 k1 k2 k3 k5 : Option Value}
    (hC : hp.get? C = some (excClassObj nm q C N bs bm true sn sub ab col dd k0 k1 k2 k3 k5 "ValueError.__new__")) (hu : hp.get? u = some (kxs_mw "ValueError.__init__" e)) (he : hp.get? e = some (excObj C t0 dv c2)) (hz : rest.length ≤ sizeLine)
    (h : ∀ h' t1, (∀ b o, b ≠ e → hp.get? b = some o → h'.get? b = some o) → h'.get? e = some (excObj C t1 dv c2) → Q .none ⟨h', g, dr, tk, os⟩) :
    wpAny (model prog w) A (call (.ref u) rest) Q E ⟨hp, g, dr, tk, os⟩ := by
  refine wpAny_call (codeAny_of_tree ?_)
  show wpAny _ A.in1 (callAny (.ref u) ⟨rest, []⟩) _ _ _
  simp only [callAny]
  refine wpAny_bind (wpAny_load hu ?_)
  simp only [kxs_mw, show (Value.type "method-wrapper" == Value.type "method" || Value.type "method-wrapper" == Value.type "builtin_function_or_method" || Value.type "method-wrapper" == Value.type "method-wrapper") = true by decide, if_true]
  refine KFB.if_so (by decide) ?_
  refine wpAny_bind (check_bound_init F.excBase_ValueError.toExcCallFacts hC he rfl ?_)
  refine wpAny_bind (wpAny_pure (wpAny_pure ?_))
  refine ⟨plainId_quiet F.excBase_ValueError.init.plain _, codeAny_builtin F.excBase_ValueError.initEntry ?_⟩
  exact exc_init_tree (cls := .ref C) (t0 := t0) (dv := dv) (c2 := c2) (c3 := .none) (b4 := .bool false) he hz fun h' k e' _ => h h' _ k e'
/-- super().__init__(e) that comes to ValueError's own -/
theorem sup_init {pl : Sem Bool} {whole : Sem Value} {p0 p1 p4 : Pos} {e : Expr} {v : Value} {t0 : Addr} {Q : Value → Shared → Prop} (X : K.In hp) (T : Cl K D C) (hup : ks_superIn K C D "__init__" = some (some (.builtin "ValueError.__init__"))) (S : Sup prog K D f cc cda fd ar)
    (hk : env.scope.kind = .function) (k1 : env.kindOf "super" = some .globalImplicit) (k2 : env.kindOf "__class__" = some .free) (k3 : env.kindOf ar.arg = some .local) (hfu : env.func = some f) (hco : env.code = .ref cda)
    (hce : env.cells.lookup ("__class__" : Str) = some cc) (hgl : env.globals = mainGlobals) (hbl : env.builtins = builtinsNs)
    (G : hp.Ns mainGlobals mg) (g0 : mg "super" = none) (B : hp.Ns builtinsNs mb) (b0 : mb "super" = some (.type "super")) (L : hp.Ns env.locals m) (l0 : m ar.arg = some (.ref x)) (hx : hp.get? x = some (excObj C t0 none .none))
    (he : ∀ h' tk' (Q' : Value → Shared → Prop), (∀ b o, hp.get? b = some o → h'.get? b = some o) → (∀ tk2, Q' v ⟨h', g, dr, tk2, os⟩) → wpAny (model prog w) A (eval e env) Q' E ⟨h', g, dr, tk', os⟩)
    (h : ∀ h' tk' t1, (∀ b o, b ≠ x → hp.get? b = some o → h'.get? b = some o) → h'.get? x = some (excObj C t1 none .none) → Q .none ⟨h', g, dr, tk', os⟩)
    (hst : starEach [e] env = (false, eval e env) :: starEach [] env) :
    _root_.PySem.wpAt (model prog w) A (.func body env) (attributeBase (.Call (.Name "super" p0) [] [] p1) "__init__" env whole) (fun ov s₁ => wpAny (model prog w) A (getMethod ov "__init__" pl) (fun fx s₂ => wpAny (model prog w) A (callWith p4 fx.1 fx.2 (backTo p4 (starEach [e] env)) []) Q E s₂) E s₁) E ⟨hp, g, dr, tk, os⟩ := by
  obtain ⟨nm, q, N, bs, bm, sn, sub, ab, col, dd, k0, k1', k2', k3', k5, hC, hbm⟩ := T.cls
  have I : InstAt hp x (excObj C t0 none .none) C none := ⟨hx, rfl, rfl, trivial⟩
  refine sup_obj X S T.mro hk k1 k2 k3 hfu hco hce hgl hbl (by decide +kernel) G g0 B b0 L l0 I fun h1 e1 q1 => ?_
  have X1 : K.In h1 := X.keeps q1
  have I1 : InstAt h1 x (excObj C t0 none .none) C none := ⟨q1 _ _ hx, rfl, rfl, trivial⟩
  have hI : Looks (model prog w) h1 (isInstance (.ref x) (.type "ValueError")) true := I1.type.andThen (looks_subIn X1 T.ve)
  cases hc : clsIn K C with
  | none =>
    unfold ks_superIn at hup
    rw [hc] at hup
    cases hup
  | some cd =>
    unfold ks_superIn at hup
    rw [hc] at hup
    refine kxs_getMethod kxs_ValueError e1 (looks_opaque X1 T.op) (l₀ := cd.mro) ?_ rfl X1 hup hI (ks_ne X1 I1 hc) (by decide +kernel) ?_
    · exact fun A Q E s k q => wpAny_bind ((looks_clsIn X1 hc) A _ E s k (wpAny_pure q))
    have k2h : ∀ b o, hp.get? b = some o → (h1.push (kxs_mw "ValueError.__init__" x)).get? b = some o := fun b o z => Heap.get?_push_of_some _ (q1 b o z)
    show wpAny _ _ (callWith p4 (.ref h1.objs.size) [] (backTo p4 (starEach [e] env)) []) _ _ _
    rw [hst]
    refine kxs_callWith (i := "ValueError.__init__") (x := x) rfl ?_
    refine evalArgs_plain ?_
    refine spliced_cons ?_
    refine he _ _ _ k2h fun tk2 => ?_
    refine spliced_nil ?_
    refine ⟨Heap.get?_push_at rfl rfl, ?_⟩
    exact mw_call (k2h _ _ (X _ _ hC)) (Heap.get?_push_at rfl rfl) (k2h _ _ hx) (by show 1 ≤ sizeLine; decide) fun h' t1 k e' => h h' tk2 t1 (fun b o hb z => k b o hb (k2h b o z)) e'
/-- super().__init__(e) that comes to a def -/
theorem sup_fn {pl : Sem Bool} {whole : Sem Value} {p0 p1 p4 : Pos} {e : Expr} {v : Value} {f2 : Addr} {Q : Value → Shared → Prop} (X : K.In hp) (hop : nsIn K cStatics "thirdparty.any" = some none) (hmr : mroIn K C (.ref D) = some true)
    (hup : ks_superIn K C D "__init__" = some (some (.ref f2))) (hfn : fnIn K f2 = true) (hty : typeIn K (.ref f2) = some (.type "function")) (S : Sup prog K D f cc cda fd ar)
    (hk : env.scope.kind = .function) (k1 : env.kindOf "super" = some .globalImplicit) (k2 : env.kindOf "__class__" = some .free) (k3 : env.kindOf ar.arg = some .local) (hfu : env.func = some f) (hco : env.code = .ref cda)
    (hce : env.cells.lookup ("__class__" : Str) = some cc) (hgl : env.globals = mainGlobals) (hbl : env.builtins = builtinsNs)
    (G : hp.Ns mainGlobals mg) (g0 : mg "super" = none) (B : hp.Ns builtinsNs mb) (b0 : mb "super" = some (.type "super")) (L : hp.Ns env.locals m) (l0 : m ar.arg = some (.ref x)) (I : InstAt hp x ox C od)
    (he : ∀ h' tk' (Q' : Value → Shared → Prop), (∀ b o, hp.get? b = some o → h'.get? b = some o) → (∀ tk2, Q' v ⟨h', g, dr, tk2, os⟩) → wpAny (model prog w) A (eval e env) Q' E ⟨h', g, dr, tk', os⟩)
    (h : ∀ h' tk', (∀ b o, hp.get? b = some o → h'.get? b = some o) → codeAny (model prog w) A (.call (.ref f2) ⟨[.ref x, v], []⟩) (fun r s' => match r with | .ok (.ret u) => Q u s' | .ok _ => False | .error e => E e s') ⟨h', g, dr, tk', os⟩)
    (hst : starEach [e] env = (false, eval e env) :: starEach [] env) :
    _root_.PySem.wpAt (model prog w) A (.func body env) (attributeBase (.Call (.Name "super" p0) [] [] p1) "__init__" env whole) (fun ov s₁ => wpAny (model prog w) A (getMethod ov "__init__" pl) (fun fx s₂ => wpAny (model prog w) A (callWith p4 fx.1 fx.2 (backTo p4 (starEach [e] env)) []) Q E s₂) E s₁) E ⟨hp, g, dr, tk, os⟩ := by
  refine sup_obj X S hmr hk k1 k2 k3 hfu hco hce hgl hbl (by decide +kernel) G g0 B b0 L l0 I fun h1 e1 q1 => ?_
  have X1 : K.In h1 := X.keeps q1
  cases hc : clsIn K C with
  | none =>
    unfold ks_superIn at hup
    rw [hc] at hup
    cases hup
  | some cd =>
    unfold ks_superIn at hup
    rw [hc] at hup
    obtain ⟨ofn, hof, hofc⟩ : ∃ ofn, h1.get? f2 = some ofn ∧ ofn.cls = .type "function" := by
      have ht' : (K.lookup f2).map (·.cls) = some (.type "function") := hty
      cases z : K.lookup f2 with
      | none => rw [z] at ht'; cases ht'
      | some o2 => rw [z] at ht'; exact ⟨o2, X1 _ _ z, Option.some.inj ht'⟩
    refine ks_wpAny_getMethod_super e1 (looks_opaque X1 hop) (l₀ := cd.mro) ?_ rfl X1 hup hof hofc (ks_ne X I hc) (by decide +kernel) ?_
    · exact fun A Q E s k q => wpAny_bind ((looks_clsIn X1 hc) A _ E s k (wpAny_pure q))
    have k2h : ∀ b o, hp.get? b = some o → (h1.push (methodObj (.ref f2) (.ref x))).get? b = some o := fun b o z => Heap.get?_push_of_some _ (q1 b o z)
    show wpAny _ _ (callWith p4 (.ref h1.objs.size) [] (backTo p4 (starEach [e] env)) []) _ _ _
    rw [hst]
    refine callWith_of (P := MethP K h1.objs.size f2 (.ref x)) rfl (keeps_M hfn) ?_
    refine evalArgs_plain ?_
    refine spliced_cons ?_
    refine he _ _ _ k2h fun tk2 => ?_
    refine spliced_nil ?_
    have hm : (h1.push (methodObj (.ref f2) (.ref x))).get? h1.objs.size = some (methodObj (.ref f2) (.ref x)) := Heap.get?_push_at rfl rfl
    refine ⟨⟨hm, X.keeps k2h⟩, ?_⟩
    show wpAny _ _ (call (.ref h1.objs.size) [v]) _ _ _
    refine wpAny_call (ks_codeAny_call_bound hm (codeAny_mono (h _ tk2 k2h) fun r s' z => ?_))
    rcases r with e | (u | _ | _ | _) <;> exact z
end
end Wy

set_option Elab.async false
set_option linter.all false
set_option maxRecDepth 100000
set_option maxHeartbeats 4000000
/-! Wy, part B: the three kinds of __init__ walked at the machine's level. -/
namespace Wy
open PySem PySem.W PySem.Calls PyProof.Rows PySem.HandSPX

/-- the scope of a def that says super() and has these parameters -/
def scSup (ps : List Str) : Scope := { kind := .function, names := ps.map (fun p => (p, NameKind.local)) ++ ([("__class__", NameKind.free), ("super", NameKind.globalImplicit)] : List (Str × NameKind)), isGenerator := false, isCoroutine := false, more := [] }
abbrev fnSup (qual : Str) (params : Arguments) (body : List Stmt) (ps : List Str) (cc cda : Addr) (kV doc pm : Value) (an : Option Addr) (ct : Value) : FuncData :=
  fnX "__init__" qual params body (scSup ps) [("__class__", cc)] .none kV doc pm an (.ref cda) ct
abbrev ps2 : List Str := ["self", "value"]
abbrev ps4 : List Str := ["self", "value", "row", "column"]
abbrev ps1 : List Str := ["self"]
theorem k2_super : (scSup ps2).names.lookup ("super" : Str) = some .globalImplicit := by decide +kernel
theorem k2_class : (scSup ps2).names.lookup ("__class__" : Str) = some .free := by decide +kernel
theorem k2_self : (scSup ps2).names.lookup ("self" : Str) = some .local := by decide +kernel
theorem k2_value : (scSup ps2).names.lookup ("value" : Str) = some .local := by decide +kernel
theorem k2_cells : ∀ x ∈ (scSup ps2).names, x.2 ≠ .cell := by decide +kernel
theorem k4_super : (scSup ps4).names.lookup ("super" : Str) = some .globalImplicit := by decide +kernel
theorem k4_class : (scSup ps4).names.lookup ("__class__" : Str) = some .free := by decide +kernel
theorem k4_self : (scSup ps4).names.lookup ("self" : Str) = some .local := by decide +kernel
theorem k4_value : (scSup ps4).names.lookup ("value" : Str) = some .local := by decide +kernel
theorem k4_row : (scSup ps4).names.lookup ("row" : Str) = some .local := by decide +kernel
theorem k4_column : (scSup ps4).names.lookup ("column" : Str) = some .local := by decide +kernel
theorem k4_cells : ∀ x ∈ (scSup ps4).names, x.2 ≠ .cell := by decide +kernel
theorem k1_super : (scSup ps1).names.lookup ("super" : Str) = some .globalImplicit := by decide +kernel
theorem k1_class : (scSup ps1).names.lookup ("__class__" : Str) = some .free := by decide +kernel
theorem k1_self : (scSup ps1).names.lookup ("self" : Str) = some .local := by decide +kernel
theorem k1_cells : ∀ x ∈ (scSup ps1).names, x.2 ≠ .cell := by decide +kernel
/-- self.n = y -/
abbrev stFld (n y : Str) (p1 p2 p3 p4 : Pos) : Stmt := .Assign [.Attribute (.Name "self" p1) n p2] (.Name y p3) p4
abbrev exSup (e : Expr) (p0 p1 p2 p4 : Pos) : Expr := .Call (.Attribute (.Call (.Name "super" p0) [] [] p1) "__init__" p2) [e] [] p4

section
variable {prog : Program} {w : World} {A : Around} {E : Value → Shared → Prop} {R : Result → Shared → Prop} {hp : Heap} {g : Array GenState} {dr : Drawn} {tk : Nat} {os : OsState} {K : Frag}
variable {D C f cc cda x : Addr} {params : Arguments} {ar : Arg} {mg mb : Str → Option Value} {qual : Str} {kV doc pm ct : Value} {an : Option Addr} {args : Args}

theorem mc_eval {o e : Expr} {name : Str} {apos pos : Pos} {env : Env} (h : (apos.endLine == pos.line) = true) (hst : starEach [e] env = [(false, eval e env)]) :
    eval (.Call (.Attribute o name apos) [e] [] pos) env = (do
      let ov ← attributeBase o name env (eval o env)
      standAt apos.atName
      let (f, first) ← holding [ov] (getMethod ov name (do return (← importBound o env).getD true))
      callWith pos f first (backTo pos (starEach [e] env)) []) := by
  have e0 : eval (.Call (.Attribute o name apos) [e] [] pos) env = (do
      let ov ← attributeBase o name env (eval o env)
      standAt apos.atName
      methodCall o name apos pos env ov 1 (backTo pos (starEach [e] env)) (backToKw pos (keywordEach [] env))) := by rfl
  have e1 : methodCallForm 1 (backTo pos (starEach [e] env)) (backToKw pos (keywordEach [] env)) = true := by
    rw [hst]
    rfl
  rw [e0]
  unfold methodCall
  rw [e1]
  unfold calleeOf methodCallPos
  simp only [h, Bool.or_true, if_true, pure_bind]
  rfl
/-- self.n = y, the first field -/
theorem fld_new {env : Env} {n y : Str} {p1 p2 p3 p4 : Pos} {v : Value} {t1 : Addr} {m : Str → Option Value} {Q : Flow → Shared → Prop} (X : K.In hp) (T : Cl K D C) (hno : findIn K (.ref C) n = some none) (hx : hp.get? x = some (excObj C t1 none .none))
    (hk : env.scope.kind = .function) (k1 : env.kindOf "self" = some .local) (k2 : env.kindOf y = some .local) (L : hp.Ns env.locals m) (l1 : m "self" = some (.ref x)) (l2 : m y = some v) (hdb : (y == ("__debug__" : Str)) = false) (hsw : swapsWith (.Name y p3) (some (.Attribute (.Name "self" p1) n p2)) p4.line env = pure false)
    (h : ∀ h' tk' dx, (∀ b o, b ≠ x → hp.get? b = some o → h'.get? b = some o) → hp.objs.size ≤ dx → dx ≠ x → h'.get? x = some (excObj C t1 (some dx) .none) → h'.Ns1 dx (fun z => if z = n then some v else none) → Q .next ⟨h', g, dr, tk', os⟩) :
    wpAny (model prog w) A (exec (stFld n y p1 p2 p3 p4) env) Q E ⟨hp, g, dr, tk, os⟩ := by
  obtain ⟨nm, q, N, bs, bm, sn, sub, ab, col, dd, k0, k1', k2', k3', k5, hC, hbm⟩ := T.cls
  have hcl : clsIn K C = some { name := nm, bases := bs, mro := .ref C :: bm, ns := N, qualname := q, hasDict := true, slotNames := sn, subclasses := sub, abstract := ab, collection := col, hasDel := false } := by
    unfold clsIn
    rw [hC] <;> rfl
  refine plainObj_wpAny_Assign_Attribute (wpAny_Name (wpAny_loadName_local hk k2 L l2 ?_) hdb) hsw
  refine wpAny_Name (wpAny_loadName_local hk k1 L l1 ?_)
  refine set_plain X (ox := excObj C t1 none .none) (od := none) ⟨hx, rfl, rfl, trivial⟩ T.sa ?_
  exact exc_osa X hx hcl (show refsVE (.ref C :: bm) = true from hbm) rfl hno fun h' tk' dx k dn dne hx' hn => h h' tk' dx k dn dne hx' hn
/-- self.n = y, a further field -/
theorem fld_old {env : Env} {n y : Str} {p1 p2 p3 p4 : Pos} {v : Value} {t1 dx : Addr} {m m0 : Str → Option Value} {nl : List Str} {Q : Flow → Shared → Prop} (X : K.In hp) (T : Cl K D C) (hno : findIn K (.ref C) n = some none) (hx : hp.get? x = some (excObj C t1 (some dx) .none))
    (hns : hp.Ns1 dx m0) (hw : Within m0 nl) (hz : nl.length ≤ 1000)
    (hk : env.scope.kind = .function) (k1 : env.kindOf "self" = some .local) (k2 : env.kindOf y = some .local) (L : hp.Ns env.locals m) (l1 : m "self" = some (.ref x)) (l2 : m y = some v) (hdb : (y == ("__debug__" : Str)) = false) (hsw : swapsWith (.Name y p3) (some (.Attribute (.Name "self" p1) n p2)) p4.line env = pure false)
    (h : ∀ h' tk', (∀ b o, b ≠ dx → hp.get? b = some o → h'.get? b = some o) → h'.Ns1 dx (fun z => if z = n then some v else m0 z) → Q .next ⟨h', g, dr, tk', os⟩) :
    wpAny (model prog w) A (exec (stFld n y p1 p2 p3 p4) env) Q E ⟨hp, g, dr, tk, os⟩ := by
  obtain ⟨nm, q, N, bs, bm, sn, sub, ab, col, dd, k0, k1', k2', k3', k5, hC, hbm⟩ := T.cls
  have hcl : clsIn K C = some { name := nm, bases := bs, mro := .ref C :: bm, ns := N, qualname := q, hasDict := true, slotNames := sn, subclasses := sub, abstract := ab, collection := col, hasDel := false } := by
    unfold clsIn
    rw [hC] <;> rfl
  obtain ⟨oD, _, _, hoD, _, _⟩ := hns.count hw
  refine plainObj_wpAny_Assign_Attribute (wpAny_Name (wpAny_loadName_local hk k2 L l2 ?_) hdb) hsw
  refine wpAny_Name (wpAny_loadName_local hk k1 L l1 ?_)
  refine set_plain X (ox := excObj C t1 (some dx) .none) (od := some oD) ⟨hx, rfl, rfl, hoD⟩ T.sa ?_
  exact PySem.OEX.osa_old X hx hns hw hz hcl (show refsVE (.ref C :: bm) = true from hbm) rfl hno fun h' tk' k hn => h h' tk' k hn

/-- the bindings by name -/
theorem b2_self {u v : Value} : (([("self", u), ("value", v)] : List (Str × Value)).reverse).lookup ("self" : Str) = some u := by
  have e : (("self" : Str) == ("value" : Str)) = false := by decide +kernel
  simp [List.lookup, e]
theorem b2_value {u v : Value} : (([("self", u), ("value", v)] : List (Str × Value)).reverse).lookup ("value" : Str) = some v := by
  simp [List.lookup]
theorem b2_loc {u v : Value} : ∀ y ∈ ([("self", u), ("value", v)] : List (Str × Value)), (scSup ps2).names.lookup y.1 = some .local := by
  intro y hy
  rcases List.mem_cons.mp hy with rfl | hy
  · exact k2_self
  · rcases List.mem_cons.mp hy with rfl | hy
    · exact k2_value
    · cases hy
theorem kin_but {h h1 : Heap} (X : K.In h) (hKx : K.lookup x = none) (k : ∀ b o, b ≠ x → h.get? b = some o → h1.get? b = some o) : K.In h1 := fun b o z => k b o (fun e => by
  rw [e, hKx] at z
  cases z) (X _ _ z)
theorem ns_but {h h1 : Heap} {a : Addr} {m : Str → Option Value} (L : h.Ns a m) (hn : a ≠ x) (k : ∀ b o, b ≠ x → h.get? b = some o → h1.get? b = some o) : h1.Ns a m := by
  obtain ⟨o, es, ep, e, r⟩ := L
  exact ⟨o, es, ep, k _ _ hn e, r⟩
theorem ns_lt {h : Heap} {a : Addr} {m : Str → Option Value} (L : h.Ns a m) : a < h.objs.size := by
  obtain ⟨o, es, ep, e, r⟩ := L
  exact Heap.lt_size e

/-- WhyError.__init__: super().__init__(value); self.value = value -/
theorem why_run {p0 p1 p2 p3 p4 p5 p6 p7 p8 p9 : Pos} {t0 : Addr} {v : Value} (hln : (p2.endLine == p4.line) = true) (hsw : ∀ env : Env, swapsWith (.Name "value" p8) (some (.Attribute (.Name "self" p6) "value" p7)) p9.line env = pure false) (X : K.In hp) (T : Cl K D C) (hup : ks_superIn K C D "__init__" = some (some (.builtin "ValueError.__init__"))) (hno : findIn K (.ref C) "value" = some none)
    (S : Sup prog K D f cc cda (fnSup qual params [.Expr (exSup (.Name "value" p3) p0 p1 p2 p4) p5, stFld "value" "value" p6 p7 p8 p9] ps2 cc cda kV doc pm an ct) ar) (har : ar.arg = "self")
    (hcode : codeIn K (.ref cda) qual = true) (hlim : hp.NoLimit) (hroom : A.depth < recursionLimit)
    (G : hp.Ns mainGlobals mg) (g0 : mg "super" = none) (B : hp.Ns builtinsNs mb) (b0 : mb "super" = some (.type "super"))
    (hbind : BindsTo ⟨hp, g, dr, tk, os⟩ (fnSup qual params [.Expr (exSup (.Name "value" p3) p0 p1 p2 p4) p5, stFld "value" "value" p6 p7 p8 p9] ps2 cc cda kV doc pm an ct) args [("self", .ref x), ("value", v)])
    (hx : hp.get? x = some (excObj C t0 none .none)) (hKx : K.lookup x = none)
    (h : ∀ h' tk' dx t1, (∀ b o, b ≠ x → hp.get? b = some o → h'.get? b = some o) → hp.objs.size ≤ dx → dx ≠ x → h'.get? x = some (excObj C t1 (some dx) .none) → h'.Ns1 dx (fun z => if z = "value" then some v else none) → R (.ok (.ret .none)) ⟨h', g, dr, tk', os⟩) :
    codeAny (model prog w) A (.call (.ref f) args) R ⟨hp, g, dr, tk, os⟩ := by
  obtain ⟨oc, od, osl, hf⟩ := S.fn
  refine ks_codeAny_call_defAt hroom (X _ _ hf) rfl hlim (codeRec_of X hcode) rfl hbind k2_cells b2_loc fun h₀ hL hk => ?_
  have hxL : x ≠ hp.objs.size := Nat.ne_of_lt (Heap.lt_size hx)
  refine ks_wpAt_execs_cons (ks_wpAt_Expr_any (ks_wpAt_MethodCall ?_ (mc_eval hln rfl)))
  refine sup_init (x := x) (v := v) (t0 := t0) (m := fun z => ([("self", Value.ref x), ("value", v)] : List (Str × Value)).reverse.lookup z) (X.keeps hk) T hup S rfl k2_super k2_class (by rw [har]; exact k2_self) rfl rfl (by kernel_rfl) rfl rfl (G.keeps hk) g0 (B.keeps hk) b0 hL (by rw [har]; exact b2_self) (hk _ _ hx) (fun h1 tk1 Q1 k1 q1 => ?_) (fun h1 tk1 t1 k1 e1 => ?_) rfl
  · exact wpAny_Name (wpAny_loadName_local rfl k2_value (hL.keeps k1) b2_value (q1 _)) (by decide +kernel)
  · have hL1 := ns_but hL hxL.symm k1
    have X1 : K.In h1 := kin_but (X.keeps hk) hKx k1
    refine wpAt_of_wpAny (wpAny_execs_cons ?_)
    refine fld_new X1 T hno e1 rfl k2_self k2_value hL1 b2_self b2_value (by decide +kernel) (hsw _) fun h2 tk2 dx k2 dn dne e2 n2 => ?_
    refine wpAny_execs_nil ?_
    exact h h2 tk2 dx t1 (fun b o hb z => k2 b o hb (k1 b o hb (hk b o z))) (Nat.le_trans (Nat.le_of_lt (ns_lt hL1)) dn) dne e2 n2
/-- the bindings of InvalidText.__init__ -/
abbrev bs4 (u v r c : Value) : List (Str × Value) := [("self", u), ("value", v), ("row", r), ("column", c)]
theorem b4_self {u v r c : Value} : (bs4 u v r c).reverse.lookup ("self" : Str) = some u := by
  have e1 : (("self" : Str) == ("value" : Str)) = false := by decide +kernel
  have e2 : (("self" : Str) == ("row" : Str)) = false := by decide +kernel
  have e3 : (("self" : Str) == ("column" : Str)) = false := by decide +kernel
  simp [List.lookup, e1, e2, e3]
theorem b4_value {u v r c : Value} : (bs4 u v r c).reverse.lookup ("value" : Str) = some v := by
  have e2 : (("value" : Str) == ("row" : Str)) = false := by decide +kernel
  have e3 : (("value" : Str) == ("column" : Str)) = false := by decide +kernel
  simp [List.lookup, e2, e3]
theorem b4_row {u v r c : Value} : (bs4 u v r c).reverse.lookup ("row" : Str) = some r := by
  have e3 : (("row" : Str) == ("column" : Str)) = false := by decide +kernel
  simp [List.lookup, e3]
theorem b4_column {u v r c : Value} : (bs4 u v r c).reverse.lookup ("column" : Str) = some c := by
  simp [List.lookup]
theorem b4_loc {u v r c : Value} : ∀ y ∈ bs4 u v r c, (scSup ps4).names.lookup y.1 = some .local := by
  intro y hy
  rcases List.mem_cons.mp hy with rfl | hy
  · exact k4_self
  rcases List.mem_cons.mp hy with rfl | hy
  · exact k4_value
  rcases List.mem_cons.mp hy with rfl | hy
  · exact k4_row
  rcases List.mem_cons.mp hy with rfl | hy
  · exact k4_column
  cases hy
theorem b1_self {u : Value} : (([("self", u)] : List (Str × Value)).reverse).lookup ("self" : Str) = some u := by
  simp [List.lookup]
theorem b1_loc {u : Value} : ∀ y ∈ ([("self", u)] : List (Str × Value)), (scSup ps1).names.lookup y.1 = some .local := by
  intro y hy
  rcases List.mem_cons.mp hy with rfl | hy
  · exact k1_self
  cases hy
/-- the frame's room for one more def -/
theorem ns_new {h h1 : Heap} {a : Addr} {m : Str → Option Value} (L : h.Ns a m) (hn : h.get? x ≠ none → a ≠ x) (k : ∀ b o, b ≠ x → h.get? b = some o → h1.get? b = some o) (hx : h.get? x ≠ none) : h1.Ns a m := ns_but L (hn hx) k

/-- what a super().__init__ leaves behind: the first field stored -/
def Made (hp : Heap) (C x : Addr) (v : Value) (h' : Heap) : Prop := ∃ dx t1, (∀ b o, b ≠ x → hp.get? b = some o → h'.get? b = some o) ∧ hp.objs.size ≤ dx ∧ dx ≠ x ∧ h'.get? x = some (excObj C t1 (some dx) .none) ∧ h'.Ns1 dx (fun z => if z = "value" then some v else none)
/-- InvalidText.__init__: super().__init__(value); self.row = row; self.column = column -/
theorem text_run {p0 p1 p2 p3 p4 p5 q1 q2 q3 q4 q5 q6 q7 q8 : Pos} {t0 f2 : Addr} {u r c : Value} (hln : (p2.endLine == p4.line) = true)
    (hsw : ∀ env : Env, swapsWith (.Name "row" q3) (some (.Attribute (.Name "self" q1) "row" q2)) q4.line env = pure false) (hsw2 : ∀ env : Env, swapsWith (.Name "column" q7) (some (.Attribute (.Name "self" q5) "column" q6)) q8.line env = pure false)
    (X : K.In hp) (T : Cl K D C) (hmr : mroIn K C (.ref C) = some true) (hup : ks_superIn K C C "__init__" = some (some (.ref f2))) (hfn : fnIn K f2 = true) (hty : typeIn K (.ref f2) = some (.type "function")) (hr : findIn K (.ref C) "row" = some none) (hcl : findIn K (.ref C) "column" = some none)
    (S : Sup prog K C f cc cda (fnSup qual params [.Expr (exSup (.Name "value" p3) p0 p1 p2 p4) p5, stFld "row" "row" q1 q2 q3 q4, stFld "column" "column" q5 q6 q7 q8] ps4 cc cda kV doc pm an ct) ar) (har : ar.arg = "self")
    (hcode : codeIn K (.ref cda) qual = true) (hlim : hp.NoLimit) (hroom : A.depth < recursionLimit)
    (G : hp.Ns mainGlobals mg) (g0 : mg "super" = none) (B : hp.Ns builtinsNs mb) (b0 : mb "super" = some (.type "super"))
    (hbind : BindsTo ⟨hp, g, dr, tk, os⟩ (fnSup qual params [.Expr (exSup (.Name "value" p3) p0 p1 p2 p4) p5, stFld "row" "row" q1 q2 q3 q4, stFld "column" "column" q5 q6 q7 q8] ps4 cc cda kV doc pm an ct) args (bs4 (.ref x) u r c))
    (hx : hp.get? x = some (excObj C t0 none .none)) (hKx : K.lookup x = none)
    (hinit : ∀ (A' : Around) (h' : Heap) (tk' : Nat) (R' : Result → Shared → Prop), (∀ b o, hp.get? b = some o → h'.get? b = some o) → A'.depth = A.depth + 1 → (∀ h2 tk2, Made h' C x u h2 → R' (.ok (.ret .none)) ⟨h2, g, dr, tk2, os⟩) → codeAny (model prog w) A' (.call (.ref f2) ⟨[.ref x, u], []⟩) R' ⟨h', g, dr, tk', os⟩)
    (h : ∀ h' tk' dx t1, (∀ b o, b ≠ x → hp.get? b = some o → h'.get? b = some o) → hp.objs.size ≤ dx → dx ≠ x → h'.get? x = some (excObj C t1 (some dx) .none) →
      h'.Ns1 dx (fun z => if z = "column" then some c else if z = "row" then some r else if z = "value" then some u else none) → R (.ok (.ret .none)) ⟨h', g, dr, tk', os⟩) :
    codeAny (model prog w) A (.call (.ref f) args) R ⟨hp, g, dr, tk, os⟩ := by
  obtain ⟨oc, od, osl, hf⟩ := S.fn
  refine ks_codeAny_call_defAt hroom (X _ _ hf) rfl hlim (codeRec_of X hcode) rfl hbind k4_cells b4_loc fun h₀ hL hk => ?_
  have hxL : x ≠ hp.objs.size := Nat.ne_of_lt (Heap.lt_size hx)
  have I0 : InstAt h₀ x (excObj C t0 none .none) C none := ⟨hk _ _ hx, rfl, rfl, trivial⟩
  refine ks_wpAt_execs_cons (ks_wpAt_Expr_any (ks_wpAt_MethodCall ?_ (mc_eval hln rfl)))
  refine sup_fn (x := x) (v := u) (m := fun z => (bs4 (.ref x) u r c).reverse.lookup z) (X.keeps hk) T.op hmr hup hfn hty S rfl k4_super k4_class (by rw [har]; exact k4_self) rfl rfl (by kernel_rfl) rfl rfl (G.keeps hk) g0 (B.keeps hk) b0 hL (by rw [har]; exact b4_self) I0 (fun h1 tk1 Q1 k1 q1 => ?_) (fun h1 tk1 k1 => ?_) rfl
  · exact wpAny_Name (wpAny_loadName_local rfl k4_value (hL.keeps k1) b4_value (q1 _)) (by decide +kernel)
  · refine hinit _ h1 tk1 _ (fun b o z => k1 b o (hk b o z)) rfl fun h2 tk2 md => ?_
    obtain ⟨dx, t1, m1, m2, m3, m4, m5⟩ := md
    have hL1 : h1.Ns hp.objs.size _ := hL.keeps k1
    have hL2 := ns_but hL1 hxL.symm m1
    have X2 : K.In h2 := kin_but ((X.keeps hk).keeps k1) hKx m1
    have hLd : hp.objs.size ≠ dx := Nat.ne_of_lt (Nat.lt_of_lt_of_le (ns_lt hL1) m2)
    have w1 : Within (fun z => if z = "value" then some u else none) ["value"] := fun z hz => by
      by_cases e : z = "value"
      · rw [e]; exact List.mem_singleton.mpr rfl
      · exact absurd (if_neg e) hz
    refine wpAt_of_wpAny (wpAny_execs_cons ?_)
    refine fld_old X2 T hr m4 m5 w1 (by decide) rfl k4_self k4_row hL2 b4_self b4_row (by decide +kernel) (hsw _) fun h3 tk3 k3 n3 => ?_
    have ndx : ∀ b o, hp.get? b = some o → b ≠ dx := fun b o z => Nat.ne_of_lt (Nat.lt_of_lt_of_le (Heap.lt_size (k1 b o (hk b o z))) m2)
    have hL3 : h3.Ns hp.objs.size _ := ns_but (x := dx) hL2 hLd k3
    have X3 : K.In h3 := fun b o z => k3 b o (ndx b o (X _ _ z)) (X2 b o z)
    have e3 : h3.get? x = some (excObj C t1 (some dx) .none) := k3 _ _ (Ne.symm m3) m4
    have w2 : Within (fun z => if z = "row" then some r else if z = "value" then some u else none) ["row", "value"] := Within.cons _ _ w1
    refine wpAny_execs_cons ?_
    refine fld_old X3 T hcl e3 n3 w2 (by decide) rfl k4_self k4_column hL3 b4_self b4_column (by decide +kernel) (hsw2 _) fun h4 tk4 k4 n4 => ?_
    refine wpAny_execs_nil ?_
    exact h h4 tk4 dx t1 (fun b o hb z => k4 b o (ndx b o z) (k3 b o (ndx b o z) (m1 b o hb (k1 b o (hk b o z))))) (Nat.le_trans (Nat.le_of_lt (ns_lt hL1)) m2) m3 (k4 _ _ (Ne.symm m3) e3) n4
/-- NothingToUndo.__init__: super().__init__(None) -/
theorem none_run {p0 p1 p2 p3 p4 p5 : Pos} {kc : Nat} {t0 f2 : Addr} (hln : (p2.endLine == p4.line) = true)
    (X : K.In hp) (T : Cl K D C) (hmr : mroIn K C (.ref C) = some true) (hup : ks_superIn K C C "__init__" = some (some (.ref f2))) (hfn : fnIn K f2 = true) (hty : typeIn K (.ref f2) = some (.type "function"))
    (S : Sup prog K C f cc cda (fnSup qual params [.Expr (exSup (.Constant .none kc p3) p0 p1 p2 p4) p5] ps1 cc cda kV doc pm an ct) ar) (har : ar.arg = "self")
    (hcode : codeIn K (.ref cda) qual = true) (hlim : hp.NoLimit) (hroom : A.depth < recursionLimit)
    (G : hp.Ns mainGlobals mg) (g0 : mg "super" = none) (B : hp.Ns builtinsNs mb) (b0 : mb "super" = some (.type "super"))
    (hbind : BindsTo ⟨hp, g, dr, tk, os⟩ (fnSup qual params [.Expr (exSup (.Constant .none kc p3) p0 p1 p2 p4) p5] ps1 cc cda kV doc pm an ct) args [("self", .ref x)])
    (hx : hp.get? x = some (excObj C t0 none .none)) (hKx : K.lookup x = none)
    (hinit : ∀ (A' : Around) (h' : Heap) (tk' : Nat) (R' : Result → Shared → Prop), (∀ b o, hp.get? b = some o → h'.get? b = some o) → A'.depth = A.depth + 1 → (∀ h2 tk2, Made h' C x .none h2 → R' (.ok (.ret .none)) ⟨h2, g, dr, tk2, os⟩) → codeAny (model prog w) A' (.call (.ref f2) ⟨[.ref x, .none], []⟩) R' ⟨h', g, dr, tk', os⟩)
    (h : ∀ h' tk' dx t1, (∀ b o, b ≠ x → hp.get? b = some o → h'.get? b = some o) → hp.objs.size ≤ dx → dx ≠ x → h'.get? x = some (excObj C t1 (some dx) .none) →
      h'.Ns1 dx (fun z => if z = "value" then some .none else none) → R (.ok (.ret .none)) ⟨h', g, dr, tk', os⟩) :
    codeAny (model prog w) A (.call (.ref f) args) R ⟨hp, g, dr, tk, os⟩ := by
  obtain ⟨oc, od, osl, hf⟩ := S.fn
  refine ks_codeAny_call_defAt hroom (X _ _ hf) rfl hlim (codeRec_of X hcode) rfl hbind k1_cells b1_loc fun h₀ hL hk => ?_
  have I0 : InstAt h₀ x (excObj C t0 none .none) C none := ⟨hk _ _ hx, rfl, rfl, trivial⟩
  refine ks_wpAt_execs_cons (ks_wpAt_Expr_any (ks_wpAt_MethodCall ?_ (mc_eval hln rfl)))
  refine sup_fn (x := x) (v := .none) (m := fun z => ([("self", Value.ref x)] : List (Str × Value)).reverse.lookup z) (X.keeps hk) T.op hmr hup hfn hty S rfl k1_super k1_class (by rw [har]; exact k1_self) rfl rfl (by kernel_rfl) rfl rfl (G.keeps hk) g0 (B.keeps hk) b0 hL (by rw [har]; exact b1_self) I0 (fun h1 tk1 Q1 k1 q1 => ?_) (fun h1 tk1 k1 => ?_) rfl
  · rw [eval_Constant]
    exact wpAny_pure (q1 _)
  · refine hinit _ h1 tk1 _ (fun b o z => k1 b o (hk b o z)) rfl fun h2 tk2 md => ?_
    obtain ⟨dx, t1, m1, m2, m3, m4, m5⟩ := md
    refine wpAt_of_wpAny (wpAny_execs_nil ?_)
    exact h h2 tk2 dx t1 (fun b o hb z => m1 b o hb (k1 b o (hk b o z))) (Nat.le_trans (Nat.le_of_lt (ns_lt (hL.keeps k1))) m2) m3 m4 m5
end
end Wy

set_option Elab.async false
set_option linter.all false
set_option maxRecDepth 100000
set_option maxHeartbeats 4000000
/-! Wy, part C: C(.., k = v) for an exception class with an __init__ of its own. -/
namespace Wy
open PySem PySem.W PySem.Calls PySem.HandSPX

section
variable {M : Model} {prog : Program} {w : World} {A : Around} {E : Value → Shared → Prop} {R : Result → Shared → Prop} {hp : Heap} {g : Array GenState} {dr : Drawn} {tk : Nat} {os : OsState}
variable {nm q : Str} {C N : Addr} {bs bm : List Value} {sn : List Str} {sub : List Value} {ab : Bool} {col : Option Bool} {dd : Option Addr} {k0 k1 k2 k3 k5 : Option Value}

theorem has_VE (hbm : refsVE bm = true) : (Value.ref C :: bm).contains (.type "ValueError") = true := by
  rw [List.contains_cons, refsVE_contains _ _ hbm, show veTail.contains (Value.type "ValueError") = true by decide +kernel, Bool.or_true]
theorem no_AE (hbm : refsVE bm = true) : (Value.ref C :: bm).contains (.type "AttributeError") = false := by
  rw [List.contains_cons, refsVE_contains _ _ hbm, show veTail.contains (Value.type "AttributeError") = false by decide +kernel]
  rfl
theorem no_NE (hbm : refsVE bm = true) : (Value.ref C :: bm).contains (.type "NameError") = false := by
  rw [List.contains_cons, refsVE_contains _ _ hbm, show veTail.contains (Value.type "NameError") = false by decide +kernel]
  rfl
theorem new_checked (hbm : refsVE bm = true) {rest : List Value} {kw : List (Str × Value)} {Q : Unit → Shared → Prop}
    (hC : hp.get? C = some (excClassObj nm q C N bs bm true sn sub ab col dd k0 k1 k2 k3 k5 "ValueError.__new__")) (hq : Q () ⟨hp, g, dr, tk, os⟩) : wpAny M A (checkBuiltinCall "ValueError.__new__" ⟨.ref C :: rest, kw⟩) Q E ⟨hp, g, dr, tk, os⟩ := by
  have FB := PySem.F.excBase_ValueError
  have hcont := has_VE (C := C) hbm
  have hs := FB.noStar
  simp only [checkBuiltinCall, FB.newKind, FB.newSplit, FB.newRow]
  repeat (first | refine wpAny_loadPart_at hC ?_ | (refine wpAny_isSubtype_exc hC ?_; rw [hcont]) | refine wpAny_staticBase_exc hC ?_ | refine wpAny_madeBy_exc hC ?_ | simp only [bne_self_eq_false, Bool.false_eq_true, if_false] | wp_step)
  exact hq
theorem new_made (hbm : refsVE bm = true) {rest : List Value} {kw : List (Str × Value)} (hC : hp.get? C = some (excClassObj nm q C N bs bm true sn sub ab col dd k0 k1 k2 k3 k5 "ValueError.__new__"))
    (hq : R (.ok (.ret (.ref (hp.objs.size + 1)))) ⟨(hp.push (kdv_tup rest)).push (excO C hp.objs.size), g, dr, tk, os⟩) (hrest : rest.length ≤ sizeLine) :
    codeAny (model prog w) A (.builtin "ValueError.__new__" ⟨.ref C :: rest, kw⟩) R ⟨hp, g, dr, tk, os⟩ := by
  have FB := PySem.F.excBase_ValueError
  have he := FB.ends
  have h1 := has_VE (C := C) hbm
  have h2 := no_AE (C := C) hbm
  have h3 := no_NE (C := C) hbm
  refine codeAny_builtinAt FB.entry ?_
  unfold Builtin.«BaseException.__new__»
  refine wpAt_bind ?_
  show _root_.PySem.wpAt _ _ _ (stack >>= _) _ _ _
  refine wpAt_bind (wpAt_stack fun p below => wpAt_of_wpAny ?_)
  wp_walk
  refine wpAt_of_wpAny ?_
  rw [FB.owner]
  repeat (first | with_reducible refine wpAny_madeHere_exc FB.canon hC ?_ | with_reducible refine wpAny_loadPart_at hC ?_ | (with_reducible refine wpAny_isSubtype_exc hC ?_; first | rw [h1] | rw [h2] | rw [h3]) | wp_step)
  show R _ _
  rw [Heap.size_push]
  exact hq
theorem type_called (hbm : refsVE bm = true) {rest : List Value} {kw : List (Str × Value)} {fI : Addr} {Q : Fin → Shared → Prop} (hC : hp.get? C = some (excClassObj nm q C N bs bm true sn sub ab col dd k0 k1 k2 k3 k5 "ValueError.__new__"))
    (hi : Looks (model prog w) hp (typeLookup (.ref C) "__init__") (some (.ref fI))) (hb : ∀ self, Looks (model prog w) hp (bindSpecial (.ref fI) self) (.ref fI, [self])) (hrest : rest.length ≤ sizeLine)
    (hq : codeAny (model prog w) A (.call (.ref fI) ⟨.ref (hp.objs.size + 1) :: rest, kw⟩)
      (fun r s' => match r with | .ok (.ret v) => v = .none ∧ Q (.done (.ret (.ref (hp.objs.size + 1)))) s' | .ok _ => False | .error e => E e s') ⟨(hp.push (kdv_tup rest)).push (excO C hp.objs.size), g, dr, tk, os⟩) :
    wpAny (model prog w) A (Builtin.«type.__call__» ⟨.ref C :: rest, kw⟩) Q E ⟨hp, g, dr, tk, os⟩ := by
  have FB := PySem.F.excBase_ValueError
  repeat (first | with_reducible refine wpAny_loadPart_at hC ?_ | with_reducible refine wpAny_madeBy_exc hC ?_ | wp_step)
  refine codeAny_call_builtin_code (Code.quiet_builtin _ FB.quiet) (new_checked hbm hC ?_)
  refine new_made hbm hC ?_ hrest
  show wpAny _ _ _ _ _ _
  have k : ∀ b o, hp.get? b = some o → ((hp.push (kdv_tup rest)).push (excO C hp.objs.size)).get? b = some o := fun b o e => Heap.get?_push_of_some _ (Heap.get?_push_of_some _ e)
  have hC₁ := k _ _ hC
  have hget : ((hp.push (kdv_tup rest)).push (excO C hp.objs.size)).get? (hp.objs.size + 1) = some (excO C hp.objs.size) := by heap_get
  have hcC : (Value.ref C :: bm).contains (.ref C) = true := by simp
  have i1 := hi.keeps k
  have b1 := (hb (.ref (hp.objs.size + 1))).keeps k
  unfold isInstance
  repeat (first | with_reducible refine wpAny_loadPart_at hget ?_ | (with_reducible refine wpAny_isSubtype_exc hC₁ ?_; rw [hcC]) | wp_step)
  show wpAny _ _ (typeLookup (.ref C) _) _ _ _
  refine i1.at ?_
  refine wpAny_holding (wpAny_bind (b1.at ?_))
  refine wpAny_bind (wpAny_call (codeAny_mono hq fun r s' z => ?_))
  rcases r with e | (v | _ | _ | _) <;> first | exact z | exact z.elim | skip
  obtain ⟨rfl, z⟩ := z
  first
    | exact wpAny_pure (wpAny_pure z)
    | (wp_walk; exact z)
theorem cls_called (hbm : refsVE bm = true) {rest : List Value} {kw : List (Str × Value)} {fI : Addr} (hC : hp.get? C = some (excClassObj nm q C N bs bm true sn sub ab col dd k0 k1 k2 k3 k5 "ValueError.__new__"))
    (hi : Looks (model prog w) hp (typeLookup (.ref C) "__init__") (some (.ref fI))) (hb : ∀ self, Looks (model prog w) hp (bindSpecial (.ref fI) self) (.ref fI, [self])) (hrest : rest.length ≤ sizeLine)
    (hq : codeAny (model prog w) (A.under (.builtin "type.__call__" ⟨.ref C :: rest, kw⟩)) (.call (.ref fI) ⟨.ref (hp.objs.size + 1) :: rest, kw⟩) (InitBack (hp.objs.size + 1) R)
      ⟨(hp.push (kdv_tup rest)).push (excO C hp.objs.size), g, dr, tk, os⟩) : codeAny (model prog w) A (.call (.ref C) ⟨rest, kw⟩) R ⟨hp, g, dr, tk, os⟩ := by
  have f1 := tc_lookup
  have f2 := tc_bind (.ref C)
  have hTy : (⟨hp, g, dr, tk, os⟩ : Shared).TypeIs (.ref C) "type" := ⟨_, hC, rfl⟩
  refine codeAny_of_tree ?_
  show wpAny _ _ (callAny (.ref C) _) _ _ _
  repeat (any_goals (first | assumption | with_reducible refine wpAny_loadPart_at hC ?_ | wp_step))
  refine ⟨rfl, ?_⟩
  refine codeAny_call_builtin_at (Code.quiet_builtin _ (by decide +kernel)) entry_typeCall (wpAny_check_type_call_sub hC (type_called hbm hC hi hb hrest ?_))
  refine codeAny_mono hq fun r s' z => ?_
  rcases r with e | (v | _ | _ | _) <;> exact z
end
end Wy

set_option Elab.async false
set_option linter.all false
set_option maxRecDepth 100000
set_option maxHeartbeats 4000000
/-! Wy, part D: the exceptions over the hand layer: made, read, asked. -/
namespace Wy
open PySem PySem.Spec L2

/-- what is asked of the class C below D, that its instances are made with a value -/
structure WC (K : PySem.W.Frag) (D C : Addr) : Prop where
  cl : Cl K D C
  up : PySem.W.ks_superIn K C D "__init__" = some (some (.builtin "ValueError.__init__"))
  no : PySem.W.findIn K (.ref C) "value" = some none
/-- an exception of the class at C stands at a, its dict at dx, its fields fs -/
def ExAt (H : Hp) (C a dx : Addr) (fs : List (Str × V)) : Prop := H a = some (exo a C (some dx)) ∧ H dx = some (exd dx fs)
/-- .. no field yet -/
def Bare (H : Hp) (C a : Addr) : Prop := H a = some (exo a C none)

section
variable {P : Program} {w : World} {H : Hp} {h h' : Heap} {a C dx t1 : Addr} {fs : List (Str × V)} {mA : Str → Option Value} {outer : List Addr}
/-- the heap with the exception's fields -/
def hpW (H : Hp) (C a dx : Addr) (fs : List (Str × V)) : Hp := upd (upd H dx (exd dx fs)) a (exo a C (some dx))
theorem hpW_at : ExAt (hpW H C a dx fs) C a dx fs ∨ dx = a := by
  by_cases e : dx = a
  · exact .inr e
  · exact .inl ⟨upd_same, by unfold hpW; rw [upd_ne e]; exact upd_same⟩
theorem made_un (ea : Bare H C a) (hok : HOk P w H h) (k : ∀ b o, b ≠ a → h.get? b = some o → h'.get? b = some o) (dn : h.objs.size ≤ dx) (dne : dx ≠ a)
    (hx : h'.get? a = some (PySem.W.excObj C t1 (some dx) .none)) (hn : h'.Ns1 dx mA) (rel : ∀ f, RelO (fs.lookup f) (mA f)) : Un outer [] H (hpW H C a dx fs) h h' ∧ HOk P w (hpW H C a dx fs) h' := by
  have ea' : H a = some (exo a C none) := ea
  have hnd : H dx = none := hok.fresh dn
  have nd : ∀ {b : Addr} {o : Obj}, h.get? b = some o → b ≠ dx := fun {b o} q => Nat.ne_of_lt (Nat.lt_of_lt_of_le (Heap.lt_size q) dn)
  have na : ∀ {b : Addr}, H b = none → b ≠ a := fun {b} n z => by
    rw [z, ea'] at n
    cases n
  refine ⟨⟨fun b o q n _ _ => k b o (na n) q, fun b o q n _ _ => ⟨o.slots, k b o (na n) q⟩, fun b o q n _ => ?_, fun b o q _ => ?_, fun b xs q => ?_, fun b o v q => ?_, fun b ps q => ?_⟩, fun b o q => ?_⟩
  · unfold hpW
    rw [upd_ne (na n), upd_ne (nd q)]
    exact n
  · by_cases hb : b = a
    · exact ⟨_, by rw [hb]; exact hx⟩
    · exact ⟨o, k b o hb q⟩
  · unfold hpW
    rw [upd_ne (at_ne ea' q exo_tup), upd_ne (ne_of_none q hnd)]
    exact q
  · unfold hpW
    rw [upd_ne (at_ne ea' q exo_frz), upd_ne (ne_of_none q hnd)]
    exact q
  · refine ⟨#[], ?_⟩
    unfold hpW
    rw [upd_ne (at_ne ea' q exo_tbl), upd_ne (ne_of_none q hnd), q]
    simp
  · by_cases hb : b = a
    · subst hb
      unfold hpW at q
      rw [upd_same] at q
      cases q
      exact exo_ok hx
    · unfold hpW at q
      rw [upd_ne hb] at q
      by_cases hd : b = dx
      · subst hd
        rw [upd_same] at q
        cases q
        exact exd_ok hn rel
      · rw [upd_ne hd] at q
        have own_ : ∀ c, H c = some (.own b) → hpW H C a dx fs c = some (.own b) := fun c hc => by
          unfold hpW
          rw [upd_ne (at_ne ea' hc exo_own), upd_ne (ne_of_none hc hnd)]
          exact hc
        have tup_ : ∀ c xs, H c = some (.tup xs) → hpW H C a dx fs c = some (.tup xs) := fun c xs hc => by
          unfold hpW
          rw [upd_ne (at_ne ea' hc exo_tup), upd_ne (ne_of_none hc hnd)]
          exact hc
        refine (hok b o q).stay (fun c v hc z => k c v ?_ z) own_ tup_
        rcases hc with hc | hc
        · rw [hc]
          exact hb
        · exact at_ne ea' hc exo_own
end

/-! ### the promises of the three kinds of __init__ -/
def spWhy (K : PySem.W.Frag) (D : Addr) : Sp := fun vs H Q _ => ∃ (a C : Addr) (v : V), vs = [.ref a, v] ∧ WC K D C ∧ Bare H C a ∧ ∀ dx, H dx = none → dx ≠ a → Q .non (hpW H C a dx [("value", v)])
def spText (K : PySem.W.Frag) (D C : Addr) : Sp := fun vs H Q _ => ∃ (a : Addr) (v r c : V), vs = [.ref a, v, r, c] ∧ Bare H C a ∧ ∀ dx, H dx = none → dx ≠ a → Q .non (hpW H C a dx [("column", c), ("row", r), ("value", v)])
def spNone (K : PySem.W.Frag) (D C : Addr) : Sp := fun vs H Q _ => ∃ a : Addr, vs = [.ref a] ∧ Bare H C a ∧ ∀ dx, H dx = none → dx ≠ a → Q .non (hpW H C a dx [("value", .non)])

/-- WhyError's __init__ as it stands behind the top -/
structure WhyD (prog : Program) (K : PySem.W.Frag) (D f : Addr) (fd : FuncData) : Prop where
  ex : ∃ (cc cda : Addr) (qual : Str) (params : Arguments) (kV doc pm ct : Value) (an : Option Addr) (ar : Arg) (p0 p1 p2 p3 p4 p5 p6 p7 p8 p9 : Pos), fd = fnSup qual params [.Expr (exSup (.Name "value" p3) p0 p1 p2 p4) p5, stFld "value" "value" p6 p7 p8 p9] ps2 cc cda kV doc pm an ct ∧
    Sup prog K D f cc cda fd ar ∧ ar.arg = "self" ∧ PySem.W.codeIn K (.ref cda) qual = true ∧ (p2.endLine == p4.line) = true ∧ (∀ env : Env, swapsWith (.Name "value" p8) (some (.Attribute (.Name "self" p6) "value" p7)) p9.line env = pure false)
  bind : ∀ (s : Shared) (u v : Value), BindsTo s fd ⟨[u, v], []⟩ [("self", u), ("value", v)]
structure TextD (prog : Program) (K : PySem.W.Frag) (D C f f2 : Addr) (fd fd2 : FuncData) : Prop where
  ex : ∃ (cc cda : Addr) (qual : Str) (params : Arguments) (kV doc pm ct : Value) (an : Option Addr) (ar : Arg) (p0 p1 p2 p3 p4 p5 q1 q2 q3 q4 q5 q6 q7 q8 : Pos),
    fd = fnSup qual params [.Expr (exSup (.Name "value" p3) p0 p1 p2 p4) p5, stFld "row" "row" q1 q2 q3 q4, stFld "column" "column" q5 q6 q7 q8] ps4 cc cda kV doc pm an ct ∧
    Sup prog K C f cc cda fd ar ∧ ar.arg = "self" ∧ PySem.W.codeIn K (.ref cda) qual = true ∧ (p2.endLine == p4.line) = true ∧
    (∀ env : Env, swapsWith (.Name "row" q3) (some (.Attribute (.Name "self" q1) "row" q2)) q4.line env = pure false) ∧ (∀ env : Env, swapsWith (.Name "column" q7) (some (.Attribute (.Name "self" q5) "column" q6)) q8.line env = pure false)
  why : WhyD prog K D f2 fd2
  wc : WC K D C
  mr : PySem.W.mroIn K C (.ref C) = some true
  up : PySem.W.ks_superIn K C C "__init__" = some (some (.ref f2))
  fn : PySem.W.fnIn K f2 = true
  ty : PySem.W.typeIn K (.ref f2) = some (.type "function")
  nr : PySem.W.findIn K (.ref C) "row" = some none
  nc : PySem.W.findIn K (.ref C) "column" = some none
structure NoneD (prog : Program) (K : PySem.W.Frag) (D C f f2 : Addr) (fd fd2 : FuncData) : Prop where
  ex : ∃ (cc cda : Addr) (qual : Str) (params : Arguments) (kV doc pm ct : Value) (an : Option Addr) (ar : Arg) (kc : Nat) (p0 p1 p2 p3 p4 p5 : Pos),
    fd = fnSup qual params [.Expr (exSup (.Constant .none kc p3) p0 p1 p2 p4) p5] ps1 cc cda kV doc pm an ct ∧
    Sup prog K C f cc cda fd ar ∧ ar.arg = "self" ∧ PySem.W.codeIn K (.ref cda) qual = true ∧ (p2.endLine == p4.line) = true
  why : WhyD prog K D f2 fd2
  wc : WC K D C
  mr : PySem.W.mroIn K C (.ref C) = some true
  up : PySem.W.ks_superIn K C C "__init__" = some (some (.ref f2))
  fn : PySem.W.fnIn K f2 = true
  ty : PySem.W.typeIn K (.ref f2) = some (.type "function")

section
variable {P : Program} {w : World} {K : PySem.W.Frag} {mg : Str → Option Value} {base : Heap} {D C f f2 : Addr} {fd fd2 : FuncData}
theorem rel1 {v : V} {u : Value} (r : RelV v u) (g : Str) : RelO (([("value", v)] : List (Str × V)).lookup g) (if g = "value" then some u else none) := relO_put (fs := []) (mA := fun _ => none) r (fun _ => True.intro) g
theorem notK {A : Around} {outer : List Env} {s : Shared} {H : Hp} (e0 : Env0 P w K mg base A outer s H) {a : Addr} {o : HO} (ea : H a = some o) : K.lookup a = none := by
  cases z : K.lookup a with
  | none => rfl
  | some ob =>
    have y := (e0.bs a ob (e0.mod.kin a ob z)).2
    rw [ea] at y
    cases y
theorem ok_why (W : WhyD P K D f fd) (g0 : mg "super" = none) : FnOk P w K mg base CX0 1 f fd ["self", "value"] (spWhy K D) := by
  refine ⟨fun vs H Q E h => ?_, fun A outer s H args us vs Q E hr e0 hb r hsp => ?_⟩
  · obtain ⟨a, C, v, rfl, _⟩ := h
    rfl
  obtain ⟨a, C, v, rfl, T, ea, q⟩ := hsp
  obtain ⟨cc, cda, qual, params, kV, doc, pm, ct, an, ar, p0, p1, p2, p3, p4, p5, p6, p7, p8, p9, rfl, S, har, hcode, hln, hsw⟩ := W.ex
  have kb : ∀ b o, base.get? b = some o → s.heap.get? b = some o := fun b o e => (e0.bs b o e).1
  obtain ⟨t0, hx⟩ := exo_at e0.hok ea
  obtain ⟨mb, hmb, hbb⟩ := e0.mod.blt
  cases r with
  | cons r1 rr =>
    cases rr with
    | cons r2 rr =>
      cases rr
      rename_i u1 u2
      obtain rfl : u1 = Value.ref a := r1
      obtain ⟨hp, g, dr, tk, os⟩ := s
      refine why_run (mg := mg) (mb := mb) hln hsw (e0.mod.kin.keeps kb) T.cl T.up T.no S har hcode (e0.mod.nolimit.keeps kb) hr.depth (e0.mod.glob.keeps kb) g0 (hmb.keeps kb) ((hbb "super" (by decide +kernel)).trans (by decide +kernel)) hb hx (notK e0 ea) fun h' tk' dx t1 k dn dne hx' hn => ?_
      obtain ⟨un, hok⟩ := made_un (outer := frs outer) (fs := [("value", v)]) ea e0.hok k dn dne hx' hn (rel1 r2)
      exact ⟨.non, _, rfl, e0.bare, un, hok, rfl, q dx (e0.hok.fresh dn) dne⟩
theorem ok_text (W : TextD P K D C f f2 fd fd2) (g0 : mg "super" = none) : FnOk P w K mg base CX0 2 f fd ["self", "value", "row", "column"] (spText K D C) := by
  refine ⟨fun vs H Q E h => ?_, fun A outer s H args us vs Q E hr e0 hb r hsp => ?_⟩
  · obtain ⟨a, v, r, c, rfl, _⟩ := h
    rfl
  obtain ⟨a, v, rw_, c, rfl, ea, q⟩ := hsp
  obtain ⟨cc, cda, qual, params, kV, doc, pm, ct, an, ar, p0, p1, p2, p3, p4, p5, q1, q2, q3, q4, q5, q6, q7, q8, rfl, S, har, hcode, hln, hsw1, hsw2⟩ := W.ex
  obtain ⟨cc', cda', qual', params', kV', doc', pm', ct', an', ar', p0', p1', p2', p3', p4', p5', p6', p7', p8', p9', rfl, S', har', hcode', hln', hsw'⟩ := W.why.ex
  have kb : ∀ b o, base.get? b = some o → s.heap.get? b = some o := fun b o e => (e0.bs b o e).1
  obtain ⟨t0, hx⟩ := exo_at e0.hok ea
  obtain ⟨mb, hmb, hbb⟩ := e0.mod.blt
  have b0 : mb "super" = some (.type "super") := (hbb "super" (by decide +kernel)).trans (by decide +kernel)
  have hd := hr.dp
  cases r with
  | cons r1 rr =>
    cases rr with
    | cons r2 rr =>
      cases rr with
      | cons r3 rr =>
        cases rr with
        | cons r4 rr =>
          cases rr
          rename_i u1 u2 u3 u4
          obtain rfl : u1 = Value.ref a := r1
          obtain ⟨hp, g, dr, tk, os⟩ := s
          refine text_run (mg := mg) (mb := mb) hln hsw1 hsw2 (e0.mod.kin.keeps kb) W.wc.cl W.mr W.up W.fn W.ty W.nr W.nc S har hcode (e0.mod.nolimit.keeps kb) hr.depth (e0.mod.glob.keeps kb) g0 (hmb.keeps kb) b0 hb hx (notK e0 ea) (fun A' h' tk' R' kk hA hR => ?_) fun h' tk' dx t1 k dn dne hx' hn => ?_
          · refine why_run (mg := mg) (mb := mb) hln' hsw' ((e0.mod.kin.keeps kb).keeps kk) W.wc.cl W.wc.up W.wc.no S' har' hcode' ((e0.mod.nolimit.keeps kb).keeps kk) (by omega) ((e0.mod.glob.keeps kb).keeps kk) g0 ((hmb.keeps kb).keeps kk) b0 (W.why.bind _ _ _) (kk _ _ hx) (notK e0 ea) fun h2 tk2 dx t1 k dn dne hx' hn => ?_
            exact hR h2 tk2 ⟨dx, t1, k, dn, dne, hx', hn⟩
          · obtain ⟨un, hok⟩ := made_un (outer := frs outer) (fs := [("column", c), ("row", rw_), ("value", v)]) ea e0.hok k dn dne hx' hn (fun z => relO_put r4 (relO_put r3 (rel1 r2)) z)
            exact ⟨.non, _, rfl, e0.bare, un, hok, rfl, q dx (e0.hok.fresh dn) dne⟩
theorem ok_none (W : NoneD P K D C f f2 fd fd2) (g0 : mg "super" = none) : FnOk P w K mg base CX0 2 f fd ["self"] (spNone K D C) := by
  refine ⟨fun vs H Q E h => ?_, fun A outer s H args us vs Q E hr e0 hb r hsp => ?_⟩
  · obtain ⟨a, rfl, _⟩ := h
    rfl
  obtain ⟨a, rfl, ea, q⟩ := hsp
  obtain ⟨cc, cda, qual, params, kV, doc, pm, ct, an, ar, kc, p0, p1, p2, p3, p4, p5, rfl, S, har, hcode, hln⟩ := W.ex
  obtain ⟨cc', cda', qual', params', kV', doc', pm', ct', an', ar', p0', p1', p2', p3', p4', p5', p6', p7', p8', p9', rfl, S', har', hcode', hln', hsw'⟩ := W.why.ex
  have kb : ∀ b o, base.get? b = some o → s.heap.get? b = some o := fun b o e => (e0.bs b o e).1
  obtain ⟨t0, hx⟩ := exo_at e0.hok ea
  obtain ⟨mb, hmb, hbb⟩ := e0.mod.blt
  have b0 : mb "super" = some (.type "super") := (hbb "super" (by decide +kernel)).trans (by decide +kernel)
  have hd := hr.dp
  cases r with
  | cons r1 rr =>
    cases rr
    rename_i u1
    obtain rfl : u1 = Value.ref a := r1
    obtain ⟨hp, g, dr, tk, os⟩ := s
    refine none_run (mg := mg) (mb := mb) hln (e0.mod.kin.keeps kb) W.wc.cl W.mr W.up W.fn W.ty S har hcode (e0.mod.nolimit.keeps kb) hr.depth (e0.mod.glob.keeps kb) g0 (hmb.keeps kb) b0 hb hx (notK e0 ea) (fun A' h' tk' R' kk hA hR => ?_) fun h' tk' dx t1 k dn dne hx' hn => ?_
    · refine why_run (mg := mg) (mb := mb) hln' hsw' ((e0.mod.kin.keeps kb).keeps kk) W.wc.cl W.wc.up W.wc.no S' har' hcode' ((e0.mod.nolimit.keeps kb).keeps kk) (by omega) ((e0.mod.glob.keeps kb).keeps kk) g0 ((hmb.keeps kb).keeps kk) b0 (W.why.bind _ _ _) (kk _ _ hx) (notK e0 ea) fun h2 tk2 dx t1 k dn dne hx' hn => ?_
      exact hR h2 tk2 ⟨dx, t1, k, dn, dne, hx', hn⟩
    · obtain ⟨un, hok⟩ := made_un (outer := frs outer) (fs := [("value", .non)]) ea e0.hok k dn dne hx' hn (rel1 rfl)
      exact ⟨.non, _, rfl, e0.bare, un, hok, rfl, q dx (e0.hok.fresh dn) dne⟩
end
end Wy

set_option Elab.async false
set_option linter.all false
set_option maxRecDepth 100000
set_option maxHeartbeats 4000000
/-! Wy, part E: rules of expressions: C(..) of such a class, e.value, isinstance(e, c), repr(x). -/
namespace Wy
open PySem PySem.Spec L2

/-- the class C makes its instances by the def at fI -/
structure MkE (K : PySem.W.Frag) (C fI : Addr) : Prop where
  cls : ∃ nm q N bs bm sn sub ab col dd k0 k1 k2 k3 k5, K.lookup C = some (excClassObj nm q C N bs bm true sn sub ab col dd k0 k1 k2 k3 k5 "ValueError.__new__") ∧ PySem.HandSPX.refsVE bm = true
  ini : PySem.W.findIn K (.ref C) "__init__" = some (some (.ref fI))
  fn : PySem.W.typeIn K (.ref fI) = some (.type "function")
  kp : PySem.W.keepIn K (.ref C) = true
/-- C(e, ..) -/
def tMkE (C : Addr) (sp : Sp) (t : TA) : TE := fun σ H Q => t σ H fun vs H1 => vs.length ≤ 1000 ∧ ∀ a, H1 a = none → sp (.ref a :: vs) (upd H1 a (exo a C none)) (fun v H2 => v = .non ∧ Q (.ref a) H2) E0
section
variable {X : Cx} {k : Nat} {fI C : Addr} {fd : FuncData} {ps ks : List Str} {sp : Sp} {x : Str} {p pos : Pos} {e : Expr} {es : List Expr} {kws : List Keyword} {t : TA}
theorem run_mkE {pins : List (Addr × Obj)} {σ : St} {H : Hp} {s : Shared} {Q : VK} {us ws : List Value} {vs : List V} {kw : List (Str × Value)} (M : MkE X.K C fI) (F : FnOk X.prog X.w X.K X.mg X.base CX0 k fI fd ps sp) (hr : Room (k + 1) X.A)
    (I : Inv X pins σ H s) (hl : us.length ≤ 1000) (hb : ∀ s' u, BindsTo s' fd ⟨u :: us, kw⟩ (ps.zip (u :: ws))) (r : Vals vs ws)
    (h : ∀ a, H a = none → sp (.ref a :: vs) (upd H a (exo a C none)) (fun v H2 => v = .non ∧ Q (.ref a) H2) E0) :
    wpAny (model X.prog X.w) X.A (call (.ref C) us kw) (EP X pins σ Q) X.xe s := by
  obtain ⟨nm, q, N, bs, bm, sn, sub, ab, col, dd, k0, k1, k2, k3, k5, hC, hbm⟩ := M.cls
  obtain ⟨hp, g, dr, tk, os⟩ := s
  have hsz : hp.objs.size ≤ hp.objs.size + 1 := Nat.le_succ _
  have hn : H (hp.objs.size + 1) = none := I.hok.fresh hsz
  have hq := h (hp.objs.size + 1) hn
  have kk : ∀ b o, hp.get? b = some o → ((hp.push (PySem.W.kdv_tup us)).push (PySem.HandSPX.excO C hp.objs.size)).get? b = some o := fun b o e => Heap.get?_push_of_some _ (Heap.get?_push_of_some _ e)
  have hget : ((hp.push (PySem.W.kdv_tup us)).push (PySem.HandSPX.excO C hp.objs.size)).get? (hp.objs.size + 1) = some (PySem.HandSPX.excO C hp.objs.size) := by heap_get
  have I2 : Inv X pins σ (upd H (hp.objs.size + 1) (exo (hp.objs.size + 1) C none)) ⟨(hp.push (PySem.W.kdv_tup us)).push (PySem.HandSPX.excO C hp.objs.size), g, dr, tk, os⟩ :=
    I.laid (t' := tk) (a := hp.objs.size + 1) (o := exo (hp.objs.size + 1) C none) (h' := (hp.push (PySem.W.kdv_tup us)).push (PySem.HandSPX.excO C hp.objs.size)) kk hsz (exo_ok hget)
  have r2 : Vals (V.ref (hp.objs.size + 1) :: vs) (Value.ref (hp.objs.size + 1) :: ws) := .cons rfl r
  refine wpAny_call (cls_called hbm (I.kIn _ _ hC) (PySem.W.looks_findIn I.kIn M.ini) (fun self => PySem.W.bind_fn I.kIn self M.fn) (Nat.le_trans hl (by decide))
    (codeAny_mono (F.run _ X.stack _ _ ⟨Value.ref (hp.objs.size + 1) :: us, kw⟩ (Value.ref (hp.objs.size + 1) :: ws) _ _ E0 (hr.make C us kw) (I2.env0.make C us kw) (hb _ _) r2 hq) fun r s' hq' => ?_))
  cases r with
  | error er => exact (show False from hq').elim
  | ok fl =>
    cases fl with
    | ret u =>
      obtain ⟨v, H2, I3, rv, ev, q2⟩ := I2.after hq'
      subst ev
      exact ⟨rv, V.ref (hp.objs.size + 1), H2, I3, rfl, q2⟩
    | next => exact False.elim hq'
    | brk => exact False.elim hq'
    | cont => exact False.elim hq'
theorem pe_mkE (M : MkE X.K C fI) (F : FnOk X.prog X.w X.K X.mg X.base CX0 k fI fd ps sp) (hr : Room (k + 1) X.A) (hg : Gl X x) (hm : X.mg x = some (.ref C)) (hb : ∀ (us : List Value), us.length + 1 = ps.length → ∀ s' u, BindsTo s' fd ⟨u :: us, []⟩ (ps.zip (u :: us))) (hps : ∀ vs H Q, sp vs H Q E0 → vs.length = ps.length)
    (ha : PA X (e :: es) t) (hdb : (x == ("__debug__" : Str)) = false := by decide) (he : starEach (e :: es) X.env = (false, eval e X.env) :: starEach es X.env := by rfl) (hpl : (backTo pos (starEach es X.env)).any (·.1) = false := by rfl) :
    PE X (.Call (.Name x p) (e :: es) [] pos) (tMkE C sp t) := by
  refine ⟨fun pins s σ H Q I h => ?_⟩
  refine wpAny_Call_Name_kw (ld_glob I hg hm ?_ hdb)
  refine PySem.W.callWith_K (h₀ := X.base) I.ok.mod.kin M.kp (thn (ha.run pos pins s σ H _ I h) fun us s1 ⟨vs, H1, I1, r, hl, q⟩ => ⟨I1.kIn, ?_⟩) he hpl
  have e1 := hps _ _ _ (q (s1.heap.objs.size) (I1.hok.fresh (Nat.le_refl _)))
  have e2 := r.length
  show wpAny _ _ (call (.ref C) us []) _ _ _
  refine run_mkE M F hr I1 (by rw [← e2]; exact hl) (hb us ?_) r q
  rw [← e2, ← e1]
  rfl
theorem pe_mkE0 (M : MkE X.K C fI) (F : FnOk X.prog X.w X.K X.mg X.base CX0 k fI fd ps sp) (hr : Room (k + 1) X.A) (hg : Gl X x) (hm : X.mg x = some (.ref C)) (hb : ∀ s' u, BindsTo s' fd ⟨[u], []⟩ (ps.zip [u])) (hdb : (x == ("__debug__" : Str)) = false := by decide) :
    PE X (.Call (.Name x p) [] [] pos) (tMkE C sp tNil) := by
  refine ⟨fun pins s σ H Q I h => ?_⟩
  refine wpAny_Call_Name_kw (ld_glob I hg hm ?_ hdb)
  exact PySem.W.callWith_K0 I.kIn M.kp (run_mkE (us := []) (ws := []) (vs := []) M F hr I (by decide) hb .nil h.2)
/-- C(k = v, ..) -/
theorem pe_mkEk (M : MkE X.K C fI) (F : FnOk X.prog X.w X.K X.mg X.base CX0 k fI fd ps sp) (hr : Room (k + 1) X.A) (hg : Gl X x) (hm : X.mg x = some (.ref C)) (hb : ∀ (ws : List Value), ws.length = ks.length → ∀ s' u, BindsTo s' fd ⟨[u], ks.zip ws⟩ (ps.zip (u :: ws)))
    (hps : ∀ vs H Q, sp vs H Q E0 → vs.length = ks.length + 1) (hkw : PK X kws t) (hall : (backToKw pos (keywordEach kws X.env)).all (·.1.isSome) = true := by rfl) (hks : (backToKw pos (keywordEach kws X.env)).filterMap (·.1) = ks := by rfl)
    (hdb : (x == ("__debug__" : Str)) = false := by decide) (hpl : ((backTo pos (starEach [] X.env)).any (·.1) || (backToKw pos (keywordEach kws X.env)).any (·.1.isNone)) = false := by rfl) :
    PE X (.Call (.Name x p) [] kws pos) (tMkE C sp t) := by
  refine ⟨fun pins s σ H Q I h => ?_⟩
  refine wpAny_Call_Name_kw (ld_glob I hg hm ?_ hdb)
  refine PySem.W.callWith_KW0 (h₀ := X.base) I.ok.mod.kin M.kp hall ?_ hpl
  refine thn (hkw.run pos pins s σ H _ I h) fun ws s2 ⟨zs, H2, I2, rz, hl, q⟩ => ⟨I2.kIn, ?_⟩
  rw [hks]
  have e1 := hps _ _ _ (q (s2.heap.objs.size) (I2.hok.fresh (Nat.le_refl _)))
  have e2 := rz.length
  exact run_mkE (us := []) M F hr I2 (by decide) (hb ws (by rw [← e2]; exact Nat.succ.inj e1)) rz q
end

/-! ### e.n -/
def tXfld (K : PySem.W.Frag) (te : TE) (n : Str) : TE := fun σ H Q => te σ H fun x H1 => ∃ (a C dx : Addr) (fs : List (Str × V)) (v : V), x = .ref a ∧ ExAt H1 C a dx fs ∧ XfC K C ∧ PySem.W.findIn K (.ref C) n = some none ∧ fs.lookup n = some v ∧ Q v H1
theorem ex_inst {P : Program} {w : World} {H : Hp} {h : Heap} {C a dx : Addr} {fs : List (Str × V)} (hok : HOk P w H h) (ea : ExAt H C a dx fs) : ∃ (t1 : Addr) (od : Obj) (mA : Str → Option Value), PySem.W.InstAt h a (PySem.W.excObj C t1 (some dx) .none) C (some od) ∧ h.Ns1 dx mA ∧ h.get? dx = some od ∧ ∀ f, RelO (fs.lookup f) (mA f) := by
  obtain ⟨t1, hx⟩ := exo_at hok ea.1
  obtain ⟨mA, hns, rel⟩ := exd_at hok ea.2
  obtain ⟨od, es, ep, ho, r⟩ := id hns
  exact ⟨t1, od, mA, ⟨hx, rfl, rfl, ho⟩, hns, ho, rel⟩
theorem pe_xfld {X : Cx} {e : Expr} {te : TE} {pos : Pos} {n : Str} (he : PE X e te) (hb : attributeBase e n X.env (eval e X.env) = eval e X.env := by rfl) : PE X (.Attribute e n pos) (tXfld X.K te n) := by
  refine ⟨fun pins s σ H Q I h => ?_⟩
  refine attr_of hb (thn (he.run pins s σ H _ I h) fun u s1 hh => ?_)
  obtain ⟨x, H1, I1, rx, a, C, dx, fs, v, ex, ea, T, hno, l, q⟩ := hh
  subst ex
  obtain rfl : u = Value.ref a := rx
  obtain ⟨t1, hx⟩ := exo_at I1.hok ea.1
  obtain ⟨mA, hns, hr⟩ := exd_at I1.hok ea.2
  obtain ⟨od, ho, hl⟩ := lookIn_ns hns
  obtain ⟨u, hu, ru⟩ := RelO.some_of (v := v) (o := mA n) (by rw [← l]; exact hr n)
  have J : PySem.W.InstAt s1.heap a (PySem.W.excObj C t1 (some dx) .none) C (some od) := ⟨hx, rfl, rfl, ho⟩
  exact PySem.HandSPX.exc_get I1.kIn J T.ga T.gg T.exC (PySem.W.findObj_own T.hdC hno rfl (by rw [hl, hu])) (handed_of ru) ⟨v, H1, I1.tok _, ru, q⟩

/-! ### isinstance(e, c) -/
def rIsX (K : PySem.W.Frag) : List V → Hp → VK → Prop := fun xs H Q => ∃ (a C dx : Addr) (fs : List (Str × V)) (c : V) (u : Value) (b : Bool), xs = [.ref a, c] ∧ ExAt H C a dx fs ∧ ExcC K C ∧ ClsV c u ∧ PySem.W.kitOne K (.ref C) u = some b ∧ Q (.bl b) H
theorem call_isX {X : Cx} : CallR X (.builtin "isinstance") (rIsX X.K) := by
  intro pins s σ H xs us Q I r h
  obtain ⟨a, C, dx, fs, c, cv, b, rfl, ea, T, k, e, q⟩ := h
  cases r with
  | cons rx rr =>
    cases rr with
    | cons rt rr =>
      cases rr
      cases rx
      have ec := k.eq rt
      subst ec
      obtain ⟨t1, od, mA, J, _⟩ := ex_inst I.hok ea
      have hcl : (PySem.W.clsIn X.K C).isSome = true := by
        obtain ⟨cd, hc, _⟩ := PySem.W.any_some T.hd
        rw [hc]
        rfl
      exact PySem.W.kia_one (PySem.W.kitx_exc hcl T.hg T.hk T.hs T.ha T.hn T.ht T.hm) I.kIn J e (fun z => nomatch z) fun tk => ⟨.bl b, H, I.kept (t' := tk) fun _ _ z => z, rfl, q⟩
end Wy

set_option Elab.async false
set_option linter.all false
set_option maxRecDepth 100000
set_option maxHeartbeats 4000000
/-! Wy, part F: data of any depth (dicts, too), repr of it; defs that may ask repr (no repr runs around them). -/
namespace Wy
open PySem PySem.Spec L2

def kD : Key → PyData
  | .inl i => .int i
  | .inr x => .str x
mutual
inductive Dx (K : PySem.W.Frag) (H : Hp) : V → PyData → Prop
  | non : Dx K H .non .none
  | bl (b : Bool) : Dx K H (.bl b) (.bool b)
  | int (i : Int) : Dx K H (.int i) (.int i)
  | str (x : Str) : Dx K H (.str x) (.str x)
  | lst {a : Addr} {xs : List V} {ds : List PyData} : SqL K H a xs → DxAll K H xs ds → Dx K H (.ref a) (.list ds)
  | tup {a : Addr} {xs : List V} {ds : List PyData} : SqT K H a xs → DxAll K H xs ds → Dx K H (.ref a) (.tuple ds)
  | dct {a : Addr} {kvs : List (Key × V)} {es : List (PyData × PyData)} : H a = some (.dK kvs) → DxKv K H kvs es → Dx K H (.ref a) (.dict es)
inductive DxAll (K : PySem.W.Frag) (H : Hp) : List V → List PyData → Prop
  | nil : DxAll K H [] []
  | cons {v : V} {vs : List V} {d : PyData} {ds : List PyData} : Dx K H v d → DxAll K H vs ds → DxAll K H (v :: vs) (d :: ds)
inductive DxKv (K : PySem.W.Frag) (H : Hp) : List (Key × V) → List (PyData × PyData) → Prop
  | nil : DxKv K H [] []
  | cons {k : Key} {v : V} {kvs : List (Key × V)} {d : PyData} {es : List (PyData × PyData)} : Dx K H v d → DxKv K H kvs es → DxKv K H ((k, v) :: kvs) ((kD k, d) :: es)
end
mutual
theorem Dx.mono {K : PySem.W.Frag} {H H' : Hp} (s : Same H H') : ∀ {v : V} {d : PyData}, Dx K H v d → Dx K H' v d
  | _, _, .non => .non
  | _, _, .bl b => .bl b
  | _, _, .int i => .int i
  | _, _, .str x => .str x
  | _, _, .lst h a => .lst (s.seq h) (DxAll.mono s a)
  | _, _, .tup h a => .tup (by
      rcases h with (h | ⟨o, h⟩) | h
      · exact .inl (.inl (s _ _ h))
      · exact .inl (.inr ⟨o, s _ _ h⟩)
      · exact .inr h) (DxAll.mono s a)
  | _, _, .dct h a => .dct (s _ _ h) (DxKv.mono s a)
theorem DxAll.mono {K : PySem.W.Frag} {H H' : Hp} (s : Same H H') : ∀ {vs : List V} {ds : List PyData}, DxAll K H vs ds → DxAll K H' vs ds
  | _, _, .nil => .nil
  | _, _, .cons h a => .cons (Dx.mono s h) (DxAll.mono s a)
theorem DxKv.mono {K : PySem.W.Frag} {H H' : Hp} (s : Same H H') : ∀ {kvs : List (Key × V)} {es : List (PyData × PyData)}, DxKv K H kvs es → DxKv K H' kvs es
  | _, _, .nil => .nil
  | _, _, .cons h a => .cons (Dx.mono s h) (DxKv.mono s a)
end
theorem DxAll.append {K : PySem.W.Frag} {H : Hp} : ∀ {vs us : List V} {ds es : List PyData}, DxAll K H vs ds → DxAll K H us es → DxAll K H (vs ++ us) (ds ++ es)
  | _, _, _, _, .nil, b => b
  | _, _, _, _, .cons h a, b => .cons h (DxAll.append a b)
theorem DxAll.length {K : PySem.W.Frag} {H : Hp} : ∀ {vs : List V} {ds : List PyData}, DxAll K H vs ds → vs.length = ds.length
  | _, _, .nil => rfl
  | _, _, .cons _ a => congrArg Nat.succ (DxAll.length a)
theorem DxAll.get {K : PySem.W.Frag} {H : Hp} : ∀ {vs : List V} {ds : List PyData} {i : Nat} {v : V}, DxAll K H vs ds → vs[i]? = some v → ∃ d, ds[i]? = some d ∧ Dx K H v d
  | _, _, _, _, .nil, e => by simp at e
  | _, _, 0, _, .cons h _, e => by
    simp at e
    subst e
    exact ⟨_, rfl, h⟩
  | _, _, i + 1, _, .cons _ a, e => by
    obtain ⟨d, h1, h2⟩ := DxAll.get (i := i) a (by simpa using e)
    exact ⟨d, by simpa using h1, h2⟩

/-- the written part holds the dict of loaded modules -/
def SmK (K : PySem.W.Frag) : Prop := ∃ o, K.lookup sysModules = some o ∧ o.cls = .type "dict"
section
variable {X : Cx} {pins : List (Addr × Obj)} {σ : St} {H : Hp} {s : Shared}
theorem list_ne (I : Inv X pins σ H s) (hK : SmK X.K) {a : Addr} {o : Obj} (h : s.heap.get? a = some o) (hc : o.cls = .type "list") : a ≠ sysModules := by
  intro e
  subst e
  obtain ⟨o', h1, h2⟩ := hK
  have h3 := I.kIn _ _ h1
  rw [h] at h3
  cases h3
  rw [hc] at h2
  exact absurd h2 (by decide)
theorem pairs_reads {P : Program} {w : World} : ∀ {es : List DictEntry} {kvs : List (Key × Value)}, Pairs (mixKind P w) es kvs → ∃ as, ReadsAll s.heap (es.map (·.key)) (kvs.map fun p => kD p.1) as ∧ sysModules ∉ as
  | _, _, .nil => ⟨[], .nil, by simp⟩
  | _, _, .cons (e := e) (kv := kv) h1 h2 hr => by
    obtain ⟨as, r, n⟩ := pairs_reads hr
    have h1' : keyIs kv.1 e.key = true := h1
    obtain ⟨k, v⟩ := kv
    rcases keyIs_shape h1' with ⟨i, t, e1, e2⟩ | ⟨x, t, e1, e2⟩
    · simp only at e1
      subst e1
      refine ⟨[] ++ as, ?_, n⟩
      rw [List.map_cons, e2]
      exact .cons (.int i t) r
    · simp only at e1
      subst e1
      refine ⟨[] ++ as, ?_, n⟩
      rw [List.map_cons, e2]
      exact .cons (.str x t) r
mutual
theorem Dx.reads (I : Inv X pins σ H s) (hK : SmK X.K) : ∀ (d : PyData) (v : V) (u : Value), Dx X.K H v d → RelV v u → ∃ as, Reads s.heap u d as ∧ sysModules ∉ as
  | .none, _, _, h, r => by
    cases h
    cases r
    exact ⟨_, Reads.none, by simp⟩
  | .bool b, _, _, h, r => by
    cases h
    cases r
    exact ⟨_, Reads.bool b, by simp⟩
  | .int i, _, _, h, r => by
    cases h
    obtain ⟨t, rfl⟩ := r
    exact ⟨_, Reads.int i t, by simp⟩
  | .str x, _, _, h, r => by
    cases h
    obtain ⟨t, rfl⟩ := r
    exact ⟨_, Reads.str x t, by simp⟩
  | .list ds, _, _, h, r => by
    cases h with
    | lst hs ha =>
      cases r
      obtain ⟨its, rv, ⟨o, n, ho, hc, _, hd⟩, _⟩ := I.list hs
      obtain ⟨as, hr, hn⟩ := Dx.readsAll I hK ds _ its ha rv
      refine ⟨_, Reads.list ho hc hd hr, ?_⟩
      rw [List.mem_cons]
      exact fun z => z.elim (fun z => list_ne I hK ho hc z.symm) hn
  | .tuple ds, _, _, h, r => by
    cases h with
    | tup hs ha =>
      cases r
      obtain ⟨its, rv, ⟨o, ho, hc, n, hd⟩, _⟩ := I.tuple hs
      obtain ⟨as, hr, hn⟩ := Dx.readsAll I hK ds _ its ha rv
      exact ⟨_, Reads.tuple ho hc hd hr, hn⟩
  | .dict es, _, _, h, r => by
    cases h with
    | dct ha hv =>
      cases r
      obtain ⟨z, hne, vs, rel, o, des, ep, ho, hx, hd, _, hp, _⟩ := dk_of I.hok ha
      obtain ⟨as, hr, hn⟩ := pairs_reads hp
      obtain ⟨e1, bs, hb, hbn⟩ := Dx.readsKv I hK es _ vs des.toList hv rel hp
      refine ⟨_, Reads.dict ho hx.1 hd (by rw [e1] at hr; exact hr) hb, ?_⟩
      rw [List.cons_append, List.mem_cons, List.mem_append]
      rintro (z | z | z)
      · rw [z] at hne
        simp at hne
      · exact hn z
      · exact hbn z
theorem Dx.readsAll (I : Inv X pins σ H s) (hK : SmK X.K) : ∀ (ds : List PyData) (vs : List V) (us : List Value), DxAll X.K H vs ds → Vals vs us → ∃ as, ReadsAll s.heap us ds as ∧ sysModules ∉ as
  | [], _, _, h, r => by
    cases h
    cases r
    exact ⟨_, ReadsAll.nil, by simp⟩
  | d :: ds, _, _, h, r => by
    cases h with
    | cons h1 h2 =>
      cases r with
      | cons r1 r2 =>
        obtain ⟨as, q1, n1⟩ := Dx.reads I hK d _ _ h1 r1
        obtain ⟨bs, q2, n2⟩ := Dx.readsAll I hK ds _ _ h2 r2
        refine ⟨_, ReadsAll.cons q1 q2, ?_⟩
        rw [List.mem_append]
        exact fun z => z.elim n1 n2
theorem Dx.readsKv (I : Inv X pins σ H s) (hK : SmK X.K) : ∀ (es : List (PyData × PyData)) (kvs : List (Key × V)) (vs : List (Key × Value)) (des : List DictEntry), DxKv X.K H kvs es → KV kvs vs → Pairs (mixKind X.prog X.w) des vs →
    (vs.map fun p => kD p.1) = es.map (·.1) ∧ ∃ bs, ReadsAll s.heap (des.map (·.val)) (es.map (·.2)) bs ∧ sysModules ∉ bs
  | [], _, _, _, h, r, p => by
    cases h
    cases r
    cases p
    exact ⟨rfl, _, ReadsAll.nil, by simp⟩
  | (kd, d) :: es, _, _, _, h, r, p => by
    cases h with
    | cons h1 h2 =>
      cases r with
      | cons r1 r2 =>
        cases p with
        | cons p1 p2 p3 =>
          obtain ⟨e1, bs, q2, n2⟩ := Dx.readsKv I hK es _ _ _ h2 r2 p3
          obtain ⟨as, q1, n1⟩ := Dx.reads I hK d _ _ h1 r1.2
          refine ⟨?_, as ++ bs, ?_, ?_⟩
          · rw [List.map_cons, List.map_cons, e1, ← r1.1]
          · rw [List.map_cons, List.map_cons, p2]
            exact ReadsAll.cons q1 q2
          · rw [List.mem_append]
            exact fun z => z.elim n1 n2
end
end
/-- repr(x) -/
def rRepr (K : PySem.W.Frag) : List V → Hp → VK → Prop := fun xs H Q => ∃ (x : V) (d : PyData), xs = [x] ∧ Dx K H x d ∧ d.showable = true ∧ d.shown.length ≤ sizeLine ∧ d.depth ≤ 60 ∧ Q (.str d.shown) H
theorem call_repr {X : Cx} (hK : SmK X.K) (hg : X.A.guards = some []) (hu : X.A.units + 64 < cLine) : CallR X (.builtin "repr") (rRepr X.K) := by
  intro pins s σ H xs us Q I r h
  obtain ⟨x, d, rfl, hd, hs, hz, hdep, q⟩ := h
  cases r with
  | cons rx rr =>
    cases rr
    rename_i u
    obtain ⟨as, hr, hn⟩ := Dx.reads I hK d x u hd rx
    cases hd with
    | non =>
      cases rx
      refine PySem.P.repr_of_none ?_
      exact ⟨.str "None", H, I.tok _, ⟨_, rfl⟩, by simpa only [PyData.shown] using q⟩
    | bl b =>
      cases rx
      refine PySem.P.repr_of_bool ?_
      exact ⟨.str (if b then "True" else "False"), H, I.tok _, ⟨_, rfl⟩, by simpa only [PyData.shown] using q⟩
    | int i =>
      obtain ⟨t, rfl⟩ := rx
      refine PySem.P.repr_of_int (by simpa [PyData.showable] using hs) ?_
      exact ⟨.str (toString i), H, I.tok _, ⟨_, rfl⟩, by simpa only [PyData.shown] using q⟩
    | str y =>
      obtain ⟨t, rfl⟩ := rx
      refine PySem.P.repr_of_str ?_ (by simpa only [PyData.shown] using hz)
      exact ⟨.str (reprText y), H, I.tok _, ⟨_, rfl⟩, by simpa only [PyData.shown] using q⟩
    | lst h1 h2 =>
      cases rx
      exact repr_of_reads' hr hs (fun _ => hn) hg (by omega) (fun _ _ e => e) (fun h' t tk k => ⟨.str _, H, I.kept (t' := tk) k, ⟨_, rfl⟩, q⟩) hz
    | tup h1 h2 =>
      cases rx
      exact repr_of_reads' hr hs (fun _ => hn) hg (by omega) (fun _ _ e => e) (fun h' t tk k => ⟨.str _, H, I.kept (t' := tk) k, ⟨_, rfl⟩, q⟩) hz
    | dct h1 h2 =>
      cases rx
      exact repr_of_reads' hr hs (fun _ => hn) hg (by omega) (fun _ _ e => e) (fun h' t tk k => ⟨.str _, H, I.kept (t' := tk) k, ⟨_, rfl⟩, q⟩) hz
end Wy

set_option Elab.async false
set_option linter.all false
set_option maxRecDepth 100000
set_option maxHeartbeats 4000000
/-! Wy, part G: short words; xs[i] op= e; defs that may ask repr. -/
namespace Wy
open PySem PySem.Spec L2

/-- a def of the text as it stands, under its name -/
structure Df (K : PySem.W.Frag) (mg : Str → Option Value) (x : Str) (st : Stmt) (f : Addr) (fd : FuncData) : Prop where
  fn : FunD K x x (defArgs st) (defBody st) (defScope st) [] [] f fd
  gl : mg x = some (.ref f)
/-- xs[i] of a list, read for xs[i] op= e -/
theorem get_list {X : Cx} : PGet X (fun x y H Q => ∃ p xs v, ∃ j : Nat, x = .ref p ∧ y = .int (j : Int) ∧ SqL X.K H p xs ∧ xs[j]? = some v ∧ (j : Int) < 2 ^ 63 ∧ Q v H) := by
  intro pins s σ H o i ov iv Q I ro ri h
  obtain ⟨p, xs, z, j, rfl, rfl, hq, hz, hj, q⟩ := h
  cases ro
  obtain ⟨t, rfl⟩ := ri
  obtain ⟨its, r, pl, _⟩ := I.list hq
  obtain ⟨u, eu, ru⟩ := r.get hz
  exact wpAny_getItem_list pl.isList (by omega) hj (by simpa using eu) ⟨z, H, I, ru, q⟩
/-- the heap without one address -/
def outA (H : Hp) (p : Addr) : Hp := fun b => if b = p then none else H b
theorem outA_ne {H : Hp} {p b : Addr} (h : b ≠ p) : outA H p b = H b := if_neg h
theorem outA_at {H : Hp} {p : Addr} : outA H p p = none := if_pos rfl
theorem outA_eq {H H' : Hp} {p : Addr} (k : ∀ b, b ≠ p → H' b = H b) : outA H' p = outA H p := by
  funext b
  by_cases e : b = p
  · rw [e, outA_at, outA_at]
  · rw [outA_ne e, outA_ne e, k b e]
theorem outA_sub {H : Hp} {p : Addr} : Same (outA H p) H := fun b o e => by
  by_cases h : b = p
  · rw [h, outA_at] at e
    cases e
  · rw [outA_ne h] at e
    exact e
theorem outA_same {H H' : Hp} {p : Addr} (k : ∀ b o, b ≠ p → H b = some o → H' b = some o) : Same (outA H p) (outA H' p) := fun b o e => by
  by_cases h : b = p
  · rw [h, outA_at] at e
    cases e
  · rw [outA_ne h] at e
    rw [outA_ne h]
    exact k b o h e
theorem same_new {H : Hp} {p : Addr} (h : H p = none) (o : HO) : Same H (upd H p o) := fun b u q => by
  rw [upd_ne (ne_of_none q h)]
  exact q
theorem small (n : Nat) (h : n ≤ 100000) : n ≤ sizeLine := Nat.le_trans h (by decide)

/-! ### a def that may ask repr: no repr runs around it -/
structure FnG (P : Program) (w : World) (K : PySem.W.Frag) (mg : Str → Option Value) (base : Heap) (CX : CXT) (k : Nat) (f : Addr) (fd : FuncData) (ps : List Str) (sp : Sp) : Prop where
  len : ∀ vs H Q E, sp vs H Q E → vs.length = ps.length
  run : ∀ (A : Around) (outer : List Env) (s : Shared) (H : Hp) (args : Args) (us : List Value) (vs : List V) (Q : VK) (E : XK), Room k A → A.guards = some [] → Env0 P w K mg base A outer s H → BindsTo s fd args (ps.zip us) → Vals vs us → sp vs H Q E →
    codeAny (model P w) A (.call (.ref f) args) (CR CX outer P w H s Q E) s
theorem FnG.ok {P : Program} {w : World} {K : PySem.W.Frag} {mg : Str → Option Value} {base : Heap} {CX : CXT} {qn : Str} {st : Stmt} {f : Addr} {fd : FuncData} {N ps : List Str} {k : Nat} {sp : Sp} (D : Df K mg qn st f fd) (S : FnScope N ps (defScope st))
    (len : ∀ vs H Q E, sp vs H Q E → vs.length = ps.length)
    (hbody : ∀ (cdv : Value) (A : Around) (outer : List Env) (s : Shared) (H : Hp) (vs : List V) (Q : VK) (E : XK), Room k (A.deeper (PyProof.Rows.envOfC qn (defScope st) s.heap.objs.size f cdv)) → A.guards = some [] → sp vs H Q E →
      ∃ t, PSs (cxOf CX P w K mg base N qn (defScope st) f cdv A outer s H E) (defBody st) t ∧ t { nx := fun _ H' => Q .non H', rt := Q } (start N vs) H) : FnG P w K mg base CX (k + 1) f fd ps sp := by
  obtain ⟨oc, od, dV, kV, doc, pm, an, cdv, ct, osl, rfl, lk, hcd, _, _⟩ := D.fn.ex
  refine ⟨len, fun A outer s H args us vs Q E hr hg e0 hb r hsp => ?_⟩
  have kb : ∀ b o, base.get? b = some o → s.heap.get? b = some o := fun b o e => (e0.bs b o e).1
  have KX : K.In s.heap := e0.mod.kin.keeps kb
  have lim : s.heap.NoLimit := e0.mod.nolimit.keeps kb
  refine codeAny_call_function hr.depth (KX _ _ lk) rfl S.co S.gen rfl (PySem.W.codeRec_of KX hcd) (hb _ _ _ _ ?_)
  refine wpAny_newFunctionEnv_cells S.kind (fun ⟨n, v⟩ hy => ?_) fun env he s1 x => ?_
  · rcases S.par n (List.of_mem_zip hy).1 with q | q
    · exact .inl q
    · exact .inr ⟨q, PySem.W.cellsFrom_some _ _ _ (.inl q)⟩
  subst he
  refine ⟨lim.keeps x.toInCall.keep, codeAny_func ?_⟩
  obtain ⟨t, ht, hq⟩ := hbody cdv A outer s H vs Q E (hr.deeper _) hg hsp
  have I : Inv (cxOf CX P w K mg base N qn (defScope st) f cdv A outer s H E) [] (start N vs) H s1 := inv_start S hr.hd e0 (len _ _ _ _ hsp) r x
  have fin : ∀ {σ' : St} {H' : Hp} {v : V} {u : Value} {s' : Shared}, Inv (cxOf CX P w K mg base N qn (defScope st) f cdv A outer s H E) [] σ' H' s' → RelV v u → Q v H' → CE outer P w H s Q u s' :=
    fun {σ' H' v u s'} J rv q => ⟨v, H', J.os, J.bare, J.base, J.hok, rv, q⟩
  refine wpAny_mono (ht.run [] s1 (start N vs) H _ I hq) (fun fl s' hs => ?_) fun e s' hs => hs
  cases fl with
  | ret u =>
    obtain ⟨v, σ', H', J, rv, q⟩ := hs
    exact fin J rv q
  | next =>
    obtain ⟨σ', H', J, q⟩ := hs
    exact fin (v := V.non) (u := Value.none) J rfl q
  | brk =>
    obtain ⟨_, _, _, q⟩ := hs
    exact False.elim q
  | cont =>
    obtain ⟨_, _, _, q⟩ := hs
    exact False.elim q
theorem FnG.of {P : Program} {w : World} {K : PySem.W.Frag} {mg : Str → Option Value} {base : Heap} {CX : CXT} {k : Nat} {f : Addr} {fd : FuncData} {ps : List Str} {sp : Sp} (F : FnOk P w K mg base CX k f fd ps sp) : FnG P w K mg base CX k f fd ps sp :=
  ⟨F.len, fun A outer s H args us vs Q E hr _ e0 hb r h => F.run A outer s H args us vs Q E hr e0 hb r h⟩
end Wy

set_option Elab.async false
set_option linter.all false
set_option maxRecDepth 100000
set_option maxHeartbeats 1000000
/-! Wy, part H: the end of a law whose def may ask repr. -/
namespace Wy
open PySem PySem.Spec L2 PyProof.Rows
/-- an abstract heap that tells the script alone (nothing, where the module holds it) -/
theorem script_heap {P : Program} {w : World} {K : PySem.W.Frag} {h : Heap} {a : Addr} {vs : List Value} {ns : List Int} (KX : K.In h) (ha : h.get? a = some { cls := .type "list", data := .seq vs.toArray }) (hi : IntsAre vs ns) (hl : ns.length ≤ sizeLine) :
    ∃ H : Hp, SqL K H a (ns.map V.int) ∧ HOk P w H h ∧ ∀ b u, H b = some u → b = a ∧ K.lookup a = none ∧ ∃ o xs, u = .frz o (.lst xs) := by
  have rv := vals_ints hi
  cases hk : K.lookup a with
  | some o =>
    have e := KX a o hk
    rw [ha] at e
    cases e
    exact ⟨fun _ => none, .inr ⟨_, vs.toArray, _, hk, rfl, rfl, rfl, by rw [List.size_toArray, hi.length]; exact hl, by simpa using rv⟩, fun b u z => (by cases (show (none : Option HO) = some u from z)), fun b u z => (by cases (show (none : Option HO) = some u from z))⟩
  | none =>
    have at_ : ∀ {b : Addr} {u : HO}, upd (fun _ => none) a (.frz { cls := .type "list", data := .seq vs.toArray } (.lst (ns.map V.int))) b = some u → b = a ∧ u = .frz { cls := .type "list", data := .seq vs.toArray } (.lst (ns.map V.int)) := fun {b u} z => by
      by_cases hb : b = a
      · rw [hb, upd_same] at z
        exact ⟨hb, (Option.some.inj z).symm⟩
      · rw [upd_ne hb] at z
        cases z
    refine ⟨upd (fun _ => none) a (.frz { cls := .type "list", data := .seq vs.toArray } (.lst (ns.map V.int))), .inl (.inr ⟨_, upd_same⟩), fun b u z => ?_, fun b u z => ⟨(at_ z).1, rfl, _, _, (at_ z).2⟩⟩
    obtain ⟨rfl, rfl⟩ := at_ z
    exact ⟨ha, by rw [List.length_map]; exact hl, vs, _, rv, ha⟩
/-- the law called by the script's owner: no repr runs there -/
theorem law_callG {P : Program} {w : World} {K : PySem.W.Frag} {mg mb : Str → Option Value} {k : Nat} {fa a : Addr} {fd : FuncData} {x : Str} {sp : Sp} {s₁ : Shared} {vs : List Value} {ns : List Int}
    (KX : K.In s₁.heap) (hns : s₁.heap.Ns mainGlobals mg) (hb : s₁.heap.Ns builtinsNs mb) (hbb : ∀ x : Str, x ≠ "__name__" → mb x = bootBuiltins x) (hlim : s₁.heap.NoLimit) (hg : s₁.gens = #[])
    (ha : s₁.heap.get? a = some { cls := .type "list", data := .seq vs.toArray }) (hi : IntsAre vs ns) (hl : ns.length ≤ sizeLine) (hr : Room k callerA)
    (F : ∀ base : Heap, K.In base → base.Ns mainGlobals mg → FnG P w K mg base CX0 k fa fd [x] sp) (hbind : ∀ (s : Shared) (u : Value), BindsTo s fd ⟨[u], []⟩ [(x, u)])
    (hsp : ∀ H : Hp, SqL K H a (ns.map V.int) → sp [.ref a] H (fun v _ => v = .bl true) fun _ _ _ => False) :
    codeAny (model P w) callerA (.call (.ref fa) ⟨[.ref a], []⟩) (fun r s' => r = .ok (.ret (.bool true)) ∧ OldK s₁.heap s'.heap ∧ s'.os = s₁.os ∧ AllBare s'.gens) s₁ := by
  obtain ⟨H, hS, hok, hA⟩ := script_heap (P := P) (w := w) KX ha hi hl
  -- what the heap holds beside the script is its base
  have free : ∀ {b : Addr} {o : Obj}, s₁.heap.get? b = some o → (b = a → K.lookup a = none → False) → H b = none := fun {b o} e n => by
    cases q : H b with
    | none => rfl
    | some u => exact (n (hA b u q).1 (hA b u q).2.1).elim
  have ns_ : ∀ {b : Addr} {m : Str → Option Value}, s₁.heap.Ns b m → (hidT s₁.heap H).Ns b m := fun {b m} ⟨o, es, ep, e, d, r⟩ => ⟨o, es, ep, hidT_get e (free e fun z _ => by
    rw [z, ha] at e
    cases e
    cases d), d, r⟩
  have Kb : K.In (hidT s₁.heap H) := fun b o e => hidT_get (KX b o e) (free (KX b o e) fun z n => by
    rw [z, n] at e
    cases e)
  have e0 : Env0 P w K mg (hidT s₁.heap H) callerA [] s₁ H :=
    ⟨rfl, ⟨Kb, ns_ hns, ⟨mb, ns_ hb, hbb⟩, let ⟨mc, h1, h2⟩ := hlim; ⟨mc, ns_ h1, h2⟩⟩, fun b o e => of_hidT e, Nat.le_of_eq (hidT_size _ _), trivial, fun _ h => (List.not_mem_nil h).elim, hok, .of_eq hg⟩
  refine codeAny_mono ((F _ Kb (ns_ hns)).run callerA [] s₁ H ⟨[.ref a], []⟩ [.ref a] [.ref a] _ _ hr rfl e0 (hbind s₁ (.ref a)) (.cons rfl .nil) (hsp H hS)) fun r s' h => ?_
  match r, h with
  | .error e, h => exact (show False from h).elim
  | .ok .next, h => exact (show False from h).elim
  | .ok .brk, h => exact (show False from h).elim
  | .ok .cont, h => exact (show False from h).elim
  | .ok (.ret u), ⟨v, H', os, bare, un, hok', rv, q⟩ =>
    obtain rfl : v = .bl true := q
    obtain rfl : u = Value.bool true := rv
    refine ⟨rfl, OldK.of_keep fun b o e => ?_, os, bare⟩
    cases q : H b with
    | none => exact un.keep b o e q (fun h => (List.not_mem_nil h).elim) (by simp)
    | some u =>
      obtain ⟨_, _, ob, xs, rfl⟩ := hA b u q
      have e1 := (hok b _ q).1
      rw [e] at e1
      cases e1
      exact (hok' b _ (un.frzs b _ _ q)).1
theorem walk_ofG {l : PySem.W.OpenLaw} {n k : Nat} {q : Program} {loose : List Str} {XP : (Str → Option Value) → Heap → Prop} {YP : World → Heap → Prop} {d : DefRec} {x : Str}
    (hn : l.most = some n) (hn2 : n ≤ sizeLine) (hdf : d.params.defaults = []) (hr : Room k callerA)
    (F : ∀ (w : World) (mg : Str → Option Value) (fa : Addr) (h : Heap), YP w h → h.Ns mainGlobals mg → mg d.name = some (.ref fa) →
      ∃ (K : PySem.W.Frag) (fd : FuncData) (sp : Sp), K.In h ∧ (∀ (s : Shared) (u : Value), BindsTo s fd ⟨[u], []⟩ [(x, u)]) ∧
        (∀ (H : Hp) (a : Addr) (ns : List Int), ns.length ≤ n → SqL K H a (ns.map V.int) → sp [.ref a] H (fun v _ => v = .bl true) fun _ _ _ => False) ∧
        ∀ base : Heap, K.In base → base.Ns mainGlobals mg → FnG l.prog w K mg base CX0 k fa fd [x] sp) :
    PySem.W.WalkO q loose XP YP l.row.toRowW d [] (fun f vs => PySem.call f vs) := by
  refine Att.attach_call hn hdf fun w s₀ s₁ mg mb fa o pm cd doc a vs ns G Y ho hd hcd hmg hobj hints hlen hg => ?_
  obtain ⟨K, fd, sp, KX, hb, hsp, hF⟩ := F w mg fa _ Y G.T.g hmg
  exact law_callG KX G.T.g G.T.b G.T.builtins G.T.nolimit hg hobj hints (Nat.le_trans hlen hn2) hr hF hb fun H hS => hsp H a ns hlen hS
end Wy

set_option Elab.async false
set_option linter.all false
set_option maxRecDepth 100000
set_option maxHeartbeats 4000000
namespace K01
open PySem PySem.Spec L2 Wy
def top (i : Nat) : Stmt := PySem.Challenge.pw_whytypes_k01_errors_and_what_they_keep.main.body.getD i (.Pass ⟨0, 0, 0, 0⟩)
abbrev sPurse : Stmt := top 26
abbrev sDraw : Stmt := top 27
abbrev sPick : Stmt := top 28
abbrev sShuf : Stmt := top 29
/-- a purse stands at p, at most n draws by its hash so far -/
def Purse (H : Hp) (p l : Addr) (n : Nat) : Prop := ∃ (cs : List Int) (i : Nat) (cur k seed : Int), H p = some (.lst [.ref l, .int (i : Int), .int cur, .int k, .int seed]) ∧ H l = some (.lst (cs.map V.int)) ∧ l ≠ p ∧
  (∀ c ∈ cs, 0 ≤ c) ∧ cs.length ≤ 63 ∧ i ≤ cs.length ∧ 0 ≤ cur ∧ 0 ≤ k ∧ k ≤ (n : Int) ∧ 0 ≤ seed ∧ seed < 2147483647
theorem Purse.set {H : Hp} {p l : Addr} {cs : List Int} {i : Nat} {cur k seed : Int} {n : Nat} {o : HO} (hl : H l = some (.lst (cs.map V.int))) (hne : l ≠ p) (h1 : ∀ c ∈ cs, 0 ≤ c) (h2 : cs.length ≤ 63) (hi : i ≤ cs.length) (h3 : 0 ≤ cur) (h4 : 0 ≤ k) (h5 : k ≤ (n : Int)) (h6 : 0 ≤ seed) (h7 : seed < 2147483647)
    (ho : o = .lst [.ref l, .int (i : Int), .int cur, .int k, .int seed]) : Purse (upd H p o) p l n := by
  subst ho
  exact ⟨cs, i, cur, k, seed, upd_same, by rw [upd_ne hne]; exact hl, hne, h1, h2, hi, h3, h4, h5, h6, h7⟩
theorem Purse.mono {H : Hp} {p l : Addr} {n m : Nat} (h : Purse H p l n) (le : n ≤ m) : Purse H p l m := by
  obtain ⟨cs, i, cur, k, seed, a1, a2, a3, a4, a5, a6, a7, a8, a9, b1, b2⟩ := h
  exact ⟨cs, i, cur, k, seed, a1, a2, a3, a4, a5, a6, a7, a8, by omega, b1, b2⟩
/-- the purse is as it was where its two lists are -/
theorem Purse.ex {H H' : Hp} {p l : Addr} {n : Nat} (h : Purse H p l n) (k1 : ∀ o, H p = some o → H' p = some o) (k2 : ∀ o, H l = some o → H' l = some o) : Purse H' p l n := by
  obtain ⟨cs, i, cur, k, seed, a1, a2, r⟩ := h
  exact ⟨cs, i, cur, k, seed, k1 _ a1, k2 _ a2, r⟩
theorem Purse.at_ {H : Hp} {p l : Addr} {n : Nat} (h : Purse H p l n) : (∃ o, H p = some o) ∧ (∃ o, H l = some o) ∧ l ≠ p := by
  obtain ⟨cs, i, cur, k, seed, a1, a2, a3, _⟩ := h
  exact ⟨⟨_, a1⟩, ⟨_, a2⟩, a3⟩
def spDraw : Sp := fun vs H Q _ => ∃ (p lc : Addr) (m : Int) (n : Nat), vs = [.ref p, .int m] ∧ Purse H p lc n ∧ n ≤ 1000000 ∧ 0 < m ∧ m < 1000000 ∧
  ∀ (r : Int) (H' : Hp), 0 ≤ r → r < m → Purse H' p lc (n + 1) → (∀ b, b ≠ p → H' b = H b) → Q (.int r) H'
structure Txt0 (mg : Str → Option Value) : Prop where
  n_len : mg "len" = none
  n_int : mg "int" = none
  n_list : mg "list" = none
  n_range : mg "range" = none
  n_tuple : mg "tuple" = none
  n_isinstance : mg "isinstance" = none
  n_repr : mg "repr" = none
  n_ValueError : mg "ValueError" = none
section
variable {P : Program} {w : World} {K : PySem.W.Frag} {mg : Str → Option Value} {base : Heap}
theorem scDraw : FnScope ["purse", "many", "told", "stirred"] ["purse", "many"] (defScope sDraw) := ⟨rfl, rfl, rfl, by decide +kernel, rfl, by decide +kernel, by decide +kernel⟩
theorem ok_draw {f : Addr} {fd : FuncData} (D : Df K mg "_law_draw" sDraw f fd) (T : Txt0 mg) : FnOk P w K mg base CX0 1 f fd ["purse", "many"] spDraw := by
  have SC := scDraw
  refine D.fn.ok scDraw (fun vs H Q E h => ?_) (fun cdv A outer s H vs Q E hr h => ?_)
  · obtain ⟨p, lc, m, n, rfl, _⟩ := h
    rfl
  obtain ⟨p, l, m, n, rfl, hP, hn, hm0, hm, q⟩ := h
  refine ⟨_, PSs.nox (Evl.pss_cut (ps_if (PW.pt (pw_and (pt_cmpR op_lt (pe_ix ix_list (pv 0) pe_int (fun _ _ => rfl)) (pv 1) (nomark _)) (pw_and1 (pt_cmpR op_lt (pe_ix ix_list (pv 0) pe_int (fun _ _ => rfl)) (pe_callB call_len (by rfl) T.n_len (by decide +kernel) (pa_cons (pe_ix ix_list (pv 0) pe_int (fun _ _ => rfl)) pa_nil)) (nomark _))))) (pss_cons (ps_asg (pe_ix ix_list (pe_ix ix_list (pv 0) pe_int (fun _ _ => rfl)) (pe_ix ix_list (pv 0) pe_int (fun _ _ => rfl)) (fun _ _ => rfl)) (pg_sub (pv 0) pe_int set_list))
    (pss_one (ps_augS (pv 0) pe_int get_list pe_int ip_add set_list))) pss_nil)
    (pss_cons (ps_if (pt_cmpR op_ge (pe_ix ix_list (pv 0) pe_int (fun _ _ => rfl)) (pv 1) (nomark _)) (pss_cons (ps_set (i := 2) SC.nd rfl (Or.inl rfl) (pe_op op_mod (pe_callTy call_int1 (by rfl) T.n_int (by decide +kernel) (pa_cons (pe_ix ix_list (pv 0) pe_int (fun _ _ => rfl)) pa_nil)) (pv 1)))
    (pss_cons (ps_asg (pe_op op_fdiv (pe_ix ix_list (pv 0) pe_int (fun _ _ => rfl)) (pv 1)) (pg_sub (pv 0) pe_int set_list))
    (pss_one (ps_ret (pv 2))))) pss_nil)
    (pss_cons (ps_augS (pv 0) pe_int get_list pe_int ip_add set_list)
    (pss_cons (ps_set (i := 3) SC.nd rfl (Or.inl rfl) (pe_op op_mod (pe_callTy call_int1 (by rfl) T.n_int (by decide +kernel) (pa_cons (pe_op op_mul (pe_op op_add (pe_op op_mul (pe_ix ix_list (pv 0) pe_int (fun _ _ => rfl)) (pe_ix ix_list (pv 0) pe_int (fun _ _ => rfl))) (pe_ix ix_list (pv 0) pe_int (fun _ _ => rfl))) pe_int) pa_nil)) pe_int))
    (pss_one (ps_ret (pe_op op_mod (pe_callTy call_int1 (by rfl) T.n_int (by decide +kernel) (pa_cons (pe_op op_mod (pe_callTy call_int1 (by rfl) T.n_int (by decide +kernel) (pa_cons (pe_op op_mul (pv 3) (pv 3)) pa_nil)) pe_int) pa_nil)) (pv 1)))))))), ?_⟩
  -- the purse's list taken on, perhaps
  refine ⟨fun σ' H' => σ' = start ["purse", "many", "told", "stirred"] [.ref p, .int m] ∧ Purse H' p l n ∧ ∀ b, b ≠ p → H' b = H b, ?_, ?_⟩
  · obtain ⟨cs, i, cur, k, seed, hp, hl, hne, h1, h2, hi, h3, h4, h5, h6, h7⟩ := hP
    have keep : Purse H p l n := ⟨cs, i, cur, k, seed, hp, hl, hne, h1, h2, hi, h3, h4, h5, h6, h7⟩
    refine ⟨_, rfl, p, _, 2, _, rfl, rfl, SqL.of hp, at_of (j := 2) rfl rfl, _, rfl, _, _, rfl, rfl, _, rfl, ?_⟩
    refine ite2 (fun c => ?_) (fun c => ?_)
    · refine ⟨_, rfl, p, _, 1, _, rfl, rfl, SqL.of hp, at_of (j := 1) rfl rfl, _, rfl, p, _, 0, _, rfl, rfl, SqL.of hp, at_of (j := 0) rfl rfl, _, _, rfl, .inl ⟨_, SqL.of hl, rfl⟩, _, _, rfl, rfl, _, rfl, ?_⟩
      refine ite2 (fun c2 => ?_) (fun c2 => ?_)
      · have hlt : i < cs.length := by
          have z := of_decide_eq_true c2
          rw [List.length_map] at z
          omega
        have hg : (cs.map V.int)[i]? = some (.int cs[i]) := by rw [List.getElem?_map, List.getElem?_eq_getElem hlt]; rfl
        refine ⟨_, rfl, p, _, 0, _, rfl, rfl, SqL.of hp, at_of (j := 0) rfl rfl, _, rfl, p, _, 1, _, rfl, rfl, SqL.of hp, at_of (j := 1) rfl rfl, l, _, _, _, rfl, rfl, SqL.of hl, at_of (j := i) rfl hg, _, rfl, p, _, 2, 2, rfl, rfl, hp, rfl, ?_⟩
        have hp2 : upd H p (.lst [.ref l, .int (i : Int), .int cs[i], .int k, .int seed]) p = some (.lst [.ref l, .int (i : Int), .int cs[i], .int k, .int seed]) := upd_same
        refine ⟨_, rfl, p, _, _, 1, rfl, rfl, SqL.of hp2, rfl, by decide, _, _, rfl, rfl, p, _, 1, 1, rfl, rfl, hp2, rfl, ?_⟩
        refine ⟨rfl, ?_, fun b hb => by rw [upd_ne hb, upd_ne hb]⟩
        rw [upd_upd]
        exact Purse.set (i := i + 1) hl hne h1 h2 (by omega) (h1 _ (List.getElem_mem hlt)) h4 h5 h6 h7 rfl
      · exact ⟨rfl, keep, fun _ _ => rfl⟩
    · exact ⟨rfl, keep, fun _ _ => rfl⟩
  · rintro σ' H1 ⟨rfl, hP1, hk⟩
    obtain ⟨cs, i, cur, k, seed, hp, hl, hne, h1, h2, hi, h3, h4, h5, h6, h7⟩ := hP1
    refine ⟨_, rfl, p, _, 2, _, rfl, rfl, SqL.of hp, at_of (j := 2) rfl rfl, _, rfl, _, _, rfl, rfl, _, rfl, ?_⟩
    refine ite2 (fun c => ?_) (fun c => ?_)
    · refine ⟨_, rfl, p, _, 2, _, rfl, rfl, SqL.of hp, at_of (j := 2) rfl rfl, .inl ⟨_, rfl, _, rfl, _, _, rfl, rfl, hm0, ?_⟩⟩
      refine ⟨_, rfl, p, _, 2, _, rfl, rfl, SqL.of hp, at_of (j := 2) rfl rfl, _, rfl, _, _, rfl, rfl, ⟨hm0, by omega⟩, _, rfl, p, _, 2, 2, rfl, rfl, hp, rfl, _, rfl, ?_⟩
      refine q _ _ (Int.emod_nonneg _ (by omega)) (Int.emod_lt_of_pos _ hm0) ?_ (fun b hb => by rw [upd_ne hb]; exact hk b hb)
      exact Purse.set (i := i) hl hne h1 h2 hi (Int.ediv_nonneg h3 (by omega)) h4 (by omega) h6 h7 rfl
    · refine ⟨_, rfl, p, _, _, 3, rfl, rfl, SqL.of hp, rfl, by decide, _, _, rfl, rfl, p, _, 3, 3, rfl, rfl, hp, rfl, ?_⟩
      have hp2 : upd H1 p (.lst [.ref l, .int (i : Int), .int cur, .int (k + 1), .int seed]) p = some (.lst [.ref l, .int (i : Int), .int cur, .int (k + 1), .int seed]) := upd_same
      have b1 : k + 1 < 2 ^ 64 := by omega
      refine ⟨_, rfl, p, _, 3, _, rfl, rfl, SqL.of hp2, at_of (j := 3) rfl rfl, _, rfl, p, _, 3, _, rfl, rfl, SqL.of hp2, at_of (j := 3) rfl rfl, _, _, rfl, rfl, .inl ⟨by omega, b1⟩, _, rfl, p, _, 4, _, rfl, rfl, SqL.of hp2, at_of (j := 4) rfl rfl, _, _, rfl, rfl, _, _, rfl, rfl, .inr ⟨by decide, by decide⟩, .inl ⟨_, rfl, _, _, rfl, rfl, (by show (0 : Int) < 2147483629; decide), ?_⟩⟩
      have s0 := Int.emod_nonneg (((k + 1) * (k + 1) + seed) * 48271) (show (2147483629 : Int) ≠ 0 by decide)
      have s1 := Int.emod_lt_of_pos (((k + 1) * (k + 1) + seed) * 48271) (show (0 : Int) < 2147483629 by decide)
      refine ⟨_, rfl, _, rfl, _, _, rfl, rfl, .inl ⟨by omega, by omega⟩, .inl ⟨_, rfl, _, _, rfl, rfl, (by show (0 : Int) < 2147483587; decide), .inl ⟨_, rfl, _, rfl, _, _, rfl, rfl, hm0, ?_⟩⟩⟩
      refine q _ _ (Int.emod_nonneg _ (by omega)) (Int.emod_lt_of_pos _ hm0) ?_ (fun b hb => by rw [upd_ne hb]; exact hk b hb)
      exact Purse.set (i := i) hl hne h1 h2 hi h3 (by show (0 : Int) ≤ k + 1; omega) (by show k + 1 ≤ ((n + 1 : Nat) : Int); omega) h6 h7 rfl
theorem scPick : FnScope ["purse", "things"] ["purse", "things"] (defScope sPick) := ⟨rfl, rfl, rfl, by decide +kernel, rfl, by decide +kernel, by decide +kernel⟩
def spPick (K : PySem.W.Frag) : Sp := fun vs H Q _ => ∃ (p lc t : Addr) (xs : List V) (n : Nat), vs = [.ref p, .ref t] ∧ Purse H p lc n ∧ n ≤ 1000000 ∧ SqL K H t xs ∧ t ≠ p ∧ xs ≠ [] ∧ xs.length < 1000000 ∧
  ∀ (x : V) (H' : Hp), x ∈ xs → Purse H' p lc (n + 1) → (∀ b, b ≠ p → H' b = H b) → Q x H'
theorem sqL_ne {H H' : Hp} {p t : Addr} {xs : List V} (h : SqL K H t xs) (hne : t ≠ p) (k : ∀ b, b ≠ p → H' b = H b) : SqL K H' t xs := by
  rcases h with (h | ⟨o, h⟩) | h
  · exact .inl (.inl ((k t hne).trans h))
  · exact .inl (.inr ⟨o, (k t hne).trans h⟩)
  · exact .inr h
theorem sqL_k {H H' : Hp} {p t : Addr} {xs : List V} (h : SqL K H t xs) (hne : t ≠ p) (k : ∀ b o, b ≠ p → H b = some o → H' b = some o) : SqL K H' t xs := by
  rcases h with (h | ⟨o, h⟩) | h
  · exact .inl (.inl (k t _ hne h))
  · exact .inl (.inr ⟨o, k t _ hne h⟩)
  · exact .inr h
theorem ok_pick {f f_law_draw : Addr} {fd fd_law_draw : FuncData} (D : Df K mg "_law_pick" sPick f fd) (D_law_draw : Df K mg "_law_draw" sDraw f_law_draw fd_law_draw) (T : Txt0 mg) : FnOk P w K mg base CX0 2 f fd ["purse", "things"] (spPick K) := by
  have SC := scPick
  have G_law_draw : FnOk P w K mg base CX0 1 f_law_draw fd_law_draw ["purse", "many"] spDraw := ok_draw D_law_draw T
  have B_law_draw : Binds K fd_law_draw ["purse", "many"] [] := D_law_draw.fn.bindsN fun _ _ _ _ _ _ us hl => match us, hl with | [_, _], _ => rfl
  refine D.fn.ok scPick (fun vs H Q E h => ?_) (fun cdv A outer s H vs Q E hr h => ?_)
  · obtain ⟨p, lc, t, xs, n, rfl, _⟩ := h
    rfl
  obtain ⟨p, lc, t, xs, n, rfl, hP, hn, hS, hne, hx, hlen, q⟩ := h
  refine ⟨_, PSs.nox (pss_one (ps_ret (pe_ix ix_list (pv 1) (pe_call G_law_draw (hr.mono (by decide)) rfl D_law_draw.gl D_law_draw.fn.kp B_law_draw .nil pass0 (pa_cons (pv 0) (pa_cons (pe_callB call_len (by rfl) T.n_len (by decide +kernel) (pa_cons (pv 1) pa_nil)) pa_nil))) (fun _ _ => rfl)))), ?_⟩
  have hpos : 0 < xs.length := by cases xs with
    | nil => exact absurd rfl hx
    | cons _ _ => exact Nat.succ_pos _
  refine ⟨_, rfl, _, rfl, _, rfl, _, _, rfl, .inl ⟨_, hS, rfl⟩, p, lc, _, n, rfl, hP, hn, by omega, by omega, fun r H' hr0 hr1 hP' hk => ?_⟩
  have hlt : r.toNat < xs.length := by omega
  exact ⟨t, xs, r, xs[r.toNat], rfl, rfl, sqL_ne hS hne hk, at_of (j := r.toNat) (by omega) (List.getElem?_eq_getElem hlt), q _ H' (List.getElem_mem hlt) hP' hk⟩
theorem scShuf : FnScope ["purse", "things", "left", "found", "thing"] ["purse", "things"] (defScope sShuf) := ⟨rfl, rfl, rfl, by decide +kernel, rfl, by decide +kernel, by decide +kernel⟩
def spShuf (K : PySem.W.Frag) : Sp := fun vs H Q _ => ∃ (p lc t : Addr) (xs : List V) (n : Nat), vs = [.ref p, .ref t] ∧ Purse H p lc n ∧ n + xs.length ≤ 1000000 ∧ SqL K H t xs ∧ t ≠ p ∧ xs.length < 100000 ∧
  ∀ (ys : List V) (r : Addr) (H' : Hp), ys.Perm xs → H r = none → H' r = some (.lst ys) → Purse H' p lc (n + xs.length) → (∀ b o, b ≠ p → H b = some o → H' b = some o) → Q (.ref r) H'
theorem perm_erase : ∀ {xs : List V} {k : Nat} {y : V}, xs[k]? = some y → (y :: xs.eraseIdx k).Perm xs
  | [], _, _, h => by simp at h
  | x :: xs, 0, y, h => by
    simp at h
    subst h
    exact List.Perm.refl _
  | x :: xs, k + 1, y, h => by
    have h' : xs[k]? = some y := by simpa using h
    show (y :: x :: xs.eraseIdx k).Perm (x :: xs)
    exact (List.Perm.swap x y _).trans (List.Perm.cons x (perm_erase h'))
theorem ok_shuf {f f_law_draw : Addr} {fd fd_law_draw : FuncData} (D : Df K mg "_law_shuffled" sShuf f fd) (D_law_draw : Df K mg "_law_draw" sDraw f_law_draw fd_law_draw) (T : Txt0 mg) : FnOk P w K mg base CX0 2 f fd ["purse", "things"] (spShuf K) := by
  have SC := scShuf
  have G_law_draw : FnOk P w K mg base CX0 1 f_law_draw fd_law_draw ["purse", "many"] spDraw := ok_draw D_law_draw T
  have B_law_draw : Binds K fd_law_draw ["purse", "many"] [] := D_law_draw.fn.bindsN fun _ _ _ _ _ _ us hl => match us, hl with | [_, _], _ => rfl
  refine D.fn.ok scShuf (fun vs H Q E h => ?_) (fun cdv A outer s H vs Q E hr h => ?_)
  · obtain ⟨p, lc, t, xs, n, rfl, _⟩ := h
    rfl
  obtain ⟨p, lc, t, xs, n, rfl, hP, hn, hS, hne, hlen, q⟩ := h
  refine ⟨_, PSs.nox (pss_cons (ps_par (i := 2) (j := 3) (by rfl) SC.nd rfl rfl (by decide) rfl rfl (pa_cons (pe_callTy call_list_of (by rfl) T.n_list (by decide +kernel) (pa_cons (pv 1) pa_nil)) (pa_cons (pe_lst pa_nil) pa_nil)) (by rfl))
    (pss_cons (ps_for PassesOwn.never rfl (pi_list (pv 1)) (pg_name (i := 4) SC.nd rfl (Or.inl rfl)) (pss_one (ps_expr (pe_bm PySem.F.plainAttrs_list PySem.F.slot_list_append PySem.F.type_list_append mt_append (pv 3) (pa_cons (pe_bm PySem.F.plainAttrs_list PySem.F.slot_list_pop PySem.F.type_list_pop mt_popAt (pv 2) (pa_cons (pe_call G_law_draw (hr.mono (by decide)) rfl D_law_draw.gl D_law_draw.fn.kp B_law_draw .nil pass0 (pa_cons (pv 0) (pa_cons (pe_callB call_len (by rfl) T.n_len (by decide +kernel) (pa_cons (pv 2) pa_nil)) pa_nil))) pa_nil)) pa_nil)))))
    (pss_one (ps_ret (pv 3))))), ?_⟩
  refine ⟨_, rfl, _, _, rfl, .inl hS, fun l hl => ⟨(by show 0 ≤ sizeLine; decide), fun g hg => ?_⟩⟩
  obtain ⟨⟨op, hpo⟩, ⟨oc, hco⟩, hcp⟩ := hP.at_
  have ncl : lc ≠ l := ne_of_none hco hl
  have npl : p ≠ l := ne_of_none hpo hl
  have s1 : Same H (upd H l (.lst xs)) := same_new hl _
  have npg : p ≠ g := ne_of_none (s1 _ _ hpo) hg
  have nlg : l ≠ g := ne_of_none upd_same hg
  have ncg : lc ≠ g := ne_of_none (s1 _ _ hco) hg
  have s2 : Same H (upd (upd H l (.lst xs)) g (.lst [])) := s1.trans (same_new hg _)
  have hg0 : H g = none := s1.free hg
  refine ⟨_, _, rfl, ?_⟩
  -- the loop: what is left, what is found
  refine ⟨_, rfl, t, rfl, ⟨xs, s2.seq hS⟩, for_list (xs := xs) (fun i σ H' => ∃ ls ds, (∃ th, σ = [some (.ref p), some (.ref t), some (.ref l), some (.ref g), th]) ∧ H' l = some (.lst ls) ∧ H' g = some (.lst ds) ∧ (ds ++ ls).Perm xs ∧ ds.length = i ∧ Purse H' p lc (n + i) ∧ (∀ b o, b ≠ p → H b = some o → H' b = some o)) ?_ ?_ ?_ ?_⟩
  · refine ⟨xs, [], ⟨_, rfl⟩, ?_, upd_same, List.Perm.refl _, rfl, hP.ex (fun o e => s2 _ _ e) (fun o e => s2 _ _ e), fun b o _ e => s2 b o e⟩
    rw [upd_ne nlg]
    exact upd_same
  · rintro i σ H' _ ⟨ls, ds, _, _, _, _, _, _, z⟩
    exact sqL_k hS hne z
  · rintro i x σ H' hi ⟨ls, ds, ⟨th, rfl⟩, hl', hg', hperm, hd, hP', hk⟩
    have hix := (List.getElem?_eq_some_iff.mp hi).1
    have hlen2 : ds.length + ls.length = xs.length := by
      have z := hperm.length_eq
      rw [List.length_append] at z
      exact z
    refine ⟨_, rfl, .inl ⟨rfl, _, SqL.of hg'⟩, _, rfl, .inl ⟨rfl, _, SqL.of hl'⟩, _, rfl, _, rfl, _, _, rfl, .inl ⟨_, SqL.of hl', rfl⟩, p, lc, _, n + i, rfl, hP', by omega, by omega, by omega, fun r H2 hr0 hr1 hP2 hk2 => ?_⟩
    have hl2 : H2 l = some (.lst ls) := (hk2 l npl.symm).trans hl'
    have hg2 : H2 g = some (.lst ds) := (hk2 g npg.symm).trans hg'
    have hlt : r.toNat < ls.length := by omega
    have hsz : (2 : Int) ^ 63 = 9223372036854775808 := by decide
    refine ⟨l, ls, r, r.toNat, ls[r.toNat], rfl, rfl, hl2, by omega, by omega, seqIndex_of hr0 (by omega), List.getElem?_eq_getElem hlt, ?_⟩
    have hg3 : upd H2 l (.lst (ls.eraseIdx r.toNat)) g = some (.lst ds) := by
      rw [upd_ne nlg.symm]
      exact hg2
    refine ⟨g, ds, ls[r.toNat], rfl, rfl, hg3, (by show ds.length < sizeLine; have : 100000 < sizeLine := by decide
                                                   omega), ?_⟩
    refine ⟨ls.eraseIdx r.toNat, ds ++ [ls[r.toNat]], ⟨_, rfl⟩, ?_, upd_same, ?_, ?_, ?_, ?_⟩
    · rw [upd_ne nlg]
      exact upd_same
    · refine List.Perm.trans ?_ hperm
      rw [List.append_assoc]
      exact List.Perm.append_left ds (perm_erase (List.getElem?_eq_getElem hlt))
    · rw [List.length_append, hd]
      rfl
    · refine hP2.ex (fun o e => ?_) fun o e => ?_
      · rw [upd_ne npg, upd_ne npl]
        exact e
      · rw [upd_ne ncg, upd_ne ncl]
        exact e
    · intro b o hb e
      rw [upd_ne (ne_of_none e hg0), upd_ne (ne_of_none e hl), hk2 b hb]
      exact hk b o hb e
  · rintro σ H' ⟨ls, ds, ⟨th, rfl⟩, hl', hg', hperm, hd, hP', hk⟩
    have hl0 : ls = [] := by
      have z := hperm.length_eq
      rw [List.length_append] at z
      exact List.eq_nil_of_length_eq_zero (by omega)
    subst hl0
    rw [List.append_nil] at hperm
    exact ⟨_, rfl, q ds g H' hperm hg0 hg' hP' hk⟩
/-! ### the purse made -/
theorem cut63 {xs : List V} (h : xs.length ≤ 63) : cutV xs none (some 63) = xs := by
  unfold cutV
  have e1 : HT.sIx xs.length 0 none = 0 := rfl
  have e2 : HT.sIx xs.length xs.length (some 63) = xs.length := by
    show HT.sIx _ _ (some ((63 : Nat) : Int)) = _
    rw [HT.sIx_nat]
    exact Nat.min_eq_right h
  rw [e1, e2, List.drop_zero, Nat.sub_zero, List.take_length]
theorem scPurse : FnScope ["script", "seed", "cell"] ["script"] (defScope sPurse) := ⟨rfl, rfl, rfl, by decide +kernel, rfl, by decide +kernel, by decide +kernel⟩
def spPurse (K : PySem.W.Frag) : Sp := fun vs H Q _ => ∃ (a : Addr) (ns : List Int), vs = [.ref a] ∧ SqL K H a (ns.map V.int) ∧ ns.length ≤ 63 ∧ ∀ (p lc : Addr) (H' : Hp), H p = none → H lc = none → Purse H' p lc 0 → Same H H' → Q (.ref p) H'
theorem ok_purse {f : Addr} {fd : FuncData} (D : Df K mg "_law_purse" sPurse f fd) (T : Txt0 mg) : FnOk P w K mg base CX0 1 f fd ["script"] (spPurse K) := by
  have SC := scPurse
  refine D.fn.ok scPurse (fun vs H Q E h => ?_) (fun cdv A outer s H vs Q E hr h => ?_)
  · obtain ⟨a, ns, rfl, _⟩ := h
    rfl
  obtain ⟨a, ns, rfl, hS, hlen, q⟩ := h
  refine ⟨_, PSs.nox (pss_cons (ps_set (i := 1) SC.nd rfl (Or.inl rfl) pe_int)
    (pss_cons (ps_for PassesOwn.never rfl (pi_list (pe_slice sl_list (pv 0) po_none (po_some pe_int))) (pg_name (i := 2) SC.nd rfl (Or.inl rfl)) (pss_one (ps_set (i := 1) SC.nd rfl (Or.inl rfl) (pe_op op_mod (pe_callTy call_int1 (by rfl) T.n_int (by decide +kernel) (pa_cons (pe_op op_add (pe_op op_mul (pv 1) pe_int) (pv 2)) pa_nil)) pe_int))))
    (pss_one (ps_ret (pe_lst (pa_cons (pe_lc (own := [("cell", 2)]) (g := (gName 2)) (by rfl) SC.nd (pi_list (pe_slice sl_list (pv 0) po_none (po_some pe_int))) (blkOk_by (own := [("cell", 2)]) (N := ["script", "seed", "cell"]) (sc := defScope sPurse) (by decide +kernel)) (fun _ _ _ _ _ => (pg_name (i := 2) SC.nd rfl (Or.inl rfl))) (fun _ _ _ _ _ => pts_one (pt_cmpR op_ge (pv 2) (pe_op op_pow pe_int pe_int) (nomark _))) (fun _ _ _ _ _ => (pv 2))) (pa_cons pe_int (pa_cons pe_int (pa_cons pe_int (pa_cons (pv 1) pa_nil)))))))))), ?_⟩
  have hml : (ns.map V.int).length ≤ 63 := by rw [List.length_map]; exact hlen
  refine ⟨_, rfl, 63, rfl, a, _, rfl, hS, fun l hl => ?_⟩
  rw [cut63 hml]
  have s1 : Same H (upd H l (.lst (ns.map V.int))) := same_new hl _
  refine ⟨l, rfl, ⟨_, SqL.of upd_same⟩, for_list (xs := ns.map V.int) (fun i σ H' => ∃ sd : Int, (∃ c, σ = [some (.ref a), some (.int sd), c]) ∧ 0 ≤ sd ∧ sd < 2147483647 ∧ H' = upd H l (.lst (ns.map V.int))) ⟨7, ⟨_, rfl⟩, by decide, by decide, rfl⟩ ?_ ?_ ?_⟩
  · rintro i σ H' _ ⟨sd, _, _, _, rfl⟩
    exact SqL.of upd_same
  · rintro i x σ H' hi ⟨sd, ⟨c, rfl⟩, h0, h1, rfl⟩
    rw [List.getElem?_map] at hi
    obtain ⟨n, hn, rfl⟩ := Option.map_eq_some_iff.mp hi
    refine ⟨_, rfl, _, _, rfl, rfl, .inl ⟨by omega, by omega⟩, _, rfl, _, _, rfl, rfl, .inl ⟨_, rfl, _, _, rfl, rfl, (by show (0 : Int) < 2147483647; decide), ?_⟩⟩
    exact ⟨_, ⟨_, rfl⟩, Int.emod_nonneg _ (by decide), Int.emod_lt_of_pos _ (by decide), rfl⟩
  · rintro σ H' ⟨sd, ⟨c, rfl⟩, h0, h1, rfl⟩
    refine ⟨_, rfl, 63, rfl, a, _, rfl, s1.seq hS, fun l2 hl2 => ?_⟩
    rw [cut63 hml]
    have s2 := s1.trans (same_new hl2 (.lst (ns.map V.int)))
    refine ⟨l2, rfl, ⟨_, SqL.of upd_same⟩, fun d hd => ?_⟩
    have s3 := s2.trans (same_new hd (.lst []))
    have nd2 : d ≠ l2 := fun e => by
      rw [e, upd_same] at hd
      cases hd
    refine lc_list (xs := ns.map V.int) (fun i H' => Same H H' ∧ H' l2 = some (.lst (ns.map V.int)) ∧ ∃ cs : List Int, H' d = some (.lst (cs.map V.int)) ∧ cs.length ≤ i ∧ ∀ c ∈ cs, 0 ≤ c) ⟨s3, ?_, [], upd_same, Nat.le_refl _, fun c hc => by cases hc⟩ ?_ ?_ ?_
    · rw [upd_ne nd2.symm]
      exact upd_same
    · rintro i H' _ ⟨_, z, _⟩
      exact SqL.of z
    · rintro i x H' hi ⟨k1, k2, cs, k3, k4, k5⟩
      have hlt := (List.getElem?_eq_some_iff.mp hi).1
      rw [List.getElem?_map] at hi
      obtain ⟨n, hn, rfl⟩ := Option.map_eq_some_iff.mp hi
      refine ⟨rfl, _, rfl, _, _, rfl, rfl, ⟨by decide, by decide, by decide⟩, _, _, rfl, rfl, _, rfl, ?_⟩
      refine ite2 (fun c => ?_) (fun c => ?_)
      · refine ⟨_, rfl, _, k3, ?_, ?_⟩
        · rw [List.length_map]
          have : 100 < sizeLine := by decide
          omega
        · refine ⟨fun b o e => ?_, ?_, cs ++ [n], ?_, ?_, ?_⟩
          · rw [upd_ne (ne_of_none e (s2.free hd))]
            exact k1 b o e
          · rw [upd_ne nd2.symm]
            exact k2
          · rw [upd_same, List.map_append]
            rfl
          · rw [List.length_append]
            exact Nat.succ_le_succ k4
          · intro c' hc'
            rcases List.mem_append.mp hc' with hc' | hc'
            · exact k5 c' hc'
            · obtain rfl := List.mem_singleton.mp hc'
              have z := of_decide_eq_true c
              have z2 : ((10 : Int) ^ (18 : Int).toNat) = 1000000000000000000 := by decide
              omega
      · exact ⟨k1, k2, cs, k3, Nat.le_succ_of_le k4, k5⟩
    · rintro H' ⟨k1, k2, cs, k3, k4, k5⟩
      refine ⟨_, rfl, (by show 5 ≤ sizeLine; decide), fun p hp => ?_⟩
      have hpd : d ≠ p := ne_of_none k3 hp
      refine q p d _ (k1.free hp) (s2.free hd) ?_ (k1.trans (same_new hp _))
      rw [List.length_map] at k4
      exact ⟨cs, 0, 0, 0, sd, upd_same, by rw [upd_ne hpd]; exact k3, hpd, k5, by omega, Nat.zero_le _, by decide, by decide, by decide, h0, h1⟩
end
end K01

set_option Elab.async false
set_option linter.all false
set_option maxRecDepth 100000
set_option maxHeartbeats 400000
namespace K01
open PySem PySem.Spec L2 Wy
abbrev sWords : Stmt := top 30
abbrev sMade : Stmt := top 31
abbrev sThing : Stmt := top 32
abbrev sLaw : Stmt := top 33
def nms : List Str := ["InvalidChoices", "InvalidProgram", "InvalidNode", "InvalidPattern", "InvalidPatterns", "InvalidValue", "InvalidType", "InvalidTypes", "InvalidEquations", "InvalidPlace", "InvalidLot", "InvalidNumber", "InvalidName", "InvalidList", "InvalidPaper", "InvalidChange", "InvalidBook", "InvalidLine", "Unlike", "TooMany", "InvalidText", "NothingToUndo", "NothingToRedo"]
/-- the classes: c i made by the def fI (the first), fT (texts), fN and fM (the last two), w their common base -/
structure Cs (K : PySem.W.Frag) (mg : Str → Option Value) (c : Nat → Addr) (w : Addr) : Prop where
  g : ∀ i x, nms[i]? = some x → mg x = some (.ref (c i))
  gw : mg "WhyError" = some (.ref w)
  kit : ∀ i j, i < 23 → j < 23 → PySem.W.kitOne K (.ref (c i)) (.ref (c j)) = some (i == j)
  kitw : ∀ i, i < 23 → PySem.W.kitOne K (.ref (c i)) (.ref w) = some true
  kitv : ∀ i, i < 23 → PySem.W.kitOne K (.ref (c i)) (.type "ValueError") = some true
  exc : ∀ i, i < 23 → ExcC K (c i)
  xf : ∀ i, i < 23 → XfC K (c i)
  val : ∀ i, i < 23 → PySem.W.findIn K (.ref (c i)) "value" = some none
  row : PySem.W.findIn K (.ref (c 20)) "row" = some none
  col : PySem.W.findIn K (.ref (c 20)) "column" = some none
section
variable {P : Program} {w : World} {K : PySem.W.Frag} {mg : Str → Option Value} {base : Heap}
def itm (K : PySem.W.Frag) (c : Nat → Addr) (x : Str) (i : Nat) : TE := tTup (tCons (tC (.str x)) (tCons (tCB (rIsX K) (tCons (tVar 0) (tCons (tC (.ref (c i))) tNil))) tNil))
def itms (K : PySem.W.Frag) (c : Nat → Addr) : List (Str × Nat) → TA
  | [] => tNil
  | (x, i) :: l => tCons (itm K c x i) (itms K c l)
/-- v is a tuple of a word and whether it is the k-th -/
def Wd (H : Hp) (k : Nat) (y : Str × Nat) (v : V) : Prop := ∃ a, v = .ref a ∧ H a = some (.tup [.str y.1, .bl (k == y.2)])
def Wds (H : Hp) (k : Nat) : List (Str × Nat) → List V → Prop
  | [], [] => True
  | y :: l, v :: vs => Wd H k y v ∧ Wds H k l vs
  | _, _ => False
theorem Wd.mono {H H' : Hp} {k : Nat} {y : Str × Nat} {v : V} (s : Same H H') : Wd H k y v → Wd H' k y v := fun ⟨a, e, h⟩ => ⟨a, e, s _ _ h⟩
theorem Wds.mono {H H' : Hp} {k : Nat} (s : Same H H') : ∀ {l : List (Str × Nat)} {vs : List V}, Wds H k l vs → Wds H' k l vs
  | [], [], _ => trivial
  | [], _ :: _, h => h.elim
  | _ :: _, [], h => h.elim
  | _ :: _, _ :: _, ⟨a, b⟩ => ⟨a.mono s, b.mono s⟩
theorem Wds.length {H : Hp} {k : Nat} : ∀ {l : List (Str × Nat)} {vs : List V}, Wds H k l vs → vs.length = l.length
  | [], [], _ => rfl
  | [], _ :: _, h => h.elim
  | _ :: _, [], h => h.elim
  | _ :: _, _ :: _, ⟨_, b⟩ => congrArg (· + 1) b.length
theorem Wds.append {H : Hp} {k : Nat} : ∀ {l m : List (Str × Nat)} {vs ws : List V}, Wds H k l vs → Wds H k m ws → Wds H k (l ++ m) (vs ++ ws)
  | [], _, [], _, _, h => h
  | [], _, _ :: _, _, h, _ => h.elim
  | _ :: _, _, [], _, h, _ => h.elim
  | _ :: _, _, _ :: _, _, ⟨a, b⟩, h => ⟨a, b.append h⟩
theorem Wds.get {H : Hp} {k : Nat} : ∀ {l : List (Str × Nat)} {vs : List V} {i : Nat} {v : V}, Wds H k l vs → vs[i]? = some v → ∃ y, l[i]? = some y ∧ Wd H k y v
  | [], [], _, _, _, e => by simp at e
  | [], _ :: _, _, _, h, _ => h.elim
  | _ :: _, [], _, _, h, _ => h.elim
  | y :: _, v :: _, 0, u, ⟨a, _⟩, e => by
    simp at e
    subst e
    exact ⟨y, rfl, a⟩
  | _ :: _, _ :: vs, i + 1, u, ⟨_, b⟩, e => by
    have e' : vs[i]? = some u := by simpa using e
    obtain ⟨y, h1, h2⟩ := b.get e'
    exact ⟨y, by simpa using h1, h2⟩
/-- σ tells the error, the k-th one -/
structure Er (H : Hp) (c : Nat → Addr) (k : Nat) (σ : St) : Prop where
  ex : ∃ a dx fs, σ[0]? = some (some (.ref a)) ∧ ExAt H (c k) a dx fs
theorem exAt_mono {H H' : Hp} {C a dx : Addr} {fs : List (Str × V)} (s : Same H H') (h : ExAt H C a dx fs) : ExAt H' C a dx fs := ⟨s _ _ h.1, s _ _ h.2⟩
theorem Er.mono {H H' : Hp} {c : Nat → Addr} {k : Nat} {σ : St} (s : Same H H') (e : Er H c k σ) : Er H' c k σ := by
  obtain ⟨a, dx, fs, h1, h2⟩ := e.ex
  exact ⟨a, dx, fs, h1, exAt_mono s h2⟩
theorem itms_ok {c : Nat → Addr} {wE : Addr} {k : Nat} (T : Cs K mg c wE) (hk : k < 23) {σ : St} : ∀ (l : List (Str × Nat)) (H : Hp) (Q : List V → Hp → Prop), (∀ y ∈ l, y.2 < 23) → Er H c k σ →
    (∀ vs H', Same H H' → Wds H' k l vs → Q vs H') → itms K c l σ H Q
  | [], H, Q, _, _, q => q [] H (fun _ _ e => e) trivial
  | (x, i) :: l, H, Q, hl, he, q => by
    obtain ⟨a, dx, fs, h1, h2⟩ := he.ex
    refine ⟨_, h1, a, c k, dx, fs, _, _, _, rfl, h2, T.exc k hk, .own _, T.kit k i hk (hl _ (List.mem_cons_self ..)), ?_⟩
    refine ⟨small _ (by show 2 ≤ 100000; decide), fun p hp => ?_⟩
    have s1 := same_new hp (.tup [.str x, .bl (k == i)])
    refine itms_ok T hk l _ _ (fun y hy => hl y (List.mem_cons_of_mem _ hy)) (he.mono s1) fun vs H' s2 hw => ?_
    exact q _ H' (s1.trans s2) ⟨⟨p, rfl, s2 _ _ upd_same⟩, hw⟩
theorem scWords : FnScope ["error", "found", "word", "held"] ["error"] (defScope sWords) := ⟨rfl, rfl, rfl, by decide +kernel, rfl, by decide +kernel, by decide +kernel⟩
def spWords (c : Nat → Addr) : Sp := fun vs H Q _ => ∃ (a dx : Addr) (fs : List (Str × V)) (k : Nat) (x : Str), vs = [.ref a] ∧ ExAt H (c k) a dx fs ∧ nms[k]? = some x ∧ ∀ (r : Addr) (H' : Hp), H r = none → H' r = some (.lst [.str x]) → Same H H' → Q (.ref r) H'
/-- found = found + [..] -/
theorem words_step {c : Nat → Addr} {wE : Addr} {k : Nat} (T : Cs K mg c wE) (hk : k < 23) {σ : St} (l m : List (Str × Nat)) {H0 H : Hp} {Q : VK} {r : Addr} {vs : List V} (h0 : Same H0 H) (hm : ∀ y ∈ m, y.2 < 23) (hs : l.length + m.length ≤ 100) (he : Er H c k σ) (hr : σ[1]? = some (some (.ref r))) (hl : H r = some (.lst vs)) (hw : Wds H k l vs)
    (q : ∀ (p : Addr) (ws : List V) (H' : Hp), H0 p = none → Same H0 H' → Er H' c k σ → H' p = some (.lst ws) → Wds H' k (l ++ m) ws → Q (.ref p) H') :
    tOp rCat (tVar 1) (tLst (itms K c m)) σ H Q := by
  refine ⟨_, hr, ?_⟩
  refine itms_ok T hk m H _ hm he fun ws H' s hw' => ⟨?_, fun p hp => ?_⟩
  · rw [hw'.length]
    exact small _ (by omega)
  have s2 := s.trans (same_new hp (.lst ws))
  refine ⟨r, p, vs, ws, rfl, rfl, s2 _ _ hl, upd_same, ?_, fun d hd => ?_⟩
  · rw [hw.length, hw'.length]
    exact small _ (by omega)
  have s3 := s2.trans (same_new hd (.lst (vs ++ ws)))
  exact q d _ _ ((h0.trans s2).free hd) (h0.trans s3) (he.mono s3) upd_same ((hw.mono s3).append (hw'.mono ((same_new hp _).trans (same_new hd _))))
theorem ok_words {f : Addr} {fd : FuncData} {c : Nat → Addr} {wE : Addr} (D : Df K mg "_law_words" sWords f fd) (T : Txt0 mg) (C : Cs K mg c wE) : FnOk P w K mg base CX0 1 f fd ["error"] (spWords c) := by
  have SC := scWords
  refine D.fn.ok scWords (fun vs H Q E h => ?_) (fun cdv A outer s H vs Q E hr h => ?_)
  · obtain ⟨a, dx, fs, k, x, rfl, _⟩ := h
    rfl
  obtain ⟨a, dx, fs, k, x, rfl, ea, hx, q⟩ := h
  have hk : k < 23 := (List.getElem?_eq_some_iff.mp hx).1
  refine ⟨_, PSs.nox (pss_cons (ps_set (i := 1) SC.nd rfl (Or.inl rfl) (pe_lst (t := itms K c [("InvalidChoices", 0), ("InvalidProgram", 1), ("InvalidNode", 2)]) (pa_cons (pe_tup (pa_cons pe_str (pa_cons (pe_callB call_isX (by rfl) T.n_isinstance (by decide +kernel) (pa_cons (pv 0) (pa_cons (pe_glob (v := .ref (c 0)) rfl (C.g 0 "InvalidChoices" rfl) rfl) pa_nil))) pa_nil))) (pa_cons (pe_tup (pa_cons pe_str (pa_cons (pe_callB call_isX (by rfl) T.n_isinstance (by decide +kernel) (pa_cons (pv 0) (pa_cons (pe_glob (v := .ref (c 1)) rfl (C.g 1 "InvalidProgram" rfl) rfl) pa_nil))) pa_nil))) (pa_cons (pe_tup (pa_cons pe_str (pa_cons (pe_callB call_isX (by rfl) T.n_isinstance (by decide +kernel) (pa_cons (pv 0) (pa_cons (pe_glob (v := .ref (c 2)) rfl (C.g 2 "InvalidNode" rfl) rfl) pa_nil))) pa_nil))) pa_nil)))))
    (pss_cons (ps_set (i := 1) SC.nd rfl (Or.inl rfl) (pe_op op_cat (pv 1) (pe_lst (t := itms K c [("InvalidPattern", 3), ("InvalidPatterns", 4)]) (pa_cons (pe_tup (pa_cons pe_str (pa_cons (pe_callB call_isX (by rfl) T.n_isinstance (by decide +kernel) (pa_cons (pv 0) (pa_cons (pe_glob (v := .ref (c 3)) rfl (C.g 3 "InvalidPattern" rfl) rfl) pa_nil))) pa_nil))) (pa_cons (pe_tup (pa_cons pe_str (pa_cons (pe_callB call_isX (by rfl) T.n_isinstance (by decide +kernel) (pa_cons (pv 0) (pa_cons (pe_glob (v := .ref (c 4)) rfl (C.g 4 "InvalidPatterns" rfl) rfl) pa_nil))) pa_nil))) pa_nil)))))
    (pss_cons (ps_set (i := 1) SC.nd rfl (Or.inl rfl) (pe_op op_cat (pv 1) (pe_lst (t := itms K c [("InvalidValue", 5), ("InvalidType", 6), ("InvalidTypes", 7)]) (pa_cons (pe_tup (pa_cons pe_str (pa_cons (pe_callB call_isX (by rfl) T.n_isinstance (by decide +kernel) (pa_cons (pv 0) (pa_cons (pe_glob (v := .ref (c 5)) rfl (C.g 5 "InvalidValue" rfl) rfl) pa_nil))) pa_nil))) (pa_cons (pe_tup (pa_cons pe_str (pa_cons (pe_callB call_isX (by rfl) T.n_isinstance (by decide +kernel) (pa_cons (pv 0) (pa_cons (pe_glob (v := .ref (c 6)) rfl (C.g 6 "InvalidType" rfl) rfl) pa_nil))) pa_nil))) (pa_cons (pe_tup (pa_cons pe_str (pa_cons (pe_callB call_isX (by rfl) T.n_isinstance (by decide +kernel) (pa_cons (pv 0) (pa_cons (pe_glob (v := .ref (c 7)) rfl (C.g 7 "InvalidTypes" rfl) rfl) pa_nil))) pa_nil))) pa_nil))))))
    (pss_cons (ps_set (i := 1) SC.nd rfl (Or.inl rfl) (pe_op op_cat (pv 1) (pe_lst (t := itms K c [("InvalidEquations", 8), ("InvalidPlace", 9)]) (pa_cons (pe_tup (pa_cons pe_str (pa_cons (pe_callB call_isX (by rfl) T.n_isinstance (by decide +kernel) (pa_cons (pv 0) (pa_cons (pe_glob (v := .ref (c 8)) rfl (C.g 8 "InvalidEquations" rfl) rfl) pa_nil))) pa_nil))) (pa_cons (pe_tup (pa_cons pe_str (pa_cons (pe_callB call_isX (by rfl) T.n_isinstance (by decide +kernel) (pa_cons (pv 0) (pa_cons (pe_glob (v := .ref (c 9)) rfl (C.g 9 "InvalidPlace" rfl) rfl) pa_nil))) pa_nil))) pa_nil)))))
    (pss_cons (ps_set (i := 1) SC.nd rfl (Or.inl rfl) (pe_op op_cat (pv 1) (pe_lst (t := itms K c [("InvalidLot", 10), ("InvalidNumber", 11), ("InvalidName", 12)]) (pa_cons (pe_tup (pa_cons pe_str (pa_cons (pe_callB call_isX (by rfl) T.n_isinstance (by decide +kernel) (pa_cons (pv 0) (pa_cons (pe_glob (v := .ref (c 10)) rfl (C.g 10 "InvalidLot" rfl) rfl) pa_nil))) pa_nil))) (pa_cons (pe_tup (pa_cons pe_str (pa_cons (pe_callB call_isX (by rfl) T.n_isinstance (by decide +kernel) (pa_cons (pv 0) (pa_cons (pe_glob (v := .ref (c 11)) rfl (C.g 11 "InvalidNumber" rfl) rfl) pa_nil))) pa_nil))) (pa_cons (pe_tup (pa_cons pe_str (pa_cons (pe_callB call_isX (by rfl) T.n_isinstance (by decide +kernel) (pa_cons (pv 0) (pa_cons (pe_glob (v := .ref (c 12)) rfl (C.g 12 "InvalidName" rfl) rfl) pa_nil))) pa_nil))) pa_nil))))))
    (pss_cons (ps_set (i := 1) SC.nd rfl (Or.inl rfl) (pe_op op_cat (pv 1) (pe_lst (t := itms K c [("InvalidList", 13), ("InvalidPaper", 14)]) (pa_cons (pe_tup (pa_cons pe_str (pa_cons (pe_callB call_isX (by rfl) T.n_isinstance (by decide +kernel) (pa_cons (pv 0) (pa_cons (pe_glob (v := .ref (c 13)) rfl (C.g 13 "InvalidList" rfl) rfl) pa_nil))) pa_nil))) (pa_cons (pe_tup (pa_cons pe_str (pa_cons (pe_callB call_isX (by rfl) T.n_isinstance (by decide +kernel) (pa_cons (pv 0) (pa_cons (pe_glob (v := .ref (c 14)) rfl (C.g 14 "InvalidPaper" rfl) rfl) pa_nil))) pa_nil))) pa_nil)))))
    (pss_cons (ps_set (i := 1) SC.nd rfl (Or.inl rfl) (pe_op op_cat (pv 1) (pe_lst (t := itms K c [("InvalidChange", 15), ("InvalidBook", 16), ("InvalidLine", 17)]) (pa_cons (pe_tup (pa_cons pe_str (pa_cons (pe_callB call_isX (by rfl) T.n_isinstance (by decide +kernel) (pa_cons (pv 0) (pa_cons (pe_glob (v := .ref (c 15)) rfl (C.g 15 "InvalidChange" rfl) rfl) pa_nil))) pa_nil))) (pa_cons (pe_tup (pa_cons pe_str (pa_cons (pe_callB call_isX (by rfl) T.n_isinstance (by decide +kernel) (pa_cons (pv 0) (pa_cons (pe_glob (v := .ref (c 16)) rfl (C.g 16 "InvalidBook" rfl) rfl) pa_nil))) pa_nil))) (pa_cons (pe_tup (pa_cons pe_str (pa_cons (pe_callB call_isX (by rfl) T.n_isinstance (by decide +kernel) (pa_cons (pv 0) (pa_cons (pe_glob (v := .ref (c 17)) rfl (C.g 17 "InvalidLine" rfl) rfl) pa_nil))) pa_nil))) pa_nil))))))
    (pss_cons (ps_set (i := 1) SC.nd rfl (Or.inl rfl) (pe_op op_cat (pv 1) (pe_lst (t := itms K c [("Unlike", 18), ("TooMany", 19)]) (pa_cons (pe_tup (pa_cons pe_str (pa_cons (pe_callB call_isX (by rfl) T.n_isinstance (by decide +kernel) (pa_cons (pv 0) (pa_cons (pe_glob (v := .ref (c 18)) rfl (C.g 18 "Unlike" rfl) rfl) pa_nil))) pa_nil))) (pa_cons (pe_tup (pa_cons pe_str (pa_cons (pe_callB call_isX (by rfl) T.n_isinstance (by decide +kernel) (pa_cons (pv 0) (pa_cons (pe_glob (v := .ref (c 19)) rfl (C.g 19 "TooMany" rfl) rfl) pa_nil))) pa_nil))) pa_nil)))))
    (pss_cons (ps_set (i := 1) SC.nd rfl (Or.inl rfl) (pe_op op_cat (pv 1) (pe_lst (t := itms K c [("InvalidText", 20), ("NothingToUndo", 21), ("NothingToRedo", 22)]) (pa_cons (pe_tup (pa_cons pe_str (pa_cons (pe_callB call_isX (by rfl) T.n_isinstance (by decide +kernel) (pa_cons (pv 0) (pa_cons (pe_glob (v := .ref (c 20)) rfl (C.g 20 "InvalidText" rfl) rfl) pa_nil))) pa_nil))) (pa_cons (pe_tup (pa_cons pe_str (pa_cons (pe_callB call_isX (by rfl) T.n_isinstance (by decide +kernel) (pa_cons (pv 0) (pa_cons (pe_glob (v := .ref (c 21)) rfl (C.g 21 "NothingToUndo" rfl) rfl) pa_nil))) pa_nil))) (pa_cons (pe_tup (pa_cons pe_str (pa_cons (pe_callB call_isX (by rfl) T.n_isinstance (by decide +kernel) (pa_cons (pv 0) (pa_cons (pe_glob (v := .ref (c 22)) rfl (C.g 22 "NothingToRedo" rfl) rfl) pa_nil))) pa_nil))) pa_nil))))))
    (pss_one (ps_ret (pe_lc (own := [("word", 2), ("held", 3)]) (g := gTup K 2 (gCons (gName 2) (gCons (gName 3) gNil))) (by rfl) SC.nd (pi_list (pv 1)) (blkOk_by (own := [("word", 2), ("held", 3)]) (N := ["error", "found", "word", "held"]) (sc := defScope sWords) (by decide +kernel)) (fun _ _ _ _ _ => (pg_tup (by rfl) (pgs_cons (pg_name (i := 2) SC.nd rfl (Or.inl rfl)) (pgs_cons (pg_name (i := 3) SC.nd rfl (Or.inl rfl)) pgs_nil)))) (fun _ _ _ _ _ => pts_one (pt_val (pv 3))) (fun _ _ _ _ _ => (pv 2)))))))))))))), ?_⟩
  have er0 : Er H c k (start ["error", "found", "word", "held"] [.ref a]) := ⟨a, dx, fs, rfl, ea⟩
  have er : ∀ {H' : Hp} {v : V}, Er H' c k (start ["error", "found", "word", "held"] [.ref a]) → Er H' c k [some (.ref a), some v, none, none] := fun e => by
    obtain ⟨a', dx', fs', h1, h2⟩ := e.ex
    exact ⟨a', dx', fs', h1, h2⟩
  have er2 : ∀ {H' : Hp} {u v : V}, Er H' c k [some (.ref a), some u, none, none] → Er H' c k [some (.ref a), some v, none, none] := fun e => by
    obtain ⟨a', dx', fs', h1, h2⟩ := e.ex
    exact ⟨a', dx', fs', h1, h2⟩
  refine itms_ok C hk _ H _ (by decide) er0 fun ws H1 s1 w1 => ⟨by rw [w1.length]; exact small _ (by decide), fun r1 hr1 => ?_⟩
  have t1 := s1.trans (same_new hr1 (.lst ws))
  have l1 : upd H1 r1 (.lst ws) r1 = some (.lst ws) := upd_same
  have e1 := er (v := .ref r1) (er0.mono t1)
  replace w1 := w1.mono (same_new hr1 (.lst ws))
  generalize upd H1 r1 (.lst ws) = G1 at t1 l1 e1 w1 ⊢
  refine words_step C hk _ _ t1 (by decide) (by decide) e1 rfl l1 w1 fun r2 ws2 G2 hr2 t2 e2 l2 w2 => ?_
  replace e2 := er2 (v := .ref r2) e2
  refine words_step C hk _ _ t2 (by decide) (by decide) e2 rfl l2 w2 fun r3 ws3 G3 hr3 t3 e3 l3 w3 => ?_
  replace e3 := er2 (v := .ref r3) e3
  refine words_step C hk _ _ t3 (by decide) (by decide) e3 rfl l3 w3 fun r4 ws4 G4 hr4 t4 e4 l4 w4 => ?_
  replace e4 := er2 (v := .ref r4) e4
  refine words_step C hk _ _ t4 (by decide) (by decide) e4 rfl l4 w4 fun r5 ws5 G5 hr5 t5 e5 l5 w5 => ?_
  replace e5 := er2 (v := .ref r5) e5
  refine words_step C hk _ _ t5 (by decide) (by decide) e5 rfl l5 w5 fun r6 ws6 G6 hr6 t6 e6 l6 w6 => ?_
  replace e6 := er2 (v := .ref r6) e6
  refine words_step C hk _ _ t6 (by decide) (by decide) e6 rfl l6 w6 fun r7 ws7 G7 hr7 t7 e7 l7 w7 => ?_
  replace e7 := er2 (v := .ref r7) e7
  refine words_step C hk _ _ t7 (by decide) (by decide) e7 rfl l7 w7 fun r8 ws8 G8 hr8 t8 e8 l8 w8 => ?_
  replace e8 := er2 (v := .ref r8) e8
  refine words_step C hk _ _ t8 (by decide) (by decide) e8 rfl l8 w8 fun r9 ws9 G9 hr9 t9 e9 l9 w9 => ?_
  replace e9 := er2 (v := .ref r9) e9
  replace w9 : Wds G9 k nms.zipIdx ws9 := w9
  refine ⟨_, rfl, _, rfl, ⟨ws9, SqL.of l9⟩, fun d hd => ?_⟩
  have n9 : ws9.length = 23 := w9.length
  have hd0 : H d = none := t9.free hd
  simp only [List.set_set]
  refine lc_list (xs := ws9) (fun i H' => Same G9 H' ∧ H' d = some (.lst (if k < i then [.str x] else []))) ⟨same_new hd _, upd_same⟩ ?_ ?_ ?_
  · rintro i H' _ ⟨z, _⟩
    exact SqL.of (z _ _ l9)
  · rintro i v H' hi ⟨z1, z2⟩
    obtain ⟨y, hy, p, rfl, hp⟩ := w9.get hi
    rw [List.getElem?_zipIdx] at hy
    obtain ⟨nm, hn, rfl⟩ := Option.map_eq_some_iff.mp hy
    refine ⟨p, _, rfl, .inl (.inl (z1 _ _ hp)), rfl, _, _, rfl, ?_⟩
    refine ⟨_, _, rfl, rfl, rfl, ?_⟩
    refine ⟨_, rfl, _, rfl, ?_⟩
    have e0 : 0 + i = i := Nat.zero_add i
    by_cases hki : k = i
    · subst hki
      obtain rfl : nm = x := by
        rw [hn] at hx
        exact Option.some.inj hx
      rw [show (k == 0 + k) = true by simp]
      rw [if_neg (Nat.lt_irrefl k)] at z2
      refine ⟨_, rfl, _, z2, (by decide), fun b o e => ?_, ?_⟩
      · rw [upd_ne (ne_of_none e hd)]
        exact z1 b o e
      · rw [upd_same, if_pos (Nat.lt_succ_self k)]
        rfl
    · rw [show (k == 0 + i) = false by simpa using hki]
      refine ⟨z1, ?_⟩
      rw [z2]
      by_cases h1 : k < i
      · rw [if_pos h1, if_pos (Nat.lt_succ_of_lt h1)]
      · rw [if_neg h1, if_neg (by omega)]
  · rintro H' ⟨z1, z2⟩
    rw [n9, if_pos hk] at z2
    exact q d H' hd0 z2 (t9.trans z1)
end
end K01

set_option Elab.async false
set_option linter.all false
set_option maxRecDepth 100000
set_option maxHeartbeats 400000
namespace K01
open PySem PySem.Spec L2 Wy
/-- how the classes make their instances -/
structure Mks (P : Program) (K : PySem.W.Frag) (mg : Str → Option Value) (c : Nat → Addr) (wE fW fT fU fR : Addr) (dW dT dU dR : FuncData) : Prop where
  why : WhyD P K wE fW dW
  m : ∀ i, i < 20 → MkE K (c i) fW
  wc : ∀ i, i < 20 → WC K wE (c i)
  text : TextD P K wE (c 20) fT fW dT dW
  mt : MkE K (c 20) fT
  undo : NoneD P K wE (c 21) fU fW dU dW
  mu : MkE K (c 21) fU
  redo : NoneD P K wE (c 22) fR fW dR dW
  mr : MkE K (c 22) fR
  bw : ∀ (us : List Value), us.length + 1 = (["self", "value"] : List Str).length → ∀ s' u, BindsTo s' dW ⟨u :: us, []⟩ ((["self", "value"] : List Str).zip (u :: us))
  kw : ∀ (ws : List Value), ws.length = (["value"] : List Str).length → ∀ s' u, BindsTo s' dW ⟨[u], (["value"] : List Str).zip ws⟩ ((["self", "value"] : List Str).zip (u :: ws))
  bt : ∀ (us : List Value), us.length + 1 = (["self", "value", "row", "column"] : List Str).length → ∀ s' u, BindsTo s' dT ⟨u :: us, []⟩ ((["self", "value", "row", "column"] : List Str).zip (u :: us))
  kt : ∀ (ws : List Value), ws.length = (["value", "row", "column"] : List Str).length → ∀ s' u, BindsTo s' dT ⟨[u], (["value", "row", "column"] : List Str).zip ws⟩ ((["self", "value", "row", "column"] : List Str).zip (u :: ws))
  bu : ∀ s' u, BindsTo s' dU ⟨[u], []⟩ ((["self"] : List Str).zip [u])
  br : ∀ s' u, BindsTo s' dR ⟨[u], []⟩ ((["self"] : List Str).zip [u])
  sup : mg "super" = none
section
variable {P : Program} {w : World} {K : PySem.W.Frag} {mg : Str → Option Value} {base : Heap}
/-- t is (the i-th word, one of that class that keeps v, one that keeps o) -/
def Mk (H : Hp) (c : Nat → Addr) (v o : V) (t : V) : Prop := ∃ (p a b d e : Addr) (fa fb : List (Str × V)) (x : Str) (i : Nat), t = .ref p ∧ nms[i]? = some x ∧ H p = some (.tup [.str x, .ref a, .ref b]) ∧ ExAt H (c i) a d fa ∧ fa.lookup ("value" : Str) = some v ∧ ExAt H (c i) b e fb ∧ fb.lookup ("value" : Str) = some o
theorem Mk.mono {H H' : Hp} {c : Nat → Addr} {v o t : V} (s : Same H H') : Mk H c v o t → Mk H' c v o t := by
  rintro ⟨p, a, b, d, e, fa, fb, x, i, h1, h2, h3, h4, h5, h6, h7⟩
  exact ⟨p, a, b, d, e, fa, fb, x, i, h1, h2, s _ _ h3, exAt_mono s h4, h5, exAt_mono s h6, h7⟩
def mkI (K : PySem.W.Frag) (c : Nat → Addr) (wE : Addr) (x : Str) (i : Nat) : TE := tTup (tCons (tC (.str x)) (tCons (tMkE (c i) (spWhy K wE) (tCons (tVar 0) tNil)) (tCons (tMkE (c i) (spWhy K wE) (tCons (tVar 1) tNil)) tNil)))
def mks (K : PySem.W.Frag) (c : Nat → Addr) (wE : Addr) : List (Str × Nat) → TA
  | [] => tNil
  | (x, i) :: l => tCons (mkI K c wE x i) (mks K c wE l)
def mkT (K : PySem.W.Frag) (c : Nat → Addr) (wE : Addr) : TE := tTup (tCons (tC (.str "InvalidText")) (tCons (tMkE (c 20) (spText K wE (c 20)) (tCons (tVar 0) (tCons (tC (.int 3)) (tCons (tC (.int 7)) tNil)))) (tCons (tMkE (c 20) (spText K wE (c 20)) (tCons (tVar 1) (tCons (tC (.int 0)) (tCons (tC (.int 12)) tNil)))) tNil)))
/-- the two heaps of a making -/
theorem made_at {H : Hp} {C a dx : Addr} {fs : List (Str × V)} (ha : H a = none) (hd : upd H a (exo a C none) dx = none) (hne : dx ≠ a) : Same H (hpW (upd H a (exo a C none)) C a dx fs) ∧ ExAt (hpW (upd H a (exo a C none)) C a dx fs) C a dx fs := by
  rw [upd_ne hne] at hd
  refine ⟨fun b o e => ?_, upd_same, ?_⟩
  · unfold hpW
    rw [upd_ne (ne_of_none e ha), upd_ne (ne_of_none e hd), upd_ne (ne_of_none e ha)]
    exact e
  · unfold hpW
    rw [upd_ne hne]
    exact upd_same
theorem mks_ok {c : Nat → Addr} {wE : Addr} (hwc : ∀ i, i < 20 → WC K wE (c i)) {σ : St} {v o : V} (h0 : σ[0]? = some (some v)) (h1 : σ[1]? = some (some o)) : ∀ (l : List (Str × Nat)) (H : Hp) (Q : List V → Hp → Prop), (∀ y ∈ l, y.2 < 20 ∧ nms[y.2]? = some y.1) →
    (∀ ts H', Same H H' → (∀ t ∈ ts, Mk H' c v o t) → ts.length = l.length → Q ts H') → mks K c wE l σ H Q
  | [], H, Q, _, q => q [] H (fun _ _ e => e) (fun _ z => by cases z) rfl
  | (x, i) :: l, H, Q, hl, q => by
    obtain ⟨hi, hx⟩ := hl _ (List.mem_cons_self ..)
    refine ⟨_, h0, (by show 1 ≤ 1000; decide), fun a ha => ⟨a, c i, v, rfl, hwc i hi, upd_same, fun d hd hda => ⟨rfl, ?_⟩⟩⟩
    obtain ⟨s1, e1⟩ := made_at (fs := [("value", v)]) ha hd hda
    generalize hpW (upd H a (exo a (c i) none)) (c i) a d [("value", v)] = G at s1 e1 ⊢
    refine ⟨_, h1, (by show 1 ≤ 1000; decide), fun b hb => ⟨b, c i, o, rfl, hwc i hi, upd_same, fun e he hea => ⟨rfl, ?_⟩⟩⟩
    obtain ⟨s2, e2⟩ := made_at (fs := [("value", o)]) hb he hea
    generalize hpW (upd G b (exo b (c i) none)) (c i) b e [("value", o)] = G2 at s2 e2 ⊢
    refine ⟨small _ (by show 3 ≤ 100000; decide), fun p hp => ?_⟩
    have s3 := same_new hp (.tup [.str x, .ref a, .ref b])
    refine mks_ok hwc h0 h1 l _ _ (fun y hy => hl y (List.mem_cons_of_mem _ hy)) fun ts H' s4 ht hlen => q _ H' (s1.trans (s2.trans (s3.trans s4))) (fun t hm => ?_) (congrArg (· + 1) hlen)
    rcases List.mem_cons.mp hm with rfl | hm
    · exact ⟨p, a, b, d, e, _, _, x, i, rfl, hx, s4 _ _ upd_same, exAt_mono (s2.trans (s3.trans s4)) e1, rfl, exAt_mono (s3.trans s4) e2, rfl⟩
    · exact ht t hm
theorem mkT_ok {c : Nat → Addr} {wE : Addr} {σ : St} {v o : V} (h0 : σ[0]? = some (some v)) (h1 : σ[1]? = some (some o)) {H : Hp} {Q : List V → Hp → Prop}
    (q : ∀ ts H', Same H H' → (∀ t ∈ ts, Mk H' c v o t) → ts.length = 1 → Q ts H') : tCons (mkT K c wE) tNil σ H Q := by
  refine ⟨_, h0, (by show 3 ≤ 1000; decide), fun a ha => ⟨a, v, _, _, rfl, upd_same, fun d hd hda => ⟨rfl, ?_⟩⟩⟩
  obtain ⟨s1, e1⟩ := made_at (fs := [("column", V.int 7), ("row", V.int 3), ("value", v)]) ha hd hda
  generalize hpW (upd H a (exo a (c 20) none)) (c 20) a d [("column", V.int 7), ("row", V.int 3), ("value", v)] = G at s1 e1 ⊢
  refine ⟨_, h1, (by show 3 ≤ 1000; decide), fun b hb => ⟨b, o, _, _, rfl, upd_same, fun e he hea => ⟨rfl, ?_⟩⟩⟩
  obtain ⟨s2, e2⟩ := made_at (fs := [("column", V.int 12), ("row", V.int 0), ("value", o)]) hb he hea
  generalize hpW (upd G b (exo b (c 20) none)) (c 20) b e [("column", V.int 12), ("row", V.int 0), ("value", o)] = G2 at s2 e2 ⊢
  refine ⟨small _ (by show 3 ≤ 100000; decide), fun p hp => ?_⟩
  have s3 := same_new hp (.tup [.str "InvalidText", .ref a, .ref b])
  refine q _ _ (s1.trans (s2.trans s3)) (fun t hm => ?_) rfl
  obtain rfl := List.mem_singleton.mp hm
  exact ⟨p, a, b, d, e, _, _, "InvalidText", 20, rfl, rfl, upd_same, exAt_mono (s2.trans s3) e1, rfl, exAt_mono s3 e2, rfl⟩
theorem made_step {c : Nat → Addr} {t : TA} {v o : V} {σ : St} {H0 H : Hp} {Q : VK} {r : Addr} {vs : List V} {n m : Nat} (h0 : Same H0 H) (hr : σ[2]? = some (some (.ref r))) (hl : H r = some (.lst vs)) (hv : ∀ t ∈ vs, Mk H c v o t) (hn : vs.length = n) (hs : n + m ≤ 100)
    (ht : ∀ (H : Hp) (Q : List V → Hp → Prop), (∀ ts H', Same H H' → (∀ t ∈ ts, Mk H' c v o t) → ts.length = m → Q ts H') → t σ H Q)
    (q : ∀ (p : Addr) (ws : List V) (H' : Hp), H0 p = none → Same H0 H' → H' p = some (.lst ws) → (∀ t ∈ ws, Mk H' c v o t) → ws.length = n + m → Q (.ref p) H') :
    tOp rCat (tVar 2) (tLst t) σ H Q := by
  refine ⟨_, hr, ?_⟩
  refine ht H _ fun ws H' s hw hwl => ⟨small _ (by omega), fun p hp => ?_⟩
  have s2 := s.trans (same_new hp (.lst ws))
  refine ⟨r, p, vs, ws, rfl, rfl, s2 _ _ hl, upd_same, small _ (by omega), fun d hd => ?_⟩
  have s3 := s2.trans (same_new hd (.lst (vs ++ ws)))
  refine q d _ _ ((h0.trans s2).free hd) (h0.trans s3) upd_same (fun t ht => ?_) (by rw [List.length_append]; omega)
  rcases List.mem_append.mp ht with ht | ht
  · exact (hv t ht).mono s3
  · exact (hw t ht).mono ((same_new hp _).trans (same_new hd _))
theorem scMade : FnScope ["thing", "other", "found"] ["thing", "other"] (defScope sMade) := ⟨rfl, rfl, rfl, by decide +kernel, rfl, by decide +kernel, by decide +kernel⟩
def spMade (c : Nat → Addr) : Sp := fun vs H Q _ => ∃ (v o : V), vs = [v, o] ∧ ∀ (r : Addr) (ts : List V) (H' : Hp), H r = none → H' r = some (.lst ts) → Same H H' → (∀ t ∈ ts, Mk H' c v o t) → ts.length = 21 → Q (.ref r) H'
theorem ok_made {f : Addr} {fd : FuncData} {c : Nat → Addr} {wE fW fT fU fR : Addr} {dW dT dU dR : FuncData} (D : Df K mg "_law_made" sMade f fd) (C : Cs K mg c wE) (M : Mks P K mg c wE fW fT fU fR dW dT dU dR) : FnOk P w K mg base CX0 4 f fd ["thing", "other"] (spMade c) := by
  have SC := scMade
  have GW : FnOk P w K mg base CX0 1 fW dW ["self", "value"] (spWhy K wE) := ok_why M.why M.sup
  have GT : FnOk P w K mg base CX0 2 fT dT ["self", "value", "row", "column"] (spText K wE (c 20)) := ok_text M.text M.sup
  refine D.fn.ok scMade (fun vs H Q E h => ?_) (fun cdv A outer s H vs Q E hr h => ?_)
  · obtain ⟨v, o, rfl, _⟩ := h
    rfl
  obtain ⟨v, o, rfl, q⟩ := h
  refine ⟨_, PSs.nox (pss_cons (ps_set (i := 2) SC.nd rfl (Or.inl rfl) (pe_lst (t := mks K c wE [("InvalidChoices", 0), ("InvalidProgram", 1)]) (pa_cons (pe_tup (pa_cons pe_str (pa_cons (pe_mkE (M.m 0 (by decide)) GW (hr.mono (by decide)) rfl (C.g 0 "InvalidChoices" rfl) M.bw (fun _ _ _ z => GW.len _ _ _ _ z) (pa_cons (pv 0) pa_nil)) (pa_cons (pe_mkEk (ks := ["value"]) (M.m 0 (by decide)) GW (hr.mono (by decide)) rfl (C.g 0 "InvalidChoices" rfl) M.kw (fun _ _ _ z => GW.len _ _ _ _ z) (pk_cons (pv 1) pk_nil)) pa_nil)))) (pa_cons (pe_tup (pa_cons pe_str (pa_cons (pe_mkE (M.m 1 (by decide)) GW (hr.mono (by decide)) rfl (C.g 1 "InvalidProgram" rfl) M.bw (fun _ _ _ z => GW.len _ _ _ _ z) (pa_cons (pv 0) pa_nil)) (pa_cons (pe_mkEk (ks := ["value"]) (M.m 1 (by decide)) GW (hr.mono (by decide)) rfl (C.g 1 "InvalidProgram" rfl) M.kw (fun _ _ _ z => GW.len _ _ _ _ z) (pk_cons (pv 1) pk_nil)) pa_nil)))) pa_nil))))
    (pss_cons (ps_set (i := 2) SC.nd rfl (Or.inl rfl) (pe_op op_cat (pv 2) (pe_lst (t := mks K c wE [("InvalidNode", 2), ("InvalidPattern", 3)]) (pa_cons (pe_tup (pa_cons pe_str (pa_cons (pe_mkE (M.m 2 (by decide)) GW (hr.mono (by decide)) rfl (C.g 2 "InvalidNode" rfl) M.bw (fun _ _ _ z => GW.len _ _ _ _ z) (pa_cons (pv 0) pa_nil)) (pa_cons (pe_mkEk (ks := ["value"]) (M.m 2 (by decide)) GW (hr.mono (by decide)) rfl (C.g 2 "InvalidNode" rfl) M.kw (fun _ _ _ z => GW.len _ _ _ _ z) (pk_cons (pv 1) pk_nil)) pa_nil)))) (pa_cons (pe_tup (pa_cons pe_str (pa_cons (pe_mkE (M.m 3 (by decide)) GW (hr.mono (by decide)) rfl (C.g 3 "InvalidPattern" rfl) M.bw (fun _ _ _ z => GW.len _ _ _ _ z) (pa_cons (pv 0) pa_nil)) (pa_cons (pe_mkEk (ks := ["value"]) (M.m 3 (by decide)) GW (hr.mono (by decide)) rfl (C.g 3 "InvalidPattern" rfl) M.kw (fun _ _ _ z => GW.len _ _ _ _ z) (pk_cons (pv 1) pk_nil)) pa_nil)))) pa_nil)))))
    (pss_cons (ps_set (i := 2) SC.nd rfl (Or.inl rfl) (pe_op op_cat (pv 2) (pe_lst (t := mks K c wE [("InvalidPatterns", 4), ("InvalidValue", 5)]) (pa_cons (pe_tup (pa_cons pe_str (pa_cons (pe_mkE (M.m 4 (by decide)) GW (hr.mono (by decide)) rfl (C.g 4 "InvalidPatterns" rfl) M.bw (fun _ _ _ z => GW.len _ _ _ _ z) (pa_cons (pv 0) pa_nil)) (pa_cons (pe_mkEk (ks := ["value"]) (M.m 4 (by decide)) GW (hr.mono (by decide)) rfl (C.g 4 "InvalidPatterns" rfl) M.kw (fun _ _ _ z => GW.len _ _ _ _ z) (pk_cons (pv 1) pk_nil)) pa_nil)))) (pa_cons (pe_tup (pa_cons pe_str (pa_cons (pe_mkE (M.m 5 (by decide)) GW (hr.mono (by decide)) rfl (C.g 5 "InvalidValue" rfl) M.bw (fun _ _ _ z => GW.len _ _ _ _ z) (pa_cons (pv 0) pa_nil)) (pa_cons (pe_mkEk (ks := ["value"]) (M.m 5 (by decide)) GW (hr.mono (by decide)) rfl (C.g 5 "InvalidValue" rfl) M.kw (fun _ _ _ z => GW.len _ _ _ _ z) (pk_cons (pv 1) pk_nil)) pa_nil)))) pa_nil)))))
    (pss_cons (ps_set (i := 2) SC.nd rfl (Or.inl rfl) (pe_op op_cat (pv 2) (pe_lst (t := mks K c wE [("InvalidType", 6), ("InvalidTypes", 7)]) (pa_cons (pe_tup (pa_cons pe_str (pa_cons (pe_mkE (M.m 6 (by decide)) GW (hr.mono (by decide)) rfl (C.g 6 "InvalidType" rfl) M.bw (fun _ _ _ z => GW.len _ _ _ _ z) (pa_cons (pv 0) pa_nil)) (pa_cons (pe_mkEk (ks := ["value"]) (M.m 6 (by decide)) GW (hr.mono (by decide)) rfl (C.g 6 "InvalidType" rfl) M.kw (fun _ _ _ z => GW.len _ _ _ _ z) (pk_cons (pv 1) pk_nil)) pa_nil)))) (pa_cons (pe_tup (pa_cons pe_str (pa_cons (pe_mkE (M.m 7 (by decide)) GW (hr.mono (by decide)) rfl (C.g 7 "InvalidTypes" rfl) M.bw (fun _ _ _ z => GW.len _ _ _ _ z) (pa_cons (pv 0) pa_nil)) (pa_cons (pe_mkEk (ks := ["value"]) (M.m 7 (by decide)) GW (hr.mono (by decide)) rfl (C.g 7 "InvalidTypes" rfl) M.kw (fun _ _ _ z => GW.len _ _ _ _ z) (pk_cons (pv 1) pk_nil)) pa_nil)))) pa_nil)))))
    (pss_cons (ps_set (i := 2) SC.nd rfl (Or.inl rfl) (pe_op op_cat (pv 2) (pe_lst (t := mks K c wE [("InvalidEquations", 8), ("InvalidPlace", 9)]) (pa_cons (pe_tup (pa_cons pe_str (pa_cons (pe_mkE (M.m 8 (by decide)) GW (hr.mono (by decide)) rfl (C.g 8 "InvalidEquations" rfl) M.bw (fun _ _ _ z => GW.len _ _ _ _ z) (pa_cons (pv 0) pa_nil)) (pa_cons (pe_mkEk (ks := ["value"]) (M.m 8 (by decide)) GW (hr.mono (by decide)) rfl (C.g 8 "InvalidEquations" rfl) M.kw (fun _ _ _ z => GW.len _ _ _ _ z) (pk_cons (pv 1) pk_nil)) pa_nil)))) (pa_cons (pe_tup (pa_cons pe_str (pa_cons (pe_mkE (M.m 9 (by decide)) GW (hr.mono (by decide)) rfl (C.g 9 "InvalidPlace" rfl) M.bw (fun _ _ _ z => GW.len _ _ _ _ z) (pa_cons (pv 0) pa_nil)) (pa_cons (pe_mkEk (ks := ["value"]) (M.m 9 (by decide)) GW (hr.mono (by decide)) rfl (C.g 9 "InvalidPlace" rfl) M.kw (fun _ _ _ z => GW.len _ _ _ _ z) (pk_cons (pv 1) pk_nil)) pa_nil)))) pa_nil)))))
    (pss_cons (ps_set (i := 2) SC.nd rfl (Or.inl rfl) (pe_op op_cat (pv 2) (pe_lst (t := mks K c wE [("InvalidLot", 10), ("InvalidNumber", 11)]) (pa_cons (pe_tup (pa_cons pe_str (pa_cons (pe_mkE (M.m 10 (by decide)) GW (hr.mono (by decide)) rfl (C.g 10 "InvalidLot" rfl) M.bw (fun _ _ _ z => GW.len _ _ _ _ z) (pa_cons (pv 0) pa_nil)) (pa_cons (pe_mkEk (ks := ["value"]) (M.m 10 (by decide)) GW (hr.mono (by decide)) rfl (C.g 10 "InvalidLot" rfl) M.kw (fun _ _ _ z => GW.len _ _ _ _ z) (pk_cons (pv 1) pk_nil)) pa_nil)))) (pa_cons (pe_tup (pa_cons pe_str (pa_cons (pe_mkE (M.m 11 (by decide)) GW (hr.mono (by decide)) rfl (C.g 11 "InvalidNumber" rfl) M.bw (fun _ _ _ z => GW.len _ _ _ _ z) (pa_cons (pv 0) pa_nil)) (pa_cons (pe_mkEk (ks := ["value"]) (M.m 11 (by decide)) GW (hr.mono (by decide)) rfl (C.g 11 "InvalidNumber" rfl) M.kw (fun _ _ _ z => GW.len _ _ _ _ z) (pk_cons (pv 1) pk_nil)) pa_nil)))) pa_nil)))))
    (pss_cons (ps_set (i := 2) SC.nd rfl (Or.inl rfl) (pe_op op_cat (pv 2) (pe_lst (t := mks K c wE [("InvalidName", 12), ("InvalidList", 13)]) (pa_cons (pe_tup (pa_cons pe_str (pa_cons (pe_mkE (M.m 12 (by decide)) GW (hr.mono (by decide)) rfl (C.g 12 "InvalidName" rfl) M.bw (fun _ _ _ z => GW.len _ _ _ _ z) (pa_cons (pv 0) pa_nil)) (pa_cons (pe_mkEk (ks := ["value"]) (M.m 12 (by decide)) GW (hr.mono (by decide)) rfl (C.g 12 "InvalidName" rfl) M.kw (fun _ _ _ z => GW.len _ _ _ _ z) (pk_cons (pv 1) pk_nil)) pa_nil)))) (pa_cons (pe_tup (pa_cons pe_str (pa_cons (pe_mkE (M.m 13 (by decide)) GW (hr.mono (by decide)) rfl (C.g 13 "InvalidList" rfl) M.bw (fun _ _ _ z => GW.len _ _ _ _ z) (pa_cons (pv 0) pa_nil)) (pa_cons (pe_mkEk (ks := ["value"]) (M.m 13 (by decide)) GW (hr.mono (by decide)) rfl (C.g 13 "InvalidList" rfl) M.kw (fun _ _ _ z => GW.len _ _ _ _ z) (pk_cons (pv 1) pk_nil)) pa_nil)))) pa_nil)))))
    (pss_cons (ps_set (i := 2) SC.nd rfl (Or.inl rfl) (pe_op op_cat (pv 2) (pe_lst (t := mks K c wE [("InvalidPaper", 14), ("InvalidChange", 15)]) (pa_cons (pe_tup (pa_cons pe_str (pa_cons (pe_mkE (M.m 14 (by decide)) GW (hr.mono (by decide)) rfl (C.g 14 "InvalidPaper" rfl) M.bw (fun _ _ _ z => GW.len _ _ _ _ z) (pa_cons (pv 0) pa_nil)) (pa_cons (pe_mkEk (ks := ["value"]) (M.m 14 (by decide)) GW (hr.mono (by decide)) rfl (C.g 14 "InvalidPaper" rfl) M.kw (fun _ _ _ z => GW.len _ _ _ _ z) (pk_cons (pv 1) pk_nil)) pa_nil)))) (pa_cons (pe_tup (pa_cons pe_str (pa_cons (pe_mkE (M.m 15 (by decide)) GW (hr.mono (by decide)) rfl (C.g 15 "InvalidChange" rfl) M.bw (fun _ _ _ z => GW.len _ _ _ _ z) (pa_cons (pv 0) pa_nil)) (pa_cons (pe_mkEk (ks := ["value"]) (M.m 15 (by decide)) GW (hr.mono (by decide)) rfl (C.g 15 "InvalidChange" rfl) M.kw (fun _ _ _ z => GW.len _ _ _ _ z) (pk_cons (pv 1) pk_nil)) pa_nil)))) pa_nil)))))
    (pss_cons (ps_set (i := 2) SC.nd rfl (Or.inl rfl) (pe_op op_cat (pv 2) (pe_lst (t := mks K c wE [("InvalidBook", 16), ("InvalidLine", 17)]) (pa_cons (pe_tup (pa_cons pe_str (pa_cons (pe_mkE (M.m 16 (by decide)) GW (hr.mono (by decide)) rfl (C.g 16 "InvalidBook" rfl) M.bw (fun _ _ _ z => GW.len _ _ _ _ z) (pa_cons (pv 0) pa_nil)) (pa_cons (pe_mkEk (ks := ["value"]) (M.m 16 (by decide)) GW (hr.mono (by decide)) rfl (C.g 16 "InvalidBook" rfl) M.kw (fun _ _ _ z => GW.len _ _ _ _ z) (pk_cons (pv 1) pk_nil)) pa_nil)))) (pa_cons (pe_tup (pa_cons pe_str (pa_cons (pe_mkE (M.m 17 (by decide)) GW (hr.mono (by decide)) rfl (C.g 17 "InvalidLine" rfl) M.bw (fun _ _ _ z => GW.len _ _ _ _ z) (pa_cons (pv 0) pa_nil)) (pa_cons (pe_mkEk (ks := ["value"]) (M.m 17 (by decide)) GW (hr.mono (by decide)) rfl (C.g 17 "InvalidLine" rfl) M.kw (fun _ _ _ z => GW.len _ _ _ _ z) (pk_cons (pv 1) pk_nil)) pa_nil)))) pa_nil)))))
    (pss_cons (ps_set (i := 2) SC.nd rfl (Or.inl rfl) (pe_op op_cat (pv 2) (pe_lst (t := mks K c wE [("Unlike", 18), ("TooMany", 19)]) (pa_cons (pe_tup (pa_cons pe_str (pa_cons (pe_mkE (M.m 18 (by decide)) GW (hr.mono (by decide)) rfl (C.g 18 "Unlike" rfl) M.bw (fun _ _ _ z => GW.len _ _ _ _ z) (pa_cons (pv 0) pa_nil)) (pa_cons (pe_mkEk (ks := ["value"]) (M.m 18 (by decide)) GW (hr.mono (by decide)) rfl (C.g 18 "Unlike" rfl) M.kw (fun _ _ _ z => GW.len _ _ _ _ z) (pk_cons (pv 1) pk_nil)) pa_nil)))) (pa_cons (pe_tup (pa_cons pe_str (pa_cons (pe_mkE (M.m 19 (by decide)) GW (hr.mono (by decide)) rfl (C.g 19 "TooMany" rfl) M.bw (fun _ _ _ z => GW.len _ _ _ _ z) (pa_cons (pv 0) pa_nil)) (pa_cons (pe_mkEk (ks := ["value"]) (M.m 19 (by decide)) GW (hr.mono (by decide)) rfl (C.g 19 "TooMany" rfl) M.kw (fun _ _ _ z => GW.len _ _ _ _ z) (pk_cons (pv 1) pk_nil)) pa_nil)))) pa_nil)))))
    (pss_one (ps_ret (pe_op op_cat (pv 2) (pe_lst (t := tCons (mkT K c wE) tNil) (pa_cons (pe_tup (pa_cons pe_str (pa_cons (pe_mkE M.mt GT hr rfl (C.g 20 "InvalidText" rfl) M.bt (fun _ _ _ z => GT.len _ _ _ _ z) (pa_cons (pv 0) (pa_cons pe_int (pa_cons pe_int pa_nil)))) (pa_cons (pe_mkEk (ks := ["value", "row", "column"]) M.mt GT hr rfl (C.g 20 "InvalidText" rfl) M.kt (fun _ _ _ z => GT.len _ _ _ _ z) (pk_cons (pv 1) (pk_cons pe_int (pk_cons pe_int pk_nil)))) pa_nil)))) pa_nil))))))))))))))), ?_⟩
  refine mks_ok M.wc rfl rfl _ H _ (by decide) fun ws H1 s1 w1 n1 => ⟨by rw [n1]; exact small _ (by decide), fun r1 hr1 => ?_⟩
  have t1 := s1.trans (same_new hr1 (.lst ws))
  have l1 : upd H1 r1 (.lst ws) r1 = some (.lst ws) := upd_same
  replace w1 : ∀ t ∈ ws, Mk (upd H1 r1 (.lst ws)) c v o t := fun t ht => (w1 t ht).mono (same_new hr1 (.lst ws))
  generalize upd H1 r1 (.lst ws) = G1 at t1 l1 w1 ⊢
  refine made_step t1 rfl l1 w1 n1 (by decide) (mks_ok M.wc rfl rfl _ · · (by decide)) fun r2 ws2 G2 hr2 t2 l2 w2 n2 => ?_
  refine made_step t2 rfl l2 w2 n2 (by decide) (mks_ok M.wc rfl rfl _ · · (by decide)) fun r3 ws3 G3 hr3 t3 l3 w3 n3 => ?_
  refine made_step t3 rfl l3 w3 n3 (by decide) (mks_ok M.wc rfl rfl _ · · (by decide)) fun r4 ws4 G4 hr4 t4 l4 w4 n4 => ?_
  refine made_step t4 rfl l4 w4 n4 (by decide) (mks_ok M.wc rfl rfl _ · · (by decide)) fun r5 ws5 G5 hr5 t5 l5 w5 n5 => ?_
  refine made_step t5 rfl l5 w5 n5 (by decide) (mks_ok M.wc rfl rfl _ · · (by decide)) fun r6 ws6 G6 hr6 t6 l6 w6 n6 => ?_
  refine made_step t6 rfl l6 w6 n6 (by decide) (mks_ok M.wc rfl rfl _ · · (by decide)) fun r7 ws7 G7 hr7 t7 l7 w7 n7 => ?_
  refine made_step t7 rfl l7 w7 n7 (by decide) (mks_ok M.wc rfl rfl _ · · (by decide)) fun r8 ws8 G8 hr8 t8 l8 w8 n8 => ?_
  refine made_step t8 rfl l8 w8 n8 (by decide) (mks_ok M.wc rfl rfl _ · · (by decide)) fun r9 ws9 G9 hr9 t9 l9 w9 n9 => ?_
  refine made_step t9 rfl l9 w9 n9 (by decide) (mks_ok M.wc rfl rfl _ · · (by decide)) fun r10 ws10 G10 hr10 t10 l10 w10 n10 => ?_
  refine made_step t10 rfl l10 w10 n10 (by decide) (fun _ _ z => mkT_ok rfl rfl z) fun r11 ws11 G11 hr11 t11 l11 w11 n11 => ?_
  exact q r11 ws11 G11 hr11 l11 t11 w11 n11
end
end K01

set_option Elab.async false
set_option linter.all false
set_option maxRecDepth 100000
set_option maxHeartbeats 400000
namespace K01
open PySem PySem.Spec L2 Wy
/-! ### data that repr shows, how long, how deep -/
def Nice (n m : Nat) (d : PyData) : Prop := d.showable = true ∧ d.shown.length ≤ n ∧ d.depth ≤ m
theorem Nice.le {n m n' m' : Nat} {d : PyData} (h : Nice n m d) (a : n ≤ n') (b : m ≤ m') : Nice n' m' d := ⟨h.1, Nat.le_trans h.2.1 a, Nat.le_trans h.2.2 b⟩
theorem all_nice {n m : Nat} : ∀ {ds : List PyData}, (∀ d ∈ ds, Nice n m d) → PyData.showableAll ds = true ∧ piled (PyData.shownAll ds) ≤ ds.length * (n + 2) ∧ PyData.depthAll ds ≤ m ∧ (PyData.shownAll ds).length = ds.length
  | [], _ => by simp [PyData.showableAll, PyData.shownAll, PyData.depthAll, piled]
  | d :: ds, h => by
    obtain ⟨a, b, c, e⟩ := all_nice (ds := ds) fun x hx => h x (List.mem_cons_of_mem _ hx)
    obtain ⟨a1, b1, c1⟩ := h d (List.mem_cons_self ..)
    refine ⟨by simp [PyData.showableAll, a, a1], ?_, ?_, by simp [PyData.shownAll, e]⟩
    · simp only [PyData.shownAll, piled, List.map_cons, List.sum_cons, List.length_cons]
      have z : ((PyData.shownAll ds).map fun t => t.length + 2).sum ≤ ds.length * (n + 2) := b
      have e2 : (ds.length + 1) * (n + 2) = ds.length * (n + 2) + (n + 2) := Nat.succ_mul _ _
      omega
    · simp only [PyData.depthAll]
      omega
theorem textFrom_le : ∀ (ts : List Str) (k : Nat) (acc : Str), (textFrom k acc ts).length ≤ acc.length + piled ts
  | [], k, acc => Nat.le_add_right _ _
  | t :: r, k, acc => by
    have h := textFrom_le r (k + 1) (acc ++ (if k > 0 then ", " else "" : String) ++ t)
    have e : (acc ++ (if k > 0 then ", " else "" : String) ++ t).length ≤ acc.length + 2 + t.length := by
      rw [strLen_append, strLen_append]
      split
      · exact Nat.le_refl _
      · show acc.length + 0 + t.length ≤ _
        omega
    have e2 : piled (t :: r) = (t.length + 2) + piled r := by simp [piled]
    show (textFrom (k + 1) _ r).length ≤ _
    omega
theorem nice_list {n m c : Nat} {ds : List PyData} (h : ∀ d ∈ ds, Nice n m d) (hc : ds.length ≤ c) : Nice (c * (n + 2) + 5) (m + 1) (.list ds) := by
  obtain ⟨a, b, e, _⟩ := all_nice h
  refine ⟨by simpa [PyData.showable] using a, ?_, by simp only [PyData.depth]; omega⟩
  simp only [PyData.shown, listText]
  rw [strLen_append]
  have z := textFrom_le (PyData.shownAll ds) 0 "["
  have y : ds.length * (n + 2) ≤ c * (n + 2) := Nat.mul_le_mul_right _ hc
  have u : (("[" : String) : Str).length = 1 := rfl
  have u2 : (("]" : String) : Str).length = 1 := rfl
  omega
theorem join_le (ts : List Str) : (Str.join ", " ts).length ≤ piled ts := by
  by_cases h : ts = []
  · subst h
    exact Nat.zero_le _
  · have := join_length_add ts h
    omega
theorem nice_tuple {n m c : Nat} {ds : List PyData} (h : ∀ d ∈ ds, Nice n m d) (hc : ds.length ≤ c) : Nice (c * (n + 2) + 5) (m + 1) (.tuple ds) := by
  obtain ⟨a, b, e, _⟩ := all_nice h
  refine ⟨by simpa [PyData.showable] using a, ?_, by simp only [PyData.depth]; omega⟩
  simp only [PyData.shown, tupleText]
  rw [strLen_append, strLen_append]
  have z := join_le (PyData.shownAll ds)
  have y : ds.length * (n + 2) ≤ c * (n + 2) := Nat.mul_le_mul_right _ hc
  have u : (("(" : String) : Str).length = 1 := rfl
  have u2 : ((if (PyData.shownAll ds).length == 1 then ",)" else ")" : String) : Str).length ≤ 2 := by
    split <;> decide
  omega
theorem nice_dict {n m : Nat} {d : PyData} (h : Nice n m d) (hm : 1 ≤ m) : Nice (n + 20) (m + 1) (.dict [(.str "a", d)]) := by
  obtain ⟨a, b, c⟩ := h
  refine ⟨by simp [PyData.showable, PyData.showableKv, a], ?_, ?_⟩
  · simp only [PyData.shown, PyData.shownKv, dictText]
    rw [strLen_append, strLen_append]
    have e : (reprText "a").length = 3 := by decide +kernel
    have z := join_le [reprText "a" ++ ": " ++ d.shown]
    have z2 : piled [reprText "a" ++ ": " ++ d.shown] = (reprText "a" ++ ": " ++ d.shown).length + 2 := by simp [piled]
    have z3 : (reprText "a" ++ ": " ++ d.shown).length = 3 + 2 + d.shown.length := by
      rw [strLen_append, strLen_append, e]
      rfl
    have u : (("{" : String) : Str).length = 1 := rfl
    have u2 : (("}" : String) : Str).length = 1 := rfl
    omega
  · simp only [PyData.depth, PyData.depthKv]
    omega
end K01

set_option Elab.async false
set_option linter.all false
set_option maxRecDepth 100000
set_option maxHeartbeats 1000000
namespace K01
open PySem PySem.Spec L2 Wy
section
variable {P : Program} {w : World} {K : PySem.W.Frag} {mg : Str → Option Value} {base : Heap}
def cD : Nat → Nat
  | 0 => 2
  | d + 1 => 2 + 2 * cD d
def lD : Nat → Nat
  | 0 => 20
  | d + 1 => 2 * (lD d + 2) + 20
theorem cD_pos (d : Nat) : 2 ≤ cD d := by cases d <;> simp [cD]
theorem lD_pos (d : Nat) : 20 ≤ lD d := by cases d <;> simp [lD]
/-- what stands in H' where nothing stood in H -/
def newH (H H' : Hp) : Hp := fun b => match H b with
  | none => H' b
  | some _ => none
theorem newH_of {H H' : Hp} {b : Addr} (h : H b = none) : newH H H' b = H' b := by
  unfold newH
  rw [h]
theorem newH_get {H H' : Hp} {b : Addr} {o : HO} (h : newH H H' b = some o) : H b = none ∧ H' b = some o := by
  unfold newH at h
  cases e : H b with
  | none =>
    rw [e] at h
    exact ⟨rfl, h⟩
  | some u =>
    rw [e] at h
    cases h
theorem newH_mono {A B H1 H2 : Hp} (h : ∀ b, B b = none → A b = none) (k : ∀ b o, B b = none → H1 b = some o → H2 b = some o) : Same (newH B H1) (newH A H2) := fun b o e => by
  obtain ⟨e1, e2⟩ := newH_get e
  rw [newH_of (h b e1)]
  exact k b o e1 e2
/-- data of a depth, all of it laid anew; but for the purse all stays -/
def spThing (K : PySem.W.Frag) (d : Nat) : Sp := fun vs H Q _ => ∃ (p lc : Addr) (n : Nat), vs = [.ref p, .int (d : Int)] ∧ Purse H p lc n ∧ n + cD d ≤ 100000 ∧
  ∀ (x : V) (dt : PyData) (H' : Hp), Dx K (newH H H') x dt → Nice (lD d) (d + 1) dt → Purse H' p lc (n + cD d) → (∀ b o, b ≠ p → H b = some o → H' b = some o) → Q x H'
def spNo : Sp := fun _ _ _ _ => False
/-- the promise of the call within -/
def spBelow (K : PySem.W.Frag) : Nat → Sp
  | 0 => spNo
  | d + 1 => spThing K d
theorem scalars {x : V} (h : x ∈ [V.non, .bl true, .int 0, .int (-7), .int 1000000000000, .str "", .str "fun", .str "\n"]) (H : Hp) : ∃ dt, Dx K H x dt ∧ Nice 20 1 dt := by
  simp only [List.mem_cons, List.not_mem_nil, or_false] at h
  rcases h with rfl | rfl | rfl | rfl | rfl | rfl | rfl | rfl
  · exact ⟨_, .non, rfl, by decide +kernel, by decide +kernel⟩
  · exact ⟨_, .bl _, rfl, by decide +kernel, by decide +kernel⟩
  · exact ⟨_, .int _, by decide +kernel, by decide +kernel, by decide +kernel⟩
  · exact ⟨_, .int _, by decide +kernel, by decide +kernel, by decide +kernel⟩
  · exact ⟨_, .int _, by decide +kernel, by decide +kernel, by decide +kernel⟩
  · exact ⟨_, .str _, rfl, by decide +kernel, by decide +kernel⟩
  · exact ⟨_, .str _, rfl, by decide +kernel, by decide +kernel⟩
  · exact ⟨_, .str _, rfl, by decide +kernel, by decide +kernel⟩
/-- what the list D of a comprehension holds after i turns -/
def Pv (K : PySem.W.Frag) (H0 : Hp) (p lc D : Addr) (n d : Nat) (i : Nat) (H' : Hp) : Prop := ∃ acc ds, H' D = some (.lst acc) ∧ DxAll K (newH (upd H0 D (.lst [])) H') acc ds ∧ (∀ x ∈ ds, Nice (lD d) (d + 1) x) ∧ acc.length = i ∧ Purse H' p lc (n + i * cD d) ∧ ∀ b o, b ≠ p → b ≠ D → H0 b = some o → H' b = some o
theorem pv_start {H : Hp} {p lc D : Addr} {n d : Nat} (hP : Purse H p lc n) (hD : H D = none) : Pv K H p lc D n d 0 (upd H D (.lst [])) := by
  obtain ⟨⟨op, hpo⟩, ⟨oc, hco⟩, hcp⟩ := hP.at_
  refine ⟨[], [], upd_same, .nil, fun _ z => (by cases z), rfl, ?_, fun b o _ hb e => (by rw [upd_ne hb]; exact e)⟩
  rw [Nat.zero_mul]
  refine hP.ex (fun o e => ?_) fun o e => ?_
  · rw [upd_ne (ne_of_none e hD)]
    exact e
  · rw [upd_ne (ne_of_none e hD)]
    exact e
/-- what stood at first stands later, somehow -/
theorem Pv.occ {H0 H1 : Hp} {p lc D : Addr} {n d i : Nat} (h : Pv K H0 p lc D n d i H1) : ∀ b, H1 b = none → (upd H0 D (.lst [])) b = none := by
  obtain ⟨acc, ds, h1, h2, h3, h4, h5, h6⟩ := h
  obtain ⟨⟨op, hpo⟩, _, _⟩ := h5.at_
  intro b hb
  have nD : b ≠ D := fun e => by
    rw [e, h1] at hb
    cases hb
  have np : b ≠ p := fun e => by
    rw [e, hpo] at hb
    cases hb
  rw [upd_ne nD]
  cases e : H0 b with
  | none => rfl
  | some o =>
    rw [h6 b o np nD e] at hb
    cases hb
theorem pv_turn {H0 H1 H2 : Hp} {p lc D : Addr} {n d i : Nat} {x : V} {dt : PyData} (hPD : p ≠ D) (hcD : lc ≠ D) (h0p : ∃ o, H0 p = some o) (h : Pv K H0 p lc D n d i H1) (hx : Dx K (newH H1 H2) x dt) (hn : Nice (lD d) (d + 1) dt) (hk : ∀ b o, b ≠ p → H1 b = some o → H2 b = some o) (hP : Purse H2 p lc (n + i * cD d + cD d)) :
    ∃ acc, H2 D = some (.lst acc) ∧ acc.length = i ∧ Pv K H0 p lc D n d (i + 1) (upd H2 D (.lst (acc ++ [x]))) := by
  have occ := h.occ
  obtain ⟨acc, ds, h1, h2, h3, h4, h5, h6⟩ := h
  obtain ⟨o0, h0p⟩ := h0p
  have nD : ∀ {b : Addr}, upd H0 D (.lst []) b = none → b ≠ D := fun {b} e z => by
    rw [z, upd_same] at e
    cases e
  have np : ∀ {b : Addr}, upd H0 D (.lst []) b = none → b ≠ p := fun {b} e z => by
    rw [z, upd_ne hPD, h0p] at e
    cases e
  refine ⟨acc, hk _ _ hPD.symm h1, h4, acc ++ [x], ds ++ [dt], upd_same, ?_, ?_, by rw [List.length_append, h4]; rfl, ?_, ?_⟩
  · refine .append (h2.mono (newH_mono (fun _ e => e) fun b o e e2 => ?_)) (.cons (hx.mono (newH_mono occ fun b o e e2 => ?_)) .nil)
    · rw [upd_ne (nD e)]
      exact hk b o (np e) e2
    · rw [upd_ne (nD (occ b e))]
      exact e2
  · intro y hy
    rcases List.mem_append.mp hy with hy | hy
    · exact h3 y hy
    · obtain rfl := List.mem_singleton.mp hy
      exact hn
  · refine (hP.ex (fun o e => ?_) fun o e => ?_).mono (by rw [Nat.succ_mul]; omega)
    · rw [upd_ne hPD]
      exact e
    · rw [upd_ne hcD]
      exact e
  · intro b o hb hbD e
    rw [upd_ne hbD]
    exact hk b o hb (h6 b o hb hbD e)
end
end K01

set_option Elab.async false
set_option linter.all false
set_option maxRecDepth 100000
set_option maxHeartbeats 1000000
namespace K01
open PySem PySem.Spec L2 Wy
section
variable {P : Program} {w : World} {K : PySem.W.Frag} {mg : Str → Option Value} {base : Heap}
/-- what is kept but for the purse -/
def Kp (p : Addr) (H H' : Hp) : Prop := ∀ b o, b ≠ p → H b = some o → H' b = some o
theorem Kp.occ {p lc : Addr} {n : Nat} {H H' : Hp} (k : Kp p H H') (hP : Purse H' p lc n) : ∀ b, H' b = none → H b = none := fun b e => by
  obtain ⟨⟨o, z⟩, _, _⟩ := hP.at_
  have nb : b ≠ p := fun y => by
    rw [y, z] at e
    cases e
  cases h : H b with
  | none => rfl
  | some u =>
    rw [k b u nb h] at e
    cases e
def tComp (K : PySem.W.Frag) (d : Nat) : TE := tLc (iRng1 (tCons (tCall spDraw [] E0 (tCons (tVar 0) (tCons (tC (V.int 3)) tNil))) tNil)) (gName 3) tYes
  (tCall (spBelow K d) [] E0 (tCons (tVar 0) (tCons (tOp (rI0 fun i j => V.int (i - j)) (tVar 1) (tC (V.int 1))) tNil))) [3]
theorem dec1 (d : Nat) (p : Addr) : ([V.ref p, V.int (((d + 1 : Nat) : Int) - 1)] ++ [] : List V) = [V.ref p, V.int (d : Int)] := by
  rw [show (((d + 1 : Nat) : Int) - 1) = (d : Int) by omega]
  rfl
theorem comp_ok {p lc : Addr} {n d : Nat} {way : Option V} {H1 : Hp} {Q : VK} (hP : Purse H1 p lc n) (hn : n + 1 + 2 * cD d ≤ 100000)
    (q : ∀ (D : Addr) (acc : List V) (ds : List PyData) (H3 : Hp), H1 D = none → H3 D = some (.lst acc) → DxAll K (newH H1 H3) acc ds → (∀ x ∈ ds, Nice (lD d) (d + 1) x) → ds.length ≤ 2 → acc.length ≤ 2 → Purse H3 p lc (n + 1 + 2 * cD d) → Kp p H1 H3 → Q (.ref D) H3) :
    tComp K (d + 1) [some (.ref p), some (.int ((d + 1 : Nat) : Int)), way, none] H1 Q := by
  refine ⟨_, rfl, p, lc, _, n, rfl, hP, by omega, by decide, by decide, fun r H2 hr0 hr1 hP2 hk2 => ?_⟩
  have b62 : (2 : Int) ^ 62 = 4611686018427387904 := by decide
  refine ⟨r, rfl, by omega, by omega, fun D hD => ?_⟩
  obtain ⟨⟨op, hpo⟩, ⟨oc, hco⟩, hcp⟩ := hP2.at_
  have hPD : p ≠ D := ne_of_none hpo hD
  have hcD : lc ≠ D := ne_of_none hco hD
  have hr3 : r.toNat ≤ 2 := by omega
  have kp2 : Kp p H1 H2 := fun b o nb e => (hk2 b nb).trans e
  refine lc_range (Pv K H2 p lc D (n + 1) d) (pv_start hP2 hD) (fun i H3 hi h3 => ?_) (fun H3 h3 => ?_)
  · refine ⟨rfl, ?_⟩
    have h5 := h3
    obtain ⟨acc, ds, y1, y2, y3, y4, y5, y6⟩ := h3
    have hi2 : i * cD d ≤ 1 * cD d := Nat.mul_le_mul_right _ (by omega)
    have c2 := cD_pos d
    refine ⟨_, rfl, _, rfl, _, _, rfl, rfl, p, lc, n + 1 + i * cD d, dec1 d p, y5, by omega, fun x dt H4 hx hnice hP4 hk4 => ?_⟩
    obtain ⟨acc', z1, z2, z3⟩ := pv_turn hPD hcD ⟨_, hpo⟩ h5 hx hnice hk4 hP4
    exact ⟨acc', z1, by rw [z2]; exact Nat.lt_of_lt_of_le (show i < 100 by omega) (small _ (by decide)), z3⟩
  · have occ := h3.occ
    obtain ⟨acc, ds, y1, y2, y3, y4, y5, y6⟩ := h3
    have hi2 : r.toNat * cD d ≤ 2 * cD d := Nat.mul_le_mul_right _ hr3
    have hD1 : H1 D = none := kp2.occ hP2 D hD
    refine q D acc ds H3 hD1 y1 (y2.mono (newH_mono (fun b e => ?_) fun b o e e2 => e2)) y3 (by rw [← y2.length, y4]; exact hr3) (by omega) (y5.mono (by omega)) fun b o nb e => y6 b o nb (ne_of_none (kp2 b o nb e) hD) (kp2 b o nb e)
    have nD : b ≠ D := fun z => by
      rw [z, upd_same] at e
      cases e
    rw [upd_ne nD] at e
    exact kp2.occ hP2 b e
def tPicks : TA := (tCons (tVar 0) (tCons (tLst (tCons (tC V.non) (tCons (tC (V.bl true)) (tCons (tC (V.int 0)) (tCons (tUn (rU fun i => V.int (-i)) (tC (V.int 7))) (tCons (tOp (rI CPow fun i j => V.int (i ^ j.toNat)) (tC (V.int 10)) (tC (V.int 12))) (tCons (tC (V.str "")) (tCons (tC (V.str "fun")) (tCons (tC (V.str "\n")) tNil))))))))) tNil))
theorem picks_ok {p lc : Addr} {n : Nat} {σ : St} {H1 : Hp} {Q : VK} (h0 : σ[0]? = some (some (.ref p))) (hP : Purse H1 p lc n) (hn : n + 1 ≤ 100000)
    (q : ∀ (x : V) (dt : PyData) (H' : Hp), (∀ G, Dx K G x dt) → Nice 20 1 dt → Purse H' p lc (n + 1) → Kp p H1 H' → Q x H') : tCall (spPick K) [] E0 tPicks σ H1 Q := by
  refine ⟨_, h0, _, rfl, _, _, rfl, rfl, ⟨by decide, by decide, by decide⟩, small _ (by show 8 ≤ 100000; decide), fun t ht => ?_⟩
  obtain ⟨⟨op, hpo⟩, ⟨oc, hco⟩, hcp⟩ := hP.at_
  have hpt : p ≠ t := ne_of_none hpo ht
  have hct : lc ≠ t := ne_of_none hco ht
  refine ⟨p, lc, t, _, n, rfl, hP.ex (fun o e => by rw [upd_ne hpt]; exact e) (fun o e => by rw [upd_ne hct]; exact e), by omega, SqL.of upd_same, hpt.symm, (fun z => by cases z), (by decide), fun x H' hx hP' hk => ?_⟩
  have hx' : x ∈ [V.non, .bl true, .int 0, .int (-7), .int 1000000000000, .str "", .str "fun", .str "\n"] := hx
  obtain ⟨dt, h1, h2⟩ := scalars (K := K) hx' H1
  refine q x dt H' (fun G => ?_) h2 hP' fun b o nb e => ?_
  · simp only [List.mem_cons, List.not_mem_nil, or_false] at hx'
    rcases hx' with rfl | rfl | rfl | rfl | rfl | rfl | rfl | rfl
    · cases h1
      exact .non
    · cases h1
      exact .bl _
    · cases h1
      exact .int _
    · cases h1
      exact .int _
    · cases h1
      exact .int _
    · cases h1
      exact .str _
    · cases h1
      exact .str _
    · cases h1
      exact .str _
  · rw [hk b nb, upd_ne (ne_of_none e ht)]
    exact e
theorem scThing : FnScope ["purse", "deep", "way", "part"] ["purse", "deep"] (defScope sThing) := ⟨rfl, rfl, rfl, by decide +kernel, rfl, by decide +kernel, by decide +kernel⟩
theorem th_step {f f_law_draw f_law_pick : Addr} {fd fd_law_draw fd_law_pick : FuncData} {d k : Nat} (D : Df K mg "_law_thing" sThing f fd) (D_law_draw : Df K mg "_law_draw" sDraw f_law_draw fd_law_draw) (D_law_pick : Df K mg "_law_pick" sPick f_law_pick fd_law_pick) (T : Txt0 mg)
    (G : FnOk P w K mg base CX0 (k + 3) f fd ["purse", "deep"] (spBelow K d)) : FnOk P w K mg base CX0 (k + 4) f fd ["purse", "deep"] (spThing K d) := by
  have SC := scThing
  have G_law_draw : FnOk P w K mg base CX0 1 f_law_draw fd_law_draw ["purse", "many"] spDraw := ok_draw D_law_draw T
  have B_law_draw : Binds K fd_law_draw ["purse", "many"] [] := D_law_draw.fn.bindsN fun _ _ _ _ _ _ us hl => match us, hl with | [_, _], _ => rfl
  have G_law_pick : FnOk P w K mg base CX0 2 f_law_pick fd_law_pick ["purse", "things"] (spPick K) := ok_pick D_law_pick D_law_draw T
  have B_law_pick : Binds K fd_law_pick ["purse", "things"] [] := D_law_pick.fn.bindsN fun _ _ _ _ _ _ us hl => match us, hl with | [_, _], _ => rfl
  have B : Binds K fd ["purse", "deep"] [] := D.fn.bindsN fun _ _ _ _ _ _ us hl => match us, hl with | [_, _], _ => rfl
  refine D.fn.ok scThing (fun vs H Q E h => ?_) (fun cdv A outer s H vs Q E hr h => ?_)
  · obtain ⟨p, lc, n, rfl, _⟩ := h
    rfl
  obtain ⟨p, lc, n, rfl, hP, hn, q⟩ := h
  refine ⟨_, PSs.nox (pss_cons (ps_set (i := 2) SC.nd rfl (Or.inl rfl) (pe_call G_law_draw (hr.mono (by omega)) rfl D_law_draw.gl D_law_draw.fn.kp B_law_draw .nil pass0 (pa_cons (pv 0) (pa_cons pe_int pa_nil))))
    (pss_cons (ps_if (PW.pt (pw_or (pt_cmpR op_eq (pv 1) pe_int (nomark _)) (pw_or1 (pt_cmpR op_lt (pv 2) pe_int (nomark _))))) (pss_one (ps_ret (pe_call G_law_pick (hr.mono (by omega)) rfl D_law_pick.gl D_law_pick.fn.kp B_law_pick .nil pass0 (pa_cons (pv 0) (pa_cons (pe_lst (pa_cons pe_non (pa_cons pe_bl (pa_cons pe_int (pa_cons (pe_un un_neg pe_int) (pa_cons (pe_op op_pow pe_int pe_int) (pa_cons pe_str (pa_cons pe_str (pa_cons pe_str pa_nil))))))))) pa_nil))))) pss_nil)
    (pss_cons (ps_if (pt_cmpR op_lt (pv 2) pe_int (nomark _)) (pss_one (ps_ret (pe_lc (own := [("part", 3)]) (g := (gName 3)) (by rfl) SC.nd (pi_range1 rfl T.n_range (pa_cons (pe_call G_law_draw (hr.mono (by omega)) rfl D_law_draw.gl D_law_draw.fn.kp B_law_draw .nil pass0 (pa_cons (pv 0) (pa_cons pe_int pa_nil))) pa_nil)) (blkOk_by (own := [("part", 3)]) (N := ["purse", "deep", "way", "part"]) (sc := defScope sThing) (by decide +kernel)) (fun _ _ _ _ _ => (pg_name (i := 3) SC.nd rfl (Or.inl rfl))) (fun _ _ _ _ _ => pts_nil) (fun _ _ _ _ _ => (pe_call G (hr.mono (by omega)) rfl D.gl D.fn.kp B .nil pass0 (pa_cons (pv 0) (pa_cons (pe_op op_sub (pv 1) pe_int) pa_nil))))))) pss_nil)
    (pss_one (ps_ret (pe_ifExp (pt_cmpR op_eq (pv 2) pe_int (nomark _)) (pe_callTy call_tuple_of (by rfl) T.n_tuple (by decide +kernel) (pa_cons (pe_lc (own := [("part", 3)]) (g := (gName 3)) (by rfl) SC.nd (pi_range1 rfl T.n_range (pa_cons (pe_call G_law_draw (hr.mono (by omega)) rfl D_law_draw.gl D_law_draw.fn.kp B_law_draw .nil pass0 (pa_cons (pv 0) (pa_cons pe_int pa_nil))) pa_nil)) (blkOk_by (own := [("part", 3)]) (N := ["purse", "deep", "way", "part"]) (sc := defScope sThing) (by decide +kernel)) (fun _ _ _ _ _ => (pg_name (i := 3) SC.nd rfl (Or.inl rfl))) (fun _ _ _ _ _ => pts_nil) (fun _ _ _ _ _ => (pe_call G (hr.mono (by omega)) rfl D.gl D.fn.kp B .nil pass0 (pa_cons (pv 0) (pa_cons (pe_op op_sub (pv 1) pe_int) pa_nil))))) pa_nil)) (pe_disp (pps_cons pe_str (pe_call G (hr.mono (by omega)) rfl D.gl D.fn.kp B .nil pass0 (pa_cons (pv 0) (pa_cons (pe_op op_sub (pv 1) pe_int) pa_nil))) pps_nil) (by rfl) (by rfl) (fun z => by cases z) (by decide)))))))), ?_⟩
  obtain ⟨⟨op, hpo⟩, ⟨oc, hco⟩, hcp⟩ := hP.at_
  have c2 := cD_pos d
  refine ⟨_, rfl, p, lc, _, n, rfl, hP, by omega, by decide, by decide, fun r H1 hr0 hr1 hP1 hk1 => ?_⟩
  have kp1 : Kp p H H1 := fun b o nb e => (hk1 b nb).trans e
  have occ1 := kp1.occ hP1
  have picked : tCall (spPick K) [] E0 tPicks [some (.ref p), some (.int (d : Int)), some (.int r), none] H1 Q := by
    refine picks_ok rfl hP1 (by omega) fun x dt H' hx hnice hP' hk => q x dt H' (hx _) (hnice.le (lD_pos d) (Nat.succ_le_succ (Nat.zero_le _))) (hP'.mono (by omega)) fun b o nb e => hk b o nb (kp1 b o nb e)
  refine ⟨_, rfl, rfl, _, rfl, ?_⟩
  refine ite2 (fun c => picked) (fun c => ?_)
  have hd : d ≠ 0 := fun z => by
    subst z
    exact c (by decide)
  obtain ⟨e, rfl⟩ := Nat.exists_eq_succ_of_ne_zero hd
  refine ⟨_, rfl, _, _, rfl, rfl, _, rfl, ?_⟩
  refine ite2 (fun c => picked) (fun c => ?_)
  have hcd : cD (e + 1) = 2 + 2 * cD e := rfl
  have hcd' : cD e.succ = 2 + 2 * cD e := rfl
  have occN : ∀ {H3 : Hp}, Same (newH H1 H3) (newH H H3) := fun {H3} => newH_mono occ1 fun b o _ e => e
  have fin : ∀ {H3 H4 : Hp} {D : Addr} {o : HO}, Kp p H1 H3 → H1 D = none → upd H3 D o = H4 → Kp p H H4 := fun {H3 H4 D o} k hD z b u nb e => by
    rw [← z, upd_ne (ne_of_none (kp1 b u nb e) hD)]
    exact k b u nb (kp1 b u nb e)
  refine ⟨_, rfl, _, _, rfl, rfl, _, rfl, ?_⟩
  refine ite2 (fun c => ?_) (fun c => ?_)
  · refine comp_ok hP1 (by omega) fun D acc ds H3 hD hg hx hnice hl hla hP3 hk3 => ?_
    refine q _ _ H3 (.lst (xs := acc) (.of ?_) (hx.mono occN)) ((nice_list hnice hl).le ?_ (Nat.le_refl _)) (hP3.mono (by omega)) fun b o nb e => hk3 b o nb (kp1 b o nb e)
    · rw [newH_of (occ1 D hD)]
      exact hg
    · show 2 * (lD e + 2) + 5 ≤ 2 * (lD e + 2) + 20
      omega
  refine ⟨_, rfl, rfl, _, rfl, ?_⟩
  refine ite2 (fun c => ?_) (fun c => ?_)
  · refine comp_ok hP1 (by omega) fun D acc ds H3 hD hg hx hnice hl hla hP3 hk3 => ?_
    refine ⟨D, acc, rfl, .inl ⟨SqL.of hg, fun t ht => ?_⟩⟩
    have s3 := same_new ht (.tup acc)
    have ht1 : H t = none := occ1 t (hk3.occ hP3 t ht)
    have hpt : p ≠ t := ne_of_none hpo ht1
    have hct : lc ≠ t := ne_of_none hco ht1
    refine q _ _ (upd H3 t (.tup acc)) (.tup (xs := acc) (.of ?_) ((hx.mono occN).mono (newH_mono (fun b e => e) fun b o e e2 => s3 _ _ e2))) ((nice_tuple hnice hl).le ?_ (Nat.le_refl _)) ((hP3.ex (fun o e => s3 _ _ e) fun o e => s3 _ _ e).mono (by omega)) fun b o nb e => s3 _ _ (hk3 b o nb (kp1 b o nb e))
    · rw [newH_of ht1]
      exact upd_same
    · show 2 * (lD e + 2) + 5 ≤ 2 * (lD e + 2) + 20
      omega
  · intro t ht
    have s3 := same_new ht (.dK [])
    have ht1 : H t = none := occ1 t ht
    have hpt : p ≠ t := ne_of_none hpo ht1
    have hct : lc ≠ t := ne_of_none hco ht1
    refine ⟨_, rfl, _, rfl, _, _, rfl, rfl, p, lc, n + 1, dec1 e p, hP1.ex (fun o e => s3 _ _ e) (fun o e => s3 _ _ e), by omega, fun x dt H4 hx hnice hP4 hk4 => ?_⟩
    refine ⟨hk4 _ _ hpt.symm upd_same, [(.inr "a", x)], rfl, (by show 1 ≤ 15; decide), ?_⟩
    have kp4 : ∀ b o, b ≠ t → H4 b = some o → upd H4 t (.dK (mergeK [] [(.inr "a", x)])) b = some o := fun b o nb e => by
      rw [upd_ne nb]
      exact e
    have nt : ∀ {b : Addr}, upd H1 t (.dK []) b = none → b ≠ t := fun {b} e z => by
      rw [z, upd_same] at e
      cases e
    refine q _ _ _ (.dct (kvs := [(.inr "a", x)]) ?_ (.cons (hx.mono (newH_mono (fun b e => ?_) fun b o e e2 => ?_)) .nil)) ((nice_dict hnice (by omega)).le ?_ (Nat.le_refl _)) ((hP4.ex (fun o e => ?_) fun o e => ?_).mono (by omega)) fun b o nb e => ?_
    · rw [newH_of ht1, upd_same]
      rfl
    · rw [upd_ne (nt e)] at e
      exact occ1 b e
    · exact kp4 b o (nt e) e2
    · show lD e + 20 ≤ 2 * (lD e + 2) + 20
      omega
    · exact kp4 _ _ hpt e
    · exact kp4 _ _ hct e
    · exact kp4 b o (ne_of_none e ht1) (hk4 b o nb (s3 _ _ (kp1 b o nb e)))
theorem ok_no {k : Nat} {f : Addr} {fd : FuncData} {ps : List Str} : FnOk P w K mg base CX0 k f fd ps spNo := ⟨fun _ _ _ _ h => h.elim, fun _ _ _ _ _ _ _ _ _ _ _ _ _ h => h.elim⟩
theorem ok_thing {f f_law_draw f_law_pick : Addr} {fd fd_law_draw fd_law_pick : FuncData} (D : Df K mg "_law_thing" sThing f fd) (D_law_draw : Df K mg "_law_draw" sDraw f_law_draw fd_law_draw) (D_law_pick : Df K mg "_law_pick" sPick f_law_pick fd_law_pick) (T : Txt0 mg) :
    ∀ d, FnOk P w K mg base CX0 (d + 4) f fd ["purse", "deep"] (spThing K d)
  | 0 => th_step (k := 0) D D_law_draw D_law_pick T ok_no
  | d + 1 => th_step (k := d + 1) D D_law_draw D_law_pick T (ok_thing D D_law_draw D_law_pick T d)
end
end K01

set_option Elab.async false
set_option linter.all false
set_option maxRecDepth 100000
set_option maxHeartbeats 1000000
namespace K01
open PySem PySem.Spec L2 Wy
section
variable {P : Program} {w : World} {K : PySem.W.Frag} {mg : Str → Option Value} {base : Heap}
theorem exo_lst {e C : Addr} {d : Option Addr} {xs : List V} : exo e C d ≠ .lst xs := fun h => by
  unfold exo at h
  cases h
theorem exd_lst {e : Addr} {fs : List (Str × V)} {xs : List V} : exd e fs ≠ .lst xs := fun h => by
  unfold exd at h
  cases h
/-- what is no list is kept -/
def Knl (H H' : Hp) : Prop := ∀ b u, (∀ xs, u ≠ .lst xs) → H b = some u → H' b = some u
theorem Knl.exAt {H H' : Hp} (k : Knl H H') {C a dx : Addr} {fs : List (Str × V)} (h : ExAt H C a dx fs) : ExAt H' C a dx fs := ⟨k _ _ (fun _ => exo_lst) h.1, k _ _ (fun _ => exd_lst) h.2⟩
theorem Knl.mk {H H' : Hp} (k : Knl H H') {c : Nat → Addr} {v o t : V} : Mk H c v o t → Mk H' c v o t := by
  rintro ⟨p, a, b, d, e, fa, fb, x, i, h1, h2, h3, h4, h5, h6, h7⟩
  exact ⟨p, a, b, d, e, fa, fb, x, i, h1, h2, k _ _ (fun _ z => by cases z) h3, k.exAt h4, h5, k.exAt h6, h7⟩
theorem Knl.of_same {H H' : Hp} (s : Same H H') : Knl H H' := fun b u _ e => s b u e
theorem Knl.of_kp {H H' : Hp} {p : Addr} {xs : List V} (hp : H p = some (.lst xs)) (k : Kp p H H') : Knl H H' := fun b u n e => k b u (fun z => by
  rw [z, hp] at e
  cases e
  exact n _ rfl) e
theorem Knl.trans {H H1 H2 : Hp} (a : Knl H H1) (b : Knl H1 H2) : Knl H H2 := fun x u n e => b x u n (a x u n e)
theorem Purse.lst {H : Hp} {p lc : Addr} {n : Nat} (h : Purse H p lc n) : ∃ xs, H p = some (.lst xs) := by
  obtain ⟨cs, i, cur, k, seed, a1, _⟩ := h
  exact ⟨_, a1⟩
theorem Purse.lst2 {H : Hp} {p lc : Addr} {n : Nat} (h : Purse H p lc n) : ∃ xs, H lc = some (.lst xs) := by
  obtain ⟨cs, i, cur, k, seed, a1, a2, _⟩ := h
  exact ⟨_, a2⟩
theorem nms_ok : ∀ x ∈ nms, PyData.strOk x = true := by decide +kernel
theorem shW {x : Str} {k : Nat} (h : nms[k]? = some x) : SeqAt.shaped (.list [.str x]) = true := by
  have z := nms_ok x (List.mem_of_getElem? h)
  simp [SeqAt.shaped, PyData.canLay0, PyData.canLayAll0, PyData.depth, PyData.depthAll, z]
theorem eqW (x : Str) : PyData.eqv (.list [.str x]) (.list [.str x]) = true := by
  simp [PyData.eqv, PyData.eqvAll]
/-- other's data after j turns -/
def dO (d2 : PyData) (j : Nat) : PyData := .list (d2 :: List.replicate j (.str "late"))
def xO (x2 : V) (j : Nat) : List V := x2 :: List.replicate j (.str "late")
theorem xO_succ (x2 : V) (j : Nat) : xO x2 j ++ [.str "late"] = xO x2 (j + 1) := by
  unfold xO
  rw [List.cons_append, ← List.replicate_succ']
theorem dxRep {H : Hp} : ∀ j, DxAll K H (List.replicate j (.str "late")) (List.replicate j (.str "late"))
  | 0 => .nil
  | j + 1 => .cons (.str _) (dxRep j)
theorem niceO {d2 : PyData} {j : Nat} (h : Nice (lD 2) 3 d2) (hj : j ≤ 40) : Nice 7000 4 (dO d2 j) := by
  refine (nice_list (n := lD 2) (m := 3) (c := 41) (fun d hd => ?_) ?_).le (by decide) (Nat.le_refl _)
  · rcases List.mem_cons.mp hd with rfl | hd
    · exact h
    · obtain ⟨_, rfl⟩ := List.mem_replicate.mp hd
      exact ⟨rfl, by decide +kernel, by decide +kernel⟩
  · rw [List.length_cons, List.length_replicate]
    omega
theorem niceP {d1 d : PyData} (h1 : Nice (lD 3) 4 d1) (h : Nice 7000 4 d) : Nice 15000 5 (.list [d1, d]) := by
  refine (nice_list (n := 7000) (m := 4) (c := 2) (fun x hx => ?_) (Nat.le_refl _)).le (by decide) (Nat.le_refl _)
  rcases List.mem_cons.mp hx with rfl | hx
  · exact h1.le (by decide) (Nat.le_refl _)
  · obtain rfl := List.mem_singleton.mp hx
    exact h
theorem Nice.ok {n m : Nat} {d : PyData} (h : Nice n m d) (hn : n ≤ 100000) (hm : m ≤ 60) : d.showable = true ∧ d.shown.length ≤ sizeLine ∧ d.depth ≤ 60 := ⟨h.1, Nat.le_trans h.2.1 (small _ hn), Nat.le_trans h.2.2 hm⟩
/-- words(e) != [word] asked where it holds not -/
theorem ask_words {c : Nat → Addr} {i j : Nat} {σ : St} {H : Hp} {Q : Bool → Hp → Prop} {a dx : Addr} {fs : List (Str × V)} {k : Nat} {x : Str} (hi : σ[i]? = some (some (.ref a))) (hj : σ[j]? = some (some (.str x))) (ea : ExAt H (c k) a dx fs) (hx : nms[k]? = some x) (q : ∀ H', Same H H' → Q false H') :
    tTest (tOp (rNeD K) (tCall (spWords c) [] E0 (tCons (tVar i) tNil)) (tLst (tCons (tVar j) tNil))) σ H Q := by
  refine ⟨_, hi, a, dx, fs, k, x, rfl, ea, hx, fun r H1 hr hl s1 => ⟨_, hj, small _ (by show 1 ≤ 100000; decide), fun t ht => ?_⟩⟩
  have s2 := same_new ht (.lst [.str x])
  refine ⟨.list [.str x], .list [.str x], .lst (xs := [.str x]) (SqL.of (s2 _ _ hl)) (.cons (.str x) .nil), .lst (xs := [.str x]) (SqL.of upd_same) (.cons (.str x) .nil), shW hx, shW hx, _, rfl, ?_⟩
  rw [eqW]
  exact q _ (s1.trans s2)
theorem ifT {A B : Prop} (h : A) : if true = true then A else B := h
theorem ifF {A B : Prop} (h : B) : if false = true then A else B := h
theorem scLaw : FnScope ["script", "purse", "turn", "thing", "other", "word", "one", "late", "text", "nothing"] ["script"] (defScope sLaw) := ⟨rfl, rfl, rfl, by decide +kernel, rfl, by decide +kernel, by decide +kernel⟩
def spLaw (K : PySem.W.Frag) : Sp := fun vs H Q _ => ∃ (a : Addr) (ns : List Int), vs = [.ref a] ∧ SqL K H a (ns.map V.int) ∧ ns.length ≤ 63 ∧ ∀ H', Q (.bl true) H'
theorem ok_law {f f_law_purse f_law_draw f_law_pick f_law_shuffled f_law_words f_law_made f_law_thing : Addr} {fd fd_law_purse fd_law_draw fd_law_pick fd_law_shuffled fd_law_words fd_law_made fd_law_thing : FuncData} {c : Nat → Addr} {wE fW fT fU fR : Addr} {dW dT dU dR : FuncData} (smK : SmK K) (D : Df K mg "law" sLaw f fd) (D_law_purse : Df K mg "_law_purse" sPurse f_law_purse fd_law_purse) (D_law_draw : Df K mg "_law_draw" sDraw f_law_draw fd_law_draw) (D_law_pick : Df K mg "_law_pick" sPick f_law_pick fd_law_pick) (D_law_shuffled : Df K mg "_law_shuffled" sShuf f_law_shuffled fd_law_shuffled) (D_law_words : Df K mg "_law_words" sWords f_law_words fd_law_words) (D_law_made : Df K mg "_law_made" sMade f_law_made fd_law_made) (D_law_thing : Df K mg "_law_thing" sThing f_law_thing fd_law_thing) (T : Txt0 mg) (C : Cs K mg c wE) (M : Mks P K mg c wE fW fT fU fR dW dT dU dR) :
    FnG P w K mg base CX0 8 f fd ["script"] (spLaw K) := by
  have SC := scLaw
  have G_law_purse : FnOk P w K mg base CX0 1 f_law_purse fd_law_purse ["script"] (spPurse K) := ok_purse D_law_purse T
  have G_law_shuffled : FnOk P w K mg base CX0 2 f_law_shuffled fd_law_shuffled ["purse", "things"] (spShuf K) := ok_shuf D_law_shuffled D_law_draw T
  have G_law_words : FnOk P w K mg base CX0 1 f_law_words fd_law_words ["error"] (spWords c) := ok_words D_law_words T C
  have G_law_made : FnOk P w K mg base CX0 4 f_law_made fd_law_made ["thing", "other"] (spMade c) := ok_made D_law_made C M
  have G3 : FnOk P w K mg base CX0 7 f_law_thing fd_law_thing ["purse", "deep"] (spThing K 3) := ok_thing D_law_thing D_law_draw D_law_pick T 3
  have G2 : FnOk P w K mg base CX0 6 f_law_thing fd_law_thing ["purse", "deep"] (spThing K 2) := ok_thing D_law_thing D_law_draw D_law_pick T 2
  have GT : FnOk P w K mg base CX0 2 fT dT ["self", "value", "row", "column"] (spText K wE (c 20)) := ok_text M.text M.sup
  have GU : FnOk P w K mg base CX0 2 fU dU ["self"] (spNone K wE (c 21)) := ok_none M.undo M.sup
  have GR : FnOk P w K mg base CX0 2 fR dR ["self"] (spNone K wE (c 22)) := ok_none M.redo M.sup
  have B_law_purse : Binds K fd_law_purse ["script"] [] := D_law_purse.fn.bindsN fun _ _ _ _ _ _ us hl => match us, hl with | [_], _ => rfl
  have B_law_shuffled : Binds K fd_law_shuffled ["purse", "things"] [] := D_law_shuffled.fn.bindsN fun _ _ _ _ _ _ us hl => match us, hl with | [_, _], _ => rfl
  have B_law_words : Binds K fd_law_words ["error"] [] := D_law_words.fn.bindsN fun _ _ _ _ _ _ us hl => match us, hl with | [_], _ => rfl
  have B_law_made : Binds K fd_law_made ["thing", "other"] [] := D_law_made.fn.bindsN fun _ _ _ _ _ _ us hl => match us, hl with | [_, _], _ => rfl
  have B_law_thing : Binds K fd_law_thing ["purse", "deep"] [] := D_law_thing.fn.bindsN fun _ _ _ _ _ _ us hl => match us, hl with | [_, _], _ => rfl
  refine FnG.ok D scLaw (fun vs H Q E h => ?_) (fun cdv A outer s H vs Q E hr hgu h => ?_)
  · obtain ⟨a, ns, rfl, _⟩ := h
    rfl
  have hu := hr.units
  obtain ⟨a, ns, rfl, hS, hlen, q⟩ := h
  refine ⟨_, PSs.nox (pss_cons (ps_set (i := 1) SC.nd rfl (Or.inl rfl) (pe_call G_law_purse (hr.mono (by decide)) rfl D_law_purse.gl D_law_purse.fn.kp B_law_purse .nil pass0 (pa_cons (pv 0) pa_nil)))
    (pss_cons (ps_for PassesOwn.never rfl (pi_range1 rfl T.n_range (pa_cons pe_int pa_nil)) (pg_name (i := 2) SC.nd rfl (Or.inl rfl)) (pss_cons (ps_par (i := 3) (j := 4) (by rfl) SC.nd rfl rfl (by decide) rfl rfl (pa_cons (pe_call G3 (hr.mono (by decide)) rfl D_law_thing.gl D_law_thing.fn.kp B_law_thing .nil pass0 (pa_cons (pv 1) (pa_cons pe_int pa_nil))) (pa_cons (pe_lst (pa_cons (pe_call G2 (hr.mono (by decide)) rfl D_law_thing.gl D_law_thing.fn.kp B_law_thing .nil pass0 (pa_cons (pv 1) (pa_cons pe_int pa_nil))) pa_nil)) pa_nil)) (by rfl))
    (pss_one (ps_for PassesOwn.never rfl (pi_list (pe_call G_law_shuffled (hr.mono (by decide)) rfl D_law_shuffled.gl D_law_shuffled.fn.kp B_law_shuffled .nil pass0 (pa_cons (pv 1) (pa_cons (pe_call G_law_made (hr.mono (by decide)) rfl D_law_made.gl D_law_made.fn.kp B_law_made .nil pass0 (pa_cons (pv 3) (pa_cons (pv 4) pa_nil))) pa_nil)))) (pg_tup (by rfl) (pgs_cons (pg_name (i := 5) SC.nd rfl (Or.inl rfl)) (pgs_cons (pg_name (i := 6) SC.nd rfl (Or.inl rfl)) (pgs_cons (pg_name (i := 7) SC.nd rfl (Or.inl rfl)) pgs_nil)))) (pss_cons (ps_if (PW.pt (pw_or (pt_cmpR (op_neD hu) (pe_call G_law_words (hr.mono (by decide)) rfl D_law_words.gl D_law_words.fn.kp B_law_words .nil pass0 (pa_cons (pv 6) pa_nil)) (pe_lst (pa_cons (pv 5) pa_nil)) (nomark _)) (pw_or (pt_cmpR (op_neD hu) (pe_call G_law_words (hr.mono (by decide)) rfl D_law_words.gl D_law_words.fn.kp B_law_words .nil pass0 (pa_cons (pv 7) pa_nil)) (pe_lst (pa_cons (pv 5) pa_nil)) (nomark _)) (pw_or (pt_not (pt_val (pe_callB call_isX (by rfl) T.n_isinstance (by decide +kernel) (pa_cons (pv 6) (pa_cons (pe_bltn (v := .ty "ValueError") (by rfl) T.n_ValueError (by decide +kernel) rfl) pa_nil))))) (pw_or1 (pt_not (pt_val (pe_callB call_isX (by rfl) T.n_isinstance (by decide +kernel) (pa_cons (pv 7) (pa_cons (pe_glob (v := .ref wE) rfl C.gw rfl) pa_nil)))))))))) (pss_one (ps_ret pe_bl)) pss_nil)
    (pss_cons (ps_if (pt_cmpR op_ne (pe_callB (call_repr smK hgu hu) (by rfl) T.n_repr (by decide +kernel) (pa_cons (pe_lst (pa_cons (pe_xfld (pv 6)) (pa_cons (pe_xfld (pv 7)) pa_nil))) pa_nil)) (pe_callB (call_repr smK hgu hu) (by rfl) T.n_repr (by decide +kernel) (pa_cons (pe_lst (pa_cons (pv 3) (pa_cons (pv 4) pa_nil))) pa_nil)) (nomark _)) (pss_one (ps_ret pe_bl)) pss_nil)
    (pss_cons (ps_expr (pe_bm PySem.F.plainAttrs_list PySem.F.slot_list_append PySem.F.type_list_append mt_append (pv 4) (pa_cons pe_str pa_nil)))
    (pss_one (ps_if (pt_cmpR op_ne (pe_callB (call_repr smK hgu hu) (by rfl) T.n_repr (by decide +kernel) (pa_cons (pe_xfld (pv 7)) pa_nil)) (pe_callB (call_repr smK hgu hu) (by rfl) T.n_repr (by decide +kernel) (pa_cons (pv 4) pa_nil)) (nomark _)) (pss_one (ps_ret pe_bl)) pss_nil)))))))))
    (pss_cons (ps_set (i := 8) SC.nd rfl (Or.inl rfl) (pe_mkE M.mt GT (hr.mono (by decide)) rfl (C.g 20 "InvalidText" rfl) M.bt (fun _ _ _ z => GT.len _ _ _ _ z) (pa_cons pe_str (pa_cons pe_int (pa_cons pe_int pa_nil)))))
    (pss_cons (ps_if (pt_cmpR (op_neD hu) (pe_lst (pa_cons (pe_xfld (pv 8)) (pa_cons (pe_xfld (pv 8)) (pa_cons (pe_xfld (pv 8)) (pa_cons (pe_xfld (pe_mkEk (ks := ["value", "row", "column"]) M.mt GT (hr.mono (by decide)) rfl (C.g 20 "InvalidText" rfl) M.kt (fun _ _ _ z => GT.len _ _ _ _ z) (pk_cons pe_str (pk_cons pe_int (pk_cons pe_int pk_nil))))) pa_nil))))) (pe_lst (pa_cons pe_str (pa_cons pe_int (pa_cons pe_int (pa_cons pe_int pa_nil))))) (nomark _)) (pss_one (ps_ret pe_bl)) pss_nil)
    (pss_cons (ps_set (i := 9) SC.nd rfl (Or.inl rfl) (pe_lst (pa_cons (pe_mkE0 M.mu GU (hr.mono (by decide)) rfl (C.g 21 "NothingToUndo" rfl) M.bu) (pa_cons (pe_mkE0 M.mr GR (hr.mono (by decide)) rfl (C.g 22 "NothingToRedo" rfl) M.br) pa_nil))))
    (pss_one (ps_ret (pe_and (pe_cmpR (op_eqD hu) (pe_lc (own := [("one", 6)]) (g := (gName 6)) (by rfl) SC.nd (pi_list (pv 9)) (blkOk_by (own := [("one", 6)]) (N := ["script", "purse", "turn", "thing", "other", "word", "one", "late", "text", "nothing"]) (sc := defScope sLaw) (by decide +kernel)) (fun _ _ _ _ _ => (pg_name (i := 6) SC.nd rfl (Or.inl rfl))) (fun _ _ _ _ _ => pts_nil) (fun _ _ _ _ _ => (pe_call G_law_words (hr.mono (by decide)) rfl D_law_words.gl D_law_words.fn.kp B_law_words .nil pass0 (pa_cons (pv 6) pa_nil)))) (pe_lst (pa_cons (pe_lst (pa_cons pe_str pa_nil)) (pa_cons (pe_lst (pa_cons pe_str pa_nil)) pa_nil))) (nomark _)) (pe_and (pe_cmpR (op_eqD hu) (pe_lc (own := [("one", 6)]) (g := (gName 6)) (te := tXfld K (tVar 6) "value") (by rfl) SC.nd (pi_list (pv 9)) (blkOk_by (own := [("one", 6)]) (N := ["script", "purse", "turn", "thing", "other", "word", "one", "late", "text", "nothing"]) (sc := defScope sLaw) (by decide +kernel)) (fun _ _ _ _ _ => (pg_name (i := 6) SC.nd rfl (Or.inl rfl))) (fun _ _ _ _ _ => pts_nil) (fun _ _ _ _ _ => (pe_xfld (pv 6)))) (pe_lst (pa_cons pe_non (pa_cons pe_non pa_nil))) (nomark _)) (pe_one (pe_callB call_isX (by rfl) T.n_isinstance (by decide +kernel) (pa_cons (pe_ix ix_list (pv 9) pe_int (fun _ _ => rfl)) (pa_cons (pe_glob (v := .ref wE) rfl C.gw rfl) pa_nil))))))))))))), ?_⟩
  have c3 : cD 3 = 30 := rfl
  have c2 : cD 2 = 14 := rfl
  refine ⟨_, rfl, a, ns, rfl, hS, hlen, fun p lc H0 hp0 hl0 hP0 s0 => ?_⟩
  refine ⟨4, rfl, by decide, by decide, for_range (fun i σ H' => (∃ w1 w2 w3 w4 w5 w6, σ = [some (.ref a), some (.ref p), w1, w2, w3, w4, w5, w6, none, none]) ∧ Purse H' p lc (i * 70)) ⟨⟨_, _, _, _, _, _, rfl⟩, by rw [Nat.zero_mul]; exact hP0⟩ ?_ ?_⟩
  · rintro i σ H' hi ⟨⟨w1, w2, w3, w4, w5, w6, rfl⟩, hP⟩
    have hi4 : i < 4 := hi
    refine ⟨_, rfl, p, lc, _, rfl, hP, by omega, fun x d1 H1 hx hn1 hP1 hk1 => ?_⟩
    refine ⟨_, rfl, p, lc, _, rfl, hP1, by omega, fun x2 d2 H2 hx2 hn2 hP2 hk2 => ⟨small _ (by show 1 ≤ 100000; decide), fun o ho => ?_⟩⟩
    refine ⟨_, _, rfl, ?_⟩
    obtain ⟨⟨op, hpo⟩, ⟨oc, hco⟩, hcp⟩ := hP2.at_
    have hpo' : p ≠ o := ne_of_none hpo ho
    have hco' : lc ≠ o := ne_of_none hco ho
    have s3 := same_new ho (.lst [x2])
    refine ⟨_, rfl, _, rfl, _, rfl, x, .ref o, rfl, fun r ts H4 hr4 hl4 s4 hmk hlen4 => ?_⟩
    have hP3 := hP2.ex (fun o e => s3 _ _ e) (fun o e => s3 _ _ e)
    have hP4 := hP3.ex (fun o e => s4 _ _ e) (fun o e => s4 _ _ e)
    have hrp : r ≠ p := fun z => by
      obtain ⟨⟨u, hu⟩, _, _⟩ := hP3.at_
      rw [← z, hr4] at hu
      cases hu
    refine ⟨p, lc, r, ts, _, rfl, hP4, by omega, SqL.of hl4, hrp, by omega, fun ys r2 H5 hperm hr2 hl5 hP5 hk5 => ?_⟩
    obtain ⟨xsp, hxsp⟩ := hP4.lst
    obtain ⟨xsp5, hxsp5⟩ := hP5.lst
    have ho4 : H4 o = some (.lst [x2]) := s4 _ _ upd_same
    have ho5 : H5 o = some (.lst [x2]) := hk5 _ _ hpo'.symm ho4
    have hmk5 : ∀ t ∈ ys, Mk H5 c x (.ref o) t := fun t ht => (Knl.of_kp hxsp hk5).mk (hmk t (hperm.mem_iff.mp ht))
    have h25 : ∀ b u, b ≠ p → H2 b = some u → H5 b = some u := fun b u nb e => hk5 b u nb (s4 _ _ (s3 _ _ e))
    have dx1 : Dx K (outA (outA H5 p) o) x d1 := hx.mono fun b u e => by
      obtain ⟨e1, e2⟩ := newH_get e
      have nb : b ≠ p := fun z => by
        obtain ⟨⟨u, hu⟩, _, _⟩ := hP.at_
        rw [z, hu] at e1
        cases e1
      have e3 := hk2 b u nb e2
      rw [outA_ne (ne_of_none e3 ho), outA_ne nb]
      exact h25 b u nb e3
    have dx2 : Dx K (outA (outA H5 p) o) x2 d2 := hx2.mono fun b u e => by
      obtain ⟨e1, e3⟩ := newH_get e
      have nb : b ≠ p := fun z => by
        obtain ⟨⟨u, hu⟩, _, _⟩ := hP1.at_
        rw [z, hu] at e1
        cases e1
      rw [outA_ne (ne_of_none e3 ho), outA_ne nb]
      exact h25 b u nb e3
    have hr2o : r2 ≠ o := fun z => by
      rw [z, ho4] at hr2
      cases hr2
    have hylen : ys.length = 21 := hperm.length_eq.trans hlen4
    refine ⟨r2, rfl, ⟨_, SqL.of hl5⟩, for_list (xs := ys) (fun j σ H'' => (∃ w1 w2 w3, σ = [some (.ref a), some (.ref p), some (.int (0 + (i : Int))), some x, some (.ref o), w1, w2, w3, none, none]) ∧ Kp o H5 H'' ∧ H'' o = some (.lst (xO x2 j))) ⟨⟨_, _, _, rfl⟩, fun _ _ _ e => e, ho5⟩ ?_ ?_ ?_⟩
    · rintro j σ H'' _ ⟨_, k2, _⟩
      exact SqL.of (k2 _ _ hr2o hl5)
    · rintro j t σ H'' hj ⟨⟨w1, w2, w3, rfl⟩, k2, hoj⟩
      have hj21 : j < 21 := by
        have z := (List.getElem?_eq_some_iff.mp hj).1
        omega
      have knl : Knl H5 H'' := Knl.of_kp ho5 k2
      obtain ⟨tp, a1, b1, dd, ee, fa, fb, wd, k, rfl, hwd, htp, e1, l1, e2, l2⟩ := knl.mk (hmk5 t (List.mem_of_getElem? hj))
      have hk : k < 23 := (List.getElem?_eq_some_iff.mp hwd).1
      refine ⟨tp, _, rfl, SqT.of htp, rfl, _, _, rfl, _, _, rfl, _, _, rfl, rfl, ?_⟩
      refine ask_words rfl rfl e1 hwd fun H6 s6 => ifF ?_
      refine ask_words rfl rfl (exAt_mono s6 e2) hwd fun H7 s7' => ifF ?_
      have s7 := s6.trans s7'
      refine ⟨_, rfl, a1, c k, dd, fa, _, _, true, rfl, exAt_mono s7 e1, C.exc k hk, .ty _, C.kitv k hk, true, rfl, ifF ?_⟩
      refine ⟨_, rfl, b1, c k, ee, fb, _, _, true, rfl, exAt_mono s7 e2, C.exc k hk, .own _, C.kitw k hk, true, rfl, ifF ?_⟩
      have dO1 : ∀ {G : Hp} {m : Nat}, Kp o H5 G → G o = some (.lst (xO x2 m)) → Dx K G x d1 ∧ Dx K G (.ref o) (dO d2 m) := fun {G m} kg hg => by
        have sm : Same (outA (outA H5 p) o) G := fun b u e => by
          by_cases hb : b = o
          · rw [hb, outA_at] at e
            cases e
          · rw [outA_ne hb] at e
            exact kg b u hb (outA_sub _ _ e)
        exact ⟨dx1.mono sm, .lst (xs := xO x2 m) (SqL.of hg) (.cons (dx2.mono sm) (dxRep m))⟩
      have k7 : Kp o H5 H7 := fun b u nb e => s7 _ _ (k2 b u nb e)
      have o7 := s7 _ _ hoj
      obtain ⟨n1, n2, n3⟩ := (niceP hn1 (niceO hn2 (j := j) (by omega))).ok (by decide) (by decide)
      refine ⟨_, rfl, a1, c k, dd, fa, x, rfl, exAt_mono s7 e1, C.xf k hk, C.val k hk, l1, _, rfl, b1, c k, ee, fb, .ref o, rfl, exAt_mono s7 e2, C.xf k hk, C.val k hk, l2, small _ (by show 2 ≤ 100000; decide), fun q1 hq1 => ?_⟩
      have s8 := same_new hq1 (.lst [x, .ref o])
      obtain ⟨y1, y2⟩ := dO1 (fun b u nb e => s8 _ _ (k7 b u nb e)) (s8 _ _ o7)
      refine ⟨_, .list [d1, dO d2 j], rfl, .lst (xs := [x, .ref o]) (SqL.of upd_same) (.cons y1 (.cons y2 .nil)), n1, n2, n3, ?_⟩
      refine ⟨_, rfl, _, rfl, small _ (by show 2 ≤ 100000; decide), fun q2 hq2 => ?_⟩
      have s9 := s8.trans (same_new hq2 (.lst [x, .ref o]))
      obtain ⟨y3, y4⟩ := dO1 (fun b u nb e => s9 _ _ (k7 b u nb e)) (s9 _ _ o7)
      refine ⟨_, .list [d1, dO d2 j], rfl, .lst (xs := [x, .ref o]) (SqL.of upd_same) (.cons y3 (.cons y4 .nil)), n1, n2, n3, rfl, _, rfl, ?_⟩
      rw [show ∀ z : Str, (!decide (V.str z = V.str z)) = false from fun z => by simp]
      refine ifF ?_
      have o9 := s9 _ _ o7
      have s79 := s7.trans s9
      generalize upd (upd H7 q1 (.lst [x, .ref o])) q2 (.lst [x, .ref o]) = H9 at s9 o9 s79 ⊢
      refine ⟨_, rfl, .inl ⟨rfl, _, SqL.of o9⟩, o, xO x2 j, _, rfl, rfl, o9, ?_, ?_⟩
      · show (x2 :: List.replicate j (V.str "late")).length < sizeLine
        rw [List.length_cons, List.length_replicate]
        exact Nat.lt_of_lt_of_le (show j + 1 < 100 by omega) (small _ (by decide))
      rw [xO_succ]
      have oA : upd H9 o (.lst (xO x2 (j + 1))) o = some (.lst (xO x2 (j + 1))) := upd_same
      have kA : Kp o H5 (upd H9 o (.lst (xO x2 (j + 1)))) := fun b u nb e => by
        rw [upd_ne nb]
        exact s9 _ _ (k7 b u nb e)
      have knA : Knl H7 (upd H9 o (.lst (xO x2 (j + 1)))) := (Knl.of_same s9).trans (Knl.of_kp o9 fun b u nb e => by
        rw [upd_ne nb]
        exact e)
      generalize upd H9 o (.lst (xO x2 (j + 1))) = HA at oA kA knA ⊢
      obtain ⟨y5, y6⟩ := dO1 kA oA
      obtain ⟨m1, m2, m3⟩ := (niceO hn2 (j := j + 1) (by omega)).ok (by decide) (by decide)
      refine ⟨_, rfl, b1, c k, ee, fb, .ref o, rfl, knA.exAt (exAt_mono s7 e2), C.xf k hk, C.val k hk, l2, _, dO d2 (j + 1), rfl, y6, m1, m2, m3, _, rfl, _, dO d2 (j + 1), rfl, y6, m1, m2, m3, rfl, _, rfl, ?_⟩
      rw [show ∀ z : Str, (!decide (V.str z = V.str z)) = false from fun z => by simp]
      refine ifF ?_
      exact ⟨⟨_, _, _, rfl⟩, kA, oA⟩
    · rintro σ H'' ⟨⟨w1, w2, w3, rfl⟩, k2, hoj⟩
      refine ⟨⟨_, _, _, _, _, _, rfl⟩, (hP5.ex (fun u e => k2 _ _ hpo' e) (fun u e => k2 _ _ hco' e)).mono ?_⟩
      omega
  · rintro σ H1 ⟨⟨w1, w2, w3, w4, w5, w6, rfl⟩, hP⟩
    refine ⟨(by show 3 ≤ 1000; decide), fun e1 he1 => ⟨e1, _, _, _, rfl, upd_same, fun f1 hf1 hne1 => ⟨rfl, ?_⟩⟩⟩
    obtain ⟨t1, x1⟩ := made_at (fs := [("column", V.int 5), ("row", V.int 1), ("value", V.str "(fun")]) he1 hf1 hne1
    generalize hpW (upd H1 e1 (exo e1 (c 20) none)) (c 20) e1 f1 [("column", V.int 5), ("row", V.int 1), ("value", V.str "(fun")] = G1 at t1 x1 ⊢
    have f20 := C.xf 20 (by decide)
    refine ⟨_, rfl, e1, c 20, f1, _, .str "(fun", rfl, x1, f20, C.val 20 (by decide), rfl, _, rfl, e1, c 20, f1, _, .int 1, rfl, x1, f20, C.row, rfl, _, rfl, e1, c 20, f1, _, .int 5, rfl, x1, f20, C.col, rfl, ?_⟩
    refine ⟨(by show 3 ≤ 1000; decide), fun e2 he2 => ⟨e2, _, _, _, rfl, upd_same, fun f2 hf2 hne2 => ⟨rfl, ?_⟩⟩⟩
    obtain ⟨t2, x2⟩ := made_at (fs := [("column", V.int 0), ("row", V.int 2), ("value", V.str "")]) he2 hf2 hne2
    generalize hpW (upd G1 e2 (exo e2 (c 20) none)) (c 20) e2 f2 [("column", V.int 0), ("row", V.int 2), ("value", V.str "")] = G2 at t2 x2 ⊢
    refine ⟨e2, c 20, f2, _, .int 2, rfl, x2, f20, C.row, rfl, small _ (by show 4 ≤ 100000; decide), fun q1 hq1 => ⟨small _ (by show 4 ≤ 100000; decide), fun q2 hq2 => ?_⟩⟩
    have d4 : ∀ {G : Hp} {q : Addr}, G q = some (.lst [.str "(fun", .int 1, .int 5, .int 2]) → Dp K G (.ref q) (.list [.str "(fun", .int 1, .int 5, .int 2]) := fun e => .lst (SqL.of e) (.cons (.str _) (.cons (.int _) (.cons (.int _) (.cons (.int _) .nil))))
    refine ⟨.list [.str "(fun", .int 1, .int 5, .int 2], .list [.str "(fun", .int 1, .int 5, .int 2], d4 (same_new hq2 _ _ _ upd_same), d4 upd_same, by decide +kernel, by decide +kernel, _, rfl, ?_⟩
    rw [show PyData.eqv (.list [.str "(fun", .int 1, .int 5, .int 2]) (.list [.str "(fun", .int 1, .int 5, .int 2]) = true by decide +kernel]
    refine ifF ?_
    generalize upd (upd G2 q1 _) q2 _ = G3
    refine ⟨(by show 0 ≤ 1000; decide), fun u hu1 => ⟨u, rfl, upd_same, fun uf huf hun => ⟨rfl, ?_⟩⟩⟩
    obtain ⟨t3, x3⟩ := made_at (fs := [("value", V.non)]) hu1 huf hun
    generalize hpW (upd G3 u (exo u (c 21) none)) (c 21) u uf [("value", V.non)] = G4 at t3 x3 ⊢
    refine ⟨(by show 0 ≤ 1000; decide), fun v hv1 => ⟨v, rfl, upd_same, fun vf hvf hvn => ⟨rfl, ?_⟩⟩⟩
    obtain ⟨t4, x4⟩ := made_at (fs := [("value", V.non)]) hv1 hvf hvn
    generalize hpW (upd G4 v (exo v (c 22) none)) (c 22) v vf [("value", V.non)] = G5 at t4 x4 ⊢
    refine ⟨small _ (by show 2 ≤ 100000; decide), fun l hl => ?_⟩
    have s5 := same_new hl (.lst [.ref u, .ref v])
    replace x3 := exAt_mono (t4.trans s5) x3
    replace x4 := exAt_mono s5 x4
    have hll : upd G5 l (.lst [.ref u, .ref v]) l = some (.lst [.ref u, .ref v]) := upd_same
    generalize upd G5 l (.lst [.ref u, .ref v]) = G6 at x3 x4 hll ⊢
    refine ⟨_, rfl, l, rfl, ⟨_, SqL.of hll⟩, fun D hD => ?_⟩
    have hlD : l ≠ D := ne_of_none hll hD
    refine lc_list (xs := [.ref u, .ref v]) (fun i H' => Same G6 H' ∧ ∃ acc, H' D = some (.lst acc) ∧ acc.length = i ∧ ∀ j z, acc[j]? = some z → ∃ (r : Addr) (nm : Str), z = .ref r ∧ r ≠ D ∧ nms[21 + j]? = some nm ∧ H' r = some (.lst [.str nm])) ⟨same_new hD _, [], upd_same, rfl, fun j z e => by simp at e⟩ ?_ ?_ ?_
    · rintro i H' _ ⟨k1, _⟩
      exact SqL.of (k1 _ _ hll)
    · rintro i z H' hi ⟨k1, acc, k2, k3, k4⟩
      have hz : ∃ (e de : Addr) (fe : List (Str × V)) (nm : Str), z = .ref e ∧ ExAt G6 (c (21 + i)) e de fe ∧ nms[21 + i]? = some nm := by
        match i, hi with
        | 0, hi =>
          obtain rfl : V.ref u = z := Option.some.inj hi
          exact ⟨u, uf, _, _, rfl, x3, rfl⟩
        | 1, hi =>
          obtain rfl : V.ref v = z := Option.some.inj hi
          exact ⟨v, vf, _, _, rfl, x4, rfl⟩
        | i + 2, hi => simp at hi
      obtain ⟨e, de, fe, nm, rfl, xe, hnm⟩ := hz
      refine ⟨rfl, _, rfl, e, de, fe, 21 + i, nm, rfl, exAt_mono k1 xe, hnm, fun r H2 hr hl2 s2 => ?_⟩
      have hDr : D ≠ r := ne_of_none k2 hr
      refine ⟨acc, s2 _ _ k2, ?_, fun b o e => ?_, _, upd_same, by rw [List.length_append, k3]; rfl, fun j z e => ?_⟩
      · rw [k3]
        have : i < 2 := (List.getElem?_eq_some_iff.mp hi).1
        exact Nat.lt_of_lt_of_le (show i < 100 by omega) (small _ (by decide))
      · rw [upd_ne (ne_of_none e hD)]
        exact s2 _ _ (k1 _ _ e)
      · by_cases hj : j < acc.length
        · rw [List.getElem?_append_left hj] at e
          obtain ⟨r', nm', h1, h2, h3, h4⟩ := k4 j z e
          exact ⟨r', nm', h1, h2, h3, by rw [upd_ne h2]; exact s2 _ _ h4⟩
        · rw [List.getElem?_append_right (by omega)] at e
          have hj2 : j = i := by
            have z := (List.getElem?_eq_some_iff.mp e).1
            have z2 : j - acc.length < 1 := z
            omega
          subst hj2
          rw [show j - acc.length = 0 by omega] at e
          obtain rfl : V.ref r = z := Option.some.inj e
          exact ⟨r, nm, rfl, hDr.symm, hnm, by rw [upd_ne hDr.symm]; exact hl2⟩
    rintro H7 ⟨k1, acc, k2, k3, k4⟩
    match acc, k3, k2, k4 with
    | [z1, z2], _, k2, k4 =>
    obtain ⟨r1, n1, rfl, hr1, hn1, hw1⟩ := k4 0 z1 rfl
    obtain ⟨r2, n2, rfl, hr2, hn2, hw2⟩ := k4 1 z2 rfl
    obtain rfl : "NothingToUndo" = n1 := Option.some.inj hn1
    obtain rfl : "NothingToRedo" = n2 := Option.some.inj hn2
    refine ⟨small _ (by show 1 ≤ 100000; decide), fun g1 hg1 => ⟨small _ (by show 1 ≤ 100000; decide), fun g2 hg2 => ⟨small _ (by show 2 ≤ 100000; decide), fun g3 hg3 => ?_⟩⟩⟩
    have u1 := same_new hg1 (.lst [.str "NothingToUndo"])
    have u2 := same_new hg2 (.lst [.str "NothingToRedo"])
    have u3 := same_new hg3 (.lst [.ref g1, .ref g2])
    have u13 := u1.trans (u2.trans u3)
    have w1 : ∀ {G : Hp} {q : Addr} {y : Str}, G q = some (.lst [.str y]) → Dp K G (.ref q) (.list [.str y]) := fun e => .lst (SqL.of e) (.cons (.str _) .nil)
    refine ⟨.list [.list [.str "NothingToUndo"], .list [.str "NothingToRedo"]], .list [.list [.str "NothingToUndo"], .list [.str "NothingToRedo"]], .lst (SqL.of (u13 _ _ k2)) (.cons (w1 (u13 _ _ hw1)) (.cons (w1 (u13 _ _ hw2)) .nil)), .lst (SqL.of upd_same) (.cons (w1 (u3 _ _ (u2 _ _ upd_same))) (.cons (w1 (u3 _ _ upd_same)) .nil)), by decide +kernel, by decide +kernel, _, rfl, ?_⟩
    rw [show PyData.eqv (.list [.list [.str "NothingToUndo"], .list [.str "NothingToRedo"]]) (.list [.list [.str "NothingToUndo"], .list [.str "NothingToRedo"]]) = true by decide +kernel]
    refine ifT ?_
    have s9 := k1.trans u13
    generalize upd (upd (upd H7 g1 _) g2 _) g3 _ = H9 at s9 ⊢
    refine ⟨_, rfl, l, rfl, ⟨_, SqL.of (s9 _ _ hll)⟩, fun D2 hD2 => ?_⟩
    refine lc_list (xs := [.ref u, .ref v]) (fun i H' => Same H9 H' ∧ H' D2 = some (.lst (List.replicate i .non))) ⟨same_new hD2 _, upd_same⟩ ?_ ?_ ?_
    · rintro i H' _ ⟨y1, _⟩
      exact SqL.of (y1 _ _ (s9 _ _ hll))
    · rintro i z H' hi ⟨y1, y2⟩
      have hz : ∃ (e de : Addr) (fe : List (Str × V)), z = .ref e ∧ ExAt G6 (c (21 + i)) e de fe ∧ fe.lookup ("value" : Str) = some .non ∧ 21 + i < 23 := by
        match i, hi with
        | 0, hi =>
          obtain rfl : V.ref u = z := Option.some.inj hi
          exact ⟨u, uf, _, rfl, x3, rfl, by decide⟩
        | 1, hi =>
          obtain rfl : V.ref v = z := Option.some.inj hi
          exact ⟨v, vf, _, rfl, x4, rfl, by decide⟩
        | i + 2, hi => simp at hi
      obtain ⟨e, de, fe, rfl, xe, hval, hlt⟩ := hz
      refine ⟨rfl, _, rfl, e, c (21 + i), de, fe, .non, rfl, exAt_mono (s9.trans y1) xe, C.xf _ hlt, C.val _ hlt, hval, _, y2, ?_, fun b o e => ?_, ?_⟩
      · rw [List.length_replicate]
        exact Nat.lt_of_lt_of_le (show i < 100 by omega) (small _ (by decide))
      · rw [upd_ne (ne_of_none e hD2)]
        exact y1 _ _ e
      · rw [upd_same, List.replicate_succ']
    rintro HB ⟨y1, y2⟩
    refine ⟨small _ (by show 2 ≤ 100000; decide), fun g4 hg4 => ?_⟩
    have u4 := same_new hg4 (.lst [.non, .non])
    refine ⟨.list [.none, .none], .list [.none, .none], .lst (xs := [.non, .non]) (SqL.of (u4 _ _ y2)) (.cons .non (.cons .non .nil)), .lst (SqL.of upd_same) (.cons .non (.cons .non .nil)), by decide +kernel, by decide +kernel, _, rfl, ?_⟩
    rw [show PyData.eqv (.list [.none, .none]) (.list [.none, .none]) = true by decide +kernel]
    refine ifT ?_
    have s10 := s9.trans (y1.trans u4)
    exact ⟨_, rfl, l, _, 0, _, rfl, rfl, SqL.of (s10 _ _ hll), at_of (j := 0) rfl rfl, u, c 21, uf, _, _, _, true, rfl, exAt_mono s10 x3, C.exc 21 (by decide), .own _, C.kitw 21 (by decide), q _⟩

end
end K01

set_option Elab.async false
set_option linter.all false
set_option maxRecDepth 100000
set_option maxHeartbeats 1000000
namespace K01
open PySem PySem.Spec L2 Wy PySem.W
/-! ### the head's facts -/
theorem ba {a b : Bool} (h : (a && b) = true) : a = true ∧ b = true := Bool.and_eq_true_iff.mp h
def shapeB (K : Frag) (C : Addr) : Bool := match K.lookup C with
  | some ⟨.type "type", _, .cls cd, sl⟩ => (match cd.mro, sl.toList with
    | .ref C' :: bm, [_, _, _, _, some (.builtin n), _] => C' == C && (n == "ValueError.__new__" && (!cd.hasDel && (cd.hasDict && PySem.HandSPX.refsVE bm)))
    | _, _ => false)
  | _ => false
theorem shapeB_ok {K : Frag} {C : Addr} (h : shapeB K C = true) : ∃ nm q N bs bm sn sub ab col dd k0 k1 k2 k3 k5, K.lookup C = some (excClassObj nm q C N bs bm true sn sub ab col dd k0 k1 k2 k3 k5 "ValueError.__new__") ∧ PySem.HandSPX.refsVE bm = true := by
  unfold shapeB at h
  split at h
  · rename_i dd cd sl ho
    split at h
    · rename_i C' bm k0 k1 k2 k3 n k5 hm hs
      simp only [Bool.and_eq_true, beq_iff_eq, Bool.not_eq_true'] at h
      obtain ⟨rfl, rfl, hdel, hdict, hve⟩ := h
      obtain ⟨nm, bs, mro, ns, qn, hd, sn, sub, ab, col, del⟩ := cd
      dsimp only at hm hdel hdict
      subst hm hdel hdict
      have hsl : sl = #[k0, k1, k2, k3, some (.builtin "ValueError.__new__"), k5] := by
        obtain ⟨l⟩ := sl
        simp only at hs
        rw [hs]
      subst hsl
      exact ⟨_, _, _, _, _, _, _, _, _, _, _, _, _, _, _, ho, hve⟩
    · cases h
  · cases h
def clB (K : Frag) (D C : Addr) : Bool := shapeB K C && (decide (findIn K (.ref C) "__setattr__" = some (some (.builtin "object.__setattr__"))) && (decide (nsIn K cStatics "thirdparty.any" = some none) && (decide (mroIn K C (.ref D) = some true) && decide (subIn K (.ref C) (.type "ValueError") = some true))))
theorem clB_ok {K : Frag} {D C : Addr} (h : clB K D C = true) : Cl K D C := by
  obtain ⟨h1, h⟩ := ba h
  obtain ⟨h2, h⟩ := ba h
  obtain ⟨h3, h⟩ := ba h
  obtain ⟨h4, h5⟩ := ba h
  exact ⟨shapeB_ok h1, of_decide_eq_true h2, of_decide_eq_true h3, of_decide_eq_true h4, of_decide_eq_true h5⟩
def wcB (K : Frag) (D C : Addr) : Bool := clB K D C && (decide (ks_superIn K C D "__init__" = some (some (.builtin "ValueError.__init__"))) && decide (findIn K (.ref C) "value" = some none))
theorem wcB_ok {K : Frag} {D C : Addr} (h : wcB K D C = true) : WC K D C := by
  obtain ⟨h1, h⟩ := ba h
  obtain ⟨h2, h3⟩ := ba h
  exact ⟨clB_ok h1, of_decide_eq_true h2, of_decide_eq_true h3⟩
def mkB (K : Frag) (C fI : Addr) : Bool := shapeB K C && (decide (findIn K (.ref C) "__init__" = some (some (.ref fI))) && (decide (typeIn K (.ref fI) = some (.type "function")) && keepIn K (.ref C)))
theorem mkB_ok {K : Frag} {C fI : Addr} (h : mkB K C fI = true) : MkE K C fI := by
  obtain ⟨h1, h⟩ := ba h
  obtain ⟨h2, h⟩ := ba h
  obtain ⟨h3, h4⟩ := ba h
  exact ⟨shapeB_ok h1, of_decide_eq_true h2, of_decide_eq_true h3, h4⟩
def isB (K : Frag) (D : Addr) : Bool := xfB K D && (decide (findIn K (.ref D) "__class__" = some (some (.builtin "object.__class__"))) && (decide (specialIn K (.builtin "object.__class__") "__get__" = some (some (.builtin "getset_descriptor.__get__"))) && (decide (takesIn K (.builtin "object.__class__") = some true) && decide (mroIn K D (.type "object") = some true))))
theorem isB_ok {K : Frag} {D : Addr} (h : isB K D = true) : ExcC K D ∧ XfC K D := by
  obtain ⟨h1, h⟩ := ba h
  obtain ⟨h2, h⟩ := ba h
  obtain ⟨h3, h⟩ := ba h
  obtain ⟨h4, h5⟩ := ba h
  have x := xfB_ok h1
  exact ⟨⟨x.ga, x.gg, x.exC, x.hdC, of_decide_eq_true h2, of_decide_eq_true h3, of_decide_eq_true h4, of_decide_eq_true h5⟩, x⟩
/-! ### the four __init__s -/
def clsBody (s : Stmt) : List Stmt := match s with
  | .ClassDef _ _ _ b _ _ _ _ _ _ _ => b
  | _ => []
def mth (i : Nat) : Stmt := (clsBody (top i)).getD 0 (.Pass ⟨0, 0, 0, 0⟩)
abbrev sW : Stmt := mth 1
abbrev sT : Stmt := mth 22
abbrev sU : Stmt := mth 23
abbrev sR : Stmt := mth 24
abbrev FnS : Type := Option (Str × Str × Arguments × FuncBody × Scope × Addr × List Str × Addr)
def fnS (K : Frag) (f : Addr) : FnS := match K.lookup f with
  | some ⟨_, _, .func fd, _⟩ => some (fd.name, fd.qualname, fd.params, fd.body, fd.scope, fd.globals, fd.closure.map (·.1), fd.builtins)
  | _ => none
def vS (q : Str) (st : Stmt) : FnS := some ("__init__", q, defArgs st, .stmts (defBody st), defScope st, mainGlobals, ["__class__"], builtinsNs)
def supB (file : Str) (K : Frag) (D f : Addr) : Bool := match K.lookup f with
  | some ⟨_, _, .func fd, _⟩ => (match fd.closure, fd.defaults, fd.code with
    | [(_, cc)], .none, .ref cda => (match K.lookup cc with
        | some ⟨_, _, .cell (some (.ref D')), _⟩ => D' == D
        | _ => false) && ((match K.lookup cda with
        | some ⟨_, _, .fields vs, _⟩ => (match vs[2]? with
            | some (Value.str fl _) => file == fl
            | _ => false)
        | _ => false) && (codeIn K (.ref cda) fd.qualname && (clsIn K D).isSome))
    | _, _, _ => false)
  | _ => false
theorem supB_ok {P : Program} {K : Frag} {D f : Addr} {qual : Str} {params : Arguments} {body : List Stmt} {ps : List Str} {ar : Arg}
    (e : fnS K f = (some ("__init__", qual, params, FuncBody.stmts body, scSup ps, mainGlobals, ["__class__"], builtinsNs) : FnS)) (h : supB P.main.file K D f = true) (har : (params.posonlyargs ++ params.args).head? = some ar) (htop : (P.main.scope.names.lookup ("super" : Str)).isSome = false) :
    ∃ cc cda kV doc pm ct an, Sup P K D f cc cda (fnSup qual params body ps cc cda kV doc pm an ct) ar ∧ codeIn K (.ref cda) qual = true := by
  unfold fnS at e
  unfold supB at h
  cases q : K.lookup f with
  | none =>
    rw [q] at e
    cases e
  | some o =>
    obtain ⟨oc, od, dt, osl⟩ := o
    rw [q] at e h
    cases dt with
    | func fd =>
      obtain ⟨n1, n2, n3, n4, n5, n6, n7, n8, n9, n10, n11, n12, n13, n14, n15⟩ := fd
      have e2 : (some (n1, n2, n3, n4, n5, n6, n7.map (·.1), n15) : FnS) = (some ("__init__", qual, params, FuncBody.stmts body, scSup ps, mainGlobals, ["__class__"], builtinsNs) : FnS) := e
      simp only [Option.some.injEq, Prod.mk.injEq] at e2
      obtain ⟨h1, h2, h3, h4, h5, h6, h7, h8⟩ := e2
      subst h1 h2 h3 h4 h5 h6 h8
      dsimp only at h
      split at h
      · rename_i y cc cda
        obtain ⟨g1, h⟩ := ba h
        obtain ⟨g2, h⟩ := ba h
        obtain ⟨g3, g4⟩ := ba h
        obtain rfl : y = "__class__" := List.head_eq_of_cons_eq h7
        have gc : ∃ cl cld csl, K.lookup cc = some ⟨cl, cld, .cell (some (.ref D)), csl⟩ := by
          split at g1
          · rename_i D' _ z
            have zz := beq_iff_eq.mp g1
            subst zz
            exact ⟨_, _, _, z⟩
          · cases g1
        have gd : ∃ ccl cdd vs ccs file tf, K.lookup cda = some ⟨ccl, cdd, .fields vs, ccs⟩ ∧ vs[2]? = some (.str file tf) ∧ ((P.main.file : Str) == file) = true := by
          split at g2
          · rename_i vs _ z
            split at g2
            · rename_i fl tf z2
              exact ⟨_, _, _, _, _, _, z, z2, g2⟩
            · cases g2
          · cases g2
        refine ⟨cc, cda, n9, n10, n11, n14, n12, ⟨⟨oc, od, osl, q⟩, har, gc, gd, ?_, htop⟩, g3⟩
        cases z : clsIn K D with
        | none =>
          rw [z] at g4
          cases g4
        | some cd => exact ⟨cd, rfl⟩
      · cases h
    | _ => cases e
def c_ (K : Frag) (i : Nat) : Addr := He.ga K (nms.getD i "")
def wE_ (K : Frag) : Addr := He.ga K "WhyError"
def fW_ (K : Frag) : Addr := He.ma K (c_ K 0) "__init__"
def fT_ (K : Frag) : Addr := He.ma K (c_ K 20) "__init__"
def fU_ (K : Frag) : Addr := He.ma K (c_ K 21) "__init__"
def fR_ (K : Frag) : Addr := He.ma K (c_ K 22) "__init__"
def upB (K : Frag) (C fI fW : Addr) : Bool := wcB K (wE_ K) C && (mkB K C fI && (decide (mroIn K C (.ref C) = some true) && (decide (ks_superIn K C C "__init__" = some (some (.ref fW))) && (fnIn K fW && decide (typeIn K (.ref fW) = some (.type "function"))))))
def smB (K : Frag) : Bool := match K.lookup sysModules with
  | some o => decide (o.cls = .type "dict")
  | none => false
def ch1 (K : Frag) : Bool := (List.range 23).all fun i => isB K (c_ K i) && (decide (findIn K (.ref (c_ K i)) "value" = some none) && (decide (PySem.W.kitOne K (.ref (c_ K i)) (.ref (wE_ K)) = some true) && (decide (PySem.W.kitOne K (.ref (c_ K i)) (.type "ValueError") = some true) && (List.range 23).all fun j => decide (PySem.W.kitOne K (.ref (c_ K i)) (.ref (c_ K j)) = some (i == j)))))
def ch2 (K : Frag) : Bool := (List.range 20).all fun i => wcB K (wE_ K) (c_ K i) && mkB K (c_ K i) (fW_ K)
def ch3 (K : Frag) : Bool := upB K (c_ K 20) (fT_ K) (fW_ K) && (upB K (c_ K 21) (fU_ K) (fW_ K) && (upB K (c_ K 22) (fR_ K) (fW_ K) && (decide (findIn K (.ref (c_ K 20)) "row" = some none) && decide (findIn K (.ref (c_ K 20)) "column" = some none))))
def ch4 (file : Str) (K : Frag) : Bool := supB file K (wE_ K) (fW_ K) && (supB file K (c_ K 20) (fT_ K) && (supB file K (c_ K 21) (fU_ K) && supB file K (c_ K 22) (fR_ K)))
end K01

set_option Elab.async false
set_option linter.all false
set_option maxRecDepth 100000
set_option maxHeartbeats 0
namespace K01
open PySem PySem.Spec L2 Wy PySem.W
def dDef (x : Str) (i : Nat) : He.DefD := ⟨(x, none), x, x, defArgs (top i), defBody (top i), defScope (top i), [], []⟩
def fns : List He.DefD := [dDef "_law_purse" 26, dDef "_law_draw" 27, dDef "_law_pick" 28, dDef "_law_shuffled" 29, dDef "_law_words" 30, dDef "_law_made" 31, dDef "_law_thing" 32, dDef "law" 33]
def fas : List He.Fa := [.glo "_law_purse", .glo "_law_draw", .glo "_law_pick", .glo "_law_shuffled", .glo "_law_words", .glo "_law_made", .glo "_law_thing", .glo "law", .glo "WhyError",
  .free "len", .free "int", .free "list", .free "range", .free "tuple", .free "isinstance", .free "repr", .free "ValueError", .free "super"]
def fan : List He.Fa := nms.map He.Fa.glo
abbrev R : PySem.W.OpenRow := PySem.W.OpenLaw.row PySem.Challenge.rw_whytypes_k01_errors_and_what_they_keep
def file_ : Str := R.prog.main.file
abbrev AlW : Type := Bool × List He.FnW × List FnS
def obsW (K : Frag) : AlW := ((fas.all fun f => f.ok K) && ((fan.all fun f => f.ok K) && ((fns.all fun d => d.ok K) && (smB K && (ch1 K && (ch2 K && (ch3 K && ch4 file_ K)))))), fns.map fun d => He.fnW K d.at_, [fnS K (fW_ K), fnS K (fT_ K), fnS K (fU_ K), fnS K (fR_ K)])
def valW : AlW := (true, fns.map He.DefD.val, [vS "WhyError.__init__" sW, vS "InvalidText.__init__" sT, vS "NothingToUndo.__init__" sU, vS "NothingToRedo.__init__" sR])
def kf (g : Addr → Option Obj) : Frag := He.frG g (sysModules :: cStatics :: He.asD g 4)
def hk : PySem.W.Hook where
  α := AlW
  obs := fun s => obsW (kf s.heap.get?)
  val := fun _ => valW
  says := fun _ h => ∃ K : Frag, K.In h ∧ obsW K = valW
  of := fun _ _ e => ⟨_, He.frG_in, e⟩
  keeps := fun _ _ _ ⟨K, hK, c⟩ k => ⟨K, PySem.W.Frag.In.keeps hK k, c⟩
def ob (s : PySem.W.SharedT) : AlW := obsW (kf (HandSHeadRun.getT s))
theorem ob_eq (s : PySem.W.SharedT) : ob s = hk.obs s.abs := by
  have e : HandSHeadRun.getT s = s.abs.heap.get? := funext (HandSHeadRun.getT_eq s)
  show obsW (kf (HandSHeadRun.getT s)) = obsW (kf s.abs.heap.get?)
  rw [e]
def loose : List Str := ["WhyError", "InvalidChoices", "InvalidProgram", "InvalidNode", "InvalidPattern", "InvalidPatterns", "InvalidValue", "InvalidType", "InvalidTypes", "InvalidEquations", "InvalidPlace", "InvalidLot", "InvalidNumber", "InvalidName", "InvalidList", "InvalidPaper", "InvalidChange", "InvalidBook", "InvalidLine", "Unlike", "TooMany", "InvalidText", "NothingToUndo", "NothingToRedo", "_law_purse", "_law_draw", "_law_pick", "_law_shuffled", "_law_words", "_law_made", "_law_thing"]
theorem run (w : World) : HandSHeadRun.RunEq R (PySem.W.view R.prog [33]) hk ob 6000 loose w := by
  intro os
  kernel_rfl
end K01

set_option Elab.async false
set_option linter.all false
set_option maxRecDepth 100000
set_option maxHeartbeats 1000000
namespace K01
open PySem PySem.Spec L2 Wy PySem.W
section
variable {P : Program} {K : Frag} {mg : Str → Option Value}
theorem scW : defScope sW = scSup ps2 := rfl
theorem scT_ : defScope sT = scSup ps4 := rfl
theorem scU : defScope sU = scSup ps1 := rfl
theorem scR : defScope sR = scSup ps1 := rfl
theorem why_of (e : fnS K (fW_ K) = vS "WhyError.__init__" sW) (h : supB P.main.file K (wE_ K) (fW_ K) = true) (htop : (P.main.scope.names.lookup ("super" : Str)).isSome = false) :
    ∃ dW, WhyD P K (wE_ K) (fW_ K) dW ∧ (∀ (us : List Value), us.length + 1 = (["self", "value"] : List Str).length → ∀ s' u, BindsTo s' dW ⟨u :: us, []⟩ ((["self", "value"] : List Str).zip (u :: us))) ∧
      ∀ (ws : List Value), ws.length = (["value"] : List Str).length → ∀ s' u, BindsTo s' dW ⟨[u], (["value"] : List Str).zip ws⟩ ((["self", "value"] : List Str).zip (u :: ws)) := by
  obtain ⟨p0, p1, p2, p3, p4, p5, p6, p7, p8, p9, hb, hln⟩ : ∃ p0 p1 p2 p3 p4 p5 p6 p7 p8 p9 : Pos, defBody sW = [.Expr (exSup (.Name "value" p3) p0 p1 p2 p4) p5, stFld "value" "value" p6 p7 p8 p9] ∧ (p2.endLine == p4.line) = true := ⟨_, _, _, _, _, _, _, _, _, _, rfl, rfl⟩
  unfold vS at e
  rw [scW, hb] at e
  obtain ⟨cc, cda, kV, doc, pm, ct, an, S, hc⟩ := supB_ok (P := P) (ar := { arg := "self", annotation := none, pos := ((defArgs sW).args.head?.map (·.pos)).getD ⟨0, 0, 0, 0⟩ }) e h rfl htop
  refine ⟨_, ⟨⟨cc, cda, _, _, kV, doc, pm, ct, an, _, p0, p1, p2, p3, p4, p5, p6, p7, p8, p9, rfl, S, rfl, hc, hln, fun _ => rfl⟩, fun s u v => .of_eq rfl⟩, fun us hl s' u => ?_, fun ws hl s' u => ?_⟩
  · match us, hl with
    | [v], _ => exact .of_eq rfl
  · match ws, hl with
    | [v], _ => exact .of_eq rfl
theorem text_of {dW : FuncData} (e : fnS K (fT_ K) = vS "InvalidText.__init__" sT) (h : supB P.main.file K (c_ K 20) (fT_ K) = true) (htop : (P.main.scope.names.lookup ("super" : Str)).isSome = false) (W : WhyD P K (wE_ K) (fW_ K) dW) (u : upB K (c_ K 20) (fT_ K) (fW_ K) = true)
    (nr : PySem.W.findIn K (.ref (c_ K 20)) "row" = some none) (nc : PySem.W.findIn K (.ref (c_ K 20)) "column" = some none) :
    ∃ dT, TextD P K (wE_ K) (c_ K 20) (fT_ K) (fW_ K) dT dW ∧ (∀ (us : List Value), us.length + 1 = (["self", "value", "row", "column"] : List Str).length → ∀ s' u, BindsTo s' dT ⟨u :: us, []⟩ ((["self", "value", "row", "column"] : List Str).zip (u :: us))) ∧
      ∀ (ws : List Value), ws.length = (["value", "row", "column"] : List Str).length → ∀ s' u, BindsTo s' dT ⟨[u], (["value", "row", "column"] : List Str).zip ws⟩ ((["self", "value", "row", "column"] : List Str).zip (u :: ws)) := by
  obtain ⟨p0, p1, p2, p3, p4, p5, q1, q2, q3, q4, q5, q6, q7, q8, hb, hln⟩ : ∃ p0 p1 p2 p3 p4 p5 q1 q2 q3 q4 q5 q6 q7 q8 : Pos, defBody sT = [.Expr (exSup (.Name "value" p3) p0 p1 p2 p4) p5, stFld "row" "row" q1 q2 q3 q4, stFld "column" "column" q5 q6 q7 q8] ∧ (p2.endLine == p4.line) = true := ⟨_, _, _, _, _, _, _, _, _, _, _, _, _, _, rfl, rfl⟩
  unfold vS at e
  rw [scT_, hb] at e
  obtain ⟨cc, cda, kV, doc, pm, ct, an, S, hc⟩ := supB_ok (P := P) (ar := { arg := "self", annotation := none, pos := ((defArgs sT).args.head?.map (·.pos)).getD ⟨0, 0, 0, 0⟩ }) e h rfl htop
  obtain ⟨u1, u⟩ := ba u
  obtain ⟨u2, u⟩ := ba u
  obtain ⟨u3, u⟩ := ba u
  obtain ⟨u4, u⟩ := ba u
  obtain ⟨u5, u6⟩ := ba u
  refine ⟨_, ⟨⟨cc, cda, _, _, kV, doc, pm, ct, an, _, p0, p1, p2, p3, p4, p5, q1, q2, q3, q4, q5, q6, q7, q8, rfl, S, rfl, hc, hln, fun _ => rfl, fun _ => rfl⟩, W, wcB_ok u1, of_decide_eq_true u3, of_decide_eq_true u4, u5, of_decide_eq_true u6, nr, nc⟩, fun us hl s' u => ?_, fun ws hl s' u => ?_⟩
  · match us, hl with
    | [v, r, c], _ => exact .of_eq rfl
  · match ws, hl with
    | [v, r, c], _ => exact .of_eq rfl
theorem none_of {dW : FuncData} {C f : Addr} {q : Str} {st : Stmt} (e : fnS K f = vS q st) (sc : defScope st = scSup ps1) (har : ∃ ar : Arg, (defArgs st).posonlyargs ++ (defArgs st).args = [ar] ∧ ar.arg = "self")
    (hbd : ∃ (kc : Nat) (p0 p1 p2 p3 p4 p5 : Pos), defBody st = [.Expr (exSup (.Constant .none kc p3) p0 p1 p2 p4) p5] ∧ (p2.endLine == p4.line) = true)
    (h : supB P.main.file K C f = true) (htop : (P.main.scope.names.lookup ("super" : Str)).isSome = false) (W : WhyD P K (wE_ K) (fW_ K) dW) (u : upB K C f (fW_ K) = true)
    (hbind : ∀ (body : List Stmt) (cc cda : Addr) (kV doc pm ct : Value) (an : Option Addr) (u : Value), bindArgs (fnSup q (defArgs st) body ps1 cc cda kV doc pm an ct) ⟨[u], []⟩ = pure [(("self" : Str), u)]) :
    ∃ dN, NoneD P K (wE_ K) C f (fW_ K) dN dW ∧ ∀ s' u, BindsTo s' dN ⟨[u], []⟩ ((["self"] : List Str).zip [u]) := by
  obtain ⟨ar, har1, har2⟩ := har
  obtain ⟨kc, p0, p1, p2, p3, p4, p5, hb, hln⟩ := hbd
  unfold vS at e
  rw [sc, hb] at e
  obtain ⟨cc, cda, kV, doc, pm, ct, an, S, hc⟩ := supB_ok (P := P) (ar := ar) e h (by rw [har1]; rfl) htop
  obtain ⟨u1, u⟩ := ba u
  obtain ⟨u2, u⟩ := ba u
  obtain ⟨u3, u⟩ := ba u
  obtain ⟨u4, u⟩ := ba u
  obtain ⟨u5, u6⟩ := ba u
  exact ⟨_, ⟨⟨cc, cda, _, _, kV, doc, pm, ct, an, ar, kc, p0, p1, p2, p3, p4, p5, rfl, S, har2, hc, hln⟩, W, wcB_ok u1, of_decide_eq_true u3, of_decide_eq_true u4, u5, of_decide_eq_true u6⟩, fun s' u => .of_eq (hbind _ _ _ _ _ _ _ _ u)⟩
end
theorem all_range {n : Nat} {p : Nat → Bool} (h : (List.range n).all p = true) {i : Nat} (hi : i < n) : p i = true := List.all_eq_true.mp h i (List.mem_range.mpr hi)
theorem df_of {K : Frag} {h : Heap} {mg : Str → Option Value} (X : K.In h) (G : h.Ns mainGlobals mg) {x : Str} {i : Nat} (hg : (He.Fa.glo x).ok K = true) (e : He.fnW K (dDef x i).at_ = (dDef x i).val) (c : (dDef x i).ok K = true) : ∃ fd, Df K mg x (top i) (He.ga K x) fd := by
  obtain ⟨fd, F⟩ := He.DefD.funD e c
  exact ⟨fd, F, He.glo_ok X G hg⟩
end K01

set_option Elab.async false
set_option linter.all false
set_option maxRecDepth 100000
set_option maxHeartbeats 2000000
namespace K01
open PySem PySem.Spec L2 Wy PySem.W
theorem facts {P : Program} {w : World} {K : Frag} {h : Heap} {mg : Str → Option Value} {f : Addr} (hfile : P.main.file = R.prog.main.file) (htop : (P.main.scope.names.lookup ("super" : Str)).isSome = false) (X : K.In h) (G : h.Ns mainGlobals mg) (hfa : mg ("law" : Str) = some (.ref f)) (cc : obsW K = valW) :
    ∃ fd : FuncData, (∀ (s : Shared) (v : Value), BindsTo s fd ⟨[v], []⟩ [("script", v)]) ∧ ∀ base : Heap, K.In base → base.Ns mainGlobals mg → FnG P w K mg base CX0 8 f fd ["script"] (spLaw K) := by
  have cb : ((fas.all fun f => f.ok K) && ((fan.all fun f => f.ok K) && ((fns.all fun d => d.ok K) && (smB K && (ch1 K && (ch2 K && (ch3 K && ch4 file_ K))))))) = true := congrArg (fun z : AlW => z.1) cc
  have cf : fns.map (fun d => He.fnW K d.at_) = fns.map He.DefD.val := congrArg (fun z : AlW => z.2.1) cc
  have cs : ([fnS K (fW_ K), fnS K (fT_ K), fnS K (fU_ K), fnS K (fR_ K)] : List FnS) = [vS "WhyError.__init__" sW, vS "InvalidText.__init__" sT, vS "NothingToUndo.__init__" sU, vS "NothingToRedo.__init__" sR] := congrArg (fun z : AlW => z.2.2) cc
  obtain ⟨b1, cb⟩ := ba cb
  obtain ⟨b2, cb⟩ := ba cb
  obtain ⟨b3, cb⟩ := ba cb
  obtain ⟨b4, cb⟩ := ba cb
  obtain ⟨b5, cb⟩ := ba cb
  obtain ⟨b6, cb⟩ := ba cb
  obtain ⟨b7, b8⟩ := ba cb
  have fa : ∀ (i : Nat) {z : He.Fa}, fas[i]? = some z → z.ok K = true := fun i {z} e => List.all_eq_true.mp b1 z (List.mem_of_getElem? e)
  have dok : ∀ (i : Nat) {d : He.DefD}, fns[i]? = some d → d.ok K = true ∧ He.fnW K d.at_ = d.val := fun i {d} e => by
    refine ⟨List.all_eq_true.mp b3 d (List.mem_of_getElem? e), ?_⟩
    have e2 : (fns.map fun d => He.fnW K d.at_)[i]? = (fns.map He.DefD.val)[i]? := by rw [cf]
    rw [List.getElem?_map, List.getElem?_map, e] at e2
    exact Option.some.inj e2
  have df : ∀ (i : Nat) {x : Str} {j : Nat}, fas[i]? = some (He.Fa.glo x) → fns[i]? = some (dDef x j) → ∃ fd, Df K mg x (top j) (He.ga K x) fd := fun i {x j} e1 e2 => df_of X G (fa i e1) (dok i e2).2 (dok i e2).1
  obtain ⟨d0, D0⟩ := df 0 (x := "_law_purse") (j := 26) rfl rfl
  obtain ⟨d1, D1⟩ := df 1 (x := "_law_draw") (j := 27) rfl rfl
  obtain ⟨d2, D2⟩ := df 2 (x := "_law_pick") (j := 28) rfl rfl
  obtain ⟨d3, D3⟩ := df 3 (x := "_law_shuffled") (j := 29) rfl rfl
  obtain ⟨d4, D4⟩ := df 4 (x := "_law_words") (j := 30) rfl rfl
  obtain ⟨d5, D5⟩ := df 5 (x := "_law_made") (j := 31) rfl rfl
  obtain ⟨d6, D6⟩ := df 6 (x := "_law_thing") (j := 32) rfl rfl
  obtain ⟨d7, D7⟩ := df 7 (x := "law") (j := 33) rfl rfl
  have ef := hfa.symm.trans D7.gl
  cases ef
  have n_ : ∀ (i : Nat) {x : Str}, fas[i]? = some (He.Fa.free x) → mg x = none := fun i {x} e => He.free_ok X G (fa i e)
  have T : Txt0 mg := ⟨n_ 9 rfl, n_ 10 rfl, n_ 11 rfl, n_ 12 rfl, n_ 13 rfl, n_ 14 rfl, n_ 15 rfl, n_ 16 rfl⟩
  have smK : SmK K := by
    unfold smB at b4
    split at b4
    · rename_i o e
      exact ⟨o, e, of_decide_eq_true b4⟩
    · cases b4
  obtain ⟨t1, b7⟩ := ba b7
  obtain ⟨t2, b7⟩ := ba b7
  obtain ⟨t3, b7⟩ := ba b7
  obtain ⟨t4, t5⟩ := ba b7
  obtain ⟨r1, b8⟩ := ba b8
  obtain ⟨r2, b8⟩ := ba b8
  obtain ⟨r3, r4⟩ := ba b8
  have hfile2 : file_ = (P.main.file : Str) := by rw [hfile]; rfl
  rw [hfile2] at r1 r2 r3 r4
  have C : Cs K mg (c_ K) (wE_ K) := by
    have per : ∀ i, i < 23 → isB K (c_ K i) = true ∧ PySem.W.findIn K (.ref (c_ K i)) "value" = some none ∧ PySem.W.kitOne K (.ref (c_ K i)) (.ref (wE_ K)) = some true ∧ PySem.W.kitOne K (.ref (c_ K i)) (.type "ValueError") = some true ∧ ∀ j, j < 23 → PySem.W.kitOne K (.ref (c_ K i)) (.ref (c_ K j)) = some (i == j) := fun i hi => by
      obtain ⟨q1, q⟩ := ba (all_range b5 hi)
      obtain ⟨q2, q⟩ := ba q
      obtain ⟨q3, q⟩ := ba q
      obtain ⟨q4, q5⟩ := ba q
      exact ⟨q1, of_decide_eq_true q2, of_decide_eq_true q3, of_decide_eq_true q4, fun j hj => of_decide_eq_true (all_range q5 hj)⟩
    refine ⟨fun i x e => ?_, He.glo_ok X G (fa 8 rfl), fun i j hi hj => (per i hi).2.2.2.2 j hj, fun i hi => (per i hi).2.2.1, fun i hi => (per i hi).2.2.2.1, fun i hi => (isB_ok (per i hi).1).1, fun i hi => (isB_ok (per i hi).1).2, fun i hi => (per i hi).2.1, of_decide_eq_true t4, of_decide_eq_true t5⟩
    have e2 : c_ K i = He.ga K x := by
      unfold c_
      rw [List.getD_eq_getElem?_getD, e]
      rfl
    rw [e2]
    exact He.glo_ok X G (List.all_eq_true.mp b2 _ (List.mem_map_of_mem (List.mem_of_getElem? e)))
  obtain ⟨e1, e2, e3, e4⟩ : fnS K (fW_ K) = vS "WhyError.__init__" sW ∧ fnS K (fT_ K) = vS "InvalidText.__init__" sT ∧ fnS K (fU_ K) = vS "NothingToUndo.__init__" sU ∧ fnS K (fR_ K) = vS "NothingToRedo.__init__" sR := by
    simpa only [List.cons.injEq, and_true] using cs
  obtain ⟨dW, W, bw, kw⟩ := why_of (P := P) e1 r1 htop
  obtain ⟨dT, TX, bt, kt⟩ := text_of (P := P) e2 r2 htop W t1 (of_decide_eq_true t4) (of_decide_eq_true t5)
  obtain ⟨dU, NU, bu⟩ := none_of (P := P) e3 scU ⟨_, rfl, rfl⟩ ⟨_, _, _, _, _, _, _, rfl, rfl⟩ r3 htop W t2 (fun _ _ _ _ _ _ _ _ _ => rfl)
  obtain ⟨dR, NR, br⟩ := none_of (P := P) e4 scR ⟨_, rfl, rfl⟩ ⟨_, _, _, _, _, _, _, rfl, rfl⟩ r4 htop W t3 (fun _ _ _ _ _ _ _ _ _ => rfl)
  have M : Mks P K mg (c_ K) (wE_ K) (fW_ K) (fT_ K) (fU_ K) (fR_ K) dW dT dU dR := by
    refine ⟨W, fun i hi => mkB_ok (ba (all_range b6 hi)).2, fun i hi => wcB_ok (ba (all_range b6 hi)).1, TX, mkB_ok (ba (ba t1).2).1, NU, mkB_ok (ba (ba t2).2).1, NR, mkB_ok (ba (ba t3).2).1, bw, kw, bt, kt, bu, br, n_ 17 rfl⟩
  have b := FunD.bindsA (ps := ["script"]) D7.fn fun _ _ _ _ _ _ us hl => match us, hl with | [_], _ => rfl
  exact ⟨d7, fun s v => b s [v] rfl, fun base _ _ => ok_law smK D7 D0 D1 D2 D3 D4 D5 D6 T C M⟩
end K01
open PySem PySem.W PySem.Calls PyProof.Rows
theorem PySem.Challenge.cw_whytypes_k01_errors_and_what_they_keep_holds : PySem.Challenge.rw_whytypes_k01_errors_and_what_they_keep.Holds := by
  w_on; o_law
  refine HandSHeadRun.head_any (r := OpenLaw.row PySem.Challenge.rw_whytypes_k01_errors_and_what_they_keep) (q := view (OpenLaw.row PySem.Challenge.rw_whytypes_k01_errors_and_what_they_keep).prog [33]) (H := K01.hk) (ob := K01.ob) (M := 6000) (loose := K01.loose) (d := HandSHeadRun.topDef (OpenLaw.row PySem.Challenge.rw_whytypes_k01_errors_and_what_they_keep).prog 33) (kwd := []) K01.ob_eq
    (by kernel_rfl) (fun s => by kernel_rfl) K01.run (by kernel_rfl) (by kernel_rfl) (by kernel_rfl) (by rfl) (by first | assumption | decide +kernel) (by decide +kernel) ⟨rfl, rfl, rfl, rfl, rfl, by decide +kernel⟩ ?hw ?hc
  case hw => w_witness2
  case hc =>
    refine Wy.walk_ofG (l := PySem.Challenge.rw_whytypes_k01_errors_and_what_they_keep) (n := 63) (k := 8) (x := "script") rfl (by decide) (by kernel_rfl) ⟨rfl, by decide, by decide⟩ ?F
    intro w mg fa h Y G hmg0
    obtain ⟨K, KX, c⟩ := Y
    have hmg : mg ("law" : PySem.Str) = some (.ref fa) := by
      have e : (HandSHeadRun.topDef (OpenLaw.row PySem.Challenge.rw_whytypes_k01_errors_and_what_they_keep).prog 33).name = ("law" : PySem.Str) := by kernel_rfl
      rw [← e]
      exact hmg0
    obtain ⟨fd, hb, hF⟩ := K01.facts (P := (PySem.Challenge.rw_whytypes_k01_errors_and_what_they_keep).prog) (w := w) rfl (by kernel_rfl) KX G hmg c
    exact ⟨K, fd, K01.spLaw K, KX, hb, fun H a ns hl hS => ⟨a, ns, rfl, hS, hl, fun _ => rfl⟩, hF⟩
