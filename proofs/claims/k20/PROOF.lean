import PyProof.Rows.All
import Wide.All
import OpenK.AllK
import Wide.FinOn
import KE.KStateDown
import KE.KExcSuper
import KE.KExcIs
import KE.KExcPX
import HandS.Base
import HandS.Call
import HandS.List
import HandS.Exc
import HandS.ExcInit
import HandS.ExcField
import HandS.ExcIs
import HandS.IsInst
import HandS.Words
import HandS.Defaults
import HandS.MakeKw
import HandS.ForExc
import HandS.Dict
import PyProof.ReprRoads
import PyProof.CallFns
import HandS.Comp
import HandS.Evl
import HandS.HeadHook2
import HandS.HeadEnd
import HandS.EndBits
import HandS.CallLocal
import HandS.Walk
import HandS.Iter
import HandS.Text
import HandS.Style
import HandS.DictComp
import HandS.Zip
import PyProof.StrLawsRepr
import PyProof.Rows.StrJoinMade
import HandS.Conv
import PySem.Challenge.RW_whytypes_k20_whole_unknowns_told_plain
import HandS.WordsDict
import HandS.Head0
import HandS.Head1
import HandS.Head2
set_option Elab.async false
set_option linter.all false
set_option maxRecDepth 100000
set_option maxHeartbeats 4000000
/-! Wy, part A: an exception class D over ValueError whose __init__ says super().__init__(value); self.value = value, and the classes below it. -/
namespace Wy
open PySem PySem.W PySem.Calls PyProof.Rows PySem.HandSPX

/-- what the written part says of the class C, seen from D's super() -/
structure Cl (K : Frag) (D C : Addr) : Prop where
  cls : ∃ nm q N bs bm sn sub ab col dd k0 k1 k2 k3 k5, K.lookup C = some (excClassObj nm q C N bs bm true sn sub ab col dd k0 k1 k2 k3 k5 "ValueError.__new__") ∧ refsVE bm = true
  sa : findIn K (.ref C) "__setattr__" = some (some (.builtin "object.__setattr__"))
  op : nsIn K cStatics "thirdparty.any" = some none
  mro : mroIn K C (.ref D) = some true
  ve : subIn K (.ref C) (.type "ValueError") = some true
/-- a def that says super(): where it stands, its class's cell, its code's file -/
structure Sup (prog : Program) (K : Frag) (D f cc cda : Addr) (fd : FuncData) (ar : Arg) : Prop where
  fn : ∃ oc od osl, K.lookup f = some ⟨oc, od, .func fd, osl⟩
  par : (fd.params.posonlyargs ++ fd.params.args).head? = some ar
  cell : ∃ cl cld csl, K.lookup cc = some ⟨cl, cld, .cell (some (.ref D)), csl⟩
  code : ∃ ccl cdd vs ccs file tf, K.lookup cda = some ⟨ccl, cdd, .fields vs, ccs⟩ ∧ vs[2]? = some (.str file tf) ∧ ((prog.main.file : Str) == file) = true
  dcl : ∃ cd, clsIn K D = some cd
  top : (prog.main.scope.names.lookup ("super" : Str)).isSome = false

section
variable {prog : Program} {w : World} {A : Around} {E : Value → Shared → Prop} {R : Result → Shared → Prop} {hp : Heap} {g : Array GenState} {dr : Drawn} {tk : Nat} {os : OsState} {K : Frag}
variable {D C f cc cda x : Addr} {fd : FuncData} {ar : Arg} {env : Env} {m mg mb : Str → Option Value} {ox : Obj} {od : Option Obj} {body : List Stmt}

theorem cls_at (X : K.In hp) {cd : ClassData} (h : clsIn K D = some cd) : ∃ oD, hp.get? D = some oD ∧ oD.data = .cls cd := by
  unfold clsIn at h
  split at h
  · rename_i c d cd' sl ho
    cases h
    exact ⟨_, X _ _ ho, rfl⟩
  · cases h
/-- super() made -/
theorem sup_obj {p0 p1 : Pos} {attr : Str} {whole : Sem Value} {Q : Value → Shared → Prop} (X : K.In hp) (S : Sup prog K D f cc cda fd ar) (hs : mroIn K C (.ref D) = some true)
    (hk : env.scope.kind = .function) (k1 : env.kindOf "super" = some .globalImplicit) (k2 : env.kindOf "__class__" = some .free) (k3 : env.kindOf ar.arg = some .local) (hfu : env.func = some f) (hco : env.code = .ref cda)
    (hce : env.cells.lookup ("__class__" : Str) = some cc) (hgl : env.globals = mainGlobals) (hbl : env.builtins = builtinsNs) (hat : (attr == ("__class__" : Str)) = false)
    (G : hp.Ns mainGlobals mg) (g0 : mg "super" = none) (B : hp.Ns builtinsNs mb) (b0 : mb "super" = some (.type "super")) (L : hp.Ns env.locals m) (l0 : m ar.arg = some (.ref x)) (I : InstAt hp x ox C od)
    (h : ∀ h', h'.get? hp.objs.size = some (ks_superObj D x C) → (∀ b o, hp.get? b = some o → h'.get? b = some o) → Q (.ref hp.objs.size) ⟨h', g, dr, tk, os⟩) :
    _root_.PySem.wpAt (model prog w) A (.func body env) (attributeBase (.Call (.Name "super" p0) [] [] p1) attr env whole) Q E ⟨hp, g, dr, tk, os⟩ := by
  obtain ⟨oc, odf, osl, hf⟩ := S.fn
  obtain ⟨cl, cld, csl, hcl⟩ := S.cell
  obtain ⟨ccl, cdd, vs, ccs, file, tf, hcd, hvs, hfile⟩ := S.code
  obtain ⟨cdD, hD⟩ := S.dcl
  obtain ⟨oD, hD1, hD2⟩ := cls_at X hD
  refine ks_wpAt_super_base k1 k2 hat hfu (X _ _ hf) (by rfl) S.par hco (X _ _ hcd) (by rfl) hvs hfile S.top ?_
  refine ks_loadName_global hk k1 (loadGlobal_builtin (by rw [hgl]; exact G) g0 (by rw [hbl]; exact B) b0 ⟨rfl, ?_⟩)
  refine wpAny_loadName_free hk k2 hce ⟨_, X _ _ hcl, rfl⟩ ?_
  refine wpAny_loadName_local hk k3 L l0 ?_
  refine ks_wpAny_isType_cls hD1 hD2 ⟨rfl, ?_⟩
  refine ks_wpAny_call_super hD1 hD2 I.at_ I.cls (fun c e => ?_) (looks_mroIn X hs) (fun h' e k => h h' e k)
  have := I.no
  unfold notCls at this
  rw [e] at this
  exact Bool.noConfusion this
/-- the built-in __init__, bound to the object, called -/
theorem mw_call {u e t0 : Addr} {dv : Option Addr} {c2 : Value} {rest : List Value} {Q : Value → Shared → Prop} {nm q : Str} {N : Addr} {bs bm : List Value} {sn : List Str} {sub : List Value} {ab : Bool} {col : Option Bool} {dd : Option Addr} {k0 k1 k2 k3 k5 : Option Value}
    (hC : hp.get? C = some (excClassObj nm q C N bs bm true sn sub ab col dd k0 k1 k2 k3 k5 "ValueError.__new__")) (hu : hp.get? u = some (kxs_mw "ValueError.__init__" e)) (he : hp.get? e = some (excObj C t0 dv c2)) (hz : rest.length ≤ sizeLine)
    (h : ∀ h' t1, (∀ b o, b ≠ e → hp.get? b = some o → h'.get? b = some o) → h'.get? e = some (excObj C t1 dv c2) → Q .none ⟨h', g, dr, tk, os⟩) :
    wpAny (model prog w) A (call (.ref u) rest) Q E ⟨hp, g, dr, tk, os⟩ := by
  refine wpAny_call (codeAny_of_tree ?_)
  show wpAny _ A.in1 (callAny (.ref u) ⟨rest, []⟩) _ _ _
  simp only [callAny]
  refine wpAny_bind (wpAny_load hu ?_)
  simp only [kxs_mw, show (Value.type "method-wrapper" == Value.type "method" || Value.type "method-wrapper" == Value.type "builtin_function_or_method" || Value.type "method-wrapper" == Value.type "method-wrapper") = true by decide, if_true]
  refine KFB.if_so (by decide) ?_
  refine wpAny_bind (check_bound_init F.excBase_ValueError.toExcCallFacts hC he rfl ?_)
  refine wpAny_bind (wpAny_pure (wpAny_pure ?_))
  refine ⟨plainId_quiet F.excBase_ValueError.init.plain _, codeAny_builtin F.excBase_ValueError.initEntry ?_⟩
  exact exc_init_tree (cls := .ref C) (t0 := t0) (dv := dv) (c2 := c2) (c3 := .none) (b4 := .bool false) he hz fun h' k e' _ => h h' _ k e'
/-- super().__init__(e) that comes to ValueError's own -/
theorem sup_init {pl : Sem Bool} {whole : Sem Value} {p0 p1 p4 : Pos} {e : Expr} {v : Value} {t0 : Addr} {Q : Value → Shared → Prop} (X : K.In hp) (T : Cl K D C) (hup : ks_superIn K C D "__init__" = some (some (.builtin "ValueError.__init__"))) (S : Sup prog K D f cc cda fd ar)
    (hk : env.scope.kind = .function) (k1 : env.kindOf "super" = some .globalImplicit) (k2 : env.kindOf "__class__" = some .free) (k3 : env.kindOf ar.arg = some .local) (hfu : env.func = some f) (hco : env.code = .ref cda)
    (hce : env.cells.lookup ("__class__" : Str) = some cc) (hgl : env.globals = mainGlobals) (hbl : env.builtins = builtinsNs)
    (G : hp.Ns mainGlobals mg) (g0 : mg "super" = none) (B : hp.Ns builtinsNs mb) (b0 : mb "super" = some (.type "super")) (L : hp.Ns env.locals m) (l0 : m ar.arg = some (.ref x)) (hx : hp.get? x = some (excObj C t0 none .none))
    (he : ∀ h' tk' (Q' : Value → Shared → Prop), (∀ b o, hp.get? b = some o → h'.get? b = some o) → (∀ tk2, Q' v ⟨h', g, dr, tk2, os⟩) → wpAny (model prog w) A (eval e env) Q' E ⟨h', g, dr, tk', os⟩)
    (h : ∀ h' tk' t1, (∀ b o, b ≠ x → hp.get? b = some o → h'.get? b = some o) → h'.get? x = some (excObj C t1 none .none) → Q .none ⟨h', g, dr, tk', os⟩)
    (hst : starEach [e] env = (false, eval e env) :: starEach [] env) :
    _root_.PySem.wpAt (model prog w) A (.func body env) (attributeBase (.Call (.Name "super" p0) [] [] p1) "__init__" env whole) (fun ov s₁ => wpAny (model prog w) A (getMethod ov "__init__" pl) (fun fx s₂ => wpAny (model prog w) A (callWith p4 fx.1 fx.2 (backTo p4 (starEach [e] env)) []) Q E s₂) E s₁) E ⟨hp, g, dr, tk, os⟩ := by
  obtain ⟨nm, q, N, bs, bm, sn, sub, ab, col, dd, k0, k1', k2', k3', k5, hC, hbm⟩ := T.cls
  have I : InstAt hp x (excObj C t0 none .none) C none := ⟨hx, rfl, rfl, trivial⟩
  refine sup_obj X S T.mro hk k1 k2 k3 hfu hco hce hgl hbl (by decide +kernel) G g0 B b0 L l0 I fun h1 e1 q1 => ?_
  have X1 : K.In h1 := X.keeps q1
  have I1 : InstAt h1 x (excObj C t0 none .none) C none := ⟨q1 _ _ hx, rfl, rfl, trivial⟩
  have hI : Looks (model prog w) h1 (isInstance (.ref x) (.type "ValueError")) true := I1.type.andThen (looks_subIn X1 T.ve)
  cases hc : clsIn K C with
  | none =>
    unfold ks_superIn at hup
    rw [hc] at hup
    cases hup
  | some cd =>
    unfold ks_superIn at hup
    rw [hc] at hup
    refine kxs_getMethod kxs_ValueError e1 (looks_opaque X1 T.op) (l₀ := cd.mro) ?_ rfl X1 hup hI (ks_ne X1 I1 hc) (by decide +kernel) ?_
    · exact fun A Q E s k q => wpAny_bind ((looks_clsIn X1 hc) A _ E s k (wpAny_pure q))
    have k2h : ∀ b o, hp.get? b = some o → (h1.push (kxs_mw "ValueError.__init__" x)).get? b = some o := fun b o z => Heap.get?_push_of_some _ (q1 b o z)
    show wpAny _ _ (callWith p4 (.ref h1.objs.size) [] (backTo p4 (starEach [e] env)) []) _ _ _
    rw [hst]
    refine kxs_callWith (i := "ValueError.__init__") (x := x) rfl ?_
    refine evalArgs_plain ?_
    refine spliced_cons ?_
    refine he _ _ _ k2h fun tk2 => ?_
    refine spliced_nil ?_
    refine ⟨Heap.get?_push_at rfl rfl, ?_⟩
    exact mw_call (k2h _ _ (X _ _ hC)) (Heap.get?_push_at rfl rfl) (k2h _ _ hx) (by show 1 ≤ sizeLine; decide) fun h' t1 k e' => h h' tk2 t1 (fun b o hb z => k b o hb (k2h b o z)) e'
/-- super().__init__(e) that comes to a def -/
theorem sup_fn {pl : Sem Bool} {whole : Sem Value} {p0 p1 p4 : Pos} {e : Expr} {v : Value} {f2 : Addr} {Q : Value → Shared → Prop} (X : K.In hp) (hop : nsIn K cStatics "thirdparty.any" = some none) (hmr : mroIn K C (.ref D) = some true)
    (hup : ks_superIn K C D "__init__" = some (some (.ref f2))) (hfn : fnIn K f2 = true) (hty : typeIn K (.ref f2) = some (.type "function")) (S : Sup prog K D f cc cda fd ar)
    (hk : env.scope.kind = .function) (k1 : env.kindOf "super" = some .globalImplicit) (k2 : env.kindOf "__class__" = some .free) (k3 : env.kindOf ar.arg = some .local) (hfu : env.func = some f) (hco : env.code = .ref cda)
    (hce : env.cells.lookup ("__class__" : Str) = some cc) (hgl : env.globals = mainGlobals) (hbl : env.builtins = builtinsNs)
    (G : hp.Ns mainGlobals mg) (g0 : mg "super" = none) (B : hp.Ns builtinsNs mb) (b0 : mb "super" = some (.type "super")) (L : hp.Ns env.locals m) (l0 : m ar.arg = some (.ref x)) (I : InstAt hp x ox C od)
    (he : ∀ h' tk' (Q' : Value → Shared → Prop), (∀ b o, hp.get? b = some o → h'.get? b = some o) → (∀ tk2, Q' v ⟨h', g, dr, tk2, os⟩) → wpAny (model prog w) A (eval e env) Q' E ⟨h', g, dr, tk', os⟩)
    (h : ∀ h' tk', (∀ b o, hp.get? b = some o → h'.get? b = some o) → codeAny (model prog w) A (.call (.ref f2) ⟨[.ref x, v], []⟩) (fun r s' => match r with | .ok (.ret u) => Q u s' | .ok _ => False | .error e => E e s') ⟨h', g, dr, tk', os⟩)
    (hst : starEach [e] env = (false, eval e env) :: starEach [] env) :
    _root_.PySem.wpAt (model prog w) A (.func body env) (attributeBase (.Call (.Name "super" p0) [] [] p1) "__init__" env whole) (fun ov s₁ => wpAny (model prog w) A (getMethod ov "__init__" pl) (fun fx s₂ => wpAny (model prog w) A (callWith p4 fx.1 fx.2 (backTo p4 (starEach [e] env)) []) Q E s₂) E s₁) E ⟨hp, g, dr, tk, os⟩ := by
  refine sup_obj X S hmr hk k1 k2 k3 hfu hco hce hgl hbl (by decide +kernel) G g0 B b0 L l0 I fun h1 e1 q1 => ?_
  have X1 : K.In h1 := X.keeps q1
  cases hc : clsIn K C with
  | none =>
    unfold ks_superIn at hup
    rw [hc] at hup
    cases hup
  | some cd =>
    unfold ks_superIn at hup
    rw [hc] at hup
    obtain ⟨ofn, hof, hofc⟩ : ∃ ofn, h1.get? f2 = some ofn ∧ ofn.cls = .type "function" := by
      have ht' : (K.lookup f2).map (·.cls) = some (.type "function") := hty
      cases z : K.lookup f2 with
      | none => rw [z] at ht'; cases ht'
      | some o2 => rw [z] at ht'; exact ⟨o2, X1 _ _ z, Option.some.inj ht'⟩
    refine ks_wpAny_getMethod_super e1 (looks_opaque X1 hop) (l₀ := cd.mro) ?_ rfl X1 hup hof hofc (ks_ne X I hc) (by decide +kernel) ?_
    · exact fun A Q E s k q => wpAny_bind ((looks_clsIn X1 hc) A _ E s k (wpAny_pure q))
    have k2h : ∀ b o, hp.get? b = some o → (h1.push (methodObj (.ref f2) (.ref x))).get? b = some o := fun b o z => Heap.get?_push_of_some _ (q1 b o z)
    show wpAny _ _ (callWith p4 (.ref h1.objs.size) [] (backTo p4 (starEach [e] env)) []) _ _ _
    rw [hst]
    refine callWith_of (P := MethP K h1.objs.size f2 (.ref x)) rfl (keeps_M hfn) ?_
    refine evalArgs_plain ?_
    refine spliced_cons ?_
    refine he _ _ _ k2h fun tk2 => ?_
    refine spliced_nil ?_
    have hm : (h1.push (methodObj (.ref f2) (.ref x))).get? h1.objs.size = some (methodObj (.ref f2) (.ref x)) := Heap.get?_push_at rfl rfl
    refine ⟨⟨hm, X.keeps k2h⟩, ?_⟩
    show wpAny _ _ (call (.ref h1.objs.size) [v]) _ _ _
    refine wpAny_call (ks_codeAny_call_bound hm (codeAny_mono (h _ tk2 k2h) fun r s' z => ?_))
    rcases r with e | (u | _ | _ | _) <;> exact z
end
end Wy

set_option Elab.async false
set_option linter.all false
set_option maxRecDepth 100000
set_option maxHeartbeats 4000000
/-! Wy, part B: the three kinds of __init__ walked at the machine's level. -/
namespace Wy
open PySem PySem.W PySem.Calls PyProof.Rows PySem.HandSPX

/-- the scope of a def that says super() and has these parameters -/
def scSup (ps : List Str) : Scope := { kind := .function, names := ps.map (fun p => (p, NameKind.local)) ++ ([("__class__", NameKind.free), ("super", NameKind.globalImplicit)] : List (Str × NameKind)), isGenerator := false, isCoroutine := false, more := [] }
abbrev fnSup (qual : Str) (params : Arguments) (body : List Stmt) (ps : List Str) (cc cda : Addr) (kV doc pm : Value) (an : Option Addr) (ct : Value) : FuncData :=
  fnX "__init__" qual params body (scSup ps) [("__class__", cc)] .none kV doc pm an (.ref cda) ct
abbrev ps2 : List Str := ["self", "value"]
abbrev ps4 : List Str := ["self", "value", "row", "column"]
abbrev ps1 : List Str := ["self"]
theorem k2_super : (scSup ps2).names.lookup ("super" : Str) = some .globalImplicit := by decide +kernel
theorem k2_class : (scSup ps2).names.lookup ("__class__" : Str) = some .free := by decide +kernel
theorem k2_self : (scSup ps2).names.lookup ("self" : Str) = some .local := by decide +kernel
theorem k2_value : (scSup ps2).names.lookup ("value" : Str) = some .local := by decide +kernel
theorem k2_cells : ∀ x ∈ (scSup ps2).names, x.2 ≠ .cell := by decide +kernel
theorem k4_super : (scSup ps4).names.lookup ("super" : Str) = some .globalImplicit := by decide +kernel
theorem k4_class : (scSup ps4).names.lookup ("__class__" : Str) = some .free := by decide +kernel
theorem k4_self : (scSup ps4).names.lookup ("self" : Str) = some .local := by decide +kernel
theorem k4_value : (scSup ps4).names.lookup ("value" : Str) = some .local := by decide +kernel
theorem k4_row : (scSup ps4).names.lookup ("row" : Str) = some .local := by decide +kernel
theorem k4_column : (scSup ps4).names.lookup ("column" : Str) = some .local := by decide +kernel
theorem k4_cells : ∀ x ∈ (scSup ps4).names, x.2 ≠ .cell := by decide +kernel
theorem k1_super : (scSup ps1).names.lookup ("super" : Str) = some .globalImplicit := by decide +kernel
theorem k1_class : (scSup ps1).names.lookup ("__class__" : Str) = some .free := by decide +kernel
theorem k1_self : (scSup ps1).names.lookup ("self" : Str) = some .local := by decide +kernel
theorem k1_cells : ∀ x ∈ (scSup ps1).names, x.2 ≠ .cell := by decide +kernel
/-- self.n = y -/
abbrev stFld (n y : Str) (p1 p2 p3 p4 : Pos) : Stmt := .Assign [.Attribute (.Name "self" p1) n p2] (.Name y p3) p4
abbrev exSup (e : Expr) (p0 p1 p2 p4 : Pos) : Expr := .Call (.Attribute (.Call (.Name "super" p0) [] [] p1) "__init__" p2) [e] [] p4

section
variable {prog : Program} {w : World} {A : Around} {E : Value → Shared → Prop} {R : Result → Shared → Prop} {hp : Heap} {g : Array GenState} {dr : Drawn} {tk : Nat} {os : OsState} {K : Frag}
variable {D C f cc cda x : Addr} {params : Arguments} {ar : Arg} {mg mb : Str → Option Value} {qual : Str} {kV doc pm ct : Value} {an : Option Addr} {args : Args}

theorem mc_eval {o e : Expr} {name : Str} {apos pos : Pos} {env : Env} (h : (apos.endLine == pos.line) = true) (hst : starEach [e] env = [(false, eval e env)]) :
    eval (.Call (.Attribute o name apos) [e] [] pos) env = (do
      let ov ← attributeBase o name env (eval o env)
      standAt apos.atName
      let (f, first) ← holding [ov] (getMethod ov name (do return (← importBound o env).getD true))
      callWith pos f first (backTo pos (starEach [e] env)) []) := by
  have e0 : eval (.Call (.Attribute o name apos) [e] [] pos) env = (do
      let ov ← attributeBase o name env (eval o env)
      standAt apos.atName
      methodCall o name apos pos env ov 1 (backTo pos (starEach [e] env)) (backToKw pos (keywordEach [] env))) := by rfl
  have e1 : methodCallForm 1 (backTo pos (starEach [e] env)) (backToKw pos (keywordEach [] env)) = true := by
    rw [hst]
    rfl
  rw [e0]
  unfold methodCall
  rw [e1]
  unfold calleeOf methodCallPos
  simp only [h, Bool.or_true, if_true, pure_bind]
  rfl
/-- self.n = y, the first field -/
theorem fld_new {env : Env} {n y : Str} {p1 p2 p3 p4 : Pos} {v : Value} {t1 : Addr} {m : Str → Option Value} {Q : Flow → Shared → Prop} (X : K.In hp) (T : Cl K D C) (hno : findIn K (.ref C) n = some none) (hx : hp.get? x = some (excObj C t1 none .none))
    (hk : env.scope.kind = .function) (k1 : env.kindOf "self" = some .local) (k2 : env.kindOf y = some .local) (L : hp.Ns env.locals m) (l1 : m "self" = some (.ref x)) (l2 : m y = some v) (hdb : (y == ("__debug__" : Str)) = false) (hsw : swapsWith (.Name y p3) (some (.Attribute (.Name "self" p1) n p2)) p4.line env = pure false)
    (h : ∀ h' tk' dx, (∀ b o, b ≠ x → hp.get? b = some o → h'.get? b = some o) → hp.objs.size ≤ dx → dx ≠ x → h'.get? x = some (excObj C t1 (some dx) .none) → h'.Ns1 dx (fun z => if z = n then some v else none) → Q .next ⟨h', g, dr, tk', os⟩) :
    wpAny (model prog w) A (exec (stFld n y p1 p2 p3 p4) env) Q E ⟨hp, g, dr, tk, os⟩ := by
  obtain ⟨nm, q, N, bs, bm, sn, sub, ab, col, dd, k0, k1', k2', k3', k5, hC, hbm⟩ := T.cls
  have hcl : clsIn K C = some { name := nm, bases := bs, mro := .ref C :: bm, ns := N, qualname := q, hasDict := true, slotNames := sn, subclasses := sub, abstract := ab, collection := col, hasDel := false } := by
    unfold clsIn
    rw [hC] <;> rfl
  refine plainObj_wpAny_Assign_Attribute (wpAny_Name (wpAny_loadName_local hk k2 L l2 ?_) hdb) hsw
  refine wpAny_Name (wpAny_loadName_local hk k1 L l1 ?_)
  refine set_plain X (ox := excObj C t1 none .none) (od := none) ⟨hx, rfl, rfl, trivial⟩ T.sa ?_
  exact exc_osa X hx hcl (show refsVE (.ref C :: bm) = true from hbm) rfl hno fun h' tk' dx k dn dne hx' hn => h h' tk' dx k dn dne hx' hn
/-- self.n = y, a further field -/
theorem fld_old {env : Env} {n y : Str} {p1 p2 p3 p4 : Pos} {v : Value} {t1 dx : Addr} {m m0 : Str → Option Value} {nl : List Str} {Q : Flow → Shared → Prop} (X : K.In hp) (T : Cl K D C) (hno : findIn K (.ref C) n = some none) (hx : hp.get? x = some (excObj C t1 (some dx) .none))
    (hns : hp.Ns1 dx m0) (hw : Within m0 nl) (hz : nl.length ≤ 1000)
    (hk : env.scope.kind = .function) (k1 : env.kindOf "self" = some .local) (k2 : env.kindOf y = some .local) (L : hp.Ns env.locals m) (l1 : m "self" = some (.ref x)) (l2 : m y = some v) (hdb : (y == ("__debug__" : Str)) = false) (hsw : swapsWith (.Name y p3) (some (.Attribute (.Name "self" p1) n p2)) p4.line env = pure false)
    (h : ∀ h' tk', (∀ b o, b ≠ dx → hp.get? b = some o → h'.get? b = some o) → h'.Ns1 dx (fun z => if z = n then some v else m0 z) → Q .next ⟨h', g, dr, tk', os⟩) :
    wpAny (model prog w) A (exec (stFld n y p1 p2 p3 p4) env) Q E ⟨hp, g, dr, tk, os⟩ := by
  obtain ⟨nm, q, N, bs, bm, sn, sub, ab, col, dd, k0, k1', k2', k3', k5, hC, hbm⟩ := T.cls
  have hcl : clsIn K C = some { name := nm, bases := bs, mro := .ref C :: bm, ns := N, qualname := q, hasDict := true, slotNames := sn, subclasses := sub, abstract := ab, collection := col, hasDel := false } := by
    unfold clsIn
    rw [hC] <;> rfl
  obtain ⟨oD, _, _, hoD, _, _⟩ := hns.count hw
  refine plainObj_wpAny_Assign_Attribute (wpAny_Name (wpAny_loadName_local hk k2 L l2 ?_) hdb) hsw
  refine wpAny_Name (wpAny_loadName_local hk k1 L l1 ?_)
  refine set_plain X (ox := excObj C t1 (some dx) .none) (od := some oD) ⟨hx, rfl, rfl, hoD⟩ T.sa ?_
  exact PySem.OEX.osa_old X hx hns hw hz hcl (show refsVE (.ref C :: bm) = true from hbm) rfl hno fun h' tk' k hn => h h' tk' k hn

/-- the bindings by name -/
theorem b2_self {u v : Value} : (([("self", u), ("value", v)] : List (Str × Value)).reverse).lookup ("self" : Str) = some u := by
  have e : (("self" : Str) == ("value" : Str)) = false := by decide +kernel
  simp [List.lookup, e]
theorem b2_value {u v : Value} : (([("self", u), ("value", v)] : List (Str × Value)).reverse).lookup ("value" : Str) = some v := by
  simp [List.lookup]
theorem b2_loc {u v : Value} : ∀ y ∈ ([("self", u), ("value", v)] : List (Str × Value)), (scSup ps2).names.lookup y.1 = some .local := by
  intro y hy
  rcases List.mem_cons.mp hy with rfl | hy
  · exact k2_self
  · rcases List.mem_cons.mp hy with rfl | hy
    · exact k2_value
    · cases hy
theorem kin_but {h h1 : Heap} (X : K.In h) (hKx : K.lookup x = none) (k : ∀ b o, b ≠ x → h.get? b = some o → h1.get? b = some o) : K.In h1 := fun b o z => k b o (fun e => by
  rw [e, hKx] at z
  cases z) (X _ _ z)
theorem ns_but {h h1 : Heap} {a : Addr} {m : Str → Option Value} (L : h.Ns a m) (hn : a ≠ x) (k : ∀ b o, b ≠ x → h.get? b = some o → h1.get? b = some o) : h1.Ns a m := by
  obtain ⟨o, es, ep, e, r⟩ := L
  exact ⟨o, es, ep, k _ _ hn e, r⟩
theorem ns_lt {h : Heap} {a : Addr} {m : Str → Option Value} (L : h.Ns a m) : a < h.objs.size := by
  obtain ⟨o, es, ep, e, r⟩ := L
  exact Heap.lt_size e

/-- WhyError.__init__: super().__init__(value); self.value = value -/
theorem why_run {p0 p1 p2 p3 p4 p5 p6 p7 p8 p9 : Pos} {t0 : Addr} {v : Value} (hln : (p2.endLine == p4.line) = true) (hsw : ∀ env : Env, swapsWith (.Name "value" p8) (some (.Attribute (.Name "self" p6) "value" p7)) p9.line env = pure false) (X : K.In hp) (T : Cl K D C) (hup : ks_superIn K C D "__init__" = some (some (.builtin "ValueError.__init__"))) (hno : findIn K (.ref C) "value" = some none)
    (S : Sup prog K D f cc cda (fnSup qual params [.Expr (exSup (.Name "value" p3) p0 p1 p2 p4) p5, stFld "value" "value" p6 p7 p8 p9] ps2 cc cda kV doc pm an ct) ar) (har : ar.arg = "self")
    (hcode : codeIn K (.ref cda) qual = true) (hlim : hp.NoLimit) (hroom : A.depth < recursionLimit)
    (G : hp.Ns mainGlobals mg) (g0 : mg "super" = none) (B : hp.Ns builtinsNs mb) (b0 : mb "super" = some (.type "super"))
    (hbind : BindsTo ⟨hp, g, dr, tk, os⟩ (fnSup qual params [.Expr (exSup (.Name "value" p3) p0 p1 p2 p4) p5, stFld "value" "value" p6 p7 p8 p9] ps2 cc cda kV doc pm an ct) args [("self", .ref x), ("value", v)])
    (hx : hp.get? x = some (excObj C t0 none .none)) (hKx : K.lookup x = none)
    (h : ∀ h' tk' dx t1, (∀ b o, b ≠ x → hp.get? b = some o → h'.get? b = some o) → hp.objs.size ≤ dx → dx ≠ x → h'.get? x = some (excObj C t1 (some dx) .none) → h'.Ns1 dx (fun z => if z = "value" then some v else none) → R (.ok (.ret .none)) ⟨h', g, dr, tk', os⟩) :
    codeAny (model prog w) A (.call (.ref f) args) R ⟨hp, g, dr, tk, os⟩ := by
  obtain ⟨oc, od, osl, hf⟩ := S.fn
  refine ks_codeAny_call_defAt hroom (X _ _ hf) rfl hlim (codeRec_of X hcode) rfl hbind k2_cells b2_loc fun h₀ hL hk => ?_
  have hxL : x ≠ hp.objs.size := Nat.ne_of_lt (Heap.lt_size hx)
  refine ks_wpAt_execs_cons (ks_wpAt_Expr_any (ks_wpAt_MethodCall ?_ (mc_eval hln rfl)))
  refine sup_init (x := x) (v := v) (t0 := t0) (m := fun z => ([("self", Value.ref x), ("value", v)] : List (Str × Value)).reverse.lookup z) (X.keeps hk) T hup S rfl k2_super k2_class (by rw [har]; exact k2_self) rfl rfl (by kernel_rfl) rfl rfl (G.keeps hk) g0 (B.keeps hk) b0 hL (by rw [har]; exact b2_self) (hk _ _ hx) (fun h1 tk1 Q1 k1 q1 => ?_) (fun h1 tk1 t1 k1 e1 => ?_) rfl
  · exact wpAny_Name (wpAny_loadName_local rfl k2_value (hL.keeps k1) b2_value (q1 _)) (by decide +kernel)
  · have hL1 := ns_but hL hxL.symm k1
    have X1 : K.In h1 := kin_but (X.keeps hk) hKx k1
    refine wpAt_of_wpAny (wpAny_execs_cons ?_)
    refine fld_new X1 T hno e1 rfl k2_self k2_value hL1 b2_self b2_value (by decide +kernel) (hsw _) fun h2 tk2 dx k2 dn dne e2 n2 => ?_
    refine wpAny_execs_nil ?_
    exact h h2 tk2 dx t1 (fun b o hb z => k2 b o hb (k1 b o hb (hk b o z))) (Nat.le_trans (Nat.le_of_lt (ns_lt hL1)) dn) dne e2 n2
/-- the bindings of InvalidText.__init__ -/
abbrev bs4 (u v r c : Value) : List (Str × Value) := [("self", u), ("value", v), ("row", r), ("column", c)]
theorem b4_self {u v r c : Value} : (bs4 u v r c).reverse.lookup ("self" : Str) = some u := by
  have e1 : (("self" : Str) == ("value" : Str)) = false := by decide +kernel
  have e2 : (("self" : Str) == ("row" : Str)) = false := by decide +kernel
  have e3 : (("self" : Str) == ("column" : Str)) = false := by decide +kernel
  simp [List.lookup, e1, e2, e3]
theorem b4_value {u v r c : Value} : (bs4 u v r c).reverse.lookup ("value" : Str) = some v := by
  have e2 : (("value" : Str) == ("row" : Str)) = false := by decide +kernel
  have e3 : (("value" : Str) == ("column" : Str)) = false := by decide +kernel
  simp [List.lookup, e2, e3]
theorem b4_row {u v r c : Value} : (bs4 u v r c).reverse.lookup ("row" : Str) = some r := by
  have e3 : (("row" : Str) == ("column" : Str)) = false := by decide +kernel
  simp [List.lookup, e3]
theorem b4_column {u v r c : Value} : (bs4 u v r c).reverse.lookup ("column" : Str) = some c := by
  simp [List.lookup]
theorem b4_loc {u v r c : Value} : ∀ y ∈ bs4 u v r c, (scSup ps4).names.lookup y.1 = some .local := by
  intro y hy
  rcases List.mem_cons.mp hy with rfl | hy
  · exact k4_self
  rcases List.mem_cons.mp hy with rfl | hy
  · exact k4_value
  rcases List.mem_cons.mp hy with rfl | hy
  · exact k4_row
  rcases List.mem_cons.mp hy with rfl | hy
  · exact k4_column
  cases hy
theorem b1_self {u : Value} : (([("self", u)] : List (Str × Value)).reverse).lookup ("self" : Str) = some u := by
  simp [List.lookup]
theorem b1_loc {u : Value} : ∀ y ∈ ([("self", u)] : List (Str × Value)), (scSup ps1).names.lookup y.1 = some .local := by
  intro y hy
  rcases List.mem_cons.mp hy with rfl | hy
  · exact k1_self
  cases hy
/-- the frame's room for one more def -/
theorem ns_new {h h1 : Heap} {a : Addr} {m : Str → Option Value} (L : h.Ns a m) (hn : h.get? x ≠ none → a ≠ x) (k : ∀ b o, b ≠ x → h.get? b = some o → h1.get? b = some o) (hx : h.get? x ≠ none) : h1.Ns a m := ns_but L (hn hx) k

/-- what a super().__init__ leaves behind: the first field stored -/
def Made (hp : Heap) (C x : Addr) (v : Value) (h' : Heap) : Prop := ∃ dx t1, (∀ b o, b ≠ x → hp.get? b = some o → h'.get? b = some o) ∧ hp.objs.size ≤ dx ∧ dx ≠ x ∧ h'.get? x = some (excObj C t1 (some dx) .none) ∧ h'.Ns1 dx (fun z => if z = "value" then some v else none)
/-- InvalidText.__init__: super().__init__(value); self.row = row; self.column = column -/
theorem text_run {p0 p1 p2 p3 p4 p5 q1 q2 q3 q4 q5 q6 q7 q8 : Pos} {t0 f2 : Addr} {u r c : Value} (hln : (p2.endLine == p4.line) = true)
    (hsw : ∀ env : Env, swapsWith (.Name "row" q3) (some (.Attribute (.Name "self" q1) "row" q2)) q4.line env = pure false) (hsw2 : ∀ env : Env, swapsWith (.Name "column" q7) (some (.Attribute (.Name "self" q5) "column" q6)) q8.line env = pure false)
    (X : K.In hp) (T : Cl K D C) (hmr : mroIn K C (.ref C) = some true) (hup : ks_superIn K C C "__init__" = some (some (.ref f2))) (hfn : fnIn K f2 = true) (hty : typeIn K (.ref f2) = some (.type "function")) (hr : findIn K (.ref C) "row" = some none) (hcl : findIn K (.ref C) "column" = some none)
    (S : Sup prog K C f cc cda (fnSup qual params [.Expr (exSup (.Name "value" p3) p0 p1 p2 p4) p5, stFld "row" "row" q1 q2 q3 q4, stFld "column" "column" q5 q6 q7 q8] ps4 cc cda kV doc pm an ct) ar) (har : ar.arg = "self")
    (hcode : codeIn K (.ref cda) qual = true) (hlim : hp.NoLimit) (hroom : A.depth < recursionLimit)
    (G : hp.Ns mainGlobals mg) (g0 : mg "super" = none) (B : hp.Ns builtinsNs mb) (b0 : mb "super" = some (.type "super"))
    (hbind : BindsTo ⟨hp, g, dr, tk, os⟩ (fnSup qual params [.Expr (exSup (.Name "value" p3) p0 p1 p2 p4) p5, stFld "row" "row" q1 q2 q3 q4, stFld "column" "column" q5 q6 q7 q8] ps4 cc cda kV doc pm an ct) args (bs4 (.ref x) u r c))
    (hx : hp.get? x = some (excObj C t0 none .none)) (hKx : K.lookup x = none)
    (hinit : ∀ (A' : Around) (h' : Heap) (tk' : Nat) (R' : Result → Shared → Prop), (∀ b o, hp.get? b = some o → h'.get? b = some o) → A'.depth = A.depth + 1 → (∀ h2 tk2, Made h' C x u h2 → R' (.ok (.ret .none)) ⟨h2, g, dr, tk2, os⟩) → codeAny (model prog w) A' (.call (.ref f2) ⟨[.ref x, u], []⟩) R' ⟨h', g, dr, tk', os⟩)
    (h : ∀ h' tk' dx t1, (∀ b o, b ≠ x → hp.get? b = some o → h'.get? b = some o) → hp.objs.size ≤ dx → dx ≠ x → h'.get? x = some (excObj C t1 (some dx) .none) →
      h'.Ns1 dx (fun z => if z = "column" then some c else if z = "row" then some r else if z = "value" then some u else none) → R (.ok (.ret .none)) ⟨h', g, dr, tk', os⟩) :
    codeAny (model prog w) A (.call (.ref f) args) R ⟨hp, g, dr, tk, os⟩ := by
  obtain ⟨oc, od, osl, hf⟩ := S.fn
  refine ks_codeAny_call_defAt hroom (X _ _ hf) rfl hlim (codeRec_of X hcode) rfl hbind k4_cells b4_loc fun h₀ hL hk => ?_
  have hxL : x ≠ hp.objs.size := Nat.ne_of_lt (Heap.lt_size hx)
  have I0 : InstAt h₀ x (excObj C t0 none .none) C none := ⟨hk _ _ hx, rfl, rfl, trivial⟩
  refine ks_wpAt_execs_cons (ks_wpAt_Expr_any (ks_wpAt_MethodCall ?_ (mc_eval hln rfl)))
  refine sup_fn (x := x) (v := u) (m := fun z => (bs4 (.ref x) u r c).reverse.lookup z) (X.keeps hk) T.op hmr hup hfn hty S rfl k4_super k4_class (by rw [har]; exact k4_self) rfl rfl (by kernel_rfl) rfl rfl (G.keeps hk) g0 (B.keeps hk) b0 hL (by rw [har]; exact b4_self) I0 (fun h1 tk1 Q1 k1 q1 => ?_) (fun h1 tk1 k1 => ?_) rfl
  · exact wpAny_Name (wpAny_loadName_local rfl k4_value (hL.keeps k1) b4_value (q1 _)) (by decide +kernel)
  · refine hinit _ h1 tk1 _ (fun b o z => k1 b o (hk b o z)) rfl fun h2 tk2 md => ?_
    obtain ⟨dx, t1, m1, m2, m3, m4, m5⟩ := md
    have hL1 : h1.Ns hp.objs.size _ := hL.keeps k1
    have hL2 := ns_but hL1 hxL.symm m1
    have X2 : K.In h2 := kin_but ((X.keeps hk).keeps k1) hKx m1
    have hLd : hp.objs.size ≠ dx := Nat.ne_of_lt (Nat.lt_of_lt_of_le (ns_lt hL1) m2)
    have w1 : Within (fun z => if z = "value" then some u else none) ["value"] := fun z hz => by
      by_cases e : z = "value"
      · rw [e]; exact List.mem_singleton.mpr rfl
      · exact absurd (if_neg e) hz
    refine wpAt_of_wpAny (wpAny_execs_cons ?_)
    refine fld_old X2 T hr m4 m5 w1 (by decide) rfl k4_self k4_row hL2 b4_self b4_row (by decide +kernel) (hsw _) fun h3 tk3 k3 n3 => ?_
    have ndx : ∀ b o, hp.get? b = some o → b ≠ dx := fun b o z => Nat.ne_of_lt (Nat.lt_of_lt_of_le (Heap.lt_size (k1 b o (hk b o z))) m2)
    have hL3 : h3.Ns hp.objs.size _ := ns_but (x := dx) hL2 hLd k3
    have X3 : K.In h3 := fun b o z => k3 b o (ndx b o (X _ _ z)) (X2 b o z)
    have e3 : h3.get? x = some (excObj C t1 (some dx) .none) := k3 _ _ (Ne.symm m3) m4
    have w2 : Within (fun z => if z = "row" then some r else if z = "value" then some u else none) ["row", "value"] := Within.cons _ _ w1
    refine wpAny_execs_cons ?_
    refine fld_old X3 T hcl e3 n3 w2 (by decide) rfl k4_self k4_column hL3 b4_self b4_column (by decide +kernel) (hsw2 _) fun h4 tk4 k4 n4 => ?_
    refine wpAny_execs_nil ?_
    exact h h4 tk4 dx t1 (fun b o hb z => k4 b o (ndx b o z) (k3 b o (ndx b o z) (m1 b o hb (k1 b o (hk b o z))))) (Nat.le_trans (Nat.le_of_lt (ns_lt hL1)) m2) m3 (k4 _ _ (Ne.symm m3) e3) n4
/-- NothingToUndo.__init__: super().__init__(None) -/
theorem none_run {p0 p1 p2 p3 p4 p5 : Pos} {kc : Nat} {t0 f2 : Addr} (hln : (p2.endLine == p4.line) = true)
    (X : K.In hp) (T : Cl K D C) (hmr : mroIn K C (.ref C) = some true) (hup : ks_superIn K C C "__init__" = some (some (.ref f2))) (hfn : fnIn K f2 = true) (hty : typeIn K (.ref f2) = some (.type "function"))
    (S : Sup prog K C f cc cda (fnSup qual params [.Expr (exSup (.Constant .none kc p3) p0 p1 p2 p4) p5] ps1 cc cda kV doc pm an ct) ar) (har : ar.arg = "self")
    (hcode : codeIn K (.ref cda) qual = true) (hlim : hp.NoLimit) (hroom : A.depth < recursionLimit)
    (G : hp.Ns mainGlobals mg) (g0 : mg "super" = none) (B : hp.Ns builtinsNs mb) (b0 : mb "super" = some (.type "super"))
    (hbind : BindsTo ⟨hp, g, dr, tk, os⟩ (fnSup qual params [.Expr (exSup (.Constant .none kc p3) p0 p1 p2 p4) p5] ps1 cc cda kV doc pm an ct) args [("self", .ref x)])
    (hx : hp.get? x = some (excObj C t0 none .none)) (hKx : K.lookup x = none)
    (hinit : ∀ (A' : Around) (h' : Heap) (tk' : Nat) (R' : Result → Shared → Prop), (∀ b o, hp.get? b = some o → h'.get? b = some o) → A'.depth = A.depth + 1 → (∀ h2 tk2, Made h' C x .none h2 → R' (.ok (.ret .none)) ⟨h2, g, dr, tk2, os⟩) → codeAny (model prog w) A' (.call (.ref f2) ⟨[.ref x, .none], []⟩) R' ⟨h', g, dr, tk', os⟩)
    (h : ∀ h' tk' dx t1, (∀ b o, b ≠ x → hp.get? b = some o → h'.get? b = some o) → hp.objs.size ≤ dx → dx ≠ x → h'.get? x = some (excObj C t1 (some dx) .none) →
      h'.Ns1 dx (fun z => if z = "value" then some .none else none) → R (.ok (.ret .none)) ⟨h', g, dr, tk', os⟩) :
    codeAny (model prog w) A (.call (.ref f) args) R ⟨hp, g, dr, tk, os⟩ := by
  obtain ⟨oc, od, osl, hf⟩ := S.fn
  refine ks_codeAny_call_defAt hroom (X _ _ hf) rfl hlim (codeRec_of X hcode) rfl hbind k1_cells b1_loc fun h₀ hL hk => ?_
  have I0 : InstAt h₀ x (excObj C t0 none .none) C none := ⟨hk _ _ hx, rfl, rfl, trivial⟩
  refine ks_wpAt_execs_cons (ks_wpAt_Expr_any (ks_wpAt_MethodCall ?_ (mc_eval hln rfl)))
  refine sup_fn (x := x) (v := .none) (m := fun z => ([("self", Value.ref x)] : List (Str × Value)).reverse.lookup z) (X.keeps hk) T.op hmr hup hfn hty S rfl k1_super k1_class (by rw [har]; exact k1_self) rfl rfl (by kernel_rfl) rfl rfl (G.keeps hk) g0 (B.keeps hk) b0 hL (by rw [har]; exact b1_self) I0 (fun h1 tk1 Q1 k1 q1 => ?_) (fun h1 tk1 k1 => ?_) rfl
  · rw [eval_Constant]
    exact wpAny_pure (q1 _)
  · refine hinit _ h1 tk1 _ (fun b o z => k1 b o (hk b o z)) rfl fun h2 tk2 md => ?_
    obtain ⟨dx, t1, m1, m2, m3, m4, m5⟩ := md
    refine wpAt_of_wpAny (wpAny_execs_nil ?_)
    exact h h2 tk2 dx t1 (fun b o hb z => m1 b o hb (k1 b o (hk b o z))) (Nat.le_trans (Nat.le_of_lt (ns_lt (hL.keeps k1))) m2) m3 m4 m5
end
end Wy

set_option Elab.async false
set_option linter.all false
set_option maxRecDepth 100000
set_option maxHeartbeats 4000000
/-! Wy, part C: C(.., k = v) for an exception class with an __init__ of its own. -/
namespace Wy
open PySem PySem.W PySem.Calls PySem.HandSPX

section
variable {M : Model} {prog : Program} {w : World} {A : Around} {E : Value → Shared → Prop} {R : Result → Shared → Prop} {hp : Heap} {g : Array GenState} {dr : Drawn} {tk : Nat} {os : OsState}
variable {nm q : Str} {C N : Addr} {bs bm : List Value} {sn : List Str} {sub : List Value} {ab : Bool} {col : Option Bool} {dd : Option Addr} {k0 k1 k2 k3 k5 : Option Value}

theorem has_VE (hbm : refsVE bm = true) : (Value.ref C :: bm).contains (.type "ValueError") = true := by
  rw [List.contains_cons, refsVE_contains _ _ hbm, show veTail.contains (Value.type "ValueError") = true by decide +kernel, Bool.or_true]
theorem no_AE (hbm : refsVE bm = true) : (Value.ref C :: bm).contains (.type "AttributeError") = false := by
  rw [List.contains_cons, refsVE_contains _ _ hbm, show veTail.contains (Value.type "AttributeError") = false by decide +kernel]
  rfl
theorem no_NE (hbm : refsVE bm = true) : (Value.ref C :: bm).contains (.type "NameError") = false := by
  rw [List.contains_cons, refsVE_contains _ _ hbm, show veTail.contains (Value.type "NameError") = false by decide +kernel]
  rfl
theorem new_checked (hbm : refsVE bm = true) {rest : List Value} {kw : List (Str × Value)} {Q : Unit → Shared → Prop}
    (hC : hp.get? C = some (excClassObj nm q C N bs bm true sn sub ab col dd k0 k1 k2 k3 k5 "ValueError.__new__")) (hq : Q () ⟨hp, g, dr, tk, os⟩) : wpAny M A (checkBuiltinCall "ValueError.__new__" ⟨.ref C :: rest, kw⟩) Q E ⟨hp, g, dr, tk, os⟩ := by
  have FB := PySem.F.excBase_ValueError
  have hcont := has_VE (C := C) hbm
  have hs := FB.noStar
  simp only [checkBuiltinCall, FB.newKind, FB.newSplit, FB.newRow]
  repeat (first | refine wpAny_loadPart_at hC ?_ | (refine wpAny_isSubtype_exc hC ?_; rw [hcont]) | refine wpAny_staticBase_exc hC ?_ | refine wpAny_madeBy_exc hC ?_ | simp only [bne_self_eq_false, Bool.false_eq_true, if_false] | wp_step)
  exact hq
theorem new_made (hbm : refsVE bm = true) {rest : List Value} {kw : List (Str × Value)} (hC : hp.get? C = some (excClassObj nm q C N bs bm true sn sub ab col dd k0 k1 k2 k3 k5 "ValueError.__new__"))
    (hq : R (.ok (.ret (.ref (hp.objs.size + 1)))) ⟨(hp.push (kdv_tup rest)).push (excO C hp.objs.size), g, dr, tk, os⟩) (hrest : rest.length ≤ sizeLine) :
    codeAny (model prog w) A (.builtin "ValueError.__new__" ⟨.ref C :: rest, kw⟩) R ⟨hp, g, dr, tk, os⟩ := by
  have FB := PySem.F.excBase_ValueError
  have he := FB.ends
  have h1 := has_VE (C := C) hbm
  have h2 := no_AE (C := C) hbm
  have h3 := no_NE (C := C) hbm
  refine codeAny_builtinAt FB.entry ?_
  unfold Builtin.«BaseException.__new__»
  refine wpAt_bind ?_
  show _root_.PySem.wpAt _ _ _ (stack >>= _) _ _ _
  refine wpAt_bind (wpAt_stack fun p below => wpAt_of_wpAny ?_)
  wp_walk
  refine wpAt_of_wpAny ?_
  rw [FB.owner]
  repeat (first | with_reducible refine wpAny_madeHere_exc FB.canon hC ?_ | with_reducible refine wpAny_loadPart_at hC ?_ | (with_reducible refine wpAny_isSubtype_exc hC ?_; first | rw [h1] | rw [h2] | rw [h3]) | wp_step)
  show R _ _
  rw [Heap.size_push]
  exact hq
theorem type_called (hbm : refsVE bm = true) {rest : List Value} {kw : List (Str × Value)} {fI : Addr} {Q : Fin → Shared → Prop} (hC : hp.get? C = some (excClassObj nm q C N bs bm true sn sub ab col dd k0 k1 k2 k3 k5 "ValueError.__new__"))
    (hi : Looks (model prog w) hp (typeLookup (.ref C) "__init__") (some (.ref fI))) (hb : ∀ self, Looks (model prog w) hp (bindSpecial (.ref fI) self) (.ref fI, [self])) (hrest : rest.length ≤ sizeLine)
    (hq : codeAny (model prog w) A (.call (.ref fI) ⟨.ref (hp.objs.size + 1) :: rest, kw⟩)
      (fun r s' => match r with | .ok (.ret v) => v = .none ∧ Q (.done (.ret (.ref (hp.objs.size + 1)))) s' | .ok _ => False | .error e => E e s') ⟨(hp.push (kdv_tup rest)).push (excO C hp.objs.size), g, dr, tk, os⟩) :
    wpAny (model prog w) A (Builtin.«type.__call__» ⟨.ref C :: rest, kw⟩) Q E ⟨hp, g, dr, tk, os⟩ := by
  have FB := PySem.F.excBase_ValueError
  repeat (first | with_reducible refine wpAny_loadPart_at hC ?_ | with_reducible refine wpAny_madeBy_exc hC ?_ | wp_step)
  refine codeAny_call_builtin_code (Code.quiet_builtin _ FB.quiet) (new_checked hbm hC ?_)
  refine new_made hbm hC ?_ hrest
  show wpAny _ _ _ _ _ _
  have k : ∀ b o, hp.get? b = some o → ((hp.push (kdv_tup rest)).push (excO C hp.objs.size)).get? b = some o := fun b o e => Heap.get?_push_of_some _ (Heap.get?_push_of_some _ e)
  have hC₁ := k _ _ hC
  have hget : ((hp.push (kdv_tup rest)).push (excO C hp.objs.size)).get? (hp.objs.size + 1) = some (excO C hp.objs.size) := by heap_get
  have hcC : (Value.ref C :: bm).contains (.ref C) = true := by simp
  have i1 := hi.keeps k
  have b1 := (hb (.ref (hp.objs.size + 1))).keeps k
  unfold isInstance
  repeat (first | with_reducible refine wpAny_loadPart_at hget ?_ | (with_reducible refine wpAny_isSubtype_exc hC₁ ?_; rw [hcC]) | wp_step)
  show wpAny _ _ (typeLookup (.ref C) _) _ _ _
  refine i1.at ?_
  refine wpAny_holding (wpAny_bind (b1.at ?_))
  refine wpAny_bind (wpAny_call (codeAny_mono hq fun r s' z => ?_))
  rcases r with e | (v | _ | _ | _) <;> first | exact z | exact z.elim | skip
  obtain ⟨rfl, z⟩ := z
  first
    | exact wpAny_pure (wpAny_pure z)
    | (wp_walk; exact z)
theorem cls_called (hbm : refsVE bm = true) {rest : List Value} {kw : List (Str × Value)} {fI : Addr} (hC : hp.get? C = some (excClassObj nm q C N bs bm true sn sub ab col dd k0 k1 k2 k3 k5 "ValueError.__new__"))
    (hi : Looks (model prog w) hp (typeLookup (.ref C) "__init__") (some (.ref fI))) (hb : ∀ self, Looks (model prog w) hp (bindSpecial (.ref fI) self) (.ref fI, [self])) (hrest : rest.length ≤ sizeLine)
    (hq : codeAny (model prog w) (A.under (.builtin "type.__call__" ⟨.ref C :: rest, kw⟩)) (.call (.ref fI) ⟨.ref (hp.objs.size + 1) :: rest, kw⟩) (InitBack (hp.objs.size + 1) R)
      ⟨(hp.push (kdv_tup rest)).push (excO C hp.objs.size), g, dr, tk, os⟩) : codeAny (model prog w) A (.call (.ref C) ⟨rest, kw⟩) R ⟨hp, g, dr, tk, os⟩ := by
  have f1 := tc_lookup
  have f2 := tc_bind (.ref C)
  have hTy : (⟨hp, g, dr, tk, os⟩ : Shared).TypeIs (.ref C) "type" := ⟨_, hC, rfl⟩
  refine codeAny_of_tree ?_
  show wpAny _ _ (callAny (.ref C) _) _ _ _
  repeat (any_goals (first | assumption | with_reducible refine wpAny_loadPart_at hC ?_ | wp_step))
  refine ⟨rfl, ?_⟩
  refine codeAny_call_builtin_at (Code.quiet_builtin _ (by decide +kernel)) entry_typeCall (wpAny_check_type_call_sub hC (type_called hbm hC hi hb hrest ?_))
  refine codeAny_mono hq fun r s' z => ?_
  rcases r with e | (v | _ | _ | _) <;> exact z
end
end Wy

set_option Elab.async false
set_option linter.all false
set_option maxRecDepth 100000
set_option maxHeartbeats 4000000
/-! Wy, part D: the exceptions over the hand layer: made, read, asked. -/
namespace Wy
open PySem PySem.Spec L2

/-- what is asked of the class C below D, that its instances are made with a value -/
structure WC (K : PySem.W.Frag) (D C : Addr) : Prop where
  cl : Cl K D C
  up : PySem.W.ks_superIn K C D "__init__" = some (some (.builtin "ValueError.__init__"))
  no : PySem.W.findIn K (.ref C) "value" = some none
/-- an exception of the class at C stands at a, its dict at dx, its fields fs -/
def ExAt (H : Hp) (C a dx : Addr) (fs : List (Str × V)) : Prop := H a = some (exo a C (some dx)) ∧ H dx = some (exd dx fs)
/-- .. no field yet -/
def Bare (H : Hp) (C a : Addr) : Prop := H a = some (exo a C none)

section
variable {P : Program} {w : World} {H : Hp} {h h' : Heap} {a C dx t1 : Addr} {fs : List (Str × V)} {mA : Str → Option Value} {outer : List Addr}
/-- the heap with the exception's fields -/
def hpW (H : Hp) (C a dx : Addr) (fs : List (Str × V)) : Hp := upd (upd H dx (exd dx fs)) a (exo a C (some dx))
theorem hpW_at : ExAt (hpW H C a dx fs) C a dx fs ∨ dx = a := by
  by_cases e : dx = a
  · exact .inr e
  · exact .inl ⟨upd_same, by unfold hpW; rw [upd_ne e]; exact upd_same⟩
theorem made_un (ea : Bare H C a) (hok : HOk P w H h) (k : ∀ b o, b ≠ a → h.get? b = some o → h'.get? b = some o) (dn : h.objs.size ≤ dx) (dne : dx ≠ a)
    (hx : h'.get? a = some (PySem.W.excObj C t1 (some dx) .none)) (hn : h'.Ns1 dx mA) (rel : ∀ f, RelO (fs.lookup f) (mA f)) : Un outer [] H (hpW H C a dx fs) h h' ∧ HOk P w (hpW H C a dx fs) h' := by
  have ea' : H a = some (exo a C none) := ea
  have hnd : H dx = none := hok.fresh dn
  have nd : ∀ {b : Addr} {o : Obj}, h.get? b = some o → b ≠ dx := fun {b o} q => Nat.ne_of_lt (Nat.lt_of_lt_of_le (Heap.lt_size q) dn)
  have na : ∀ {b : Addr}, H b = none → b ≠ a := fun {b} n z => by
    rw [z, ea'] at n
    cases n
  refine ⟨⟨fun b o q n _ _ => k b o (na n) q, fun b o q n _ _ => ⟨o.slots, k b o (na n) q⟩, fun b o q n _ => ?_, fun b o q _ => ?_, fun b xs q => ?_, fun b o v q => ?_, fun b ps q => ?_⟩, fun b o q => ?_⟩
  · unfold hpW
    rw [upd_ne (na n), upd_ne (nd q)]
    exact n
  · by_cases hb : b = a
    · exact ⟨_, by rw [hb]; exact hx⟩
    · exact ⟨o, k b o hb q⟩
  · unfold hpW
    rw [upd_ne (at_ne ea' q exo_tup), upd_ne (ne_of_none q hnd)]
    exact q
  · unfold hpW
    rw [upd_ne (at_ne ea' q exo_frz), upd_ne (ne_of_none q hnd)]
    exact q
  · refine ⟨#[], ?_⟩
    unfold hpW
    rw [upd_ne (at_ne ea' q exo_tbl), upd_ne (ne_of_none q hnd), q]
    simp
  · by_cases hb : b = a
    · subst hb
      unfold hpW at q
      rw [upd_same] at q
      cases q
      exact exo_ok hx
    · unfold hpW at q
      rw [upd_ne hb] at q
      by_cases hd : b = dx
      · subst hd
        rw [upd_same] at q
        cases q
        exact exd_ok hn rel
      · rw [upd_ne hd] at q
        have own_ : ∀ c, H c = some (.own b) → hpW H C a dx fs c = some (.own b) := fun c hc => by
          unfold hpW
          rw [upd_ne (at_ne ea' hc exo_own), upd_ne (ne_of_none hc hnd)]
          exact hc
        have tup_ : ∀ c xs, H c = some (.tup xs) → hpW H C a dx fs c = some (.tup xs) := fun c xs hc => by
          unfold hpW
          rw [upd_ne (at_ne ea' hc exo_tup), upd_ne (ne_of_none hc hnd)]
          exact hc
        refine (hok b o q).stay (fun c v hc z => k c v ?_ z) own_ tup_
        rcases hc with hc | hc
        · rw [hc]
          exact hb
        · exact at_ne ea' hc exo_own
end

/-! ### the promises of the three kinds of __init__ -/
def spWhy (K : PySem.W.Frag) (D : Addr) : Sp := fun vs H Q _ => ∃ (a C : Addr) (v : V), vs = [.ref a, v] ∧ WC K D C ∧ Bare H C a ∧ ∀ dx, H dx = none → dx ≠ a → Q .non (hpW H C a dx [("value", v)])
def spText (K : PySem.W.Frag) (D C : Addr) : Sp := fun vs H Q _ => ∃ (a : Addr) (v r c : V), vs = [.ref a, v, r, c] ∧ Bare H C a ∧ ∀ dx, H dx = none → dx ≠ a → Q .non (hpW H C a dx [("column", c), ("row", r), ("value", v)])
def spNone (K : PySem.W.Frag) (D C : Addr) : Sp := fun vs H Q _ => ∃ a : Addr, vs = [.ref a] ∧ Bare H C a ∧ ∀ dx, H dx = none → dx ≠ a → Q .non (hpW H C a dx [("value", .non)])

/-- WhyError's __init__ as it stands behind the top -/
structure WhyD (prog : Program) (K : PySem.W.Frag) (D f : Addr) (fd : FuncData) : Prop where
  ex : ∃ (cc cda : Addr) (qual : Str) (params : Arguments) (kV doc pm ct : Value) (an : Option Addr) (ar : Arg) (p0 p1 p2 p3 p4 p5 p6 p7 p8 p9 : Pos), fd = fnSup qual params [.Expr (exSup (.Name "value" p3) p0 p1 p2 p4) p5, stFld "value" "value" p6 p7 p8 p9] ps2 cc cda kV doc pm an ct ∧
    Sup prog K D f cc cda fd ar ∧ ar.arg = "self" ∧ PySem.W.codeIn K (.ref cda) qual = true ∧ (p2.endLine == p4.line) = true ∧ (∀ env : Env, swapsWith (.Name "value" p8) (some (.Attribute (.Name "self" p6) "value" p7)) p9.line env = pure false)
  bind : ∀ (s : Shared) (u v : Value), BindsTo s fd ⟨[u, v], []⟩ [("self", u), ("value", v)]
structure TextD (prog : Program) (K : PySem.W.Frag) (D C f f2 : Addr) (fd fd2 : FuncData) : Prop where
  ex : ∃ (cc cda : Addr) (qual : Str) (params : Arguments) (kV doc pm ct : Value) (an : Option Addr) (ar : Arg) (p0 p1 p2 p3 p4 p5 q1 q2 q3 q4 q5 q6 q7 q8 : Pos),
    fd = fnSup qual params [.Expr (exSup (.Name "value" p3) p0 p1 p2 p4) p5, stFld "row" "row" q1 q2 q3 q4, stFld "column" "column" q5 q6 q7 q8] ps4 cc cda kV doc pm an ct ∧
    Sup prog K C f cc cda fd ar ∧ ar.arg = "self" ∧ PySem.W.codeIn K (.ref cda) qual = true ∧ (p2.endLine == p4.line) = true ∧
    (∀ env : Env, swapsWith (.Name "row" q3) (some (.Attribute (.Name "self" q1) "row" q2)) q4.line env = pure false) ∧ (∀ env : Env, swapsWith (.Name "column" q7) (some (.Attribute (.Name "self" q5) "column" q6)) q8.line env = pure false)
  why : WhyD prog K D f2 fd2
  wc : WC K D C
  mr : PySem.W.mroIn K C (.ref C) = some true
  up : PySem.W.ks_superIn K C C "__init__" = some (some (.ref f2))
  fn : PySem.W.fnIn K f2 = true
  ty : PySem.W.typeIn K (.ref f2) = some (.type "function")
  nr : PySem.W.findIn K (.ref C) "row" = some none
  nc : PySem.W.findIn K (.ref C) "column" = some none
structure NoneD (prog : Program) (K : PySem.W.Frag) (D C f f2 : Addr) (fd fd2 : FuncData) : Prop where
  ex : ∃ (cc cda : Addr) (qual : Str) (params : Arguments) (kV doc pm ct : Value) (an : Option Addr) (ar : Arg) (kc : Nat) (p0 p1 p2 p3 p4 p5 : Pos),
    fd = fnSup qual params [.Expr (exSup (.Constant .none kc p3) p0 p1 p2 p4) p5] ps1 cc cda kV doc pm an ct ∧
    Sup prog K C f cc cda fd ar ∧ ar.arg = "self" ∧ PySem.W.codeIn K (.ref cda) qual = true ∧ (p2.endLine == p4.line) = true
  why : WhyD prog K D f2 fd2
  wc : WC K D C
  mr : PySem.W.mroIn K C (.ref C) = some true
  up : PySem.W.ks_superIn K C C "__init__" = some (some (.ref f2))
  fn : PySem.W.fnIn K f2 = true
  ty : PySem.W.typeIn K (.ref f2) = some (.type "function")

section
variable {P : Program} {w : World} {K : PySem.W.Frag} {mg : Str → Option Value} {base : Heap} {D C f f2 : Addr} {fd fd2 : FuncData}
theorem rel1 {v : V} {u : Value} (r : RelV v u) (g : Str) : RelO (([("value", v)] : List (Str × V)).lookup g) (if g = "value" then some u else none) := relO_put (fs := []) (mA := fun _ => none) r (fun _ => True.intro) g
theorem notK {A : Around} {outer : List Env} {s : Shared} {H : Hp} (e0 : Env0 P w K mg base A outer s H) {a : Addr} {o : HO} (ea : H a = some o) : K.lookup a = none := by
  cases z : K.lookup a with
  | none => rfl
  | some ob =>
    have y := (e0.bs a ob (e0.mod.kin a ob z)).2
    rw [ea] at y
    cases y
theorem ok_why (W : WhyD P K D f fd) (g0 : mg "super" = none) : FnOk P w K mg base CX0 1 f fd ["self", "value"] (spWhy K D) := by
  refine ⟨fun vs H Q E h => ?_, fun A outer s H args us vs Q E hr e0 hb r hsp => ?_⟩
  · obtain ⟨a, C, v, rfl, _⟩ := h
    rfl
  obtain ⟨a, C, v, rfl, T, ea, q⟩ := hsp
  obtain ⟨cc, cda, qual, params, kV, doc, pm, ct, an, ar, p0, p1, p2, p3, p4, p5, p6, p7, p8, p9, rfl, S, har, hcode, hln, hsw⟩ := W.ex
  have kb : ∀ b o, base.get? b = some o → s.heap.get? b = some o := fun b o e => (e0.bs b o e).1
  obtain ⟨t0, hx⟩ := exo_at e0.hok ea
  obtain ⟨mb, hmb, hbb⟩ := e0.mod.blt
  cases r with
  | cons r1 rr =>
    cases rr with
    | cons r2 rr =>
      cases rr
      rename_i u1 u2
      obtain rfl : u1 = Value.ref a := r1
      obtain ⟨hp, g, dr, tk, os⟩ := s
      refine why_run (mg := mg) (mb := mb) hln hsw (e0.mod.kin.keeps kb) T.cl T.up T.no S har hcode (e0.mod.nolimit.keeps kb) hr.depth (e0.mod.glob.keeps kb) g0 (hmb.keeps kb) ((hbb "super" (by decide +kernel)).trans (by decide +kernel)) hb hx (notK e0 ea) fun h' tk' dx t1 k dn dne hx' hn => ?_
      obtain ⟨un, hok⟩ := made_un (outer := frs outer) (fs := [("value", v)]) ea e0.hok k dn dne hx' hn (rel1 r2)
      exact ⟨.non, _, rfl, e0.bare, un, hok, rfl, q dx (e0.hok.fresh dn) dne⟩
theorem ok_text (W : TextD P K D C f f2 fd fd2) (g0 : mg "super" = none) : FnOk P w K mg base CX0 2 f fd ["self", "value", "row", "column"] (spText K D C) := by
  refine ⟨fun vs H Q E h => ?_, fun A outer s H args us vs Q E hr e0 hb r hsp => ?_⟩
  · obtain ⟨a, v, r, c, rfl, _⟩ := h
    rfl
  obtain ⟨a, v, rw_, c, rfl, ea, q⟩ := hsp
  obtain ⟨cc, cda, qual, params, kV, doc, pm, ct, an, ar, p0, p1, p2, p3, p4, p5, q1, q2, q3, q4, q5, q6, q7, q8, rfl, S, har, hcode, hln, hsw1, hsw2⟩ := W.ex
  obtain ⟨cc', cda', qual', params', kV', doc', pm', ct', an', ar', p0', p1', p2', p3', p4', p5', p6', p7', p8', p9', rfl, S', har', hcode', hln', hsw'⟩ := W.why.ex
  have kb : ∀ b o, base.get? b = some o → s.heap.get? b = some o := fun b o e => (e0.bs b o e).1
  obtain ⟨t0, hx⟩ := exo_at e0.hok ea
  obtain ⟨mb, hmb, hbb⟩ := e0.mod.blt
  have b0 : mb "super" = some (.type "super") := (hbb "super" (by decide +kernel)).trans (by decide +kernel)
  have hd := hr.dp
  cases r with
  | cons r1 rr =>
    cases rr with
    | cons r2 rr =>
      cases rr with
      | cons r3 rr =>
        cases rr with
        | cons r4 rr =>
          cases rr
          rename_i u1 u2 u3 u4
          obtain rfl : u1 = Value.ref a := r1
          obtain ⟨hp, g, dr, tk, os⟩ := s
          refine text_run (mg := mg) (mb := mb) hln hsw1 hsw2 (e0.mod.kin.keeps kb) W.wc.cl W.mr W.up W.fn W.ty W.nr W.nc S har hcode (e0.mod.nolimit.keeps kb) hr.depth (e0.mod.glob.keeps kb) g0 (hmb.keeps kb) b0 hb hx (notK e0 ea) (fun A' h' tk' R' kk hA hR => ?_) fun h' tk' dx t1 k dn dne hx' hn => ?_
          · refine why_run (mg := mg) (mb := mb) hln' hsw' ((e0.mod.kin.keeps kb).keeps kk) W.wc.cl W.wc.up W.wc.no S' har' hcode' ((e0.mod.nolimit.keeps kb).keeps kk) (by omega) ((e0.mod.glob.keeps kb).keeps kk) g0 ((hmb.keeps kb).keeps kk) b0 (W.why.bind _ _ _) (kk _ _ hx) (notK e0 ea) fun h2 tk2 dx t1 k dn dne hx' hn => ?_
            exact hR h2 tk2 ⟨dx, t1, k, dn, dne, hx', hn⟩
          · obtain ⟨un, hok⟩ := made_un (outer := frs outer) (fs := [("column", c), ("row", rw_), ("value", v)]) ea e0.hok k dn dne hx' hn (fun z => relO_put r4 (relO_put r3 (rel1 r2)) z)
            exact ⟨.non, _, rfl, e0.bare, un, hok, rfl, q dx (e0.hok.fresh dn) dne⟩
theorem ok_none (W : NoneD P K D C f f2 fd fd2) (g0 : mg "super" = none) : FnOk P w K mg base CX0 2 f fd ["self"] (spNone K D C) := by
  refine ⟨fun vs H Q E h => ?_, fun A outer s H args us vs Q E hr e0 hb r hsp => ?_⟩
  · obtain ⟨a, rfl, _⟩ := h
    rfl
  obtain ⟨a, rfl, ea, q⟩ := hsp
  obtain ⟨cc, cda, qual, params, kV, doc, pm, ct, an, ar, kc, p0, p1, p2, p3, p4, p5, rfl, S, har, hcode, hln⟩ := W.ex
  obtain ⟨cc', cda', qual', params', kV', doc', pm', ct', an', ar', p0', p1', p2', p3', p4', p5', p6', p7', p8', p9', rfl, S', har', hcode', hln', hsw'⟩ := W.why.ex
  have kb : ∀ b o, base.get? b = some o → s.heap.get? b = some o := fun b o e => (e0.bs b o e).1
  obtain ⟨t0, hx⟩ := exo_at e0.hok ea
  obtain ⟨mb, hmb, hbb⟩ := e0.mod.blt
  have b0 : mb "super" = some (.type "super") := (hbb "super" (by decide +kernel)).trans (by decide +kernel)
  have hd := hr.dp
  cases r with
  | cons r1 rr =>
    cases rr
    rename_i u1
    obtain rfl : u1 = Value.ref a := r1
    obtain ⟨hp, g, dr, tk, os⟩ := s
    refine none_run (mg := mg) (mb := mb) hln (e0.mod.kin.keeps kb) W.wc.cl W.mr W.up W.fn W.ty S har hcode (e0.mod.nolimit.keeps kb) hr.depth (e0.mod.glob.keeps kb) g0 (hmb.keeps kb) b0 hb hx (notK e0 ea) (fun A' h' tk' R' kk hA hR => ?_) fun h' tk' dx t1 k dn dne hx' hn => ?_
    · refine why_run (mg := mg) (mb := mb) hln' hsw' ((e0.mod.kin.keeps kb).keeps kk) W.wc.cl W.wc.up W.wc.no S' har' hcode' ((e0.mod.nolimit.keeps kb).keeps kk) (by omega) ((e0.mod.glob.keeps kb).keeps kk) g0 ((hmb.keeps kb).keeps kk) b0 (W.why.bind _ _ _) (kk _ _ hx) (notK e0 ea) fun h2 tk2 dx t1 k dn dne hx' hn => ?_
      exact hR h2 tk2 ⟨dx, t1, k, dn, dne, hx', hn⟩
    · obtain ⟨un, hok⟩ := made_un (outer := frs outer) (fs := [("value", .non)]) ea e0.hok k dn dne hx' hn (rel1 rfl)
      exact ⟨.non, _, rfl, e0.bare, un, hok, rfl, q dx (e0.hok.fresh dn) dne⟩
end
end Wy

set_option Elab.async false
set_option linter.all false
set_option maxRecDepth 100000
set_option maxHeartbeats 4000000
/-! Wy, part E: rules of expressions: C(..) of such a class, e.value, isinstance(e, c), repr(x). -/
namespace Wy
open PySem PySem.Spec L2

/-- the class C makes its instances by the def at fI -/
structure MkE (K : PySem.W.Frag) (C fI : Addr) : Prop where
  cls : ∃ nm q N bs bm sn sub ab col dd k0 k1 k2 k3 k5, K.lookup C = some (excClassObj nm q C N bs bm true sn sub ab col dd k0 k1 k2 k3 k5 "ValueError.__new__") ∧ PySem.HandSPX.refsVE bm = true
  ini : PySem.W.findIn K (.ref C) "__init__" = some (some (.ref fI))
  fn : PySem.W.typeIn K (.ref fI) = some (.type "function")
  kp : PySem.W.keepIn K (.ref C) = true
/-- C(e, ..) -/
def tMkE (C : Addr) (sp : Sp) (t : TA) : TE := fun σ H Q => t σ H fun vs H1 => vs.length ≤ 1000 ∧ ∀ a, H1 a = none → sp (.ref a :: vs) (upd H1 a (exo a C none)) (fun v H2 => v = .non ∧ Q (.ref a) H2) E0
section
variable {X : Cx} {k : Nat} {fI C : Addr} {fd : FuncData} {ps ks : List Str} {sp : Sp} {x : Str} {p pos : Pos} {e : Expr} {es : List Expr} {kws : List Keyword} {t : TA}
theorem run_mkE {pins : List (Addr × Obj)} {σ : St} {H : Hp} {s : Shared} {Q : VK} {us ws : List Value} {vs : List V} {kw : List (Str × Value)} (M : MkE X.K C fI) (F : FnOk X.prog X.w X.K X.mg X.base CX0 k fI fd ps sp) (hr : Room (k + 1) X.A)
    (I : Inv X pins σ H s) (hl : us.length ≤ 1000) (hb : ∀ s' u, BindsTo s' fd ⟨u :: us, kw⟩ (ps.zip (u :: ws))) (r : Vals vs ws)
    (h : ∀ a, H a = none → sp (.ref a :: vs) (upd H a (exo a C none)) (fun v H2 => v = .non ∧ Q (.ref a) H2) E0) :
    wpAny (model X.prog X.w) X.A (call (.ref C) us kw) (EP X pins σ Q) X.xe s := by
  obtain ⟨nm, q, N, bs, bm, sn, sub, ab, col, dd, k0, k1, k2, k3, k5, hC, hbm⟩ := M.cls
  obtain ⟨hp, g, dr, tk, os⟩ := s
  have hsz : hp.objs.size ≤ hp.objs.size + 1 := Nat.le_succ _
  have hn : H (hp.objs.size + 1) = none := I.hok.fresh hsz
  have hq := h (hp.objs.size + 1) hn
  have kk : ∀ b o, hp.get? b = some o → ((hp.push (PySem.W.kdv_tup us)).push (PySem.HandSPX.excO C hp.objs.size)).get? b = some o := fun b o e => Heap.get?_push_of_some _ (Heap.get?_push_of_some _ e)
  have hget : ((hp.push (PySem.W.kdv_tup us)).push (PySem.HandSPX.excO C hp.objs.size)).get? (hp.objs.size + 1) = some (PySem.HandSPX.excO C hp.objs.size) := by heap_get
  have I2 : Inv X pins σ (upd H (hp.objs.size + 1) (exo (hp.objs.size + 1) C none)) ⟨(hp.push (PySem.W.kdv_tup us)).push (PySem.HandSPX.excO C hp.objs.size), g, dr, tk, os⟩ :=
    I.laid (t' := tk) (a := hp.objs.size + 1) (o := exo (hp.objs.size + 1) C none) (h' := (hp.push (PySem.W.kdv_tup us)).push (PySem.HandSPX.excO C hp.objs.size)) kk hsz (exo_ok hget)
  have r2 : Vals (V.ref (hp.objs.size + 1) :: vs) (Value.ref (hp.objs.size + 1) :: ws) := .cons rfl r
  refine wpAny_call (cls_called hbm (I.kIn _ _ hC) (PySem.W.looks_findIn I.kIn M.ini) (fun self => PySem.W.bind_fn I.kIn self M.fn) (Nat.le_trans hl (by decide))
    (codeAny_mono (F.run _ X.stack _ _ ⟨Value.ref (hp.objs.size + 1) :: us, kw⟩ (Value.ref (hp.objs.size + 1) :: ws) _ _ E0 (hr.make C us kw) (I2.env0.make C us kw) (hb _ _) r2 hq) fun r s' hq' => ?_))
  cases r with
  | error er => exact (show False from hq').elim
  | ok fl =>
    cases fl with
    | ret u =>
      obtain ⟨v, H2, I3, rv, ev, q2⟩ := I2.after hq'
      subst ev
      exact ⟨rv, V.ref (hp.objs.size + 1), H2, I3, rfl, q2⟩
    | next => exact False.elim hq'
    | brk => exact False.elim hq'
    | cont => exact False.elim hq'
theorem pe_mkE (M : MkE X.K C fI) (F : FnOk X.prog X.w X.K X.mg X.base CX0 k fI fd ps sp) (hr : Room (k + 1) X.A) (hg : Gl X x) (hm : X.mg x = some (.ref C)) (hb : ∀ (us : List Value), us.length + 1 = ps.length → ∀ s' u, BindsTo s' fd ⟨u :: us, []⟩ (ps.zip (u :: us))) (hps : ∀ vs H Q, sp vs H Q E0 → vs.length = ps.length)
    (ha : PA X (e :: es) t) (hdb : (x == ("__debug__" : Str)) = false := by decide) (he : starEach (e :: es) X.env = (false, eval e X.env) :: starEach es X.env := by rfl) (hpl : (backTo pos (starEach es X.env)).any (·.1) = false := by rfl) :
    PE X (.Call (.Name x p) (e :: es) [] pos) (tMkE C sp t) := by
  refine ⟨fun pins s σ H Q I h => ?_⟩
  refine wpAny_Call_Name_kw (ld_glob I hg hm ?_ hdb)
  refine PySem.W.callWith_K (h₀ := X.base) I.ok.mod.kin M.kp (thn (ha.run pos pins s σ H _ I h) fun us s1 ⟨vs, H1, I1, r, hl, q⟩ => ⟨I1.kIn, ?_⟩) he hpl
  have e1 := hps _ _ _ (q (s1.heap.objs.size) (I1.hok.fresh (Nat.le_refl _)))
  have e2 := r.length
  show wpAny _ _ (call (.ref C) us []) _ _ _
  refine run_mkE M F hr I1 (by rw [← e2]; exact hl) (hb us ?_) r q
  rw [← e2, ← e1]
  rfl
theorem pe_mkE0 (M : MkE X.K C fI) (F : FnOk X.prog X.w X.K X.mg X.base CX0 k fI fd ps sp) (hr : Room (k + 1) X.A) (hg : Gl X x) (hm : X.mg x = some (.ref C)) (hb : ∀ s' u, BindsTo s' fd ⟨[u], []⟩ (ps.zip [u])) (hdb : (x == ("__debug__" : Str)) = false := by decide) :
    PE X (.Call (.Name x p) [] [] pos) (tMkE C sp tNil) := by
  refine ⟨fun pins s σ H Q I h => ?_⟩
  refine wpAny_Call_Name_kw (ld_glob I hg hm ?_ hdb)
  exact PySem.W.callWith_K0 I.kIn M.kp (run_mkE (us := []) (ws := []) (vs := []) M F hr I (by decide) hb .nil h.2)
/-- C(k = v, ..) -/
theorem pe_mkEk (M : MkE X.K C fI) (F : FnOk X.prog X.w X.K X.mg X.base CX0 k fI fd ps sp) (hr : Room (k + 1) X.A) (hg : Gl X x) (hm : X.mg x = some (.ref C)) (hb : ∀ (ws : List Value), ws.length = ks.length → ∀ s' u, BindsTo s' fd ⟨[u], ks.zip ws⟩ (ps.zip (u :: ws)))
    (hps : ∀ vs H Q, sp vs H Q E0 → vs.length = ks.length + 1) (hkw : PK X kws t) (hall : (backToKw pos (keywordEach kws X.env)).all (·.1.isSome) = true := by rfl) (hks : (backToKw pos (keywordEach kws X.env)).filterMap (·.1) = ks := by rfl)
    (hdb : (x == ("__debug__" : Str)) = false := by decide) (hpl : ((backTo pos (starEach [] X.env)).any (·.1) || (backToKw pos (keywordEach kws X.env)).any (·.1.isNone)) = false := by rfl) :
    PE X (.Call (.Name x p) [] kws pos) (tMkE C sp t) := by
  refine ⟨fun pins s σ H Q I h => ?_⟩
  refine wpAny_Call_Name_kw (ld_glob I hg hm ?_ hdb)
  refine PySem.W.callWith_KW0 (h₀ := X.base) I.ok.mod.kin M.kp hall ?_ hpl
  refine thn (hkw.run pos pins s σ H _ I h) fun ws s2 ⟨zs, H2, I2, rz, hl, q⟩ => ⟨I2.kIn, ?_⟩
  rw [hks]
  have e1 := hps _ _ _ (q (s2.heap.objs.size) (I2.hok.fresh (Nat.le_refl _)))
  have e2 := rz.length
  exact run_mkE (us := []) M F hr I2 (by decide) (hb ws (by rw [← e2]; exact Nat.succ.inj e1)) rz q
end

/-! ### e.n -/
def tXfld (K : PySem.W.Frag) (te : TE) (n : Str) : TE := fun σ H Q => te σ H fun x H1 => ∃ (a C dx : Addr) (fs : List (Str × V)) (v : V), x = .ref a ∧ ExAt H1 C a dx fs ∧ XfC K C ∧ PySem.W.findIn K (.ref C) n = some none ∧ fs.lookup n = some v ∧ Q v H1
theorem ex_inst {P : Program} {w : World} {H : Hp} {h : Heap} {C a dx : Addr} {fs : List (Str × V)} (hok : HOk P w H h) (ea : ExAt H C a dx fs) : ∃ (t1 : Addr) (od : Obj) (mA : Str → Option Value), PySem.W.InstAt h a (PySem.W.excObj C t1 (some dx) .none) C (some od) ∧ h.Ns1 dx mA ∧ h.get? dx = some od ∧ ∀ f, RelO (fs.lookup f) (mA f) := by
  obtain ⟨t1, hx⟩ := exo_at hok ea.1
  obtain ⟨mA, hns, rel⟩ := exd_at hok ea.2
  obtain ⟨od, es, ep, ho, r⟩ := id hns
  exact ⟨t1, od, mA, ⟨hx, rfl, rfl, ho⟩, hns, ho, rel⟩
theorem pe_xfld {X : Cx} {e : Expr} {te : TE} {pos : Pos} {n : Str} (he : PE X e te) (hb : attributeBase e n X.env (eval e X.env) = eval e X.env := by rfl) : PE X (.Attribute e n pos) (tXfld X.K te n) := by
  refine ⟨fun pins s σ H Q I h => ?_⟩
  refine attr_of hb (thn (he.run pins s σ H _ I h) fun u s1 hh => ?_)
  obtain ⟨x, H1, I1, rx, a, C, dx, fs, v, ex, ea, T, hno, l, q⟩ := hh
  subst ex
  obtain rfl : u = Value.ref a := rx
  obtain ⟨t1, hx⟩ := exo_at I1.hok ea.1
  obtain ⟨mA, hns, hr⟩ := exd_at I1.hok ea.2
  obtain ⟨od, ho, hl⟩ := lookIn_ns hns
  obtain ⟨u, hu, ru⟩ := RelO.some_of (v := v) (o := mA n) (by rw [← l]; exact hr n)
  have J : PySem.W.InstAt s1.heap a (PySem.W.excObj C t1 (some dx) .none) C (some od) := ⟨hx, rfl, rfl, ho⟩
  exact PySem.HandSPX.exc_get I1.kIn J T.ga T.gg T.exC (PySem.W.findObj_own T.hdC hno rfl (by rw [hl, hu])) (handed_of ru) ⟨v, H1, I1.tok _, ru, q⟩

/-! ### isinstance(e, c) -/
def rIsX (K : PySem.W.Frag) : List V → Hp → VK → Prop := fun xs H Q => ∃ (a C dx : Addr) (fs : List (Str × V)) (c : V) (u : Value) (b : Bool), xs = [.ref a, c] ∧ ExAt H C a dx fs ∧ ExcC K C ∧ ClsV c u ∧ PySem.W.kitOne K (.ref C) u = some b ∧ Q (.bl b) H
theorem call_isX {X : Cx} : CallR X (.builtin "isinstance") (rIsX X.K) := by
  intro pins s σ H xs us Q I r h
  obtain ⟨a, C, dx, fs, c, cv, b, rfl, ea, T, k, e, q⟩ := h
  cases r with
  | cons rx rr =>
    cases rr with
    | cons rt rr =>
      cases rr
      cases rx
      have ec := k.eq rt
      subst ec
      obtain ⟨t1, od, mA, J, _⟩ := ex_inst I.hok ea
      have hcl : (PySem.W.clsIn X.K C).isSome = true := by
        obtain ⟨cd, hc, _⟩ := PySem.W.any_some T.hd
        rw [hc]
        rfl
      exact PySem.W.kia_one (PySem.W.kitx_exc hcl T.hg T.hk T.hs T.ha T.hn T.ht T.hm) I.kIn J e (fun z => nomatch z) fun tk => ⟨.bl b, H, I.kept (t' := tk) fun _ _ z => z, rfl, q⟩
end Wy

set_option Elab.async false
set_option linter.all false
set_option maxRecDepth 100000
set_option maxHeartbeats 4000000
/-! Wy, part F: data of any depth (dicts, too), repr of it; defs that may ask repr (no repr runs around them). -/
namespace Wy
open PySem PySem.Spec L2

def kD : Key → PyData
  | .inl i => .int i
  | .inr x => .str x
mutual
inductive Dx (K : PySem.W.Frag) (H : Hp) : V → PyData → Prop
  | non : Dx K H .non .none
  | bl (b : Bool) : Dx K H (.bl b) (.bool b)
  | int (i : Int) : Dx K H (.int i) (.int i)
  | str (x : Str) : Dx K H (.str x) (.str x)
  | lst {a : Addr} {xs : List V} {ds : List PyData} : SqL K H a xs → DxAll K H xs ds → Dx K H (.ref a) (.list ds)
  | tup {a : Addr} {xs : List V} {ds : List PyData} : SqT K H a xs → DxAll K H xs ds → Dx K H (.ref a) (.tuple ds)
  | dct {a : Addr} {kvs : List (Key × V)} {es : List (PyData × PyData)} : H a = some (.dK kvs) → DxKv K H kvs es → Dx K H (.ref a) (.dict es)
inductive DxAll (K : PySem.W.Frag) (H : Hp) : List V → List PyData → Prop
  | nil : DxAll K H [] []
  | cons {v : V} {vs : List V} {d : PyData} {ds : List PyData} : Dx K H v d → DxAll K H vs ds → DxAll K H (v :: vs) (d :: ds)
inductive DxKv (K : PySem.W.Frag) (H : Hp) : List (Key × V) → List (PyData × PyData) → Prop
  | nil : DxKv K H [] []
  | cons {k : Key} {v : V} {kvs : List (Key × V)} {d : PyData} {es : List (PyData × PyData)} : Dx K H v d → DxKv K H kvs es → DxKv K H ((k, v) :: kvs) ((kD k, d) :: es)
end
mutual
theorem Dx.mono {K : PySem.W.Frag} {H H' : Hp} (s : Same H H') : ∀ {v : V} {d : PyData}, Dx K H v d → Dx K H' v d
  | _, _, .non => .non
  | _, _, .bl b => .bl b
  | _, _, .int i => .int i
  | _, _, .str x => .str x
  | _, _, .lst h a => .lst (s.seq h) (DxAll.mono s a)
  | _, _, .tup h a => .tup (by
      rcases h with (h | ⟨o, h⟩) | h
      · exact .inl (.inl (s _ _ h))
      · exact .inl (.inr ⟨o, s _ _ h⟩)
      · exact .inr h) (DxAll.mono s a)
  | _, _, .dct h a => .dct (s _ _ h) (DxKv.mono s a)
theorem DxAll.mono {K : PySem.W.Frag} {H H' : Hp} (s : Same H H') : ∀ {vs : List V} {ds : List PyData}, DxAll K H vs ds → DxAll K H' vs ds
  | _, _, .nil => .nil
  | _, _, .cons h a => .cons (Dx.mono s h) (DxAll.mono s a)
theorem DxKv.mono {K : PySem.W.Frag} {H H' : Hp} (s : Same H H') : ∀ {kvs : List (Key × V)} {es : List (PyData × PyData)}, DxKv K H kvs es → DxKv K H' kvs es
  | _, _, .nil => .nil
  | _, _, .cons h a => .cons (Dx.mono s h) (DxKv.mono s a)
end
theorem DxAll.append {K : PySem.W.Frag} {H : Hp} : ∀ {vs us : List V} {ds es : List PyData}, DxAll K H vs ds → DxAll K H us es → DxAll K H (vs ++ us) (ds ++ es)
  | _, _, _, _, .nil, b => b
  | _, _, _, _, .cons h a, b => .cons h (DxAll.append a b)
theorem DxAll.length {K : PySem.W.Frag} {H : Hp} : ∀ {vs : List V} {ds : List PyData}, DxAll K H vs ds → vs.length = ds.length
  | _, _, .nil => rfl
  | _, _, .cons _ a => congrArg Nat.succ (DxAll.length a)
theorem DxAll.get {K : PySem.W.Frag} {H : Hp} : ∀ {vs : List V} {ds : List PyData} {i : Nat} {v : V}, DxAll K H vs ds → vs[i]? = some v → ∃ d, ds[i]? = some d ∧ Dx K H v d
  | _, _, _, _, .nil, e => by simp at e
  | _, _, 0, _, .cons h _, e => by
    simp at e
    subst e
    exact ⟨_, rfl, h⟩
  | _, _, i + 1, _, .cons _ a, e => by
    obtain ⟨d, h1, h2⟩ := DxAll.get (i := i) a (by simpa using e)
    exact ⟨d, by simpa using h1, h2⟩

/-- the written part holds the dict of loaded modules -/
def SmK (K : PySem.W.Frag) : Prop := ∃ o, K.lookup sysModules = some o ∧ o.cls = .type "dict"
section
variable {X : Cx} {pins : List (Addr × Obj)} {σ : St} {H : Hp} {s : Shared}
theorem list_ne (I : Inv X pins σ H s) (hK : SmK X.K) {a : Addr} {o : Obj} (h : s.heap.get? a = some o) (hc : o.cls = .type "list") : a ≠ sysModules := by
  intro e
  subst e
  obtain ⟨o', h1, h2⟩ := hK
  have h3 := I.kIn _ _ h1
  rw [h] at h3
  cases h3
  rw [hc] at h2
  exact absurd h2 (by decide)
theorem pairs_reads {P : Program} {w : World} : ∀ {es : List DictEntry} {kvs : List (Key × Value)}, Pairs (mixKind P w) es kvs → ∃ as, ReadsAll s.heap (es.map (·.key)) (kvs.map fun p => kD p.1) as ∧ sysModules ∉ as
  | _, _, .nil => ⟨[], .nil, by simp⟩
  | _, _, .cons (e := e) (kv := kv) h1 h2 hr => by
    obtain ⟨as, r, n⟩ := pairs_reads hr
    have h1' : keyIs kv.1 e.key = true := h1
    obtain ⟨k, v⟩ := kv
    rcases keyIs_shape h1' with ⟨i, t, e1, e2⟩ | ⟨x, t, e1, e2⟩
    · simp only at e1
      subst e1
      refine ⟨[] ++ as, ?_, n⟩
      rw [List.map_cons, e2]
      exact .cons (.int i t) r
    · simp only at e1
      subst e1
      refine ⟨[] ++ as, ?_, n⟩
      rw [List.map_cons, e2]
      exact .cons (.str x t) r
mutual
theorem Dx.reads (I : Inv X pins σ H s) (hK : SmK X.K) : ∀ (d : PyData) (v : V) (u : Value), Dx X.K H v d → RelV v u → ∃ as, Reads s.heap u d as ∧ sysModules ∉ as
  | .none, _, _, h, r => by
    cases h
    cases r
    exact ⟨_, Reads.none, by simp⟩
  | .bool b, _, _, h, r => by
    cases h
    cases r
    exact ⟨_, Reads.bool b, by simp⟩
  | .int i, _, _, h, r => by
    cases h
    obtain ⟨t, rfl⟩ := r
    exact ⟨_, Reads.int i t, by simp⟩
  | .str x, _, _, h, r => by
    cases h
    obtain ⟨t, rfl⟩ := r
    exact ⟨_, Reads.str x t, by simp⟩
  | .list ds, _, _, h, r => by
    cases h with
    | lst hs ha =>
      cases r
      obtain ⟨its, rv, ⟨o, n, ho, hc, _, hd⟩, _⟩ := I.list hs
      obtain ⟨as, hr, hn⟩ := Dx.readsAll I hK ds _ its ha rv
      refine ⟨_, Reads.list ho hc hd hr, ?_⟩
      rw [List.mem_cons]
      exact fun z => z.elim (fun z => list_ne I hK ho hc z.symm) hn
  | .tuple ds, _, _, h, r => by
    cases h with
    | tup hs ha =>
      cases r
      obtain ⟨its, rv, ⟨o, ho, hc, n, hd⟩, _⟩ := I.tuple hs
      obtain ⟨as, hr, hn⟩ := Dx.readsAll I hK ds _ its ha rv
      exact ⟨_, Reads.tuple ho hc hd hr, hn⟩
  | .dict es, _, _, h, r => by
    cases h with
    | dct ha hv =>
      cases r
      obtain ⟨z, hne, vs, rel, o, des, ep, ho, hx, hd, _, hp, _⟩ := dk_of I.hok ha
      obtain ⟨as, hr, hn⟩ := pairs_reads hp
      obtain ⟨e1, bs, hb, hbn⟩ := Dx.readsKv I hK es _ vs des.toList hv rel hp
      refine ⟨_, Reads.dict ho hx.1 hd (by rw [e1] at hr; exact hr) hb, ?_⟩
      rw [List.cons_append, List.mem_cons, List.mem_append]
      rintro (z | z | z)
      · rw [z] at hne
        simp at hne
      · exact hn z
      · exact hbn z
theorem Dx.readsAll (I : Inv X pins σ H s) (hK : SmK X.K) : ∀ (ds : List PyData) (vs : List V) (us : List Value), DxAll X.K H vs ds → Vals vs us → ∃ as, ReadsAll s.heap us ds as ∧ sysModules ∉ as
  | [], _, _, h, r => by
    cases h
    cases r
    exact ⟨_, ReadsAll.nil, by simp⟩
  | d :: ds, _, _, h, r => by
    cases h with
    | cons h1 h2 =>
      cases r with
      | cons r1 r2 =>
        obtain ⟨as, q1, n1⟩ := Dx.reads I hK d _ _ h1 r1
        obtain ⟨bs, q2, n2⟩ := Dx.readsAll I hK ds _ _ h2 r2
        refine ⟨_, ReadsAll.cons q1 q2, ?_⟩
        rw [List.mem_append]
        exact fun z => z.elim n1 n2
theorem Dx.readsKv (I : Inv X pins σ H s) (hK : SmK X.K) : ∀ (es : List (PyData × PyData)) (kvs : List (Key × V)) (vs : List (Key × Value)) (des : List DictEntry), DxKv X.K H kvs es → KV kvs vs → Pairs (mixKind X.prog X.w) des vs →
    (vs.map fun p => kD p.1) = es.map (·.1) ∧ ∃ bs, ReadsAll s.heap (des.map (·.val)) (es.map (·.2)) bs ∧ sysModules ∉ bs
  | [], _, _, _, h, r, p => by
    cases h
    cases r
    cases p
    exact ⟨rfl, _, ReadsAll.nil, by simp⟩
  | (kd, d) :: es, _, _, _, h, r, p => by
    cases h with
    | cons h1 h2 =>
      cases r with
      | cons r1 r2 =>
        cases p with
        | cons p1 p2 p3 =>
          obtain ⟨e1, bs, q2, n2⟩ := Dx.readsKv I hK es _ _ _ h2 r2 p3
          obtain ⟨as, q1, n1⟩ := Dx.reads I hK d _ _ h1 r1.2
          refine ⟨?_, as ++ bs, ?_, ?_⟩
          · rw [List.map_cons, List.map_cons, e1, ← r1.1]
          · rw [List.map_cons, List.map_cons, p2]
            exact ReadsAll.cons q1 q2
          · rw [List.mem_append]
            exact fun z => z.elim n1 n2
end
end
/-- repr(x) -/
def rRepr (K : PySem.W.Frag) : List V → Hp → VK → Prop := fun xs H Q => ∃ (x : V) (d : PyData), xs = [x] ∧ Dx K H x d ∧ d.showable = true ∧ d.shown.length ≤ sizeLine ∧ d.depth ≤ 60 ∧ Q (.str d.shown) H
theorem call_repr {X : Cx} (hK : SmK X.K) (hg : X.A.guards = some []) (hu : X.A.units + 64 < cLine) : CallR X (.builtin "repr") (rRepr X.K) := by
  intro pins s σ H xs us Q I r h
  obtain ⟨x, d, rfl, hd, hs, hz, hdep, q⟩ := h
  cases r with
  | cons rx rr =>
    cases rr
    rename_i u
    obtain ⟨as, hr, hn⟩ := Dx.reads I hK d x u hd rx
    cases hd with
    | non =>
      cases rx
      refine PySem.P.repr_of_none ?_
      exact ⟨.str "None", H, I.tok _, ⟨_, rfl⟩, by simpa only [PyData.shown] using q⟩
    | bl b =>
      cases rx
      refine PySem.P.repr_of_bool ?_
      exact ⟨.str (if b then "True" else "False"), H, I.tok _, ⟨_, rfl⟩, by simpa only [PyData.shown] using q⟩
    | int i =>
      obtain ⟨t, rfl⟩ := rx
      refine PySem.P.repr_of_int (by simpa [PyData.showable] using hs) ?_
      exact ⟨.str (toString i), H, I.tok _, ⟨_, rfl⟩, by simpa only [PyData.shown] using q⟩
    | str y =>
      obtain ⟨t, rfl⟩ := rx
      refine PySem.P.repr_of_str ?_ (by simpa only [PyData.shown] using hz)
      exact ⟨.str (reprText y), H, I.tok _, ⟨_, rfl⟩, by simpa only [PyData.shown] using q⟩
    | lst h1 h2 =>
      cases rx
      exact repr_of_reads' hr hs (fun _ => hn) hg (by omega) (fun _ _ e => e) (fun h' t tk k => ⟨.str _, H, I.kept (t' := tk) k, ⟨_, rfl⟩, q⟩) hz
    | tup h1 h2 =>
      cases rx
      exact repr_of_reads' hr hs (fun _ => hn) hg (by omega) (fun _ _ e => e) (fun h' t tk k => ⟨.str _, H, I.kept (t' := tk) k, ⟨_, rfl⟩, q⟩) hz
    | dct h1 h2 =>
      cases rx
      exact repr_of_reads' hr hs (fun _ => hn) hg (by omega) (fun _ _ e => e) (fun h' t tk k => ⟨.str _, H, I.kept (t' := tk) k, ⟨_, rfl⟩, q⟩) hz
end Wy

set_option Elab.async false
set_option linter.all false
set_option maxRecDepth 100000
set_option maxHeartbeats 4000000
/-! Wy, part G: short words; xs[i] op= e; defs that may ask repr. -/
namespace Wy
open PySem PySem.Spec L2

/-- a def of the text as it stands, under its name -/
structure Df (K : PySem.W.Frag) (mg : Str → Option Value) (x : Str) (st : Stmt) (f : Addr) (fd : FuncData) : Prop where
  fn : FunD K x x (defArgs st) (defBody st) (defScope st) [] [] f fd
  gl : mg x = some (.ref f)
/-- xs[i] of a list, read for xs[i] op= e -/
theorem get_list {X : Cx} : PGet X (fun x y H Q => ∃ p xs v, ∃ j : Nat, x = .ref p ∧ y = .int (j : Int) ∧ SqL X.K H p xs ∧ xs[j]? = some v ∧ (j : Int) < 2 ^ 63 ∧ Q v H) := by
  intro pins s σ H o i ov iv Q I ro ri h
  obtain ⟨p, xs, z, j, rfl, rfl, hq, hz, hj, q⟩ := h
  cases ro
  obtain ⟨t, rfl⟩ := ri
  obtain ⟨its, r, pl, _⟩ := I.list hq
  obtain ⟨u, eu, ru⟩ := r.get hz
  exact wpAny_getItem_list pl.isList (by omega) hj (by simpa using eu) ⟨z, H, I, ru, q⟩
/-- the heap without one address -/
def outA (H : Hp) (p : Addr) : Hp := fun b => if b = p then none else H b
theorem outA_ne {H : Hp} {p b : Addr} (h : b ≠ p) : outA H p b = H b := if_neg h
theorem outA_at {H : Hp} {p : Addr} : outA H p p = none := if_pos rfl
theorem outA_eq {H H' : Hp} {p : Addr} (k : ∀ b, b ≠ p → H' b = H b) : outA H' p = outA H p := by
  funext b
  by_cases e : b = p
  · rw [e, outA_at, outA_at]
  · rw [outA_ne e, outA_ne e, k b e]
theorem outA_sub {H : Hp} {p : Addr} : Same (outA H p) H := fun b o e => by
  by_cases h : b = p
  · rw [h, outA_at] at e
    cases e
  · rw [outA_ne h] at e
    exact e
theorem outA_same {H H' : Hp} {p : Addr} (k : ∀ b o, b ≠ p → H b = some o → H' b = some o) : Same (outA H p) (outA H' p) := fun b o e => by
  by_cases h : b = p
  · rw [h, outA_at] at e
    cases e
  · rw [outA_ne h] at e
    rw [outA_ne h]
    exact k b o h e
theorem same_new {H : Hp} {p : Addr} (h : H p = none) (o : HO) : Same H (upd H p o) := fun b u q => by
  rw [upd_ne (ne_of_none q h)]
  exact q
theorem small (n : Nat) (h : n ≤ 100000) : n ≤ sizeLine := Nat.le_trans h (by decide)

/-! ### a def that may ask repr: no repr runs around it -/
structure FnG (P : Program) (w : World) (K : PySem.W.Frag) (mg : Str → Option Value) (base : Heap) (CX : CXT) (k : Nat) (f : Addr) (fd : FuncData) (ps : List Str) (sp : Sp) : Prop where
  len : ∀ vs H Q E, sp vs H Q E → vs.length = ps.length
  run : ∀ (A : Around) (outer : List Env) (s : Shared) (H : Hp) (args : Args) (us : List Value) (vs : List V) (Q : VK) (E : XK), Room k A → A.guards = some [] → Env0 P w K mg base A outer s H → BindsTo s fd args (ps.zip us) → Vals vs us → sp vs H Q E →
    codeAny (model P w) A (.call (.ref f) args) (CR CX outer P w H s Q E) s
theorem FnG.ok {P : Program} {w : World} {K : PySem.W.Frag} {mg : Str → Option Value} {base : Heap} {CX : CXT} {qn : Str} {st : Stmt} {f : Addr} {fd : FuncData} {N ps : List Str} {k : Nat} {sp : Sp} (D : Df K mg qn st f fd) (S : FnScope N ps (defScope st))
    (len : ∀ vs H Q E, sp vs H Q E → vs.length = ps.length)
    (hbody : ∀ (cdv : Value) (A : Around) (outer : List Env) (s : Shared) (H : Hp) (vs : List V) (Q : VK) (E : XK), Room k (A.deeper (PyProof.Rows.envOfC qn (defScope st) s.heap.objs.size f cdv)) → A.guards = some [] → sp vs H Q E →
      ∃ t, PSs (cxOf CX P w K mg base N qn (defScope st) f cdv A outer s H E) (defBody st) t ∧ t { nx := fun _ H' => Q .non H', rt := Q } (start N vs) H) : FnG P w K mg base CX (k + 1) f fd ps sp := by
  obtain ⟨oc, od, dV, kV, doc, pm, an, cdv, ct, osl, rfl, lk, hcd, _, _⟩ := D.fn.ex
  refine ⟨len, fun A outer s H args us vs Q E hr hg e0 hb r hsp => ?_⟩
  have kb : ∀ b o, base.get? b = some o → s.heap.get? b = some o := fun b o e => (e0.bs b o e).1
  have KX : K.In s.heap := e0.mod.kin.keeps kb
  have lim : s.heap.NoLimit := e0.mod.nolimit.keeps kb
  refine codeAny_call_function hr.depth (KX _ _ lk) rfl S.co S.gen rfl (PySem.W.codeRec_of KX hcd) (hb _ _ _ _ ?_)
  refine wpAny_newFunctionEnv_cells S.kind (fun ⟨n, v⟩ hy => ?_) fun env he s1 x => ?_
  · rcases S.par n (List.of_mem_zip hy).1 with q | q
    · exact .inl q
    · exact .inr ⟨q, PySem.W.cellsFrom_some _ _ _ (.inl q)⟩
  subst he
  refine ⟨lim.keeps x.toInCall.keep, codeAny_func ?_⟩
  obtain ⟨t, ht, hq⟩ := hbody cdv A outer s H vs Q E (hr.deeper _) hg hsp
  have I : Inv (cxOf CX P w K mg base N qn (defScope st) f cdv A outer s H E) [] (start N vs) H s1 := inv_start S hr.hd e0 (len _ _ _ _ hsp) r x
  have fin : ∀ {σ' : St} {H' : Hp} {v : V} {u : Value} {s' : Shared}, Inv (cxOf CX P w K mg base N qn (defScope st) f cdv A outer s H E) [] σ' H' s' → RelV v u → Q v H' → CE outer P w H s Q u s' :=
    fun {σ' H' v u s'} J rv q => ⟨v, H', J.os, J.bare, J.base, J.hok, rv, q⟩
  refine wpAny_mono (ht.run [] s1 (start N vs) H _ I hq) (fun fl s' hs => ?_) fun e s' hs => hs
  cases fl with
  | ret u =>
    obtain ⟨v, σ', H', J, rv, q⟩ := hs
    exact fin J rv q
  | next =>
    obtain ⟨σ', H', J, q⟩ := hs
    exact fin (v := V.non) (u := Value.none) J rfl q
  | brk =>
    obtain ⟨_, _, _, q⟩ := hs
    exact False.elim q
  | cont =>
    obtain ⟨_, _, _, q⟩ := hs
    exact False.elim q
theorem FnG.of {P : Program} {w : World} {K : PySem.W.Frag} {mg : Str → Option Value} {base : Heap} {CX : CXT} {k : Nat} {f : Addr} {fd : FuncData} {ps : List Str} {sp : Sp} (F : FnOk P w K mg base CX k f fd ps sp) : FnG P w K mg base CX k f fd ps sp :=
  ⟨F.len, fun A outer s H args us vs Q E hr _ e0 hb r h => F.run A outer s H args us vs Q E hr e0 hb r h⟩
end Wy

set_option Elab.async false
set_option linter.all false
set_option maxRecDepth 100000
set_option maxHeartbeats 1000000
/-! Wy, part H: the end of a law whose def may ask repr. -/
namespace Wy
open PySem PySem.Spec L2 PyProof.Rows
/-- an abstract heap that tells the script alone (nothing, where the module holds it) -/
theorem script_heap {P : Program} {w : World} {K : PySem.W.Frag} {h : Heap} {a : Addr} {vs : List Value} {ns : List Int} (KX : K.In h) (ha : h.get? a = some { cls := .type "list", data := .seq vs.toArray }) (hi : IntsAre vs ns) (hl : ns.length ≤ sizeLine) :
    ∃ H : Hp, SqL K H a (ns.map V.int) ∧ HOk P w H h ∧ ∀ b u, H b = some u → b = a ∧ K.lookup a = none ∧ ∃ o xs, u = .frz o (.lst xs) := by
  have rv := vals_ints hi
  cases hk : K.lookup a with
  | some o =>
    have e := KX a o hk
    rw [ha] at e
    cases e
    exact ⟨fun _ => none, .inr ⟨_, vs.toArray, _, hk, rfl, rfl, rfl, by rw [List.size_toArray, hi.length]; exact hl, by simpa using rv⟩, fun b u z => (by cases (show (none : Option HO) = some u from z)), fun b u z => (by cases (show (none : Option HO) = some u from z))⟩
  | none =>
    have at_ : ∀ {b : Addr} {u : HO}, upd (fun _ => none) a (.frz { cls := .type "list", data := .seq vs.toArray } (.lst (ns.map V.int))) b = some u → b = a ∧ u = .frz { cls := .type "list", data := .seq vs.toArray } (.lst (ns.map V.int)) := fun {b u} z => by
      by_cases hb : b = a
      · rw [hb, upd_same] at z
        exact ⟨hb, (Option.some.inj z).symm⟩
      · rw [upd_ne hb] at z
        cases z
    refine ⟨upd (fun _ => none) a (.frz { cls := .type "list", data := .seq vs.toArray } (.lst (ns.map V.int))), .inl (.inr ⟨_, upd_same⟩), fun b u z => ?_, fun b u z => ⟨(at_ z).1, rfl, _, _, (at_ z).2⟩⟩
    obtain ⟨rfl, rfl⟩ := at_ z
    exact ⟨ha, by rw [List.length_map]; exact hl, vs, _, rv, ha⟩
/-- the law called by the script's owner: no repr runs there -/
theorem law_callG {P : Program} {w : World} {K : PySem.W.Frag} {mg mb : Str → Option Value} {k : Nat} {fa a : Addr} {fd : FuncData} {x : Str} {sp : Sp} {s₁ : Shared} {vs : List Value} {ns : List Int}
    (KX : K.In s₁.heap) (hns : s₁.heap.Ns mainGlobals mg) (hb : s₁.heap.Ns builtinsNs mb) (hbb : ∀ x : Str, x ≠ "__name__" → mb x = bootBuiltins x) (hlim : s₁.heap.NoLimit) (hg : s₁.gens = #[])
    (ha : s₁.heap.get? a = some { cls := .type "list", data := .seq vs.toArray }) (hi : IntsAre vs ns) (hl : ns.length ≤ sizeLine) (hr : Room k callerA)
    (F : ∀ base : Heap, K.In base → base.Ns mainGlobals mg → FnG P w K mg base CX0 k fa fd [x] sp) (hbind : ∀ (s : Shared) (u : Value), BindsTo s fd ⟨[u], []⟩ [(x, u)])
    (hsp : ∀ H : Hp, SqL K H a (ns.map V.int) → sp [.ref a] H (fun v _ => v = .bl true) fun _ _ _ => False) :
    codeAny (model P w) callerA (.call (.ref fa) ⟨[.ref a], []⟩) (fun r s' => r = .ok (.ret (.bool true)) ∧ OldK s₁.heap s'.heap ∧ s'.os = s₁.os ∧ AllBare s'.gens) s₁ := by
  obtain ⟨H, hS, hok, hA⟩ := script_heap (P := P) (w := w) KX ha hi hl
  -- what the heap holds beside the script is its base
  have free : ∀ {b : Addr} {o : Obj}, s₁.heap.get? b = some o → (b = a → K.lookup a = none → False) → H b = none := fun {b o} e n => by
    cases q : H b with
    | none => rfl
    | some u => exact (n (hA b u q).1 (hA b u q).2.1).elim
  have ns_ : ∀ {b : Addr} {m : Str → Option Value}, s₁.heap.Ns b m → (hidT s₁.heap H).Ns b m := fun {b m} ⟨o, es, ep, e, d, r⟩ => ⟨o, es, ep, hidT_get e (free e fun z _ => by
    rw [z, ha] at e
    cases e
    cases d), d, r⟩
  have Kb : K.In (hidT s₁.heap H) := fun b o e => hidT_get (KX b o e) (free (KX b o e) fun z n => by
    rw [z, n] at e
    cases e)
  have e0 : Env0 P w K mg (hidT s₁.heap H) callerA [] s₁ H :=
    ⟨rfl, ⟨Kb, ns_ hns, ⟨mb, ns_ hb, hbb⟩, let ⟨mc, h1, h2⟩ := hlim; ⟨mc, ns_ h1, h2⟩⟩, fun b o e => of_hidT e, Nat.le_of_eq (hidT_size _ _), trivial, fun _ h => (List.not_mem_nil h).elim, hok, .of_eq hg⟩
  refine codeAny_mono ((F _ Kb (ns_ hns)).run callerA [] s₁ H ⟨[.ref a], []⟩ [.ref a] [.ref a] _ _ hr rfl e0 (hbind s₁ (.ref a)) (.cons rfl .nil) (hsp H hS)) fun r s' h => ?_
  match r, h with
  | .error e, h => exact (show False from h).elim
  | .ok .next, h => exact (show False from h).elim
  | .ok .brk, h => exact (show False from h).elim
  | .ok .cont, h => exact (show False from h).elim
  | .ok (.ret u), ⟨v, H', os, bare, un, hok', rv, q⟩ =>
    obtain rfl : v = .bl true := q
    obtain rfl : u = Value.bool true := rv
    refine ⟨rfl, OldK.of_keep fun b o e => ?_, os, bare⟩
    cases q : H b with
    | none => exact un.keep b o e q (fun h => (List.not_mem_nil h).elim) (by simp)
    | some u =>
      obtain ⟨_, _, ob, xs, rfl⟩ := hA b u q
      have e1 := (hok b _ q).1
      rw [e] at e1
      cases e1
      exact (hok' b _ (un.frzs b _ _ q)).1
theorem walk_ofG {l : PySem.W.OpenLaw} {n k : Nat} {q : Program} {loose : List Str} {XP : (Str → Option Value) → Heap → Prop} {YP : World → Heap → Prop} {d : DefRec} {x : Str}
    (hn : l.most = some n) (hn2 : n ≤ sizeLine) (hdf : d.params.defaults = []) (hr : Room k callerA)
    (F : ∀ (w : World) (mg : Str → Option Value) (fa : Addr) (h : Heap), YP w h → h.Ns mainGlobals mg → mg d.name = some (.ref fa) →
      ∃ (K : PySem.W.Frag) (fd : FuncData) (sp : Sp), K.In h ∧ (∀ (s : Shared) (u : Value), BindsTo s fd ⟨[u], []⟩ [(x, u)]) ∧
        (∀ (H : Hp) (a : Addr) (ns : List Int), ns.length ≤ n → SqL K H a (ns.map V.int) → sp [.ref a] H (fun v _ => v = .bl true) fun _ _ _ => False) ∧
        ∀ base : Heap, K.In base → base.Ns mainGlobals mg → FnG l.prog w K mg base CX0 k fa fd [x] sp) :
    PySem.W.WalkO q loose XP YP l.row.toRowW d [] (fun f vs => PySem.call f vs) := by
  refine Att.attach_call hn hdf fun w s₀ s₁ mg mb fa o pm cd doc a vs ns G Y ho hd hcd hmg hobj hints hlen hg => ?_
  obtain ⟨K, fd, sp, KX, hb, hsp, hF⟩ := F w mg fa _ Y G.T.g hmg
  exact law_callG KX G.T.g G.T.b G.T.builtins G.T.nolimit hg hobj hints (Nat.le_trans hlen hn2) hr hF hb fun H hS => hsp H a ns hlen hS
end Wy

set_option Elab.async false
set_option linter.all false
set_option maxRecDepth 100000
set_option maxHeartbeats 1000000
/-! Wy, part X: exceptions made and raised, caught, kept behind the suite, read and asked there. -/
namespace Wy
open PySem PySem.Spec L2

/-- at a: an exception of the class at C, raised or not, its dict at d -/
def exh (a C d : Addr) : HO := .ext fun h => ∃ (oe : Obj) (vs : Array Value), h.get? a = some oe ∧ oe.cls = .ref C ∧ oe.dict = some d ∧ oe.data = .fields vs
theorem exh_ok {P : Program} {w : World} {H : Hp} {h : Heap} {a C d : Addr} {oe : Obj} {vs : Array Value} (e : h.get? a = some oe) (z : Zc (.ref C) (some d) oe) (hd : oe.data = .fields vs) : ObjOk P w H h a (exh a C d) :=
  ⟨⟨oe, vs, e, z.1, z.2, hd⟩, ⟨oe, e⟩, fun _ _ ⟨o, v, q, r⟩ k => ⟨o, v, k o q, r⟩⟩
theorem exh_at {P : Program} {w : World} {H : Hp} {h : Heap} {a C d : Addr} (hok : HOk P w H h) (he : H a = some (exh a C d)) : ∃ (oe : Obj) (vs : Array Value), h.get? a = some oe ∧ oe.cls = .ref C ∧ oe.dict = some d ∧ oe.data = .fields vs :=
  (show ObjOk P w H h a (exh a C d) from hok a _ he).1
/-- a kept exception with its fields -/
def XAt (H : Hp) (C a d : Addr) (fs : List (Str × V)) : Prop := H a = some (exh a C d) ∧ H d = some (.xd fs)
theorem exh_inst {P : Program} {w : World} {H : Hp} {h : Heap} {C a d : Addr} {fs : List (Str × V)} (hok : HOk P w H h) (ea : XAt H C a d fs) : ∃ (oe od : Obj) (mA : Str → Option Value), PySem.W.InstAt h a oe C (some od) ∧ h.Ns1 d mA ∧ h.get? d = some od ∧ ∀ f, RelO (fs.lookup f) (mA f) := by
  obtain ⟨oe, vs, h1, h2, h3, h4⟩ := exh_at hok ea.1
  obtain ⟨mA, hns, rel⟩ := (show ObjOk P w H h d (.xd fs) from hok d _ ea.2)
  obtain ⟨od, es, ep, ho, r⟩ := id hns
  exact ⟨oe, od, mA, ⟨h1, h2, by unfold PySem.W.notCls; rw [h4], by rw [h3]; exact ho⟩, hns, ho, rel⟩
/-- e.n of a kept exception -/
def tHfld (K : PySem.W.Frag) (te : TE) (n : Str) : TE := fun σ H Q => te σ H fun x H1 => ∃ (a C d : Addr) (fs : List (Str × V)) (v : V), x = .ref a ∧ XAt H1 C a d fs ∧ XfC K C ∧ PySem.W.findIn K (.ref C) n = some none ∧ fs.lookup n = some v ∧ Q v H1
theorem pe_hfld {X : Cx} {e : Expr} {te : TE} {pos : Pos} {n : Str} (he : PE X e te) (hb : attributeBase e n X.env (eval e X.env) = eval e X.env := by rfl) : PE X (.Attribute e n pos) (tHfld X.K te n) := by
  refine ⟨fun pins s σ H Q I h => ?_⟩
  refine attr_of hb (thn (he.run pins s σ H _ I h) fun u s1 ⟨x, H1, I1, rx, a, C, d, fs, v, ex, ea, T, hno, l, q⟩ => ?_)
  subst ex
  obtain rfl : u = Value.ref a := rx
  obtain ⟨oe, od, mA, J, hns, ho, rel⟩ := exh_inst I1.hok ea
  obtain ⟨od', ho', hl⟩ := lookIn_ns hns
  rw [ho] at ho'
  cases ho'
  obtain ⟨u, hu, ru⟩ := RelO.some_of (v := v) (o := mA n) (by rw [← l]; exact rel n)
  exact PySem.HandSPX.exc_get I1.kIn J T.ga T.gg T.exC (PySem.W.findObj_own T.hdC hno rfl (by rw [hl, hu])) (handed_of ru) ⟨v, H1, I1.tok _, ru, q⟩
/-- isinstance(e, c) of a kept exception -/
def rIsH (K : PySem.W.Frag) : List V → Hp → VK → Prop := fun xs H Q => ∃ (a C d : Addr) (fs : List (Str × V)) (c : V) (u : Value) (b : Bool), xs = [.ref a, c] ∧ XAt H C a d fs ∧ ExcC K C ∧ ClsV c u ∧ PySem.W.kitOne K (.ref C) u = some b ∧ Q (.bl b) H
theorem call_isH {X : Cx} : CallR X (.builtin "isinstance") (rIsH X.K) := by
  intro pins s σ H xs us Q I r h
  obtain ⟨a, C, d, fs, c, cv, b, rfl, ea, T, k, e, q⟩ := h
  cases r with
  | cons rx rr =>
    cases rr with
    | cons rt rr =>
      cases rr
      cases rx
      have ec := k.eq rt
      subst ec
      obtain ⟨oe, od, mA, J, _⟩ := exh_inst I.hok ea
      have hcl : (PySem.W.clsIn X.K C).isSome = true := by
        obtain ⟨cd, hc, _⟩ := PySem.W.any_some T.hd
        rw [hc]
        rfl
      exact PySem.W.kia_one (PySem.W.kitx_exc hcl T.hg T.hk T.hs T.ha T.hn T.ht T.hm) I.kIn J e (fun z => nomatch z) fun tk => ⟨.bl b, H, I.kept (t' := tk) fun _ _ z => z, rfl, q⟩

/-! ### C(e, ..), to be raised -/
def tPmE (C : Addr) (sp : Sp) (ta : TA) : St → Hp → XK → Prop := fun σ H Q => ta σ H fun vs H1 => vs.length ≤ 1000 ∧ ∀ a, H1 a = none → sp (.ref a :: vs) (upd H1 a (exo a C none))
  (fun v H2 => v = .non ∧ ∃ (d : Addr) (fs : List (Str × V)), H2 a = some (exo a C (some d)) ∧ H2 d = some (exd d fs) ∧ H1 d = none ∧ Q (.ref C) (some d) (upd (del H2 a) d (.xd fs))) E0
section
variable {X : Cx} {k : Nat} {fI C : Addr} {fd : FuncData} {ps : List Str} {sp : Sp} {x : Str} {p pos : Pos} {e : Expr} {es : List Expr} {ta : TA}
theorem pmk_mkE (M : MkE X.K C fI) (T : Raises X (.ref C)) (F : FnOk X.prog X.w X.K X.mg X.base CX0 k fI fd ps sp) (hr : Room (k + 1) X.A) (hg : Gl X x) (hm : X.mg x = some (.ref C)) (hb : ∀ (us : List Value), us.length + 1 = ps.length → ∀ s' u, BindsTo s' fd ⟨u :: us, []⟩ (ps.zip (u :: us)))
    (ha : PA X (e :: es) ta) (hdb : (x == ("__debug__" : Str)) = false := by decide) (he : starEach (e :: es) X.env = (false, eval e X.env) :: starEach es X.env := by rfl) (hpl : (backTo pos (starEach es X.env)).any (·.1) = false := by rfl) :
    PMk X (.Call (.Name x p) (e :: es) [] pos) (tPmE C sp ta) := by
  intro pins s σ H Q I h
  obtain ⟨nm, q, N, bs, bm, sn, sub, ab, col, dd, k0, k1, k2, k3, k5, hC, hbm⟩ := M.cls
  refine wpAny_Call_Name_kw (ld_glob I hg hm ?_ hdb)
  refine PySem.W.callWith_K (h₀ := X.base) I.ok.mod.kin M.kp (thn (ha.run pos pins s σ H _ I h) fun us s1 ⟨vs, H1, I1, r1, hz, q1⟩ => ⟨I1.kIn, ?_⟩) he hpl
  obtain ⟨hp, g, dr, tk, os⟩ := s1
  have hsz : hp.objs.size ≤ hp.objs.size + 1 := Nat.le_succ _
  have hq := q1 (hp.objs.size + 1) (I1.hok.fresh hsz)
  have kk : ∀ b o, hp.get? b = some o → ((hp.push (PySem.W.kdv_tup us)).push (PySem.HandSPX.excO C hp.objs.size)).get? b = some o := fun b o e => Heap.get?_push_of_some _ (Heap.get?_push_of_some _ e)
  have hget : ((hp.push (PySem.W.kdv_tup us)).push (PySem.HandSPX.excO C hp.objs.size)).get? (hp.objs.size + 1) = some (PySem.HandSPX.excO C hp.objs.size) := by heap_get
  have I2 := I1.laid (t' := tk) kk hsz (exo_ok hget)
  have e2 := r1.length
  have e1 := F.len _ _ _ _ hq
  have hus : us.length + 1 = ps.length := by
    rw [← e1, ← e2]
    rfl
  have r2 : Vals (V.ref (hp.objs.size + 1) :: vs) (Value.ref (hp.objs.size + 1) :: us) := .cons rfl r1
  show wpAny _ _ (call (.ref C) us []) _ _ _
  refine wpAny_call (cls_called hbm (I1.kIn _ _ hC) (PySem.W.looks_findIn I1.kIn M.ini) (fun self => PySem.W.bind_fn I1.kIn self M.fn) (Nat.le_trans (by rw [← e2]; exact hz) (show 1000 ≤ sizeLine by decide))
    (codeAny_mono (F.run _ X.stack _ _ ⟨Value.ref (hp.objs.size + 1) :: us, []⟩ (Value.ref (hp.objs.size + 1) :: us) _ _ E0 (hr.make C us []) (I2.env0.make C us []) (hb us hus _ _) r2 hq) fun r s' hq' => ?_))
  match r, hq' with
  | .error er, hq' => exact (show False from hq').elim
  | .ok .next, hq' => exact (show False from hq').elim
  | .ok .brk, hq' => exact (show False from hq').elim
  | .ok .cont, hq' => exact (show False from hq').elim
  | .ok (.ret u), ⟨v, H2, os2, bare2, un2, hok2, rv, ev, d, fs, ea, ed, hd1, q2⟩ =>
    subst ev
    obtain ⟨h2, g2, d2, t2, os'⟩ := s'
    exact ⟨rv, mk_end T I1 hsz kk un2 hok2 os2 bare2 ea ed hd1 q2⟩
end
end Wy

set_option Elab.async false
set_option linter.all false
set_option maxRecDepth 100000
set_option maxHeartbeats 1000000
/-! Wy, part Y: try: body / except x as n: m = n, and the exception is told of behind the suite. -/
namespace Wy
open PySem PySem.Spec L2

section
variable {X : Cx} {pins : List (Addr × Obj)} {σ : St} {H : Hp} {s : Shared}
/-- an object that stands there untracked is tracked from now on -/
theorem track {a : Addr} {o : HO} (I : Inv X pins σ H s) (hn : H a = none) (h0 : X.s_0.heap.get? a = none) (nL : a ≠ X.env.locals) (nc : ∀ x c, X.env.cells.lookup x = some c → c ≠ a) (np : ∀ p ∈ X.pn ++ pins, p.1 ≠ a)
    (new : ObjOk X.prog X.w (upd H a o) s.heap a o) : Inv X pins σ (upd H a o) s := by
  have old : ∀ {b : Addr} {u : HO}, H b = some u → upd H a o b = some u := fun {b u} q => by
    rw [upd_ne (ne_of_none q hn)]
    exact q
  refine ⟨I.ok, I.os, I.bare, ⟨I.base.keep, I.base.slot, fun b u e n hx => ?_, I.base.there, fun b xs q => old (I.base.tups b xs q), fun b u xs q => old (I.base.frzs b u xs q), fun b ps q => ?_⟩, I.loc, I.cell, ?_, fun x c e => ?_, fun p hp => ?_, fun b u q => ?_, I.len⟩
  · rw [upd_ne (fun z => by rw [z, h0] at e; cases e)]
    exact I.base.free b u e n hx
  · obtain ⟨m, z⟩ := I.base.tbls b ps q
    exact ⟨m, old z⟩
  · rw [upd_ne (Ne.symm nL)]
    exact I.free
  · rw [upd_ne (nc x c e)]
    exact I.freeC x c e
  · obtain ⟨z1, z2, z3⟩ := I.pin p hp
    exact ⟨z1, by rw [upd_ne (np p hp)]; exact z2, z3⟩
  · by_cases hb : b = a
    · subst hb
      rw [upd_same] at q
      cases q
      exact new
    · rw [upd_ne hb] at q
      exact (I.hok b u q).stay (fun _ _ _ z => z) (fun _ z => old z) fun _ _ z => old z
end
/-- what the clause wishes of an exception of the body -/
def wKp (K : PySem.W.Frag) (c : Value) (i : Nat) (ts : Addr → TS) (D : Ends) : WX := fun cls d σ H => PySem.W.exmOne K cls c = some true ∧ ∃ C dd, cls = .ref C ∧ d = some dd ∧ ∀ a, H a = none →
  ts a { nx := fun σ' H' => H' a = none → D.nx (σ'.set i none) (upd H' a (exh a C dd)), rt := fun _ _ => False, bk := fun _ _ => False, ct := fun _ _ => False } (σ.set i (some (.ref a))) H
section
variable {X : Cx} {x n : Str} {c : Value} {i : Nat} {body suite : List Stmt} {b₀ : Stmt} {np pos pos' : Pos} {tb : WX → TS} {ts : Addr → TS}
theorem ps_try_keep (hs : X.stack = X.env :: X.outer) (hf : X.env.frame = some X.env.locals) (hex : X.ex = []) (hN : X.N.Nodup) (hi : X.N[i]? = some n) (hln : X.env.kindOf n = some .local) (hc : Names X x c)
    (hb : ∀ (W : WX) (pn : List (Addr × Obj)) (xe : Value → Shared → Prop), Takes (X.tr pn xe) W → PassesOwn (model X.prog X.w) X.A X.env xe → PSs (X.tr pn xe) body (tb W))
    (hsu : ∀ (a : Addr) (oe : Obj) (pn : List (Addr × Obj)), PSs (X.suite a ((a, oe) :: pn)) (b₀ :: suite) (ts a)) :
    PS X (.Try body [.ExceptHandler (some (.Name x np)) (some n) (b₀ :: suite) pos'] [] [] pos) (fun D σ H => tb (wKp X.K c i ts D) D σ H) := by
  refine ⟨fun pins s σ H D I h => ?_⟩
  have ok := I.ok
  have hloc : Loc X.env.scope n := .inl hln
  refine wpAny_Try_except (wpAny_mono ((hb (wKp X.K c i ts D) (X.pn ++ pins) (fun e s₁ => wpAny (model X.prog X.w) X.A (noteFrame e X.env) (fun _ s₂ => wpAny (model X.prog X.w) X.A (setFlight e none) (fun _ s₃ =>
    wpAny (model X.prog X.w) X.A (handleBy e X.env [.ExceptHandler (some (.Name x np)) (some n) (b₀ :: suite) pos']) (SP X pins D) X.xe s₃) X.xe s₂) X.xe s₁) (fun u s' xx => ?_) PassesOwn.looking).run [] s σ H D (I.toTry _) h) (fun f s1 hsp => ?_) fun e s1 he => he)
  · -- in the air: caught, kept
    obtain ⟨a, B, sI, pins', σ', H', cls, d, rfl, J', nb, up, sky, na, os, ag, hyes, C, dd, rfl, rfl, hts⟩ := xx
    have J := J'.ofTry (pins := pins) ok
    show wpAny (model X.prog X.w) X.A (noteFrame (.ref a) X.env) _ _ _
    refine Sky.land Zc.steady (by rw [ok.frames, hs]) hf (by rw [← hs]; exact sky) fun h3 fl3 up3 => ?_
    have J3 : Inv X pins σ' H' { s' with heap := h3 } := J.landed nb fl3.1 (up.trans up3) os ag
    obtain ⟨oe3, vs3, he3, hz3, hd3⟩ := fl3.there
    -- a is none of the frames, and was not there before
    have nfr : a ∉ frs (X.env :: X.outer) := fun hm => by
      obtain ⟨_, o', e', hnf⟩ := fl3.2.2.1.mem hm
      rw [he3] at e'
      cases e'
      exact hnf _ hd3
    have nI : sI.heap.get? a = none := by
      cases q : sI.heap.get? a with
      | none => rfl
      | some o =>
        have z := nb a o q (by rw [hs]; exact nfr)
        rw [fl3.2.1] at z
        cases z
    have n0 : X.s_0.heap.get? a = none := by
      cases q : X.s_0.heap.get? a with
      | none => rfl
      | some o =>
        obtain ⟨o', z⟩ := J.base.there a o q (by rw [hex]; exact List.not_mem_nil)
        rw [nI] at z
        cases z
    have nL : a ≠ X.env.locals := fun z => nfr (List.mem_filterMap.mpr ⟨X.env, List.mem_cons_self, by rw [hf, z]⟩)
    have nF : a ∉ X.fs := fun hm => by
      obtain ⟨e, he, q⟩ := List.mem_filterMap.mp hm
      exact nfr (List.mem_filterMap.mpr ⟨e, List.mem_cons_of_mem _ he, q⟩)
    have npn : ∀ p ∈ X.pn ++ pins, p.1 ≠ a := fun p hp z => by
      have q := (J.pin p hp).1
      rw [z, nI] at q
      cases q
    have nc : ∀ x c, X.env.cells.lookup x = some c → c ≠ a := fun x c e z => by
      obtain ⟨v, o, ho, _⟩ := J.cell x c e
      rw [z, nI] at ho
      cases ho
    refine wpAny_handleBy_cons (codeAny_handlers_test ?_) (by intro q; cases q)
    have LT : PySem.W.Looks (model X.prog X.w) h3 (typeOf (.ref a)) (.ref C) := fun A Q E s k q => wpAny_typeOf_ref (k _ _ he3) (by rw [hz3.1]; exact q)
    have S3 := J3.suite he3 hd3 na nL nF
    have test : ∀ {Q : Value → Shared → Prop} {E : Value → Shared → Prop}, Q c { s' with heap := h3 } → wpAny (model X.prog X.w) (X.A.mark (some (.ref a))) (eval (.Name x np) X.env) Q E { s' with heap := h3 } := fun {Q E} q => by
      obtain ⟨hg, hdbg, hm | ⟨hm, hv, hnn⟩⟩ := hc
      · exact ld_glob (X := X.suite a ((a, oe3) :: (X.pn ++ pins))) S3 hg hm q hdbg
      · exact ld_blt (X := X.suite a ((a, oe3) :: (X.pn ++ pins))) S3 hg hm hv q hnn hdbg
    have LM := PySem.W.exm_one (M := model X.prog X.w) J3.kIn LT hyes
    refine test (LM.here ?_)
    refine codeAny_handlers_suite_as (HandSPX.lands_againZ fl3 fun h4 fl4 up4 => ?_)
    have J4 : Inv X pins σ' H' { s' with heap := h4 } := J.landed nb fl4.1 ((up.trans up3).trans up4) os ag
    obtain ⟨oe4, vs4, he4, hz4, hd4⟩ := fl4.there
    refine store_ok (X := X.suite a ((a, oe4) :: (X.pn ++ pins))) (v := .ref a) (J4.suite he4 hd4 na nL nF) hN hi hloc rfl (fun s5 S5 => ?_) (.inr hln)
    refine wpAny_mono ((hsu a oe4 (X.pn ++ pins)).run [] s5 _ H' _ S5 (hts a na)) (fun f s6 hsp => ?_) fun _ _ z => False.elim z
    match f, hsp with
    | .next, ⟨σ6, H6, S6, q6⟩ =>
      have P6 : Inv X ((a, oe4) :: pins) σ6 H6 s6 := ⟨ok, S6.os, S6.bare, S6.base, S6.loc, S6.cell, S6.free, S6.freeC, fun p hp => S6.pin p (by
        rcases List.mem_append.mp hp with hp | hp
        · exact List.mem_append_left _ (List.mem_cons_of_mem _ (List.mem_append_left _ hp))
        · rcases List.mem_cons.mp hp with hp | hp
          · rw [hp]
            exact List.mem_append_left _ List.mem_cons_self
          · exact List.mem_append_left _ (List.mem_cons_of_mem _ (List.mem_append_right _ hp))), S6.hok, S6.len⟩
      refine gone_ok P6 hN hi hln fun s7 J7 => ?_
      obtain ⟨he7, hn7, _⟩ := J7.pin (a, oe4) (List.mem_append_right _ List.mem_cons_self)
      have J8 : Inv X pins (σ6.set i none) H6 s7 := J7.pins_of fun p hp => J7.pin p (List.mem_append_right _ (List.mem_cons_of_mem _ hp))
      exact ⟨_, _, track J8 hn7 n0 nL nc npn (exh_ok he7 hz4 hd4), q6 hn7⟩
    | .brk, ⟨_, _, _, q6⟩ => exact False.elim q6
    | .cont, ⟨_, _, _, q6⟩ => exact False.elim q6
    | .ret u, ⟨_, _, _, _, _, q6⟩ => exact False.elim q6
  · match f, hsp with
    | .next, ⟨σ', H', J', q⟩ => exact wpAny_execs_nil ⟨σ', H', J'.ofTry ok, q⟩
    | .brk, ⟨σ', H', J', q⟩ => exact ⟨σ', H', J'.ofTry ok, q⟩
    | .cont, ⟨σ', H', J', q⟩ => exact ⟨σ', H', J'.ofTry ok, q⟩
    | .ret u, ⟨v, σ', H', J', r, q⟩ => exact ⟨v, σ', H', J'.ofTry ok, r, q⟩
end
end Wy

set_option Elab.async false
set_option linter.all false
set_option maxRecDepth 100000
set_option maxHeartbeats 1000000
/-! Wy, part T: data of any kind asked: isinstance, len, items; what is a type. -/
namespace Wy
open PySem PySem.Spec L2

/-- the built-in type of data -/
def tyD : PyData → String
  | .none => "NoneType"
  | .bool _ => "bool"
  | .int _ => "int"
  | .str _ => "str"
  | .list _ => "list"
  | .tuple _ => "tuple"
  | .dict _ => "dict"
theorem Dx.tyx {K : PySem.W.Frag} {H : Hp} {v : V} {d : PyData} (h : Dx K H v d) : TyX K H v (.type (tyD d)) := by
  cases h with
  | non => exact .base .non
  | bl b => exact .base (.bl b)
  | int i => exact .base (.int i)
  | str x => exact .base (.str x)
  | lst hs _ =>
    rcases hs with (hs | ⟨o, hs⟩) | ⟨o, its, n, hk, hc, _⟩
    · exact .base (.lst hs)
    · exact .base (.frz hs)
    · exact .kList hk hc
  | tup hs _ =>
    rcases hs with (hs | ⟨o, hs⟩) | ⟨o, its, n, hk, hc, _⟩
    · exact .base (.tup hs)
    · exact .fTuple hs
    · exact .kTuple hk hc
  | dct hs _ => exact .base (.dK hs)
/-- isinstance(d, n), n one of these types -/
def isD (d : PyData) (n : String) : Bool := tyD d == n || (tyD d == "bool" && n == "int")
def six : List String := ["int", "bool", "str", "list", "tuple", "dict"]
theorem kit_six : ∀ n ∈ six, ∀ m ∈ ["NoneType", "bool", "int", "str", "list", "tuple", "dict"], kitB m n = some (m == n || (m == "bool" && n == "int")) := by decide +kernel
theorem tyD_mem (d : PyData) : tyD d ∈ ["NoneType", "bool", "int", "str", "list", "tuple", "dict"] := by cases d <;> simp [tyD]
/-- isinstance(x, T) of data -/
def rIsD (K : PySem.W.Frag) : List V → Hp → VK → Prop := fun xs H Q => ∃ (x : V) (d : PyData) (n : String), xs = [x, .ty n] ∧ Dx K H x d ∧ n ∈ six ∧ Q (.bl (isD d n)) H
theorem call_isD {X : Cx} : CallR X (.builtin "isinstance") (rIsD X.K) := fun pins s σ H xs us Q I r ⟨x, d, n, e, hd, hn, q⟩ =>
  call_isi pins s σ H xs us Q I r ⟨x, .ty n, _, _, _, e, .ty n, hd.tyx, kit_ty (kit_six n hn _ (tyD_mem d)), q⟩
/-! ### names, numbers, heads -/
def wholeD : PyData → Bool
  | .int _ => true
  | _ => false
def countD : PyData → Bool
  | .int i => decide (0 ≤ i)
  | _ => false
def signB (c : Nat) : Bool := decide (97 ≤ c) && decide (c ≤ 122)
def wordS (x : Str) : Bool := decide (0 < x.cps.size) && (decide (x.cps.size ≤ 8) && x.cps.toList.all signB)
def wordD : PyData → Bool
  | .str x => wordS x
  | _ => false
def closedL : List Str := ["choice", "show", "fun", "let", "rec", "case", "pair", "num"]
def houseL : List Str := ["num", "flag", "fun", "pair"]
def nameS (x : Str) : Bool := wordS x && !closedL.contains x
def nameD : PyData → Bool
  | .str x => nameS x
  | _ => false
def kindD : PyData → Bool
  | .str x => houseL.contains x || nameS x
  | _ => false
theorem eqV_str (x y : Str) : eqV (.str x) (.str y) = (x == y) := rfl
theorem inV_strs (x : Str) : ∀ l : List Str, inV (.str x) (l.map V.str) = l.contains x
  | [] => rfl
  | y :: l => by
    have ih := inV_strs x l
    unfold inV at ih ⊢
    rw [List.map_cons, List.any_cons, ih, eqV_str, List.contains_cons]
    congr 1
    rw [Bool.eq_iff_iff, beq_iff_eq, beq_iff_eq]
    exact eq_comm
theorem flat_strs : ∀ l : List Str, (l.map V.str).all flatV = true
  | [] => rfl
  | y :: l => by
    rw [List.map_cons, List.all_cons, flat_strs l]
    rfl
/-! ### texts in data are short -/
mutual
def smlD : PyData → Bool
  | .str x => decide (x.length ≤ 100000)
  | .list xs => smlAll xs
  | .tuple xs => smlAll xs
  | _ => true
def smlAll : List PyData → Bool
  | [] => true
  | x :: xs => smlD x && smlAll xs
end
theorem smlAll_mem : ∀ {ds : List PyData}, smlAll ds = true → ∀ d ∈ ds, smlD d = true
  | [], _, _, h => by cases h
  | x :: xs, h, d, hd => by
    have h' : smlD x = true ∧ smlAll xs = true := Bool.and_eq_true_iff.mp (by simpa only [smlAll] using h)
    rcases List.mem_cons.mp hd with rfl | hd
    · exact h'.1
    · exact smlAll_mem h'.2 d hd
theorem smlAll_of : ∀ {ds : List PyData}, (∀ d ∈ ds, smlD d = true) → smlAll ds = true
  | [], _ => rfl
  | x :: xs, h => by
    simp only [smlAll, Bool.and_eq_true]
    exact ⟨h x (List.mem_cons_self ..), smlAll_of fun d hd => h d (List.mem_cons_of_mem _ hd)⟩
theorem Dx.str_inv {K : PySem.W.Frag} {H : Hp} {v : V} {x : Str} (h : Dx K H v (.str x)) : v = .str x := by
  cases h
  rfl
theorem Dx.tup_inv {K : PySem.W.Frag} {H : Hp} {v : V} {ds : List PyData} (h : Dx K H v (.tuple ds)) : ∃ a xs, v = .ref a ∧ SqT K H a xs ∧ DxAll K H xs ds := by
  cases h with
  | tup h1 h2 => exact ⟨_, _, rfl, h1, h2⟩
theorem Dx.lst_inv {K : PySem.W.Frag} {H : Hp} {v : V} {ds : List PyData} (h : Dx K H v (.list ds)) : ∃ a xs, v = .ref a ∧ SqL K H a xs ∧ DxAll K H xs ds := by
  cases h with
  | lst h1 h2 => exact ⟨_, _, rfl, h1, h2⟩
theorem DxAll.get' {K : PySem.W.Frag} {H : Hp} : ∀ {vs : List V} {ds : List PyData} {i : Nat} {d : PyData}, DxAll K H vs ds → ds[i]? = some d → ∃ v, vs[i]? = some v ∧ Dx K H v d
  | _, _, _, _, .nil, e => by simp at e
  | _, _, 0, _, .cons h _, e => by
    simp at e
    subst e
    exact ⟨_, rfl, h⟩
  | _, _, i + 1, _, .cons _ a, e => by
    obtain ⟨v, h1, h2⟩ := DxAll.get' (i := i) a (by simpa using e)
    exact ⟨v, by simpa using h1, h2⟩
theorem same_seqT {K : PySem.W.Frag} {H H' : Hp} {a : Addr} {xs : List V} (s : Same H H') : SqT K H a xs → SqT K H' a xs := by
  rintro ((h | ⟨o, h⟩) | h)
  · exact .inl (.inl (s _ _ h))
  · exact .inl (.inr ⟨o, s _ _ h⟩)
  · exact .inr h
theorem one_lt (a b : Nat) : (([a] : List Nat) < [b]) ↔ a < b := by simp [List.cons_lt_cons_iff]
theorem sgn_a (c : Nat) : (!decide ((⟨#[c]⟩ : Str).cps.toList < ("a" : Str).cps.toList)) = decide (97 ≤ c) := by
  have e : ("a" : Str).cps.toList = [97] := by decide +kernel
  rw [e, Bool.eq_iff_iff]
  show (!decide (([c] : List Nat) < [97])) = true ↔ _
  simp only [one_lt, Bool.not_eq_true', decide_eq_false_iff_not, decide_eq_true_eq]
  omega
theorem sgn_z (c : Nat) : (!decide (("z" : Str).cps.toList < (⟨#[c]⟩ : Str).cps.toList)) = decide (c ≤ 122) := by
  have e : ("z" : Str).cps.toList = [122] := by decide +kernel
  rw [e, Bool.eq_iff_iff]
  show (!decide (([122] : List Nat) < [c])) = true ↔ _
  simp only [one_lt, Bool.not_eq_true', decide_eq_false_iff_not, decide_eq_true_eq]
  omega
def sideB : PyData → Bool
  | .list ts => decide (ts.length ≤ 3)
  | _ => false
/-- the head of a type -/
def headD : PyData → Bool
  | .tuple [.str w, a] => w == "unknown" && countD a
  | .tuple [.str w, a, b] => !(w == "unknown") && (w == "kind" && (kindD a && sideB b))
  | _ => false
/-- its parts -/
def sidesD : PyData → List PyData
  | .tuple [.str w, _, .list ts] => if w = "kind" then ts else []
  | _ => []
theorem in23 (n : Nat) : inV (.int (n : Int)) [.int 2, .int 3] = decide (n = 2 ∨ n = 3) := by
  unfold inV
  simp only [List.any_cons, List.any_nil, Bool.or_false]
  show ((2 : Int) == (n : Int) || (3 : Int) == (n : Int)) = _
  rw [Bool.eq_iff_iff]
  simp only [Bool.or_eq_true, beq_iff_eq, decide_eq_true_eq]
  omega
theorem shape23 {K : PySem.W.Frag} {G : Hp} {xs : List V} {ds : List PyData} (h : DxAll K G xs ds) (hl : xs.length = 2 ∨ xs.length = 3) :
    (∃ x0 x1 d0 d1, xs = [x0, x1] ∧ ds = [d0, d1] ∧ Dx K G x0 d0 ∧ Dx K G x1 d1) ∨ ∃ x0 x1 x2 d0 d1 d2, xs = [x0, x1, x2] ∧ ds = [d0, d1, d2] ∧ Dx K G x0 d0 ∧ Dx K G x1 d1 ∧ Dx K G x2 d2 := by
  cases h with
  | nil => rcases hl with hl | hl <;> cases hl
  | cons h0 h =>
    cases h with
    | nil => rcases hl with hl | hl <;> cases hl
    | cons h1 h =>
      cases h with
      | nil => exact .inl ⟨_, _, _, _, rfl, rfl, h0, h1⟩
      | cons h2 h =>
        cases h with
        | nil => exact .inr ⟨_, _, _, _, _, _, rfl, rfl, h0, h1, h2⟩
        | cons h3 h =>
          simp only [List.length_cons] at hl
          omega
theorem head_len {ds : List PyData} (h : ¬ (ds.length = 2 ∨ ds.length = 3)) : headD (.tuple ds) = false := by
  match ds, h with
  | [], _ => rfl
  | [d], _ => cases d <;> rfl
  | [_, _], e => exact absurd (.inl rfl) e
  | [_, _, _], e => exact absurd (.inr rfl) e
  | d :: _ :: _ :: _ :: _, _ => cases d <;> rfl
/-! ### xs + zs, xs != [] of any lists -/
def rCatS (K : PySem.W.Frag) : R2 := fun x y H Q => ∃ l b xs zs, x = .ref l ∧ y = .ref b ∧ SqL K H l xs ∧ SqL K H b zs ∧ xs.length + zs.length ≤ sizeLine ∧ ∀ p, H p = none → Q (.ref p) (upd H p (.lst (xs ++ zs)))
theorem op_catS {X : Cx} : OpR X (binaryOp .Add) (rCatS X.K) := by
  intro pins s σ H x y v u Q I rx ry h
  obtain ⟨l, b, xs, zs, rfl, rfl, hH, hB, hz, q⟩ := h
  cases rx
  cases ry
  obtain ⟨its, r, ⟨⟨c1, d1, t1, s1⟩, n1, ho1, hc1, _, hd1⟩, _⟩ := I.list hH
  obtain ⟨its2, r2, ⟨⟨c2, d2, t2, s2⟩, n2, ho2, hc2, _, hd2⟩, _⟩ := I.list hB
  simp only at hc1 hd1 hc2 hd2
  subst hc1 hd1 hc2 hd2
  have e1 := r.length
  have e2 := r2.length
  have room : its.toArray.size + its2.toArray.size ≤ sizeLine := by
    rw [List.size_toArray, List.size_toArray]
    omega
  have run := PyProof.Rows.list_addW l b its.toArray its2.toArray n1 n2 d1 d2 s1 s2 room
  refine PySem.concat_meets ⟨_, ho1, rfl⟩ ⟨_, ho2, rfl⟩ PySem.noFill_list_add PySem.seq_list_add
    PySem.F.slot_list_add PySem.F.entry_list_add (PySem.F.args_list_add_2 _ _) run ⟨ho1, ho2, ?_⟩
  have ea : its.toArray ++ its2.toArray = (its ++ its2).toArray := by simp
  rw [ea]
  exact ⟨.ref _, _, I.lnew (t' := s.toks) (r.append r2) (by rw [List.length_append]; omega), rfl, q _ I.fresh⟩
def rNeNil (K : PySem.W.Frag) : R2 := fun x y H Q => ∃ a b xs, x = .ref a ∧ y = .ref b ∧ SqL K H a xs ∧ SqL K H b [] ∧ Q (.bl (!xs.isEmpty)) H
theorem op_neNil {X : Cx} (hu : X.A.units + 64 < cLine) : OpR X (compareOp .NotEq) (rNeNil X.K) := by
  intro pins s σ H x y v u Q I rx ry h
  obtain ⟨a, b, xs, rfl, rfl, ha, hb, q⟩ := h
  cases xs with
  | nil => exact op_neD hu pins s σ H _ _ v u Q I rx ry ⟨.list [], .list [], .lst ha .nil, .lst hb .nil, by decide +kernel, by decide +kernel, q⟩
  | cons x xs =>
    cases rx
    cases ry
    obtain ⟨its, r, p1, _⟩ := I.list ha
    obtain ⟨its2, r2, p2, _⟩ := I.list hb
    cases r2
    cases r with
    | cons r0 r => exact PySem.SeqAt.RcNeAt.lists_lengths p1.isList p2.isList (by simp) (by omega) _ _ _ _ ⟨.bl true, H, I, rfl, q⟩
theorem head_inv {d : PyData} (h : headD d = true) : (∃ a, d = .tuple [.str "unknown", a] ∧ countD a = true) ∨ ∃ a ts, d = .tuple [.str "kind", a, .list ts] ∧ kindD a = true ∧ ts.length ≤ 3 := by
  unfold headD at h
  split at h
  · rename_i w a
    obtain ⟨h1, h2⟩ := Bool.and_eq_true_iff.mp h
    exact .inl ⟨a, by rw [beq_iff_eq.mp h1], h2⟩
  · rename_i w a b
    obtain ⟨_, h⟩ := Bool.and_eq_true_iff.mp h
    obtain ⟨h1, h⟩ := Bool.and_eq_true_iff.mp h
    obtain ⟨h2, h3⟩ := Bool.and_eq_true_iff.mp h
    cases b with
    | list ts => exact .inr ⟨a, ts, by rw [beq_iff_eq.mp h1], h2, of_decide_eq_true h3⟩
    | _ => cases h3
  · cases h
theorem sides_sml {d : PyData} (h : smlD d = true) : smlAll (sidesD d) = true := by
  unfold sidesD
  split
  · rename_i w a ts
    split
    · have z := smlAll_mem (show smlAll [.str w, a, .list ts] = true from h) (.list ts) (by simp)
      exact z
    · rfl
  · rfl
/-- the parts of types, waiting, looked at from the end: at most so many more -/
def runD : Nat → List PyData → Bool
  | 0, ds => ds.isEmpty
  | n + 1, ds => match ds.getLast? with
    | none => true
    | some d => headD d && runD n (ds.dropLast ++ sidesD d)
def isTyD (d : PyData) : Bool := runD 200 [d]
theorem DxAll.dropLast {K : PySem.W.Frag} {H : Hp} : ∀ {vs : List V} {ds : List PyData}, DxAll K H vs ds → DxAll K H vs.dropLast ds.dropLast
  | _, _, .nil => .nil
  | _, _, .cons h .nil => .nil
  | _, _, .cons h (.cons h1 a) => .cons h (DxAll.dropLast (.cons h1 a))
theorem DxAll.last {K : PySem.W.Frag} {H : Hp} {vs : List V} {ds : List PyData} (h : DxAll K H vs ds) (hne : vs ≠ []) : ∃ v d, vs[vs.length - 1]? = some v ∧ ds.getLast? = some d ∧ Dx K H v d := by
  have hl := h.length
  have hpos : 0 < vs.length := by
    cases vs with
    | nil => exact absurd rfl hne
    | cons _ _ => exact Nat.succ_pos _
  obtain ⟨d, h1, h2⟩ := h.get (i := vs.length - 1) (v := vs[vs.length - 1]) (List.getElem?_eq_getElem (by omega))
  exact ⟨_, d, List.getElem?_eq_getElem (by omega), by rw [List.getLast?_eq_getElem?, ← hl]; exact h1, h2⟩
theorem smlAll_app {a b : List PyData} (h1 : smlAll a = true) (h2 : smlAll b = true) : smlAll (a ++ b) = true := smlAll_of fun d hd => (List.mem_append.mp hd).elim (smlAll_mem h1 d) (smlAll_mem h2 d)
theorem smlAll_drop {a : List PyData} (h : smlAll a = true) : smlAll a.dropLast = true := smlAll_of fun d hd => smlAll_mem h d (List.dropLast_subset a hd)
/-! ### C(v) made and raised -/
theorem made_same {H : Hp} {C a dx : Addr} {fs : List (Str × V)} (ha : H a = none) (hd : upd H a (exo a C none) dx = none) (hne : dx ≠ a) :
    (hpW (upd H a (exo a C none)) C a dx fs) a = some (exo a C (some dx)) ∧ (hpW (upd H a (exo a C none)) C a dx fs) dx = some (exd dx fs) ∧ H dx = none ∧ Same H (upd (del (hpW (upd H a (exo a C none)) C a dx fs) a) dx (.xd fs)) := by
  rw [upd_ne hne] at hd
  refine ⟨upd_same, ?_, hd, fun b o e => ?_⟩
  · unfold hpW
    rw [upd_ne hne]
    exact upd_same
  · rw [upd_ne (ne_of_none e hd), del_ne (ne_of_none e ha)]
    unfold hpW
    rw [upd_ne (ne_of_none e ha), upd_ne (ne_of_none e hd), upd_ne (ne_of_none e ha)]
    exact e
theorem raise_why {K : PySem.W.Frag} {D C : Addr} {σ : St} {H : Hp} {Q : XK} {i : Nat} {v : V} (T : WC K D C) (q : ∀ dx H', Same H H' → H dx = none → H' dx = some (.xd [("value", v)]) → Q (.ref C) (some dx) H') (hi : σ[i]? = some (some v)) :
    tPmE C (spWhy K D) (tCons (tVar i) tNil) σ H Q := by
  refine ⟨_, hi, (by show 1 ≤ 1000; decide), fun a ha => ⟨a, C, v, rfl, T, upd_same, fun dx hdx hne => ?_⟩⟩
  obtain ⟨h1, h2, h3, h4⟩ := made_same (fs := [("value", v)]) ha hdx hne
  exact ⟨rfl, dx, _, h1, h2, h3, q dx _ h4 h3 upd_same⟩
end Wy

set_option Elab.async false
set_option linter.all false
set_option maxRecDepth 100000
set_option maxHeartbeats 1000000
/-! Wy, part U: types as a plain datatype. -/
namespace Wy
open PySem PySem.Spec L2

inductive Ty where
  | unk (n : Nat)
  | kind (k : Str) (ts : List Ty)
mutual
def Ty.toD : Ty → PyData
  | .unk n => .tuple [.str "unknown", .int n]
  | .kind k ts => .tuple [.str "kind", .str k, .list (Ty.toDs ts)]
def Ty.toDs : List Ty → List PyData
  | [] => []
  | t :: ts => t.toD :: Ty.toDs ts
end
mutual
def Ty.size : Ty → Nat
  | .unk _ => 1
  | .kind _ ts => 1 + Ty.sizes ts
def Ty.sizes : List Ty → Nat
  | [] => 0
  | t :: ts => t.size + Ty.sizes ts
end
mutual
/-- the words are names of kinds, no kind has more than three parts -/
def Ty.ok : Ty → Bool
  | .unk _ => true
  | .kind k ts => kindD (.str k) && (decide (ts.length ≤ 3) && Ty.oks ts)
def Ty.oks : List Ty → Bool
  | [] => true
  | t :: ts => t.ok && Ty.oks ts
end
mutual
/-- itself and its parts, from the left -/
def Ty.parts : Ty → List Ty
  | .unk n => [.unk n]
  | .kind k ts => .kind k ts :: Ty.partss ts
def Ty.partss : List Ty → List Ty
  | [] => []
  | t :: ts => t.parts ++ Ty.partss ts
end
def Ty.sides : Ty → List Ty
  | .unk _ => []
  | .kind _ ts => ts
theorem toDs_map : ∀ ts : List Ty, Ty.toDs ts = ts.map Ty.toD
  | [] => rfl
  | t :: ts => by rw [Ty.toDs, toDs_map ts]; rfl
theorem toDs_append (a b : List Ty) : Ty.toDs (a ++ b) = Ty.toDs a ++ Ty.toDs b := by rw [toDs_map, toDs_map, toDs_map, List.map_append]
theorem sizes_append : ∀ a b : List Ty, Ty.sizes (a ++ b) = Ty.sizes a + Ty.sizes b
  | [], b => by simp [Ty.sizes]
  | t :: a, b => by
    have := sizes_append a b
    simp only [List.cons_append, Ty.sizes]
    omega
theorem oks_append : ∀ a b : List Ty, Ty.oks (a ++ b) = (Ty.oks a && Ty.oks b)
  | [], b => by simp [Ty.oks]
  | t :: a, b => by
    have := oks_append a b
    simp only [List.cons_append, Ty.oks, this, Bool.and_assoc]
theorem partss_append : ∀ a b : List Ty, Ty.partss (a ++ b) = Ty.partss a ++ Ty.partss b
  | [], b => by simp [Ty.partss]
  | t :: a, b => by
    have := partss_append a b
    simp only [List.cons_append, Ty.partss, this, List.append_assoc]
theorem parts_eq (t : Ty) : t.parts = t :: Ty.partss t.sides := by
  cases t with
  | unk n => rfl
  | kind k ts => rw [Ty.parts]; rfl
theorem size_eq (t : Ty) : t.size = 1 + Ty.sizes t.sides := by
  cases t with
  | unk n => rfl
  | kind k ts => rw [Ty.size]; rfl
theorem sidesD_toD (t : Ty) : sidesD t.toD = Ty.toDs t.sides := by
  cases t with
  | unk n => rfl
  | kind k ts => rw [Ty.toD]; rfl
theorem headD_toD {t : Ty} (h : t.ok = true) : headD t.toD = true := by
  cases t with
  | unk n =>
    rw [Ty.toD]
    show ((("unknown" : Str) == "unknown") && countD (.int (n : Int))) = true
    rw [show countD (.int (n : Int)) = true from decide_eq_true (Int.natCast_nonneg n), Bool.and_true]
    decide +kernel
  | kind k ts =>
    rw [Ty.ok] at h
    obtain ⟨h1, h⟩ := Bool.and_eq_true_iff.mp h
    obtain ⟨h2, h3⟩ := Bool.and_eq_true_iff.mp h
    rw [Ty.toD]
    show (!(("kind" : Str) == "unknown") && ((("kind" : Str) == "kind") && (kindD (.str k) && decide ((Ty.toDs ts).length ≤ 3)))) = true
    rw [h1, Bool.true_and, toDs_map, List.length_map, h2]
    decide +kernel
theorem oks_sides {t : Ty} (h : t.ok = true) : Ty.oks t.sides = true := by
  cases t with
  | unk n => rfl
  | kind k ts =>
    rw [Ty.ok] at h
    exact (Bool.and_eq_true_iff.mp (Bool.and_eq_true_iff.mp h).2).2
theorem size_pos (t : Ty) : 0 < t.size := by
  rw [size_eq]
  omega
/-- what is_type takes is a type of at most so many parts -/
theorem run_ty : ∀ (n : Nat) (ds : List PyData), runD n ds = true → ∃ ts : List Ty, ds = Ty.toDs ts ∧ Ty.oks ts = true ∧ Ty.sizes ts ≤ n
  | 0, ds, h => by
    have : ds = [] := List.isEmpty_iff.mp h
    exact ⟨[], this, rfl, Nat.le_refl _⟩
  | n + 1, ds, h => by
    cases hl : ds.getLast? with
    | none =>
      have : ds = [] := List.getLast?_eq_none_iff.mp hl
      exact ⟨[], this, rfl, Nat.zero_le _⟩
    | some d =>
      simp only [runD, hl] at h
      obtain ⟨h1, h2⟩ := Bool.and_eq_true_iff.mp h
      obtain ⟨ts, e, ok, sz⟩ := run_ty n _ h2
      rw [toDs_map] at e
      obtain ⟨ta, tb, rfl, ea, eb⟩ := List.map_eq_append_iff.mp e.symm
      rw [oks_append] at ok
      obtain ⟨oa, ob⟩ := Bool.and_eq_true_iff.mp ok
      rw [sizes_append] at sz
      have hds : ds = ds.dropLast ++ [d] := by
        obtain ⟨ys, e⟩ := List.getLast?_eq_some_iff.mp hl
        rw [e, List.dropLast_concat]
      rcases head_inv h1 with ⟨a, rfl, hc⟩ | ⟨a, ss, rfl, hk, hlen⟩
      · cases a with
        | int i =>
          have hi : 0 ≤ i := of_decide_eq_true hc
          refine ⟨ta ++ [.unk i.toNat], ?_, ?_, ?_⟩
          · rw [hds, toDs_append, toDs_map, ea]
            show _ = _ ++ [PyData.tuple [.str "unknown", .int (i.toNat : Int)]]
            rw [Int.toNat_of_nonneg hi]
          · rw [oks_append, oa]
            rfl
          · rw [sizes_append]
            simp only [Ty.sizes, Ty.size]
            omega
        | _ => cases hc
      · cases a with
        | str k =>
          have eb' : ss = Ty.toDs tb := by
            rw [toDs_map, eb]
            rfl
          refine ⟨ta ++ [.kind k tb], ?_, ?_, ?_⟩
          · rw [hds, toDs_append, toDs_map ta, ea]
            show _ = _ ++ [PyData.tuple [.str "kind", .str k, .list (Ty.toDs tb)]]
            rw [eb']
          · rw [oks_append, oa]
            have : tb.length ≤ 3 := by
              rw [eb', toDs_map, List.length_map] at hlen
              exact hlen
            simp only [Ty.oks, Ty.ok, hk, ob, decide_eq_true this, Bool.and_true]
          · rw [sizes_append]
            simp only [Ty.sizes, Ty.size]
            omega
        | _ => cases hk
theorem ty_run : ∀ (n : Nat) (ts : List Ty), Ty.oks ts = true → Ty.sizes ts ≤ n → runD n (Ty.toDs ts) = true
  | 0, ts, _, h => by
    cases ts with
    | nil => rfl
    | cons t ts =>
      have := size_pos t
      simp only [Ty.sizes] at h
      omega
  | n + 1, ts, ok, h => by
    rcases List.eq_nil_or_concat ts with rfl | ⟨ta, t, rfl⟩
    · rfl
    · rw [List.concat_eq_append] at ok h ⊢
      rw [oks_append] at ok
      obtain ⟨oa, ot⟩ := Bool.and_eq_true_iff.mp ok
      have ot' : t.ok = true := by simpa [Ty.oks] using ot
      rw [sizes_append] at h
      simp only [Ty.sizes] at h
      have hs := size_eq t
      have e : (Ty.toDs (ta ++ [t])) = Ty.toDs ta ++ [t.toD] := by
        rw [toDs_append]
        rfl
      rw [e]
      simp only [runD, List.getLast?_append, List.getLast?_singleton, Option.some_or, List.dropLast_concat]
      rw [headD_toD ot', Bool.true_and, sidesD_toD, ← toDs_append]
      exact ty_run n _ (by rw [oks_append, oa, oks_sides ot']; rfl) (by rw [sizes_append]; omega)
theorem isTy_iff (d : PyData) : isTyD d = true ↔ ∃ t : Ty, d = t.toD ∧ t.ok = true ∧ t.size ≤ 200 := by
  constructor
  · intro h
    obtain ⟨ts, e, ok, sz⟩ := run_ty 200 [d] h
    match ts, e with
    | [t], e =>
      refine ⟨t, ?_, by simpa [Ty.oks] using ok, by simpa [Ty.sizes] using sz⟩
      have := List.cons.inj e
      exact this.1
    | [], e => cases e
    | _ :: _ :: _, e => cases (List.cons.inj e).2
  · rintro ⟨t, rfl, ok, sz⟩
    exact ty_run 200 [t] (by simpa [Ty.oks] using ok) (by simpa [Ty.sizes] using sz)
theorem DxAll.concat_inv {K : PySem.W.Frag} {H : Hp} : ∀ {ws : List V} {ds : List PyData} {d : PyData}, DxAll K H ws (ds ++ [d]) → ∃ ws' y, ws = ws' ++ [y] ∧ DxAll K H ws' ds ∧ Dx K H y d
  | _, [], _, .cons h .nil => ⟨[], _, rfl, .nil, h⟩
  | _, e :: ds, d, .cons h a => by
    obtain ⟨ws', y, rfl, h1, h2⟩ := DxAll.concat_inv (ds := ds) a
    exact ⟨_ :: ws', y, rfl, .cons h h1, h2⟩
theorem DxAll.reverse {K : PySem.W.Frag} {H : Hp} : ∀ {ws : List V} {ds : List PyData}, DxAll K H ws ds → DxAll K H ws.reverse ds.reverse
  | _, _, .nil => .nil
  | _, _, .cons h a => by
    rw [List.reverse_cons, List.reverse_cons]
    exact DxAll.append (DxAll.reverse a) (.cons h .nil)
mutual
theorem parts_length : ∀ t : Ty, t.parts.length = t.size
  | .unk _ => rfl
  | .kind k ts => by
    rw [Ty.parts, Ty.size, List.length_cons, partss_length ts]
    omega
theorem partss_length : ∀ ts : List Ty, (Ty.partss ts).length = Ty.sizes ts
  | [] => rfl
  | t :: ts => by rw [Ty.partss, Ty.sizes, List.length_append, parts_length t, partss_length ts]
end
theorem oks_reverse : ∀ ts : List Ty, Ty.oks ts = true → Ty.oks ts.reverse = true
  | [], h => h
  | t :: ts, h => by
    obtain ⟨h1, h2⟩ := Bool.and_eq_true_iff.mp (show (t.ok && Ty.oks ts) = true from h)
    rw [List.reverse_cons, oks_append, oks_reverse ts h2]
    simp [Ty.oks, h1]
theorem sizes_reverse : ∀ ts : List Ty, Ty.sizes ts.reverse = Ty.sizes ts
  | [] => rfl
  | t :: ts => by
    rw [List.reverse_cons, sizes_append, sizes_reverse ts]
    simp only [Ty.sizes]
    omega
theorem sides_three {t : Ty} (h : t.ok = true) : t.sides.length ≤ 3 := by
  cases t with
  | unk n => exact Nat.zero_le _
  | kind k ts =>
    rw [Ty.ok] at h
    exact of_decide_eq_true (Bool.and_eq_true_iff.mp (Bool.and_eq_true_iff.mp h).2).1
theorem sizes_ge : ∀ ts : List Ty, ts.length ≤ Ty.sizes ts
  | [] => Nat.le_refl _
  | t :: ts => by
    have h1 := sizes_ge ts
    have h2 := size_pos t
    simp only [List.length_cons, Ty.sizes]
    omega
end Wy

set_option Elab.async false
set_option linter.all false
set_option maxRecDepth 100000
set_option maxHeartbeats 1000000
/-! Wy, part V: d.update(dict). -/
namespace Wy
open PySem PySem.Spec L2
def rUpdD : V → List V → Hp → VK → Prop := fun x vs H Q => ∃ a b ks ls, x = .ref a ∧ vs = [.ref b] ∧ H a = some (.dK ks) ∧ H b = some (.dK ls) ∧ a ≠ b ∧ ks.length + ls.length ≤ sizeLine ∧ Q .non (upd H a (.dK (mergeK ks ls)))
theorem mt_updateD {X : Cx} : MtM X "dict.update" rUpdD := by
  intro pins s σ H x vs v us Q I rx rv h
  obtain ⟨a, b, ks, ls, rfl, rfl, ha, hb, hab, hz, q⟩ := h
  cases rx
  obtain ⟨u, rfl, ru⟩ := Vals.one rv
  cases ru
  obtain ⟨z1, da, va, ra, oa⟩ := dk_of I.hok ha
  obtain ⟨z2, db, vb, rb, ob⟩ := dk_of I.hok hb
  refine call_meetsIn PySem.F.slot_dict_update oa.typeIs PySem.F.entry_dict_update (PySem.F.args_dict_update_2 _ _) (meets_dict_update (mixKind X.prog X.w) a b hab db)
    ⟨va, vb, oa, ob, by rw [← ra.length, ← rb.length]; exact hz, fun h' d1 d2 hs => ?_⟩
  have hl : (mergeK ks ls).length ≤ sizeLine := Nat.le_trans (length_mergeK ls ks) hz
  have he : ∃ q, h'.get? a = some q := let ⟨q, _, _, hq, _⟩ := d1; ⟨q, hq⟩
  exact ⟨.non, _, d_write (t' := s.toks) I (by rw [ha]; exact True.intro) hs he (dk_new hl da (KV.merge rb ra) d1), rfl, q⟩
/-- a dict comprehension over any walk -/
theorem dc_walk {J : It} {n : Nat} {G : Hp → Prop} {Y : Nat → Hp → V → Hp → Prop} (w : Walk J n G Y) {g : TG} {tt : TT} {tk tv : TE} {vs : List Nat} {σ : St} {H1 : Hp} {D : Addr} {Qd : Hp → Prop} (Pv : Nat → Hp → Prop) (h0 : Pv 0 (upd H1 D (.dK []))) (hG : ∀ i H, i ≤ n → Pv i H → G H)
    (hs : ∀ i x H H', i < n → Pv i H → Y i H x H' → g x (wipe σ vs) H' fun σ2 H2 => wipe σ2 vs = wipe σ vs ∧ tt σ2 H2 fun b H3 =>
      if b = true then tk σ2 H3 fun y H4 => tv σ2 H4 fun z H5 => ∃ kvs k, y = kV k ∧ H5 D = some (.dK kvs) ∧ kvs.length < sizeLine ∧ Pv (i + 1) (upd H5 D (.dK (putK kvs k z))) else Pv (i + 1) H3) (hd : ∀ H, Pv n H → Qd H) :
    ∃ W : Nat → Nat → Hp → Prop, (∃ m, W 0 m (upd H1 D (.dK []))) ∧ ∀ i m H, W i m H →
      (J.stop i H ∧ Qd H) ∨ (J.go i H ∧ ∃ Nx : Hp → Prop, (∀ H', Nx H' → ∃ m', m' < m ∧ W (i + 1) m' H') ∧ ∀ x H', J.yld i H x H' → g x (wipe σ vs) H' fun σ2 H2 => wipe σ2 vs = wipe σ vs ∧ tt σ2 H2 fun b H3 =>
        if b = true then tk σ2 H3 fun y H4 => tv σ2 H4 fun z H5 => ∃ kvs k, y = kV k ∧ H5 D = some (.dK kvs) ∧ kvs.length < sizeLine ∧ Nx (upd H5 D (.dK (putK kvs k z))) else Nx H3) :=
  ⟨fun i m H => m + i = n ∧ Pv i H, ⟨n, rfl, h0⟩, fun i m H ⟨e, p⟩ => by
    have q := hG i H (by omega) p
    cases m with
    | zero =>
      obtain rfl : i = n := by omega
      exact .inl ⟨w.stops H q, hd H p⟩
    | succ m => exact .inr ⟨w.goes i H (by omega) q, Pv (i + 1), fun H' p' => ⟨m, Nat.lt_succ_self m, by omega, p'⟩, fun x H' y => hs i x H H' (by omega) p (w.yields i H x H' (by omega) q y)⟩⟩
/-! ### numbers, each once -/
def addN (ns : List Nat) (n : Nat) : List Nat := if n ∈ ns then ns else ns ++ [n]
def addAll (ns ms : List Nat) : List Nat := ms.foldl addN ns
def unkN : Ty → Option Nat
  | .unk n => some n
  | .kind _ _ => none
def numT (t : Ty) : List Nat := t.parts.filterMap unkN
def numsIn (ts : List Ty) : List Nat := ts.foldl (fun ns t => addAll ns (addAll [] (numT t))) []
/-- a dict of numbers -/
def kd (ns : List Nat) : List (Key × V) := ns.map fun (n : Nat) => ((Sum.inl (n : Int) : Key), V.bl true)
theorem kd_put (ns : List Nat) (n : Nat) : putK (kd ns) (Sum.inl (n : Int)) (.bl true) = kd (addN ns n) := by
  unfold putK addN kd
  by_cases h : n ∈ ns
  · rw [if_pos h, if_pos]
    · rw [List.map_map]
      apply List.map_congr_left
      intro m _
      show (if (Sum.inl (m : Int) : Key) = Sum.inl (n : Int) then _ else _) = _
      split
      · rfl
      · rfl
    · rw [List.any_eq_true]
      exact ⟨_, List.mem_map_of_mem h, decide_eq_true rfl⟩
  · rw [if_neg h, if_neg, List.map_append]
    · rfl
    · intro z
      rw [List.any_eq_true] at z
      obtain ⟨p, hp, e⟩ := z
      obtain ⟨m, hm, rfl⟩ := List.mem_map.mp hp
      have e' := Sum.inl.inj (of_decide_eq_true e)
      have : m = n := by exact_mod_cast e'
      exact h (this ▸ hm)
theorem kd_merge : ∀ (ms ns : List Nat), mergeK (kd ns) (kd ms) = kd (addAll ns ms)
  | [], ns => rfl
  | m :: ms, ns => by
    have e : mergeK (kd ns) (kd (m :: ms)) = mergeK (putK (kd ns) (Sum.inl (m : Int)) (.bl true)) (kd ms) := rfl
    rw [e, kd_put, kd_merge ms]
    rfl
theorem addN_length (ns : List Nat) (n : Nat) : (addN ns n).length ≤ ns.length + 1 := by
  unfold addN
  split
  · omega
  · simp
theorem addAll_length : ∀ (ms ns : List Nat), (addAll ns ms).length ≤ ns.length + ms.length
  | [], ns => Nat.le_refl _
  | m :: ms, ns => by
    have h1 := addAll_length ms (addN ns m)
    have h2 := addN_length ns m
    show (addAll (addN ns m) ms).length ≤ _
    rw [List.length_cons]
    omega
theorem numT_length (t : Ty) : (numT t).length ≤ t.size := by
  rw [← parts_length]
  exact List.length_filterMap_le ..
theorem oks_mem : ∀ {ts : List Ty}, Ty.oks ts = true → ∀ t ∈ ts, t.ok = true
  | [], _, _, h => by cases h
  | x :: xs, h, t, ht => by
    obtain ⟨h1, h2⟩ := Bool.and_eq_true_iff.mp (show (x.ok && Ty.oks xs) = true from h)
    rcases List.mem_cons.mp ht with rfl | ht
    · exact h1
    · exact oks_mem h2 t ht
theorem sizes_mem : ∀ {ts : List Ty} {t : Ty}, t ∈ ts → t.size ≤ Ty.sizes ts
  | x :: xs, t, ht => by
    rcases List.mem_cons.mp ht with rfl | ht
    · exact Nat.le_add_right _ _
    · exact Nat.le_trans (sizes_mem ht) (Nat.le_add_left _ _)
theorem sizes_take : ∀ (ts : List Ty) (i : Nat), Ty.sizes (ts.take i) ≤ Ty.sizes ts
  | [], i => by simp [Ty.sizes]
  | t :: ts, 0 => Nat.zero_le _
  | t :: ts, i + 1 => by
    have := sizes_take ts i
    simp only [List.take_succ_cons, Ty.sizes]
    omega
end Wy

set_option Elab.async false
set_option linter.all false
set_option maxRecDepth 100000
set_option maxHeartbeats 1000000
/-! Wy, part W: trees: data whose lists are told by their addresses; types put in. -/
namespace Wy
open PySem PySem.Spec L2
mutual
/-- data whose lists stand at S, each once; sh: what is shared -/
inductive Tr (K : PySem.W.Frag) (sh : V → PyData → Prop) (H : Hp) : V → PyData → List Addr → Prop
  | sh {v : V} {d : PyData} : sh v d → Tr K sh H v d []
  | bl (b : Bool) : Tr K sh H (.bl b) (.bool b) []
  | int (i : Int) : Tr K sh H (.int i) (.int i) []
  | str (x : Str) : Tr K sh H (.str x) (.str x) []
  | tup {a : Addr} {xs : List V} {ds : List PyData} {S : List Addr} : SqT K H a xs → TrAll K sh H xs ds S → Tr K sh H (.ref a) (.tuple ds) S
  | lst {a : Addr} {xs : List V} {ds : List PyData} {S : List Addr} : H a = some (.lst xs) → TrAll K sh H xs ds S → a ∉ S → Tr K sh H (.ref a) (.list ds) (a :: S)
inductive TrAll (K : PySem.W.Frag) (sh : V → PyData → Prop) (H : Hp) : List V → List PyData → List Addr → Prop
  | nil : TrAll K sh H [] [] []
  | cons {v : V} {vs : List V} {d : PyData} {ds : List PyData} {S T : List Addr} : Tr K sh H v d S → TrAll K sh H vs ds T → (∀ a ∈ S, a ∉ T) → TrAll K sh H (v :: vs) (d :: ds) (S ++ T)
end
mutual
theorem Tr.mono {K : PySem.W.Frag} {sh : V → PyData → Prop} {H H' : Hp} (s : Same H H') : ∀ {v : V} {d : PyData} {S : List Addr}, Tr K sh H v d S → Tr K sh H' v d S
  | _, _, _, .sh h => .sh h
  | _, _, _, .bl b => .bl b
  | _, _, _, .int i => .int i
  | _, _, _, .str x => .str x
  | _, _, _, .tup h a => .tup (same_seqT s h) (TrAll.mono s a)
  | _, _, _, .lst h a n => .lst (s _ _ h) (TrAll.mono s a) n
theorem TrAll.mono {K : PySem.W.Frag} {sh : V → PyData → Prop} {H H' : Hp} (s : Same H H') : ∀ {vs : List V} {ds : List PyData} {S : List Addr}, TrAll K sh H vs ds S → TrAll K sh H' vs ds S
  | _, _, _, .nil => .nil
  | _, _, _, .cons h a n => .cons (Tr.mono s h) (TrAll.mono s a) n
end
mutual
theorem Tr.dx {K : PySem.W.Frag} {sh : V → PyData → Prop} {H : Hp} (hs : ∀ v d, sh v d → Dx K H v d) : ∀ {v : V} {d : PyData} {S : List Addr}, Tr K sh H v d S → Dx K H v d
  | _, _, _, .sh h => hs _ _ h
  | _, _, _, .bl b => .bl b
  | _, _, _, .int i => .int i
  | _, _, _, .str x => .str x
  | _, _, _, .tup h a => .tup h (TrAll.dx hs a)
  | _, _, _, .lst h a _ => .lst (SqL.of h) (TrAll.dx hs a)
theorem TrAll.dx {K : PySem.W.Frag} {sh : V → PyData → Prop} {H : Hp} (hs : ∀ v d, sh v d → Dx K H v d) : ∀ {vs : List V} {ds : List PyData} {S : List Addr}, TrAll K sh H vs ds S → DxAll K H vs ds
  | _, _, _, .nil => .nil
  | _, _, _, .cons h a _ => .cons (Tr.dx hs h) (TrAll.dx hs a)
end
theorem TrAll.snoc {K : PySem.W.Frag} {sh : V → PyData → Prop} {H : Hp} : ∀ {vs : List V} {ds : List PyData} {S T : List Addr} {v : V} {d : PyData}, TrAll K sh H vs ds S → Tr K sh H v d T → (∀ a ∈ S, a ∉ T) → TrAll K sh H (vs ++ [v]) (ds ++ [d]) (S ++ T)
  | _, _, _, T, v, d, .nil, h, _ => by
    have := TrAll.cons (T := []) h .nil (fun _ _ z => by cases z)
    rw [List.append_nil] at this
    exact this
  | _, _, _, T, v, d, .cons (S := S1) (T := T1) h a n, h2, n2 => by
    rw [List.append_assoc]
    exact .cons h (TrAll.snoc a h2 fun x hx => n2 x (List.mem_append_right _ hx)) fun x hx z => (List.mem_append.mp z).elim (n x hx) (n2 x (List.mem_append_left _ hx))
theorem TrAll.length {K : PySem.W.Frag} {sh : V → PyData → Prop} {H : Hp} : ∀ {vs : List V} {ds : List PyData} {S : List Addr}, TrAll K sh H vs ds S → vs.length = ds.length
  | _, _, _, .nil => rfl
  | _, _, _, .cons _ a _ => congrArg Nat.succ (TrAll.length a)
mutual
/-- types put in for numbers -/
def Ty.put (f : Nat → Option Ty) : Ty → Ty
  | .unk n => (f n).getD (.unk n)
  | .kind k ts => .kind k (Ty.puts f ts)
def Ty.puts (f : Nat → Option Ty) : List Ty → List Ty
  | [] => []
  | t :: ts => t.put f :: Ty.puts f ts
end
theorem puts_map (f : Nat → Option Ty) : ∀ ts : List Ty, Ty.puts f ts = ts.map (Ty.put f)
  | [] => rfl
  | t :: ts => by rw [Ty.puts, puts_map f ts]; rfl
mutual
def Ty.deep : Ty → Nat
  | .unk _ => 0
  | .kind _ ts => 1 + Ty.deeps ts
def Ty.deeps : List Ty → Nat
  | [] => 0
  | t :: ts => max t.deep (Ty.deeps ts)
end
theorem deep_mem : ∀ {ts : List Ty} {t : Ty}, t ∈ ts → t.deep ≤ Ty.deeps ts
  | x :: xs, t, h => by
    rcases List.mem_cons.mp h with rfl | h
    · exact Nat.le_max_left _ _
    · exact Nat.le_trans (deep_mem h) (Nat.le_max_right _ _)
theorem tr_unk {K : PySem.W.Frag} {sh : V → PyData → Prop} {H Fh : Hp} {p : Addr} {xs : List V} {m : Nat} (hq : SqT K H p xs) (h : DxAll K Fh xs [.str "unknown", .int (m : Int)]) : Tr K sh H (.ref p) (Ty.unk m).toD [] := by
  cases h with
  | cons h0 h =>
    cases h with
    | cons h1 h =>
      cases h
      cases h0
      cases h1
      exact .tup (S := []) hq (.cons (S := []) (T := []) (.str _) (.cons (S := []) (T := []) (.int _) .nil (fun _ z => by cases z)) (fun _ z => by cases z))
theorem tr_kind {K : PySem.W.Frag} {sh : V → PyData → Prop} {H : Hp} {p D : Addr} {k : Str} {acc : List V} {ts : List Ty} {S : List Addr} (hq : H p = some (.tup [.str "kind", .str k, .ref D])) (hD : H D = some (.lst acc)) (h : TrAll K sh H acc (Ty.toDs ts) S) (hn : D ∉ S) : Tr K sh H (.ref p) (Ty.kind k ts).toD (D :: S) := by
  have e : D :: S = [] ++ ([] ++ ((D :: S) ++ [])) := by simp
  rw [e, Ty.toD]
  exact .tup (SqT.of hq) (.cons (.str _) (.cons (.str _) (.cons (.lst hD h hn) .nil (fun _ _ z => by cases z)) (fun _ z => by cases z)) (fun _ z => by cases z))
mutual
theorem Tr.there {K : PySem.W.Frag} {sh : V → PyData → Prop} {H : Hp} : ∀ {v : V} {d : PyData} {S : List Addr}, Tr K sh H v d S → ∀ a ∈ S, ∃ xs, H a = some (.lst xs)
  | _, _, _, .sh h, a, ha => by cases ha
  | _, _, _, .bl b, a, ha => by cases ha
  | _, _, _, .int i, a, ha => by cases ha
  | _, _, _, .str x, a, ha => by cases ha
  | _, _, _, .tup h t, a, ha => TrAll.there t a ha
  | _, _, _, .lst h t n, a, ha => by
    rcases List.mem_cons.mp ha with rfl | ha
    · exact ⟨_, h⟩
    · exact TrAll.there t a ha
theorem TrAll.there {K : PySem.W.Frag} {sh : V → PyData → Prop} {H : Hp} : ∀ {vs : List V} {ds : List PyData} {S : List Addr}, TrAll K sh H vs ds S → ∀ a ∈ S, ∃ xs, H a = some (.lst xs)
  | _, _, _, .nil, a, ha => by cases ha
  | _, _, _, .cons h t n, a, ha => (List.mem_append.mp ha).elim (Tr.there h a) (TrAll.there t a)
end
theorem sqT_out {K : PySem.W.Frag} {H : Hp} {D a : Addr} {acc xs : List V} (hD : H D = some (.lst acc)) (h : SqT K H a xs) : SqT K (outA H D) a xs := by
  rcases h with (h | ⟨o, h⟩) | h
  · refine .inl (.inl ?_)
    rw [outA_ne]
    · exact h
    · intro z
      rw [z, hD] at h
      cases h
  · refine .inl (.inr ⟨o, ?_⟩)
    rw [outA_ne]
    · exact h
    · intro z
      rw [z, hD] at h
      cases h
  · exact .inr h
mutual
theorem Tr.out {K : PySem.W.Frag} {sh : V → PyData → Prop} {H : Hp} {D : Addr} {acc : List V} (hD : H D = some (.lst acc)) : ∀ {v : V} {d : PyData} {S : List Addr}, Tr K sh H v d S → D ∉ S → Tr K sh (outA H D) v d S
  | _, _, _, .sh h, _ => .sh h
  | _, _, _, .bl b, _ => .bl b
  | _, _, _, .int i, _ => .int i
  | _, _, _, .str x, _ => .str x
  | _, _, _, .tup h t, n => .tup (sqT_out hD h) (TrAll.out hD t n)
  | _, _, _, .lst h t m, n => .lst (by
      rw [outA_ne (fun z => n (by rw [z]; exact List.mem_cons_self ..))]
      exact h) (TrAll.out hD t (fun z => n (List.mem_cons_of_mem _ z))) m
theorem TrAll.out {K : PySem.W.Frag} {sh : V → PyData → Prop} {H : Hp} {D : Addr} {acc : List V} (hD : H D = some (.lst acc)) : ∀ {vs : List V} {ds : List PyData} {S : List Addr}, TrAll K sh H vs ds S → D ∉ S → TrAll K sh (outA H D) vs ds S
  | _, _, _, .nil, _ => .nil
  | _, _, _, .cons h t m, n => .cons (Tr.out hD h fun z => n (List.mem_append_left _ z)) (TrAll.out hD t fun z => n (List.mem_append_right _ z)) m
end
mutual
theorem put_none : ∀ t : Ty, t.put (fun _ => none) = t
  | .unk n => rfl
  | .kind k ts => by rw [Ty.put, puts_none ts]
theorem puts_none : ∀ ts : List Ty, Ty.puts (fun _ => none) ts = ts
  | [] => rfl
  | t :: ts => by rw [Ty.puts, put_none t, puts_none ts]
end
mutual
theorem Tr.imp {K : PySem.W.Frag} {sh sh' : V → PyData → Prop} {H : Hp} (f : ∀ v d, sh v d → sh' v d) : ∀ {v : V} {d : PyData} {S : List Addr}, Tr K sh H v d S → Tr K sh' H v d S
  | _, _, _, .sh h => .sh (f _ _ h)
  | _, _, _, .bl b => .bl b
  | _, _, _, .int i => .int i
  | _, _, _, .str x => .str x
  | _, _, _, .tup h a => .tup h (TrAll.imp f a)
  | _, _, _, .lst h a n => .lst h (TrAll.imp f a) n
theorem TrAll.imp {K : PySem.W.Frag} {sh sh' : V → PyData → Prop} {H : Hp} (f : ∀ v d, sh v d → sh' v d) : ∀ {vs : List V} {ds : List PyData} {S : List Addr}, TrAll K sh H vs ds S → TrAll K sh' H vs ds S
  | _, _, _, .nil => .nil
  | _, _, _, .cons h a n => .cons (Tr.imp f h) (TrAll.imp f a) n
end
/-! ### numbers told anew -/
theorem addN_nodup {ns : List Nat} {n : Nat} (h : ns.Nodup) : (addN ns n).Nodup := by
  unfold addN
  split
  · exact h
  · rename_i z
    rw [List.nodup_append]
    exact ⟨h, by simp, fun a ha b hb e => z (by rw [← List.mem_singleton.mp hb, ← e]; exact ha)⟩
theorem addAll_nodup : ∀ {ms ns : List Nat}, ns.Nodup → (addAll ns ms).Nodup
  | [], ns, h => h
  | m :: ms, ns, h => addAll_nodup (ns := addN ns m) (addN_nodup h)
theorem numsIn_nodup (ts : List Ty) : (numsIn ts).Nodup := by
  unfold numsIn
  have : ∀ (l : List Ty) (ns : List Nat), ns.Nodup → (l.foldl (fun ns t => addAll ns (addAll [] (numT t))) ns).Nodup := by
    intro l
    induction l with
    | nil => intro ns h; exact h
    | cons t l ih => intro ns h; exact ih _ (addAll_nodup h)
  exact this ts [] List.nodup_nil
/-- the i-th of these numbers is i from now on -/
def renum (ns : List Nat) : Nat → Option Ty := fun n => if n ∈ ns then some (.unk (ns.idxOf n)) else none
mutual
theorem deep_renum (ns : List Nat) : ∀ t : Ty, (t.put (renum ns)).deep = t.deep
  | .unk n => by
    rw [Ty.put]
    unfold renum
    split <;> rfl
  | .kind k ts => by rw [Ty.put, Ty.deep, Ty.deep, deeps_renum ns ts]
theorem deeps_renum (ns : List Nat) : ∀ ts : List Ty, Ty.deeps (Ty.puts (renum ns) ts) = Ty.deeps ts
  | [] => rfl
  | t :: ts => by rw [Ty.puts, Ty.deeps, Ty.deeps, deep_renum ns t, deeps_renum ns ts]
end
mutual
theorem ok_renum (ns : List Nat) : ∀ t : Ty, (t.put (renum ns)).ok = t.ok
  | .unk n => by
    rw [Ty.put]
    unfold renum
    split <;> rfl
  | .kind k ts => by rw [Ty.put, Ty.ok, Ty.ok, oks_renum ns ts, puts_map, List.length_map]
theorem oks_renum (ns : List Nat) : ∀ ts : List Ty, Ty.oks (Ty.puts (renum ns) ts) = Ty.oks ts
  | [] => rfl
  | t :: ts => by rw [Ty.puts, Ty.oks, Ty.oks, ok_renum ns t, oks_renum ns ts]
end
theorem numsIn_le (ts : List Ty) : (numsIn ts).length ≤ Ty.sizes ts := by
  unfold numsIn
  have : ∀ (l : List Ty) (ns : List Nat), (l.foldl (fun ns t => addAll ns (addAll [] (numT t))) ns).length ≤ ns.length + Ty.sizes l := by
    intro l
    induction l with
    | nil => intro ns; exact Nat.le_refl _
    | cons t l ih =>
      intro ns
      have h1 := ih (addAll ns (addAll [] (numT t)))
      have h2 := addAll_length (addAll [] (numT t)) ns
      have h3 := addAll_length (numT t) []
      have h4 := numT_length t
      simp only [List.length_nil] at h3
      simp only [List.foldl_cons, Ty.sizes]
      omega
  have := this ts []
  simpa using this
theorem deeps_append : ∀ a b : List Ty, Ty.deeps (a ++ b) = max (Ty.deeps a) (Ty.deeps b)
  | [], b => by simp [Ty.deeps]
  | t :: a, b => by
    have := deeps_append a b
    simp only [List.cons_append, Ty.deeps, this, Nat.max_assoc]
end Wy

set_option Elab.async false
set_option linter.all false
set_option maxRecDepth 100000
set_option maxHeartbeats 1000000
/-! Wy, part M: numbers told anew: the mathematics of plain types. -/
namespace Wy
open PySem PySem.Spec L2
theorem addN_mem {ns : List Nat} {n x : Nat} : x ∈ addN ns n ↔ x ∈ ns ∨ x = n := by
  unfold addN
  split
  · rename_i h
    exact ⟨.inl, fun z => z.elim id fun z => z ▸ h⟩
  · rw [List.mem_append, List.mem_singleton]
theorem addAll_mem : ∀ {ms ns : List Nat} {x : Nat}, x ∈ addAll ns ms ↔ x ∈ ns ∨ x ∈ ms
  | [], ns, x => by simp [addAll]
  | m :: ms, ns, x => by
    have := addAll_mem (ms := ms) (ns := addN ns m) (x := x)
    show x ∈ addAll (addN ns m) ms ↔ _
    rw [this, addN_mem, List.mem_cons, or_assoc]
theorem addAll_append (ns a b : List Nat) : addAll ns (a ++ b) = addAll (addAll ns a) b := by
  unfold addAll
  rw [List.foldl_append]
theorem addN_same {ns : List Nat} {n : Nat} (h : n ∈ ns) : addN ns n = ns := if_pos h
theorem addAll_absorb : ∀ {ms ns : List Nat}, (∀ x ∈ ms, x ∈ ns) → addAll ns ms = ns
  | [], ns, _ => rfl
  | m :: ms, ns, h => by
    show addAll (addN ns m) ms = ns
    rw [addN_same (h m (List.mem_cons_self ..))]
    exact addAll_absorb fun x hx => h x (List.mem_cons_of_mem _ hx)
theorem addAll_all : ∀ (ms ks ns : List Nat), addAll ns (addAll ks ms) = addAll (addAll ns ks) ms
  | [], ks, ns => rfl
  | m :: ms, ks, ns => by
    show addAll ns (addAll (addN ks m) ms) = addAll (addN (addAll ns ks) m) ms
    rw [addAll_all ms]
    congr 1
    by_cases h : m ∈ ks
    · rw [addN_same h, addN_same (addAll_mem.mpr (.inr h))]
    · rw [show addN ks m = ks ++ [m] from if_neg h, addAll_append]
      rfl
def allNums (ts : List Ty) : List Nat := (Ty.partss ts).filterMap unkN
theorem allNums_cons (t : Ty) (ts : List Ty) : allNums (t :: ts) = numT t ++ allNums ts := by
  unfold allNums numT
  rw [Ty.partss, List.filterMap_append]
theorem allNums_one (t : Ty) : allNums [t] = numT t := by
  rw [allNums_cons]
  show numT t ++ [] = _
  rw [List.append_nil]
theorem numsIn_eq (ts : List Ty) : numsIn ts = addAll [] (allNums ts) := by
  unfold numsIn
  have : ∀ (l : List Ty) (ns : List Nat), l.foldl (fun ns t => addAll ns (addAll [] (numT t))) ns = addAll ns (allNums l) := by
    intro l
    induction l with
    | nil => intro ns; rfl
    | cons t l ih =>
      intro ns
      rw [List.foldl_cons, ih, allNums_cons, addAll_append, addAll_all]
      rfl
  exact this ts []
theorem numT_unk (n : Nat) : numT (.unk n) = [n] := rfl
theorem numT_kind (k : Str) (ts : List Ty) : numT (.kind k ts) = allNums ts := by
  unfold numT allNums
  rw [Ty.parts]
  rfl
/-- numbers told anew by r -/
def Ty.ren (r : Nat → Nat) (t : Ty) : Ty := t.put fun n => some (.unk (r n))
mutual
theorem put_congr {f g : Nat → Option Ty} : ∀ t : Ty, (∀ n ∈ numT t, f n = g n) → t.put f = t.put g
  | .unk n, h => by rw [Ty.put, Ty.put, h n (by rw [numT_unk]; exact List.mem_singleton_self n)]
  | .kind k ts, h => by rw [Ty.put, Ty.put, puts_congr ts (by rw [numT_kind] at h; exact h)]
theorem puts_congr {f g : Nat → Option Ty} : ∀ ts : List Ty, (∀ n ∈ allNums ts, f n = g n) → Ty.puts f ts = Ty.puts g ts
  | [], _ => rfl
  | t :: ts, h => by
    rw [allNums_cons] at h
    rw [Ty.puts, Ty.puts, put_congr t (fun n hn => h n (List.mem_append_left _ hn)), puts_congr ts (fun n hn => h n (List.mem_append_right _ hn))]
end
mutual
theorem numT_ren (r : Nat → Nat) : ∀ t : Ty, numT (t.ren r) = (numT t).map r
  | .unk n => rfl
  | .kind k ts => by
    unfold Ty.ren
    rw [Ty.put, numT_kind, numT_kind, allNums_ren r ts]
theorem allNums_ren (r : Nat → Nat) : ∀ ts : List Ty, allNums (Ty.puts (fun n => some (.unk (r n))) ts) = (allNums ts).map r
  | [] => rfl
  | t :: ts => by
    rw [Ty.puts, allNums_cons, allNums_cons, List.map_append, allNums_ren r ts]
    congr 1
    exact numT_ren r t
end
mutual
theorem ren_put (r : Nat → Nat) (g : Nat → Option Ty) : ∀ t : Ty, (t.ren r).put g = t.put fun n => some ((g (r n)).getD (.unk (r n)))
  | .unk n => rfl
  | .kind k ts => by
    unfold Ty.ren
    rw [Ty.put, Ty.put, Ty.put, rens_puts r g ts]
theorem rens_puts (r : Nat → Nat) (g : Nat → Option Ty) : ∀ ts : List Ty, Ty.puts g (Ty.puts (fun n => some (.unk (r n))) ts) = Ty.puts (fun n => some ((g (r n)).getD (.unk (r n)))) ts
  | [] => rfl
  | t :: ts => by
    rw [Ty.puts, Ty.puts, Ty.puts, rens_puts r g ts]
    congr 1
    exact ren_put r g t
end
mutual
theorem ok_ren (r : Nat → Nat) : ∀ t : Ty, (t.ren r).ok = t.ok
  | .unk n => rfl
  | .kind k ts => by
    unfold Ty.ren
    rw [Ty.put, Ty.ok, Ty.ok, oks_ren r ts, puts_map, List.length_map]
theorem oks_ren (r : Nat → Nat) : ∀ ts : List Ty, Ty.oks (Ty.puts (fun n => some (.unk (r n))) ts) = Ty.oks ts
  | [] => rfl
  | t :: ts => by
    rw [Ty.puts, Ty.oks, Ty.oks, oks_ren r ts]
    congr 1
    exact ok_ren r t
end
mutual
theorem deep_ren (r : Nat → Nat) : ∀ t : Ty, (t.ren r).deep = t.deep
  | .unk n => rfl
  | .kind k ts => by
    unfold Ty.ren
    rw [Ty.put, Ty.deep, Ty.deep, deeps_ren r ts]
theorem deeps_ren (r : Nat → Nat) : ∀ ts : List Ty, Ty.deeps (Ty.puts (fun n => some (.unk (r n))) ts) = Ty.deeps ts
  | [] => rfl
  | t :: ts => by
    rw [Ty.puts, Ty.deeps, Ty.deeps, deeps_ren r ts]
    congr 1
    exact deep_ren r t
end
mutual
theorem size_ren (r : Nat → Nat) : ∀ t : Ty, (t.ren r).size = t.size
  | .unk n => rfl
  | .kind k ts => by
    unfold Ty.ren
    rw [Ty.put, Ty.size, Ty.size, sizes_ren r ts]
theorem sizes_ren (r : Nat → Nat) : ∀ ts : List Ty, Ty.sizes (Ty.puts (fun n => some (.unk (r n))) ts) = Ty.sizes ts
  | [] => rfl
  | t :: ts => by
    rw [Ty.puts, Ty.sizes, Ty.sizes, sizes_ren r ts]
    congr 1
    exact size_ren r t
end
theorem addAll_map {S : Nat → Prop} {r : Nat → Nat} (hr : ∀ a b, S a → S b → r a = r b → a = b) : ∀ (ms ns : List Nat), (∀ x ∈ ns, S x) → (∀ x ∈ ms, S x) → addAll (ns.map r) (ms.map r) = (addAll ns ms).map r
  | [], ns, _, _ => rfl
  | m :: ms, ns, h1, h2 => by
    have hm := h2 m (List.mem_cons_self ..)
    have e : addN (ns.map r) (r m) = (addN ns m).map r := by
      unfold addN
      by_cases h : m ∈ ns
      · rw [if_pos h, if_pos (List.mem_map_of_mem h)]
      · rw [if_neg h, if_neg, List.map_append]
        · rfl
        · intro z
          obtain ⟨a, ha, e⟩ := List.mem_map.mp z
          exact h (hr a m (h1 a ha) hm e ▸ ha)
    show addAll (addN (ns.map r) (r m)) (ms.map r) = (addAll (addN ns m) ms).map r
    rw [e]
    exact addAll_map hr ms _ (fun x hx => (addN_mem.mp hx).elim (h1 x) fun z => z ▸ hm) fun x hx => h2 x (List.mem_cons_of_mem _ hx)
theorem numsIn_mem {ts : List Ty} {n : Nat} : n ∈ numsIn ts ↔ n ∈ allNums ts := by
  rw [numsIn_eq, addAll_mem]
  simp
theorem numsIn_ren {r : Nat → Nat} {t : Ty} (hr : ∀ a b, a ∈ numT t → b ∈ numT t → r a = r b → a = b) : numsIn [t.ren r] = (numsIn [t]).map r := by
  rw [numsIn_eq, numsIn_eq, allNums_one, allNums_one, numT_ren]
  exact addAll_map (S := fun x => x ∈ numT t) hr (numT t) [] (fun _ h => by cases h) fun _ h => h
theorem idx_map {r : Nat → Nat} : ∀ {l : List Nat} {n : Nat}, (∀ a b, a ∈ l → b ∈ l → r a = r b → a = b) → n ∈ l → (l.map r).idxOf (r n) = l.idxOf n
  | [], _, _, h => by cases h
  | a :: l, n, hr, h => by
    rw [List.map_cons, List.idxOf_cons, List.idxOf_cons]
    by_cases e : a = n
    · subst e
      simp
    · have ne : ¬ r a = r n := fun z => e (hr a n (List.mem_cons_self ..) h z)
      have hn : n ∈ l := (List.mem_cons.mp h).resolve_left fun z => e z.symm
      have ih := idx_map (l := l) (n := n) (fun a b ha hb => hr a b (List.mem_cons_of_mem _ ha) (List.mem_cons_of_mem _ hb)) hn
      rw [beq_eq_false_iff_ne.mpr ne, beq_eq_false_iff_ne.mpr e, ih]
def plainOf (ns : List Nat) (t : Ty) : Ty := t.put (renum ns)
theorem plain_as_ren {ns : List Nat} {t : Ty} (h : ∀ n ∈ numT t, n ∈ ns) : t.put (renum ns) = t.ren fun n => ns.idxOf n :=
  put_congr t fun n hn => if_pos (h n hn)
/-- renamed ones are the same told plain -/
theorem plain_ren {r : Nat → Nat} {t : Ty} (hr : ∀ a b, a ∈ numT t → b ∈ numT t → r a = r b → a = b) : (t.ren r).put (renum (numsIn [t.ren r])) = t.put (renum (numsIn [t])) := by
  rw [numsIn_ren hr, ren_put]
  refine put_congr t fun n hn => ?_
  have hm : n ∈ numsIn [t] := by rw [numsIn_mem, allNums_one]; exact hn
  have hr' : ∀ a b, a ∈ numsIn [t] → b ∈ numsIn [t] → r a = r b → a = b := fun a b ha hb => by
    rw [numsIn_mem, allNums_one] at ha hb
    exact hr a b ha hb
  unfold renum
  rw [if_pos (List.mem_map_of_mem hm), if_pos hm, idx_map hr' hm]
  rfl
theorem idx_inj {l : List Nat} {a b : Nat} (ha : a ∈ l) (hb : b ∈ l) (h : l.idxOf a = l.idxOf b) : a = b := by
  have h1 : l.idxOf a < l.length := List.idxOf_lt_length_of_mem ha
  have h2 : l.idxOf b < l.length := List.idxOf_lt_length_of_mem hb
  have e1 : l[l.idxOf a] = a := List.getElem_idxOf h1
  have e2 : l[l.idxOf b] = b := List.getElem_idxOf h2
  rw [← e1, ← e2]
  simp only [h]
theorem plain_inj {t : Ty} : ∀ a b, a ∈ numT t → b ∈ numT t → (numsIn [t]).idxOf a = (numsIn [t]).idxOf b → a = b := fun a b ha hb h =>
  idx_inj (by rw [numsIn_mem, allNums_one]; exact ha) (by rw [numsIn_mem, allNums_one]; exact hb) h
theorem plain_eq_ren (t : Ty) : t.put (renum (numsIn [t])) = t.ren fun n => (numsIn [t]).idxOf n :=
  plain_as_ren fun n hn => by rw [numsIn_mem, allNums_one]; exact hn
theorem plain_plain (t : Ty) : (t.put (renum (numsIn [t]))).put (renum (numsIn [t.put (renum (numsIn [t]))])) = t.put (renum (numsIn [t])) := by
  rw [plain_eq_ren t]
  rw [plain_ren plain_inj, plain_eq_ren]
theorem map_idx : ∀ {l : List Nat}, l.Nodup → l.map (fun n => l.idxOf n) = List.range l.length := by
  intro l h
  apply List.ext_getElem
  · simp
  · intro i h1 h2
    rw [List.length_map] at h1
    rw [List.getElem_map, List.getElem_range]
    exact h.idxOf_getElem i h1
theorem plain_nums (t : Ty) : numsIn [t.put (renum (numsIn [t]))] = List.range (numsIn [t]).length := by
  rw [plain_eq_ren t, numsIn_ren plain_inj]
  exact map_idx (numsIn_nodup [t])
theorem nums_twice (t : Ty) : numsIn [t, t] = numsIn [t] := by
  rw [numsIn_eq, numsIn_eq, allNums_cons, allNums_one, addAll_append]
  exact addAll_absorb fun x hx => addAll_mem.mpr (.inr hx)
end Wy

set_option Elab.async false
set_option linter.all false
set_option maxRecDepth 100000
set_option maxHeartbeats 1000000
/-! Wy, part Z: calls (a def that may ask repr; keywords alone; a def that stands in a local and raises); is of data and bools; zip of tuples walked. -/
namespace Wy
open PySem PySem.Spec L2 RZ
/-! ### x is True, x is False of data -/
def isBoolD : PyData → Bool → Bool
  | .bool c, b => c == b
  | _, _ => false
def rIsBD (K : PySem.W.Frag) : R2 := fun x y H Q => ∃ (d : PyData) (b : Bool), Dx K H x d ∧ y = .bl b ∧ Q (.bl (isBoolD d b)) H
theorem op_isBD {X : Cx} : OpR X (compareOp .Is) (rIsBD X.K) := by
  intro pins s σ H x y v u Q I rx ry h
  obtain ⟨d, b, hd, rfl, q⟩ := h
  cases (show u = Value.bool b from ry)
  cases hd with
  | non =>
    cases rx
    exact PySem.wpAny_is_other rfl (fun z => nomatch z) ⟨.bl false, H, I, rfl, q⟩
  | bl c =>
    cases rx
    by_cases e : c = b
    · subst e
      exact PySem.wpAny_is_self rfl ⟨.bl true, H, I, rfl, by simpa [isBoolD] using q⟩
    · exact PySem.wpAny_is_other rfl (fun z => e (Value.bool.inj z)) ⟨.bl false, H, I, rfl, (by
        have z : isBoolD (.bool c) b = false := by
          show (c == b) = false
          exact beq_eq_false_iff_ne.mpr e
        rw [z] at q
        exact q)⟩
  | int i =>
    obtain ⟨t, rfl⟩ := rx
    exact PySem.wpAny_is_other rfl (fun z => nomatch z) ⟨.bl false, H, I, rfl, q⟩
  | str i =>
    obtain ⟨t, rfl⟩ := rx
    exact PySem.wpAny_is_other rfl (fun z => nomatch z) ⟨.bl false, H, I, rfl, q⟩
  | lst h1 h2 =>
    cases rx
    exact PySem.wpAny_is_other rfl (fun z => nomatch z) ⟨.bl false, H, I, rfl, q⟩
  | tup h1 h2 =>
    cases rx
    exact PySem.wpAny_is_other rfl (fun z => nomatch z) ⟨.bl false, H, I, rfl, q⟩
  | dct h1 h2 =>
    cases rx
    exact PySem.wpAny_is_other rfl (fun z => nomatch z) ⟨.bl false, H, I, rfl, q⟩
theorem paired_snoc {α β : Type} {F : α → β → Prop} {a : α} {b : β} : ∀ {l₁ : List α} {l₂ : List β}, Paired F l₁ l₂ → F a b → Paired F (l₁ ++ [a]) (l₂ ++ [b])
  | _, _, .nil, h => .cons h .nil
  | _, _, .cons h t, k => .cons h (paired_snoc t k)
/-! ### zip of tuples, walked -/
theorem walk_zipT {K : PySem.W.Frag} {a b : Addr} {xs ys : List V} {n : Nat} (hn : n = min xs.length ys.length) : Walk (ItzT K a b) n (fun H => SqT K H a xs ∧ SqT K H b ys) (YPair (fun i => xs[i]?) (fun i => ys[i]?)) := by
  subst hn
  refine ⟨fun i _ hi q => ?_, fun _ q => ⟨xs, ys, q.1, q.2, by omega⟩, fun i H v H' _ q y => ?_⟩
  · have h1 : i < xs.length := by omega
    have h2 : i < ys.length := by omega
    exact ⟨xs, ys, xs[i], ys[i], q.1, q.2, by simp [h1], by simp [h2]⟩
  · obtain ⟨T, x, z, h1, h2, h3, h4, h5⟩ := y
    exact ⟨T, x, z, h1, h2, h3, h4 xs q.1, h5 ys q.2⟩
/-! ### calls -/
section
variable {X : Cx} {CX : CXT} {k i : Nat} {f : Addr} {fd : FuncData} {ps ks : List Str} {sp : Sp} {E : XK} {x : Str} {p pos : Pos} {e : Expr} {es : List Expr} {t tk : TA} {kws : List Keyword} {g : List Value → List Value → List Value} {gV : List V → List V → List V}
theorem run_fnG {pins : List (Addr × Obj)} {σ : St} {H : Hp} {s : Shared} {Q : VK} {us : List Value} {vs : List V} (F : FnG X.prog X.w X.K X.mg X.base CX k f fd ps sp) (hr : Room k X.A) (hgu : X.A.guards = some []) (hb : Binds X.K fd ps []) (hx : Passes CX X E)
    (I : Inv X pins σ H s) (r : Vals vs us) (h : sp vs H Q E) : wpAny (model X.prog X.w) X.A (call (.ref f) us) (EP X pins σ Q) X.xe s := by
  have hl : us.length = ps.length := by rw [← r.length]; exact F.len _ _ _ _ h
  have b := hb s us I.kIn (by rw [List.append_nil]; exact hl)
  rw [List.append_nil] at b
  refine wpAny_call (codeAny_mono (F.run X.A X.stack s H ⟨us, []⟩ us vs Q E hr hgu I.env0 b r h) fun r s' hq => ?_)
  cases r with
  | error e => exact hx pins σ H s e s' I hq
  | ok fl =>
    cases fl with
    | ret u => exact I.after hq
    | next => exact False.elim hq
    | brk => exact False.elim hq
    | cont => exact False.elim hq
/-- a call of a def that may ask repr -/
theorem pe_callG (F : FnG X.prog X.w X.K X.mg X.base CX k f fd ps sp) (hr : Room k X.A) (hgu : X.A.guards = some []) (hg : Gl X x) (hm : X.mg x = some (.ref f)) (hk : PySem.W.keepIn X.K (.ref f) = true) (hb : Binds X.K fd ps []) (hx : Passes CX X E)
    (ha : PA X (e :: es) t) (hdb : (x == ("__debug__" : Str)) = false := by decide) (he : starEach (e :: es) X.env = (false, eval e X.env) :: starEach es X.env := by rfl) (hpl : (backTo pos (starEach es X.env)).any (·.1) = false := by rfl) :
    PE X (.Call (.Name x p) (e :: es) [] pos) (tCall sp [] E t) := by
  refine ⟨fun pins s σ H Q I h => ?_⟩
  refine wpAny_Call_Name_kw (ld_glob I hg hm ?_ hdb)
  refine PySem.W.callWith_K (h₀ := X.base) I.ok.mod.kin hk (thn (ha.run pos pins s σ H _ I h) fun us s1 ⟨vs, H1, I1, r, q⟩ => ⟨I1.kIn, ?_⟩) he hpl
  have q : sp (vs ++ []) H1 Q E := q
  rw [List.append_nil] at q
  exact run_fnG F hr hgu hb hx I1 r q
/-- how positional values and keywords' values stand in the parameters' order -/
structure KBg (fd : FuncData) (ps ks : List Str) (n : Nat) (g : List Value → List Value → List Value) (gV : List V → List V → List V) : Prop where
  to : ∀ (s : Shared) (us ws : List Value), us.length = n → ws.length = ks.length → BindsTo s fd ⟨us, ks.zip ws⟩ (ps.zip (g us ws))
  rel : ∀ {vs : List V} {us : List Value} {zs : List V} {ws : List Value}, Vals vs us → Vals zs ws → Vals (gV vs zs) (g us ws)
theorem kb_of {K : PySem.W.Frag} {qual : Str} {params : Arguments} {body : List Stmt} {scope : Scope} {n : Nat} (F : FunD K x qual params body scope [] [] f fd)
    (h : ∀ (kV doc pm : Value) (an : Option Addr) (cdv ct : Value) (us ws : List Value), us.length = n → ws.length = ks.length → bindArgs (PySem.W.fnOf x qual params body scope .none kV doc pm an cdv ct) ⟨us, ks.zip ws⟩ = pure (ps.zip (us ++ ws))) :
    KBg fd ps ks n (fun us ws => us ++ ws) (fun vs zs => vs ++ zs) := by
  refine ⟨fun s us ws h1 h2 => ?_, fun a b => a.append b⟩
  obtain ⟨oc, od, dV, kV, doc, pm, an, cdv, ct, osl, rfl, lk, hcd, hD, hK⟩ := F.ex
  rcases hD with ⟨_, rfl⟩ | ⟨e, _⟩
  · exact .of_eq (h kV doc pm an cdv ct us ws h1 h2)
  · exact absurd rfl e
def tCallKg (sp : Sp) (n m : Nat) (gV : List V → List V → List V) (E : XK) (t tk : TA) : TE := fun σ H Q => t σ H fun vs H1 => vs.length = n ∧ tk σ H1 fun zs H2 => zs.length = m ∧ sp (gV vs zs) H2 Q E
variable {n : Nat}
theorem run_fnKg {pins : List (Addr × Obj)} {σ : St} {H : Hp} {s : Shared} {Q : VK} {us ws : List Value} {vs zs : List V} (F : FnOk X.prog X.w X.K X.mg X.base CX k f fd ps sp) (hr : Room k X.A) (hb : KBg fd ps ks n g gV) (hx : Passes CX X E)
    (I : Inv X pins σ H s) (r : Vals vs us) (rz : Vals zs ws) (l1 : vs.length = n) (l2 : zs.length = ks.length) (h : sp (gV vs zs) H Q E) : wpAny (model X.prog X.w) X.A (call (.ref f) us (ks.zip ws)) (EP X pins σ Q) X.xe s := by
  have b := hb.to s us ws (r.length.symm.trans l1) (rz.length.symm.trans l2)
  refine wpAny_call (codeAny_mono (F.run X.A X.stack s H ⟨us, ks.zip ws⟩ (g us ws) (gV vs zs) Q E hr I.env0 b (hb.rel r rz) h) fun r s' hq => ?_)
  cases r with
  | error e => exact hx pins σ H s e s' I hq
  | ok fl =>
    cases fl with
    | ret u => exact I.after hq
    | next => exact False.elim hq
    | brk => exact False.elim hq
    | cont => exact False.elim hq
/-- f(k = v, ..) -/
theorem pe_callK0 (F : FnOk X.prog X.w X.K X.mg X.base CX k f fd ps sp) (hr : Room k X.A) (hg : Gl X x) (hm : X.mg x = some (.ref f)) (hk : PySem.W.keepIn X.K (.ref f) = true) (hb : KBg fd ps ks 0 g gV) (hx : Passes CX X E)
    (hkw : PK X kws tk) (hall : (backToKw pos (keywordEach kws X.env)).all (·.1.isSome) = true := by rfl) (hks : (backToKw pos (keywordEach kws X.env)).filterMap (·.1) = ks := by rfl)
    (hdb : (x == ("__debug__" : Str)) = false := by decide) (hpl : ((backTo pos (starEach [] X.env)).any (·.1) || (backToKw pos (keywordEach kws X.env)).any (·.1.isNone)) = false := by rfl) :
    PE X (.Call (.Name x p) [] kws pos) (tCallKg sp 0 ks.length gV E tNil tk) := by
  refine ⟨fun pins s σ H Q I h => ?_⟩
  refine wpAny_Call_Name_kw (ld_glob I hg hm ?_ hdb)
  refine PySem.W.callWith_KW0 (h₀ := X.base) I.ok.mod.kin hk hall ?_ hpl
  obtain ⟨_, h⟩ := h
  refine thn (hkw.run pos pins s σ H _ I h) fun ws s2 ⟨zs, H2, I2, rz, l2, q2⟩ => ⟨I2.kIn, ?_⟩
  rw [hks]
  exact run_fnKg (us := []) (vs := []) F hr hb hx I2 .nil rz rfl l2 q2
/-- f(e, .., k = v, ..) -/
theorem pe_callKg (F : FnOk X.prog X.w X.K X.mg X.base CX k f fd ps sp) (hr : Room k X.A) (hg : Gl X x) (hm : X.mg x = some (.ref f)) (hk : PySem.W.keepIn X.K (.ref f) = true) (hb : KBg fd ps ks n g gV) (hx : Passes CX X E)
    (ha : PA X (e :: es) t) (hkw : PK X kws tk) (hall : (backToKw pos (keywordEach kws X.env)).all (·.1.isSome) = true := by rfl) (hks : (backToKw pos (keywordEach kws X.env)).filterMap (·.1) = ks := by rfl)
    (hdb : (x == ("__debug__" : Str)) = false := by decide) (he : starEach (e :: es) X.env = (false, eval e X.env) :: starEach es X.env := by rfl)
    (hpl : ((backTo pos (starEach (e :: es) X.env)).any (·.1) || (backToKw pos (keywordEach kws X.env)).any (·.1.isNone)) = false := by rfl) :
    PE X (.Call (.Name x p) (e :: es) kws pos) (tCallKg sp n ks.length gV E t tk) := by
  refine ⟨fun pins s σ H Q I h => ?_⟩
  refine wpAny_Call_Name_kw (ld_glob I hg hm ?_ hdb)
  refine PySem.W.callWith_KW (h₀ := X.base) I.ok.mod.kin hk hall (thn (ha.run pos pins s σ H _ I h) fun us s1 ⟨vs, H1, I1, r, l1, q⟩ => ?_) hpl he
  refine thn (hkw.run pos pins s1 σ H1 _ I1 q) fun ws s2 ⟨zs, H2, I2, rz, l2, q2⟩ => ⟨I2.kIn, ?_⟩
  rw [hks]
  exact run_fnKg F hr hb hx I2 r rz l1 l2 q2
/-! ### a def that stands in a local, and raises -/
structure HeldX (P : Program) (w : World) (K : PySem.W.Frag) (mg : Str → Option Value) (base : Heap) (k : Nat) (f : Addr) (sp : Sp) : Prop where
  ex : ∃ (fd : FuncData) (ps : List Str), FnOk P w K mg base (L2.CX P w) k f fd ps sp ∧ PySem.W.keepIn K (.ref f) = true ∧ Binds K fd ps []
def tCallAX (i : Nat) (S : Addr → Sp → Prop) (E : St → XK) (t : TA) : TE := fun σ H Q => ∃ f sp, σ[i]? = some (some (.ref f)) ∧ S f sp ∧ t σ H fun vs H1 => sp vs H1 Q (E σ)
theorem pe_callAX {S : Addr → Sp → Prop} {E : St → XK} (A : ∀ f sp, S f sp → HeldX X.prog X.w X.K X.mg X.base k f sp) (hr : Room k X.A) (hx : ∀ σ, PassesAt (L2.CX X.prog X.w) X σ (E σ)) (hN : X.N[i]? = some x) (hv : Vis X.env.scope x) (ha : PA X (e :: es) t)
    (hdb : (x == ("__debug__" : Str)) = false := by decide) (hcd : (x == ("__classdict__" : Str)) = false := by decide)
    (he : starEach (e :: es) X.env = (false, eval e X.env) :: starEach es X.env := by rfl) (hpl : (backTo pos (starEach es X.env)).any (·.1) = false := by rfl) : PE X (.Call (.Name x p) (e :: es) [] pos) (tCallAX i S E t) := by
  refine ⟨fun pins s σ H Q I h => ?_⟩
  obtain ⟨f, sp, hs, hS, ht⟩ := h
  obtain ⟨fd, ps, F, hk, hb⟩ := (A f sp hS).ex
  refine wpAny_Call_Name_kw (thn ((pe_var (pos := p) hN hv hdb hcd).run pins s σ H (fun v H1 => v = .ref f ∧ H1 = H) I ⟨.ref f, hs, rfl, rfl⟩) fun u s1 ⟨v, H1, I1, r1, q1⟩ => ?_)
  obtain ⟨rfl, rfl⟩ := q1
  cases r1
  refine PySem.W.callWith_K (h₀ := X.base) I.ok.mod.kin hk (thn (ha.run pos pins s1 σ _ _ I1 ht) fun us s2 ⟨vs, H2, I2, r, q⟩ => ⟨I2.kIn, ?_⟩) he hpl
  exact run_fnS F hr hb (hx σ) I2 r q
end
end Wy
namespace Wy
open PySem PySem.Spec L2 RZ
/-! ### data at most so deep, without dicts; no list ends in a text -/
def endStr (ds : List PyData) : Bool := match ds.getLast? with
  | some (.str _) => true
  | _ => false
def okd : Nat → PyData → Bool
  | 0, d => match d with
    | .list _ => false
    | .tuple _ => false
    | .dict _ => false
    | _ => true
  | n + 1, d => match d with
    | .list ds => !endStr ds && (decide (ds.length ≤ 100000) && ds.all (okd n))
    | .tuple ds => decide (ds.length ≤ 100000) && ds.all (okd n)
    | .dict _ => false
    | _ => true
def isSeqD : PyData → Bool
  | .list _ => true
  | .tuple _ => true
  | _ => false
theorem kit_seq {K : PySem.W.Frag} (d : PyData) : PySem.W.kitAny K (.type (tyD d)) [.type "list", .type "tuple"] = some (isSeqD d) := by
  have h : ∀ m ∈ ["NoneType", "bool", "int", "str", "list", "tuple", "dict"], kitB m "list" = some (m == "list") ∧ kitB m "tuple" = some (m == "tuple") := by decide +kernel
  obtain ⟨a, b⟩ := h _ (tyD_mem d)
  have a' := kit_ty (K := K) a
  have b' := kit_ty (K := K) b
  simp only [PySem.W.kitAny, a', b']
  cases d <;> rfl
theorem okd_seq {n : Nat} {ds : List PyData} (h : okd n (.list ds) = true) : ∃ n', n = n' + 1 ∧ endStr ds = false ∧ ds.length ≤ 100000 ∧ ∀ d ∈ ds, okd n' d = true := by
  cases n with
  | zero => cases h
  | succ n =>
    obtain ⟨h1, h2⟩ := Bool.and_eq_true_iff.mp (show (!endStr ds && (decide (ds.length ≤ 100000) && ds.all (okd n))) = true from h)
    obtain ⟨h2, h3⟩ := Bool.and_eq_true_iff.mp h2
    exact ⟨n, rfl, by simpa using h1, of_decide_eq_true h2, fun d hd => List.all_eq_true.mp h3 d hd⟩
theorem okd_tup {n : Nat} {ds : List PyData} (h : okd n (.tuple ds) = true) : ∃ n', n = n' + 1 ∧ ds.length ≤ 100000 ∧ ∀ d ∈ ds, okd n' d = true := by
  cases n with
  | zero => cases h
  | succ n =>
    obtain ⟨h2, h3⟩ := Bool.and_eq_true_iff.mp (show (decide (ds.length ≤ 100000) && ds.all (okd n)) = true from h)
    exact ⟨n, rfl, of_decide_eq_true h2, fun d hd => List.all_eq_true.mp h3 d hd⟩
theorem okd_mono : ∀ {n m : Nat} {d : PyData}, n ≤ m → okd n d = true → okd m d = true
  | 0, 0, d, _, h => h
  | 0, m + 1, d, _, h => by
    cases d <;> first | rfl | cases h
  | n + 1, 0, d, e, h => absurd e (by omega)
  | n + 1, m + 1, d, e, h => by
    have e' : n ≤ m := by omega
    cases d with
    | list ds =>
      obtain ⟨n', e1, h1, hl, h2⟩ := okd_seq h
      obtain rfl : n = n' := by omega
      show (!endStr ds && (decide (ds.length ≤ 100000) && ds.all (okd m))) = true
      rw [h1, decide_eq_true hl, Bool.not_false, Bool.true_and, Bool.true_and, List.all_eq_true]
      exact fun d hd => okd_mono e' (h2 d hd)
    | tuple ds =>
      obtain ⟨n', e1, hl, h2⟩ := okd_tup h
      obtain rfl : n = n' := by omega
      show (decide (ds.length ≤ 100000) && ds.all (okd m)) = true
      rw [decide_eq_true hl, Bool.true_and, List.all_eq_true]
      exact fun d hd => okd_mono e' (h2 d hd)
    | dict es => cases h
    | _ => rfl
theorem endStr_tys (ts : List Ty) : endStr (Ty.toDs ts) = false := by
  unfold endStr
  split
  · rename_i x e
    rw [toDs_map, List.getLast?_map] at e
    obtain ⟨t, _, e⟩ := Option.map_eq_some_iff.mp e
    cases t <;> cases e
  · rfl
mutual
theorem okd_ty : ∀ t : Ty, t.ok = true → okd (2 * t.deep + 1) t.toD = true
  | .unk n, _ => rfl
  | .kind k ts, ok => by
    rw [Ty.toD, Ty.deep, show 2 * (1 + Ty.deeps ts) + 1 = (2 * Ty.deeps ts + 2) + 1 by omega]
    have h : okd (2 * Ty.deeps ts + 2) (.list (Ty.toDs ts)) = true := by
      have h1 : endStr (Ty.toDs ts) = false := endStr_tys ts
      have h2 : ∀ d ∈ Ty.toDs ts, okd (2 * Ty.deeps ts + 1) d = true := okd_each ts (oks_sides (t := .kind k ts) ok)
      have h3 : (Ty.toDs ts).length ≤ 100000 := by
        rw [toDs_map, List.length_map]
        exact Nat.le_trans (sides_three (t := .kind k ts) ok) (by decide)
      show (!endStr (Ty.toDs ts) && (decide ((Ty.toDs ts).length ≤ 100000) && (Ty.toDs ts).all (okd (2 * Ty.deeps ts + 1)))) = true
      rw [h1, decide_eq_true h3, Bool.not_false, Bool.true_and, Bool.true_and, List.all_eq_true]
      exact h2
    show (decide (3 ≤ 100000) && [PyData.str "kind", .str k, .list (Ty.toDs ts)].all (okd (2 * Ty.deeps ts + 2))) = true
    simp only [List.all_cons, List.all_nil, Bool.and_true]
    rw [show okd (2 * Ty.deeps ts + 2) (PyData.str "kind") = true from rfl, show okd (2 * Ty.deeps ts + 2) (PyData.str k) = true from rfl, Bool.true_and, Bool.true_and, h]
    rfl
theorem okd_each : ∀ ts : List Ty, Ty.oks ts = true → ∀ d ∈ Ty.toDs ts, okd (2 * Ty.deeps ts + 1) d = true
  | [], _, d, h => by cases h
  | t :: ts, ok, d, h => by
    obtain ⟨o1, o2⟩ := Bool.and_eq_true_iff.mp (show (t.ok && Ty.oks ts) = true from ok)
    rw [Ty.toDs] at h
    rw [Ty.deeps]
    rcases List.mem_cons.mp h with rfl | h
    · exact okd_mono (by omega) (okd_ty t o1)
    · exact okd_mono (by omega) (okd_each ts o2 d h)
end
theorem okd_tys {ts : List Ty} (ok : Ty.oks ts = true) (hl : ts.length ≤ 100000) : okd (2 * Ty.deeps ts + 2) (.list (Ty.toDs ts)) = true := by
  have h2 : ∀ d ∈ Ty.toDs ts, okd (2 * Ty.deeps ts + 1) d = true := okd_each ts ok
  show (!endStr (Ty.toDs ts) && (decide ((Ty.toDs ts).length ≤ 100000) && (Ty.toDs ts).all (okd (2 * Ty.deeps ts + 1)))) = true
  rw [endStr_tys, toDs_map, List.length_map, decide_eq_true hl, ← toDs_map, Bool.not_false, Bool.true_and, Bool.true_and, List.all_eq_true]
  exact h2
theorem okd_nums {n : Nat} {ns : List Nat} (h : ns.length ≤ 100000) : okd (n + 1) (.list (ns.map fun (n : Nat) => PyData.int (n : Int))) = true := by
  have h1 : endStr (ns.map fun (n : Nat) => PyData.int (n : Int)) = false := by
    unfold endStr
    split
    · rename_i x e
      rw [List.getLast?_map] at e
      obtain ⟨t, _, e⟩ := Option.map_eq_some_iff.mp e
      cases e
    · rfl
  show (!endStr _ && (decide (_ ≤ 100000) && List.all _ (okd n))) = true
  rw [h1, List.length_map, decide_eq_true h, Bool.not_false, Bool.true_and, Bool.true_and, List.all_eq_true]
  intro d hd
  obtain ⟨m, _, rfl⟩ := List.mem_map.mp hd
  cases n <;> rfl
theorem okd_list12 {n : Nat} {ds : List PyData} (h : ∀ d ∈ ds, okd n d = true) (hl : ds.length ≤ 100000) (he : endStr ds = false) : okd (n + 1) (.list ds) = true := by
  show (!endStr ds && (decide (ds.length ≤ 100000) && ds.all (okd n))) = true
  rw [he, decide_eq_true hl, Bool.not_false, Bool.true_and, Bool.true_and, List.all_eq_true]
  exact h
/-! ### trees whose lists are changed -/
/-- all is kept but what stands at S -/
def Out (S : List Addr) (H H' : Hp) : Prop := ∀ b o, b ∉ S → H b = some o → H' b = some o
theorem Out.refl (S : List Addr) (H : Hp) : Out S H H := fun _ _ _ e => e
theorem Out.trans {S T : List Addr} {A B C : Hp} (h1 : Out S A B) (h2 : Out T B C) : Out (S ++ T) A C := fun b o n e =>
  h2 b o (fun z => n (List.mem_append_right _ z)) (h1 b o (fun z => n (List.mem_append_left _ z)) e)
theorem Out.of_same {S : List Addr} {A B : Hp} (h : Same A B) : Out S A B := fun b o _ e => h b o e
theorem Out.sub {S T : List Addr} {A B : Hp} (h : Out S A B) (k : ∀ a ∈ S, a ∈ T) : Out T A B := fun b o n e => h b o (fun z => n (k b z)) e
/-- what is kept of what was there ahead -/
theorem Out.same {S : List Addr} {F A B : Hp} (h : Out S A B) (s : Same F A) (k : ∀ a ∈ S, F a = none) : Same F B := fun b o e =>
  h b o (fun z => by rw [k b z] at e; cases e) (s b o e)
theorem sqT_kept {K : PySem.W.Frag} {S : List Addr} {H H' : Hp} {a : Addr} {xs : List V} (o : Out S H H') (hS : ∀ a ∈ S, ∃ l, H a = some (.lst l)) (h : SqT K H a xs) : SqT K H' a xs := by
  rcases h with (h | ⟨u, h⟩) | h
  · refine .inl (.inl (o _ _ (fun z => ?_) h))
    obtain ⟨l, e⟩ := hS a z
    rw [h] at e
    cases e
  · refine .inl (.inr ⟨u, o _ _ (fun z => ?_) h⟩)
    obtain ⟨l, e⟩ := hS a z
    rw [h] at e
    cases e
  · exact .inr h
mutual
theorem Tr.kept {K : PySem.W.Frag} {sh : V → PyData → Prop} {S0 : List Addr} {H H' : Hp} (o : Out S0 H H') (hS : ∀ a ∈ S0, ∃ l, H a = some (.lst l)) : ∀ {v : V} {d : PyData} {S : List Addr}, Tr K sh H v d S → (∀ a ∈ S, a ∉ S0) → Tr K sh H' v d S
  | _, _, _, .sh h, _ => .sh h
  | _, _, _, .bl b, _ => .bl b
  | _, _, _, .int i, _ => .int i
  | _, _, _, .str x, _ => .str x
  | _, _, _, .tup h t, n => .tup (sqT_kept o hS h) (TrAll.kept o hS t n)
  | _, _, _, .lst h t m, n => .lst (o _ _ (n _ (List.mem_cons_self ..)) h) (TrAll.kept o hS t fun a ha => n a (List.mem_cons_of_mem _ ha)) m
theorem TrAll.kept {K : PySem.W.Frag} {sh : V → PyData → Prop} {S0 : List Addr} {H H' : Hp} (o : Out S0 H H') (hS : ∀ a ∈ S0, ∃ l, H a = some (.lst l)) : ∀ {vs : List V} {ds : List PyData} {S : List Addr}, TrAll K sh H vs ds S → (∀ a ∈ S, a ∉ S0) → TrAll K sh H' vs ds S
  | _, _, _, .nil, _ => .nil
  | _, _, _, .cons h t m, n => .cons (Tr.kept o hS h fun a ha => n a (List.mem_append_left _ ha)) (TrAll.kept o hS t fun a ha => n a (List.mem_append_right _ ha)) m
end
end Wy

set_option Elab.async false
set_option linter.all false
set_option maxRecDepth 100000
set_option maxHeartbeats 1000000
/-! Wy, part O: displays of data, read as a whole; M tells which objects change (the purse's), the data stands outside of them. -/
namespace Wy
open PySem PySem.Spec L2
theorem same_rfl {H : Hp} : Same H H := fun _ _ e => e
def outM (M : Addr → Bool) (H : Hp) : Hp := fun b => if M b = true then none else H b
/-- what changes are lists -/
def Occ (M : Addr → Bool) (H : Hp) : Prop := ∀ b, M b = true → ∃ l, H b = some (.lst l)
theorem outM_sub {M : Addr → Bool} {H : Hp} : Same (outM M H) H := fun b o e => by
  unfold outM at e
  split at e
  · cases e
  · exact e
theorem outM_same {M : Addr → Bool} {H H' : Hp} (s : Same H H') : Same (outM M H) (outM M H') := fun b o e => by
  unfold outM at e ⊢
  split at e
  · cases e
  · rename_i h
    rw [if_neg h]
    exact s _ _ e
theorem Occ.mono {M : Addr → Bool} {H H' : Hp} (h : Occ M H) (s : Same H H') : Occ M H' := fun b hb => by
  obtain ⟨l, e⟩ := h b hb
  exact ⟨l, s _ _ e⟩
theorem Occ.new {M : Addr → Bool} {H : Hp} (h : Occ M H) {p : Addr} (hp : H p = none) : M p ≠ true := fun z => by
  obtain ⟨l, e⟩ := h p z
  rw [hp] at e
  cases e
theorem outM_new {M : Addr → Bool} {H H' : Hp} {p : Addr} {o : HO} (h : Occ M H) (hp : H p = none) (e : H' p = some o) : outM M H' p = some o := by
  unfold outM
  rw [if_neg (h.new hp)]
  exact e
theorem outM_one {H : Hp} {p : Addr} : outM (fun b => decide (b = p)) H = outA H p := by
  funext b
  unfold outM outA
  by_cases h : b = p
  · rw [if_pos (decide_eq_true h), if_pos h]
  · rw [if_neg (by simpa using h), if_neg h]
theorem occ_one {H : Hp} {p : Addr} (h : ∃ l, H p = some (.lst l)) : Occ (fun b => decide (b = p)) H := fun b hb => by
  rw [of_decide_eq_true hb]
  exact h
theorem outM_no {H : Hp} : outM (fun _ => false) H = H := by
  funext b
  exact if_neg Bool.false_ne_true
theorem occ_no {H : Hp} : Occ (fun _ => false) H := fun b hb => by cases hb
/-- te makes data d, where F is kept -/
def DR (K : PySem.W.Frag) (M : Addr → Bool) (te : TE) (σ : St) (F : Hp) (d : PyData) : Prop := ∀ (H : Hp) (Q : VK), Occ M H → Same F (outM M H) → (∀ v H', Same H H' → Dx K (outM M H') v d → Q v H') → te σ H Q
def DRA (K : PySem.W.Frag) (M : Addr → Bool) (ta : TA) (σ : St) (F : Hp) (ds : List PyData) : Prop := ∀ (H : Hp) (Q : List V → Hp → Prop), Occ M H → Same F (outM M H) → (∀ vs H', Same H H' → DxAll K (outM M H') vs ds → Q vs H') → ta σ H Q
section
variable {K : PySem.W.Frag} {M : Addr → Bool} {σ : St} {F : Hp} {te t1 t2 : TE} {ta : TA} {d : PyData} {ds es : List PyData}
theorem dr_non : DR K M (tC .non) σ F .none := fun H Q _ _ q => q _ H same_rfl .non
theorem dr_str {x : Str} : DR K M (tC (.str x)) σ F (.str x) := fun H Q _ _ q => q _ H same_rfl (.str x)
theorem dr_int {i : Int} : DR K M (tC (.int i)) σ F (.int i) := fun H Q _ _ q => q _ H same_rfl (.int i)
theorem dr_bl {b : Bool} : DR K M (tC (.bl b)) σ F (.bool b) := fun H Q _ _ q => q _ H same_rfl (.bl b)
theorem dr_sub {i j : Int} : DR K M (tOp (rI0 fun a b => .int (a - b)) (tC (.int i)) (tC (.int j))) σ F (.int (i - j)) := fun H Q _ _ q => ⟨_, _, rfl, rfl, q _ H same_rfl (.int _)⟩
theorem dr_dict : DR K M tDNewK σ F (.dict []) := fun H Q o _ q d hd => q _ _ (same_new hd _) (.dct (outM_new o hd upd_same) .nil)
theorem dr_var {i : Nat} {v : V} (h : σ[i]? = some (some v)) (hd : Dx K F v d) : DR K M (tVar i) σ F d := fun H Q _ s q => ⟨v, h, q v H same_rfl (hd.mono s)⟩
theorem dra_nil : DRA K M tNil σ F [] := fun H Q _ _ q => q [] H same_rfl .nil
theorem dra_cons (h : DR K M te σ F d) (t : DRA K M ta σ F ds) : DRA K M (tCons te ta) σ F (d :: ds) := fun H Q o s q =>
  h H _ o s fun v H1 s1 hv => t H1 _ (o.mono s1) (s.trans (outM_same s1)) fun vs H2 s2 hvs => q (v :: vs) H2 (s1.trans s2) (.cons (hv.mono (outM_same s2)) hvs)
theorem dr_lst (h : DRA K M ta σ F ds) (hl : ds.length ≤ 100000) : DR K M (tLst ta) σ F (.list ds) := fun H Q o s q =>
  h H _ o s fun vs H1 s1 hvs => ⟨small _ (by rw [hvs.length]; exact hl), fun p hp => q (.ref p) _ (s1.trans (same_new hp _)) (.lst (SqL.of (outM_new (o.mono s1) hp upd_same)) (hvs.mono (outM_same (same_new hp _))))⟩
theorem dr_tup (h : DRA K M ta σ F ds) (hl : ds.length ≤ 100000) : DR K M (tTup ta) σ F (.tuple ds) := fun H Q o s q =>
  h H _ o s fun vs H1 s1 hvs => ⟨small _ (by rw [hvs.length]; exact hl), fun p hp => q (.ref p) _ (s1.trans (same_new hp _)) (.tup (SqT.of (outM_new (o.mono s1) hp upd_same)) (hvs.mono (outM_same (same_new hp _))))⟩
theorem seq_outM {H : Hp} {a : Addr} {xs : List V} (h : SqL K (outM M H) a xs) : SqL K H a xs := outM_sub.seq h
theorem dr_cat (h1 : DR K M t1 σ F (.list ds)) (h2 : DR K M t2 σ F (.list es)) (hl : ds.length + es.length ≤ 100000) : DR K M (tOp (rCatS K) t1 t2) σ F (.list (ds ++ es)) := fun H Q o s q =>
  h1 H _ o s fun v H1 s1 hv => h2 H1 _ (o.mono s1) (s.trans (outM_same s1)) fun u H2 s2 hu => by
    obtain ⟨a, xs, rfl, ha, hxs⟩ := hv.lst_inv
    obtain ⟨b, ys, rfl, hb, hys⟩ := hu.lst_inv
    refine ⟨a, b, xs, ys, rfl, rfl, s2.seq (seq_outM ha), seq_outM hb, small _ (by rw [hxs.length, hys.length]; exact hl), fun p hp => ?_⟩
    have s3 := same_new hp (.lst (xs ++ ys))
    exact q _ _ (s1.trans (s2.trans s3)) (.lst (SqL.of (outM_new (o.mono (s1.trans s2)) hp upd_same)) (((hxs.mono (outM_same s2)).append hys).mono (outM_same s3)))
theorem dxall_rep {H : Hp} {vs : List V} (h : DxAll K H vs ds) : ∀ n : Nat, DxAll K H (List.replicate n vs).flatten (List.replicate n ds).flatten
  | 0 => .nil
  | n + 1 => by
    rw [List.replicate_succ, List.replicate_succ, List.flatten_cons, List.flatten_cons]
    exact h.append (dxall_rep h n)
theorem dr_rep {k : Int} (h : DRA K M ta σ F ds) (hl : ds.length ≤ 100) (h0 : 0 ≤ k) (hk : k ≤ 100) : DR K M (tOp rRep (tLst ta) (tC (.int k))) σ F (.list (List.replicate k.toNat ds).flatten) := fun H Q o s q =>
  h H _ o s fun vs H1 s1 hvs => ⟨small _ (by rw [hvs.length]; omega), fun l hl0 => by
    have s2 := same_new hl0 (.lst vs)
    have hk2 : k.toNat ≤ 100 := by omega
    refine ⟨l, k, vs, rfl, rfl, upd_same, by omega, by omega, small _ ?_, fun p hp => ?_⟩
    · rw [hvs.length]
      exact Nat.le_trans (Nat.mul_le_mul hl hk2) (by decide)
    · have s3 := same_new hp (.lst (List.replicate k.toNat vs).flatten)
      exact q _ _ (s1.trans (s2.trans s3)) (.lst (SqL.of (outM_new (o.mono (s1.trans s2)) hp upd_same)) ((dxall_rep hvs _).mono (outM_same (s2.trans s3))))⟩
/-- x = te; rest -/
theorem dr_seq {i : Nat} {rest : TS} {D : Ends} {H : Hp} (h : DR K M te σ F d) (o : Occ M H) (s : Same F (outM M H)) (q : ∀ v H', Same H H' → Dx K (outM M H') v d → rest D (σ.set i (some v)) H') : tSeq (tAsg te (gName i)) rest D σ H := h H _ o s q
theorem dr_ret {D : Ends} {H : Hp} (h : DR K M te σ F d) (o : Occ M H) (s : Same F (outM M H)) (q : ∀ v H', Same H H' → Dx K (outM M H') v d → D.rt v H') : tRet te D σ H := h H _ o s q
end
end Wy

set_option Elab.async false
set_option linter.all false
set_option maxRecDepth 100000
set_option maxHeartbeats 1000000
/-! Wy, part N: data that repr shows: how long, how deep. -/
namespace Wy
open PySem PySem.Spec L2
def Nice (n m : Nat) (d : PyData) : Prop := d.showable = true ∧ d.shown.length ≤ n ∧ d.depth ≤ m
theorem Nice.le {n m n' m' : Nat} {d : PyData} (h : Nice n m d) (a : n ≤ n') (b : m ≤ m') : Nice n' m' d := ⟨h.1, Nat.le_trans h.2.1 a, Nat.le_trans h.2.2 b⟩
theorem all_nice {n m : Nat} : ∀ {ds : List PyData}, (∀ d ∈ ds, Nice n m d) → PyData.showableAll ds = true ∧ piled (PyData.shownAll ds) ≤ ds.length * (n + 2) ∧ PyData.depthAll ds ≤ m ∧ (PyData.shownAll ds).length = ds.length
  | [], _ => by simp [PyData.showableAll, PyData.shownAll, PyData.depthAll, piled]
  | d :: ds, h => by
    obtain ⟨a, b, c, e⟩ := all_nice (ds := ds) fun x hx => h x (List.mem_cons_of_mem _ hx)
    obtain ⟨a1, b1, c1⟩ := h d (List.mem_cons_self ..)
    refine ⟨by simp [PyData.showableAll, a, a1], ?_, ?_, by simp [PyData.shownAll, e]⟩
    · simp only [PyData.shownAll, piled, List.map_cons, List.sum_cons, List.length_cons]
      have z : ((PyData.shownAll ds).map fun t => t.length + 2).sum ≤ ds.length * (n + 2) := b
      have e2 : (ds.length + 1) * (n + 2) = ds.length * (n + 2) + (n + 2) := Nat.succ_mul _ _
      omega
    · simp only [PyData.depthAll]
      omega
theorem textFrom_le : ∀ (ts : List Str) (k : Nat) (acc : Str), (textFrom k acc ts).length ≤ acc.length + piled ts
  | [], k, acc => Nat.le_add_right _ _
  | t :: r, k, acc => by
    have h := textFrom_le r (k + 1) (acc ++ (if k > 0 then ", " else "" : String) ++ t)
    have e : (acc ++ (if k > 0 then ", " else "" : String) ++ t).length ≤ acc.length + 2 + t.length := by
      rw [strLen_append, strLen_append]
      split
      · exact Nat.le_refl _
      · show acc.length + 0 + t.length ≤ _
        omega
    have e2 : piled (t :: r) = (t.length + 2) + piled r := by simp [piled]
    show (textFrom (k + 1) _ r).length ≤ _
    omega
theorem nice_list {n m c : Nat} {ds : List PyData} (h : ∀ d ∈ ds, Nice n m d) (hc : ds.length ≤ c) : Nice (c * (n + 2) + 5) (m + 1) (.list ds) := by
  obtain ⟨a, b, e, _⟩ := all_nice h
  refine ⟨by simpa [PyData.showable] using a, ?_, by simp only [PyData.depth]; omega⟩
  simp only [PyData.shown, listText]
  rw [strLen_append]
  have z := textFrom_le (PyData.shownAll ds) 0 "["
  have y : ds.length * (n + 2) ≤ c * (n + 2) := Nat.mul_le_mul_right _ hc
  have u : (("[" : String) : Str).length = 1 := rfl
  have u2 : (("]" : String) : Str).length = 1 := rfl
  omega
theorem join_le (ts : List Str) : (Str.join ", " ts).length ≤ piled ts := by
  by_cases h : ts = []
  · subst h
    exact Nat.zero_le _
  · have := join_length_add ts h
    omega
theorem nice_tuple {n m c : Nat} {ds : List PyData} (h : ∀ d ∈ ds, Nice n m d) (hc : ds.length ≤ c) : Nice (c * (n + 2) + 5) (m + 1) (.tuple ds) := by
  obtain ⟨a, b, e, _⟩ := all_nice h
  refine ⟨by simpa [PyData.showable] using a, ?_, by simp only [PyData.depth]; omega⟩
  simp only [PyData.shown, tupleText]
  rw [strLen_append, strLen_append]
  have z := join_le (PyData.shownAll ds)
  have y : ds.length * (n + 2) ≤ c * (n + 2) := Nat.mul_le_mul_right _ hc
  have u : (("(" : String) : Str).length = 1 := rfl
  have u2 : ((if (PyData.shownAll ds).length == 1 then ",)" else ")" : String) : Str).length ≤ 2 := by
    split <;> decide
  omega
theorem nice_dict {n m : Nat} {d : PyData} (h : Nice n m d) (hm : 1 ≤ m) : Nice (n + 20) (m + 1) (.dict [(.str "a", d)]) := by
  obtain ⟨a, b, c⟩ := h
  refine ⟨by simp [PyData.showable, PyData.showableKv, a], ?_, ?_⟩
  · simp only [PyData.shown, PyData.shownKv, dictText]
    rw [strLen_append, strLen_append]
    have e : (reprText "a").length = 3 := by decide +kernel
    have z := join_le [reprText "a" ++ ": " ++ d.shown]
    have z2 : piled [reprText "a" ++ ": " ++ d.shown] = (reprText "a" ++ ": " ++ d.shown).length + 2 := by simp [piled]
    have z3 : (reprText "a" ++ ": " ++ d.shown).length = 3 + 2 + d.shown.length := by
      rw [strLen_append, strLen_append, e]
      rfl
    have u : (("{" : String) : Str).length = 1 := rfl
    have u2 : (("}" : String) : Str).length = 1 := rfl
    omega
  · simp only [PyData.depth, PyData.depthKv]
    omega

theorem tupleText_le (ts : List Str) : (tupleText ts).length ≤ piled ts + 3 := by
  unfold tupleText
  rw [strLen_append, strLen_append]
  have z := join_le ts
  have u : (("(" : String) : Str).length = 1 := rfl
  have u2 : ((if ts.length == 1 then ",)" else ")" : String) : Str).length ≤ 2 := by
    split <;> decide
  omega
theorem listText_le (ts : List Str) : (listText ts).length ≤ piled ts + 2 := by
  unfold listText
  rw [strLen_append]
  have z := textFrom_le ts 0 "["
  have u : (("[" : String) : Str).length = 1 := rfl
  have u2 : (("]" : String) : Str).length = 1 := rfl
  omega
theorem nice_non : Nice 20 1 .none := ⟨rfl, by decide +kernel, by decide +kernel⟩
theorem nice_str {x : Str} {n : Nat} (h : (reprText x).length ≤ n) : Nice n 1 (.str x) := ⟨rfl, by simpa only [PyData.shown] using h, by simp [PyData.depth]⟩
theorem nice_int {i : Int} (h0 : 0 ≤ i) (h : i < 1000000) : Nice 7 1 (.int i) := by
  refine ⟨?_, ?_, by simp [PyData.depth]⟩
  · simp only [PyData.showable, decide_eq_true_eq]
    by_cases z : i.natAbs = 0
    · rw [z]
      decide
    · exact Nat.lt_trans ((Nat.log2_lt z).mpr (Nat.lt_of_lt_of_le (show i.natAbs < 1000000 by omega) (show 1000000 ≤ 2 ^ 20 by decide))) (by decide)
  · simp only [PyData.shown]
    exact Nat.le_trans (PyProof.Rows.toString_length_le h0 (by decide) (show i < 10 ^ 6 by omega)) (by decide)
theorem repr_kind {k : Str} (h : kindD (.str k) = true) : (reprText k).length ≤ 82 := by
  rcases Bool.or_eq_true_iff.mp (show (houseL.contains k || nameS k) = true from h) with h | h
  · have : k ∈ houseL := by simpa using h
    simp only [houseL, List.mem_cons, List.not_mem_nil, or_false] at this
    rcases this with rfl | rfl | rfl | rfl <;> decide +kernel
  · obtain ⟨h1, _⟩ := Bool.and_eq_true_iff.mp (show (wordS k && !closedL.contains k) = true from h)
    obtain ⟨_, h1⟩ := Bool.and_eq_true_iff.mp (show (decide (0 < k.cps.size) && (decide (k.cps.size ≤ 8) && k.cps.toList.all signB)) = true from h1)
    obtain ⟨h1, h2⟩ := Bool.and_eq_true_iff.mp h1
    have h1 : k.length ≤ 8 := of_decide_eq_true h1
    have := StrLaws.reprText_len k fun c hc => by
      have z := List.all_eq_true.mp h2 c hc
      obtain ⟨_, z⟩ := Bool.and_eq_true_iff.mp (show (decide (97 ≤ c) && decide (c ≤ 122)) = true from z)
      have := of_decide_eq_true z
      omega
    omega
mutual
theorem nice_ty2 : ∀ t : Ty, t.ok = true → (∀ n ∈ numT t, n < 1000000) → Nice (200 * t.size - 2) (2 * t.deep + 2) t.toD
  | .unk n, _, hn => by
    have h := hn n (List.mem_singleton_self n)
    have a : Nice 9 1 (.str "unknown") := nice_str (by decide +kernel)
    have b : Nice 7 1 (.int (n : Int)) := nice_int (by omega) (by omega)
    refine (nice_tuple (n := 9) (m := 1) (c := 2) (fun d hd => ?_) (Nat.le_refl _)).le (by simp only [Ty.size]; omega) (by simp only [Ty.deep]; omega)
    rcases List.mem_cons.mp hd with rfl | hd
    · exact a
    · rw [List.mem_singleton.mp hd]
      exact b.le (by decide) (Nat.le_refl _)
  | .kind k ts, ok, hn => by
    rw [numT_kind] at hn
    obtain ⟨a, b, c, _⟩ := piled_tys ts (oks_sides (t := .kind k ts) ok) hn
    have hk : kindD (.str k) = true := (Bool.and_eq_true_iff.mp (show (kindD (.str k) && (decide (ts.length ≤ 3) && Ty.oks ts)) = true from ok)).1
    have hr := repr_kind hk
    have e0 : (reprText "kind").length = 6 := by decide +kernel
    rw [Ty.toD]
    refine ⟨by simp [PyData.showable, PyData.showableAll, a], ?_, by simp only [PyData.depth, PyData.depthAll, Ty.deep]; omega⟩
    simp only [PyData.shown, PyData.shownAll]
    have z := tupleText_le [reprText "kind", reprText k, listText (PyData.shownAll (Ty.toDs ts))]
    have y : piled [reprText "kind", reprText k, listText (PyData.shownAll (Ty.toDs ts))] = (reprText "kind").length + 2 + ((reprText k).length + 2 + ((listText (PyData.shownAll (Ty.toDs ts))).length + 2)) := by simp [piled]
    have x := listText_le (PyData.shownAll (Ty.toDs ts))
    simp only [Ty.size]
    omega
theorem piled_tys : ∀ ts : List Ty, Ty.oks ts = true → (∀ n ∈ allNums ts, n < 1000000) → PyData.showableAll (Ty.toDs ts) = true ∧ piled (PyData.shownAll (Ty.toDs ts)) ≤ 200 * Ty.sizes ts ∧ PyData.depthAll (Ty.toDs ts) ≤ 2 * Ty.deeps ts + 2 ∧ True
  | [], _, _ => by simp [PyData.showableAll, PyData.shownAll, PyData.depthAll, piled, Ty.toDs]
  | t :: ts, ok, hn => by
    obtain ⟨o1, o2⟩ := Bool.and_eq_true_iff.mp (show (t.ok && Ty.oks ts) = true from ok)
    rw [allNums_cons] at hn
    obtain ⟨a, b, c, _⟩ := piled_tys ts o2 fun n h => hn n (List.mem_append_right _ h)
    obtain ⟨a1, b1, c1⟩ := nice_ty2 t o1 fun n h => hn n (List.mem_append_left _ h)
    have p := size_pos t
    refine ⟨by simp [PyData.showableAll, Ty.toDs, a, a1], ?_, ?_, True.intro⟩
    · simp only [Ty.toDs, PyData.shownAll, piled, List.map_cons, List.sum_cons, Ty.sizes]
      have z : ((PyData.shownAll (Ty.toDs ts)).map fun t => t.length + 2).sum ≤ 200 * Ty.sizes ts := b
      omega
    · simp only [Ty.toDs, PyData.depthAll, Ty.deeps]
      omega
end
theorem nice_ty {t : Ty} (ok : t.ok = true) (hn : ∀ n ∈ numT t, n < 1000000) {s d : Nat} (hs : t.size ≤ s) (hd : t.deep ≤ d) : Nice (200 * s) (2 * d + 2) t.toD := (nice_ty2 t ok hn).le (by omega) (by omega)
theorem nice_tys {ts : List Ty} (ok : Ty.oks ts = true) (hn : ∀ n ∈ allNums ts, n < 1000000) {s d : Nat} (hs : Ty.sizes ts ≤ s) (hd : Ty.deeps ts ≤ d) : Nice (200 * s + 2) (2 * d + 3) (.list (Ty.toDs ts)) := by
  obtain ⟨a, b, c, _⟩ := piled_tys ts ok hn
  refine ⟨by simpa [PyData.showable] using a, ?_, by simp only [PyData.depth]; omega⟩
  simp only [PyData.shown, listText]
  rw [strLen_append]
  have z := textFrom_le (PyData.shownAll (Ty.toDs ts)) 0 "["
  have u : (("[" : String) : Str).length = 1 := rfl
  have u2 : (("]" : String) : Str).length = 1 := rfl
  omega
mutual
theorem toD_inj : ∀ {t u : Ty}, t.toD = u.toD → t = u
  | .unk n, .unk m, h => by
    rw [Ty.toD, Ty.toD] at h
    simp only [PyData.tuple.injEq, List.cons.injEq, PyData.int.injEq] at h
    rw [show n = m by omega]
  | .unk n, .kind k ts, h => by
    rw [Ty.toD, Ty.toD] at h
    simp at h
  | .kind k ts, .unk n, h => by
    rw [Ty.toD, Ty.toD] at h
    simp at h
  | .kind k ts, .kind k2 us, h => by
    rw [Ty.toD, Ty.toD] at h
    simp only [PyData.tuple.injEq, List.cons.injEq, PyData.str.injEq, PyData.list.injEq] at h
    obtain ⟨_, h1, h2, _⟩ := h
    rw [h1, toDs_inj h2]
theorem toDs_inj : ∀ {ts us : List Ty}, Ty.toDs ts = Ty.toDs us → ts = us
  | [], [], _ => rfl
  | [], u :: us, h => by
    rw [Ty.toDs, Ty.toDs] at h
    cases h
  | t :: ts, [], h => by
    rw [Ty.toDs, Ty.toDs] at h
    cases h
  | t :: ts, u :: us, h => by
    rw [Ty.toDs, Ty.toDs] at h
    obtain ⟨h1, h2⟩ := List.cons.inj h
    rw [toD_inj h1, toDs_inj h2]
end
/-! ### texts in types are short -/
theorem sml_kind {k : Str} (h : kindD (.str k) = true) : smlD (.str k) = true := by
  refine decide_eq_true (Nat.le_trans (show k.length ≤ 8 from ?_) (by decide))
  rcases Bool.or_eq_true_iff.mp (show (houseL.contains k || nameS k) = true from h) with h | h
  · have : k ∈ houseL := by simpa using h
    simp only [houseL, List.mem_cons, List.not_mem_nil, or_false] at this
    rcases this with rfl | rfl | rfl | rfl <;> decide +kernel
  · obtain ⟨h1, _⟩ := Bool.and_eq_true_iff.mp (show (wordS k && !closedL.contains k) = true from h)
    obtain ⟨_, h1⟩ := Bool.and_eq_true_iff.mp (show (decide (0 < k.cps.size) && (decide (k.cps.size ≤ 8) && k.cps.toList.all signB)) = true from h1)
    exact of_decide_eq_true (Bool.and_eq_true_iff.mp h1).1
mutual
theorem sml_ty : ∀ t : Ty, t.ok = true → smlD t.toD = true
  | .unk n, _ => by
    show smlAll [.str "unknown", .int (n : Int)] = true
    simp only [smlAll, smlD, Bool.and_true]
    decide +kernel
  | .kind k ts, ok => by
    have hk : kindD (.str k) = true := (Bool.and_eq_true_iff.mp (show (kindD (.str k) && (decide (ts.length ≤ 3) && Ty.oks ts)) = true from ok)).1
    show smlAll [.str "kind", .str k, .list (Ty.toDs ts)] = true
    refine smlAll_of fun d hd => ?_
    simp only [List.mem_cons, List.not_mem_nil, or_false] at hd
    rcases hd with rfl | rfl | rfl
    · decide +kernel
    · exact sml_kind hk
    · exact sml_tys ts (oks_sides (t := .kind k ts) ok)
theorem sml_tys : ∀ ts : List Ty, Ty.oks ts = true → smlAll (Ty.toDs ts) = true
  | [], _ => rfl
  | t :: ts, ok => by
    obtain ⟨o1, o2⟩ := Bool.and_eq_true_iff.mp (show (t.ok && Ty.oks ts) = true from ok)
    rw [Ty.toDs]
    simp only [smlAll, sml_ty t o1, sml_tys ts o2, Bool.and_self]
end
end Wy

set_option Elab.async false
set_option linter.all false
set_option maxRecDepth 100000
set_option maxHeartbeats 1000000
/-! Wy, part P: lists of texts compared; repr within a display. -/
namespace Wy
open PySem PySem.Spec L2
/-- two lists of the same texts -/
def rNeS (K : PySem.W.Frag) : R2 := fun x y H Q => ∃ (a b : Addr) (zs : List Str), x = .ref a ∧ y = .ref b ∧ SqL K H a (zs.map V.str) ∧ SqL K H b (zs.map V.str) ∧ Q (.bl false) H
theorem strs_vals : ∀ {zs : List Str} {us : List Value}, Vals (zs.map V.str) us → ∀ (j : Nat) (h : j < us.length), ∃ z t, zs[j]? = some z ∧ us[j] = Value.str z t
  | [], _, .nil, j, h => absurd h (Nat.not_lt_zero j)
  | z :: zs, _, .cons r rr, 0, h => by
    obtain ⟨t, e⟩ := r
    exact ⟨z, t, rfl, e⟩
  | z :: zs, _, .cons r rr, j + 1, h => by
    obtain ⟨z', t, h1, h2⟩ := strs_vals (zs := zs) rr j (Nat.lt_of_succ_lt_succ h)
    exact ⟨z', t, h1, h2⟩
theorem op_neS {X : Cx} (hu : X.A.units + 64 < cLine) : OpR X (compareOp .NotEq) (rNeS X.K) := by
  intro pins s σ H x y v u Q I rx ry h
  obtain ⟨a, b, zs, rfl, rfl, ha, hb, q⟩ := h
  cases rx
  cases ry
  obtain ⟨its, r, p1, _⟩ := I.list ha
  obtain ⟨its2, r2, p2, _⟩ := I.list hb
  have e1 := r.length
  have e2 := r2.length
  have key := PySem.SeqAt.RcNeAt.lists (A := X.A) (e := fun _ => true) p1.isList p2.isList (by rw [List.size_toArray, List.size_toArray]; omega) (by omega) (fun j h1 h2 => by
    rw [List.size_toArray] at h1 h2
    obtain ⟨z, t, hz, h3⟩ := strs_vals r j h1
    obtain ⟨z', t', hz', h4⟩ := strs_vals r2 j h2
    obtain rfl : z = z' := Option.some.inj (hz.symm.trans hz')
    rw [List.getElem_toArray, List.getElem_toArray, h3, h4]
    have := PySem.SeqAt.EqAt.str_str (A := X.A.in1) (s := s) z t z t'
    rw [beq_self_eq_true] at this
    exact this)
  refine key _ _ _ _ ?_
  rw [show (!(List.range its.toArray.size).all fun _ => true) = false by simp]
  exact ⟨.bl false, H, I, rfl, q⟩
section
variable {K : PySem.W.Frag} {M : Addr → Bool} {σ : St} {F : Hp} {te : TE} {d : PyData}
theorem dr_repr (h : DR K M te σ F d) {n m : Nat} (hn : Nice n m d) (h1 : n ≤ 16000000) (h2 : m ≤ 60) : DR K M (tCB (rRepr K) (tCons te tNil)) σ F (.str d.shown) := fun H Q o s q =>
  h H _ o s fun v H1 s1 hv => ⟨v, d, rfl, hv.mono outM_sub, hn.1, Nat.le_trans (Nat.le_trans hn.2.1 h1) (by decide), Nat.le_trans hn.2.2 h2, q _ H1 s1 (.str _)⟩
end
end Wy

set_option Elab.async false
set_option linter.all false
set_option maxRecDepth 100000
set_option maxHeartbeats 1000000
/-! Wy, part Q: displays that make trees of new lists; trees seen outside of what changes. -/
namespace Wy
open PySem PySem.Spec L2
theorem sqT_outM {K : PySem.W.Frag} {M : Addr → Bool} {H : Hp} {a : Addr} {xs : List V} (o : Occ M H) (h : SqT K H a xs) : SqT K (outM M H) a xs := by
  have no : ∀ u : HO, H a = some u → (∀ l, u ≠ .lst l) → outM M H a = some u := fun u e n => by
    unfold outM
    rw [if_neg]
    · exact e
    · intro z
      obtain ⟨l, e2⟩ := o a z
      rw [e] at e2
      exact n l (Option.some.inj e2)
  rcases h with (h | ⟨u, h⟩) | h
  · exact .inl (.inl (no _ h fun l z => nomatch z))
  · exact .inl (.inr ⟨u, no _ h fun l z => nomatch z⟩)
  · exact .inr h
mutual
theorem Tr.outM {K : PySem.W.Frag} {sh : V → PyData → Prop} {M : Addr → Bool} {H : Hp} (o : Occ M H) : ∀ {v : V} {d : PyData} {S : List Addr}, Tr K sh H v d S → (∀ a ∈ S, M a ≠ true) → Tr K sh (outM M H) v d S
  | _, _, _, .sh h, _ => .sh h
  | _, _, _, .bl b, _ => .bl b
  | _, _, _, .int i, _ => .int i
  | _, _, _, .str x, _ => .str x
  | _, _, _, .tup h t, n => .tup (sqT_outM o h) (TrAll.outM o t n)
  | _, _, _, .lst h t m, n => .lst (by
      unfold Wy.outM
      rw [if_neg (n _ (List.mem_cons_self ..))]
      exact h) (TrAll.outM o t fun a ha => n a (List.mem_cons_of_mem _ ha)) m
theorem TrAll.outM {K : PySem.W.Frag} {sh : V → PyData → Prop} {M : Addr → Bool} {H : Hp} (o : Occ M H) : ∀ {vs : List V} {ds : List PyData} {S : List Addr}, TrAll K sh H vs ds S → (∀ a ∈ S, M a ≠ true) → TrAll K sh (outM M H) vs ds S
  | _, _, _, .nil, _ => .nil
  | _, _, _, .cons h t m, n => .cons (Tr.outM o h fun a ha => n a (List.mem_append_left _ ha)) (TrAll.outM o t fun a ha => n a (List.mem_append_right _ ha)) m
end
/-- all made anew -/
def shN : V → PyData → Prop := fun _ _ => False
/-- a tree of new lists, as data outside of what changes -/
theorem Tr.data {K : PySem.W.Frag} {M : Addr → Bool} {H H' : Hp} {v : V} {d : PyData} {S : List Addr} (o : Occ M H) (s : Same H H') (h : Tr K (fun _ _ => False) H' v d S) (n : ∀ a ∈ S, H a = none) : Dx K (Wy.outM M H') v d :=
  Tr.dx (sh := fun _ _ => False) (fun _ _ z => False.elim z) (Tr.outM (o.mono s) h fun a ha => o.new (n a ha))
theorem TrAll.data {K : PySem.W.Frag} {M : Addr → Bool} {H H' : Hp} {vs : List V} {ds : List PyData} {S : List Addr} (o : Occ M H) (s : Same H H') (h : TrAll K (fun _ _ => False) H' vs ds S) (n : ∀ a ∈ S, H a = none) : DxAll K (Wy.outM M H') vs ds :=
  TrAll.dx (sh := fun _ _ => False) (fun _ _ z => False.elim z) (TrAll.outM (o.mono s) h fun a ha => o.new (n a ha))
theorem tr_ints {K : PySem.W.Frag} {H : Hp} : ∀ ns : List Int, TrAll K (fun _ _ => False) H (ns.map V.int) (ns.map PyData.int) []
  | [] => .nil
  | n :: ns => .cons (S := []) (T := []) (.int n) (tr_ints ns) (fun _ z => by cases z)
/-- te makes a tree of new lists -/
def TR (K : PySem.W.Frag) (M : Addr → Bool) (te : TE) (σ : St) (F : Hp) (d : PyData) : Prop := ∀ (H : Hp) (Q : VK), Occ M H → Same F (outM M H) → (∀ v S H', Same H H' → Tr K (fun _ _ => False) H' v d S → (∀ a ∈ S, H a = none) → Q v H') → te σ H Q
def TRA (K : PySem.W.Frag) (M : Addr → Bool) (ta : TA) (σ : St) (F : Hp) (ds : List PyData) : Prop := ∀ (H : Hp) (Q : List V → Hp → Prop), Occ M H → Same F (outM M H) → (∀ vs S H', Same H H' → TrAll K (fun _ _ => False) H' vs ds S → (∀ a ∈ S, H a = none) → Q vs H') → ta σ H Q
section
variable {K : PySem.W.Frag} {M : Addr → Bool} {σ : St} {F : Hp} {te t1 t2 : TE} {ta : TA} {d : PyData} {ds es : List PyData}
theorem tra_nil : TRA K M tNil σ F [] := fun H Q _ _ q => q [] [] H same_rfl .nil (fun _ z => by cases z)
theorem tra_cons (h : TR K M te σ F d) (t : TRA K M ta σ F ds) : TRA K M (tCons te ta) σ F (d :: ds) := fun H Q o s q =>
  h H _ o s fun v S H1 s1 hv hS => t H1 _ (o.mono s1) (s.trans (outM_same s1)) fun vs T H2 s2 hvs hT => q (v :: vs) (S ++ T) H2 (s1.trans s2) (.cons (hv.mono s2) hvs fun a ha z => by
    obtain ⟨l, e⟩ := Tr.there hv a ha
    rw [hT a z] at e
    cases e) fun a ha => (List.mem_append.mp ha).elim (hS a) fun z => s1.free (hT a z)
theorem tr_lst (h : TRA K M ta σ F ds) (hl : ds.length ≤ 100000) : TR K M (tLst ta) σ F (.list ds) := fun H Q o s q =>
  h H _ o s fun vs S H1 s1 hvs hS => ⟨small _ (by rw [hvs.length]; exact hl), fun p hp => q (.ref p) (p :: S) _ (s1.trans (same_new hp _)) (.lst upd_same (hvs.mono (same_new hp _)) fun z => by
    obtain ⟨l, e⟩ := TrAll.there hvs p z
    rw [hp] at e
    cases e) fun a ha => (List.mem_cons.mp ha).elim (fun z => by rw [z]; exact s1.free hp) (hS a)⟩
theorem TR.dr (h : TR K M te σ F d) : DR K M te σ F d := fun H Q o s q => h H Q o s fun v S H' s' hv hS => q v H' s' (Tr.data o s' hv hS)
theorem tr_seq {i : Nat} {rest : TS} {D : Ends} {H : Hp} (h : TR K M te σ F d) (o : Occ M H) (s : Same F (outM M H)) (q : ∀ v S H', Same H H' → Tr K (fun _ _ => False) H' v d S → (∀ a ∈ S, H a = none) → rest D (σ.set i (some v)) H') : tSeq (tAsg te (gName i)) rest D σ H := h H _ o s q
theorem dr_seqG {g : TG} {rest : TS} {D : Ends} {H : Hp} (h : DR K M te σ F d) (o : Occ M H) (s : Same F (outM M H)) (q : ∀ v H', Same H H' → Dx K (outM M H') v d → g v σ H' fun σ2 H2 => rest D σ2 H2) : tSeq (tAsg te g) rest D σ H := h H _ o s q
theorem dr_ix {k : Nat} (h : DR K M te σ F (.list ds)) (hk : ds[k]? = some d) : DR K M (tOp (rIxL K) te (tC (.int (k : Int)))) σ F d := fun H Q o s q =>
  h H _ o s fun v H1 s1 hv => by
    obtain ⟨a, xs, rfl, ha, hxs⟩ := hv.lst_inv
    obtain ⟨y, hy, hd⟩ := hxs.get' hk
    exact ⟨a, xs, (k : Int), y, rfl, rfl, seq_outM ha, atI_nat hy, q y H1 s1 hd⟩
theorem dr_disp1 {k : Str} {i : Int} : DR K M (tDisp [(tC (.str k), tC (.int i))]) σ F (.dict [(.str k, .int i)]) := fun H Q o s q p hp => by
  refine ⟨upd_same, [((Sum.inr k : Key), V.int i)], rfl, Nat.le_of_ble_eq_true rfl, q _ _ ?_ (.dct (outM_new o hp upd_same) (.cons (k := Sum.inr k) (.int i) .nil))⟩
  intro b u e
  rw [upd_ne (ne_of_none e hp)]
  exact same_new hp _ _ _ e
end
end Wy

set_option Elab.async false
set_option linter.all false
set_option maxRecDepth 100000
set_option maxHeartbeats 1000000
/-! Wy, part R: tests over displays, whose answer is known. -/
namespace Wy
open PySem PySem.Spec L2
def numsD (ns : List Nat) : PyData := .list (ns.map fun (n : Nat) => PyData.int (n : Int))
/-- tt is b, where F is kept -/
def DT (K : PySem.W.Frag) (M : Addr → Bool) (tt : TT) (σ : St) (F : Hp) (b : Bool) : Prop := ∀ (H : Hp) (Qb : Bool → Hp → Prop), Occ M H → Same F (outM M H) → (∀ H', Same H H' → Qb b H') → tt σ H Qb
section
variable {K : PySem.W.Frag} {M : Addr → Bool} {σ : St} {F : Hp} {te t1 t2 : TE} {ta : TA} {tt tu : TT} {d : PyData} {ds es : List PyData}
theorem dr_c {v : V} (hd : Dx K F v d) : DR K M (tC v) σ F d := fun H Q _ s q => q v H same_rfl (hd.mono s)
theorem dt_if1 {a : TS} {D : Ends} {H : Hp} (h : DT K M tt σ F false) (o : Occ M H) (s : Same F (outM M H)) (q : ∀ H', Same H H' → D.nx σ H') : tIfS tt a tNext D σ H :=
  h H _ o s fun H' s' => by
    rw [if_neg Bool.false_ne_true]
    exact q H' s'
/-- the first item of a display changes what M tells of; then as if it were written -/
theorem if_moved {P : V → Hp → Prop} {sp : Sp} {teA : TE} {tb tc : TA} {t3 : TT} {a rest : TS} {D : Ends} {H : Hp} (hA : ∀ Q : VK, (∀ v H', P v H' → Q v H') → teA σ H Q) (h : ∀ v H', P v H' → tSeq (tIfS (tOr (tNot (tB (tCall sp [] E0 (tCons (tLst (tCons (tC v) tb)) tc)))) t3) a tNext) rest D σ H') :
    tSeq (tIfS (tOr (tNot (tB (tCall sp [] E0 (tCons (tLst (tCons teA tb)) tc)))) t3) a tNext) rest D σ H := hA _ fun v H' p => h v H' p
theorem dr_for {tl : TE} {i : Nat} {tb rest : TS} {D : Ends} {H : Hp} (Ps : St → Prop) (h : DR K M tl σ F (.list ds)) (o : Occ M H) (s : Same F (outM M H)) (h0 : Ps σ) (hset : ∀ σ' v, Ps σ' → Ps (σ'.set i (some v)))
    (step : ∀ v d σ' H', d ∈ ds → Ps σ' → Same H H' → Dx K (outM M H') v d → ∀ D' : Ends, D'.rt = D.rt → (∀ H'', Same H' H'' → D'.nx (σ'.set i (some v)) H'') → tb D' (σ'.set i (some v)) H') (q : ∀ σ' H', Ps σ' → Same H H' → rest D σ' H') :
    tSeq (tFor (iList K tl) (gName i) tb) rest D σ H := by
  refine h H _ o s fun v H1 s1 hv => ?_
  obtain ⟨a, xs, rfl, ha, hxs⟩ := hv.lst_inv
  have ha' := seq_outM ha
  refine ⟨a, rfl, ⟨xs, ha'⟩, for_list (xs := xs) (fun j σ' H' => Ps σ' ∧ Same H1 H') ⟨h0, same_rfl⟩ (fun j σ' H' _ z => z.2.seq ha') ?_ ?_⟩
  · rintro j v σ' H' hj ⟨z1, z2⟩
    obtain ⟨d, hd, hvd⟩ := hxs.get hj
    exact step v d σ' H' (List.mem_of_getElem? hd) z1 (s1.trans z2) (hvd.mono (outM_same z2)) _ rfl fun H'' s' => ⟨hset _ _ z1, z2.trans s'⟩
  · rintro σ' H' ⟨z1, z2⟩
    exact q σ' H' z1 (s1.trans z2)
theorem dr_retB {tt : TE} {D : Ends} {H : Hp} {sp : Sp} (h : ∀ (Q : VK), (∀ H', Same H H' → Q (.bl true) H') → tt σ H Q) (q : ∀ H', D.rt (.bl true) H') : tRet tt D σ H := h _ fun H' _ => q H'
theorem dr_retCat {D : Ends} {H : Hp} (h1 : DR K M t1 σ F (.list ds)) (h2 : DR K M t2 σ F (.list es)) (hl : ds.length + es.length ≤ 100000) (o : Occ M H) (s : Same F (outM M H))
    (q : ∀ p xs H', Same H H' → H p = none → H' p = some (.lst xs) → DxAll K (outM M H') xs (ds ++ es) → D.rt (.ref p) H') : tRet (tOp (rCatS K) t1 t2) D σ H :=
  h1 H _ o s fun v H1 s1 hv => h2 H1 _ (o.mono s1) (s.trans (outM_same s1)) fun u H2 s2 hu => by
    obtain ⟨a, xs, rfl, ha, hxs⟩ := hv.lst_inv
    obtain ⟨b, ys, rfl, hb, hys⟩ := hu.lst_inv
    refine ⟨a, b, xs, ys, rfl, rfl, s2.seq (seq_outM ha), seq_outM hb, small _ (by rw [hxs.length, hys.length]; exact hl), fun p hp => ?_⟩
    have s3 := same_new hp (.lst (xs ++ ys))
    exact q p _ _ (s1.trans (s2.trans s3)) ((s1.trans s2).free hp) upd_same (((hxs.mono (outM_same s2)).append hys).mono (outM_same s3))
theorem dt_or (h1 : DT K M tt σ F false) (h2 : DT K M tu σ F false) : DT K M (tOr tt tu) σ F false := fun H Qb o s q =>
  h1 H _ o s fun H1 s1 => (by
    rw [if_neg Bool.false_ne_true]
    exact h2 H1 _ (o.mono s1) (s.trans (outM_same s1)) fun H2 s2 => q H2 (s1.trans s2))
theorem dt_not {b : Bool} (h : DT K M tt σ F b) : DT K M (tNot tt) σ F (!b) := fun H Qb o s q => h H _ o s q
theorem dt_ne {x : Str} (h1 : DR K M t1 σ F (.str x)) (h2 : DR K M t2 σ F (.str x)) : DT K M (tTest (tOp rNe t1 t2)) σ F false := fun H Qb o s q =>
  h1 H _ o s fun v H1 s1 hv => h2 H1 _ (o.mono s1) (s.trans (outM_same s1)) fun u H2 s2 hu => by
    obtain rfl := hv.str_inv
    obtain rfl := hu.str_inv
    refine ⟨rfl, _, rfl, ?_⟩
    rw [show (!decide (V.str x = V.str x)) = false by simp]
    exact q H2 (s1.trans s2)
theorem dt_if {a : TS} {rest : TS} {D : Ends} {H : Hp} (h : DT K M tt σ F false) (o : Occ M H) (s : Same F (outM M H)) (q : ∀ H', Same H H' → rest D σ H') : tSeq (tIfS tt a tNext) rest D σ H :=
  h H _ o s fun H' s' => by
    rw [if_neg Bool.false_ne_true]
    exact q H' s'
theorem dxall_map {α : Type} {H : Hp} {f : α → V} {g : α → PyData} (h : ∀ i, Dx K H (f i) (g i)) : ∀ l : List α, DxAll K H (l.map f) (l.map g)
  | [] => .nil
  | x :: l => .cons (h x) (dxall_map h l)
theorem dpall_ints {H : Hp} : ∀ {ns : List Nat} {xs : List V}, DxAll K H xs (ns.map fun (n : Nat) => PyData.int (n : Int)) → DpAll K H xs (ns.map fun (n : Nat) => PyData.int (n : Int))
  | [], _, .nil => .nil
  | n :: ns, _, .cons h t => by
    cases h
    exact .cons (.int _) (dpall_ints t)
theorem lay_ints : ∀ ns : List Nat, PyData.canLayAll0 (ns.map fun (n : Nat) => PyData.int (n : Int)) = true
  | [] => rfl
  | n :: ns => by
    rw [List.map_cons, PyData.canLayAll0, lay_ints ns]
    rfl
theorem depth_ints : ∀ ns : List Nat, PyData.depthAll (ns.map fun (n : Nat) => PyData.int (n : Int)) = 0
  | [] => rfl
  | n :: ns => by
    rw [List.map_cons, PyData.depthAll, depth_ints ns]
    rfl
theorem lay_nums (ns : List Nat) : (numsD ns).canLay0 = true := by
  unfold numsD
  rw [PyData.canLay0]
  exact lay_ints ns
theorem shaped_nums (ns : List Nat) : SeqAt.shaped (numsD ns) = true := by
  unfold SeqAt.shaped
  rw [lay_nums, Bool.true_and]
  refine decide_eq_true ?_
  unfold numsD
  rw [PyData.depth, depth_ints]
  decide
theorem dt_neN {ns : List Nat} (h1 : DR K M t1 σ F (numsD ns)) (h2 : DR K M t2 σ F (numsD ns)) : DT K M (tTest (tOp (rNeD K) t1 t2)) σ F false := fun H Qb o s q =>
  h1 H _ o s fun v H1 s1 hv => h2 H1 _ (o.mono s1) (s.trans (outM_same s1)) fun u H2 s2 hu => by
    obtain ⟨a, xs, rfl, ha, hxs⟩ := ((hv.mono outM_sub).mono s2).lst_inv
    obtain ⟨b, ys, rfl, hb, hys⟩ := (hu.mono outM_sub).lst_inv
    refine ⟨numsD ns, numsD ns, .lst ha (dpall_ints hxs), .lst hb (dpall_ints hys), shaped_nums ns, shaped_nums ns, _, rfl, ?_⟩
    rw [SeqAt.eqv_refl _ (lay_nums ns)]
    exact q H2 (s1.trans s2)
theorem dr_rangeLen (h : DR K M te σ F (.list ds)) (hl : ds.length ≤ 100000) : DR K M (tLstRg (tRg1 (tCB (fun xs H Q => ∃ x n, xs = [x] ∧ LenV K x H n ∧ Q (.int n) H) (tCons te tNil)))) σ F (numsD (List.range ds.length)) := fun H Q o s q =>
  h H _ o s fun v H1 s1 hv => by
    obtain ⟨a, xs, rfl, ha, hxs⟩ := hv.lst_inv
    have e := hxs.length
    refine ⟨_, _, rfl, .inl ⟨xs, seq_outM ha, rfl⟩, _, rfl, RgOk.of_le (by decide) (by omega) (by decide) (by omega), fun l hl0 => ?_⟩
    refine q _ _ (s1.trans (same_new hl0 _)) (.lst (SqL.of (outM_new (o.mono s1) hl0 upd_same)) ?_)
    unfold rgV
    have e2 : ((xs.length : Int) - 0).toNat = ds.length := by omega
    rw [e2]
    refine dxall_map (fun i => ?_) _
    rw [Int.zero_add]
    exact .int _
end
end Wy

set_option Elab.async false
set_option linter.all false
set_option maxRecDepth 100000
set_option maxHeartbeats 1000000
/-! Wy, part K: a head's facts about own exceptions, as Bool checks. -/
namespace Wy
open PySem PySem.Spec L2 PySem.W
/-! ### the head's facts -/
theorem ba {a b : Bool} (h : (a && b) = true) : a = true ∧ b = true := Bool.and_eq_true_iff.mp h
def shapeB (K : Frag) (C : Addr) : Bool := match K.lookup C with
  | some ⟨.type "type", _, .cls cd, sl⟩ => (match cd.mro, sl.toList with
    | .ref C' :: bm, [_, _, _, _, some (.builtin n), _] => C' == C && (n == "ValueError.__new__" && (!cd.hasDel && (cd.hasDict && PySem.HandSPX.refsVE bm)))
    | _, _ => false)
  | _ => false
theorem shapeB_ok {K : Frag} {C : Addr} (h : shapeB K C = true) : ∃ nm q N bs bm sn sub ab col dd k0 k1 k2 k3 k5, K.lookup C = some (excClassObj nm q C N bs bm true sn sub ab col dd k0 k1 k2 k3 k5 "ValueError.__new__") ∧ PySem.HandSPX.refsVE bm = true := by
  unfold shapeB at h
  split at h
  · rename_i dd cd sl ho
    split at h
    · rename_i C' bm k0 k1 k2 k3 n k5 hm hs
      simp only [Bool.and_eq_true, beq_iff_eq, Bool.not_eq_true'] at h
      obtain ⟨rfl, rfl, hdel, hdict, hve⟩ := h
      obtain ⟨nm, bs, mro, ns, qn, hd, sn, sub, ab, col, del⟩ := cd
      dsimp only at hm hdel hdict
      subst hm hdel hdict
      have hsl : sl = #[k0, k1, k2, k3, some (.builtin "ValueError.__new__"), k5] := by
        obtain ⟨l⟩ := sl
        simp only at hs
        rw [hs]
      subst hsl
      exact ⟨_, _, _, _, _, _, _, _, _, _, _, _, _, _, _, ho, hve⟩
    · cases h
  · cases h
def clB (K : Frag) (D C : Addr) : Bool := shapeB K C && (decide (findIn K (.ref C) "__setattr__" = some (some (.builtin "object.__setattr__"))) && (decide (nsIn K cStatics "thirdparty.any" = some none) && (decide (mroIn K C (.ref D) = some true) && decide (subIn K (.ref C) (.type "ValueError") = some true))))
theorem clB_ok {K : Frag} {D C : Addr} (h : clB K D C = true) : Cl K D C := by
  obtain ⟨h1, h⟩ := ba h
  obtain ⟨h2, h⟩ := ba h
  obtain ⟨h3, h⟩ := ba h
  obtain ⟨h4, h5⟩ := ba h
  exact ⟨shapeB_ok h1, of_decide_eq_true h2, of_decide_eq_true h3, of_decide_eq_true h4, of_decide_eq_true h5⟩
def wcB (K : Frag) (D C : Addr) : Bool := clB K D C && (decide (ks_superIn K C D "__init__" = some (some (.builtin "ValueError.__init__"))) && decide (findIn K (.ref C) "value" = some none))
theorem wcB_ok {K : Frag} {D C : Addr} (h : wcB K D C = true) : WC K D C := by
  obtain ⟨h1, h⟩ := ba h
  obtain ⟨h2, h3⟩ := ba h
  exact ⟨clB_ok h1, of_decide_eq_true h2, of_decide_eq_true h3⟩
def mkB (K : Frag) (C fI : Addr) : Bool := shapeB K C && (decide (findIn K (.ref C) "__init__" = some (some (.ref fI))) && (decide (typeIn K (.ref fI) = some (.type "function")) && keepIn K (.ref C)))
theorem mkB_ok {K : Frag} {C fI : Addr} (h : mkB K C fI = true) : MkE K C fI := by
  obtain ⟨h1, h⟩ := ba h
  obtain ⟨h2, h⟩ := ba h
  obtain ⟨h3, h4⟩ := ba h
  exact ⟨shapeB_ok h1, of_decide_eq_true h2, of_decide_eq_true h3, h4⟩
def isB (K : Frag) (D : Addr) : Bool := xfB K D && (decide (findIn K (.ref D) "__class__" = some (some (.builtin "object.__class__"))) && (decide (specialIn K (.builtin "object.__class__") "__get__" = some (some (.builtin "getset_descriptor.__get__"))) && (decide (takesIn K (.builtin "object.__class__") = some true) && decide (mroIn K D (.type "object") = some true))))
theorem isB_ok {K : Frag} {D : Addr} (h : isB K D = true) : ExcC K D ∧ XfC K D := by
  obtain ⟨h1, h⟩ := ba h
  obtain ⟨h2, h⟩ := ba h
  obtain ⟨h3, h⟩ := ba h
  obtain ⟨h4, h5⟩ := ba h
  have x := xfB_ok h1
  exact ⟨⟨x.ga, x.gg, x.exC, x.hdC, of_decide_eq_true h2, of_decide_eq_true h3, of_decide_eq_true h4, of_decide_eq_true h5⟩, x⟩
def clsBody (s : Stmt) : List Stmt := match s with
  | .ClassDef _ _ _ b _ _ _ _ _ _ _ => b
  | _ => []
abbrev FnS : Type := Option (Str × Str × Arguments × FuncBody × Scope × Addr × List Str × Addr)
def fnS (K : Frag) (f : Addr) : FnS := match K.lookup f with
  | some ⟨_, _, .func fd, _⟩ => some (fd.name, fd.qualname, fd.params, fd.body, fd.scope, fd.globals, fd.closure.map (·.1), fd.builtins)
  | _ => none
def vS (q : Str) (st : Stmt) : FnS := some ("__init__", q, defArgs st, .stmts (defBody st), defScope st, mainGlobals, ["__class__"], builtinsNs)
def supB (file : Str) (K : Frag) (D f : Addr) : Bool := match K.lookup f with
  | some ⟨_, _, .func fd, _⟩ => (match fd.closure, fd.defaults, fd.code with
    | [(_, cc)], .none, .ref cda => (match K.lookup cc with
        | some ⟨_, _, .cell (some (.ref D')), _⟩ => D' == D
        | _ => false) && ((match K.lookup cda with
        | some ⟨_, _, .fields vs, _⟩ => (match vs[2]? with
            | some (Value.str fl _) => file == fl
            | _ => false)
        | _ => false) && (codeIn K (.ref cda) fd.qualname && (clsIn K D).isSome))
    | _, _, _ => false)
  | _ => false
theorem supB_ok {P : Program} {K : Frag} {D f : Addr} {qual : Str} {params : Arguments} {body : List Stmt} {ps : List Str} {ar : Arg}
    (e : fnS K f = (some ("__init__", qual, params, FuncBody.stmts body, scSup ps, mainGlobals, ["__class__"], builtinsNs) : FnS)) (h : supB P.main.file K D f = true) (har : (params.posonlyargs ++ params.args).head? = some ar) (htop : (P.main.scope.names.lookup ("super" : Str)).isSome = false) :
    ∃ cc cda kV doc pm ct an, Sup P K D f cc cda (fnSup qual params body ps cc cda kV doc pm an ct) ar ∧ codeIn K (.ref cda) qual = true := by
  unfold fnS at e
  unfold supB at h
  cases q : K.lookup f with
  | none =>
    rw [q] at e
    cases e
  | some o =>
    obtain ⟨oc, od, dt, osl⟩ := o
    rw [q] at e h
    cases dt with
    | func fd =>
      obtain ⟨n1, n2, n3, n4, n5, n6, n7, n8, n9, n10, n11, n12, n13, n14, n15⟩ := fd
      have e2 : (some (n1, n2, n3, n4, n5, n6, n7.map (·.1), n15) : FnS) = (some ("__init__", qual, params, FuncBody.stmts body, scSup ps, mainGlobals, ["__class__"], builtinsNs) : FnS) := e
      simp only [Option.some.injEq, Prod.mk.injEq] at e2
      obtain ⟨h1, h2, h3, h4, h5, h6, h7, h8⟩ := e2
      subst h1 h2 h3 h4 h5 h6 h8
      dsimp only at h
      split at h
      · rename_i y cc cda
        obtain ⟨g1, h⟩ := ba h
        obtain ⟨g2, h⟩ := ba h
        obtain ⟨g3, g4⟩ := ba h
        obtain rfl : y = "__class__" := List.head_eq_of_cons_eq h7
        have gc : ∃ cl cld csl, K.lookup cc = some ⟨cl, cld, .cell (some (.ref D)), csl⟩ := by
          split at g1
          · rename_i D' _ z
            have zz := beq_iff_eq.mp g1
            subst zz
            exact ⟨_, _, _, z⟩
          · cases g1
        have gd : ∃ ccl cdd vs ccs file tf, K.lookup cda = some ⟨ccl, cdd, .fields vs, ccs⟩ ∧ vs[2]? = some (.str file tf) ∧ ((P.main.file : Str) == file) = true := by
          split at g2
          · rename_i vs _ z
            split at g2
            · rename_i fl tf z2
              exact ⟨_, _, _, _, _, _, z, z2, g2⟩
            · cases g2
          · cases g2
        refine ⟨cc, cda, n9, n10, n11, n14, n12, ⟨⟨oc, od, osl, q⟩, har, gc, gd, ?_, htop⟩, g3⟩
        cases z : clsIn K D with
        | none =>
          rw [z] at g4
          cases g4
        | some cd => exact ⟨cd, rfl⟩
      · cases h
    | _ => cases e
def smB (K : Frag) : Bool := match K.lookup sysModules with
  | some o => decide (o.cls = .type "dict")
  | none => false
theorem all_range {n : Nat} {p : Nat → Bool} (h : (List.range n).all p = true) {i : Nat} (hi : i < n) : p i = true := List.all_eq_true.mp h i (List.mem_range.mpr hi)
end Wy

set_option Elab.async false
set_option linter.all false
set_option maxRecDepth 100000
set_option maxHeartbeats 1000000
namespace K20
open PySem PySem.Spec L2 Wy
def top (i : Nat) : Stmt := PySem.Challenge.pw_whytypes_k20_whole_unknowns_told_plain.main.body.getD i (.Pass ⟨0, 0, 0, 0⟩)
abbrev s_is_whole : Stmt := top 8
abbrev s_is_count : Stmt := top 9
abbrev s_is_word : Stmt := top 10
abbrev s_is_name : Stmt := top 11
abbrev s_is_kind_name : Stmt := top 16
abbrev s_is_head : Stmt := top 17
abbrev s_parts_in : Stmt := top 18
abbrev s_is_type : Stmt := top 19
abbrev s_check_type : Stmt := top 20
abbrev s_all_parts : Stmt := top 21
abbrev s_numbers_in : Stmt := top 22
abbrev s_unknowns_of : Stmt := top 23
abbrev s_put_there : Stmt := top 24
abbrev s_apart : Stmt := top 25
abbrev s_plain_there : Stmt := top 26
abbrev s_plain_type : Stmt := top 27
abbrev s_plain_types : Stmt := top 28
abbrev s__law_purse : Stmt := top 30
abbrev s__law_draw : Stmt := top 31
abbrev s__law_pick : Stmt := top 32
abbrev s__law_shuffled : Stmt := top 33
abbrev s__law_same : Stmt := top 34
abbrev s__law_spoilt : Stmt := top 35
abbrev s__law_kind : Stmt := top 36
abbrev s__law_unknown : Stmt := top 37
abbrev s__law_sides : Stmt := top 38
abbrev s__law_parts : Stmt := top 39
abbrev s__law_drawn_type : Stmt := top 40
abbrev s__law_put : Stmt := top 41
abbrev s__law_numbers : Stmt := top 42
abbrev s__law_plain : Stmt := top 43
abbrev s__law_odd_types : Stmt := top 44
abbrev s__law_heard : Stmt := top 45
abbrev s__law_turned : Stmt := top 46
abbrev s_law : Stmt := top 47
/-- the defs of the text, as the top has left them -/
structure Fs (K : PySem.W.Frag) (mg : Str → Option Value) where
  f_is_whole : Addr
  fd_is_whole : FuncData
  d_is_whole : Df K mg "is_whole" s_is_whole f_is_whole fd_is_whole
  f_is_count : Addr
  fd_is_count : FuncData
  d_is_count : Df K mg "is_count" s_is_count f_is_count fd_is_count
  f_is_word : Addr
  fd_is_word : FuncData
  d_is_word : Df K mg "is_word" s_is_word f_is_word fd_is_word
  f_is_name : Addr
  fd_is_name : FuncData
  d_is_name : Df K mg "is_name" s_is_name f_is_name fd_is_name
  f_is_kind_name : Addr
  fd_is_kind_name : FuncData
  d_is_kind_name : Df K mg "is_kind_name" s_is_kind_name f_is_kind_name fd_is_kind_name
  f_is_head : Addr
  fd_is_head : FuncData
  d_is_head : Df K mg "is_head" s_is_head f_is_head fd_is_head
  f_parts_in : Addr
  fd_parts_in : FuncData
  d_parts_in : Df K mg "parts_in" s_parts_in f_parts_in fd_parts_in
  f_is_type : Addr
  fd_is_type : FuncData
  d_is_type : Df K mg "is_type" s_is_type f_is_type fd_is_type
  f_check_type : Addr
  fd_check_type : FuncData
  d_check_type : Df K mg "check_type" s_check_type f_check_type fd_check_type
  f_all_parts : Addr
  fd_all_parts : FuncData
  d_all_parts : Df K mg "all_parts" s_all_parts f_all_parts fd_all_parts
  f_numbers_in : Addr
  fd_numbers_in : FuncData
  d_numbers_in : Df K mg "numbers_in" s_numbers_in f_numbers_in fd_numbers_in
  f_unknowns_of : Addr
  fd_unknowns_of : FuncData
  d_unknowns_of : Df K mg "unknowns_of" s_unknowns_of f_unknowns_of fd_unknowns_of
  f_put_there : Addr
  fd_put_there : FuncData
  d_put_there : Df K mg "put_there" s_put_there f_put_there fd_put_there
  f_apart : Addr
  fd_apart : FuncData
  d_apart : Df K mg "apart" s_apart f_apart fd_apart
  f_plain_there : Addr
  fd_plain_there : FuncData
  d_plain_there : Df K mg "plain_there" s_plain_there f_plain_there fd_plain_there
  f_plain_type : Addr
  fd_plain_type : FuncData
  d_plain_type : Df K mg "plain_type" s_plain_type f_plain_type fd_plain_type
  f_plain_types : Addr
  fd_plain_types : FuncData
  d_plain_types : Df K mg "plain_types" s_plain_types f_plain_types fd_plain_types
  f__law_purse : Addr
  fd__law_purse : FuncData
  d__law_purse : Df K mg "_law_purse" s__law_purse f__law_purse fd__law_purse
  f__law_draw : Addr
  fd__law_draw : FuncData
  d__law_draw : Df K mg "_law_draw" s__law_draw f__law_draw fd__law_draw
  f__law_pick : Addr
  fd__law_pick : FuncData
  d__law_pick : Df K mg "_law_pick" s__law_pick f__law_pick fd__law_pick
  f__law_shuffled : Addr
  fd__law_shuffled : FuncData
  d__law_shuffled : Df K mg "_law_shuffled" s__law_shuffled f__law_shuffled fd__law_shuffled
  f__law_same : Addr
  fd__law_same : FuncData
  d__law_same : Df K mg "_law_same" s__law_same f__law_same fd__law_same
  f__law_spoilt : Addr
  fd__law_spoilt : FuncData
  d__law_spoilt : Df K mg "_law_spoilt" s__law_spoilt f__law_spoilt fd__law_spoilt
  f__law_kind : Addr
  fd__law_kind : FuncData
  d__law_kind : Df K mg "_law_kind" s__law_kind f__law_kind fd__law_kind
  f__law_unknown : Addr
  fd__law_unknown : FuncData
  d__law_unknown : Df K mg "_law_unknown" s__law_unknown f__law_unknown fd__law_unknown
  f__law_sides : Addr
  fd__law_sides : FuncData
  d__law_sides : Df K mg "_law_sides" s__law_sides f__law_sides fd__law_sides
  f__law_parts : Addr
  fd__law_parts : FuncData
  d__law_parts : Df K mg "_law_parts" s__law_parts f__law_parts fd__law_parts
  f__law_drawn_type : Addr
  fd__law_drawn_type : FuncData
  d__law_drawn_type : Df K mg "_law_drawn_type" s__law_drawn_type f__law_drawn_type fd__law_drawn_type
  f__law_put : Addr
  fd__law_put : FuncData
  d__law_put : Df K mg "_law_put" s__law_put f__law_put fd__law_put
  f__law_numbers : Addr
  fd__law_numbers : FuncData
  d__law_numbers : Df K mg "_law_numbers" s__law_numbers f__law_numbers fd__law_numbers
  f__law_plain : Addr
  fd__law_plain : FuncData
  d__law_plain : Df K mg "_law_plain" s__law_plain f__law_plain fd__law_plain
  f__law_odd_types : Addr
  fd__law_odd_types : FuncData
  d__law_odd_types : Df K mg "_law_odd_types" s__law_odd_types f__law_odd_types fd__law_odd_types
  f__law_heard : Addr
  fd__law_heard : FuncData
  d__law_heard : Df K mg "_law_heard" s__law_heard f__law_heard fd__law_heard
  f__law_turned : Addr
  fd__law_turned : FuncData
  d__law_turned : Df K mg "_law_turned" s__law_turned f__law_turned fd__law_turned
  f_law : Addr
  fd_law : FuncData
  d_law : Df K mg "law" s_law f_law fd_law
end K20

set_option Elab.async false
set_option linter.all false
set_option maxRecDepth 100000
set_option maxHeartbeats 1000000
namespace K20
open PySem PySem.Spec L2 Wy
structure Txt (K : PySem.W.Frag) (mg : Str → Option Value) : Prop where
  n_isinstance : mg "isinstance" = none
  n_int : mg "int" = none
  n_bool : mg "bool" = none
  n_str : mg "str" = none
  n_list : mg "list" = none
  n_tuple : mg "tuple" = none
  n_dict : mg "dict" = none
  n_len : mg "len" = none
  n_all : mg "all" = none
  n_range : mg "range" = none
  n_repr : mg "repr" = none
  n_zip : mg "zip" = none
  n_enumerate : mg "enumerate" = none
  c_MOST_LETTERS : ∃ u, mg "MOST_LETTERS" = some u ∧ RelV (.int 8) u
  c_MOST_PARTS : ∃ u, mg "MOST_PARTS" = some u ∧ RelV (.int 200) u
  c_MOST_SIDES : ∃ u, mg "MOST_SIDES" = some u ∧ RelV (.int 3) u
  c_CLOSED : ∃ a, mg "CLOSED" = some (.ref a) ∧ ∀ H, SqT K H a (closedL.map V.str)
  c_HOUSE_KINDS : ∃ a, mg "HOUSE_KINDS" = some (.ref a) ∧ ∀ H, SqT K H a (houseL.map V.str)
/-- the classes of errors -/
def exn : List Str := ["InvalidType", "InvalidTypes", "TooMany"]
structure Exs (P : Program) (K : PySem.W.Frag) (mg : Str → Option Value) where
  c : Nat → Addr
  cW : Addr
  fW : Addr
  dW : FuncData
  why : WhyD P K cW fW dW
  sup : mg "super" = none
  gW : mg "WhyError" = some (.ref cW)
  g : ∀ i x, exn[i]? = some x → mg x = some (.ref (c i))
  m : ∀ i, i < 3 → MkE K (c i) fW
  wc : ∀ i, i < 3 → WC K cW (c i)
  exc : ∀ i, i < 3 → ExcC K (c i)
  xf : ∀ i, i < 3 → XfC K (c i)
  val : ∀ i, i < 3 → PySem.W.findIn K (.ref (c i)) "value" = some none
  sub : ∀ i, i < 3 → PySem.W.subIn K (.ref (c i)) (.type "BaseException") = some true
  tyc : ∀ i, i < 3 → PySem.W.typeIn K (.ref (c i)) = some (.type "type")
  exm : ∀ i, i < 3 → PySem.W.exmOne K (.ref (c i)) (.ref cW) = some true
  kit : ∀ i j, i < 3 → j < 3 → PySem.W.kitOne K (.ref (c i)) (.ref (c j)) = some (i == j)
  bw : ∀ (us : List Value), us.length + 1 = (["self", "value"] : List Str).length → ∀ s' u, BindsTo s' dW ⟨u :: us, []⟩ ((["self", "value"] : List Str).zip (u :: us))
theorem Exs.GW {P : Program} {w : World} {K : PySem.W.Frag} {mg : Str → Option Value} {base : Heap} (Z : Exs P K mg) : FnOk P w K mg base CX0 1 Z.fW Z.dW ["self", "value"] (spWhy K Z.cW) := ok_why Z.why Z.sup
theorem Exs.raises {P : Program} {K : PySem.W.Frag} {mg : Str → Option Value} (Z : Exs P K mg) {X : Cx} (hK : X.K = K) (i : Nat) (hi : i < 3) : Raises X (.ref (Z.c i)) := raises_own (by rw [hK]; exact Z.sub i hi) (by rw [hK]; exact Z.tyc i hi)
section
variable {P : Program} {w : World} {K : PySem.W.Frag} {mg : Str → Option Value} {base : Heap}
/-- a def that tells of data yes or no -/
def spB (K : PySem.W.Frag) (g : PyData → Bool) : Sp := fun vs H Q _ => ∃ (v : V) (d : PyData), vs = [v] ∧ Dx K H v d ∧ smlD d = true ∧ ∀ H', Same H H' → Q (.bl (g d)) H'
theorem same_refl {H : Hp} : Same H H := fun _ _ e => e
theorem sc_is_whole : FnScope ["value"] ["value"] (defScope s_is_whole) := ⟨rfl, rfl, rfl, by decide +kernel, rfl, by decide +kernel, by decide +kernel⟩
theorem ok_is_whole (F : Fs K mg) (T : Txt K mg) (Z : Exs P K mg) : FnOk P w K mg base CX0 1 F.f_is_whole F.fd_is_whole ["value"] (spB K wholeD) := by
  have SC := sc_is_whole
  refine F.d_is_whole.fn.ok sc_is_whole (fun vs H Q E h => ?_) (fun cdv A outer s H vs Q E hr h => ?_)
  · obtain ⟨v, d, rfl, _⟩ := h; rfl
  obtain ⟨v, d, rfl, hd, hsm, q⟩ := h
  refine ⟨_, PSs.nox (pss_one (ps_ret (pe_and (pe_callB call_isD (by rfl) T.n_isinstance (by decide +kernel) (pa_cons (pv 0) (pa_cons (pe_bltn (v := .ty "int") (by rfl) T.n_int (by decide +kernel) rfl) pa_nil))) (pe_one (pe_not (pe_callB call_isD (by rfl) T.n_isinstance (by decide +kernel) (pa_cons (pv 0) (pa_cons (pe_bltn (v := .ty "bool") (by rfl) T.n_bool (by decide +kernel) rfl) pa_nil)))))))), ?_⟩
  refine ⟨_, rfl, v, d, _, rfl, hd, by decide, _, rfl, ?_⟩
  refine ite2 (fun c => ⟨_, rfl, v, d, _, rfl, hd, by decide, _, rfl, ?_⟩) (fun c => ?_)
  · cases d <;> first | exact q H same_refl | cases c
  · cases d <;> first | exact q H same_refl | exact absurd rfl c
theorem sc_is_count : FnScope ["value"] ["value"] (defScope s_is_count) := ⟨rfl, rfl, rfl, by decide +kernel, rfl, by decide +kernel, by decide +kernel⟩
theorem ok_is_count (F : Fs K mg) (T : Txt K mg) (Z : Exs P K mg) : FnOk P w K mg base CX0 2 F.f_is_count F.fd_is_count ["value"] (spB K countD) := by
  have SC := sc_is_count
  have G_is_whole : FnOk P w K mg base CX0 1 F.f_is_whole F.fd_is_whole ["value"] (spB K wholeD) := ok_is_whole F T Z
  have B_is_whole : Binds K F.fd_is_whole ["value"] [] := F.d_is_whole.fn.bindsN fun _ _ _ _ _ _ us hl => match us, hl with | [_], _ => rfl
  refine F.d_is_count.fn.ok sc_is_count (fun vs H Q E h => ?_) (fun cdv A outer s H vs Q E hr h => ?_)
  · obtain ⟨v, d, rfl, _⟩ := h; rfl
  obtain ⟨v, d, rfl, hd, hsm, q⟩ := h
  refine ⟨_, PSs.nox (pss_one (ps_ret (pe_and (pe_call G_is_whole (hr.mono (by decide)) rfl F.d_is_whole.gl F.d_is_whole.fn.kp B_is_whole .nil pass0 (pa_cons (pv 0) pa_nil)) (pe_one (pe_cmpR op_ge (pv 0) pe_int (nomark _)))))), ?_⟩
  refine ⟨_, rfl, v, d, rfl, hd, hsm, fun H1 s1 => ⟨_, rfl, ?_⟩⟩
  refine ite2 (fun c => ?_) (fun c => ?_)
  · cases hd with
    | int i =>
      refine ⟨_, rfl, _, _, rfl, rfl, ?_⟩
      exact q H1 s1
    | _ => cases c
  · cases hd with
    | int i => exact absurd rfl c
    | _ => exact q H1 s1
theorem sc_is_word : FnScope ["value", "sign"] ["value"] (defScope s_is_word) := ⟨rfl, rfl, rfl, by decide +kernel, rfl, by decide +kernel, by decide +kernel⟩
theorem ok_is_word (F : Fs K mg) (T : Txt K mg) (Z : Exs P K mg) : FnOk P w K mg base CX0 1 F.f_is_word F.fd_is_word ["value"] (spB K wordD) := by
  have SC := sc_is_word
  refine F.d_is_word.fn.ok sc_is_word (fun vs H Q E h => ?_) (fun cdv A outer s H vs Q E hr h => ?_)
  · obtain ⟨v, d, rfl, _⟩ := h; rfl
  obtain ⟨v, d, rfl, hd, hsm, q⟩ := h
  obtain ⟨uL, gL, rL⟩ := T.c_MOST_LETTERS
  refine ⟨_, PSs.nox (pss_cons (ps_if (PW.pt (pw_or (pt_not (pt_val (pe_callB call_isD (by rfl) T.n_isinstance (by decide +kernel) (pa_cons (pv 0) (pa_cons (pe_bltn (v := .ty "str") (by rfl) T.n_str (by decide +kernel) rfl) pa_nil))))) (pw_or1 (pt_not (pt_chain op_lt op_le pe_int (pe_callB call_len (by rfl) T.n_len (by decide +kernel) (pa_cons (pv 0) pa_nil)) (pe_glob (v := .int 8) rfl gL rL)))))) (pss_one (ps_ret pe_bl)) pss_nil)
    (pss_one (ps_ret (pe_callB (cr_all rfl) (by rfl) T.n_all (by decide +kernel) (pa_cons (pe_lc (own := [("sign", 1)]) (g := (gName 1)) (by rfl) SC.nd (pi_str (pv 0)) (blkOk_by (own := [("sign", 1)]) (N := ["value", "sign"]) (sc := defScope s_is_word) (by decide +kernel)) (fun _ _ _ _ _ => (pg_name (i := 1) SC.nd rfl (Or.inl rfl))) (fun _ _ _ _ _ => pts_nil) (fun _ _ _ _ _ => (pe_chain op_le_str op_le_str pe_str (pv 1) pe_str))) pa_nil))))), ?_⟩
  refine ⟨_, rfl, v, d, _, rfl, hd, by decide, _, rfl, ?_⟩
  refine ite2 (fun c => ?_) (fun c => ?_)
  · have e : wordD d = false := by cases d <;> first | rfl | cases c
    have z := q H same_refl
    rw [e] at z
    exact z
  match d, hd, hsm, c with
  | .str x, hd, hsm, _ =>
  obtain rfl := hd.str_inv
  have hx : x.length ≤ 100000 := of_decide_eq_true hsm
  refine ⟨_, rfl, _, _, rfl, ⟨small _ hx, rfl⟩, _, _, rfl, rfl, _, rfl, ?_⟩
  have e0 : wordD (.str x) = wordS x := rfl
  have hlx : x.length = x.cps.size := rfl
  have no : wordS x = false → Q (.bl false) H := fun z => by
    have y := q H same_refl
    rw [e0, z] at y
    exact y
  refine ite2 (fun c1 => ?_) (fun c1 => ?_)
  rotate_left
  · refine ⟨false, rfl, no ?_⟩
    have : ¬ 0 < x.cps.size := fun z => c1 (decide_eq_true (by omega))
    unfold wordS
    rw [decide_eq_false this, Bool.false_and]
  have l0 : 0 < x.cps.size := by
    have := of_decide_eq_true c1
    omega
  refine ⟨_, _, rfl, rfl, _, rfl, ?_⟩
  refine ite2 (fun c2 => no ?_) (fun c2 => ?_)
  · have : ¬ x.cps.size ≤ 8 := fun z => by
      rw [decide_eq_true (show (x.length : Int) ≤ 8 by omega)] at c2
      cases c2
    unfold wordS
    rw [decide_eq_false this, Bool.false_and, Bool.and_false]
  have l8 : x.cps.size ≤ 8 := by
    by_cases z : x.cps.size ≤ 8
    · exact z
    · exact absurd (by rw [decide_eq_false (show ¬ (x.length : Int) ≤ 8 by omega)]; rfl) c2
  refine ⟨_, rfl, x, rfl, fun d hd => ?_⟩
  refine lc_it walk_str (fun i H' => Same H H' ∧ H' d = some (.lst ((x.cps.toList.take i).map fun c => .bl (signB c)))) ⟨same_new hd _, upd_same⟩ (fun _ _ _ _ => True.intro) ?_ ?_
  · rintro i v H1 H2 hi ⟨k1, k2⟩ ⟨rfl, c, hc, rfl⟩
    have hg : x.cps.toList[i]? = some c := by
      rw [Array.getElem?_toList]
      exact hc
    have step : ∀ b, b = signB c → ((x.cps.toList.take i).map fun c => V.bl (signB c)) ++ [V.bl b] = (x.cps.toList.take (i + 1)).map fun c => V.bl (signB c) := fun b hb => by
      rw [List.take_add_one, hg, hb, List.map_append]
      rfl
    have fin : ∀ b, b = signB c → ∃ acc, H2 d = some (.lst acc) ∧ acc.length < sizeLine ∧ Same H (upd H2 d (.lst (acc ++ [V.bl b]))) ∧ upd H2 d (.lst (acc ++ [V.bl b])) d = some (.lst ((x.cps.toList.take (i + 1)).map fun c => V.bl (signB c))) := fun b hb => by
      refine ⟨_, k2, ?_, fun b' o e => ?_, ?_⟩
      · rw [List.length_map, List.length_take]
        exact Nat.lt_of_le_of_lt (Nat.min_le_left _ _) (Nat.lt_of_lt_of_le (show i < 100000 by omega) (small _ (Nat.le_refl _)))
      · rw [upd_ne (ne_of_none e hd)]
        exact k1 _ _ e
      · rw [upd_same, step b hb]
    refine ⟨rfl, _, rfl, _, _, rfl, rfl, _, rfl, ?_⟩
    rw [sgn_a]
    by_cases ca : 97 ≤ c
    · rw [decide_eq_true ca]
      refine ⟨_, _, rfl, rfl, ?_⟩
      rw [sgn_z]
      exact fin _ (by unfold signB; rw [decide_eq_true ca, Bool.true_and])
    · rw [decide_eq_false ca]
      exact fin false (by unfold signB; rw [decide_eq_false ca, Bool.false_and])
  · rintro H2 ⟨k1, k2⟩
    rw [show x.cps.size = x.cps.toList.length by simp, List.take_length] at k2
    refine ⟨d, x.cps.toList.map signB, rfl, SqL.of (by rw [k2, List.map_map]; rfl), ?_⟩
    have z := q H2 k1
    rw [e0] at z
    unfold wordS at z
    rw [decide_eq_true l0, decide_eq_true l8, Bool.true_and, Bool.true_and] at z
    rw [List.all_map]
    exact z
theorem sc_is_name : FnScope ["value"] ["value"] (defScope s_is_name) := ⟨rfl, rfl, rfl, by decide +kernel, rfl, by decide +kernel, by decide +kernel⟩
theorem ok_is_name (F : Fs K mg) (T : Txt K mg) (Z : Exs P K mg) : FnOk P w K mg base CX0 2 F.f_is_name F.fd_is_name ["value"] (spB K nameD) := by
  have SC := sc_is_name
  have G_is_word : FnOk P w K mg base CX0 1 F.f_is_word F.fd_is_word ["value"] (spB K wordD) := ok_is_word F T Z
  have B_is_word : Binds K F.fd_is_word ["value"] [] := F.d_is_word.fn.bindsN fun _ _ _ _ _ _ us hl => match us, hl with | [_], _ => rfl
  refine F.d_is_name.fn.ok sc_is_name (fun vs H Q E h => ?_) (fun cdv A outer s H vs Q E hr h => ?_)
  · obtain ⟨v, d, rfl, _⟩ := h; rfl
  obtain ⟨v, d, rfl, hd, hsm, q⟩ := h
  obtain ⟨aC, gC, hC⟩ := T.c_CLOSED
  refine ⟨_, PSs.nox (pss_one (ps_ret (pe_and (pe_call G_is_word (hr.mono (by decide)) rfl F.d_is_word.gl F.d_is_word.fn.kp B_is_word .nil pass0 (pa_cons (pv 0) pa_nil)) (pe_one (pe_cmpR op_notIn_seq (pv 0) (pe_glob (v := .ref aC) rfl gC rfl) rfl))))), ?_⟩
  refine ⟨_, rfl, v, d, rfl, hd, hsm, fun H1 s1 => ⟨_, rfl, ?_⟩⟩
  refine ite2 (fun c => ?_) (fun c => ?_)
  · match d, hd, c with
    | .str x, hd, c =>
      obtain rfl := hd.str_inv
      refine ⟨_, rfl, _, _, rfl, .inr (hC H1), rfl, flat_strs _, ?_⟩
      have z := q H1 s1
      have e : nameD (.str x) = (wordS x && !closedL.contains x) := rfl
      rw [e, show wordS x = true from c, Bool.true_and] at z
      rw [inV_strs]
      exact z
  · have e : nameD d = false := by
      cases d with
      | str x => 
        show (wordS x && !closedL.contains x) = false
        rw [show wordS x = false from Bool.eq_false_iff.mpr c, Bool.false_and]
      | _ => rfl
    have z := q H1 s1
    rw [e] at z
    exact z
theorem sc_is_kind_name : FnScope ["value"] ["value"] (defScope s_is_kind_name) := ⟨rfl, rfl, rfl, by decide +kernel, rfl, by decide +kernel, by decide +kernel⟩
theorem ok_is_kind_name (F : Fs K mg) (T : Txt K mg) (Z : Exs P K mg) : FnOk P w K mg base CX0 3 F.f_is_kind_name F.fd_is_kind_name ["value"] (spB K kindD) := by
  have SC := sc_is_kind_name
  have G_is_name : FnOk P w K mg base CX0 2 F.f_is_name F.fd_is_name ["value"] (spB K nameD) := ok_is_name F T Z
  have B_is_name : Binds K F.fd_is_name ["value"] [] := F.d_is_name.fn.bindsN fun _ _ _ _ _ _ us hl => match us, hl with | [_], _ => rfl
  refine F.d_is_kind_name.fn.ok sc_is_kind_name (fun vs H Q E h => ?_) (fun cdv A outer s H vs Q E hr h => ?_)
  · obtain ⟨v, d, rfl, _⟩ := h; rfl
  obtain ⟨v, d, rfl, hd, hsm, q⟩ := h
  obtain ⟨aC, gC, hC⟩ := T.c_HOUSE_KINDS
  refine ⟨_, PSs.nox (pss_one (ps_ret (pe_and (pe_callB call_isD (by rfl) T.n_isinstance (by decide +kernel) (pa_cons (pv 0) (pa_cons (pe_bltn (v := .ty "str") (by rfl) T.n_str (by decide +kernel) rfl) pa_nil))) (pe_one (pe_or (pe_cmpR op_in_seq (pv 0) (pe_glob (v := .ref aC) rfl gC rfl) rfl) (pe_one (pe_call G_is_name (hr.mono (by decide)) rfl F.d_is_name.gl F.d_is_name.fn.kp B_is_name .nil pass0 (pa_cons (pv 0) pa_nil)))))))), ?_⟩
  refine ⟨_, rfl, v, d, _, rfl, hd, by decide, _, rfl, ?_⟩
  refine ite2 (fun c => ?_) (fun c => ?_)
  · match d, hd, hsm, c with
    | .str x, hd, hsm, c =>
      have hd0 := hd
      obtain rfl := hd.str_inv
      refine ⟨_, rfl, _, _, rfl, .inr (hC H), rfl, flat_strs _, _, rfl, ?_⟩
      have e : kindD (.str x) = (houseL.contains x || nameS x) := rfl
      rw [e] at q
      rw [inV_strs]
      refine ite2 (fun c2 => ?_) (fun c2 => ?_)
      · have z := q H same_refl
        rw [show houseL.contains x = true from c2, Bool.true_or] at z
        exact z
      · rw [show houseL.contains x = false from Bool.eq_false_iff.mpr c2, Bool.false_or] at q
        exact ⟨_, rfl, _, .str x, rfl, hd0, hsm, q⟩
  · have e : kindD d = false := by
      cases d with
      | str x => exact absurd rfl c
      | _ => rfl
    have z := q H same_refl
    rw [e] at z
    exact z
theorem sc_is_head : FnScope ["value"] ["value"] (defScope s_is_head) := ⟨rfl, rfl, rfl, by decide +kernel, rfl, by decide +kernel, by decide +kernel⟩
theorem ok_is_head (F : Fs K mg) (T : Txt K mg) (Z : Exs P K mg) : FnOk P w K mg base CX0 4 F.f_is_head F.fd_is_head ["value"] (spB K headD) := by
  have SC := sc_is_head
  have G_is_count : FnOk P w K mg base CX0 2 F.f_is_count F.fd_is_count ["value"] (spB K countD) := ok_is_count F T Z
  have B_is_count : Binds K F.fd_is_count ["value"] [] := F.d_is_count.fn.bindsN fun _ _ _ _ _ _ us hl => match us, hl with | [_], _ => rfl
  have G_is_kind_name : FnOk P w K mg base CX0 3 F.f_is_kind_name F.fd_is_kind_name ["value"] (spB K kindD) := ok_is_kind_name F T Z
  have B_is_kind_name : Binds K F.fd_is_kind_name ["value"] [] := F.d_is_kind_name.fn.bindsN fun _ _ _ _ _ _ us hl => match us, hl with | [_], _ => rfl
  refine F.d_is_head.fn.ok sc_is_head (fun vs H Q E h => ?_) (fun cdv A outer s H vs Q E hr h => ?_)
  · obtain ⟨v, d, rfl, _⟩ := h; rfl
  obtain ⟨v, d, rfl, hd, hsm, q⟩ := h
  obtain ⟨uL, gL, rL⟩ := T.c_MOST_SIDES
  refine ⟨_, PSs.nox (pss_cons (ps_if (PW.pt (pw_or (pt_not (pt_val (pe_callB call_isD (by rfl) T.n_isinstance (by decide +kernel) (pa_cons (pv 0) (pa_cons (pe_bltn (v := .ty "tuple") (by rfl) T.n_tuple (by decide +kernel) rfl) pa_nil))))) (pw_or (pt_cmpR op_notIn_seq (pe_callB call_len (by rfl) T.n_len (by decide +kernel) (pa_cons (pv 0) pa_nil)) (pe_tup (pa_cons pe_int (pa_cons pe_int pa_nil))) rfl) (pw_or1 (pt_not (pt_val (pe_callB call_isD (by rfl) T.n_isinstance (by decide +kernel) (pa_cons (pe_ix ix_tup (pv 0) pe_int (fun _ _ => rfl)) (pa_cons (pe_bltn (v := .ty "str") (by rfl) T.n_str (by decide +kernel) rfl) pa_nil))))))))) (pss_one (ps_ret pe_bl)) pss_nil)
    (pss_cons (ps_if (pt_cmpR op_eq (pe_ix ix_tup (pv 0) pe_int (fun _ _ => rfl)) pe_str (nomark _)) (pss_one (ps_ret (pe_and (pe_cmpR op_eq (pe_callB call_len (by rfl) T.n_len (by decide +kernel) (pa_cons (pv 0) pa_nil)) pe_int (nomark _)) (pe_one (pe_call G_is_count (hr.mono (by decide)) rfl F.d_is_count.gl F.d_is_count.fn.kp B_is_count .nil pass0 (pa_cons (pe_ix ix_tup (pv 0) pe_int (fun _ _ => rfl)) pa_nil)))))) pss_nil)
    (pss_cons (ps_if (PW.pt (pw_or (pt_cmpR op_ne (pe_ix ix_tup (pv 0) pe_int (fun _ _ => rfl)) pe_str (nomark _)) (pw_or (pt_cmpR op_ne (pe_callB call_len (by rfl) T.n_len (by decide +kernel) (pa_cons (pv 0) pa_nil)) pe_int (nomark _)) (pw_or1 (pt_not (pt_val (pe_call G_is_kind_name (hr.mono (by decide)) rfl F.d_is_kind_name.gl F.d_is_kind_name.fn.kp B_is_kind_name .nil pass0 (pa_cons (pe_ix ix_tup (pv 0) pe_int (fun _ _ => rfl)) pa_nil)))))))) (pss_one (ps_ret pe_bl)) pss_nil)
    (pss_one (ps_ret (pe_and (pe_callB call_isD (by rfl) T.n_isinstance (by decide +kernel) (pa_cons (pe_ix ix_tup (pv 0) pe_int (fun _ _ => rfl)) (pa_cons (pe_bltn (v := .ty "list") (by rfl) T.n_list (by decide +kernel) rfl) pa_nil))) (pe_one (pe_cmpR op_le (pe_callB call_len (by rfl) T.n_len (by decide +kernel) (pa_cons (pe_ix ix_tup (pv 0) pe_int (fun _ _ => rfl)) pa_nil)) (pe_glob (v := .int 3) rfl gL rL) (nomark _))))))))), ?_⟩
  have bad : ∀ H', Same H H' → headD d = false → Q (.bl false) H' := fun H' s z => by
    have y := q H' s
    rw [z] at y
    exact y
  refine ⟨_, rfl, v, d, _, rfl, hd, by decide, _, rfl, ?_⟩
  refine ite2 (fun c => bad H same_refl ?_) (fun c => ?_)
  · cases d <;> first | rfl | cases c
  match d, hd, hsm, c, q, bad with
  | .tuple ds, hd, hsm, _, q, bad =>
  obtain ⟨a, xs, rfl, hq, hall⟩ := hd.tup_inv
  have hlen := hall.length
  refine ⟨_, rfl, _, xs.length, rfl, .inr ⟨xs, hq, rfl⟩, small _ (by show 2 ≤ 100000; decide), fun t ht => ?_⟩
  have s1 := same_new ht (.tup [.int 2, .int 3])
  refine ⟨t, _, rfl, .inr (SqT.of upd_same), rfl, rfl, _, rfl, ?_⟩
  rw [in23]
  replace hq := same_seqT s1 hq
  replace hall := hall.mono s1
  generalize upd H t _ = G at s1 hq hall ⊢
  by_cases hl : xs.length = 2 ∨ xs.length = 3
  rotate_left
  · rw [decide_eq_false hl]
    refine bad G s1 ?_
    exact head_len (by rw [← hlen]; exact hl)
  rw [decide_eq_true hl]
  have hsm' := smlAll_mem (show smlAll ds = true from hsm)
  rcases shape23 hall hl with ⟨x0, x1, d0, d1, rfl, rfl, h0, h1⟩ | ⟨x0, x1, x2, d0, d1, d2, rfl, rfl, h0, h1, h2⟩
  · clear hd hall hsm hl hlen
    refine ⟨_, rfl, a, _, 0, x0, rfl, rfl, hq, at_of (j := 0) rfl rfl, x0, d0, _, rfl, h0, by decide, _, rfl, ?_⟩
    refine ite2 (fun c => bad G s1 ?_) (fun c => ?_)
    · cases d0 <;> first | rfl | cases c
    match d0, h0, c, q, bad with
    | .str w, h0, _, q, bad =>
    obtain rfl := h0.str_inv
    refine ⟨_, rfl, a, _, 0, _, rfl, rfl, hq, at_of (j := 0) rfl rfl, rfl, _, rfl, ?_⟩
    refine ite2 (fun c => ?_) (fun c => ?_)
    · obtain rfl : w = "unknown" := V.str.inj (of_decide_eq_true c)
      refine ⟨_, rfl, _, _, rfl, .inr ⟨_, hq, rfl⟩, rfl, _, rfl, ?_⟩
      refine ite2 (fun c2 => ?_) (fun c2 => absurd (decide_eq_true rfl) c2)
      refine ⟨_, rfl, a, _, 1, _, rfl, rfl, hq, at_of (j := 1) rfl rfl, x1, d1, rfl, h1, hsm' d1 (by simp), fun H2 s2 => ?_⟩
      exact q H2 (s1.trans s2)
    · have hw : (w == "unknown") = false := by
        rw [beq_eq_false_iff_ne]
        exact fun z => c (decide_eq_true (by rw [z]))
      have hf : headD (.tuple [.str w, d1]) = false := by
        show (w == "unknown" && countD d1) = false
        rw [hw, Bool.false_and]
      refine ⟨_, rfl, a, _, 0, _, rfl, rfl, hq, at_of (j := 0) rfl rfl, rfl, _, rfl, ?_⟩
      refine ite2 (fun c => bad G s1 hf) (fun c => ?_)
      refine ⟨_, rfl, _, _, rfl, .inr ⟨_, hq, rfl⟩, rfl, _, rfl, ?_⟩
      exact ite2 (fun c2 => bad G s1 hf) (fun c2 => absurd (by show (!decide (V.int 2 = V.int 3)) = true; decide) c2)
  · clear hd hall hsm hl hlen
    refine ⟨_, rfl, a, _, 0, x0, rfl, rfl, hq, at_of (j := 0) rfl rfl, x0, d0, _, rfl, h0, by decide, _, rfl, ?_⟩
    refine ite2 (fun c => bad G s1 ?_) (fun c => ?_)
    · cases d0 <;> first | rfl | cases c
    match d0, h0, c, q, bad with
    | .str w, h0, _, q, bad =>
    obtain rfl := h0.str_inv
    refine ⟨_, rfl, a, _, 0, _, rfl, rfl, hq, at_of (j := 0) rfl rfl, rfl, _, rfl, ?_⟩
    refine ite2 (fun c => ?_) (fun c => ?_)
    · obtain rfl : w = "unknown" := V.str.inj (of_decide_eq_true c)
      refine ⟨_, rfl, _, _, rfl, .inr ⟨_, hq, rfl⟩, rfl, _, rfl, ?_⟩
      exact ite2 (fun c2 => absurd (V.int.inj (of_decide_eq_true c2)) (by show ¬ ((3 : Int) = 2); decide)) (fun c2 => bad G s1 rfl)
    · have hw : (w == "unknown") = false := by
        rw [beq_eq_false_iff_ne]
        exact fun z => c (decide_eq_true (by rw [z]))
      have hh : headD (.tuple [.str w, d1, d2]) = (w == "kind" && (kindD d1 && sideB d2)) := by
        show (!(w == "unknown") && _) = _
        rw [hw]
        rfl
      refine ⟨_, rfl, a, _, 0, _, rfl, rfl, hq, at_of (j := 0) rfl rfl, rfl, _, rfl, ?_⟩
      refine ite2 (fun c => bad G s1 ?_) (fun c => ?_)
      · have : (w == "kind") = false := by
          rw [beq_eq_false_iff_ne]
          intro z
          rw [z] at c
          cases c
        rw [hh, this, Bool.false_and]
      have hk : w = "kind" := by
        by_cases z : w = "kind"
        · exact z
        · exact absurd (by rw [decide_eq_false (fun y => z (V.str.inj y))]; rfl) c
      have hk2 : (w == "kind") = true := beq_iff_eq.mpr hk
      rw [hk2, Bool.true_and] at hh
      refine ⟨_, rfl, _, _, rfl, .inr ⟨_, hq, rfl⟩, rfl, _, rfl, ?_⟩
      refine ite2 (fun c2 => absurd c2 (by show ¬ (!decide (V.int 3 = V.int 3)) = true; decide)) (fun c2 => ?_)
      refine ⟨_, rfl, a, _, 1, _, rfl, rfl, hq, at_of (j := 1) rfl rfl, x1, d1, rfl, h1, hsm' d1 (by simp), fun H2 s2 => ⟨_, rfl, ?_⟩⟩
      have s12 := s1.trans s2
      refine ite2 (fun c3 => bad H2 s12 ?_) (fun c3 => ?_)
      · have : kindD d1 = false := by simpa using c3
        rw [hh, this, Bool.false_and]
      have hk3 : kindD d1 = true := by simpa using c3
      rw [hk3, Bool.true_and] at hh
      have hq2 := same_seqT s2 hq
      refine ⟨_, rfl, a, _, 2, _, rfl, rfl, hq2, at_of (j := 2) rfl rfl, x2, d2, _, rfl, h2.mono s2, by decide, _, rfl, ?_⟩
      refine ite2 (fun c4 => ?_) (fun c4 => bad H2 s12 ?_)
      · match d2, h2, c4, hh, q with
        | .list ts, h2, _, hh, q =>
          obtain ⟨b, ys, rfl, hqb, hab⟩ := (h2.mono s2).lst_inv
          refine ⟨_, rfl, a, _, 2, _, rfl, rfl, hq2, at_of (j := 2) rfl rfl, _, _, rfl, .inl ⟨_, hqb, rfl⟩, _, _, rfl, rfl, ?_⟩
          have z := q H2 s12
          rw [hh] at z
          have e : decide ((ys.length : Int) ≤ 3) = decide (ts.length ≤ 3) := by
            rw [hab.length, Bool.eq_iff_iff, decide_eq_true_eq, decide_eq_true_eq]
            omega
          show Q (.bl (decide ((ys.length : Int) ≤ 3))) H2
          rw [e]
          exact z
      · rw [hh]
        cases d2 <;> first | rfl | exact absurd rfl c4
/-- the parts of what has the head of a type -/
def spParts (K : PySem.W.Frag) : Sp := fun vs H Q _ => ∃ (v : V) (d : PyData) (F : Hp), vs = [v] ∧ Dx K F v d ∧ Same F H ∧ headD d = true ∧ ∀ (b : Addr) (xs : List V) (H' : Hp), Same H H' → SqL K H' b xs → DxAll K F xs (sidesD d) → Q (.ref b) H'
theorem sc_parts_in : FnScope ["one"] ["one"] (defScope s_parts_in) := ⟨rfl, rfl, rfl, by decide +kernel, rfl, by decide +kernel, by decide +kernel⟩
theorem ok_parts_in (F : Fs K mg) (T : Txt K mg) (Z : Exs P K mg) : FnOk P w K mg base CX0 1 F.f_parts_in F.fd_parts_in ["one"] (spParts K) := by
  have SC := sc_parts_in
  refine F.d_parts_in.fn.ok sc_parts_in (fun vs H Q E h => ?_) (fun cdv A outer s H vs Q E hr h => ?_)
  · obtain ⟨v, d, Fh, rfl, _⟩ := h; rfl
  obtain ⟨v, d, Fh, rfl, hd, sF, hh, q⟩ := h
  refine ⟨_, PSs.nox (pss_one (ps_ret (pe_ifExp (pt_cmpR op_eq (pe_ix ix_tup (pv 0) pe_int (fun _ _ => rfl)) pe_str (nomark _)) (pe_ix ix_tup (pv 0) pe_int (fun _ _ => rfl)) (pe_lst pa_nil)))), ?_⟩
  rcases head_inv hh with ⟨a, rfl, _⟩ | ⟨a, ts, rfl, _, _⟩
  · obtain ⟨p, xs, rfl, hq, hall⟩ := hd.tup_inv
    obtain ⟨x0, e0, h0⟩ := hall.get' (i := 0) rfl
    obtain rfl := h0.str_inv
    refine ⟨_, rfl, p, xs, 0, _, rfl, rfl, same_seqT sF hq, at_of (j := 0) rfl e0, rfl, _, rfl, ?_⟩
    refine ite2 (fun c => absurd (V.str.inj (of_decide_eq_true c)) (by decide)) (fun c => ⟨small _ (by show 0 ≤ 100000; decide), fun b hb => ?_⟩)
    exact q b [] _ (same_new hb _) (SqL.of upd_same) .nil
  · obtain ⟨p, xs, rfl, hq, hall⟩ := hd.tup_inv
    obtain ⟨x0, e0, h0⟩ := hall.get' (i := 0) rfl
    obtain ⟨x2, e2, h2⟩ := hall.get' (i := 2) rfl
    obtain rfl := h0.str_inv
    obtain ⟨b, ys, rfl, hqb, hab⟩ := h2.lst_inv
    refine ⟨_, rfl, p, xs, 0, _, rfl, rfl, same_seqT sF hq, at_of (j := 0) rfl e0, rfl, _, rfl, ?_⟩
    refine ite2 (fun c => ?_) (fun c => absurd (decide_eq_true rfl) c)
    exact ⟨_, rfl, p, xs, 2, _, rfl, rfl, same_seqT sF hq, at_of (j := 2) rfl e2, q b ys H same_refl (sF.seq hqb) hab⟩
theorem sc_is_type : FnScope ["value", "waiting", "many", "here"] ["value"] (defScope s_is_type) := ⟨rfl, rfl, rfl, by decide +kernel, rfl, by decide +kernel, by decide +kernel⟩
theorem ok_is_type (F : Fs K mg) (T : Txt K mg) (Z : Exs P K mg) : FnOk P w K mg base CX0 5 F.f_is_type F.fd_is_type ["value"] (spB K isTyD) := by
  have SC := sc_is_type
  have G_parts_in : FnOk P w K mg base CX0 1 F.f_parts_in F.fd_parts_in ["one"] (spParts K) := ok_parts_in F T Z
  have B_parts_in : Binds K F.fd_parts_in ["one"] [] := F.d_parts_in.fn.bindsN fun _ _ _ _ _ _ us hl => match us, hl with | [_], _ => rfl
  have G_is_head : FnOk P w K mg base CX0 4 F.f_is_head F.fd_is_head ["value"] (spB K headD) := ok_is_head F T Z
  have B_is_head : Binds K F.fd_is_head ["value"] [] := F.d_is_head.fn.bindsN fun _ _ _ _ _ _ us hl => match us, hl with | [_], _ => rfl
  refine F.d_is_type.fn.ok sc_is_type (fun vs H Q E h => ?_) (fun cdv A outer s H vs Q E hr h => ?_)
  · obtain ⟨v, d, rfl, _⟩ := h; rfl
  obtain ⟨v, d, rfl, hd, hsm, q⟩ := h
  obtain ⟨uL, gL, rL⟩ := T.c_MOST_PARTS
  have hu := hr.units
  refine ⟨_, PSs.nox (pss_cons (ps_par (i := 1) (j := 2) (by rfl) SC.nd rfl rfl (by decide) rfl rfl (pa_cons (pe_lst (pa_cons (pv 0) pa_nil)) (pa_cons pe_int pa_nil)) (by rfl))
    (pss_cons (ps_while PassesOwn.never (pt_cmpR (op_neNil hu) (pv 1) (pe_lst pa_nil) (nomark _)) (pss_cons (ps_par (i := 3) (j := 2) (by rfl) SC.nd rfl rfl (by decide) rfl rfl (pa_cons (pe_bm0 PySem.F.plainAttrs_list PySem.F.slot_list_pop PySem.F.type_list_pop mt_pop (pv 1)) (pa_cons (pe_op op_add (pv 2) pe_int) pa_nil)) (by rfl))
    (pss_cons (ps_if (PW.pt (pw_or (pt_cmpR op_gt (pv 2) (pe_glob (v := .int 200) rfl gL rL) (nomark _)) (pw_or1 (pt_not (pt_val (pe_call G_is_head (hr.mono (by decide)) rfl F.d_is_head.gl F.d_is_head.fn.kp B_is_head .nil pass0 (pa_cons (pv 3) pa_nil))))))) (pss_one (ps_ret pe_bl)) pss_nil)
    (pss_one (ps_set (i := 1) SC.nd rfl (Or.inl rfl) (pe_op op_catS (pv 1) (pe_call G_parts_in (hr.mono (by decide)) rfl F.d_parts_in.gl F.d_parts_in.fn.kp B_parts_in .nil pass0 (pa_cons (pv 3) pa_nil))))))))
    (pss_one (ps_ret pe_bl)))), ?_⟩
  refine ⟨_, rfl, small _ (by show 1 ≤ 100000; decide), fun l hl => ?_⟩
  refine ⟨_, _, rfl, ?_⟩
  refine ⟨fun m σ H' => ∃ (ws : List V) (ds : List PyData) (many : Nat) (l : Addr) (x : Option V), m = 200 - many ∧ many ≤ 200 ∧ σ = [some v, some (.ref l), some (.int (many : Int)), x] ∧ Same H H' ∧ H' l = some (.lst ws) ∧ H l = none ∧ DxAll K (outA H' l) ws ds ∧ smlAll ds = true ∧ ws.length ≤ 3 * many + 1 ∧ isTyD d = runD (200 - many) ds,
    ⟨200, [v], [d], 0, l, none, rfl, by decide, rfl, same_new hl _, upd_same, hl, .cons (hd.mono fun b o e => (by rw [outA_ne (ne_of_none e hl), upd_ne (ne_of_none e hl)]; exact e)) .nil, by simp only [smlAll, hsm, Bool.and_true], Nat.le_refl _, rfl⟩, ?_⟩
  rintro m σ H' ⟨ws, ds, many, l, x, rfl, hmany, rfl, s1, hl1, hl0, hall, hsml, hlen, heq⟩
  refine ⟨_, rfl, small _ (by show 0 ≤ 100000; decide), fun e he => ?_⟩
  have se := same_new he (.lst [])
  have nel : l ≠ e := ne_of_none hl1 he
  refine ⟨l, e, ws, rfl, rfl, SqL.of (se _ _ hl1), SqL.of upd_same, _, rfl, ?_⟩
  have hl2 := se _ _ hl1
  replace s1 := s1.trans se
  replace hall := hall.mono (outA_same fun b o _ z => se b o z)
  generalize upd H' e (.lst []) = G at hl2 s1 hall ⊢
  have hdl := hall.length
  by_cases hw : ws = []
  · subst hw
    have hds : ds = [] := List.eq_nil_of_length_eq_zero hdl.symm
    refine ite2 (fun c => by cases c) (fun _ => ?_)
    have z := q G s1
    rw [heq, hds] at z
    have e1 : runD (200 - many) [] = true := by cases 200 - many <;> rfl
    rw [e1] at z
    exact z
  obtain ⟨y, dy, hy, hdy, hxy⟩ := hall.last hw
  have hdsne : ds ≠ [] := fun z => by
    rw [z] at hdy
    cases hdy
  refine ite2 (fun _ => ?_) (fun c => absurd (by cases ws with | nil => exact absurd rfl hw | cons _ _ => rfl) c)
  refine ⟨fun σ' H' => ∃ m', m' < 200 - many ∧ ∃ (ws : List V) (ds : List PyData) (many : Nat) (l : Addr) (x : Option V), m' = 200 - many ∧ many ≤ 200 ∧ σ' = [some v, some (.ref l), some (.int (many : Int)), x] ∧ Same H H' ∧ H' l = some (.lst ws) ∧ H l = none ∧ DxAll K (outA H' l) ws ds ∧ smlAll ds = true ∧ ws.length ≤ 3 * many + 1 ∧ isTyD d = runD (200 - many) ds, fun _ _ h => h, ?_⟩
  refine ⟨_, rfl, .inl ⟨rfl, ws, SqL.of hl2⟩, l, ws, y, rfl, rfl, hl2, hy, _, rfl, _, _, rfl, rfl, ?_⟩
  refine ⟨_, _, rfl, ?_⟩
  have sp : Same H (upd G l (.lst ws.dropLast)) := fun b o z => by
    rw [upd_ne (ne_of_none z hl0)]
    exact s1 _ _ z
  have eo : outA (upd G l (.lst ws.dropLast)) l = outA G l := outA_eq fun b hb => upd_ne hb
  have hl3 : upd G l (.lst ws.dropLast) l = some (.lst ws.dropLast) := upd_same
  rw [← eo] at hall hxy
  generalize upd G l (.lst ws.dropLast) = G1 at sp hall hxy hl3 ⊢
  have bad : ∀ H', Same H H' → runD (200 - many) ds = false → Q (.bl false) H' := fun H' s z => by
    have y := q H' s
    rw [heq, z] at y
    exact y
  refine ⟨_, rfl, _, _, rfl, rfl, _, rfl, ?_⟩
  refine ite2 (fun c => bad G1 sp ?_) (fun c => ?_)
  · have : 200 - many = 0 := by
      have := of_decide_eq_true c
      omega
    rw [this]
    cases ds with
    | nil => exact absurd rfl hdsne
    | cons _ _ => rfl
  obtain ⟨n, hn⟩ : ∃ n, 200 - many = n + 1 := by
    have : ¬ (200 : Int) < (many : Int) + 1 := fun z => c (decide_eq_true z)
    exact ⟨199 - many, by omega⟩
  have hrun : runD (200 - many) ds = (headD dy && runD n (ds.dropLast ++ sidesD dy)) := by
    rw [hn]
    simp only [runD, hdy]
  have hys : smlD dy = true := smlAll_mem hsml dy (List.mem_of_getLast? hdy)
  refine ⟨_, rfl, y, dy, rfl, hxy.mono outA_sub, hys, fun G2 s2 => ⟨_, rfl, ?_⟩⟩
  refine ite2 (fun c2 => bad G2 (sp.trans s2) ?_) (fun c2 => ?_)
  · have : headD dy = false := by simpa using c2
    rw [hrun, this, Bool.false_and]
  have hh : headD dy = true := by simpa using c2
  rw [hh, Bool.true_and] at hrun
  refine ⟨_, rfl, _, rfl, y, dy, outA G1 l, rfl, hxy, fun b o z => s2 _ _ (outA_sub _ _ z), hh, fun b xs G3 s3 hb hxs => ?_⟩
  have hxl := hxs.length
  have hsl : xs.length ≤ 3 := by
    rw [hxl]
    rcases head_inv hh with ⟨_, rfl, _⟩ | ⟨_, ts, rfl, _, ht⟩
    · exact Nat.zero_le _
    · exact ht
  have hdrop : ws.dropLast.length ≤ 3 * many := by
    rw [List.length_dropLast]
    omega
  refine ⟨l, b, ws.dropLast, xs, rfl, rfl, SqL.of (s3 _ _ (s2 _ _ hl3)), hb, small _ (by omega), fun p hp => ?_⟩
  have sN := same_new hp (.lst (ws.dropLast ++ xs))
  have pl : l ≠ p := ne_of_none (s3 _ _ (s2 _ _ hl3)) hp
  have keep : Same (outA G1 l) (outA (upd G3 p (.lst (ws.dropLast ++ xs))) p) := fun b o z => by
    have z3 := s3 _ _ (s2 _ _ (outA_sub _ _ z))
    rw [outA_ne (ne_of_none z3 hp)]
    exact sN _ _ z3
  refine ⟨n, by omega, ws.dropLast ++ xs, ds.dropLast ++ sidesD dy, many + 1, p, _, by omega, by omega, rfl, sp.trans (s2.trans (s3.trans sN)), upd_same, (sp.trans (s2.trans s3)).free hp, (hall.dropLast.append hxs).mono keep, smlAll_app (smlAll_drop hsml) (sides_sml hys), ?_, ?_⟩
  · rw [List.length_append]
    omega
  · rw [heq, hrun, show 200 - (many + 1) = n by omega]
/-- a def that asks for a type: the i-th error otherwise -/
def spAsk (Z : Exs P K mg) (K : PySem.W.Frag) (i : Nat) : Sp := fun vs H Q E => ∃ (v : V) (d : PyData), vs = [v] ∧ Dx K H v d ∧ smlD d = true ∧ (isTyD d = true → ∀ H', Same H H' → Q .non H') ∧
  (isTyD d = false → ∀ dx H', Same H H' → H dx = none → H' dx = some (.xd [("value", v)]) → E (.ref (Z.c i)) (some dx) H')
theorem sc_check_type : FnScope ["value"] ["value"] (defScope s_check_type) := ⟨rfl, rfl, rfl, by decide +kernel, rfl, by decide +kernel, by decide +kernel⟩
theorem ok_check_type (F : Fs K mg) (T : Txt K mg) (Z : Exs P K mg) : FnOk P w K mg base (L2.CX P w) 6 F.f_check_type F.fd_check_type ["value"] (spAsk Z K 0) := by
  have SC := sc_check_type
  have G_is_type : FnOk P w K mg base CX0 5 F.f_is_type F.fd_is_type ["value"] (spB K isTyD) := ok_is_type F T Z
  have B_is_type : Binds K F.fd_is_type ["value"] [] := F.d_is_type.fn.bindsN fun _ _ _ _ _ _ us hl => match us, hl with | [_], _ => rfl
  refine F.d_check_type.fn.ok sc_check_type (fun vs H Q E h => ?_) (fun cdv A outer s H vs Q E hr h => ?_)
  · obtain ⟨v, d, rfl, _⟩ := h; rfl
  obtain ⟨v, d, rfl, hd, hsm, q, qe⟩ := h
  refine ⟨_, (pss_one (ps_if (pt_not (pt_val (pe_call G_is_type (hr.mono (by decide)) rfl F.d_is_type.gl F.d_is_type.fn.kp B_is_type .nil pass0 (pa_cons (pv 0) pa_nil)))) (pss_one (ps_raise rfl (takes_of rfl rfl rfl rfl) (pmk_mkE (Z.m 0 (by decide)) (Z.raises rfl 0 (by decide)) Z.GW (hr.mono (by decide)) rfl (Z.g 0 "InvalidType" rfl) Z.bw (pa_cons (pv 0) pa_nil)))) pss_nil)), ?_⟩
  refine ⟨_, rfl, v, d, rfl, hd, hsm, fun H1 s1 => ⟨_, rfl, ?_⟩⟩
  refine ite2 (fun c => ?_) (fun c => q (by simpa using c) H1 s1)
  exact raise_why (Z.wc 0 (by decide)) (fun dx H' s h1 h2 => qe (by simpa using c) dx H' (s1.trans s) (s1.free h1) h2) rfl
/-- a type's parts, itself first -/
def spAll (K : PySem.W.Frag) : Sp := fun vs H Q _ => ∃ (v : V) (t : Ty) (Fh : Hp), vs = [v] ∧ Dx K Fh v t.toD ∧ Same Fh H ∧ t.ok = true ∧ t.size ≤ 100000 ∧ ∀ (r : Addr) (fv : List V) (H' : Hp), Same H H' → H r = none → H' r = some (.lst fv) → DxAll K Fh fv (Ty.toDs t.parts) → Q (.ref r) H'
theorem sc_all_parts : FnScope ["one", "found", "waiting", "here"] ["one"] (defScope s_all_parts) := ⟨rfl, rfl, rfl, by decide +kernel, rfl, by decide +kernel, by decide +kernel⟩
theorem ok_all_parts (F : Fs K mg) (T : Txt K mg) (Z : Exs P K mg) : FnOk P w K mg base CX0 2 F.f_all_parts F.fd_all_parts ["one"] (spAll K) := by
  have SC := sc_all_parts
  have G_parts_in : FnOk P w K mg base CX0 1 F.f_parts_in F.fd_parts_in ["one"] (spParts K) := ok_parts_in F T Z
  have B_parts_in : Binds K F.fd_parts_in ["one"] [] := F.d_parts_in.fn.bindsN fun _ _ _ _ _ _ us hl => match us, hl with | [_], _ => rfl
  refine F.d_all_parts.fn.ok sc_all_parts (fun vs H Q E h => ?_) (fun cdv A outer s H vs Q E hr h => ?_)
  · obtain ⟨v, t, Fh, rfl, _⟩ := h; rfl
  obtain ⟨v, t, Fh, rfl, hd, sF, ok, hsz, q⟩ := h
  have hu := hr.units
  refine ⟨_, PSs.nox (pss_cons (ps_par (i := 1) (j := 2) (by rfl) SC.nd rfl rfl (by decide) rfl rfl (pa_cons (pe_lst pa_nil) (pa_cons (pe_lst (pa_cons (pv 0) pa_nil)) pa_nil)) (by rfl))
    (pss_cons (ps_while PassesOwn.never (pt_cmpR (op_neNil hu) (pv 2) (pe_lst pa_nil) (nomark _)) (pss_cons (ps_set (i := 3) SC.nd rfl (Or.inl rfl) (pe_bm0 PySem.F.plainAttrs_list PySem.F.slot_list_pop PySem.F.type_list_pop mt_pop (pv 2)))
    (pss_cons (ps_expr (pe_bm PySem.F.plainAttrs_list PySem.F.slot_list_append PySem.F.type_list_append mt_append (pv 1) (pa_cons (pv 3) pa_nil)))
    (pss_one (ps_set (i := 2) SC.nd rfl (Or.inl rfl) (pe_op op_catS (pv 2) (pe_revL (pe_call G_parts_in (hr.mono (by decide)) rfl F.d_parts_in.gl F.d_parts_in.fn.kp B_parts_in .nil pass0 (pa_cons (pv 3) pa_nil)))))))))
    (pss_one (ps_ret (pv 1))))), ?_⟩
  refine ⟨small _ (by show 0 ≤ 100000; decide), fun g hg => ?_⟩
  have s1 := same_new hg (.lst [])
  refine ⟨_, rfl, small _ (by show 1 ≤ 100000; decide), fun l hl => ?_⟩
  have s2 := same_new hl (.lst [v])
  have ngl : g ≠ l := ne_of_none upd_same hl
  refine ⟨_, _, rfl, ?_⟩
  refine ⟨fun m σ H' => ∃ (ws fv : List V) (wts done : List Ty) (l : Addr) (x : Option V), m = Ty.sizes wts ∧ σ = [some v, some (.ref g), some (.ref l), x] ∧ Same H H' ∧ H' g = some (.lst fv) ∧ H' l = some (.lst ws) ∧ H l = none ∧ l ≠ g ∧ DxAll K Fh ws (Ty.toDs wts) ∧ DxAll K Fh fv (Ty.toDs done) ∧ Ty.oks wts = true ∧ t.parts = done ++ Ty.partss wts.reverse,
    ⟨_, [v], [], [t], [], l, none, rfl, rfl, s1.trans s2, s2 _ _ upd_same, upd_same, s1.free hl, ngl.symm, .cons hd .nil, .nil, by simp [Ty.oks, ok], by simp [Ty.partss]⟩, ?_⟩
  rintro m σ H' ⟨ws, fv, wts, done, l, x, rfl, rfl, sH, hg1, hl1, hl0, nlg, hall, hfv, oks, hparts⟩
  refine ⟨_, rfl, small _ (by show 0 ≤ 100000; decide), fun e he => ?_⟩
  have se := same_new he (.lst [])
  refine ⟨l, e, ws, rfl, rfl, SqL.of (se _ _ hl1), SqL.of upd_same, _, rfl, ?_⟩
  replace hl1 := se _ _ hl1
  replace hg1 := se _ _ hg1
  replace sH := sH.trans se
  generalize upd H' e (.lst []) = G at hl1 hg1 sH ⊢
  have hdl := hall.length
  rw [toDs_map, List.length_map] at hdl
  have hfl := hfv.length
  rw [toDs_map, List.length_map] at hfl
  have hpl := congrArg List.length hparts
  rw [parts_length, List.length_append, partss_length, sizes_reverse] at hpl
  rcases List.eq_nil_or_concat wts with rfl | ⟨wa, u, rfl⟩
  · have hw : ws = [] := List.eq_nil_of_length_eq_zero hdl
    subst hw
    refine ite2 (fun c => by cases c) (fun _ => ⟨_, rfl, ?_⟩)
    have e : t.parts = done := by
      rw [hparts]
      exact List.append_nil _
    exact q g fv G sH hg hg1 (by rw [e]; exact hfv)
  rw [List.concat_eq_append] at *
  rw [toDs_append] at hall
  obtain ⟨wv, y, rfl, hwa, hy⟩ := hall.concat_inv
  rw [oks_append] at oks
  obtain ⟨oa, ou⟩ := Bool.and_eq_true_iff.mp oks
  have ou' : u.ok = true := by simpa [Ty.oks] using ou
  rw [sizes_append] at hpl ⊢
  have hus := size_eq u
  refine ite2 (fun _ => ?_) (fun c => absurd (by simp) c)
  refine ⟨fun σ' H' => ∃ m', m' < Ty.sizes wa + Ty.sizes [u] ∧ ∃ (ws fv : List V) (wts done : List Ty) (l : Addr) (x : Option V), m' = Ty.sizes wts ∧ σ' = [some v, some (.ref g), some (.ref l), x] ∧ Same H H' ∧ H' g = some (.lst fv) ∧ H' l = some (.lst ws) ∧ H l = none ∧ l ≠ g ∧ DxAll K Fh ws (Ty.toDs wts) ∧ DxAll K Fh fv (Ty.toDs done) ∧ Ty.oks wts = true ∧ t.parts = done ++ Ty.partss wts.reverse, fun _ _ h => h, ?_⟩
  refine ⟨_, rfl, .inl ⟨rfl, _, SqL.of hl1⟩, l, _, y, rfl, rfl, hl1, by simp, ?_⟩
  rw [List.dropLast_concat]
  have sp : Same H (upd G l (.lst wv)) := fun b o z => by
    rw [upd_ne (ne_of_none z hl0)]
    exact sH _ _ z
  have hg2 : upd G l (.lst wv) g = some (.lst fv) := by
    rw [upd_ne nlg.symm]
    exact hg1
  have hl2 : upd G l (.lst wv) l = some (.lst wv) := upd_same
  generalize upd G l (.lst wv) = G1 at sp hg2 hl2 ⊢
  refine ⟨_, rfl, .inl ⟨rfl, _, SqL.of hg2⟩, _, rfl, g, fv, y, rfl, rfl, hg2, ?_, ?_⟩
  · exact Nat.lt_of_lt_of_le (show fv.length < 200000 by simp only [Ty.sizes] at hpl; omega) (by decide)
  have sp2 : Same H (upd G1 g (.lst (fv ++ [y]))) := fun b o z => by
    rw [upd_ne (ne_of_none z hg)]
    exact sp _ _ z
  have hl3 : upd G1 g (.lst (fv ++ [y])) l = some (.lst wv) := by
    rw [upd_ne nlg]
    exact hl2
  have hg3 : upd G1 g (.lst (fv ++ [y])) g = some (.lst (fv ++ [y])) := upd_same
  generalize upd G1 g (.lst (fv ++ [y])) = G2 at sp2 hl3 hg3 ⊢
  refine ⟨_, rfl, _, rfl, y, u.toD, Fh, rfl, hy, sF.trans sp2, headD_toD ou', fun b xs G3 s3 hb hxs => ?_⟩
  rw [sidesD_toD] at hxs
  have hxl := hxs.length
  rw [toDs_map, List.length_map] at hxl
  have h3 := sides_three ou'
  refine ⟨b, xs, rfl, hb, fun p hp => ?_⟩
  have s4 := same_new hp (.lst xs.reverse)
  have hwl := hwa.length
  rw [toDs_map, List.length_map] at hwl
  have hws := sizes_ge wa
  refine ⟨l, p, wv, xs.reverse, rfl, rfl, SqL.of (s4 _ _ (s3 _ _ hl3)), SqL.of upd_same, ?_, fun n hn => ?_⟩
  · rw [List.length_reverse]
    exact Nat.le_trans (show wv.length + xs.length ≤ 200000 by omega) (by decide)
  have s5 := same_new hn (.lst (wv ++ xs.reverse))
  have sN := s3.trans (s4.trans s5)
  refine ⟨Ty.sizes (wa ++ u.sides.reverse), ?_, wv ++ xs.reverse, fv ++ [y], wa ++ u.sides.reverse, done ++ [u], n, _, rfl, rfl, sp2.trans sN, sN _ _ hg3, upd_same, (sp2.trans (s3.trans s4)).free hn, fun z => ?_, ?_, ?_, ?_, ?_⟩
  · rw [sizes_append, sizes_reverse]
    simp only [Ty.sizes]
    omega
  · rw [z] at hn
    rw [(s3.trans s4) _ _ hg3] at hn
    cases hn
  · rw [toDs_append]
    refine hwa.append ?_
    rw [toDs_map, List.map_reverse, ← toDs_map]
    exact hxs.reverse
  · rw [toDs_append]
    exact hfv.append (.cons hy .nil)
  · rw [oks_append, oa, oks_reverse _ (oks_sides ou')]
    rfl
  · rw [hparts, List.reverse_append, List.reverse_append, List.reverse_reverse, partss_append]
    have e1 : Ty.partss [u].reverse = u :: Ty.partss u.sides := by
      show Ty.partss [u] = _
      rw [Ty.partss, parts_eq, Ty.partss, List.append_nil]
    rw [e1, partss_append, List.append_assoc]
    rfl
/-- the numbers of the unknowns, once, as they come -/
def spNumbers (K : PySem.W.Frag) : Sp := fun vs H Q _ => ∃ (a : Addr) (xs : List V) (ts : List Ty) (Fh : Hp), vs = [.ref a] ∧ SqL K H a xs ∧ DxAll K Fh xs (Ty.toDs ts) ∧ Same Fh H ∧ Ty.oks ts = true ∧ Ty.sizes ts ≤ 100000 ∧
  ∀ (r : Addr) (H' : Hp), Same H H' → H r = none → H' r = some (.lst ((numsIn ts).map fun (n : Nat) => V.int (n : Int))) → Q (.ref r) H'
theorem sc_numbers_in : FnScope ["ones", "found", "one", "part"] ["ones"] (defScope s_numbers_in) := ⟨rfl, rfl, rfl, by decide +kernel, rfl, by decide +kernel, by decide +kernel⟩
theorem ok_numbers_in (F : Fs K mg) (T : Txt K mg) (Z : Exs P K mg) : FnOk P w K mg base CX0 3 F.f_numbers_in F.fd_numbers_in ["ones"] (spNumbers K) := by
  have SC := sc_numbers_in
  have G_all_parts : FnOk P w K mg base CX0 2 F.f_all_parts F.fd_all_parts ["one"] (spAll K) := ok_all_parts F T Z
  have B_all_parts : Binds K F.fd_all_parts ["one"] [] := F.d_all_parts.fn.bindsN fun _ _ _ _ _ _ us hl => match us, hl with | [_], _ => rfl
  refine F.d_numbers_in.fn.ok sc_numbers_in (fun vs H Q E h => ?_) (fun cdv A outer s H vs Q E hr h => ?_)
  · obtain ⟨a, xs, ts, Fh, rfl, _⟩ := h; rfl
  obtain ⟨a, xs, ts, Fh, rfl, hq, hall, sF, oks, hsz, q⟩ := h
  refine ⟨_, PSs.nox (pss_cons (ps_set (i := 1) SC.nd rfl (Or.inl rfl) pe_dnewK)
    (pss_cons (ps_for PassesOwn.never rfl (pi_list (pv 0)) (pg_name (i := 2) SC.nd rfl (Or.inl rfl)) (pss_one (ps_expr (pe_bm PySem.F.plainAttrs_dict PySem.F.slot_dict_update PySem.F.type_dict_update mt_updateD (pv 1) (pa_cons (pe_dc (own := [("part", 3)]) (g := (gName 3)) (tt := tTest (tOp rEq (tOp (rIxT K) (tVar 3) (tC (.int 0))) (tC (.str "unknown")))) (tk := tOp (rIxT K) (tVar 3) (tC (.int 1))) (by rfl) SC.nd (pi_list (pe_call G_all_parts (hr.mono (by decide)) rfl F.d_all_parts.gl F.d_all_parts.fn.kp B_all_parts .nil pass0 (pa_cons (pv 2) pa_nil))) (blkOk_by (own := [("part", 3)]) (N := ["ones", "found", "one", "part"]) (sc := defScope s_numbers_in) (by decide +kernel)) (fun _ _ _ _ _ => (pg_name (i := 3) SC.nd rfl (Or.inl rfl))) (fun _ _ _ _ _ => pts_one (pt_cmpR op_eq (pe_ix ix_tup (pv 3) pe_int (fun _ _ => rfl)) pe_str (nomark _))) (fun _ _ _ _ _ => (pe_ix ix_tup (pv 3) pe_int (fun _ _ => rfl))) (fun _ _ _ _ _ => pe_bl)) pa_nil)))))
    (pss_one (ps_ret (pe_callTy (call_listD rfl) (by rfl) T.n_list (by decide +kernel) (pa_cons (pv 1) pa_nil)))))), ?_⟩
  have hxl := hall.length
  rw [toDs_map, List.length_map] at hxl
  intro g hg
  have s0 := same_new hg (.dK [])
  refine ⟨_, rfl, a, rfl, ⟨xs, s0.seq hq⟩, for_list (xs := xs) (fun i σ H' => (∃ x, σ = [some (.ref a), some (.ref g), x, none]) ∧ Same H H' ∧ H' g = some (.dK (kd (numsIn (ts.take i)))) ∧ (numsIn (ts.take i)).length ≤ Ty.sizes (ts.take i)) ⟨⟨_, rfl⟩, s0, upd_same, Nat.zero_le _⟩ ?_ ?_ ?_⟩
  · rintro i σ H' _ ⟨_, k1, _⟩
    exact k1.seq hq
  · rintro i x σ H' hi ⟨⟨w0, rfl⟩, k1, k2, k3⟩
    obtain ⟨d, hd1, hx⟩ := hall.get hi
    rw [toDs_map, List.getElem?_map] at hd1
    obtain ⟨t, ht, rfl⟩ := Option.map_eq_some_iff.mp hd1
    have htm := List.mem_of_getElem? ht
    have hto : t.ok = true := oks_mem oks t htm
    have hts : t.size ≤ 100000 := Nat.le_trans (sizes_mem htm) hsz
    have htake : ts.take (i + 1) = ts.take i ++ [t] := by
      rw [List.take_add_one, ht]
      rfl
    have hst : Ty.sizes (ts.take i) + t.size ≤ 100000 := by
      have e : Ty.sizes (ts.take (i + 1)) = Ty.sizes (ts.take i) + t.size := by
        rw [htake, sizes_append]
        simp only [Ty.sizes, Nat.add_zero]
      have := sizes_take ts (i + 1)
      omega
    refine ⟨_, rfl, .inr (.inr (.inl ⟨rfl, .inl ⟨_, k2⟩⟩)), ?_⟩
    refine ⟨_, rfl, x, t, Fh, rfl, hx, sF.trans k1, hto, hts, fun r fv G1 s1 hr0 hr1 hfv => ?_⟩
    refine ⟨r, rfl, ⟨fv, SqL.of hr1⟩, fun D hD => ?_⟩
    have hfl := hfv.length
    rw [toDs_map, List.length_map] at hfl
    have sD := same_new hD (.dK [])
    have hgD : g ≠ D := ne_of_none (s1 _ _ k2) hD
    refine dc_walk walk_list (fun j G => Same G1 G ∧ G D = some (.dK (kd (addAll [] ((t.parts.take j).filterMap unkN))))) ⟨sD, upd_same⟩ (fun j G _ ⟨z, _⟩ => SqL.of (z _ _ hr1)) ?_ ?_
    · rintro j y G0 G hj ⟨z1, z2⟩ ⟨rfl, hy⟩
      obtain ⟨d, hd1, hyd⟩ := hfv.get hy
      rw [toDs_map, List.getElem?_map] at hd1
      obtain ⟨u, hu1, rfl⟩ := Option.map_eq_some_iff.mp hd1
      have htk : t.parts.take (j + 1) = t.parts.take j ++ [u] := by
        rw [List.take_add_one, hu1]
        rfl
      have sG : Same Fh G := sF.trans (k1.trans (s1.trans z1))
      refine ⟨rfl, ?_⟩
      cases u with
      | unk n =>
        obtain ⟨p, ys, rfl, hqp, hap⟩ := (show Dx K Fh y (.tuple [.str "unknown", .int (n : Int)]) from hyd).tup_inv
        obtain ⟨x0, e0, h0⟩ := hap.get' (i := 0) rfl
        obtain ⟨x1, e1, h1⟩ := hap.get' (i := 1) rfl
        obtain rfl := h0.str_inv
        cases h1
        refine ⟨_, rfl, p, ys, 0, _, rfl, rfl, same_seqT sG hqp, at_of (j := 0) rfl e0, rfl, _, rfl, ?_⟩
        refine ite2 (fun _ => ?_) (fun c => absurd (decide_eq_true rfl) c)
        refine ⟨_, rfl, p, ys, 1, _, rfl, rfl, same_seqT sG hqp, at_of (j := 1) rfl e1, _, Sum.inl (n : Int), rfl, z2, ?_, fun b o e => ?_, ?_⟩
        · unfold kd
          rw [List.length_map]
          have q1 := addAll_length ((t.parts.take j).filterMap unkN) []
          have q2 := List.length_filterMap_le unkN (t.parts.take j)
          rw [List.length_take] at q2
          have q3 := parts_length t
          exact Nat.lt_of_le_of_lt (show _ ≤ 100000 by simp only [List.length_nil] at q1; omega) (by decide)
        · rw [upd_ne (ne_of_none e hD)]
          exact z1 _ _ e
        · rw [upd_same, kd_put, htk, List.filterMap_append]
          show _ = some (HO.dK (kd (addAll [] (_ ++ [n]))))
          unfold addAll
          rw [List.foldl_append]
          rfl
      | kind k us =>
        obtain ⟨p, ys, rfl, hqp, hap⟩ := (show Dx K Fh y (.tuple [.str "kind", .str k, .list (Ty.toDs us)]) from hyd).tup_inv
        obtain ⟨x0, e0, h0⟩ := hap.get' (i := 0) rfl
        obtain rfl := h0.str_inv
        refine ⟨_, rfl, p, ys, 0, _, rfl, rfl, same_seqT sG hqp, at_of (j := 0) rfl e0, rfl, _, rfl, ?_⟩
        refine ite2 (fun c => absurd (V.str.inj (of_decide_eq_true c)) (by decide)) (fun _ => ⟨z1, ?_⟩)
        rw [z2, htk, List.filterMap_append]
        show _ = some (HO.dK (kd (addAll [] (_ ++ []))))
        rw [List.append_nil]
    · rintro G ⟨z1, z2⟩
      rw [hfl, List.take_length] at z2
      have hg2 := z1 _ _ (s1 _ _ k2)
      have l1 := addAll_length (numT t) []
      have l2 := numT_length t
      refine ⟨g, D, _, _, rfl, rfl, hg2, z2, hgD, ?_, ?_⟩
      · unfold kd
        rw [List.length_map, List.length_map]
        refine Nat.le_trans (show _ ≤ 200000 from ?_) (by decide)
        simp only [List.length_nil] at l1
        show (numsIn (ts.take i)).length + (addAll [] (numT t)).length ≤ 200000
        omega
      · refine ⟨⟨_, rfl⟩, fun b o e => ?_, ?_, ?_⟩
        · rw [upd_ne (ne_of_none e hg)]
          exact z1 _ _ (s1 _ _ (k1 _ _ e))
        · rw [upd_same, kd_merge, htake]
          unfold numsIn
          rw [List.foldl_append]
          rfl
        · rw [htake, sizes_append]
          unfold numsIn at k3 ⊢
          rw [List.foldl_append]
          have := addAll_length (addAll [] (numT t)) ((ts.take i).foldl (fun ns t => addAll ns (addAll [] (numT t))) [])
          simp only [List.length_nil] at l1
          show (addAll _ (addAll [] (numT t))).length ≤ _
          simp only [Ty.sizes]
          omega
  · rintro σ H' ⟨⟨w0, rfl⟩, k1, k2, k3⟩
    rw [hxl, List.take_length] at k2
    refine ⟨_, rfl, g, _, rfl, .inl k2, fun r hr0 => ?_⟩
    refine q r _ (k1.trans (same_new hr0 _)) (k1.free hr0) ?_
    rw [upd_same]
    unfold kd
    rw [List.map_map]
    rfl
/-- a def of one type, or the i-th error -/
def spOf (Z : Exs P K mg) (K : PySem.W.Frag) (i : Nat) (R : Ty → V → Hp → Hp → Prop) : Sp := fun vs H Q E => ∃ (v : V) (d : PyData), vs = [v] ∧ Dx K H v d ∧ smlD d = true ∧
  (∀ t : Ty, d = t.toD → t.ok = true → t.size ≤ 200 → ∀ x H', Same H H' → R t x H H' → Q x H') ∧ (isTyD d = false → ∀ dx H', Same H H' → H dx = none → H' dx = some (.xd [("value", v)]) → E (.ref (Z.c i)) (some dx) H')
def RNums : Ty → V → Hp → Hp → Prop := fun t x H H' => ∃ r, x = .ref r ∧ H r = none ∧ H' r = some (.lst ((numsIn [t]).map fun (n : Nat) => V.int (n : Int)))
theorem sc_unknowns_of : FnScope ["one"] ["one"] (defScope s_unknowns_of) := ⟨rfl, rfl, rfl, by decide +kernel, rfl, by decide +kernel, by decide +kernel⟩
theorem ok_unknowns_of (F : Fs K mg) (T : Txt K mg) (Z : Exs P K mg) : FnOk P w K mg base (L2.CX P w) 7 F.f_unknowns_of F.fd_unknowns_of ["one"] (spOf Z K 0 RNums) := by
  have SC := sc_unknowns_of
  have G_check_type : FnOk P w K mg base (L2.CX P w) 6 F.f_check_type F.fd_check_type ["value"] (spAsk Z K 0) := ok_check_type F T Z
  have B_check_type : Binds K F.fd_check_type ["value"] [] := F.d_check_type.fn.bindsN fun _ _ _ _ _ _ us hl => match us, hl with | [_], _ => rfl
  have G_numbers_in : FnOk P w K mg base CX0 3 F.f_numbers_in F.fd_numbers_in ["ones"] (spNumbers K) := ok_numbers_in F T Z
  have B_numbers_in : Binds K F.fd_numbers_in ["ones"] [] := F.d_numbers_in.fn.bindsN fun _ _ _ _ _ _ us hl => match us, hl with | [_], _ => rfl
  refine F.d_unknowns_of.fn.ok sc_unknowns_of (fun vs H Q E h => ?_) (fun cdv A outer s H vs Q E hr h => ?_)
  · obtain ⟨v, d, rfl, _⟩ := h; rfl
  obtain ⟨v, d, rfl, hd, hsm, q, qe⟩ := h
  refine ⟨_, (pss_cons (ps_expr (pe_call G_check_type (hr.mono (by decide)) rfl F.d_check_type.gl F.d_check_type.fn.kp B_check_type .nil (passes_call (takes_of rfl rfl rfl rfl) (fun _ _ _ _ h => h)) (pa_cons (pv 0) pa_nil)))
    (pss_one (ps_ret (pe_call G_numbers_in (hr.mono (by decide)) rfl F.d_numbers_in.gl F.d_numbers_in.fn.kp B_numbers_in .nil pass0 (pa_cons (pe_lst (pa_cons (pv 0) pa_nil)) pa_nil))))), ?_⟩
  refine ⟨_, rfl, v, d, rfl, hd, hsm, fun hty H1 s1 => ?_, qe⟩
  obtain ⟨t, rfl, ok, sz⟩ := (isTy_iff d).mp hty
  refine ⟨_, rfl, small _ (by show 1 ≤ 100000; decide), fun a ha => ?_⟩
  have s2 := same_new ha (.lst [v])
  refine ⟨a, [v], [t], H, rfl, SqL.of upd_same, .cons hd .nil, s1.trans s2, by simp [Ty.oks, ok], by simp only [Ty.sizes]; omega, fun r H' s3 hr0 hr1 => ?_⟩
  exact q t rfl ok sz _ H' (s1.trans (s2.trans s3)) ⟨r, rfl, (s1.trans s2).free hr0, hr1⟩
/-- a table of types -/
def TabOk (K : PySem.W.Frag) (Fh : Hp) (f : Nat → Option Ty) (kvs : List (Key × V)) : Prop := ∀ n : Nat, match valV kvs (Sum.inl (n : Int)) with
  | some x => ∃ u, f n = some u ∧ Dx K Fh x u.toD
  | none => f n = none
def ShOf (K : PySem.W.Frag) (Fh : Hp) (f : Nat → Option Ty) : V → PyData → Prop := fun v d => ∃ n u, f n = some u ∧ d = u.toD ∧ Dx K Fh v d
def spPut (K : PySem.W.Frag) (n : Nat) : Sp := fun vs H Q _ => ∃ (v : V) (t : Ty) (tb : Addr) (kvs : List (Key × V)) (f : Nat → Option Ty) (Fh : Hp), vs = [v, .ref tb] ∧ Dx K Fh v t.toD ∧ Same Fh H ∧ t.ok = true ∧ t.deep ≤ n ∧ H tb = some (.dK kvs) ∧ TabOk K Fh f kvs ∧
  ∀ (x : V) (S : List Addr) (H' : Hp), Same H H' → Tr K (ShOf K Fh f) H' x (t.put f).toD S → (∀ a ∈ S, H a = none) → Q x H'
def spPutB (K : PySem.W.Frag) : Nat → Sp
  | 0 => fun _ _ _ _ => False
  | n + 1 => spPut K n
theorem sc_put_there : FnScope ["one", "table", "part"] ["one", "table"] (defScope s_put_there) := ⟨rfl, rfl, rfl, by decide +kernel, rfl, by decide +kernel, by decide +kernel⟩
theorem put_step (F : Fs K mg) {n k : Nat} (G : FnOk P w K mg base CX0 (k + 1) F.f_put_there F.fd_put_there ["one", "table"] (spPutB K n)) : FnOk P w K mg base CX0 (k + 2) F.f_put_there F.fd_put_there ["one", "table"] (spPut K n) := by
  have SC := sc_put_there
  have B : Binds K F.fd_put_there ["one", "table"] [] := F.d_put_there.fn.bindsN fun _ _ _ _ _ _ us hl => match us, hl with | [_, _], _ => rfl
  refine F.d_put_there.fn.ok sc_put_there (fun vs H Q E h => ?_) (fun cdv A outer s H vs Q E hr h => ?_)
  · obtain ⟨v, t, tb, kvs, f, Fh, rfl, _⟩ := h
    rfl
  obtain ⟨v, t, tb, kvs, f, Fh, rfl, hd, sF, ok, hdeep, htb, hT, q⟩ := h
  have hu1 := hu_of hr
  refine ⟨_, PSs.nox (pss_cons (ps_if (pt_cmpR op_eq (pe_ix ix_tup (pv 0) pe_int (fun _ _ => rfl)) pe_str (nomark _)) (pss_one (ps_ret (pe_dget2 hu1 (pv 1) (pe_ix ix_tup (pv 0) pe_int (fun _ _ => rfl)) (pv 0) ⟨by rfl, by rfl, by rfl, by rfl⟩))) pss_nil)
    (pss_one (ps_ret (pe_tup (pa_cons pe_str (pa_cons (pe_ix ix_tup (pv 0) pe_int (fun _ _ => rfl)) (pa_cons (pe_lc (own := [("part", 2)]) (g := (gName 2)) (by rfl) SC.nd (pi_list (pe_ix ix_tup (pv 0) pe_int (fun _ _ => rfl))) (blkOk_by (own := [("part", 2)]) (N := ["one", "table", "part"]) (sc := defScope s_put_there) (by decide +kernel)) (fun _ _ _ _ _ => (pg_name (i := 2) SC.nd rfl (Or.inl rfl))) (fun _ _ _ _ _ => pts_nil) (fun _ _ _ _ _ => (pe_call G (hr.mono (by omega)) rfl F.d_put_there.gl F.d_put_there.fn.kp B .nil pass0 (pa_cons (pv 2) (pa_cons (pv 1) pa_nil))))) pa_nil))))))), ?_⟩
  cases t with
  | unk m =>
    obtain ⟨p, xs, rfl, hq, hall⟩ := (show Dx K Fh v (.tuple [.str "unknown", .int (m : Int)]) from hd).tup_inv
    obtain ⟨x0, e0, h0⟩ := hall.get' (i := 0) rfl
    obtain ⟨x1, e1, h1⟩ := hall.get' (i := 1) rfl
    obtain rfl := h0.str_inv
    cases h1
    have hq' := same_seqT sF hq
    refine ⟨_, rfl, p, xs, 0, _, rfl, rfl, hq', at_of (j := 0) rfl e0, rfl, _, rfl, ?_⟩
    refine ite2 (fun _ => ?_) (fun c => absurd (decide_eq_true rfl) c)
    refine ⟨_, rfl, tb, rfl, .inl ⟨kvs, .inl htb⟩, _, rfl, p, xs, 1, _, rfl, rfl, hq', at_of (j := 1) rfl e1, _, rfl, _, DGet.k (k := Sum.inl (m : Int)) htb, ?_⟩
    have hm := hT m
    cases hv : valV kvs (Sum.inl (m : Int)) with
    | none =>
      rw [hv] at hm
      refine q _ [] H same_refl ?_ (fun a z => by cases z)
      have e : (Ty.unk m).put f = .unk m := by
        rw [Ty.put, show f m = none from hm]
        rfl
      rw [e]
      exact tr_unk hq' hall
    | some x =>
      rw [hv] at hm
      obtain ⟨u, hfu, hx⟩ := hm
      refine q x [] H same_refl ?_ (fun a z => by cases z)
      have e : ((Ty.unk m).put f).toD = u.toD := by
        rw [Ty.put, hfu]
        rfl
      rw [e]
      exact .sh ⟨m, u, hfu, rfl, hx⟩
  | kind kw ts =>
    obtain ⟨p, xs, rfl, hq, hall⟩ := (show Dx K Fh v (.tuple [.str "kind", .str kw, .list (Ty.toDs ts)]) from hd).tup_inv
    obtain ⟨x0, e0, h0⟩ := hall.get' (i := 0) rfl
    obtain ⟨x1, e1, h1⟩ := hall.get' (i := 1) rfl
    obtain ⟨x2, e2, h2⟩ := hall.get' (i := 2) rfl
    obtain rfl := h0.str_inv
    obtain rfl := h1.str_inv
    obtain ⟨b, ys, rfl, hqb, hab⟩ := h2.lst_inv
    have hq' := same_seqT sF hq
    have hyl := hab.length
    rw [toDs_map, List.length_map] at hyl
    have h3 : ts.length ≤ 3 := sides_three (t := .kind kw ts) ok
    refine ⟨_, rfl, p, xs, 0, _, rfl, rfl, hq', at_of (j := 0) rfl e0, rfl, _, rfl, ?_⟩
    refine ite2 (fun c => absurd (V.str.inj (of_decide_eq_true c)) (by decide)) (fun _ => ?_)
    refine ⟨_, rfl, p, xs, 1, _, rfl, rfl, hq', at_of (j := 1) rfl e1, ?_⟩
    refine ⟨_, rfl, p, xs, 2, _, rfl, rfl, hq', at_of (j := 2) rfl e2, b, rfl, ⟨ys, sF.seq hqb⟩, fun D hD => ?_⟩
    refine lc_list (xs := ys) (fun i H' => Same H H' ∧ ∃ acc S, H' D = some (.lst acc) ∧ TrAll K (ShOf K Fh f) (outA H' D) acc (Ty.toDs ((ts.take i).map (Ty.put f))) S ∧ (∀ a ∈ S, H a = none) ∧ D ∉ S ∧ ∀ a ∈ S, H' a ≠ none) ⟨same_new hD _, [], [], upd_same, .nil, fun _ z => (by cases z), (by simp), fun _ z => (by cases z)⟩ ?_ ?_ ?_
    · rintro i H' _ ⟨z, _⟩
      exact z.seq (sF.seq hqb)
    · rintro i y H' hi ⟨z1, acc, S, z2, z3, z4, z5, z6⟩
      obtain ⟨d, hd1, hy⟩ := hab.get hi
      rw [toDs_map, List.getElem?_map] at hd1
      obtain ⟨u, hu1, rfl⟩ := Option.map_eq_some_iff.mp hd1
      have hum := List.mem_of_getElem? hu1
      have hul := (List.getElem?_eq_some_iff.mp hu1).1
      have huok : u.ok = true := oks_mem (oks_sides (t := .kind kw ts) ok) u hum
      obtain ⟨n', rfl⟩ : ∃ n', n = n' + 1 := ⟨n - 1, by
        simp only [Ty.deep] at hdeep
        omega⟩
      have hud : u.deep ≤ n' := by
        have := deep_mem hum
        simp only [Ty.deep] at hdeep
        omega
      refine ⟨rfl, _, rfl, _, rfl, y, u, tb, kvs, f, Fh, rfl, hy, sF.trans z1, huok, hud, z1 _ _ htb, hT, fun x S2 G2 s2 hx hf2 => ?_⟩
      have hal := z3.length
      rw [toDs_map, List.length_map, List.length_map, List.length_take] at hal
      refine ⟨acc, s2 _ _ z2, Nat.lt_of_le_of_lt (show acc.length ≤ 100 by omega) (by decide), fun a o e => ?_, acc ++ [x], S ++ S2, upd_same, ?_, fun a ha => ?_, fun ha => ?_, fun a ha => ?_⟩
      · rw [upd_ne (ne_of_none e hD)]
        exact s2 _ _ (z1 _ _ e)
      · have eT : (ts.take (i + 1)).map (Ty.put f) = (ts.take i).map (Ty.put f) ++ [u.put f] := by
          rw [List.take_add_one, hu1, List.map_append]
          rfl
        rw [eT, toDs_append]
        have eo : outA (upd G2 D (.lst (acc ++ [x]))) D = outA G2 D := outA_eq fun c hc => upd_ne hc
        rw [eo]
        have DS2 : D ∉ S2 := fun z => by
          have := hf2 D z
          rw [z2] at this
          cases this
        refine TrAll.snoc (z3.mono (outA_same fun c o _ e => s2 c o e)) (Tr.out (s2 _ _ z2) hx DS2) fun a ha z => ?_
        exact z6 a ha (hf2 a z)
      · rcases List.mem_append.mp ha with ha | ha
        · exact z4 a ha
        · exact z1.free (hf2 a ha)
      · rcases List.mem_append.mp ha with ha | ha
        · exact z5 ha
        · have := hf2 D ha
          rw [z2] at this
          cases this
      · by_cases haD : a = D
        · rw [haD, upd_same]
          exact fun z => by cases z
        rw [upd_ne haD]
        rcases List.mem_append.mp ha with ha | ha
        · cases e : H' a with
          | none => exact absurd e (z6 a ha)
          | some o =>
            rw [s2 _ _ e]
            exact fun z => by cases z
        · obtain ⟨l, e⟩ := Tr.there hx a ha
          rw [e]
          exact fun z => by cases z
    · rintro H' ⟨z1, acc, S, z2, z3, z4, z5, z6⟩
      rw [hyl, List.take_length] at z3
      refine ⟨small _ (by show 3 ≤ 100000; decide), fun p' hp' => ?_⟩
      have sp := same_new hp' (.tup [.str "kind", .str kw, .ref D])
      refine q (.ref p') (D :: S) _ (z1.trans sp) ?_ fun a ha => ?_
      · have e : (Ty.kind kw ts).put f = .kind kw (ts.map (Ty.put f)) := by
          rw [Ty.put, puts_map]
        rw [e]
        exact tr_kind upd_same (sp _ _ z2) (z3.mono (outA_sub.trans sp)) z5
      · rcases List.mem_cons.mp ha with rfl | ha
        · exact hD
        · exact z4 a ha
theorem ok_no {k : Nat} {f : Addr} {fd : FuncData} {ps : List Str} : FnOk P w K mg base CX0 k f fd ps (fun _ _ _ _ => False) := ⟨fun _ _ _ _ h => h.elim, fun _ _ _ _ _ _ _ _ _ _ _ _ _ h => h.elim⟩
theorem ok_put_there (F : Fs K mg) : ∀ n, FnOk P w K mg base CX0 (n + 2) F.f_put_there F.fd_put_there ["one", "table"] (spPut K n)
  | 0 => put_step F (k := 0) ok_no
  | n + 1 => put_step F (k := n + 1) (ok_put_there F n)
end
end K20

set_option Elab.async false
set_option linter.all false
set_option maxRecDepth 100000
set_option maxHeartbeats 1000000
namespace K20
open PySem PySem.Spec L2 Wy
section
variable {P : Program} {w : World} {K : PySem.W.Frag} {mg : Str → Option Value} {base : Heap}
/-- all laid anew -/
def shNo : V → PyData → Prop := fun _ _ => False
def spApart (K : PySem.W.Frag) : Sp := fun vs H Q _ => ∃ (v : V) (t : Ty) (Fh : Hp), vs = [v] ∧ Dx K Fh v t.toD ∧ Same Fh H ∧ t.ok = true ∧ t.deep ≤ 8 ∧ ∀ (x : V) (S : List Addr) (H' : Hp), Same H H' → Tr K shNo H' x t.toD S → (∀ a ∈ S, H a = none) → Q x H'
theorem sc_apart : FnScope ["one"] ["one"] (defScope s_apart) := ⟨rfl, rfl, rfl, by decide +kernel, rfl, by decide +kernel, by decide +kernel⟩
theorem ok_apart (F : Fs K mg) : FnOk P w K mg base CX0 11 F.f_apart F.fd_apart ["one"] (spApart K) := by
  have SC := sc_apart
  have G_put_there : FnOk P w K mg base CX0 10 F.f_put_there F.fd_put_there ["one", "table"] (spPut K 8) := ok_put_there F 8
  have B_put_there : Binds K F.fd_put_there ["one", "table"] [] := F.d_put_there.fn.bindsN fun _ _ _ _ _ _ us hl => match us, hl with | [_, _], _ => rfl
  refine F.d_apart.fn.ok sc_apart (fun vs H Q E h => ?_) (fun cdv A outer s H vs Q E hr h => ?_)
  · obtain ⟨v, t, Fh, rfl, _⟩ := h
    rfl
  obtain ⟨v, t, Fh, rfl, hd, sF, ok, hdeep, q⟩ := h
  refine ⟨_, PSs.nox (pss_one (ps_ret (pe_call G_put_there (hr.mono (by omega)) rfl F.d_put_there.gl F.d_put_there.fn.kp B_put_there .nil pass0 (pa_cons (pv 0) (pa_cons pe_dnewK pa_nil))))), ?_⟩
  refine ⟨_, rfl, fun d hd0 => ?_⟩
  have s1 := same_new hd0 (.dK [])
  refine ⟨v, t, d, [], fun _ => none, Fh, rfl, hd, sF.trans s1, ok, hdeep, upd_same, fun n => rfl, fun x S H' s2 hx hf => ?_⟩
  rw [put_none] at hx
  exact q x S H' (s1.trans s2) (hx.imp fun _ _ ⟨_, _, z, _⟩ => by cases z) fun a ha => s1.free (hf a ha)
def plainTs (ts : List Ty) : List Ty := ts.map (Ty.put (renum (numsIn ts)))
def spPlains (K : PySem.W.Frag) : Sp := fun vs H Q _ => ∃ (a : Addr) (xs : List V) (ts : List Ty) (Fh : Hp), vs = [.ref a] ∧ SqL K H a xs ∧ DxAll K Fh xs (Ty.toDs ts) ∧ Same Fh H ∧ Ty.oks ts = true ∧ Ty.sizes ts ≤ 100000 ∧ Ty.deeps ts ≤ 8 ∧
  ∀ (r : Addr) (acc : List V) (S : List Addr) (H' : Hp), Same H H' → H' r = some (.lst acc) → TrAll K shNo H' acc (Ty.toDs (plainTs ts)) S → r ∉ S → H r = none → (∀ a ∈ S, H a = none) → Q (.ref r) H'
theorem sc_plain_there : FnScope ["ones", "table", "one", "at", "number"] ["ones"] (defScope s_plain_there) := ⟨rfl, rfl, rfl, by decide +kernel, rfl, by decide +kernel, by decide +kernel⟩
theorem ok_plain_there (F : Fs K mg) (T : Txt K mg) (Z : Exs P K mg) : FnOk P w K mg base CX0 12 F.f_plain_there F.fd_plain_there ["ones"] (spPlains K) := by
  have SC := sc_plain_there
  have G_put_there : FnOk P w K mg base CX0 10 F.f_put_there F.fd_put_there ["one", "table"] (spPut K 8) := ok_put_there F 8
  have B_put_there : Binds K F.fd_put_there ["one", "table"] [] := F.d_put_there.fn.bindsN fun _ _ _ _ _ _ us hl => match us, hl with | [_, _], _ => rfl
  have G_apart : FnOk P w K mg base CX0 11 F.f_apart F.fd_apart ["one"] (spApart K) := ok_apart F
  have B_apart : Binds K F.fd_apart ["one"] [] := F.d_apart.fn.bindsN fun _ _ _ _ _ _ us hl => match us, hl with | [_], _ => rfl
  have G_numbers_in : FnOk P w K mg base CX0 3 F.f_numbers_in F.fd_numbers_in ["ones"] (spNumbers K) := ok_numbers_in F T Z
  have B_numbers_in : Binds K F.fd_numbers_in ["ones"] [] := F.d_numbers_in.fn.bindsN fun _ _ _ _ _ _ us hl => match us, hl with | [_], _ => rfl
  refine F.d_plain_there.fn.ok sc_plain_there (fun vs H Q E h => ?_) (fun cdv A outer s H vs Q E hr h => ?_)
  · obtain ⟨a, xs, ts, Fh, rfl, _⟩ := h
    rfl
  obtain ⟨a, xs, ts, Fh, rfl, hq, hall, sF, oks, hsz, hdp, q⟩ := h
  refine ⟨_, PSs.nox (pss_cons (ps_set (i := 1) SC.nd rfl (Or.inr rfl) (pe_dc (own := [("at", 3), ("number", 4)]) (g := gTup K 2 (gCons (gName 3) (gCons (gName 4) gNil))) (by rfl) SC.nd (pi_enum rfl T.n_enumerate (pa_cons (pe_call G_numbers_in (hr.mono (by omega)) rfl F.d_numbers_in.gl F.d_numbers_in.fn.kp B_numbers_in .nil pass0 (pa_cons (pv 0) pa_nil)) pa_nil)) (blkOk_by (own := [("at", 3), ("number", 4)]) (N := ["ones", "table", "one", "at", "number"]) (sc := defScope s_plain_there) (by decide +kernel)) (fun _ _ _ _ _ => (pg_tup (by rfl) (pgs_cons (pg_name (i := 3) SC.nd rfl (Or.inl rfl)) (pgs_cons (pg_name (i := 4) SC.nd rfl (Or.inl rfl)) pgs_nil)))) (fun _ _ _ _ _ => pts_nil) (fun _ _ _ _ _ => (pv 4)) (fun _ _ _ _ _ => (pe_tup (pa_cons pe_str (pa_cons (pv 3) pa_nil))))))
    (pss_one (ps_ret (pe_lc (own := [("one", 2)]) (g := (gName 2)) (by rfl) SC.nd (pi_list (pv 0)) (blkOk_by (own := [("one", 2)]) (N := ["ones", "table", "one", "at", "number"]) (sc := defScope s_plain_there) (by decide +kernel)) (fun _ _ _ _ _ => (pg_name (i := 2) SC.nd rfl (Or.inl rfl))) (fun _ _ _ _ _ => pts_nil) (fun _ _ _ _ _ => (pe_call G_apart (hr.mono (by omega)) rfl F.d_apart.gl F.d_apart.fn.kp B_apart .nil pass0 (pa_cons (pe_call G_put_there (hr.mono (by omega)) rfl F.d_put_there.gl F.d_put_there.fn.kp B_put_there .nil pass0 (pa_cons (pv 2) (pa_cons (pv 1) pa_nil))) pa_nil))))))), ?_⟩
  refine ⟨_, rfl, a, xs, ts, Fh, rfl, hq, hall, sF, oks, hsz, fun r H1 s1 hr0 hr1 => ?_⟩
  refine ⟨r, _, rfl, SqL.of hr1, fun D hD => ?_⟩
  have nd := numsIn_nodup ts
  have sD := same_new hD (.dK [])
  have hDr : r ≠ D := ne_of_none hr1 hD
  refine dc_walk walk_enum (fun j G => Same H1 G ∧ ∃ kvs, G D = some (.dK kvs) ∧ kvs.length = j ∧ ∀ n : Nat, match valV kvs (Sum.inl (n : Int)) with
    | some x => n ∈ (numsIn ts).take j ∧ ∃ p, x = .ref p ∧ G p = some (.tup [.str "unknown", .int ((numsIn ts).idxOf n : Nat)])
    | none => n ∉ (numsIn ts).take j) ⟨sD, [], upd_same, rfl, fun n => by simp [valV_nil]⟩ (fun j G _ ⟨z, _⟩ => SqL.of (z _ _ hr1)) ?_ ?_
  · rintro j y G0 G hj ⟨z1, kvs, z2, z3, z4⟩ ⟨T0, x, y, rfl, hT0, rfl, e1, e2⟩
    obtain rfl : V.int (j : Int) = x := Option.some.inj e1
    replace e2 : ((numsIn ts).map fun (n : Nat) => V.int (n : Int))[j]? = some y := e2
    rw [List.getElem?_map] at e2
    obtain ⟨n, hn, rfl⟩ := Option.map_eq_some_iff.mp e2
    have htk : (numsIn ts).take (j + 1) = (numsIn ts).take j ++ [n] := by
      rw [List.take_add_one, hn]
      rfl
    have hlt := (List.getElem?_eq_some_iff.mp hn).1
    have hnj : n ∉ (numsIn ts).take j := by
      have z := nd.sublist (List.take_sublist (j + 1) _)
      rw [htk, List.nodup_append] at z
      exact fun y => z.2.2 n y n (List.mem_singleton_self n) rfl
    have hix : (numsIn ts).idxOf n = j := by
      have e := (List.getElem?_eq_some_iff.mp hn).2
      rw [← e]
      exact nd.idxOf_getElem j hlt
    have hDT : D ≠ T0 := ne_of_none z2 hT0
    refine ⟨T0, _, rfl, SqT.of upd_same, rfl, _, _, rfl, _, _, rfl, rfl, rfl, ?_⟩
    refine ⟨_, rfl, _, rfl, small _ (by show 2 ≤ 100000; decide), fun p hp => ?_⟩
    have sT := same_new hT0 (.tup [.int (j : Int), .int (n : Int)])
    have sP := same_new hp (.tup [.str "unknown", .int (j : Int)])
    have sTP := sT.trans sP
    have vn : valV kvs (Sum.inl (n : Int)) = none := by
      have z := z4 n
      cases e : valV kvs (Sum.inl (n : Int)) with
      | none => rfl
      | some x =>
        rw [e] at z
        exact absurd z.1 hnj
    have hDp : D ≠ p := ne_of_none (sT _ _ z2) hp
    refine ⟨kvs, Sum.inl (n : Int), rfl, sTP _ _ z2, ?_, fun b o e => ?_, putK kvs (Sum.inl (n : Int)) (.ref p), upd_same, ?_, fun m => ?_⟩
    · rw [z3]
      have := numsIn_le ts
      exact Nat.lt_of_le_of_lt (show j ≤ 100000 by omega) (by decide)
    · rw [upd_ne (ne_of_none e hD)]
      exact sTP _ _ (z1 _ _ e)
    · rw [putK_new _ vn, List.length_append, z3]
      rfl
    · rw [valV_put]
      by_cases hm : m = n
      · subst hm
        rw [if_pos rfl]
        refine ⟨by rw [htk]; simp, p, rfl, ?_⟩
        rw [upd_ne hDp.symm, hix]
        exact upd_same
      · have ne : ¬ (Sum.inl (m : Int) : Key) = Sum.inl (n : Int) := fun z => hm (by
          have := Sum.inl.inj z
          exact_mod_cast this)
        rw [if_neg ne]
        have z := z4 m
        cases e : valV kvs (Sum.inl (m : Int)) with
        | none =>
          rw [e] at z
          rw [htk]
          exact fun y => (List.mem_append.mp y).elim z fun y => hm (List.mem_singleton.mp y)
        | some x =>
          rw [e] at z
          obtain ⟨m1, q1, rfl, hq1⟩ := z
          refine ⟨by rw [htk]; exact List.mem_append_left _ m1, q1, rfl, ?_⟩
          have nq : q1 ≠ D := fun y => by
            rw [y, z2] at hq1
            cases hq1
          rw [upd_ne nq]
          exact sTP _ _ hq1
  · rintro G ⟨z1, kvs, z2, z3, z4⟩
    rw [List.length_map, List.take_length] at z4
    have sG : Same H G := s1.trans z1
    have tab : TabOk K G (renum (numsIn ts)) kvs := fun n => by
      have z := z4 n
      cases e : valV kvs (Sum.inl (n : Int)) with
      | none =>
        rw [e] at z
        show renum (numsIn ts) n = none
        unfold renum
        exact if_neg z
      | some x =>
        rw [e] at z
        obtain ⟨m1, p, rfl, hp⟩ := z
        refine ⟨.unk ((numsIn ts).idxOf n), ?_, ?_⟩
        · unfold renum
          exact if_pos m1
        · exact .tup (SqT.of hp) (.cons (.str _) (.cons (.int _) .nil))
    have hxl := hall.length
    rw [toDs_map, List.length_map] at hxl
    refine ⟨_, rfl, a, rfl, ⟨xs, sG.seq hq⟩, fun R hR => ?_⟩
    refine lc_list (xs := xs) (fun i H' => Same G H' ∧ ∃ acc S, H' R = some (.lst acc) ∧ TrAll K shNo (outA H' R) acc (Ty.toDs ((ts.take i).map (Ty.put (renum (numsIn ts))))) S ∧ (∀ a ∈ S, G a = none) ∧ R ∉ S ∧ ∀ a ∈ S, H' a ≠ none) ⟨same_new hR _, [], [], upd_same, .nil, fun _ z => (by cases z), (by simp), fun _ z => (by cases z)⟩ ?_ ?_ ?_
    · rintro i H' _ ⟨y1, _⟩
      exact y1.seq (sG.seq hq)
    · rintro i x H' hi ⟨y1, acc, S, y2, y3, y4, y5, y6⟩
      obtain ⟨d, hd1, hx⟩ := hall.get hi
      rw [toDs_map, List.getElem?_map] at hd1
      obtain ⟨u, hu1, rfl⟩ := Option.map_eq_some_iff.mp hd1
      have hum := List.mem_of_getElem? hu1
      have huok : u.ok = true := oks_mem oks u hum
      have hud : u.deep ≤ 8 := Nat.le_trans (deep_mem hum) hdp
      refine ⟨rfl, _, rfl, _, rfl, x, u, D, kvs, renum (numsIn ts), G, rfl, hx.mono (sF.trans sG), y1, huok, hud, y1 _ _ z2, tab, fun y S1 G2 s2 hy hf1 => ?_⟩
      have hyd : Dx K G2 y (u.put (renum (numsIn ts))).toD := Tr.dx (fun v d ⟨n, u, _, e, hdx⟩ => hdx.mono (y1.trans s2)) hy
      refine ⟨y, u.put (renum (numsIn ts)), G2, rfl, hyd, same_refl, by rw [ok_renum]; exact huok, by rw [deep_renum]; exact hud, fun x3 S2 G3 s3 hx3 hf2 => ?_⟩
      have hal := y3.length
      rw [toDs_map, List.length_map, List.length_map, List.length_take] at hal
      have hxs := sizes_ge ts
      have s23 := s2.trans s3
      have hf2' : ∀ a ∈ S2, H' a = none := fun a ha => s2.free (hf2 a ha)
      have hRS2 : R ∉ S2 := fun z => by
        have := hf2' R z
        rw [y2] at this
        cases this
      refine ⟨acc, s23 _ _ y2, Nat.lt_of_le_of_lt (show acc.length ≤ 100000 by omega) (by decide), fun a o e => ?_, acc ++ [x3], S ++ S2, upd_same, ?_, fun a ha => ?_, fun ha => ?_, fun a ha => ?_⟩
      · rw [upd_ne (ne_of_none e hR)]
        exact s23 _ _ (y1 _ _ e)
      · have eT : (ts.take (i + 1)).map (Ty.put (renum (numsIn ts))) = (ts.take i).map (Ty.put (renum (numsIn ts))) ++ [u.put (renum (numsIn ts))] := by
          rw [List.take_add_one, hu1, List.map_append]
          rfl
        rw [eT, toDs_append]
        have eo : outA (upd G3 R (.lst (acc ++ [x3]))) R = outA G3 R := outA_eq fun c hc => upd_ne hc
        rw [eo]
        exact TrAll.snoc (y3.mono (outA_same fun c o _ e => s23 c o e)) (Tr.out (s23 _ _ y2) hx3 hRS2) fun a ha z => y6 a ha (hf2' a z)
      · rcases List.mem_append.mp ha with ha | ha
        · exact y4 a ha
        · exact y1.free (hf2' a ha)
      · rcases List.mem_append.mp ha with ha | ha
        · exact y5 ha
        · exact hRS2 ha
      · by_cases haD : a = R
        · rw [haD, upd_same]
          exact fun z => by cases z
        rw [upd_ne haD]
        rcases List.mem_append.mp ha with ha | ha
        · cases e : H' a with
          | none => exact absurd e (y6 a ha)
          | some o =>
            rw [s23 _ _ e]
            exact fun z => by cases z
        · obtain ⟨l, e⟩ := Tr.there hx3 a ha
          rw [e]
          exact fun z => by cases z
    · rintro H' ⟨y1, acc, S, y2, y3, y4, y5, y6⟩
      rw [hxl, List.take_length] at y3
      exact q R acc S H' (sG.trans y1) y2 (y3.mono outA_sub) y5 (sG.free hR) fun a ha => sG.free (y4 a ha)
def plain1 (t : Ty) : Ty := t.put (renum (numsIn [t]))
def spPlain (Z : Exs P K mg) (K : PySem.W.Frag) : Sp := fun vs H Q E => ∃ (v : V) (d : PyData), vs = [v] ∧ Dx K H v d ∧ smlD d = true ∧
  ((∃ t : Ty, d = t.toD ∧ t.ok = true ∧ t.size ≤ 200 ∧ t.deep ≤ 8 ∧ ∀ x S H', Same H H' → Tr K shNo H' x (plain1 t).toD S → (∀ a ∈ S, H a = none) → Q x H') ∨
    (isTyD d = false ∧ ∀ dx H', Same H H' → H dx = none → H' dx = some (.xd [("value", v)]) → E (.ref (Z.c 0)) (some dx) H'))
theorem sc_plain_type : FnScope ["one"] ["one"] (defScope s_plain_type) := ⟨rfl, rfl, rfl, by decide +kernel, rfl, by decide +kernel, by decide +kernel⟩
theorem ok_plain_type (F : Fs K mg) (T : Txt K mg) (Z : Exs P K mg) : FnOk P w K mg base (L2.CX P w) 13 F.f_plain_type F.fd_plain_type ["one"] (spPlain Z K) := by
  have SC := sc_plain_type
  have G_check_type : FnOk P w K mg base (L2.CX P w) 6 F.f_check_type F.fd_check_type ["value"] (spAsk Z K 0) := ok_check_type F T Z
  have B_check_type : Binds K F.fd_check_type ["value"] [] := F.d_check_type.fn.bindsN fun _ _ _ _ _ _ us hl => match us, hl with | [_], _ => rfl
  have G_plain_there : FnOk P w K mg base CX0 12 F.f_plain_there F.fd_plain_there ["ones"] (spPlains K) := ok_plain_there F T Z
  have B_plain_there : Binds K F.fd_plain_there ["ones"] [] := F.d_plain_there.fn.bindsN fun _ _ _ _ _ _ us hl => match us, hl with | [_], _ => rfl
  refine F.d_plain_type.fn.ok sc_plain_type (fun vs H Q E h => ?_) (fun cdv A outer s H vs Q E hr h => ?_)
  · obtain ⟨v, d, rfl, _⟩ := h
    rfl
  obtain ⟨v, d, rfl, hd, hsm, q⟩ := h
  refine ⟨_, (pss_cons (ps_expr (pe_call G_check_type (hr.mono (by omega)) rfl F.d_check_type.gl F.d_check_type.fn.kp B_check_type .nil (passes_call (takes_of rfl rfl rfl rfl) (fun _ _ _ _ h => h)) (pa_cons (pv 0) pa_nil)))
    (pss_one (ps_ret (pe_ix ix_list (pe_call G_plain_there (hr.mono (by omega)) rfl F.d_plain_there.gl F.d_plain_there.fn.kp B_plain_there .nil pass0 (pa_cons (pe_lst (pa_cons (pv 0) pa_nil)) pa_nil)) pe_int (fun _ _ => rfl))))), ?_⟩
  rcases q with ⟨t, rfl, ok, sz, dp, q⟩ | ⟨hno, qe⟩
  · refine ⟨_, rfl, v, _, rfl, hd, hsm, fun _ H1 s1 => ?_, fun z => ?_⟩
    · refine ⟨_, rfl, small _ (by show 1 ≤ 100000; decide), fun a ha => ?_⟩
      have s2 := same_new ha (.lst [v])
      refine ⟨a, [v], [t], H, rfl, SqL.of upd_same, .cons hd .nil, s1.trans s2, by simp [Ty.oks, ok], by simp only [Ty.sizes]; omega, by simp only [Ty.deeps]; omega, fun r acc S H' s3 hr hacc hrS hr0 hS => ?_⟩
      cases hacc with
      | cons h1 h2 _ =>
        cases h2
        refine ⟨r, _, 0, _, rfl, rfl, SqL.of hr, at_of (j := 0) rfl rfl, ?_⟩
        exact q _ _ H' (s1.trans (s2.trans s3)) h1 fun b hb => (s1.trans s2).free (hS b (by simp [hb]))
    · rw [(isTy_iff _).mpr ⟨t, rfl, ok, sz⟩] at z
      cases z
  · refine ⟨_, rfl, v, d, rfl, hd, hsm, fun z => ?_, fun _ => qe⟩
    rw [hno] at z
    cases z
def typesB : PyData → Bool
  | .list ds => ds.all isTyD
  | _ => false
def spPlainL (Z : Exs P K mg) (K : PySem.W.Frag) : Sp := fun vs H Q E => ∃ (v : V) (d : PyData), vs = [v] ∧ Dx K H v d ∧ smlD d = true ∧ (∀ ds, d = .list ds → ds.length ≤ 100000) ∧
  ((∃ ts : List Ty, d = .list (Ty.toDs ts) ∧ Ty.oks ts = true ∧ (∀ t ∈ ts, t.size ≤ 200) ∧ Ty.sizes ts ≤ 100000 ∧ Ty.deeps ts ≤ 8 ∧
      ∀ (r : Addr) (acc : List V) (S : List Addr) (H' : Hp), Same H H' → H' r = some (.lst acc) → TrAll K shNo H' acc (Ty.toDs (plainTs ts)) S → r ∉ S → H r = none → (∀ a ∈ S, H a = none) → Q (.ref r) H') ∨
    (typesB d = false ∧ ∀ dx H', Same H H' → H dx = none → H' dx = some (.xd [("value", v)]) → E (.ref (Z.c 1)) (some dx) H'))
theorem sc_plain_types : FnScope ["types", "one"] ["types"] (defScope s_plain_types) := ⟨rfl, rfl, rfl, by decide +kernel, rfl, by decide +kernel, by decide +kernel⟩
theorem ok_plain_types (F : Fs K mg) (T : Txt K mg) (Z : Exs P K mg) : FnOk P w K mg base (L2.CX P w) 13 F.f_plain_types F.fd_plain_types ["types"] (spPlainL Z K) := by
  have SC := sc_plain_types
  have G_is_type : FnOk P w K mg base CX0 5 F.f_is_type F.fd_is_type ["value"] (spB K isTyD) := ok_is_type F T Z
  have B_is_type : Binds K F.fd_is_type ["value"] [] := F.d_is_type.fn.bindsN fun _ _ _ _ _ _ us hl => match us, hl with | [_], _ => rfl
  have G_plain_there : FnOk P w K mg base CX0 12 F.f_plain_there F.fd_plain_there ["ones"] (spPlains K) := ok_plain_there F T Z
  have B_plain_there : Binds K F.fd_plain_there ["ones"] [] := F.d_plain_there.fn.bindsN fun _ _ _ _ _ _ us hl => match us, hl with | [_], _ => rfl
  refine F.d_plain_types.fn.ok sc_plain_types (fun vs H Q E h => ?_) (fun cdv A outer s H vs Q E hr h => ?_)
  · obtain ⟨v, d, rfl, _⟩ := h
    rfl
  obtain ⟨v, d, rfl, hd, hsm, hlen, q⟩ := h
  refine ⟨_, (pss_cons (ps_if (PW.pt (pw_or (pt_not (pt_val (pe_callB call_isD (by rfl) T.n_isinstance (by decide +kernel) (pa_cons (pv 0) (pa_cons (pe_bltn (v := .ty "list") (by rfl) T.n_list (by decide +kernel) rfl) pa_nil))))) (pw_or1 (pt_not (pt_val (pe_callB (cr_all rfl) (by rfl) T.n_all (by decide +kernel) (pa_cons (pe_lc (own := [("one", 1)]) (g := (gName 1)) (by rfl) SC.nd (pi_list (pv 0)) (blkOk_by (own := [("one", 1)]) (N := ["types", "one"]) (sc := defScope s_plain_types) (by decide +kernel)) (fun _ _ _ _ _ => (pg_name (i := 1) SC.nd rfl (Or.inl rfl))) (fun _ _ _ _ _ => pts_nil) (fun _ _ _ _ _ => (pe_call G_is_type (hr.mono (by omega)) rfl F.d_is_type.gl F.d_is_type.fn.kp B_is_type .nil pass0 (pa_cons (pv 1) pa_nil)))) pa_nil))))))) (pss_one (ps_raise rfl (takes_of rfl rfl rfl rfl) (pmk_mkE (Z.m 1 (by decide)) (Z.raises rfl 1 (by decide)) Z.GW (hr.mono (by omega)) rfl (Z.g 1 "InvalidTypes" rfl) Z.bw (pa_cons (pv 0) pa_nil)))) pss_nil)
    (pss_one (ps_ret (pe_call G_plain_there (hr.mono (by omega)) rfl F.d_plain_there.gl F.d_plain_there.fn.kp B_plain_there .nil pass0 (pa_cons (pv 0) pa_nil))))), ?_⟩
  refine ⟨_, rfl, v, d, _, rfl, hd, by decide, _, rfl, ?_⟩
  refine ite2 (fun c => ?_) (fun c => ?_)
  · rcases q with ⟨ts, rfl, _⟩ | ⟨hno, qe⟩
    · cases c
    · exact raise_why (Z.wc 1 (by decide)) (fun dx H' s h1 h2 => qe dx H' s h1 h2) rfl
  match d, hd, hsm, hlen, q, c with
  | .list ds, hd, hsm, hlen, q, _ =>
  obtain ⟨a, xs, rfl, hq, hall⟩ := hd.lst_inv
  have hxl := hall.length
  have hdl := hlen ds rfl
  have hsm' := smlAll_mem (show smlAll ds = true from hsm)
  refine ⟨_, rfl, a, rfl, ⟨xs, hq⟩, fun D hD => ?_⟩
  refine lc_list (xs := xs) (fun i H' => Same H H' ∧ H' D = some (.lst (((ds.take i).map isTyD).map V.bl))) ⟨same_new hD _, upd_same⟩ ?_ ?_ ?_
  · rintro i H' _ ⟨y1, _⟩
    exact y1.seq hq
  · rintro i x H' hi ⟨y1, y2⟩
    obtain ⟨e, he, hx⟩ := hall.get hi
    have hlt := (List.getElem?_eq_some_iff.mp hi).1
    refine ⟨rfl, _, rfl, x, e, rfl, hx.mono y1, hsm' e (List.mem_of_getElem? he), fun G s1 => ⟨_, s1 _ _ y2, ?_, fun b o z => ?_, ?_⟩⟩
    · rw [List.length_map, List.length_map, List.length_take]
      exact Nat.lt_of_le_of_lt (show _ ≤ 100000 by omega) (by decide)
    · rw [upd_ne (ne_of_none z hD)]
      exact s1 _ _ (y1 _ _ z)
    · rw [upd_same, List.take_add_one, he, List.map_append, List.map_append]
      rfl
  · rintro H1 ⟨y1, y2⟩
    rw [hxl, List.take_length] at y2
    refine ⟨D, ds.map isTyD, rfl, SqL.of y2, _, rfl, ?_⟩
    have e : (ds.map isTyD).all id = ds.all isTyD := by rw [List.all_map]; rfl
    rw [e]
    refine ite2 (fun c => ?_) (fun c => ?_)
    · rcases q with ⟨ts, ets, oks, hs, _⟩ | ⟨hno, qe⟩
      · have : ds.all isTyD = true := by
          rw [PyData.list.inj ets, toDs_map, List.all_map, List.all_eq_true]
          exact fun t ht => (isTy_iff _).mpr ⟨t, rfl, oks_mem oks t ht, hs t ht⟩
        rw [this] at c
        cases c
      · exact raise_why (Z.wc 1 (by decide)) (fun dx H' s h1 h2 => qe dx H' (y1.trans s) (y1.free h1) h2) rfl
    · have call : ds.all isTyD = true := by simpa using c
      rcases q with ⟨ts, ets, oks, hs, hsz, hdp, q⟩ | ⟨hno, _⟩
      · rw [PyData.list.inj ets] at hall
        exact ⟨_, rfl, a, xs, ts, H, rfl, y1.seq hq, hall, y1, oks, hsz, hdp, fun r acc S H' s1 hr hacc hrS hr0 hS => q r acc S H' (y1.trans s1) hr hacc hrS (y1.free hr0) fun b hb => y1.free (hS b hb)⟩
      · rw [show typesB (.list ds) = ds.all isTyD from rfl, call] at hno
        cases hno
end
end K20

set_option Elab.async false
set_option linter.all false
set_option maxRecDepth 100000
set_option maxHeartbeats 4000000
namespace K20
open PySem PySem.Spec L2 Wy
abbrev sPurse : Stmt := s__law_purse
abbrev sDraw : Stmt := s__law_draw
abbrev sPick : Stmt := s__law_pick
abbrev sShuf : Stmt := s__law_shuffled
/-- a purse stands at p, at most n draws by its hash so far -/
def Purse (H : Hp) (p l : Addr) (n : Nat) : Prop := ∃ (cs : List Int) (i : Nat) (cur k seed : Int), H p = some (.lst [.ref l, .int (i : Int), .int cur, .int k, .int seed]) ∧ H l = some (.lst (cs.map V.int)) ∧ l ≠ p ∧
  (∀ c ∈ cs, 0 ≤ c) ∧ cs.length ≤ 63 ∧ i ≤ cs.length ∧ 0 ≤ cur ∧ 0 ≤ k ∧ k ≤ (n : Int) ∧ 0 ≤ seed ∧ seed < 2147483647
theorem Purse.set {H : Hp} {p l : Addr} {cs : List Int} {i : Nat} {cur k seed : Int} {n : Nat} {o : HO} (hl : H l = some (.lst (cs.map V.int))) (hne : l ≠ p) (h1 : ∀ c ∈ cs, 0 ≤ c) (h2 : cs.length ≤ 63) (hi : i ≤ cs.length) (h3 : 0 ≤ cur) (h4 : 0 ≤ k) (h5 : k ≤ (n : Int)) (h6 : 0 ≤ seed) (h7 : seed < 2147483647)
    (ho : o = .lst [.ref l, .int (i : Int), .int cur, .int k, .int seed]) : Purse (upd H p o) p l n := by
  subst ho
  exact ⟨cs, i, cur, k, seed, upd_same, by rw [upd_ne hne]; exact hl, hne, h1, h2, hi, h3, h4, h5, h6, h7⟩
theorem Purse.mono {H : Hp} {p l : Addr} {n m : Nat} (h : Purse H p l n) (le : n ≤ m) : Purse H p l m := by
  obtain ⟨cs, i, cur, k, seed, a1, a2, a3, a4, a5, a6, a7, a8, a9, b1, b2⟩ := h
  exact ⟨cs, i, cur, k, seed, a1, a2, a3, a4, a5, a6, a7, a8, by omega, b1, b2⟩
/-- the purse is as it was where its two lists are -/
theorem Purse.ex {H H' : Hp} {p l : Addr} {n : Nat} (h : Purse H p l n) (k1 : ∀ o, H p = some o → H' p = some o) (k2 : ∀ o, H l = some o → H' l = some o) : Purse H' p l n := by
  obtain ⟨cs, i, cur, k, seed, a1, a2, r⟩ := h
  exact ⟨cs, i, cur, k, seed, k1 _ a1, k2 _ a2, r⟩
theorem Purse.at_ {H : Hp} {p l : Addr} {n : Nat} (h : Purse H p l n) : (∃ o, H p = some o) ∧ (∃ o, H l = some o) ∧ l ≠ p := by
  obtain ⟨cs, i, cur, k, seed, a1, a2, a3, _⟩ := h
  exact ⟨⟨_, a1⟩, ⟨_, a2⟩, a3⟩
def spDraw : Sp := fun vs H Q _ => ∃ (p lc : Addr) (m : Int) (n : Nat), vs = [.ref p, .int m] ∧ Purse H p lc n ∧ n ≤ 1000000 ∧ 0 < m ∧ m < 1000000 ∧
  ∀ (r : Int) (H' : Hp), 0 ≤ r → r < m → Purse H' p lc (n + 1) → (∀ b, b ≠ p → H' b = H b) → Q (.int r) H'
structure Txt0 (mg : Str → Option Value) : Prop where
  n_len : mg "len" = none
  n_int : mg "int" = none
  n_list : mg "list" = none
  n_range : mg "range" = none
  n_tuple : mg "tuple" = none
theorem Txt.t0 {K : PySem.W.Frag} {mg : Str → Option Value} (T : Txt K mg) : Txt0 mg := ⟨T.n_len, T.n_int, T.n_list, T.n_range, T.n_tuple⟩
section
variable {P : Program} {w : World} {K : PySem.W.Frag} {mg : Str → Option Value} {base : Heap}
theorem scDraw : FnScope ["purse", "many", "told", "stirred"] ["purse", "many"] (defScope sDraw) := ⟨rfl, rfl, rfl, by decide +kernel, rfl, by decide +kernel, by decide +kernel⟩
theorem ok_draw {f : Addr} {fd : FuncData} (D : Df K mg "_law_draw" sDraw f fd) (T : Txt0 mg) : FnOk P w K mg base CX0 1 f fd ["purse", "many"] spDraw := by
  have SC := scDraw
  refine D.fn.ok scDraw (fun vs H Q E h => ?_) (fun cdv A outer s H vs Q E hr h => ?_)
  · obtain ⟨p, lc, m, n, rfl, _⟩ := h
    rfl
  obtain ⟨p, l, m, n, rfl, hP, hn, hm0, hm, q⟩ := h
  refine ⟨_, PSs.nox (Evl.pss_cut (ps_if (PW.pt (pw_and (pt_cmpR op_lt (pe_ix ix_list (pv 0) pe_int (fun _ _ => rfl)) (pv 1) (nomark _)) (pw_and1 (pt_cmpR op_lt (pe_ix ix_list (pv 0) pe_int (fun _ _ => rfl)) (pe_callB call_len (by rfl) T.n_len (by decide +kernel) (pa_cons (pe_ix ix_list (pv 0) pe_int (fun _ _ => rfl)) pa_nil)) (nomark _))))) (pss_cons (ps_asg (pe_ix ix_list (pe_ix ix_list (pv 0) pe_int (fun _ _ => rfl)) (pe_ix ix_list (pv 0) pe_int (fun _ _ => rfl)) (fun _ _ => rfl)) (pg_sub (pv 0) pe_int set_list))
    (pss_one (ps_augS (pv 0) pe_int get_list pe_int ip_add set_list))) pss_nil)
    (pss_cons (ps_if (pt_cmpR op_ge (pe_ix ix_list (pv 0) pe_int (fun _ _ => rfl)) (pv 1) (nomark _)) (pss_cons (ps_set (i := 2) SC.nd rfl (Or.inl rfl) (pe_op op_mod (pe_callTy call_int1 (by rfl) T.n_int (by decide +kernel) (pa_cons (pe_ix ix_list (pv 0) pe_int (fun _ _ => rfl)) pa_nil)) (pv 1)))
    (pss_cons (ps_asg (pe_op op_fdiv (pe_ix ix_list (pv 0) pe_int (fun _ _ => rfl)) (pv 1)) (pg_sub (pv 0) pe_int set_list))
    (pss_one (ps_ret (pv 2))))) pss_nil)
    (pss_cons (ps_augS (pv 0) pe_int get_list pe_int ip_add set_list)
    (pss_cons (ps_set (i := 3) SC.nd rfl (Or.inl rfl) (pe_op op_mod (pe_callTy call_int1 (by rfl) T.n_int (by decide +kernel) (pa_cons (pe_op op_mul (pe_op op_add (pe_op op_mul (pe_ix ix_list (pv 0) pe_int (fun _ _ => rfl)) (pe_ix ix_list (pv 0) pe_int (fun _ _ => rfl))) (pe_ix ix_list (pv 0) pe_int (fun _ _ => rfl))) pe_int) pa_nil)) pe_int))
    (pss_one (ps_ret (pe_op op_mod (pe_callTy call_int1 (by rfl) T.n_int (by decide +kernel) (pa_cons (pe_op op_mod (pe_callTy call_int1 (by rfl) T.n_int (by decide +kernel) (pa_cons (pe_op op_mul (pv 3) (pv 3)) pa_nil)) pe_int) pa_nil)) (pv 1)))))))), ?_⟩
  -- the purse's list taken on, perhaps
  refine ⟨fun σ' H' => σ' = start ["purse", "many", "told", "stirred"] [.ref p, .int m] ∧ Purse H' p l n ∧ ∀ b, b ≠ p → H' b = H b, ?_, ?_⟩
  · obtain ⟨cs, i, cur, k, seed, hp, hl, hne, h1, h2, hi, h3, h4, h5, h6, h7⟩ := hP
    have keep : Purse H p l n := ⟨cs, i, cur, k, seed, hp, hl, hne, h1, h2, hi, h3, h4, h5, h6, h7⟩
    refine ⟨_, rfl, p, _, 2, _, rfl, rfl, SqL.of hp, at_of (j := 2) rfl rfl, _, rfl, _, _, rfl, rfl, _, rfl, ?_⟩
    refine ite2 (fun c => ?_) (fun c => ?_)
    · refine ⟨_, rfl, p, _, 1, _, rfl, rfl, SqL.of hp, at_of (j := 1) rfl rfl, _, rfl, p, _, 0, _, rfl, rfl, SqL.of hp, at_of (j := 0) rfl rfl, _, _, rfl, .inl ⟨_, SqL.of hl, rfl⟩, _, _, rfl, rfl, _, rfl, ?_⟩
      refine ite2 (fun c2 => ?_) (fun c2 => ?_)
      · have hlt : i < cs.length := by
          have z := of_decide_eq_true c2
          rw [List.length_map] at z
          omega
        have hg : (cs.map V.int)[i]? = some (.int cs[i]) := by rw [List.getElem?_map, List.getElem?_eq_getElem hlt]; rfl
        refine ⟨_, rfl, p, _, 0, _, rfl, rfl, SqL.of hp, at_of (j := 0) rfl rfl, _, rfl, p, _, 1, _, rfl, rfl, SqL.of hp, at_of (j := 1) rfl rfl, l, _, _, _, rfl, rfl, SqL.of hl, at_of (j := i) rfl hg, _, rfl, p, _, 2, 2, rfl, rfl, hp, rfl, ?_⟩
        have hp2 : upd H p (.lst [.ref l, .int (i : Int), .int cs[i], .int k, .int seed]) p = some (.lst [.ref l, .int (i : Int), .int cs[i], .int k, .int seed]) := upd_same
        refine ⟨_, rfl, p, _, _, 1, rfl, rfl, SqL.of hp2, rfl, by decide, _, _, rfl, rfl, p, _, 1, 1, rfl, rfl, hp2, rfl, ?_⟩
        refine ⟨rfl, ?_, fun b hb => by rw [upd_ne hb, upd_ne hb]⟩
        rw [upd_upd]
        exact Purse.set (i := i + 1) hl hne h1 h2 (by omega) (h1 _ (List.getElem_mem hlt)) h4 h5 h6 h7 rfl
      · exact ⟨rfl, keep, fun _ _ => rfl⟩
    · exact ⟨rfl, keep, fun _ _ => rfl⟩
  · rintro σ' H1 ⟨rfl, hP1, hk⟩
    obtain ⟨cs, i, cur, k, seed, hp, hl, hne, h1, h2, hi, h3, h4, h5, h6, h7⟩ := hP1
    refine ⟨_, rfl, p, _, 2, _, rfl, rfl, SqL.of hp, at_of (j := 2) rfl rfl, _, rfl, _, _, rfl, rfl, _, rfl, ?_⟩
    refine ite2 (fun c => ?_) (fun c => ?_)
    · refine ⟨_, rfl, p, _, 2, _, rfl, rfl, SqL.of hp, at_of (j := 2) rfl rfl, .inl ⟨_, rfl, _, rfl, _, _, rfl, rfl, hm0, ?_⟩⟩
      refine ⟨_, rfl, p, _, 2, _, rfl, rfl, SqL.of hp, at_of (j := 2) rfl rfl, _, rfl, _, _, rfl, rfl, ⟨hm0, by omega⟩, _, rfl, p, _, 2, 2, rfl, rfl, hp, rfl, _, rfl, ?_⟩
      refine q _ _ (Int.emod_nonneg _ (by omega)) (Int.emod_lt_of_pos _ hm0) ?_ (fun b hb => by rw [upd_ne hb]; exact hk b hb)
      exact Purse.set (i := i) hl hne h1 h2 hi (Int.ediv_nonneg h3 (by omega)) h4 (by omega) h6 h7 rfl
    · refine ⟨_, rfl, p, _, _, 3, rfl, rfl, SqL.of hp, rfl, by decide, _, _, rfl, rfl, p, _, 3, 3, rfl, rfl, hp, rfl, ?_⟩
      have hp2 : upd H1 p (.lst [.ref l, .int (i : Int), .int cur, .int (k + 1), .int seed]) p = some (.lst [.ref l, .int (i : Int), .int cur, .int (k + 1), .int seed]) := upd_same
      have b1 : k + 1 < 2 ^ 64 := by omega
      refine ⟨_, rfl, p, _, 3, _, rfl, rfl, SqL.of hp2, at_of (j := 3) rfl rfl, _, rfl, p, _, 3, _, rfl, rfl, SqL.of hp2, at_of (j := 3) rfl rfl, _, _, rfl, rfl, .inl ⟨by omega, b1⟩, _, rfl, p, _, 4, _, rfl, rfl, SqL.of hp2, at_of (j := 4) rfl rfl, _, _, rfl, rfl, _, _, rfl, rfl, .inr ⟨by decide, by decide⟩, .inl ⟨_, rfl, _, _, rfl, rfl, (by show (0 : Int) < 2147483629; decide), ?_⟩⟩
      have s0 := Int.emod_nonneg (((k + 1) * (k + 1) + seed) * 48271) (show (2147483629 : Int) ≠ 0 by decide)
      have s1 := Int.emod_lt_of_pos (((k + 1) * (k + 1) + seed) * 48271) (show (0 : Int) < 2147483629 by decide)
      refine ⟨_, rfl, _, rfl, _, _, rfl, rfl, .inl ⟨by omega, by omega⟩, .inl ⟨_, rfl, _, _, rfl, rfl, (by show (0 : Int) < 2147483587; decide), .inl ⟨_, rfl, _, rfl, _, _, rfl, rfl, hm0, ?_⟩⟩⟩
      refine q _ _ (Int.emod_nonneg _ (by omega)) (Int.emod_lt_of_pos _ hm0) ?_ (fun b hb => by rw [upd_ne hb]; exact hk b hb)
      exact Purse.set (i := i) hl hne h1 h2 hi h3 (by show (0 : Int) ≤ k + 1; omega) (by show k + 1 ≤ ((n + 1 : Nat) : Int); omega) h6 h7 rfl
theorem scPick : FnScope ["purse", "things"] ["purse", "things"] (defScope sPick) := ⟨rfl, rfl, rfl, by decide +kernel, rfl, by decide +kernel, by decide +kernel⟩
def spPick (K : PySem.W.Frag) : Sp := fun vs H Q _ => ∃ (p lc t : Addr) (xs : List V) (n : Nat), vs = [.ref p, .ref t] ∧ Purse H p lc n ∧ n ≤ 1000000 ∧ SqL K H t xs ∧ t ≠ p ∧ xs ≠ [] ∧ xs.length < 1000000 ∧
  ∀ (x : V) (H' : Hp), x ∈ xs → Purse H' p lc (n + 1) → (∀ b, b ≠ p → H' b = H b) → Q x H'
theorem sqL_ne {H H' : Hp} {p t : Addr} {xs : List V} (h : SqL K H t xs) (hne : t ≠ p) (k : ∀ b, b ≠ p → H' b = H b) : SqL K H' t xs := by
  rcases h with (h | ⟨o, h⟩) | h
  · exact .inl (.inl ((k t hne).trans h))
  · exact .inl (.inr ⟨o, (k t hne).trans h⟩)
  · exact .inr h
theorem sqL_k {H H' : Hp} {p t : Addr} {xs : List V} (h : SqL K H t xs) (hne : t ≠ p) (k : ∀ b o, b ≠ p → H b = some o → H' b = some o) : SqL K H' t xs := by
  rcases h with (h | ⟨o, h⟩) | h
  · exact .inl (.inl (k t _ hne h))
  · exact .inl (.inr ⟨o, k t _ hne h⟩)
  · exact .inr h
theorem ok_pick {f f_law_draw : Addr} {fd fd_law_draw : FuncData} (D : Df K mg "_law_pick" sPick f fd) (D_law_draw : Df K mg "_law_draw" sDraw f_law_draw fd_law_draw) (T : Txt0 mg) : FnOk P w K mg base CX0 2 f fd ["purse", "things"] (spPick K) := by
  have SC := scPick
  have G_law_draw : FnOk P w K mg base CX0 1 f_law_draw fd_law_draw ["purse", "many"] spDraw := ok_draw D_law_draw T
  have B_law_draw : Binds K fd_law_draw ["purse", "many"] [] := D_law_draw.fn.bindsN fun _ _ _ _ _ _ us hl => match us, hl with | [_, _], _ => rfl
  refine D.fn.ok scPick (fun vs H Q E h => ?_) (fun cdv A outer s H vs Q E hr h => ?_)
  · obtain ⟨p, lc, t, xs, n, rfl, _⟩ := h
    rfl
  obtain ⟨p, lc, t, xs, n, rfl, hP, hn, hS, hne, hx, hlen, q⟩ := h
  refine ⟨_, PSs.nox (pss_one (ps_ret (pe_ix ix_list (pv 1) (pe_call G_law_draw (hr.mono (by decide)) rfl D_law_draw.gl D_law_draw.fn.kp B_law_draw .nil pass0 (pa_cons (pv 0) (pa_cons (pe_callB call_len (by rfl) T.n_len (by decide +kernel) (pa_cons (pv 1) pa_nil)) pa_nil))) (fun _ _ => rfl)))), ?_⟩
  have hpos : 0 < xs.length := by cases xs with
    | nil => exact absurd rfl hx
    | cons _ _ => exact Nat.succ_pos _
  refine ⟨_, rfl, _, rfl, _, rfl, _, _, rfl, .inl ⟨_, hS, rfl⟩, p, lc, _, n, rfl, hP, hn, by omega, by omega, fun r H' hr0 hr1 hP' hk => ?_⟩
  have hlt : r.toNat < xs.length := by omega
  exact ⟨t, xs, r, xs[r.toNat], rfl, rfl, sqL_ne hS hne hk, at_of (j := r.toNat) (by omega) (List.getElem?_eq_getElem hlt), q _ H' (List.getElem_mem hlt) hP' hk⟩
theorem scShuf : FnScope ["purse", "things", "left", "found", "thing"] ["purse", "things"] (defScope sShuf) := ⟨rfl, rfl, rfl, by decide +kernel, rfl, by decide +kernel, by decide +kernel⟩
def spShuf (K : PySem.W.Frag) : Sp := fun vs H Q _ => ∃ (p lc t : Addr) (xs : List V) (n : Nat), vs = [.ref p, .ref t] ∧ Purse H p lc n ∧ n + xs.length ≤ 1000000 ∧ SqL K H t xs ∧ t ≠ p ∧ xs.length < 100000 ∧
  ∀ (ys : List V) (r : Addr) (H' : Hp), ys.Perm xs → H r = none → H' r = some (.lst ys) → Purse H' p lc (n + xs.length) → (∀ b o, b ≠ p → H b = some o → H' b = some o) → Q (.ref r) H'
theorem perm_erase : ∀ {xs : List V} {k : Nat} {y : V}, xs[k]? = some y → (y :: xs.eraseIdx k).Perm xs
  | [], _, _, h => by simp at h
  | x :: xs, 0, y, h => by
    simp at h
    subst h
    exact List.Perm.refl _
  | x :: xs, k + 1, y, h => by
    have h' : xs[k]? = some y := by simpa using h
    show (y :: x :: xs.eraseIdx k).Perm (x :: xs)
    exact (List.Perm.swap x y _).trans (List.Perm.cons x (perm_erase h'))
theorem ok_shuf {f f_law_draw : Addr} {fd fd_law_draw : FuncData} (D : Df K mg "_law_shuffled" sShuf f fd) (D_law_draw : Df K mg "_law_draw" sDraw f_law_draw fd_law_draw) (T : Txt0 mg) : FnOk P w K mg base CX0 2 f fd ["purse", "things"] (spShuf K) := by
  have SC := scShuf
  have G_law_draw : FnOk P w K mg base CX0 1 f_law_draw fd_law_draw ["purse", "many"] spDraw := ok_draw D_law_draw T
  have B_law_draw : Binds K fd_law_draw ["purse", "many"] [] := D_law_draw.fn.bindsN fun _ _ _ _ _ _ us hl => match us, hl with | [_, _], _ => rfl
  refine D.fn.ok scShuf (fun vs H Q E h => ?_) (fun cdv A outer s H vs Q E hr h => ?_)
  · obtain ⟨p, lc, t, xs, n, rfl, _⟩ := h
    rfl
  obtain ⟨p, lc, t, xs, n, rfl, hP, hn, hS, hne, hlen, q⟩ := h
  refine ⟨_, PSs.nox (pss_cons (ps_par (i := 2) (j := 3) (by rfl) SC.nd rfl rfl (by decide) rfl rfl (pa_cons (pe_callTy call_list_of (by rfl) T.n_list (by decide +kernel) (pa_cons (pv 1) pa_nil)) (pa_cons (pe_lst pa_nil) pa_nil)) (by rfl))
    (pss_cons (ps_for PassesOwn.never rfl (pi_list (pv 1)) (pg_name (i := 4) SC.nd rfl (Or.inl rfl)) (pss_one (ps_expr (pe_bm PySem.F.plainAttrs_list PySem.F.slot_list_append PySem.F.type_list_append mt_append (pv 3) (pa_cons (pe_bm PySem.F.plainAttrs_list PySem.F.slot_list_pop PySem.F.type_list_pop mt_popAt (pv 2) (pa_cons (pe_call G_law_draw (hr.mono (by decide)) rfl D_law_draw.gl D_law_draw.fn.kp B_law_draw .nil pass0 (pa_cons (pv 0) (pa_cons (pe_callB call_len (by rfl) T.n_len (by decide +kernel) (pa_cons (pv 2) pa_nil)) pa_nil))) pa_nil)) pa_nil)))))
    (pss_one (ps_ret (pv 3))))), ?_⟩
  refine ⟨_, rfl, _, _, rfl, .inl hS, fun l hl => ⟨(by show 0 ≤ sizeLine; decide), fun g hg => ?_⟩⟩
  obtain ⟨⟨op, hpo⟩, ⟨oc, hco⟩, hcp⟩ := hP.at_
  have ncl : lc ≠ l := ne_of_none hco hl
  have npl : p ≠ l := ne_of_none hpo hl
  have s1 : Same H (upd H l (.lst xs)) := same_new hl _
  have npg : p ≠ g := ne_of_none (s1 _ _ hpo) hg
  have nlg : l ≠ g := ne_of_none upd_same hg
  have ncg : lc ≠ g := ne_of_none (s1 _ _ hco) hg
  have s2 : Same H (upd (upd H l (.lst xs)) g (.lst [])) := s1.trans (same_new hg _)
  have hg0 : H g = none := s1.free hg
  refine ⟨_, _, rfl, ?_⟩
  -- the loop: what is left, what is found
  refine ⟨_, rfl, t, rfl, ⟨xs, s2.seq hS⟩, for_list (xs := xs) (fun i σ H' => ∃ ls ds, (∃ th, σ = [some (.ref p), some (.ref t), some (.ref l), some (.ref g), th]) ∧ H' l = some (.lst ls) ∧ H' g = some (.lst ds) ∧ (ds ++ ls).Perm xs ∧ ds.length = i ∧ Purse H' p lc (n + i) ∧ (∀ b o, b ≠ p → H b = some o → H' b = some o)) ?_ ?_ ?_ ?_⟩
  · refine ⟨xs, [], ⟨_, rfl⟩, ?_, upd_same, List.Perm.refl _, rfl, hP.ex (fun o e => s2 _ _ e) (fun o e => s2 _ _ e), fun b o _ e => s2 b o e⟩
    rw [upd_ne nlg]
    exact upd_same
  · rintro i σ H' _ ⟨ls, ds, _, _, _, _, _, _, z⟩
    exact sqL_k hS hne z
  · rintro i x σ H' hi ⟨ls, ds, ⟨th, rfl⟩, hl', hg', hperm, hd, hP', hk⟩
    have hix := (List.getElem?_eq_some_iff.mp hi).1
    have hlen2 : ds.length + ls.length = xs.length := by
      have z := hperm.length_eq
      rw [List.length_append] at z
      exact z
    refine ⟨_, rfl, .inl ⟨rfl, _, SqL.of hg'⟩, _, rfl, .inl ⟨rfl, _, SqL.of hl'⟩, _, rfl, _, rfl, _, _, rfl, .inl ⟨_, SqL.of hl', rfl⟩, p, lc, _, n + i, rfl, hP', by omega, by omega, by omega, fun r H2 hr0 hr1 hP2 hk2 => ?_⟩
    have hl2 : H2 l = some (.lst ls) := (hk2 l npl.symm).trans hl'
    have hg2 : H2 g = some (.lst ds) := (hk2 g npg.symm).trans hg'
    have hlt : r.toNat < ls.length := by omega
    have hsz : (2 : Int) ^ 63 = 9223372036854775808 := by decide
    refine ⟨l, ls, r, r.toNat, ls[r.toNat], rfl, rfl, hl2, by omega, by omega, seqIndex_of hr0 (by omega), List.getElem?_eq_getElem hlt, ?_⟩
    have hg3 : upd H2 l (.lst (ls.eraseIdx r.toNat)) g = some (.lst ds) := by
      rw [upd_ne nlg.symm]
      exact hg2
    refine ⟨g, ds, ls[r.toNat], rfl, rfl, hg3, (by show ds.length < sizeLine; have : 100000 < sizeLine := by decide
                                                   omega), ?_⟩
    refine ⟨ls.eraseIdx r.toNat, ds ++ [ls[r.toNat]], ⟨_, rfl⟩, ?_, upd_same, ?_, ?_, ?_, ?_⟩
    · rw [upd_ne nlg]
      exact upd_same
    · refine List.Perm.trans ?_ hperm
      rw [List.append_assoc]
      exact List.Perm.append_left ds (perm_erase (List.getElem?_eq_getElem hlt))
    · rw [List.length_append, hd]
      rfl
    · refine hP2.ex (fun o e => ?_) fun o e => ?_
      · rw [upd_ne npg, upd_ne npl]
        exact e
      · rw [upd_ne ncg, upd_ne ncl]
        exact e
    · intro b o hb e
      rw [upd_ne (ne_of_none e hg0), upd_ne (ne_of_none e hl), hk2 b hb]
      exact hk b o hb e
  · rintro σ H' ⟨ls, ds, ⟨th, rfl⟩, hl', hg', hperm, hd, hP', hk⟩
    have hl0 : ls = [] := by
      have z := hperm.length_eq
      rw [List.length_append] at z
      exact List.eq_nil_of_length_eq_zero (by omega)
    subst hl0
    rw [List.append_nil] at hperm
    exact ⟨_, rfl, q ds g H' hperm hg0 hg' hP' hk⟩
/-! ### the purse made -/
theorem cut63 {xs : List V} (h : xs.length ≤ 63) : cutV xs none (some 63) = xs := by
  unfold cutV
  have e1 : HT.sIx xs.length 0 none = 0 := rfl
  have e2 : HT.sIx xs.length xs.length (some 63) = xs.length := by
    show HT.sIx _ _ (some ((63 : Nat) : Int)) = _
    rw [HT.sIx_nat]
    exact Nat.min_eq_right h
  rw [e1, e2, List.drop_zero, Nat.sub_zero, List.take_length]
theorem scPurse : FnScope ["script", "seed", "cell"] ["script"] (defScope sPurse) := ⟨rfl, rfl, rfl, by decide +kernel, rfl, by decide +kernel, by decide +kernel⟩
def spPurse (K : PySem.W.Frag) : Sp := fun vs H Q _ => ∃ (a : Addr) (ns : List Int), vs = [.ref a] ∧ SqL K H a (ns.map V.int) ∧ ns.length ≤ 63 ∧ ∀ (p lc : Addr) (H' : Hp), H p = none → H lc = none → Purse H' p lc 0 → Same H H' → Q (.ref p) H'
theorem ok_purse {f : Addr} {fd : FuncData} (D : Df K mg "_law_purse" sPurse f fd) (T : Txt0 mg) : FnOk P w K mg base CX0 1 f fd ["script"] (spPurse K) := by
  have SC := scPurse
  refine D.fn.ok scPurse (fun vs H Q E h => ?_) (fun cdv A outer s H vs Q E hr h => ?_)
  · obtain ⟨a, ns, rfl, _⟩ := h
    rfl
  obtain ⟨a, ns, rfl, hS, hlen, q⟩ := h
  refine ⟨_, PSs.nox (pss_cons (ps_set (i := 1) SC.nd rfl (Or.inl rfl) pe_int)
    (pss_cons (ps_for PassesOwn.never rfl (pi_list (pe_slice sl_list (pv 0) po_none (po_some pe_int))) (pg_name (i := 2) SC.nd rfl (Or.inl rfl)) (pss_one (ps_set (i := 1) SC.nd rfl (Or.inl rfl) (pe_op op_mod (pe_callTy call_int1 (by rfl) T.n_int (by decide +kernel) (pa_cons (pe_op op_add (pe_op op_mul (pv 1) pe_int) (pv 2)) pa_nil)) pe_int))))
    (pss_one (ps_ret (pe_lst (pa_cons (pe_lc (own := [("cell", 2)]) (g := (gName 2)) (by rfl) SC.nd (pi_list (pe_slice sl_list (pv 0) po_none (po_some pe_int))) (blkOk_by (own := [("cell", 2)]) (N := ["script", "seed", "cell"]) (sc := defScope sPurse) (by decide +kernel)) (fun _ _ _ _ _ => (pg_name (i := 2) SC.nd rfl (Or.inl rfl))) (fun _ _ _ _ _ => pts_one (pt_cmpR op_ge (pv 2) (pe_op op_pow pe_int pe_int) (nomark _))) (fun _ _ _ _ _ => (pv 2))) (pa_cons pe_int (pa_cons pe_int (pa_cons pe_int (pa_cons (pv 1) pa_nil)))))))))), ?_⟩
  have hml : (ns.map V.int).length ≤ 63 := by rw [List.length_map]; exact hlen
  refine ⟨_, rfl, 63, rfl, a, _, rfl, hS, fun l hl => ?_⟩
  rw [cut63 hml]
  have s1 : Same H (upd H l (.lst (ns.map V.int))) := same_new hl _
  refine ⟨l, rfl, ⟨_, SqL.of upd_same⟩, for_list (xs := ns.map V.int) (fun i σ H' => ∃ sd : Int, (∃ c, σ = [some (.ref a), some (.int sd), c]) ∧ 0 ≤ sd ∧ sd < 2147483647 ∧ H' = upd H l (.lst (ns.map V.int))) ⟨7, ⟨_, rfl⟩, by decide, by decide, rfl⟩ ?_ ?_ ?_⟩
  · rintro i σ H' _ ⟨sd, _, _, _, rfl⟩
    exact SqL.of upd_same
  · rintro i x σ H' hi ⟨sd, ⟨c, rfl⟩, h0, h1, rfl⟩
    rw [List.getElem?_map] at hi
    obtain ⟨n, hn, rfl⟩ := Option.map_eq_some_iff.mp hi
    refine ⟨_, rfl, _, _, rfl, rfl, .inl ⟨by omega, by omega⟩, _, rfl, _, _, rfl, rfl, .inl ⟨_, rfl, _, _, rfl, rfl, (by show (0 : Int) < 2147483647; decide), ?_⟩⟩
    exact ⟨_, ⟨_, rfl⟩, Int.emod_nonneg _ (by decide), Int.emod_lt_of_pos _ (by decide), rfl⟩
  · rintro σ H' ⟨sd, ⟨c, rfl⟩, h0, h1, rfl⟩
    refine ⟨_, rfl, 63, rfl, a, _, rfl, s1.seq hS, fun l2 hl2 => ?_⟩
    rw [cut63 hml]
    have s2 := s1.trans (same_new hl2 (.lst (ns.map V.int)))
    refine ⟨l2, rfl, ⟨_, SqL.of upd_same⟩, fun d hd => ?_⟩
    have s3 := s2.trans (same_new hd (.lst []))
    have nd2 : d ≠ l2 := fun e => by
      rw [e, upd_same] at hd
      cases hd
    refine lc_list (xs := ns.map V.int) (fun i H' => Same H H' ∧ H' l2 = some (.lst (ns.map V.int)) ∧ ∃ cs : List Int, H' d = some (.lst (cs.map V.int)) ∧ cs.length ≤ i ∧ ∀ c ∈ cs, 0 ≤ c) ⟨s3, ?_, [], upd_same, Nat.le_refl _, fun c hc => by cases hc⟩ ?_ ?_ ?_
    · rw [upd_ne nd2.symm]
      exact upd_same
    · rintro i H' _ ⟨_, z, _⟩
      exact SqL.of z
    · rintro i x H' hi ⟨k1, k2, cs, k3, k4, k5⟩
      have hlt := (List.getElem?_eq_some_iff.mp hi).1
      rw [List.getElem?_map] at hi
      obtain ⟨n, hn, rfl⟩ := Option.map_eq_some_iff.mp hi
      refine ⟨rfl, _, rfl, _, _, rfl, rfl, ⟨by decide, by decide, by decide⟩, _, _, rfl, rfl, _, rfl, ?_⟩
      refine ite2 (fun c => ?_) (fun c => ?_)
      · refine ⟨_, rfl, _, k3, ?_, ?_⟩
        · rw [List.length_map]
          have : 100 < sizeLine := by decide
          omega
        · refine ⟨fun b o e => ?_, ?_, cs ++ [n], ?_, ?_, ?_⟩
          · rw [upd_ne (ne_of_none e (s2.free hd))]
            exact k1 b o e
          · rw [upd_ne nd2.symm]
            exact k2
          · rw [upd_same, List.map_append]
            rfl
          · rw [List.length_append]
            exact Nat.succ_le_succ k4
          · intro c' hc'
            rcases List.mem_append.mp hc' with hc' | hc'
            · exact k5 c' hc'
            · obtain rfl := List.mem_singleton.mp hc'
              have z := of_decide_eq_true c
              have z2 : ((10 : Int) ^ (18 : Int).toNat) = 1000000000000000000 := by decide
              omega
      · exact ⟨k1, k2, cs, k3, Nat.le_succ_of_le k4, k5⟩
    · rintro H' ⟨k1, k2, cs, k3, k4, k5⟩
      refine ⟨_, rfl, (by show 5 ≤ sizeLine; decide), fun p hp => ?_⟩
      have hpd : d ≠ p := ne_of_none k3 hp
      refine q p d _ (k1.free hp) (s2.free hd) ?_ (k1.trans (same_new hp _))
      rw [List.length_map] at k4
      exact ⟨cs, 0, 0, 0, sd, upd_same, by rw [upd_ne hpd]; exact k3, hpd, k5, by omega, Nat.zero_le _, by decide, by decide, by decide, h0, h1⟩
end
end K20

set_option Elab.async false
set_option linter.all false
set_option maxRecDepth 100000
set_option maxHeartbeats 1000000
namespace K20
open PySem PySem.Spec L2 Wy
section
variable {P : Program} {w : World} {K : PySem.W.Frag} {mg : Str → Option Value} {base : Heap}
def spKindL : Sp := fun vs H Q _ => ∃ x y : V, vs = [x, y] ∧ ∀ p, H p = none → Q (.ref p) (upd H p (.tup [.str "kind", x, y]))
def spUnkL : Sp := fun vs H Q _ => ∃ x : V, vs = [x] ∧ ∀ p, H p = none → Q (.ref p) (upd H p (.tup [.str "unknown", x]))
theorem sc__law_kind : FnScope ["name", "types"] ["name", "types"] (defScope s__law_kind) := ⟨rfl, rfl, rfl, by decide +kernel, rfl, by decide +kernel, by decide +kernel⟩
theorem ok__law_kind (F : Fs K mg) (T : Txt K mg) (Z : Exs P K mg) : FnOk P w K mg base CX0 1 F.f__law_kind F.fd__law_kind ["name", "types"] (spKindL) := by
  have SC := sc__law_kind
  refine F.d__law_kind.fn.ok sc__law_kind (fun vs H Q E h => ?_) (fun cdv A outer s H vs Q E hr h => ?_)
  · obtain ⟨x, y, rfl, _⟩ := h; rfl
  obtain ⟨x, y, rfl, q⟩ := h
  refine ⟨_, PSs.nox (pss_one (ps_ret (pe_tup (pa_cons pe_str (pa_cons (pv 0) (pa_cons (pv 1) pa_nil)))))), ?_⟩
  exact ⟨_, rfl, _, rfl, small _ (by show 3 ≤ 100000; decide), fun p hp => q p hp⟩
theorem sc__law_unknown : FnScope ["number"] ["number"] (defScope s__law_unknown) := ⟨rfl, rfl, rfl, by decide +kernel, rfl, by decide +kernel, by decide +kernel⟩
theorem ok__law_unknown (F : Fs K mg) (T : Txt K mg) (Z : Exs P K mg) : FnOk P w K mg base CX0 1 F.f__law_unknown F.fd__law_unknown ["number"] (spUnkL) := by
  have SC := sc__law_unknown
  refine F.d__law_unknown.fn.ok sc__law_unknown (fun vs H Q E h => ?_) (fun cdv A outer s H vs Q E hr h => ?_)
  · obtain ⟨x, rfl, _⟩ := h; rfl
  obtain ⟨x, rfl, q⟩ := h
  refine ⟨_, PSs.nox (pss_one (ps_ret (pe_tup (pa_cons pe_str (pa_cons (pv 0) pa_nil))))), ?_⟩
  exact ⟨_, rfl, small _ (by show 2 ≤ 100000; decide), fun p hp => q p hp⟩
theorem sc__law_sides : FnScope ["one"] ["one"] (defScope s__law_sides) := ⟨rfl, rfl, rfl, by decide +kernel, rfl, by decide +kernel, by decide +kernel⟩
theorem ok__law_sides (F : Fs K mg) (T : Txt K mg) (Z : Exs P K mg) : FnOk P w K mg base CX0 1 F.f__law_sides F.fd__law_sides ["one"] (spParts K) := by
  have SC := sc__law_sides
  refine F.d__law_sides.fn.ok sc__law_sides (fun vs H Q E h => ?_) (fun cdv A outer s H vs Q E hr h => ?_)
  · obtain ⟨v, d, Fh, rfl, _⟩ := h; rfl
  obtain ⟨v, d, Fh, rfl, hd, sF, hh, q⟩ := h
  refine ⟨_, PSs.nox (pss_one (ps_ret (pe_ifExp (pt_cmpR op_eq (pe_ix ix_tup (pv 0) pe_int (fun _ _ => rfl)) pe_str (nomark _)) (pe_ix ix_tup (pv 0) pe_int (fun _ _ => rfl)) (pe_lst pa_nil)))), ?_⟩
  rcases head_inv hh with ⟨a, rfl, _⟩ | ⟨a, ts, rfl, _, _⟩
  · obtain ⟨p, xs, rfl, hq, hall⟩ := hd.tup_inv
    obtain ⟨x0, e0, h0⟩ := hall.get' (i := 0) rfl
    obtain rfl := h0.str_inv
    refine ⟨_, rfl, p, xs, 0, _, rfl, rfl, same_seqT sF hq, at_of (j := 0) rfl e0, rfl, _, rfl, ?_⟩
    refine ite2 (fun c => absurd (V.str.inj (of_decide_eq_true c)) (by decide)) (fun c => ⟨small _ (by show 0 ≤ 100000; decide), fun b hb => ?_⟩)
    exact q b [] _ (same_new hb _) (SqL.of upd_same) .nil
  · obtain ⟨p, xs, rfl, hq, hall⟩ := hd.tup_inv
    obtain ⟨x0, e0, h0⟩ := hall.get' (i := 0) rfl
    obtain ⟨x2, e2, h2⟩ := hall.get' (i := 2) rfl
    obtain rfl := h0.str_inv
    obtain ⟨b, ys, rfl, hqb, hab⟩ := h2.lst_inv
    refine ⟨_, rfl, p, xs, 0, _, rfl, rfl, same_seqT sF hq, at_of (j := 0) rfl e0, rfl, _, rfl, ?_⟩
    refine ite2 (fun c => ?_) (fun c => absurd (decide_eq_true rfl) c)
    exact ⟨_, rfl, p, xs, 2, _, rfl, rfl, same_seqT sF hq, at_of (j := 2) rfl e2, q b ys H same_refl (sF.seq hqb) hab⟩
theorem sc__law_parts : FnScope ["one", "found", "waiting", "here"] ["one"] (defScope s__law_parts) := ⟨rfl, rfl, rfl, by decide +kernel, rfl, by decide +kernel, by decide +kernel⟩
theorem ok__law_parts (F : Fs K mg) (T : Txt K mg) (Z : Exs P K mg) : FnOk P w K mg base CX0 2 F.f__law_parts F.fd__law_parts ["one"] (spAll K) := by
  have SC := sc__law_parts
  have G__law_sides : FnOk P w K mg base CX0 1 F.f__law_sides F.fd__law_sides ["one"] (spParts K) := ok__law_sides F T Z
  have B__law_sides : Binds K F.fd__law_sides ["one"] [] := F.d__law_sides.fn.bindsN fun _ _ _ _ _ _ us hl => match us, hl with | [_], _ => rfl
  refine F.d__law_parts.fn.ok sc__law_parts (fun vs H Q E h => ?_) (fun cdv A outer s H vs Q E hr h => ?_)
  · obtain ⟨v, t, Fh, rfl, _⟩ := h; rfl
  obtain ⟨v, t, Fh, rfl, hd, sF, ok, hsz, q⟩ := h
  have hu := hr.units
  refine ⟨_, PSs.nox (pss_cons (ps_par (i := 1) (j := 2) (by rfl) SC.nd rfl rfl (by decide) rfl rfl (pa_cons (pe_lst pa_nil) (pa_cons (pe_lst (pa_cons (pv 0) pa_nil)) pa_nil)) (by rfl))
    (pss_cons (ps_while PassesOwn.never (pt_cmpR (op_neNil hu) (pv 2) (pe_lst pa_nil) (nomark _)) (pss_cons (ps_set (i := 3) SC.nd rfl (Or.inl rfl) (pe_bm0 PySem.F.plainAttrs_list PySem.F.slot_list_pop PySem.F.type_list_pop mt_pop (pv 2)))
    (pss_cons (ps_expr (pe_bm PySem.F.plainAttrs_list PySem.F.slot_list_append PySem.F.type_list_append mt_append (pv 1) (pa_cons (pv 3) pa_nil)))
    (pss_one (ps_set (i := 2) SC.nd rfl (Or.inl rfl) (pe_op op_catS (pv 2) (pe_revL (pe_call G__law_sides (hr.mono (by decide)) rfl F.d__law_sides.gl F.d__law_sides.fn.kp B__law_sides .nil pass0 (pa_cons (pv 3) pa_nil)))))))))
    (pss_one (ps_ret (pv 1))))), ?_⟩
  refine ⟨small _ (by show 0 ≤ 100000; decide), fun g hg => ?_⟩
  have s1 := same_new hg (.lst [])
  refine ⟨_, rfl, small _ (by show 1 ≤ 100000; decide), fun l hl => ?_⟩
  have s2 := same_new hl (.lst [v])
  have ngl : g ≠ l := ne_of_none upd_same hl
  refine ⟨_, _, rfl, ?_⟩
  refine ⟨fun m σ H' => ∃ (ws fv : List V) (wts done : List Ty) (l : Addr) (x : Option V), m = Ty.sizes wts ∧ σ = [some v, some (.ref g), some (.ref l), x] ∧ Same H H' ∧ H' g = some (.lst fv) ∧ H' l = some (.lst ws) ∧ H l = none ∧ l ≠ g ∧ DxAll K Fh ws (Ty.toDs wts) ∧ DxAll K Fh fv (Ty.toDs done) ∧ Ty.oks wts = true ∧ t.parts = done ++ Ty.partss wts.reverse,
    ⟨_, [v], [], [t], [], l, none, rfl, rfl, s1.trans s2, s2 _ _ upd_same, upd_same, s1.free hl, ngl.symm, .cons hd .nil, .nil, by simp [Ty.oks, ok], by simp [Ty.partss]⟩, ?_⟩
  rintro m σ H' ⟨ws, fv, wts, done, l, x, rfl, rfl, sH, hg1, hl1, hl0, nlg, hall, hfv, oks, hparts⟩
  refine ⟨_, rfl, small _ (by show 0 ≤ 100000; decide), fun e he => ?_⟩
  have se := same_new he (.lst [])
  refine ⟨l, e, ws, rfl, rfl, SqL.of (se _ _ hl1), SqL.of upd_same, _, rfl, ?_⟩
  replace hl1 := se _ _ hl1
  replace hg1 := se _ _ hg1
  replace sH := sH.trans se
  generalize upd H' e (.lst []) = G at hl1 hg1 sH ⊢
  have hdl := hall.length
  rw [toDs_map, List.length_map] at hdl
  have hfl := hfv.length
  rw [toDs_map, List.length_map] at hfl
  have hpl := congrArg List.length hparts
  rw [parts_length, List.length_append, partss_length, sizes_reverse] at hpl
  rcases List.eq_nil_or_concat wts with rfl | ⟨wa, u, rfl⟩
  · have hw : ws = [] := List.eq_nil_of_length_eq_zero hdl
    subst hw
    refine ite2 (fun c => by cases c) (fun _ => ⟨_, rfl, ?_⟩)
    have e : t.parts = done := by
      rw [hparts]
      exact List.append_nil _
    exact q g fv G sH hg hg1 (by rw [e]; exact hfv)
  rw [List.concat_eq_append] at *
  rw [toDs_append] at hall
  obtain ⟨wv, y, rfl, hwa, hy⟩ := hall.concat_inv
  rw [oks_append] at oks
  obtain ⟨oa, ou⟩ := Bool.and_eq_true_iff.mp oks
  have ou' : u.ok = true := by simpa [Ty.oks] using ou
  rw [sizes_append] at hpl ⊢
  have hus := size_eq u
  refine ite2 (fun _ => ?_) (fun c => absurd (by simp) c)
  refine ⟨fun σ' H' => ∃ m', m' < Ty.sizes wa + Ty.sizes [u] ∧ ∃ (ws fv : List V) (wts done : List Ty) (l : Addr) (x : Option V), m' = Ty.sizes wts ∧ σ' = [some v, some (.ref g), some (.ref l), x] ∧ Same H H' ∧ H' g = some (.lst fv) ∧ H' l = some (.lst ws) ∧ H l = none ∧ l ≠ g ∧ DxAll K Fh ws (Ty.toDs wts) ∧ DxAll K Fh fv (Ty.toDs done) ∧ Ty.oks wts = true ∧ t.parts = done ++ Ty.partss wts.reverse, fun _ _ h => h, ?_⟩
  refine ⟨_, rfl, .inl ⟨rfl, _, SqL.of hl1⟩, l, _, y, rfl, rfl, hl1, by simp, ?_⟩
  rw [List.dropLast_concat]
  have sp : Same H (upd G l (.lst wv)) := fun b o z => by
    rw [upd_ne (ne_of_none z hl0)]
    exact sH _ _ z
  have hg2 : upd G l (.lst wv) g = some (.lst fv) := by
    rw [upd_ne nlg.symm]
    exact hg1
  have hl2 : upd G l (.lst wv) l = some (.lst wv) := upd_same
  generalize upd G l (.lst wv) = G1 at sp hg2 hl2 ⊢
  refine ⟨_, rfl, .inl ⟨rfl, _, SqL.of hg2⟩, _, rfl, g, fv, y, rfl, rfl, hg2, ?_, ?_⟩
  · exact Nat.lt_of_lt_of_le (show fv.length < 200000 by simp only [Ty.sizes] at hpl; omega) (by decide)
  have sp2 : Same H (upd G1 g (.lst (fv ++ [y]))) := fun b o z => by
    rw [upd_ne (ne_of_none z hg)]
    exact sp _ _ z
  have hl3 : upd G1 g (.lst (fv ++ [y])) l = some (.lst wv) := by
    rw [upd_ne nlg]
    exact hl2
  have hg3 : upd G1 g (.lst (fv ++ [y])) g = some (.lst (fv ++ [y])) := upd_same
  generalize upd G1 g (.lst (fv ++ [y])) = G2 at sp2 hl3 hg3 ⊢
  refine ⟨_, rfl, _, rfl, y, u.toD, Fh, rfl, hy, sF.trans sp2, headD_toD ou', fun b xs G3 s3 hb hxs => ?_⟩
  rw [sidesD_toD] at hxs
  have hxl := hxs.length
  rw [toDs_map, List.length_map] at hxl
  have h3 := sides_three ou'
  refine ⟨b, xs, rfl, hb, fun p hp => ?_⟩
  have s4 := same_new hp (.lst xs.reverse)
  have hwl := hwa.length
  rw [toDs_map, List.length_map] at hwl
  have hws := sizes_ge wa
  refine ⟨l, p, wv, xs.reverse, rfl, rfl, SqL.of (s4 _ _ (s3 _ _ hl3)), SqL.of upd_same, ?_, fun n hn => ?_⟩
  · rw [List.length_reverse]
    exact Nat.le_trans (show wv.length + xs.length ≤ 200000 by omega) (by decide)
  have s5 := same_new hn (.lst (wv ++ xs.reverse))
  have sN := s3.trans (s4.trans s5)
  refine ⟨Ty.sizes (wa ++ u.sides.reverse), ?_, wv ++ xs.reverse, fv ++ [y], wa ++ u.sides.reverse, done ++ [u], n, _, rfl, rfl, sp2.trans sN, sN _ _ hg3, upd_same, (sp2.trans (s3.trans s4)).free hn, fun z => ?_, ?_, ?_, ?_, ?_⟩
  · rw [sizes_append, sizes_reverse]
    simp only [Ty.sizes]
    omega
  · rw [z] at hn
    rw [(s3.trans s4) _ _ hg3] at hn
    cases hn
  · rw [toDs_append]
    refine hwa.append ?_
    rw [toDs_map, List.map_reverse, ← toDs_map]
    exact hxs.reverse
  · rw [toDs_append]
    exact hfv.append (.cons hy .nil)
  · rw [oks_append, oa, oks_reverse _ (oks_sides ou')]
    rfl
  · rw [hparts, List.reverse_append, List.reverse_append, List.reverse_reverse, partss_append]
    have e1 : Ty.partss [u].reverse = u :: Ty.partss u.sides := by
      show Ty.partss [u] = _
      rw [Ty.partss, parts_eq, Ty.partss, List.append_nil]
    rw [e1, partss_append, List.append_assoc]
    rfl
end
end K20

set_option Elab.async false
set_option linter.all false
set_option maxRecDepth 100000
set_option maxHeartbeats 1000000
namespace K20
open PySem PySem.Spec L2 Wy
section
variable {P : Program} {w : World} {K : PySem.W.Frag} {mg : Str → Option Value} {base : Heap}
/-- what stands in H' where nothing stood in H -/
def newH (H H' : Hp) : Hp := fun b => match H b with
  | none => H' b
  | some _ => none
theorem newH_of {H H' : Hp} {b : Addr} (h : H b = none) : newH H H' b = H' b := by
  unfold newH
  rw [h]
theorem newH_get {H H' : Hp} {b : Addr} {o : HO} (h : newH H H' b = some o) : H b = none ∧ H' b = some o := by
  unfold newH at h
  cases e : H b with
  | none =>
    rw [e] at h
    exact ⟨rfl, h⟩
  | some u =>
    rw [e] at h
    cases h
theorem newH_mono {A B H1 H2 : Hp} (h : ∀ b, B b = none → A b = none) (k : ∀ b o, B b = none → H1 b = some o → H2 b = some o) : Same (newH B H1) (newH A H2) := fun b o e => by
  obtain ⟨e1, e2⟩ := newH_get e
  rw [newH_of (h b e1)]
  exact k b o e1 e2
/-- what is kept but for the purse -/
def Kp (p : Addr) (H H' : Hp) : Prop := ∀ b o, b ≠ p → H b = some o → H' b = some o
theorem Kp.occ {p lc : Addr} {n : Nat} {H H' : Hp} (k : Kp p H H') (hP : Purse H' p lc n) : ∀ b, H' b = none → H b = none := fun b e => by
  obtain ⟨⟨o, z⟩, _, _⟩ := hP.at_
  have nb : b ≠ p := fun y => by
    rw [y, z] at e
    cases e
  cases h : H b with
  | none => rfl
  | some u =>
    rw [k b u nb h] at e
    cases e

def cT : Nat → Nat
  | 0 => 2
  | d + 1 => 2 + 2 * cT d
def sT : Nat → Nat
  | 0 => 1
  | d + 1 => 1 + 2 * sT d
theorem cT_pos (d : Nat) : 2 ≤ cT d := by cases d <;> simp [cT]
theorem sT_pos (d : Nat) : 1 ≤ sT d := by cases d <;> simp [sT]
def spDrawn (K : PySem.W.Frag) (d : Nat) : Sp := fun vs H Q _ => ∃ (p lc : Addr) (m : Int) (n : Nat), vs = [.ref p, .int m, .int (d : Int)] ∧ Purse H p lc n ∧ n + cT d ≤ 100000 ∧ 0 < m ∧ m < 1000000 ∧
  ∀ (x : V) (t : Ty) (H' : Hp), Dx K (newH H H') x t.toD → t.ok = true → t.deep ≤ d + 1 → t.size ≤ sT d → (∀ n ∈ numT t, (n : Int) < m) → Purse H' p lc (n + cT d) → Kp p H H' → Q x H'
def spDrawnB (K : PySem.W.Frag) : Nat → Sp
  | 0 => fun _ _ _ _ => False
  | d + 1 => spDrawn K d
theorem drawn_test {σ : St} {H : Hp} {Qb : Bool → Hp → Prop} {d r : Int} (h2 : σ[2]? = some (some (.int d))) (h3 : σ[3]? = some (some (.int r))) (q : Qb (decide ((d = 0 ∧ 3 < r) ∨ r < 2)) H) :
    tOr (tAnd (tTest (tOp rEq (tVar 2) (tC (V.int 0)))) (tTest (tOp (rI0 fun i j => V.bl (decide (j < i))) (tVar 3) (tC (V.int 3))))) (tTest (tOp (rI0 fun i j => V.bl (decide (i < j))) (tVar 3) (tC (V.int 2)))) σ H Qb := by
  have last : ¬ (d = 0 ∧ 3 < r) → (tTest (tOp (rI0 fun i j => V.bl (decide (i < j))) (tVar 3) (tC (V.int 2)))) σ H Qb := fun h => by
    refine ⟨_, h3, _, _, rfl, rfl, _, rfl, ?_⟩
    have e : decide ((d = 0 ∧ 3 < r) ∨ r < 2) = decide (r < 2) := by
      rw [Bool.eq_iff_iff, decide_eq_true_eq, decide_eq_true_eq]
      exact ⟨fun z => z.resolve_left h, .inr⟩
    rw [e] at q
    exact q
  refine ⟨_, h2, rfl, _, rfl, ?_⟩
  by_cases hd : d = 0
  · rw [show decide (V.int d = V.int 0) = true from decide_eq_true (by rw [hd])]
    refine ⟨_, h3, _, _, rfl, rfl, _, rfl, ?_⟩
    by_cases hr : 3 < r
    · have e : decide ((d = 0 ∧ 3 < r) ∨ r < 2) = true := decide_eq_true (.inl ⟨hd, hr⟩)
      rw [e] at q
      show (if decide (3 < r) = true then Qb true H else _)
      rw [decide_eq_true hr]
      exact q
    · show (if decide (3 < r) = true then Qb true H else _)
      rw [decide_eq_false hr]
      exact last fun z => hr z.2
  · rw [show decide (V.int d = V.int 0) = false from decide_eq_false (fun z => hd (V.int.inj z))]
    exact last fun z => hd z.1
theorem sc_drawn : FnScope ["purse", "many", "deep", "way", "name", "part"] ["purse", "many", "deep"] (defScope s__law_drawn_type) := ⟨rfl, rfl, rfl, by decide +kernel, rfl, by decide +kernel, by decide +kernel⟩
theorem drawn_step (F : Fs K mg) (T : Txt K mg) (Z : Exs P K mg) {d k : Nat} (G : FnOk P w K mg base CX0 (k + 3) F.f__law_drawn_type F.fd__law_drawn_type ["purse", "many", "deep"] (spDrawnB K d)) : FnOk P w K mg base CX0 (k + 4) F.f__law_drawn_type F.fd__law_drawn_type ["purse", "many", "deep"] (spDrawn K d) := by
  have SC := sc_drawn
  have G__law_draw : FnOk P w K mg base CX0 1 F.f__law_draw F.fd__law_draw ["purse", "many"] spDraw := ok_draw F.d__law_draw T.t0
  have B__law_draw : Binds K F.fd__law_draw ["purse", "many"] [] := F.d__law_draw.fn.bindsN fun _ _ _ _ _ _ us hl => match us, hl with | [_, _], _ => rfl
  have G__law_pick : FnOk P w K mg base CX0 2 F.f__law_pick F.fd__law_pick ["purse", "things"] (spPick K) := ok_pick F.d__law_pick F.d__law_draw T.t0
  have B__law_pick : Binds K F.fd__law_pick ["purse", "things"] [] := F.d__law_pick.fn.bindsN fun _ _ _ _ _ _ us hl => match us, hl with | [_, _], _ => rfl
  have G__law_kind : FnOk P w K mg base CX0 1 F.f__law_kind F.fd__law_kind ["name", "types"] spKindL := ok__law_kind F T Z
  have B__law_kind : Binds K F.fd__law_kind ["name", "types"] [] := F.d__law_kind.fn.bindsN fun _ _ _ _ _ _ us hl => match us, hl with | [_, _], _ => rfl
  have G__law_unknown : FnOk P w K mg base CX0 1 F.f__law_unknown F.fd__law_unknown ["number"] spUnkL := ok__law_unknown F T Z
  have B__law_unknown : Binds K F.fd__law_unknown ["number"] [] := F.d__law_unknown.fn.bindsN fun _ _ _ _ _ _ us hl => match us, hl with | [_], _ => rfl
  have B : Binds K F.fd__law_drawn_type ["purse", "many", "deep"] [] := F.d__law_drawn_type.fn.bindsN fun _ _ _ _ _ _ us hl => match us, hl with | [_, _, _], _ => rfl
  refine F.d__law_drawn_type.fn.ok sc_drawn (fun vs H Q E h => ?_) (fun cdv A outer s H vs Q E hr h => ?_)
  · obtain ⟨p, lc, m, n, rfl, _⟩ := h
    rfl
  obtain ⟨p, lc, m, n, rfl, hP, hn, hm0, hm1, q⟩ := h
  refine ⟨_, PSs.nox (pss_cons (ps_set (i := 3) SC.nd rfl (Or.inl rfl) (pe_call G__law_draw (hr.mono (by omega)) rfl F.d__law_draw.gl F.d__law_draw.fn.kp B__law_draw .nil pass0 (pa_cons (pv 0) (pa_cons pe_int pa_nil))))
    (pss_cons (ps_if (PW.pt (pw_or (PW.pt (pw_and (pt_cmpR op_eq (pv 2) pe_int (nomark _)) (pw_and1 (pt_cmpR op_gt (pv 3) pe_int (nomark _))))) (pw_or1 (pt_cmpR op_lt (pv 3) pe_int (nomark _))))) (pss_one (ps_ret (pe_call G__law_unknown (hr.mono (by omega)) rfl F.d__law_unknown.gl F.d__law_unknown.fn.kp B__law_unknown .nil pass0 (pa_cons (pe_call G__law_draw (hr.mono (by omega)) rfl F.d__law_draw.gl F.d__law_draw.fn.kp B__law_draw .nil pass0 (pa_cons (pv 0) (pa_cons (pv 1) pa_nil))) pa_nil)))) pss_nil)
    (pss_cons (ps_if (pt_cmpR op_lt (pv 3) pe_int (nomark _)) (pss_one (ps_ret (pe_call G__law_kind (hr.mono (by omega)) rfl F.d__law_kind.gl F.d__law_kind.fn.kp B__law_kind .nil pass0 (pa_cons (pe_call G__law_pick (hr.mono (by omega)) rfl F.d__law_pick.gl F.d__law_pick.fn.kp B__law_pick .nil pass0 (pa_cons (pv 0) (pa_cons (pe_lst (pa_cons pe_str (pa_cons pe_str pa_nil))) pa_nil))) (pa_cons (pe_lst pa_nil) pa_nil))))) pss_nil)
    (pss_cons (ps_set (i := 4) SC.nd rfl (Or.inl rfl) (pe_call G__law_pick (hr.mono (by omega)) rfl F.d__law_pick.gl F.d__law_pick.fn.kp B__law_pick .nil pass0 (pa_cons (pv 0) (pa_cons (pe_lst (pa_cons pe_str (pa_cons pe_str (pa_cons pe_str (pa_cons pe_str pa_nil))))) pa_nil))))
    (pss_one (ps_ret (pe_call G__law_kind (hr.mono (by omega)) rfl F.d__law_kind.gl F.d__law_kind.fn.kp B__law_kind .nil pass0 (pa_cons (pv 4) (pa_cons (pe_lc (own := [("part", 5)]) (g := (gName 5)) (by rfl) SC.nd (pi_range1 rfl T.n_range (pa_cons (pe_ifExp (pt_cmpR op_eq (pv 4) pe_str (nomark _)) pe_int pe_int) pa_nil)) (blkOk_by (own := [("part", 5)]) (N := ["purse", "many", "deep", "way", "name", "part"]) (sc := defScope s__law_drawn_type) (by decide +kernel)) (fun _ _ _ _ _ => (pg_name (i := 5) SC.nd rfl (Or.inl rfl))) (fun _ _ _ _ _ => pts_nil) (fun _ _ _ _ _ => (pe_call G (hr.mono (by omega)) rfl F.d__law_drawn_type.gl F.d__law_drawn_type.fn.kp B .nil pass0 (pa_cons (pv 0) (pa_cons (pv 1) (pa_cons (pe_op op_sub (pv 2) pe_int) pa_nil)))))) pa_nil))))))))), ?_⟩
  obtain ⟨⟨op, hpo⟩, ⟨oc, hco⟩, hcp⟩ := hP.at_
  have c2 := cT_pos d
  refine ⟨_, rfl, p, lc, _, n, rfl, hP, by omega, by decide, by decide, fun r H1 hr0 hr1 hP1 hk1 => ?_⟩
  have kp1 : Kp p H H1 := fun b o nb e => (hk1 b nb).trans e
  have occ1 := kp1.occ hP1
  refine drawn_test rfl rfl ?_
  refine ite2 (fun c => ?_) (fun c => ?_)
  · refine ⟨_, rfl, _, rfl, p, lc, m, n + 1, rfl, hP1, by omega, hm0, hm1, fun i H2 hi0 hi1 hP2 hk2 => ⟨_, rfl, fun t ht => ?_⟩⟩
    have kp2 : Kp p H H2 := fun b o nb e => (hk2 b nb).trans (kp1 b o nb e)
    have st := same_new ht (.tup [.str "unknown", .int i])
    have hti : (Ty.unk i.toNat).toD = .tuple [.str "unknown", .int i] := by
      show PyData.tuple [.str "unknown", .int ((i.toNat : Nat) : Int)] = _
      rw [Int.toNat_of_nonneg hi0]
    refine q (.ref t) (.unk i.toNat) _ ?_ rfl (Nat.zero_le _) (sT_pos d) (fun n hn => by
      obtain rfl : n = i.toNat := List.mem_singleton.mp hn
      omega) ((hP2.ex (fun o e => st _ _ e) fun o e => st _ _ e).mono (by omega)) fun b o nb e => st _ _ (kp2 b o nb e)
    rw [hti]
    refine .tup (SqT.of (xs := [.str "unknown", .int i]) ?_) (.cons (.str _) (.cons (.int _) .nil))
    rw [newH_of (kp2.occ hP2 t ht)]
    exact upd_same
  have hd0 : d = 0 → r ≤ 3 := fun z => by
    have : ¬ (((d : Int) = 0 ∧ 3 < r) ∨ r < 2) := fun y => c (decide_eq_true y)
    omega
  obtain ⟨⟨op1, hpo1⟩, ⟨oc1, hco1⟩, _⟩ := hP1.at_
  refine ⟨_, rfl, _, _, rfl, rfl, _, rfl, ?_⟩
  refine ite2 (fun c4 => ?_) (fun c4 => ?_)
  · refine ⟨_, rfl, small _ (by show 2 ≤ 100000; decide), fun l hl => ?_⟩
    have sl := same_new hl (.lst [.str "num", .str "flag"])
    have hpl : p ≠ l := ne_of_none hpo1 hl
    refine ⟨p, lc, l, _, n + 1, rfl, hP1.ex (fun o e => sl _ _ e) (fun o e => sl _ _ e), by omega, SqL.of upd_same, hpl.symm, (fun z => by cases z), (by decide), fun x H2 hx hP2 hk2 => ⟨small _ (by show 0 ≤ 100000; decide), fun e he => ⟨_, _, rfl, fun t ht => ?_⟩⟩⟩
    have kp2 : Kp p H H2 := fun b o nb e => (hk2 b nb).trans (sl _ _ (kp1 b o nb e))
    have s1 := same_new he (.lst [])
    have s2 := same_new ht (.tup [.str "kind", x, .ref e])
    have s12 := s1.trans s2
    obtain ⟨kw, rfl, hkw⟩ : ∃ kw : Str, x = .str kw ∧ kindD (.str kw) = true := by
      simp only [List.mem_cons, List.not_mem_nil, or_false] at hx
      rcases hx with rfl | rfl
      · exact ⟨_, rfl, by decide +kernel⟩
      · exact ⟨_, rfl, by decide +kernel⟩
    have occ2 := kp2.occ hP2
    refine q (.ref t) (.kind kw []) _ ?_ ?_ ?_ (sT_pos d) (fun n hn => by
      have hn' : n ∈ ([] : List Nat) := hn
      cases hn') ((hP2.ex (fun o e => s12 _ _ e) fun o e => s12 _ _ e).mono (by omega)) fun b o nb e => s12 _ _ (kp2 b o nb e)
    · refine .tup (SqT.of (xs := [.str "kind", .str kw, .ref e]) ?_) (.cons (.str _) (.cons (.str _) (.cons (.lst (xs := []) (SqL.of ?_) .nil) .nil)))
      · rw [newH_of (occ2 t (s1.free ht))]
        exact upd_same
      · rw [newH_of (occ2 e he)]
        exact s2 _ _ upd_same
    · simp only [Ty.ok, hkw, Ty.oks]
      decide
    · simp only [Ty.deep, Ty.deeps]
      omega
  obtain ⟨d', rfl⟩ : ∃ d', d = d' + 1 := by
    cases d with
    | zero => exact absurd (decide_eq_true (by have := hd0 rfl; omega)) c4
    | succ d' => exact ⟨d', rfl⟩
  have hcT : cT (d' + 1) = 2 + 2 * cT d' := rfl
  have hsT : sT (d' + 1) = 1 + 2 * sT d' := rfl
  refine ⟨_, rfl, small _ (by show 4 ≤ 100000; decide), fun l hl => ?_⟩
  have sl := same_new hl (.lst [.str "fun", .str "fun", .str "pair", .str "list"])
  have hpl : p ≠ l := ne_of_none hpo1 hl
  refine ⟨p, lc, l, _, n + 1, rfl, hP1.ex (fun o e => sl _ _ e) (fun o e => sl _ _ e), by omega, SqL.of upd_same, hpl.symm, (fun z => by cases z), (by decide), fun x H2 hx hP2 hk2 => ?_⟩
  have kp2 : Kp p H H2 := fun b o nb e => (hk2 b nb).trans (sl _ _ (kp1 b o nb e))
  obtain ⟨kw, rfl, hkw⟩ : ∃ kw : Str, x = .str kw ∧ kindD (.str kw) = true := by
    simp only [List.mem_cons, List.not_mem_nil, or_false] at hx
    rcases hx with rfl | rfl | rfl | rfl
    · exact ⟨_, rfl, by decide +kernel⟩
    · exact ⟨_, rfl, by decide +kernel⟩
    · exact ⟨_, rfl, by decide +kernel⟩
    · exact ⟨_, rfl, by decide +kernel⟩
  obtain ⟨⟨op2, hpo2⟩, ⟨oc2, hco2⟩, _⟩ := hP2.at_
  have occ2 := kp2.occ hP2
  refine ⟨_, rfl, ?_⟩
  refine ⟨_, rfl, rfl, _, rfl, ?_⟩
  refine ite2 (fun _ => ⟨1, rfl, by decide, by decide, fun D hD => ?_⟩) (fun _ => ⟨2, rfl, by decide, by decide, fun D hD => ?_⟩)
  all_goals
    have hPD : p ≠ D := ne_of_none hpo2 hD
    have hcD : lc ≠ D := ne_of_none hco2 hD
    refine lc_range (fun i G => i ≤ 2 ∧ ∃ acc ts, G D = some (.lst acc) ∧ DxAll K (newH (upd H2 D (.lst [])) G) acc (Ty.toDs ts) ∧ Ty.oks ts = true ∧ ts.length = i ∧ Ty.deeps ts ≤ d' + 1 ∧ Ty.sizes ts ≤ i * sT d' ∧ (∀ n ∈ (Ty.partss ts).filterMap unkN, (n : Int) < m) ∧ Purse G p lc (n + 2 + i * cT d') ∧ ∀ b o, b ≠ p → b ≠ D → H2 b = some o → G b = some o)
      ⟨Nat.zero_le _, [], [], upd_same, .nil, rfl, rfl, Nat.zero_le _, Nat.zero_le _, fun n hn => (by
        have hn' : n ∈ ([] : List Nat) := hn
        cases hn'), by
        rw [Nat.zero_mul]
        exact hP2.ex (fun o e => by rw [upd_ne hPD]; exact e) (fun o e => by rw [upd_ne hcD]; exact e), fun b o _ hb e => by rw [upd_ne hb]; exact e⟩ ?_ ?_
    · rintro i G hi ⟨hi2, acc, ts, y1, y2, y3, y4, y5, y6, y9, y7, y8⟩
      have hi1 : i ≤ 1 := by
        have : i < 2 := Nat.lt_of_lt_of_le hi (by decide)
        omega
      have hic : i * cT d' ≤ 1 * cT d' := Nat.mul_le_mul_right _ hi1
      have c2' := cT_pos d'
      refine ⟨rfl, _, rfl, _, rfl, _, rfl, _, _, rfl, rfl, p, lc, m, n + 2 + i * cT d', ?_, y7, by omega, hm0, hm1, fun x t G2 hx hok hdeep hsize hnum hP3 hk3 => ?_⟩
      · show [V.ref p, V.int m, V.int (((d' + 1 : Nat) : Int) - 1)] ++ [] = _
        rw [show (((d' + 1 : Nat) : Int) - 1) = (d' : Int) by omega]
        rfl
      have occG : ∀ b, G b = none → upd H2 D (.lst []) b = none := fun b e => by
        have nD : b ≠ D := fun z => by
          rw [z, y1] at e
          cases e
        have np : b ≠ p := fun z => by
          obtain ⟨⟨o, zz⟩, _, _⟩ := y7.at_
          rw [z, zz] at e
          cases e
        rw [upd_ne nD]
        cases q2 : H2 b with
        | none => rfl
        | some o =>
          rw [y8 b o np nD q2] at e
          cases e
      have nDof : ∀ {b : Addr}, upd H2 D (.lst []) b = none → b ≠ D ∧ b ≠ p := fun {b} e => by
        refine ⟨fun z => ?_, fun z => ?_⟩
        · rw [z, upd_same] at e
          cases e
        · rw [z, upd_ne hPD, hpo2] at e
          cases e
      have hal := y2.length
      rw [toDs_map, List.length_map] at hal
      refine ⟨acc, hk3 _ _ hPD.symm y1, Nat.lt_of_le_of_lt (show acc.length ≤ 100 by omega) (by decide), by omega, acc ++ [x], ts ++ [t], upd_same, ?_, ?_, by rw [List.length_append, y4]; rfl, ?_, ?_, ?_, ?_, fun b o hb hbD e => ?_⟩
      · rw [toDs_append]
        refine .append (y2.mono (newH_mono (fun _ e => e) fun b o e e2 => ?_)) (.cons (hx.mono (newH_mono occG fun b o e e2 => ?_)) .nil)
        · rw [upd_ne (nDof e).1]
          exact hk3 b o (nDof e).2 e2
        · rw [upd_ne (nDof (occG b e)).1]
          exact e2
      · rw [oks_append, y3]
        simp [Ty.oks, hok]
      · rw [deeps_append]
        simp only [Ty.deeps]
        omega
      · rw [sizes_append, Nat.succ_mul]
        simp only [Ty.sizes]
        omega
      · intro n hn
        rw [partss_append, List.filterMap_append] at hn
        rcases List.mem_append.mp hn with hn | hn
        · exact y9 n hn
        · refine hnum n ?_
          have e : Ty.partss [t] = t.parts := by rw [Ty.partss, Ty.partss, List.append_nil]
          rw [e] at hn
          exact hn
      · refine (hP3.ex (fun o e => ?_) fun o e => ?_).mono (by rw [Nat.succ_mul]; omega)
        · rw [upd_ne hPD]
          exact e
        · rw [upd_ne hcD]
          exact e
      · rw [upd_ne hbD]
        exact hk3 b o hb (y8 b o hb hbD e)
    · rintro G ⟨hi2, acc, ts, y1, y2, y3, y4, y5, y6, y9, y7, y8⟩
      refine ⟨_, _, rfl, fun t ht => ?_⟩
      have st := same_new ht (.tup [.str "kind", .str kw, .ref D])
      have hDH : H D = none := occ2 D hD
      have kpG : Kp p H G := fun b o nb e => y8 b o nb (ne_of_none e hDH) (kp2 b o nb e)
      have occG : ∀ b, G b = none → H b = none := kpG.occ y7
      have hmul := Nat.mul_le_mul_right (cT d') hi2
      have hmul2 := Nat.mul_le_mul_right (sT d') hi2
      refine q (.ref t) (.kind kw ts) _ ?_ ?_ ?_ ?_ y9 ((y7.ex (fun o e => st _ _ e) fun o e => st _ _ e).mono (by omega)) fun b o nb e => st _ _ (kpG b o nb e)
      · refine .tup (SqT.of (xs := [.str "kind", .str kw, .ref D]) ?_) (.cons (.str _) (.cons (.str _) (.cons (.lst (xs := acc) (SqL.of ?_) ?_) .nil)))
        · rw [newH_of (occG t ht)]
          exact upd_same
        · rw [newH_of hDH]
          exact st _ _ y1
        · refine y2.mono (newH_mono (fun b e => ?_) fun b o e e2 => st _ _ e2)
          have nD : b ≠ D := fun z => by
            rw [z, upd_same] at e
            cases e
          rw [upd_ne nD] at e
          exact occ2 b e
      · simp only [Ty.ok, hkw, y3, Bool.true_and, Bool.and_true, decide_eq_true_eq]
        omega
      · simp only [Ty.deep]
        omega
      · simp only [Ty.size]
        omega
theorem ok_no3 {k : Nat} {f : Addr} {fd : FuncData} {ps : List Str} : FnOk P w K mg base CX0 k f fd ps (fun _ _ _ _ => False) := ⟨fun _ _ _ _ h => h.elim, fun _ _ _ _ _ _ _ _ _ _ _ _ _ h => h.elim⟩
theorem ok_drawn (F : Fs K mg) (T : Txt K mg) (Z : Exs P K mg) : ∀ d, FnOk P w K mg base CX0 (d + 4) F.f__law_drawn_type F.fd__law_drawn_type ["purse", "many", "deep"] (spDrawn K d)
  | 0 => drawn_step F T Z (k := 0) ok_no3
  | d + 1 => drawn_step F T Z (k := d + 1) (ok_drawn F T Z d)
end
end K20

set_option Elab.async false
set_option linter.all false
set_option maxRecDepth 100000
set_option maxHeartbeats 1000000
namespace K20
open PySem PySem.Spec L2 Wy
section
variable {P : Program} {w : World} {K : PySem.W.Frag} {mg : Str → Option Value} {base : Heap}
def intsV (ns : List Nat) : List V := ns.map fun (n : Nat) => V.int (n : Int)
theorem in_ints (n : Nat) : ∀ ns : List Nat, inV (.int (n : Int)) (intsV ns) = decide (n ∈ ns)
  | [] => rfl
  | m :: ns => by
    have ih := in_ints n ns
    unfold inV intsV at ih ⊢
    rw [List.map_cons, List.any_cons, ih]
    show ((m : Int) == (n : Int) || decide (n ∈ ns)) = _
    rw [Bool.eq_iff_iff]
    simp only [Bool.or_eq_true, beq_iff_eq, decide_eq_true_eq, List.mem_cons]
    constructor
    · rintro (z | z)
      · exact .inl (by exact_mod_cast z.symm)
      · exact .inr z
    · rintro (z | z)
      · exact .inl (by rw [z])
      · exact .inr z
theorem flat_ints : ∀ ns : List Nat, (intsV ns).all flatV = true
  | [] => rfl
  | n :: ns => by
    unfold intsV
    rw [List.map_cons, List.all_cons]
    exact flat_ints ns
/-- as the law counts them -/
def lawNums (ts : List Ty) : List Nat := addAll [] ((Ty.partss ts).filterMap unkN)
def spNumsL (K : PySem.W.Frag) : Sp := fun vs H Q _ => ∃ (a : Addr) (xs : List V) (ts : List Ty) (Fh : Hp), vs = [.ref a] ∧ SqL K H a xs ∧ DxAll K Fh xs (Ty.toDs ts) ∧ Same Fh H ∧ Ty.oks ts = true ∧ Ty.sizes ts ≤ 100000 ∧
  ∀ (r : Addr) (H' : Hp), Same H H' → H r = none → H' r = some (.lst (intsV (lawNums ts))) → Q (.ref r) H'
theorem sc__law_numbers : FnScope ["ones", "found", "one", "part"] ["ones"] (defScope s__law_numbers) := ⟨rfl, rfl, rfl, by decide +kernel, rfl, by decide +kernel, by decide +kernel⟩
theorem ok__law_numbers (F : Fs K mg) (T : Txt K mg) (Z : Exs P K mg) : FnOk P w K mg base CX0 3 F.f__law_numbers F.fd__law_numbers ["ones"] (spNumsL K) := by
  have SC := sc__law_numbers
  have G__law_parts : FnOk P w K mg base CX0 2 F.f__law_parts F.fd__law_parts ["one"] (spAll K) := ok__law_parts F T Z
  have B__law_parts : Binds K F.fd__law_parts ["one"] [] := F.d__law_parts.fn.bindsN fun _ _ _ _ _ _ us hl => match us, hl with | [_], _ => rfl
  refine F.d__law_numbers.fn.ok sc__law_numbers (fun vs H Q E h => ?_) (fun cdv A outer s H vs Q E hr h => ?_)
  · obtain ⟨a, xs, ts, Fh, rfl, _⟩ := h; rfl
  obtain ⟨a, xs, ts, Fh, rfl, hq, hall, sF, oks, hsz, q⟩ := h
  refine ⟨_, PSs.nox (pss_cons (ps_set (i := 1) SC.nd rfl (Or.inl rfl) (pe_lst pa_nil))
    (pss_cons (ps_for PassesOwn.never rfl (pi_list (pv 0)) (pg_name (i := 2) SC.nd rfl (Or.inl rfl)) (pss_one (ps_for PassesOwn.never rfl (pi_list (pe_call G__law_parts (hr.mono (by decide)) rfl F.d__law_parts.gl F.d__law_parts.fn.kp B__law_parts .nil pass0 (pa_cons (pv 2) pa_nil))) (pg_name (i := 3) SC.nd rfl (Or.inl rfl)) (pss_one (ps_set (i := 1) SC.nd rfl (Or.inl rfl) (pe_op op_cat (pv 1) (pe_op op_rep (pe_lst (pa_cons (pe_ix ix_tup (pv 3) pe_int (fun _ _ => rfl)) pa_nil)) (pe_callTy call_int1 (by rfl) T.n_int (by decide +kernel) (pa_cons (pe_and (pe_cmpR op_eq (pe_ix ix_tup (pv 3) pe_int (fun _ _ => rfl)) pe_str (nomark _)) (pe_one (pe_cmpR op_notIn_seq (pe_ix ix_tup (pv 3) pe_int (fun _ _ => rfl)) (pv 1) rfl))) pa_nil)))))))))
    (pss_one (ps_ret (pv 1))))), ?_⟩
  refine ⟨small _ (by show 0 ≤ 100000; decide), fun g hg => ?_⟩
  have s0 := same_new hg (.lst [])
  have hxl := hall.length
  rw [toDs_map, List.length_map] at hxl
  refine ⟨_, rfl, a, rfl, ⟨xs, s0.seq hq⟩, for_list (xs := xs) (fun i σ H' => (∃ g x y, σ = [some (.ref a), some (.ref g), x, y] ∧ H g = none ∧ H' g = some (.lst (intsV (lawNums (ts.take i))))) ∧ Same H H') ⟨⟨g, _, _, rfl, hg, upd_same⟩, s0⟩ ?_ ?_ ?_⟩
  · rintro i σ H' _ ⟨_, k1⟩
    exact k1.seq hq
  · rintro i x σ H' hi ⟨⟨g', w1, w2, rfl, hg', k2⟩, k1⟩
    obtain ⟨d, hd1, hx⟩ := hall.get hi
    rw [toDs_map, List.getElem?_map] at hd1
    obtain ⟨t, ht, rfl⟩ := Option.map_eq_some_iff.mp hd1
    have htm := List.mem_of_getElem? ht
    have htake : ts.take (i + 1) = ts.take i ++ [t] := by
      rw [List.take_add_one, ht]
      rfl
    refine ⟨_, rfl, x, t, Fh, rfl, hx, sF.trans k1, oks_mem oks t htm, Nat.le_trans (sizes_mem htm) hsz, fun r fv G1 s1 hr0 hr1 hfv => ?_⟩
    have hfl := hfv.length
    rw [toDs_map, List.length_map] at hfl
    refine ⟨r, rfl, ⟨fv, SqL.of hr1⟩, for_list (xs := fv) (fun j σ G => (∃ g y, σ = [some (.ref a), some (.ref g), some x, y] ∧ H g = none ∧ G g = some (.lst (intsV (addAll (lawNums (ts.take i)) ((t.parts.take j).filterMap unkN))))) ∧ Same G1 G) ⟨⟨g', _, rfl, hg', s1 _ _ k2⟩, same_refl⟩ ?_ ?_ ?_⟩
    · rintro j σ G _ ⟨_, z1⟩
      exact SqL.of (z1 _ _ hr1)
    · rintro j y σ G hj ⟨⟨g1, w3, rfl, hg1, z2⟩, z1⟩
      obtain ⟨d, hd1, hyd⟩ := hfv.get hj
      rw [toDs_map, List.getElem?_map] at hd1
      obtain ⟨u, hu1, rfl⟩ := Option.map_eq_some_iff.mp hd1
      have htk : t.parts.take (j + 1) = t.parts.take j ++ [u] := by
        rw [List.take_add_one, hu1]
        rfl
      have kH : Same H G := k1.trans (s1.trans z1)
      have sG : Same Fh G := sF.trans kH
      have stepN : addAll (lawNums (ts.take i)) ((t.parts.take (j + 1)).filterMap unkN) = match unkN u with
          | some n => addN (addAll (lawNums (ts.take i)) ((t.parts.take j).filterMap unkN)) n
          | none => addAll (lawNums (ts.take i)) ((t.parts.take j).filterMap unkN) := by
        rw [htk, List.filterMap_append]
        unfold addAll
        rw [List.foldl_append]
        cases u <;> rfl
      rw [stepN]
      have hnl := addAll_length ((t.parts.take j).filterMap unkN) (lawNums (ts.take i))
      generalize addAll (lawNums (ts.take i)) ((t.parts.take j).filterMap unkN) = ns at z2 hnl ⊢
      have hns : ns.length ≤ 1000000 := by
        have h1 := List.length_filterMap_le unkN (t.parts.take j)
        have h2 := addAll_length ((Ty.partss (ts.take i)).filterMap unkN) []
        have h3 := List.length_filterMap_le unkN (Ty.partss (ts.take i))
        rw [partss_length] at h3
        rw [List.length_take, parts_length] at h1
        have h4 := sizes_take ts i
        have h5 := sizes_mem htm
        simp only [List.length_nil] at h2
        unfold lawNums at hnl
        omega
      -- found + zs, zs told by k
      have go : ∀ (G2 : Hp) (l : Addr) (y1 : V) (k : Int) (ms : List Nat), Same G G2 → G2 l = some (.lst [y1]) → (k = 0 ∨ k = 1) → (List.replicate k.toNat [y1]).flatten = intsV ms → ns ++ ms = (match unkN u with
          | some n => addN ns n
          | none => ns) → ∀ (Qx : VK), (∀ g G5, H g = none → G5 g = some (.lst (intsV (ns ++ ms))) → Same G1 G5 → Qx (.ref g) G5) → rRep (.ref l) (.int k) G2 fun z G4 => rCat (.ref g1) z G4 Qx := by
        intro G2 l y1 k ms s2 hl hk hrep hms Qx qx
        refine ⟨l, k, [y1], rfl, rfl, hl, by omega, by omega, ?_, fun p2 hp2 => ?_⟩
        · refine Nat.le_trans (show _ ≤ 1 from ?_) (by decide)
          rcases hk with rfl | rfl
          · exact Nat.zero_le _
          · exact Nat.le_refl _
        rw [hrep]
        have s3 := same_new hp2 (.lst (intsV ms))
        have hml : (intsV ms).length ≤ 1 := by
          rw [← hrep]
          rcases hk with rfl | rfl <;> simp
        refine ⟨g1, p2, _, _, rfl, rfl, s3 _ _ (s2 _ _ z2), upd_same, ?_, fun g2 hg2 => ?_⟩
        · unfold intsV at hml ⊢
          rw [List.length_map] at hml ⊢
          rw [List.length_map]
          exact Nat.le_trans (show _ ≤ 1000001 by omega) (by decide)
        · refine qx g2 _ ((kH.trans (s2.trans s3)).free hg2) ?_ (z1.trans (s2.trans (s3.trans (same_new hg2 _))))
          rw [upd_same]
          unfold intsV
          rw [List.map_append]
      cases u with
      | unk n =>
        obtain ⟨p, ys, rfl, hqp, hap⟩ := (show Dx K Fh y (.tuple [.str "unknown", .int (n : Int)]) from hyd).tup_inv
        obtain ⟨x0, e0, h0⟩ := hap.get' (i := 0) rfl
        obtain ⟨x1, e1, h1⟩ := hap.get' (i := 1) rfl
        obtain rfl := h0.str_inv
        cases h1
        refine ⟨_, rfl, _, rfl, p, ys, 1, _, rfl, rfl, same_seqT sG hqp, at_of (j := 1) rfl e1, small _ (by show 1 ≤ 100000; decide), fun l hl => ?_⟩
        have s2 := same_new hl (.lst [.int (n : Int)])
        refine ⟨_, rfl, p, ys, 0, _, rfl, rfl, same_seqT (sG.trans s2) hqp, at_of (j := 0) rfl e0, rfl, _, rfl, ?_⟩
        refine ite2 (fun _ => ?_) (fun c => absurd (decide_eq_true rfl) c)
        refine ⟨_, rfl, p, ys, 1, _, rfl, rfl, same_seqT (sG.trans s2) hqp, at_of (j := 1) rfl e1, _, rfl, g1, _, rfl, .inl (SqL.of (s2 _ _ z2)), rfl, flat_ints _, ?_⟩
        refine .inr ⟨_, rfl, ?_⟩
        rw [in_ints]
        by_cases hn : n ∈ ns
        · rw [decide_eq_true hn]
          refine go _ l _ 0 [] s2 upd_same (.inl rfl) rfl ?_ _ fun g G5 h1 h2 h3 => ?_
          · show ns ++ [] = addN ns n
            unfold addN
            rw [if_pos hn, List.append_nil]
          · refine ⟨⟨g, _, rfl, h1, ?_⟩, h3⟩
            rw [h2]
            show _ = some (HO.lst (intsV (addN ns n)))
            unfold addN
            rw [if_pos hn, List.append_nil]
        · rw [decide_eq_false hn]
          refine go _ l _ 1 [n] s2 upd_same (.inr rfl) rfl ?_ _ fun g G5 h1 h2 h3 => ?_
          · show ns ++ [n] = addN ns n
            unfold addN
            rw [if_neg hn]
          · refine ⟨⟨g, _, rfl, h1, ?_⟩, h3⟩
            rw [h2]
            show _ = some (HO.lst (intsV (addN ns n)))
            unfold addN
            rw [if_neg hn]
      | kind kw us =>
        obtain ⟨p, ys, rfl, hqp, hap⟩ := (show Dx K Fh y (.tuple [.str "kind", .str kw, .list (Ty.toDs us)]) from hyd).tup_inv
        obtain ⟨x0, e0, h0⟩ := hap.get' (i := 0) rfl
        obtain ⟨x1, e1, h1⟩ := hap.get' (i := 1) rfl
        obtain rfl := h0.str_inv
        refine ⟨_, rfl, _, rfl, p, ys, 1, _, rfl, rfl, same_seqT sG hqp, at_of (j := 1) rfl e1, small _ (by show 1 ≤ 100000; decide), fun l hl => ?_⟩
        have s2 := same_new hl (.lst [x1])
        refine ⟨_, rfl, p, ys, 0, _, rfl, rfl, same_seqT (sG.trans s2) hqp, at_of (j := 0) rfl e0, rfl, _, rfl, ?_⟩
        refine ite2 (fun c => absurd (V.str.inj (of_decide_eq_true c)) (by decide)) (fun _ => ?_)
        refine .inr ⟨_, rfl, ?_⟩
        refine go _ l _ 0 [] s2 upd_same (.inl rfl) rfl (List.append_nil _) _ fun g G5 h1 h2 h3 => ?_
        refine ⟨⟨g, _, rfl, h1, ?_⟩, h3⟩
        rw [h2, List.append_nil]
        rfl
    · rintro σ G ⟨⟨g1, w3, rfl, hg1, z2⟩, z1⟩
      rw [hfl, List.take_length] at z2
      refine ⟨⟨g1, _, _, rfl, hg1, ?_⟩, k1.trans (s1.trans z1)⟩
      rw [z2, htake]
      unfold lawNums
      rw [partss_append, List.filterMap_append]
      have e : Ty.partss [t] = t.parts := by rw [Ty.partss, Ty.partss, List.append_nil]
      rw [e]
      unfold addAll
      rw [List.foldl_append]
  · rintro σ H' ⟨⟨g', x, y, rfl, hg', k2⟩, k1⟩
    rw [hxl, List.take_length] at k2
    exact ⟨_, rfl, q g' H' k1 hg' k2⟩
end
end K20

set_option Elab.async false
set_option linter.all false
set_option maxRecDepth 100000
set_option maxHeartbeats 1000000
namespace K20
open PySem PySem.Spec L2 Wy
section
variable {P : Program} {w : World} {K : PySem.W.Frag} {mg : Str → Option Value} {base : Heap}
theorem sc_law_put : FnScope ["one", "table", "part"] ["one", "table"] (defScope s__law_put) := ⟨rfl, rfl, rfl, by decide +kernel, rfl, by decide +kernel, by decide +kernel⟩
theorem lput_step (F : Fs K mg) (T : Txt K mg) (Z : Exs P K mg) {n k : Nat} (G : FnOk P w K mg base CX0 (k + 1) F.f__law_put F.fd__law_put ["one", "table"] (spPutB K n)) : FnOk P w K mg base CX0 (k + 2) F.f__law_put F.fd__law_put ["one", "table"] (spPut K n) := by
  have SC := sc_law_put
  have G__law_kind : FnOk P w K mg base CX0 1 F.f__law_kind F.fd__law_kind ["name", "types"] spKindL := ok__law_kind F T Z
  have B__law_kind : Binds K F.fd__law_kind ["name", "types"] [] := F.d__law_kind.fn.bindsN fun _ _ _ _ _ _ us hl => match us, hl with | [_, _], _ => rfl
  have B : Binds K F.fd__law_put ["one", "table"] [] := F.d__law_put.fn.bindsN fun _ _ _ _ _ _ us hl => match us, hl with | [_, _], _ => rfl
  refine F.d__law_put.fn.ok sc_law_put (fun vs H Q E h => ?_) (fun cdv A outer s H vs Q E hr h => ?_)
  · obtain ⟨v, t, tb, kvs, f, Fh, rfl, _⟩ := h
    rfl
  obtain ⟨v, t, tb, kvs, f, Fh, rfl, hd, sF, ok, hdeep, htb, hT, q⟩ := h
  have hu1 := hu_of hr
  refine ⟨_, PSs.nox (pss_cons (ps_if (pt_cmpR op_eq (pe_ix ix_tup (pv 0) pe_int (fun _ _ => rfl)) pe_str (nomark _)) (pss_one (ps_ret (pe_ifExp (pt_cmp (pc_din hu1 (pe_ix ix_tup (pv 0) pe_int (fun _ _ => rfl)) (pv 1))) (pe_dget hu1 (pv 1) (pe_ix ix_tup (pv 0) pe_int (fun _ _ => rfl)) (fun _ _ => rfl)) (pv 0)))) pss_nil)
    (pss_one (ps_ret (pe_call G__law_kind (hr.mono (by omega)) rfl F.d__law_kind.gl F.d__law_kind.fn.kp B__law_kind .nil pass0 (pa_cons (pe_ix ix_tup (pv 0) pe_int (fun _ _ => rfl)) (pa_cons (pe_lc (own := [("part", 2)]) (g := (gName 2)) (by rfl) SC.nd (pi_list (pe_ix ix_tup (pv 0) pe_int (fun _ _ => rfl))) (blkOk_by (own := [("part", 2)]) (N := ["one", "table", "part"]) (sc := defScope s__law_put) (by decide +kernel)) (fun _ _ _ _ _ => (pg_name (i := 2) SC.nd rfl (Or.inl rfl))) (fun _ _ _ _ _ => pts_nil) (fun _ _ _ _ _ => (pe_call G (hr.mono (by omega)) rfl F.d__law_put.gl F.d__law_put.fn.kp B .nil pass0 (pa_cons (pv 2) (pa_cons (pv 1) pa_nil))))) pa_nil)))))), ?_⟩
  cases t with
  | unk m =>
    obtain ⟨p, xs, rfl, hq, hall⟩ := (show Dx K Fh v (.tuple [.str "unknown", .int (m : Int)]) from hd).tup_inv
    obtain ⟨x0, e0, h0⟩ := hall.get' (i := 0) rfl
    obtain ⟨x1, e1, h1⟩ := hall.get' (i := 1) rfl
    obtain rfl := h0.str_inv
    cases h1
    have hq' := same_seqT sF hq
    refine ⟨_, rfl, p, xs, 0, _, rfl, rfl, hq', at_of (j := 0) rfl e0, rfl, _, rfl, ?_⟩
    refine ite2 (fun _ => ?_) (fun c => absurd (decide_eq_true rfl) c)
    refine ⟨_, rfl, p, xs, 1, _, rfl, rfl, hq', at_of (j := 1) rfl e1, _, rfl, tb, _, rfl, DGet.k (k := Sum.inl (m : Int)) htb, _, rfl, ?_⟩
    have hm := hT m
    cases hv : valV kvs (Sum.inl (m : Int)) with
    | none =>
      rw [hv] at hm
      refine ⟨_, rfl, ?_⟩
      refine q _ [] H same_refl ?_ (fun a z => by cases z)
      have e : (Ty.unk m).put f = .unk m := by
        rw [Ty.put, show f m = none from hm]
        rfl
      rw [e]
      exact tr_unk hq' hall
    | some x =>
      rw [hv] at hm
      obtain ⟨u, hfu, hx⟩ := hm
      refine ⟨_, rfl, _, rfl, p, xs, 1, _, rfl, rfl, hq', at_of (j := 1) rfl e1, tb, x, rfl, (by rw [← hv]; exact DGet.k (k := Sum.inl (m : Int)) htb), ?_⟩
      refine q x [] H same_refl ?_ (fun a z => by cases z)
      have e : ((Ty.unk m).put f).toD = u.toD := by
        rw [Ty.put, hfu]
        rfl
      rw [e]
      exact .sh ⟨m, u, hfu, rfl, hx⟩
  | kind kw ts =>
    obtain ⟨p, xs, rfl, hq, hall⟩ := (show Dx K Fh v (.tuple [.str "kind", .str kw, .list (Ty.toDs ts)]) from hd).tup_inv
    obtain ⟨x0, e0, h0⟩ := hall.get' (i := 0) rfl
    obtain ⟨x1, e1, h1⟩ := hall.get' (i := 1) rfl
    obtain ⟨x2, e2, h2⟩ := hall.get' (i := 2) rfl
    obtain rfl := h0.str_inv
    obtain rfl := h1.str_inv
    obtain ⟨b, ys, rfl, hqb, hab⟩ := h2.lst_inv
    have hq' := same_seqT sF hq
    have hyl := hab.length
    rw [toDs_map, List.length_map] at hyl
    have h3 : ts.length ≤ 3 := sides_three (t := .kind kw ts) ok
    refine ⟨_, rfl, p, xs, 0, _, rfl, rfl, hq', at_of (j := 0) rfl e0, rfl, _, rfl, ?_⟩
    refine ite2 (fun c => absurd (V.str.inj (of_decide_eq_true c)) (by decide)) (fun _ => ?_)
    refine ⟨_, rfl, p, xs, 1, _, rfl, rfl, hq', at_of (j := 1) rfl e1, ?_⟩
    refine ⟨_, rfl, p, xs, 2, _, rfl, rfl, hq', at_of (j := 2) rfl e2, b, rfl, ⟨ys, sF.seq hqb⟩, fun D hD => ?_⟩
    refine lc_list (xs := ys) (fun i H' => Same H H' ∧ ∃ acc S, H' D = some (.lst acc) ∧ TrAll K (ShOf K Fh f) (outA H' D) acc (Ty.toDs ((ts.take i).map (Ty.put f))) S ∧ (∀ a ∈ S, H a = none) ∧ D ∉ S ∧ ∀ a ∈ S, H' a ≠ none) ⟨same_new hD _, [], [], upd_same, .nil, fun _ z => (by cases z), (by simp), fun _ z => (by cases z)⟩ ?_ ?_ ?_
    · rintro i H' _ ⟨z, _⟩
      exact z.seq (sF.seq hqb)
    · rintro i y H' hi ⟨z1, acc, S, z2, z3, z4, z5, z6⟩
      obtain ⟨d, hd1, hy⟩ := hab.get hi
      rw [toDs_map, List.getElem?_map] at hd1
      obtain ⟨u, hu1, rfl⟩ := Option.map_eq_some_iff.mp hd1
      have hum := List.mem_of_getElem? hu1
      have hul := (List.getElem?_eq_some_iff.mp hu1).1
      have huok : u.ok = true := oks_mem (oks_sides (t := .kind kw ts) ok) u hum
      obtain ⟨n', rfl⟩ : ∃ n', n = n' + 1 := ⟨n - 1, by
        simp only [Ty.deep] at hdeep
        omega⟩
      have hud : u.deep ≤ n' := by
        have := deep_mem hum
        simp only [Ty.deep] at hdeep
        omega
      refine ⟨rfl, _, rfl, _, rfl, y, u, tb, kvs, f, Fh, rfl, hy, sF.trans z1, huok, hud, z1 _ _ htb, hT, fun x S2 G2 s2 hx hf2 => ?_⟩
      have hal := z3.length
      rw [toDs_map, List.length_map, List.length_map, List.length_take] at hal
      refine ⟨acc, s2 _ _ z2, Nat.lt_of_le_of_lt (show acc.length ≤ 100 by omega) (by decide), fun a o e => ?_, acc ++ [x], S ++ S2, upd_same, ?_, fun a ha => ?_, fun ha => ?_, fun a ha => ?_⟩
      · rw [upd_ne (ne_of_none e hD)]
        exact s2 _ _ (z1 _ _ e)
      · have eT : (ts.take (i + 1)).map (Ty.put f) = (ts.take i).map (Ty.put f) ++ [u.put f] := by
          rw [List.take_add_one, hu1, List.map_append]
          rfl
        rw [eT, toDs_append]
        have eo : outA (upd G2 D (.lst (acc ++ [x]))) D = outA G2 D := outA_eq fun c hc => upd_ne hc
        rw [eo]
        have DS2 : D ∉ S2 := fun z => by
          have := hf2 D z
          rw [z2] at this
          cases this
        refine TrAll.snoc (z3.mono (outA_same fun c o _ e => s2 c o e)) (Tr.out (s2 _ _ z2) hx DS2) fun a ha z => ?_
        exact z6 a ha (hf2 a z)
      · rcases List.mem_append.mp ha with ha | ha
        · exact z4 a ha
        · exact z1.free (hf2 a ha)
      · rcases List.mem_append.mp ha with ha | ha
        · exact z5 ha
        · have := hf2 D ha
          rw [z2] at this
          cases this
      · by_cases haD : a = D
        · rw [haD, upd_same]
          exact fun z => by cases z
        rw [upd_ne haD]
        rcases List.mem_append.mp ha with ha | ha
        · cases e : H' a with
          | none => exact absurd e (z6 a ha)
          | some o =>
            rw [s2 _ _ e]
            exact fun z => by cases z
        · obtain ⟨l, e⟩ := Tr.there hx a ha
          rw [e]
          exact fun z => by cases z
    · rintro H' ⟨z1, acc, S, z2, z3, z4, z5, z6⟩
      rw [hyl, List.take_length] at z3
      refine ⟨_, _, rfl, fun p' hp' => ?_⟩
      have sp := same_new hp' (.tup [.str "kind", .str kw, .ref D])
      refine q (.ref p') (D :: S) _ (z1.trans sp) ?_ fun a ha => ?_
      · have e : (Ty.kind kw ts).put f = .kind kw (ts.map (Ty.put f)) := by
          rw [Ty.put, puts_map]
        rw [e]
        exact tr_kind upd_same (sp _ _ z2) (z3.mono (outA_sub.trans sp)) z5
      · rcases List.mem_cons.mp ha with rfl | ha
        · exact hD
        · exact z4 a ha
theorem ok_law_put (F : Fs K mg) (T : Txt K mg) (Z : Exs P K mg) : ∀ n, FnOk P w K mg base CX0 (n + 2) F.f__law_put F.fd__law_put ["one", "table"] (spPut K n)
  | 0 => lput_step F T Z (k := 0) ok_no
  | n + 1 => lput_step F T Z (k := n + 1) (ok_law_put F T Z n)
end
end K20

set_option Elab.async false
set_option linter.all false
set_option maxRecDepth 100000
set_option maxHeartbeats 1000000
namespace K20
open PySem PySem.Spec L2 Wy
section
variable {P : Program} {w : World} {K : PySem.W.Frag} {mg : Str → Option Value} {base : Heap}
def spPlainsL (K : PySem.W.Frag) : Sp := fun vs H Q _ => ∃ (a : Addr) (xs : List V) (ts : List Ty) (M : Addr → Bool), vs = [.ref a] ∧ Occ M H ∧ SqL K (outM M H) a xs ∧ DxAll K (outM M H) xs (Ty.toDs ts) ∧ Ty.oks ts = true ∧ Ty.sizes ts ≤ 100000 ∧ Ty.deeps ts ≤ 8 ∧
  ∀ (r : Addr) (H' : Hp), Same H H' → Dx K (outM M H') (.ref r) (.list (Ty.toDs (plainTs ts))) → Q (.ref r) H'
theorem outM_upd {M : Addr → Bool} {A B : Hp} {R : Addr} {o : HO} (hR : M R = true) (s : Same A B) : Same (outM M A) (outM M (upd B R o)) := fun b u e => by
  unfold outM at e ⊢
  split at e
  · cases e
  · rename_i h
    rw [if_neg h, upd_ne (fun z => h (by rw [z]; exact hR))]
    exact s _ _ e
theorem outM_less {M M2 : Addr → Bool} {A : Hp} (h : ∀ b, M b = true → M2 b = true) : Same (outM M2 A) (outM M A) := fun b u e => by
  unfold outM at e ⊢
  split at e
  · cases e
  · rename_i z
    rw [if_neg fun y => z (h b y)]
    exact e
abbrev lcS : Scope := { kind := .function, names := [(".0", .local), ("one", .local), ("_law_put", .globalImplicit), ("dict", .globalImplicit), ("enumerate", .globalImplicit), ("numbers", .cell)], isGenerator := false, isCoroutine := false }
def rDictP (K : PySem.W.Frag) : List V → Hp → VK → Prop := fun xs H Q => ∃ (a : Addr) (ps : List Addr) (kvs : List (Key × V)), xs = [.ref a] ∧ SqL K H a (ps.map V.ref) ∧ Paired (fun p kv => SqT K H p [kV kv.1, kv.2]) ps kvs ∧ ∀ p, H p = none → Q (.ref p) (upd H p (.dK (mergeK [] kvs)))
def tePl (K : PySem.W.Frag) : TE := tCall (spPut K 8) [] E0 (tCons (tVar 2) (tCons (tCB (rDictP K) (tCons (tLc (iEnum K (tCons (tVar 1) tNil)) (gTup K 2 (gCons (gName 3) (gCons (gName 4) gNil))) tYes (tTup (tCons (tVar 4) (tCons (tCall spUnkL [] E0 (tCons (tVar 3) tNil)) tNil))) [3, 4]) tNil)) tNil))
theorem sc__law_plain : FnScope ["ones", "numbers", "one", "at", "number"] ["ones"] (defScope s__law_plain) := ⟨rfl, rfl, rfl, by decide +kernel, rfl, by decide +kernel, by decide +kernel⟩
theorem ok__law_plain (F : Fs K mg) (T : Txt K mg) (Z : Exs P K mg) : FnOk P w K mg base CX0 12 F.f__law_plain F.fd__law_plain ["ones"] (spPlainsL K) := by
  have SC := sc__law_plain
  have G__law_put : FnOk P w K mg base CX0 10 F.f__law_put F.fd__law_put ["one", "table"] (spPut K 8) := ok_law_put F T Z 8
  have B__law_put : Binds K F.fd__law_put ["one", "table"] [] := F.d__law_put.fn.bindsN fun _ _ _ _ _ _ us hl => match us, hl with | [_, _], _ => rfl
  have G__law_unknown : FnOk P w K mg base CX0 1 F.f__law_unknown F.fd__law_unknown ["number"] spUnkL := ok__law_unknown F T Z
  have B__law_unknown : Binds K F.fd__law_unknown ["number"] [] := F.d__law_unknown.fn.bindsN fun _ _ _ _ _ _ us hl => match us, hl with | [_], _ => rfl
  have G__law_numbers : FnOk P w K mg base CX0 3 F.f__law_numbers F.fd__law_numbers ["ones"] (spNumsL K) := ok__law_numbers F T Z
  have B__law_numbers : Binds K F.fd__law_numbers ["ones"] [] := F.d__law_numbers.fn.bindsN fun _ _ _ _ _ _ us hl => match us, hl with | [_], _ => rfl
  refine F.d__law_plain.fn.ok sc__law_plain (fun vs H Q E h => ?_) (fun cdv A outer s H vs Q E hr h => ?_)
  · obtain ⟨a, xs, ts, M, rfl, _⟩ := h
    rfl
  obtain ⟨a, xs, ts, M, rfl, hM, hq0, hall, oks, hsz, hdp, q⟩ := h
  have hq : SqL K H a xs := outM_sub.seq hq0
  refine ⟨_, PSs.nox (pss_cons (ps_set (i := 1) SC.nd rfl (Or.inr rfl) (pe_call G__law_numbers (hr.mono (by omega)) rfl F.d__law_numbers.gl F.d__law_numbers.fn.kp B__law_numbers .nil pass0 (pa_cons (pv 0) pa_nil)))
    (pss_one (ps_ret (pe_lc (own := [("one", 2)]) (g := (gName 2)) (te := tePl K) (by rfl) SC.nd (pi_list (pv 0)) (blkOk_by (own := [("one", 2)]) (N := ["ones", "numbers", "one", "at", "number"]) (sc := defScope s__law_plain) (by decide +kernel)) (fun _ _ _ _ _ => (pg_name (i := 2) SC.nd rfl (Or.inl rfl))) (fun _ _ _ _ _ => pts_nil) (fun _ _ _ _ _ => (pe_call G__law_put (hr.mono (by omega)) rfl F.d__law_put.gl F.d__law_put.fn.kp B__law_put .nil pass0 (pa_cons (pv 2) (pa_cons (pe_callTy (call_dictP (by rfl)) (by rfl) T.n_dict (by decide +kernel) (pa_cons (pe_lc (own := [("at", 3), ("number", 4)]) (g := gTup K 2 (gCons (gName 3) (gCons (gName 4) gNil))) (by rfl) SC.nd (pi_enum rfl T.n_enumerate (pa_cons (pv 1) pa_nil)) (blkOk_by (own := [("at", 3), ("number", 4)]) (N := ["ones", "numbers", "one", "at", "number"]) (sc := lcS) (by decide +kernel)) (fun _ _ _ _ _ => (pg_tup (by rfl) (pgs_cons (pg_name (i := 3) SC.nd rfl (Or.inl rfl)) (pgs_cons (pg_name (i := 4) SC.nd rfl (Or.inl rfl)) pgs_nil)))) (fun _ _ _ _ _ => pts_nil) (fun _ _ _ _ _ => (pe_tup (pa_cons (pv 4) (pa_cons (pe_call G__law_unknown (hr.mono (by omega)) rfl F.d__law_unknown.gl F.d__law_unknown.fn.kp B__law_unknown .nil pass0 (pa_cons (pv 3) pa_nil)) pa_nil))))) pa_nil)) pa_nil)))))))), ?_⟩
  refine ⟨_, rfl, a, xs, ts, outM M H, rfl, hq, hall, outM_sub, oks, hsz, fun r H1 s1 hr0 hr1 => ?_⟩
  refine ⟨_, rfl, a, rfl, ⟨xs, s1.seq hq⟩, fun R hR => ?_⟩
  have enum : lawNums ts = numsIn ts := (numsIn_eq ts).symm
  rw [enum] at hr1
  have nd := numsIn_nodup ts
  have hnl := numsIn_le ts
  have hxl := hall.length
  rw [toDs_map, List.length_map] at hxl
  have hM1 := hM.mono s1
  obtain ⟨M2, hM2⟩ : ∃ M2 : Addr → Bool, M2 = fun b => M b || decide (b = R) := ⟨_, rfl⟩
  have hMR : M2 R = true := by rw [hM2]; simp
  have hMM : ∀ b, M b = true → M2 b = true := fun b hb => by rw [hM2]; simp [hb]
  have occ2 : ∀ {G : Hp} {l : List V}, Same H1 G → G R = some (.lst l) → Occ M2 G := fun {G l} s e b hb => by
    rw [hM2] at hb
    rcases Bool.or_eq_true_iff.mp hb with hb | hb
    · exact hM1.mono s b hb
    · rw [of_decide_eq_true hb]
      exact ⟨_, e⟩
  refine lc_list (xs := xs) (fun i H' => Same H1 H' ∧ ∃ acc, H' R = some (.lst acc) ∧ DxAll K (outM M2 H') acc (Ty.toDs ((ts.take i).map (Ty.put (renum (numsIn ts)))))) ⟨same_new hR _, [], upd_same, .nil⟩ ?_ ?_ ?_
  · rintro i H' _ ⟨y1, _⟩
    exact y1.seq (s1.seq hq)
  · rintro i x H' hi ⟨y1, acc, y2, y3⟩
    obtain ⟨d, hd1, hx⟩ := hall.get hi
    rw [toDs_map, List.getElem?_map] at hd1
    obtain ⟨u, hu1, rfl⟩ := Option.map_eq_some_iff.mp hd1
    have hum := List.mem_of_getElem? hu1
    have huok : u.ok = true := oks_mem oks u hum
    have hud : u.deep ≤ 8 := Nat.le_trans (deep_mem hum) hdp
    have hrH := y1 _ _ hr1
    refine ⟨rfl, _, rfl, _, rfl, r, _, rfl, SqL.of hrH, fun D hD => ?_⟩
    have hDr : r ≠ D := ne_of_none hrH hD
    refine lc_it walk_enum (fun j G => Same H' G ∧ ∃ (ps : List Addr) (kvs : List (Key × V)), G D = some (.lst (ps.map V.ref)) ∧ ps.length = j ∧ Paired (fun p kv => G p = some (.tup [kV kv.1, kv.2])) ps kvs ∧ ∀ n : Nat, match valV (mergeK [] kvs) (Sum.inl (n : Int)) with
      | some x => n ∈ (numsIn ts).take j ∧ ∃ p, x = .ref p ∧ G p = some (.tup [.str "unknown", .int ((numsIn ts).idxOf n : Nat)])
      | none => n ∉ (numsIn ts).take j) ⟨same_new hD _, [], [], upd_same, rfl, .nil, fun n => by simp [mergeK, valV_nil]⟩ (fun j G _ ⟨z, _⟩ => SqL.of (z _ _ hrH)) ?_ ?_
    · rintro j y G0 G hj ⟨z1, ps, kvs, z2, z3, z4, z5⟩ ⟨T0, x1, x2, rfl, hT0, rfl, e1, e2⟩
      obtain rfl : V.int (j : Int) = x1 := Option.some.inj e1
      replace e2 : (intsV (numsIn ts))[j]? = some x2 := e2
      unfold intsV at e2
      rw [List.getElem?_map] at e2
      obtain ⟨n, hn, rfl⟩ := Option.map_eq_some_iff.mp e2
      have htk : (numsIn ts).take (j + 1) = (numsIn ts).take j ++ [n] := by
        rw [List.take_add_one, hn]
        rfl
      have hlt := (List.getElem?_eq_some_iff.mp hn).1
      have hnj : n ∉ (numsIn ts).take j := by
        have z := nd.sublist (List.take_sublist (j + 1) _)
        rw [htk, List.nodup_append] at z
        exact fun y => z.2.2 n y n (List.mem_singleton_self n) rfl
      have hix : (numsIn ts).idxOf n = j := by
        have e := (List.getElem?_eq_some_iff.mp hn).2
        rw [← e]
        exact nd.idxOf_getElem j hlt
      have hDT : D ≠ T0 := ne_of_none z2 hT0
      refine ⟨T0, _, rfl, SqT.of upd_same, rfl, _, _, rfl, _, _, rfl, rfl, rfl, ?_⟩
      have sT := same_new hT0 (.tup [.int (j : Int), .int (n : Int)])
      refine ⟨_, rfl, _, rfl, _, rfl, fun t ht => ⟨small _ (by show 2 ≤ 100000; decide), fun p hp => ?_⟩⟩
      have sU := same_new ht (.tup [.str "unknown", .int (j : Int)])
      have sP := same_new hp (.tup [.int (n : Int), .ref t])
      have sA := sT.trans (sU.trans sP)
      have hDp : D ≠ p := ne_of_none (sU _ _ (sT _ _ z2)) hp
      have hDt : D ≠ t := ne_of_none (sT _ _ z2) ht
      have htp : t ≠ p := ne_of_none upd_same hp
      refine ⟨ps.map V.ref, sA _ _ z2, ?_, fun b o e => ?_, ps ++ [p], kvs ++ [(Sum.inl (n : Int), V.ref t)], ?_, ?_, ?_, fun m => ?_⟩
      · rw [List.length_map, z3]
        exact Nat.lt_of_le_of_lt (show j ≤ 100000 by omega) (by decide)
      · rw [upd_ne (ne_of_none e hD)]
        exact sA _ _ (z1 _ _ e)
      · rw [upd_same, List.map_append]
        rfl
      · rw [List.length_append, z3]
        rfl
      · refine paired_snoc (L2.Paired.mapP z4 fun q kv e => ?_) ?_
        · have nq : q ≠ D := fun y => by
            rw [y, z2] at e
            cases e
          rw [upd_ne nq]
          exact sA _ _ e
        · rw [upd_ne hDp.symm]
          exact upd_same
      · have em : mergeK [] (kvs ++ [((Sum.inl (n : Int) : Key), V.ref t)]) = putK (mergeK [] kvs) (Sum.inl (n : Int)) (V.ref t) := by
          unfold mergeK
          rw [List.foldl_append]
          rfl
        rw [em, valV_put]
        by_cases hm : m = n
        · subst hm
          rw [if_pos rfl]
          refine ⟨by rw [htk]; simp, t, rfl, ?_⟩
          rw [upd_ne hDt.symm, hix, upd_ne htp]
          exact upd_same
        · have ne : ¬ (Sum.inl (m : Int) : Key) = Sum.inl (n : Int) := fun z => hm (by
            have := Sum.inl.inj z
            exact_mod_cast this)
          rw [if_neg ne]
          have z := z5 m
          cases e : valV (mergeK [] kvs) (Sum.inl (m : Int)) with
          | none =>
            rw [e] at z
            rw [htk]
            exact fun y => (List.mem_append.mp y).elim z fun y => hm (List.mem_singleton.mp y)
          | some x =>
            rw [e] at z
            obtain ⟨m1, q1, rfl, hq1⟩ := z
            refine ⟨by rw [htk]; exact List.mem_append_left _ m1, q1, rfl, ?_⟩
            have nq : q1 ≠ D := fun y => by
              rw [y, z2] at hq1
              cases hq1
            rw [upd_ne nq]
            exact sA _ _ hq1
    · rintro G ⟨z1, ps, kvs, z2, z3, z4, z5⟩
      unfold intsV at z5
      rw [List.length_map, List.take_length] at z5
      have hRG := z1 _ _ y2
      have tab : TabOk K (outM M2 G) (renum (numsIn ts)) (mergeK [] kvs) := fun n => by
        have z := z5 n
        cases e : valV (mergeK [] kvs) (Sum.inl (n : Int)) with
        | none =>
          rw [e] at z
          show renum (numsIn ts) n = none
          unfold renum
          exact if_neg z
        | some x =>
          rw [e] at z
          obtain ⟨m1, p, rfl, hp⟩ := z
          refine ⟨.unk ((numsIn ts).idxOf n), ?_, ?_⟩
          · unfold renum
            exact if_pos m1
          · exact .tup (sqT_outM (occ2 (y1.trans z1) hRG) (SqT.of hp)) (.cons (.str _) (.cons (.int _) .nil))
      refine ⟨D, ps, kvs, rfl, SqL.of z2, L2.Paired.mapP z4 fun q kv e => SqT.of e, fun tb htb => ?_⟩
      have sB := same_new htb (.dK (mergeK [] kvs))
      have sFo : Same (outM M H) (outM M2 G) := fun b o e => by
        unfold outM at e ⊢
        split at e
        · cases e
        · rename_i h
          have e1 := s1 _ _ e
          have nR := ne_of_none e1 hR
          rw [if_neg]
          · exact z1 _ _ (y1 _ _ e1)
          · rw [hM2]
            simp [h, nR]
      refine ⟨x, u, tb, mergeK [] kvs, renum (numsIn ts), outM M2 G, rfl, hx.mono sFo, outM_sub.trans sB, huok, hud, upd_same, tab, fun y S1 G2 s2 hy hf1 => ?_⟩
      have sG := z1.trans (sB.trans s2)
      have hR2 : G2 R = some (.lst acc) := sG _ _ y2
      have hyd : Dx K (outM M2 G2) y (u.put (renum (numsIn ts))).toD := Tr.dx (fun v d ⟨n, u, _, e, hdx⟩ => hdx.mono (outM_same (sB.trans s2))) (Tr.outM (occ2 (y1.trans sG) hR2) hy fun b hb => (occ2 (y1.trans (z1.trans sB)) (sB _ _ hRG)).new (hf1 b hb))
      have hal := y3.length
      rw [toDs_map, List.length_map, List.length_map, List.length_take] at hal
      have hxs := sizes_ge ts
      refine ⟨acc, sG _ _ y2, Nat.lt_of_le_of_lt (show acc.length ≤ 100000 by omega) (by decide), fun a o e => ?_, acc ++ [y], upd_same, ?_⟩
      · rw [upd_ne (ne_of_none e hR)]
        exact sG _ _ (y1 _ _ e)
      · have eT : (ts.take (i + 1)).map (Ty.put (renum (numsIn ts))) = (ts.take i).map (Ty.put (renum (numsIn ts))) ++ [u.put (renum (numsIn ts))] := by
          rw [List.take_add_one, hu1, List.map_append]
          rfl
        rw [eT, toDs_append]
        exact (y3.mono (outM_upd hMR sG)).append (.cons (hyd.mono (outM_upd hMR same_refl)) .nil)
  · rintro H' ⟨y1, acc, y2, y3⟩
    rw [hxl, List.take_length] at y3
    exact q R H' (s1.trans y1) (.lst (SqL.of (outM_new hM1 hR y2)) (y3.mono (outM_less hMM)))
end
end K20

set_option Elab.async false
set_option linter.all false
set_option maxRecDepth 100000
set_option maxHeartbeats 1000000
namespace K20
open PySem PySem.Spec L2 Wy RZ
section
variable {P : Program} {w : World} {K : PySem.W.Frag} {mg : Str → Option Value} {base : Heap}
def spSame (K : PySem.W.Frag) (n : Nat) : Sp := fun vs H Q _ => ∃ (v u : V) (d : PyData), vs = [v, u] ∧ Dx K H v d ∧ Dx K H u d ∧ okd n d = true ∧ ∀ H', Same H H' → Q (.bl true) H'
def spSameB (K : PySem.W.Frag) : Nat → Sp
  | 0 => fun _ _ _ _ => False
  | n + 1 => spSame K n
theorem sc_same : FnScope ["told", "due", "alike", "one", "other"] ["told", "due"] (defScope s__law_same) := ⟨rfl, rfl, rfl, by decide +kernel, rfl, by decide +kernel, by decide +kernel⟩
theorem same_step (F : Fs K mg) (T : Txt K mg) {n k : Nat} (G : FnOk P w K mg base CX0 (k + 1) F.f__law_same F.fd__law_same ["told", "due"] (spSameB K n)) : FnOk P w K mg base CX0 (k + 2) F.f__law_same F.fd__law_same ["told", "due"] (spSame K n) := by
  have SC := sc_same
  have B : Binds K F.fd__law_same ["told", "due"] [] := F.d__law_same.fn.bindsN fun _ _ _ _ _ _ us hl => match us, hl with | [_, _], _ => rfl
  refine F.d__law_same.fn.ok sc_same (fun vs H Q E h => ?_) (fun cdv A outer s H vs Q E hr h => ?_)
  · obtain ⟨v, u, d, rfl, _⟩ := h
    rfl
  obtain ⟨v, u, d, rfl, hv, hu, hok, q⟩ := h
  refine ⟨_, PSs.nox (pss_cons (ps_if (pt_cmpR op_isN (pv 1) pe_non (nomark _)) (pss_one (ps_ret (pe_cmpR op_isN (pv 0) pe_non (nomark _)))) pss_nil)
    (pss_cons (ps_if (pt_cmpR op_isBD (pv 1) pe_bl (nomark _)) (pss_one (ps_ret (pe_cmpR op_isBD (pv 0) pe_bl (nomark _)))) pss_nil)
    (pss_cons (ps_if (pt_cmpR op_isBD (pv 1) pe_bl (nomark _)) (pss_one (ps_ret (pe_cmpR op_isBD (pv 0) pe_bl (nomark _)))) pss_nil)
    (pss_cons (ps_if (pt_val (pe_callB call_isiT (by rfl) T.n_isinstance (by decide +kernel) (pa_cons (pv 1) (pa_cons (pe_tup (pa_cons (pe_bltn (v := .ty "list") (by rfl) T.n_list (by decide +kernel) rfl) (pa_cons (pe_bltn (v := .ty "tuple") (by rfl) T.n_tuple (by decide +kernel) rfl) pa_nil))) pa_nil)))) (pss_cons (ps_set (i := 2) SC.nd rfl (Or.inl rfl) (pe_ifExp (pt_val (pe_callB call_isD (by rfl) T.n_isinstance (by decide +kernel) (pa_cons (pv 1) (pa_cons (pe_bltn (v := .ty "list") (by rfl) T.n_list (by decide +kernel) rfl) pa_nil)))) (pe_callB call_isD (by rfl) T.n_isinstance (by decide +kernel) (pa_cons (pv 0) (pa_cons (pe_bltn (v := .ty "list") (by rfl) T.n_list (by decide +kernel) rfl) pa_nil))) (pe_callB call_isD (by rfl) T.n_isinstance (by decide +kernel) (pa_cons (pv 0) (pa_cons (pe_bltn (v := .ty "tuple") (by rfl) T.n_tuple (by decide +kernel) rfl) pa_nil)))))
    (pss_one (ps_ret (pe_and (pv 2) (pe_and (pe_cmpR op_eq (pe_callB call_len (by rfl) T.n_len (by decide +kernel) (pa_cons (pv 0) pa_nil)) (pe_callB call_len (by rfl) T.n_len (by decide +kernel) (pa_cons (pv 1) pa_nil)) (nomark _)) (pe_one (pe_callB (cr_all rfl) (by rfl) T.n_all (by decide +kernel) (pa_cons (pe_lc (own := [("one", 3), ("other", 4)]) (g := gTup K 2 (gCons (gName 3) (gCons (gName 4) gNil))) (by rfl) SC.nd (pi_zipA rfl T.n_zip (pa_cons (pv 0) (pa_cons (pv 1) pa_nil))) (blkOk_by (own := [("one", 3), ("other", 4)]) (N := ["told", "due", "alike", "one", "other"]) (sc := defScope s__law_same) (by decide +kernel)) (fun _ _ _ _ _ => (pg_tup (by rfl) (pgs_cons (pg_name (i := 3) SC.nd rfl (Or.inl rfl)) (pgs_cons (pg_name (i := 4) SC.nd rfl (Or.inl rfl)) pgs_nil)))) (fun _ _ _ _ _ => pts_nil) (fun _ _ _ _ _ => (pe_call G (hr.mono (by omega)) rfl F.d__law_same.gl F.d__law_same.fn.kp B .nil pass0 (pa_cons (pv 3) (pa_cons (pv 4) pa_nil))))) pa_nil)))))))) pss_nil)
    (pss_cons (ps_if (pt_val (pe_callB call_isD (by rfl) T.n_isinstance (by decide +kernel) (pa_cons (pv 1) (pa_cons (pe_bltn (v := .ty "int") (by rfl) T.n_int (by decide +kernel) rfl) pa_nil)))) (pss_one (ps_ret (pe_and (pe_callB call_isD (by rfl) T.n_isinstance (by decide +kernel) (pa_cons (pv 0) (pa_cons (pe_bltn (v := .ty "int") (by rfl) T.n_int (by decide +kernel) rfl) pa_nil))) (pe_and (pe_not (pe_callB call_isD (by rfl) T.n_isinstance (by decide +kernel) (pa_cons (pv 0) (pa_cons (pe_bltn (v := .ty "bool") (by rfl) T.n_bool (by decide +kernel) rfl) pa_nil)))) (pe_one (pe_cmpR op_eq (pv 0) (pv 1) (nomark _))))))) pss_nil)
    (pss_one (ps_ret (pe_and (pe_callB call_isD (by rfl) T.n_isinstance (by decide +kernel) (pa_cons (pv 0) (pa_cons (pe_bltn (v := .ty "str") (by rfl) T.n_str (by decide +kernel) rfl) pa_nil))) (pe_one (pe_cmpR op_eq (pv 0) (pv 1) (nomark _))))))))))), ?_⟩
  refine ⟨_, rfl, rfl, _, rfl, ?_⟩
  have nn : d ≠ .none → u ≠ .non := fun hd z => hd (by
    subst z
    cases hu
    rfl)
  refine ite2 (fun c => ?_) (fun c => ?_)
  · obtain rfl : u = .non := of_decide_eq_true c
    cases hu
    cases hv
    exact ⟨_, rfl, rfl, q H same_refl⟩
  have hdn : d ≠ .none := fun z => c (decide_eq_true (by
    subst z
    cases hu
    rfl))
  refine ⟨_, rfl, d, true, hu, rfl, _, rfl, ?_⟩
  refine ite2 (fun c1 => ?_) (fun c1 => ?_)
  · match d, c1, hu, hv with
    | .bool b, c1, hu, hv =>
      obtain rfl : b = true := by simpa [isBoolD] using c1
      exact ⟨_, rfl, _, true, hv, rfl, q H same_refl⟩
  refine ⟨_, rfl, d, false, hu, rfl, _, rfl, ?_⟩
  refine ite2 (fun c2 => ?_) (fun c2 => ?_)
  · match d, c2, hu, hv with
    | .bool b, c2, hu, hv =>
      obtain rfl : b = false := by simpa [isBoolD] using c2
      exact ⟨_, rfl, _, false, hv, rfl, q H same_refl⟩
  refine ⟨_, rfl, small _ (by show 2 ≤ 100000; decide), fun t ht => ?_⟩
  have st := same_new ht (.tup [.ty "list", .ty "tuple"])
  refine ⟨u, t, [.ty "list", .ty "tuple"], _, [.type "list", .type "tuple"], isSeqD d, rfl, upd_same, .cons (.ty _) (.cons (.ty _) .nil), (hu.mono st).tyx, kit_seq d, _, rfl, ?_⟩
  have hv := hv.mono st
  have hu := hu.mono st
  replace q : ∀ H', Same (upd H t (.tup [.ty "list", .ty "tuple"])) H' → Q (.bl true) H' := fun H' s => q H' (st.trans s)
  generalize upd H t _ = Gh at hv hu q ⊢
  cases d with
  | none => exact absurd rfl hdn
  | bool b => cases b with
    | true => exact absurd rfl c1
    | false => exact absurd rfl c2
  | dict es => cases n <;> cases hok
  | int i =>
    refine ite2 (fun c => by cases c) (fun _ => ?_)
    refine ⟨_, rfl, u, _, _, rfl, hu, by decide, _, rfl, ?_⟩
    refine ite2 (fun _ => ?_) (fun c => absurd rfl c)
    refine ⟨_, rfl, v, _, _, rfl, hv, by decide, _, rfl, ?_⟩
    refine ite2 (fun _ => ?_) (fun c => absurd rfl c)
    refine ⟨_, rfl, v, _, _, rfl, hv, by decide, _, rfl, _, rfl, ?_⟩
    refine ite2 (fun _ => ?_) (fun c => absurd rfl c)
    cases hv
    cases hu
    refine ⟨_, rfl, _, rfl, rfl, ?_⟩
    rw [decide_eq_true rfl]
    exact q Gh same_refl
  | str x =>
    refine ite2 (fun c => by cases c) (fun _ => ?_)
    refine ⟨_, rfl, u, _, _, rfl, hu, by decide, _, rfl, ?_⟩
    refine ite2 (fun c => by cases c) (fun _ => ?_)
    refine ⟨_, rfl, v, _, _, rfl, hv, by decide, _, rfl, ?_⟩
    refine ite2 (fun _ => ?_) (fun c => absurd rfl c)
    cases hv
    cases hu
    refine ⟨_, rfl, _, rfl, rfl, ?_⟩
    rw [decide_eq_true rfl]
    exact q Gh same_refl
  | list ds =>
    obtain ⟨a, xs, rfl, hxs, hxa⟩ := hv.lst_inv
    obtain ⟨b, ys, rfl, hys, hya⟩ := hu.lst_inv
    obtain ⟨n', rfl, _, hdl, hall⟩ := okd_seq hok
    have hxl := hxa.length
    have hyl := hya.length
    refine ite2 (fun _ => ?_) (fun c => absurd rfl c)
    refine ⟨_, rfl, _, _, _, rfl, hu, by decide, _, rfl, ?_⟩
    refine ite2 (fun _ => ?_) (fun c => absurd rfl c)
    refine ⟨_, rfl, _, _, _, rfl, hv, by decide, ?_⟩
    refine ⟨_, rfl, _, rfl, ?_⟩
    refine ite2 (fun _ => ?_) (fun c => absurd rfl c)
    refine ⟨_, rfl, _, _, rfl, .inl ⟨_, hxs, rfl⟩, _, rfl, _, _, rfl, .inl ⟨_, hys, rfl⟩, rfl, _, rfl, ?_⟩
    refine ite2 (fun _ => ?_) (fun c => absurd (decide_eq_true (by rw [hxl, hyl])) c)
    refine ⟨_, rfl, _, rfl, a, b, xs, ys, rfl, .inl ⟨hxs, hys, fun D hD => ?_⟩⟩
    refine lc_it (walk_zip (xs := xs) (ys := ys) rfl) (fun i H' => Same Gh H' ∧ H' D = some (.lst (List.replicate i (.bl true))) ∧ i ≤ 100000) ⟨same_new hD _, upd_same, Nat.zero_le _⟩ ?_ ?_ ?_
    · rintro i H' _ ⟨z1, _⟩
      exact ⟨z1.seq hxs, z1.seq hys⟩
    · rintro i y G0 G1 hi ⟨z1, z2, z3⟩ ⟨T0, x1, x2, rfl, hT0, rfl, e1, e2⟩
      obtain ⟨d1, hd1, hx1⟩ := hxa.get e1
      obtain ⟨d2, hd2, hx2⟩ := hya.get e2
      obtain rfl : d1 = d2 := Option.some.inj (hd1.symm.trans hd2)
      have sT := same_new hT0 (.tup [x1, x2])
      refine ⟨T0, _, rfl, SqT.of upd_same, rfl, _, _, rfl, _, _, rfl, rfl, rfl, ?_⟩
      refine ⟨_, rfl, _, rfl, x1, x2, d1, rfl, hx1.mono (z1.trans sT), hx2.mono (z1.trans sT), hall d1 (List.mem_of_getElem? hd1), fun H2 s2 => ?_⟩
      refine ⟨_, s2 _ _ (sT _ _ z2), ?_, fun p o e => ?_, ?_, ?_⟩
      · rw [List.length_replicate]
        exact Nat.lt_of_le_of_lt z3 (by decide)
      · rw [upd_ne (ne_of_none e hD)]
        exact s2 _ _ (sT _ _ (z1 _ _ e))
      · rw [upd_same, List.replicate_succ']
      · omega
    · rintro H2 ⟨z1, z2, _⟩
      refine ⟨D, List.replicate (min xs.length ys.length) true, rfl, SqL.of (by rw [z2, List.map_replicate]), ?_⟩
      rw [show (List.replicate (min xs.length ys.length) true).all id = true by simp]
      exact q H2 z1
  | tuple ds =>
    obtain ⟨a, xs, rfl, hxs, hxa⟩ := hv.tup_inv
    obtain ⟨b, ys, rfl, hys, hya⟩ := hu.tup_inv
    obtain ⟨n', rfl, hdl, hall⟩ := okd_tup hok
    have hxl := hxa.length
    have hyl := hya.length
    refine ite2 (fun _ => ?_) (fun c => absurd rfl c)
    refine ⟨_, rfl, _, _, _, rfl, hu, by decide, _, rfl, ?_⟩
    refine ite2 (fun c => by cases c) (fun _ => ?_)
    refine ⟨_, rfl, _, _, _, rfl, hv, by decide, ?_⟩
    refine ⟨_, rfl, _, rfl, ?_⟩
    refine ite2 (fun _ => ?_) (fun c => absurd rfl c)
    refine ⟨_, rfl, _, _, rfl, .inr ⟨_, hxs, rfl⟩, _, rfl, _, _, rfl, .inr ⟨_, hys, rfl⟩, rfl, _, rfl, ?_⟩
    refine ite2 (fun _ => ?_) (fun c => absurd (decide_eq_true (by rw [hxl, hyl])) c)
    refine ⟨_, rfl, _, rfl, a, b, xs, ys, rfl, .inr ⟨hxs, hys, fun D hD => ?_⟩⟩
    refine lc_it (walk_zipT (xs := xs) (ys := ys) rfl) (fun i H' => Same Gh H' ∧ H' D = some (.lst (List.replicate i (.bl true))) ∧ i ≤ 100000) ⟨same_new hD _, upd_same, Nat.zero_le _⟩ ?_ ?_ ?_
    · rintro i H' _ ⟨z1, _⟩
      exact ⟨same_seqT z1 hxs, same_seqT z1 hys⟩
    · rintro i y G0 G1 hi ⟨z1, z2, z3⟩ ⟨T0, x1, x2, rfl, hT0, rfl, e1, e2⟩
      obtain ⟨d1, hd1, hx1⟩ := hxa.get e1
      obtain ⟨d2, hd2, hx2⟩ := hya.get e2
      obtain rfl : d1 = d2 := Option.some.inj (hd1.symm.trans hd2)
      have sT := same_new hT0 (.tup [x1, x2])
      refine ⟨T0, _, rfl, SqT.of upd_same, rfl, _, _, rfl, _, _, rfl, rfl, rfl, ?_⟩
      refine ⟨_, rfl, _, rfl, x1, x2, d1, rfl, hx1.mono (z1.trans sT), hx2.mono (z1.trans sT), hall d1 (List.mem_of_getElem? hd1), fun H2 s2 => ?_⟩
      refine ⟨_, s2 _ _ (sT _ _ z2), ?_, fun p o e => ?_, ?_, ?_⟩
      · rw [List.length_replicate]
        exact Nat.lt_of_le_of_lt z3 (by decide)
      · rw [upd_ne (ne_of_none e hD)]
        exact s2 _ _ (sT _ _ (z1 _ _ e))
      · rw [upd_same, List.replicate_succ']
      · omega
    · rintro H2 ⟨z1, z2, _⟩
      refine ⟨D, List.replicate (min xs.length ys.length) true, rfl, SqL.of (by rw [z2, List.map_replicate]), ?_⟩
      rw [show (List.replicate (min xs.length ys.length) true).all id = true by simp]
      exact q H2 z1
theorem ok_noV {k : Nat} {f : Addr} {fd : FuncData} {ps : List Str} : FnOk P w K mg base CX0 k f fd ps (fun _ _ _ _ => False) := ⟨fun _ _ _ _ h => h.elim, fun _ _ _ _ _ _ _ _ _ _ _ _ _ h => h.elim⟩
theorem ok_same (F : Fs K mg) (T : Txt K mg) : ∀ n, FnOk P w K mg base CX0 (n + 2) F.f__law_same F.fd__law_same ["told", "due"] (spSame K n)
  | 0 => same_step F T (k := 0) ok_noV
  | n + 1 => same_step F T (k := n + 1) (ok_same F T n)
end
end K20

set_option Elab.async false
set_option linter.all false
set_option maxRecDepth 100000
set_option maxHeartbeats 1000000
namespace K20
open PySem PySem.Spec L2 Wy RZ
section
variable {P : Program} {w : World} {K : PySem.W.Frag} {mg : Str → Option Value} {base : Heap}
def spMark (K : PySem.W.Frag) (n : Nat) : Sp := fun vs H Q _ => ∃ (v : V) (d : PyData) (S : List Addr), vs = [v] ∧ Tr K shNo H v d S ∧ okd n d = true ∧ ∀ H', Out S H H' → Q (.bl true) H'
def spMarkB (K : PySem.W.Frag) : Nat → Sp
  | 0 => fun _ _ _ _ => False
  | n + 1 => spMark K n
theorem sc_spoilt : FnScope ["told", "found", "part"] ["told"] (defScope s__law_spoilt) := ⟨rfl, rfl, rfl, by decide +kernel, rfl, by decide +kernel, by decide +kernel⟩
theorem mark_step (F : Fs K mg) (T : Txt K mg) {n k : Nat} (G : FnOk P w K mg base CX0 (k + 1) F.f__law_spoilt F.fd__law_spoilt ["told"] (spMarkB K n)) : FnOk P w K mg base CX0 (k + 2) F.f__law_spoilt F.fd__law_spoilt ["told"] (spMark K n) := by
  have SC := sc_spoilt
  have B : Binds K F.fd__law_spoilt ["told"] [] := F.d__law_spoilt.fn.bindsN fun _ _ _ _ _ _ us hl => match us, hl with | [_], _ => rfl
  refine F.d__law_spoilt.fn.ok sc_spoilt (fun vs H Q E h => ?_) (fun cdv A outer s H vs Q E hr h => ?_)
  · obtain ⟨v, d, S, rfl, _⟩ := h
    rfl
  obtain ⟨v, d, S, rfl, hv, hok, q⟩ := h
  have hu := hr.units
  refine ⟨_, PSs.nox (pss_cons (ps_if (pt_val (pe_callB call_isD (by rfl) T.n_isinstance (by decide +kernel) (pa_cons (pv 0) (pa_cons (pe_bltn (v := .ty "tuple") (by rfl) T.n_tuple (by decide +kernel) rfl) pa_nil)))) (pss_one (ps_ret (pe_callB (cr_all rfl) (by rfl) T.n_all (by decide +kernel) (pa_cons (pe_lc (own := [("part", 2)]) (g := (gName 2)) (by rfl) SC.nd (pi_tup (pv 0)) (blkOk_by (own := [("part", 2)]) (N := ["told", "found", "part"]) (sc := defScope s__law_spoilt) (by decide +kernel)) (fun _ _ _ _ _ => (pg_name (i := 2) SC.nd rfl (Or.inl rfl))) (fun _ _ _ _ _ => pts_nil) (fun _ _ _ _ _ => (pe_call G (hr.mono (by omega)) rfl F.d__law_spoilt.gl F.d__law_spoilt.fn.kp B .nil pass0 (pa_cons (pv 2) pa_nil)))) pa_nil)))) pss_nil)
    (pss_cons (ps_if (pt_not (pt_val (pe_callB call_isD (by rfl) T.n_isinstance (by decide +kernel) (pa_cons (pv 0) (pa_cons (pe_bltn (v := .ty "list") (by rfl) T.n_list (by decide +kernel) rfl) pa_nil))))) (pss_one (ps_ret pe_bl)) pss_nil)
    (pss_cons (ps_if (PW.pt (pw_and (pt_cmpR (op_neNil hu) (pv 0) (pe_lst pa_nil) (nomark _)) (pw_and (pt_val (pe_callB call_isD (by rfl) T.n_isinstance (by decide +kernel) (pa_cons (pe_ix ix_list (pv 0) (pe_un un_neg pe_int) (fun _ _ => rfl)) (pa_cons (pe_bltn (v := .ty "str") (by rfl) T.n_str (by decide +kernel) rfl) pa_nil)))) (pw_and1 (pt_cmpR op_eq (pe_ix ix_list (pv 0) (pe_un un_neg pe_int) (fun _ _ => rfl)) pe_str (nomark _)))))) (pss_one (ps_ret pe_bl)) pss_nil)
    (pss_cons (ps_setLc (i := 1) (own := [("part", 2)]) (g := (gName 2)) (by rfl) SC.nd rfl rfl (sw_true rfl rfl rfl (by decide +kernel)) (pi_list (pv 0)) (blkOk_by (own := [("part", 2)]) (N := ["told", "found", "part"]) (sc := defScope s__law_spoilt) (by decide +kernel)) (fun _ _ _ _ _ => (pg_name (i := 2) SC.nd rfl (Or.inl rfl))) (fun _ _ _ _ _ => pts_nil) (fun _ _ _ _ _ => (pe_call G (hr.mono (by omega)) rfl F.d__law_spoilt.gl F.d__law_spoilt.fn.kp B .nil pass0 (pa_cons (pv 2) pa_nil))))
    (pss_cons (ps_expr (pe_bm PySem.F.plainAttrs_list PySem.F.slot_list_append PySem.F.type_list_append mt_append (pv 0) (pa_cons pe_str pa_nil)))
    (pss_one (ps_ret (pe_callB (cr_all rfl) (by rfl) T.n_all (by decide +kernel) (pa_cons (pv 1) pa_nil))))))))), ?_⟩
  have hd : Dx K H v d := Tr.dx (fun _ _ z => z.elim) hv
  refine ⟨_, rfl, v, d, _, rfl, hd, by decide, _, rfl, ?_⟩
  cases hv with
  | sh z => exact z.elim
  | bl b =>
    refine ite2 (fun c => by cases c) (fun _ => ?_)
    refine ⟨_, rfl, _, _, _, rfl, hd, by decide, _, rfl, ?_⟩
    exact ite2 (fun _ => q H (Out.refl _ _)) (fun c => absurd rfl c)
  | int b =>
    refine ite2 (fun c => by cases c) (fun _ => ?_)
    refine ⟨_, rfl, _, _, _, rfl, hd, by decide, _, rfl, ?_⟩
    exact ite2 (fun _ => q H (Out.refl _ _)) (fun c => absurd rfl c)
  | str b =>
    refine ite2 (fun c => by cases c) (fun _ => ?_)
    refine ⟨_, rfl, _, _, _, rfl, hd, by decide, _, rfl, ?_⟩
    exact ite2 (fun _ => q H (Out.refl _ _)) (fun c => absurd rfl c)
  | @tup a xs ds _ hq hall =>
    obtain ⟨S0, rfl⟩ : ∃ S0, S0 = S := ⟨S, rfl⟩
    refine ite2 (fun _ => ?_) (fun c => absurd rfl c)
    obtain ⟨n', rfl, hdl, hdeep⟩ := okd_tup hok
    have hxl := hall.length
    refine ⟨_, rfl, a, rfl, ⟨xs, hq⟩, fun D hD => ?_⟩
    let Gh := H
    refine lc_it (walk_tup (xs := xs)) (fun i H' => i ≤ 100000 ∧ ∃ S1 S2, S0 = S1 ++ S2 ∧ TrAll K shNo Gh (xs.drop i) (ds.drop i) S2 ∧ (∀ b ∈ S1, b ∉ S2) ∧ Out S1 Gh H' ∧ H' D = some (.lst (List.replicate i (.bl true)))) ⟨Nat.zero_le _, [], S0, rfl, hall, fun _ z => (by cases z), Out.of_same (same_new hD _), upd_same⟩ ?_ ?_ ?_
    · rintro i H' _ ⟨_, S1, S2, e, _, _, z, _⟩
      exact sqT_kept z (fun b hb => TrAll.there hall b (by rw [e]; exact List.mem_append_left _ hb)) hq
    · rintro i x H' H'' hi ⟨z0, S1, S2, rfl, z1, z2, z3, z4⟩ ⟨rfl, hx⟩
      have hlx := (List.getElem?_eq_some_iff.mp hx).1
      have hld : i < ds.length := by omega
      rw [List.drop_eq_getElem_cons hlx, List.drop_eq_getElem_cons hld] at z1
      have hxe : xs[i] = x := (List.getElem?_eq_some_iff.mp hx).2
      rw [hxe] at z1
      cases z1 with
      | cons h1 h2 h3 =>
        rename_i Si Sr
        have hSl : ∀ b ∈ S1, ∃ l, Gh b = some (.lst l) := fun b hb => TrAll.there hall b (List.mem_append_left _ hb)
        have h1' := Tr.kept z3 hSl h1 (fun b hb y => z2 b y (List.mem_append_left _ hb))
        refine ⟨rfl, _, rfl, x, _, Si, rfl, h1', hdeep _ (List.getElem_mem hld), fun H2 o2 => ?_⟩
        have hDi : D ∉ Si := fun y => by
          obtain ⟨l, e⟩ := TrAll.there hall D (List.mem_append_right _ (List.mem_append_left _ y))
          rw [hD] at e
          cases e
        refine ⟨_, o2 _ _ hDi z4, ?_, ?_, S1 ++ Si, Sr, (List.append_assoc ..).symm, h2, ?_, ?_, ?_⟩
        · rw [List.length_replicate]
          exact Nat.lt_of_le_of_lt z0 (by decide)
        · omega
        · intro b hb y
          rcases List.mem_append.mp hb with hb | hb
          · exact z2 b hb (List.mem_append_right _ y)
          · exact h3 b hb y
        · intro b o nb e
          rw [upd_ne (ne_of_none e hD)]
          exact (Out.trans z3 o2) b o nb e
        · rw [upd_same, List.replicate_succ']
    · rintro H2 ⟨_, S1, S2, e, z1, z2, z3, z4⟩
      have hS2 : S2 = [] := by
        rw [List.drop_eq_nil_of_le (Nat.le_refl _), hxl, List.drop_eq_nil_of_le (Nat.le_refl _)] at z1
        cases z1
        rfl
      subst hS2
      rw [List.append_nil] at e
      subst e
      refine ⟨D, List.replicate xs.length true, rfl, SqL.of (by rw [z4, List.map_replicate]), ?_⟩
      rw [show (List.replicate xs.length true).all id = true by simp]
      exact q H2 z3
  | @lst a xs ds S0 ha hall hn =>
    refine ite2 (fun c => by cases c) (fun _ => ?_)
    refine ⟨_, rfl, _, _, _, rfl, hd, by decide, _, rfl, ?_⟩
    refine ite2 (fun c => by cases c) (fun _ => ?_)
    obtain ⟨n', rfl, hend, hdl, hdeep⟩ := okd_seq hok
    have hxl := hall.length
    refine ⟨_, rfl, small _ (by show 0 ≤ 100000; decide), fun e he => ?_⟩
    have se := same_new he (.lst [])
    refine ⟨a, e, xs, rfl, rfl, SqL.of (se _ _ ha), SqL.of upd_same, _, rfl, ?_⟩
    have hall0 := hall
    have hd0 := hd
    replace ha := se _ _ ha
    replace hall := hall.mono se
    replace hd := hd.mono se
    replace q : ∀ H', Out (a :: S0) (upd H e (.lst [])) H' → Q (.bl true) H' := fun H' o => q H' (fun b u nb z => o b u nb (se _ _ z))
    generalize upd H e (.lst []) = Gh at ha hall hd q ⊢
    have go : ∀ (D : Addr), Gh D = none → ∀ (H2 : Hp), Out S0 Gh H2 → H2 D = some (.lst (List.replicate xs.length (.bl true))) → H2 a = some (.lst xs) ∧ Q (.bl true) (upd H2 a (.lst (xs ++ [.str "spoilt"]))) ∧ upd H2 a (.lst (xs ++ [.str "spoilt"])) D = some (.lst (List.replicate xs.length (.bl true))) := by
      intro D hD H2 z3 z4
      refine ⟨z3 _ _ hn ha, q _ (fun b o nb e => ?_), ?_⟩
      · rw [upd_ne (fun z => nb (by rw [z]; exact List.mem_cons_self ..))]
        exact z3 b o (fun z => nb (List.mem_cons_of_mem _ z)) e
      · rw [upd_ne (fun z => by rw [z, ha] at hD; cases hD)]
        exact z4
    have lastNo : ∀ y, xs.getLast? = some y → ∃ dy, Dx K Gh y dy ∧ isD dy "str" = false := by
      intro y hy
      have hda := TrAll.dx (fun _ _ z => z.elim) hall
      have hne : xs ≠ [] := fun z => by rw [z] at hy; cases hy
      obtain ⟨v, dv, h1, h2, h3⟩ := hda.last hne
      rw [List.getLast?_eq_getElem?, h1] at hy
      obtain rfl := Option.some.inj hy
      refine ⟨dv, h3, ?_⟩
      unfold endStr at hend
      rw [h2] at hend
      cases dv <;> first | rfl | cases hend
    rcases List.eq_nil_or_concat xs with hx0 | ⟨xs0, y, hx0⟩
    · refine ite2 (fun c => by rw [hx0] at c; cases c) (fun _ => ?_)
      refine ⟨_, rfl, a, rfl, ⟨xs, SqL.of ha⟩, fun D hD => ?_⟩
      refine lc_it (walk_list (xs := xs)) (fun i H' => i ≤ 100000 ∧ ∃ S1 S2, S0 = S1 ++ S2 ∧ TrAll K shNo Gh (xs.drop i) (ds.drop i) S2 ∧ (∀ b ∈ S1, b ∉ S2) ∧ Out S1 Gh H' ∧ H' D = some (.lst (List.replicate i (.bl true)))) ⟨Nat.zero_le _, [], S0, rfl, hall, fun _ z => (by cases z), Out.of_same (same_new hD _), upd_same⟩ ?_ ?_ ?_
      · rintro i H' _ ⟨_, S1, S2, e, _, _, z, _⟩
        exact SqL.of (z _ _ (fun y => hn (by rw [e]; exact List.mem_append_left _ y)) ha)
      · rintro i x H' H'' hi ⟨z0, S1, S2, rfl, z1, z2, z3, z4⟩ ⟨rfl, hx⟩
        have hlx := (List.getElem?_eq_some_iff.mp hx).1
        have hld : i < ds.length := by omega
        rw [List.drop_eq_getElem_cons hlx, List.drop_eq_getElem_cons hld] at z1
        have hxe : xs[i] = x := (List.getElem?_eq_some_iff.mp hx).2
        rw [hxe] at z1
        cases z1 with
        | cons h1 h2 h3 =>
          rename_i Si Sr
          have hSl : ∀ b ∈ S1, ∃ l, Gh b = some (.lst l) := fun b hb => TrAll.there hall b (List.mem_append_left _ hb)
          have h1' := Tr.kept z3 hSl h1 (fun b hb y => z2 b y (List.mem_append_left _ hb))
          refine ⟨rfl, _, rfl, x, _, Si, rfl, h1', hdeep _ (List.getElem_mem hld), fun H2 o2 => ?_⟩
          have hDi : D ∉ Si := fun y => by
            obtain ⟨l, e⟩ := TrAll.there hall D (List.mem_append_right _ (List.mem_append_left _ y))
            rw [hD] at e
            cases e
          refine ⟨_, o2 _ _ hDi z4, ?_, ?_, S1 ++ Si, Sr, (List.append_assoc ..).symm, h2, ?_, ?_, ?_⟩
          · rw [List.length_replicate]
            exact Nat.lt_of_le_of_lt z0 (by decide)
          · omega
          · intro b hb y
            rcases List.mem_append.mp hb with hb | hb
            · exact z2 b hb (List.mem_append_right _ y)
            · exact h3 b hb y
          · intro b o nb e
            rw [upd_ne (ne_of_none e hD)]
            exact (Out.trans z3 o2) b o nb e
          · rw [upd_same, List.replicate_succ']
      · rintro H2 ⟨_, S1, S2, e, z1, z2, z3, z4⟩
        have hS2 : S2 = [] := by
          rw [List.drop_eq_nil_of_le (Nat.le_refl _), hxl, List.drop_eq_nil_of_le (Nat.le_refl _)] at z1
          cases z1
          rfl
        subst hS2
        rw [List.append_nil] at e
        subst e
        obtain ⟨g1, g2, g3⟩ := go D hD H2 z3 z4
        refine ⟨_, rfl, .inl ⟨rfl, _, SqL.of g1⟩, _, xs, _, rfl, rfl, g1, Nat.lt_of_le_of_lt (show xs.length ≤ 100000 by omega) (by decide), ?_⟩
        refine ⟨_, rfl, D, List.replicate xs.length true, rfl, SqL.of (by rw [g3, List.map_replicate]), ?_⟩
        rw [show (List.replicate xs.length true).all id = true by simp]
        exact g2
    · refine ite2 (fun _ => ?_) (fun c => absurd (by rw [hx0]; simp) c)
      obtain ⟨dy, hdy, hstr⟩ := lastNo y (by rw [hx0, List.concat_eq_append, List.getLast?_append]; rfl)
      refine ⟨_, rfl, _, rfl, a, xs, -1, y, rfl, rfl, SqL.of ha, (by rw [hx0, List.concat_eq_append]; exact atI_last xs0 y), y, dy, _, rfl, hdy, by decide, _, rfl, ?_⟩
      refine ite2 (fun c => by rw [hstr] at c; cases c) (fun _ => ?_)
      refine ⟨_, rfl, a, rfl, ⟨xs, SqL.of ha⟩, fun D hD => ?_⟩
      refine lc_it (walk_list (xs := xs)) (fun i H' => i ≤ 100000 ∧ ∃ S1 S2, S0 = S1 ++ S2 ∧ TrAll K shNo Gh (xs.drop i) (ds.drop i) S2 ∧ (∀ b ∈ S1, b ∉ S2) ∧ Out S1 Gh H' ∧ H' D = some (.lst (List.replicate i (.bl true)))) ⟨Nat.zero_le _, [], S0, rfl, hall, fun _ z => (by cases z), Out.of_same (same_new hD _), upd_same⟩ ?_ ?_ ?_
      · rintro i H' _ ⟨_, S1, S2, e, _, _, z, _⟩
        exact SqL.of (z _ _ (fun y => hn (by rw [e]; exact List.mem_append_left _ y)) ha)
      · rintro i x H' H'' hi ⟨z0, S1, S2, rfl, z1, z2, z3, z4⟩ ⟨rfl, hx⟩
        have hlx := (List.getElem?_eq_some_iff.mp hx).1
        have hld : i < ds.length := by omega
        rw [List.drop_eq_getElem_cons hlx, List.drop_eq_getElem_cons hld] at z1
        have hxe : xs[i] = x := (List.getElem?_eq_some_iff.mp hx).2
        rw [hxe] at z1
        cases z1 with
        | cons h1 h2 h3 =>
          rename_i Si Sr
          have hSl : ∀ b ∈ S1, ∃ l, Gh b = some (.lst l) := fun b hb => TrAll.there hall b (List.mem_append_left _ hb)
          have h1' := Tr.kept z3 hSl h1 (fun b hb y => z2 b y (List.mem_append_left _ hb))
          refine ⟨rfl, _, rfl, x, _, Si, rfl, h1', hdeep _ (List.getElem_mem hld), fun H2 o2 => ?_⟩
          have hDi : D ∉ Si := fun y => by
            obtain ⟨l, e⟩ := TrAll.there hall D (List.mem_append_right _ (List.mem_append_left _ y))
            rw [hD] at e
            cases e
          refine ⟨_, o2 _ _ hDi z4, ?_, ?_, S1 ++ Si, Sr, (List.append_assoc ..).symm, h2, ?_, ?_, ?_⟩
          · rw [List.length_replicate]
            exact Nat.lt_of_le_of_lt z0 (by decide)
          · omega
          · intro b hb y
            rcases List.mem_append.mp hb with hb | hb
            · exact z2 b hb (List.mem_append_right _ y)
            · exact h3 b hb y
          · intro b o nb e
            rw [upd_ne (ne_of_none e hD)]
            exact (Out.trans z3 o2) b o nb e
          · rw [upd_same, List.replicate_succ']
      · rintro H2 ⟨_, S1, S2, e, z1, z2, z3, z4⟩
        have hS2 : S2 = [] := by
          rw [List.drop_eq_nil_of_le (Nat.le_refl _), hxl, List.drop_eq_nil_of_le (Nat.le_refl _)] at z1
          cases z1
          rfl
        subst hS2
        rw [List.append_nil] at e
        subst e
        obtain ⟨g1, g2, g3⟩ := go D hD H2 z3 z4
        refine ⟨_, rfl, .inl ⟨rfl, _, SqL.of g1⟩, _, xs, _, rfl, rfl, g1, Nat.lt_of_le_of_lt (show xs.length ≤ 100000 by omega) (by decide), ?_⟩
        refine ⟨_, rfl, D, List.replicate xs.length true, rfl, SqL.of (by rw [g3, List.map_replicate]), ?_⟩
        rw [show (List.replicate xs.length true).all id = true by simp]
        exact g2
theorem ok_mark (F : Fs K mg) (T : Txt K mg) : ∀ n, FnOk P w K mg base CX0 (n + 2) F.f__law_spoilt F.fd__law_spoilt ["told"] (spMark K n)
  | 0 => mark_step F T (k := 0) ok_no3
  | n + 1 => mark_step F T (k := n + 1) (ok_mark F T n)
end
end K20

set_option Elab.async false
set_option linter.all false
set_option maxRecDepth 100000
set_option maxHeartbeats 1000000
namespace K20
open PySem PySem.Spec L2 Wy RZ
section
variable {P : Program} {w : World} {K : PySem.W.Frag} {mg : Str → Option Value} {base : Heap}
theorem Kp.same {p : Addr} {H H' : Hp} (k : Kp p H H') : Same (outA H p) (outA H' p) := outA_same k
theorem Kp.refl {p : Addr} {H : Hp} : Kp p H H := fun _ _ _ e => e
theorem Kp.trans {p : Addr} {A B C : Hp} (h : Kp p A B) (k : Kp p B C) : Kp p A C := fun b o n e => k b o n (h b o n e)
theorem Kp.of_same {p : Addr} {A B : Hp} (h : Same A B) : Kp p A B := fun b o _ e => h b o e
theorem Kp.of_ne {p : Addr} {A B : Hp} (h : ∀ b, b ≠ p → B b = A b) : Kp p A B := fun b o n e => (h b n).trans e
theorem out_of {p : Addr} {H H' : Hp} (s : Same H H') (b : Addr) (o : HO) (n : b ≠ p) (e : H b = some o) : outA H' p b = some o := by
  rw [outA_ne n]
  exact s b o e
theorem Purse.lst {H : Hp} {p l : Addr} {n : Nat} (h : Purse H p l n) : ∃ xs, H p = some (.lst xs) := by
  obtain ⟨cs, i, cur, k, seed, a1, _⟩ := h
  exact ⟨_, a1⟩
theorem Purse.kp {H H' : Hp} {p l : Addr} {n : Nat} (h : Purse H p l n) (s : Same H H') : Purse H' p l n := h.ex (fun o e => s _ _ e) fun o e => s _ _ e
/-- a type whose numbers are others, none twice -/
def Turned (t t' : Ty) : Prop := ∃ r : Nat → Nat, t' = t.ren r ∧ (∀ a b, a ∈ numT t → b ∈ numT t → r a = r b → a = b) ∧ ∀ n ∈ numT t, r n < 1000000
def spTurned (K : PySem.W.Frag) : Sp := fun vs H Q _ => ∃ (p lc : Addr) (v : V) (t : Ty) (n : Nat), vs = [.ref p, v] ∧ Purse H p lc n ∧ n + t.size ≤ 500000 ∧ Dx K (outA H p) v t.toD ∧ t.ok = true ∧ t.deep ≤ 8 ∧ t.size ≤ 900 ∧
  ∀ (x : V) (t' : Ty) (H' : Hp), Dx K (outA H' p) x t'.toD → Turned t t' → Purse H' p lc (n + t.size) → Kp p H H' → Q x H'
theorem sc__law_turned : FnScope ["purse", "one", "table", "number"] ["purse", "one"] (defScope s__law_turned) := ⟨rfl, rfl, rfl, by decide +kernel, rfl, by decide +kernel, by decide +kernel⟩
theorem ok__law_turned (F : Fs K mg) (T : Txt K mg) (Z : Exs P K mg) : FnOk P w K mg base CX0 12 F.f__law_turned F.fd__law_turned ["purse", "one"] (spTurned K) := by
  have SC := sc__law_turned
  have G__law_numbers : FnOk P w K mg base CX0 3 F.f__law_numbers F.fd__law_numbers ["ones"] (spNumsL K) := ok__law_numbers F T Z
  have B__law_numbers : Binds K F.fd__law_numbers ["ones"] [] := F.d__law_numbers.fn.bindsN fun _ _ _ _ _ _ us hl => match us, hl with | [_], _ => rfl
  have G__law_put : FnOk P w K mg base CX0 10 F.f__law_put F.fd__law_put ["one", "table"] (spPut K 8) := ok_law_put F T Z 8
  have B__law_put : Binds K F.fd__law_put ["one", "table"] [] := F.d__law_put.fn.bindsN fun _ _ _ _ _ _ us hl => match us, hl with | [_, _], _ => rfl
  have G__law_unknown : FnOk P w K mg base CX0 1 F.f__law_unknown F.fd__law_unknown ["number"] (spUnkL) := ok__law_unknown F T Z
  have B__law_unknown : Binds K F.fd__law_unknown ["number"] [] := F.d__law_unknown.fn.bindsN fun _ _ _ _ _ _ us hl => match us, hl with | [_], _ => rfl
  have G__law_draw : FnOk P w K mg base CX0 1 F.f__law_draw F.fd__law_draw ["purse", "many"] (spDraw) := ok_draw F.d__law_draw T.t0
  have B__law_draw : Binds K F.fd__law_draw ["purse", "many"] [] := F.d__law_draw.fn.bindsN fun _ _ _ _ _ _ us hl => match us, hl with | [_, _], _ => rfl
  refine F.d__law_turned.fn.ok sc__law_turned (fun vs H Q E h => ?_) (fun cdv A outer s H vs Q E hr h => ?_)
  · obtain ⟨p, lc, v, t, n, rfl, _⟩ := h; rfl
  obtain ⟨p, lc, v, t, n, rfl, hP, hn, hv, ok, hdp, hsz, q⟩ := h
  have hu1 := hu_of hr
  refine ⟨_, PSs.nox (pss_cons (ps_set (i := 2) SC.nd rfl (Or.inl rfl) pe_dnewK)
    (pss_cons (ps_for PassesOwn.never rfl (pi_list (pe_call G__law_numbers (hr.mono (by decide)) rfl F.d__law_numbers.gl F.d__law_numbers.fn.kp B__law_numbers .nil pass0 (pa_cons (pe_lst (pa_cons (pv 1) pa_nil)) pa_nil))) (pg_name (i := 3) SC.nd rfl (Or.inl rfl)) (pss_one (ps_dput hu1 (pv 2) (pv 3) (pe_call G__law_unknown (hr.mono (by decide)) rfl F.d__law_unknown.gl F.d__law_unknown.fn.kp B__law_unknown .nil pass0 (pa_cons (pe_op op_add (pe_op op_mul pe_int (pe_callB call_lenD (by rfl) T.n_len (by decide +kernel) (pa_cons (pv 2) pa_nil))) (pe_call G__law_draw (hr.mono (by decide)) rfl F.d__law_draw.gl F.d__law_draw.fn.kp B__law_draw .nil pass0 (pa_cons (pv 0) (pa_cons pe_int pa_nil)))) pa_nil)) rfl)))
    (pss_one (ps_ret (pe_call G__law_put (hr.mono (by decide)) rfl F.d__law_put.gl F.d__law_put.fn.kp B__law_put .nil pass0 (pa_cons (pv 1) (pa_cons (pv 2) pa_nil))))))), ?_⟩
  obtain ⟨⟨op, hpo⟩, ⟨oc, hco⟩, hcp⟩ := hP.at_
  intro tb htb
  have s1 := same_new htb (.dK [])
  have hptb : p ≠ tb := ne_of_none hpo htb
  refine ⟨_, rfl, small _ (by show 1 ≤ 100000; decide), fun l hl => ?_⟩
  have s2 := same_new hl (.lst [v])
  have hpl : p ≠ l := ne_of_none (s1 _ _ hpo) hl
  have s12 := s1.trans s2
  have sO : Same (outA H p) (upd (upd H tb (.dK [])) l (.lst [v])) := outA_sub.trans s12
  refine ⟨l, [v], [t], outA H p, rfl, SqL.of upd_same, .cons hv .nil, sO, by simp [Ty.oks, ok], by simp only [Ty.sizes]; omega, fun r H1 s3 hr0 hr1 => ?_⟩
  rw [show lawNums [t] = numsIn [t] from (numsIn_eq [t]).symm] at hr1
  have hns : (numsIn [t]).length ≤ t.size := by
    have := numsIn_le [t]
    simpa [Ty.sizes] using this
  have nd := numsIn_nodup [t]
  have memN : ∀ m, m ∈ numT t → m ∈ numsIn [t] := fun m hm => by rw [numsIn_mem, allNums_one]; exact hm
  generalize numsIn [t] = ns at hr1 hns nd memN
  have hP1 : Purse H1 p lc n := hP.kp (s12.trans s3)
  have hrp : r ≠ p := fun z => by
    rw [z, s12 _ _ hpo] at hr0
    cases hr0
  have hrtb : r ≠ tb := fun z => by
    rw [z, s2 _ _ upd_same] at hr0
    cases hr0
  refine ⟨r, rfl, ⟨_, SqL.of hr1⟩, for_list (xs := intsV ns) (fun i σ H' => (∃ y, σ = [some (.ref p), some v, some (.ref tb), y]) ∧ Kp p H H' ∧ H' r = some (.lst (intsV ns)) ∧ Purse H' p lc (n + i) ∧ ∃ (kvs : List (Key × V)) (rr : Nat → Nat), H' tb = some (.dK kvs) ∧ kvs.length = i ∧
      (∀ j m, j < i → ns[j]? = some m → 1000 * j ≤ rr m ∧ rr m < 1000 * j + 900) ∧
      ∀ m : Nat, match valV kvs (Sum.inl (m : Int)) with
        | some x => m ∈ ns.take i ∧ ∃ a, x = .ref a ∧ H' a = some (.tup [.str "unknown", .int (rr m : Nat)])
        | none => m ∉ ns.take i) ⟨⟨_, rfl⟩, Kp.of_same (s12.trans s3), hr1, hP1, [], id, s3 _ _ (s2 _ _ upd_same), rfl, fun j m hj => absurd hj (Nat.not_lt_zero j), fun m => by simp [valV_nil]⟩ ?_ ?_ ?_⟩
  · rintro i σ H' _ ⟨_, _, z, _⟩
    exact SqL.of z
  · rintro i x σ H' hi ⟨⟨y0, rfl⟩, k1, k2, k3, kvs, rr, k4, k5, k6, k7⟩
    have hlt := (List.getElem?_eq_some_iff.mp hi).1
    unfold intsV at hi hlt
    rw [List.length_map] at hlt
    rw [List.getElem?_map] at hi
    obtain ⟨m, hm, rfl⟩ := Option.map_eq_some_iff.mp hi
    have htk : ns.take (i + 1) = ns.take i ++ [m] := by
      rw [List.take_add_one, hm]
      rfl
    have hnj : m ∉ ns.take i := by
      have z := nd.sublist (List.take_sublist (i + 1) _)
      rw [htk, List.nodup_append] at z
      exact fun y => z.2.2 m y m (List.mem_singleton_self m) rfl
    refine ⟨_, rfl, tb, kvs, rfl, k4, _, _, rfl, rfl, .inl ⟨by decide, by decide⟩, _, rfl, p, lc, 900, n + i, rfl, k3, by omega, by decide, by decide, fun d H2 hd0 hd1 hP2 hk2 => ?_⟩
    refine ⟨_, _, rfl, rfl, _, rfl, fun u hu0 => ?_⟩
    have kk : Kp p H' H2 := Kp.of_ne hk2
    have sU := same_new hu0 (.tup [.str "unknown", .int (1000 * (kvs.length : Int) + d)])
    have h2tb : H2 tb = some (.dK kvs) := kk _ _ hptb.symm k4
    have htbu : tb ≠ u := ne_of_none h2tb hu0
    obtain ⟨op2, hpo2⟩ := hP2.at_.1
    have hpu : p ≠ u := ne_of_none hpo2 hu0
    refine ⟨_, rfl, _, rfl, tb, _, rfl, DPut.k (k := Sum.inl (m : Int)) (sU _ _ h2tb) ?_, ?_⟩
    · exact Nat.lt_of_le_of_lt (show kvs.length ≤ 100000 by omega) (by decide)
    obtain ⟨d', rfl⟩ : ∃ d' : Nat, d = (d' : Int) := ⟨d.toNat, (Int.toNat_of_nonneg hd0).symm⟩
    have vn : valV kvs (Sum.inl (m : Int)) = none := by
      have z := k7 m
      cases e : valV kvs (Sum.inl (m : Int)) with
      | none => rfl
      | some x =>
        rw [e] at z
        exact absurd z.1 hnj
    refine ⟨⟨_, rfl⟩, fun b o nb e => ?_, ?_, ?_, putK kvs (Sum.inl (m : Int)) (.ref u), fun a => if a = m then 1000 * i + d' else rr a, upd_same, ?_, fun j a hj ha => ?_, fun a => ?_⟩
    · rw [upd_ne (ne_of_none e htb)]
      exact sU _ _ (kk _ _ nb (k1 _ _ nb e))
    · rw [upd_ne hrtb]
      exact sU _ _ (kk _ _ hrp k2)
    · refine (hP2.ex (fun o e => ?_) fun o e => ?_).mono (by omega)
      · rw [upd_ne hptb]
        exact sU _ _ e
      · rw [upd_ne (ne_of_none hco htb)]
        exact sU _ _ e
    · rw [putK_new _ vn, List.length_append, k5]
      rfl
    · by_cases hji : j = i
      · subst hji
        obtain rfl : m = a := Option.some.inj (hm.symm.trans ha)
        dsimp only
        rw [if_pos rfl]
        omega
      · have hj' : j < i := by omega
        have ne : a ≠ m := fun z => hnj (by
          rw [← z]
          exact List.mem_take_iff_getElem.mpr ⟨j, by have := (List.getElem?_eq_some_iff.mp ha).1; omega, (List.getElem?_eq_some_iff.mp ha).2⟩)
        dsimp only
        rw [if_neg ne]
        exact k6 j a hj' ha
    · rw [valV_put]
      by_cases hma : a = m
      · subst hma
        rw [if_pos rfl]
        refine ⟨by rw [htk]; simp, u, rfl, ?_⟩
        dsimp only
        rw [upd_ne htbu.symm, if_pos rfl, upd_same, k5]
        have e : (1000 * (i : Int) + (d' : Int)) = ((1000 * i + d' : Nat) : Int) := by omega
        rw [e]
      · have ne : ¬ (Sum.inl (a : Int) : Key) = Sum.inl (m : Int) := fun z => hma (by
          have := Sum.inl.inj z
          exact_mod_cast this)
        rw [if_neg ne]
        have z := k7 a
        cases e : valV kvs (Sum.inl (a : Int)) with
        | none =>
          rw [e] at z
          show a ∉ ns.take (i + 1)
          rw [htk]
          exact fun y => (List.mem_append.mp y).elim z fun y => hma (List.mem_singleton.mp y)
        | some x =>
          rw [e] at z
          obtain ⟨m1, q1, rfl, hq1⟩ := z
          refine ⟨by rw [htk]; exact List.mem_append_left _ m1, q1, rfl, ?_⟩
          have nq : q1 ≠ tb := fun y => by
            rw [y, k4] at hq1
            cases hq1
          obtain ⟨pl, hpl3⟩ := k3.lst
          have nqp : q1 ≠ p := fun y => by
            rw [y, hpl3] at hq1
            cases hq1
          dsimp only
          rw [upd_ne nq, if_neg hma]
          exact sU _ _ (kk _ _ nqp hq1)
  · rintro σ G ⟨⟨y0, rfl⟩, k1, k2, k3, kvs, rr, k4, k5, k6, k7⟩
    unfold intsV at k3 k6 k7
    rw [List.length_map] at k3 k6
    rw [List.length_map, List.take_length] at k7
    obtain ⟨pl, hpl3⟩ := k3.lst
    have tab : TabOk K (outA G p) (fun m => if m ∈ ns then some (.unk (rr m)) else none) kvs := fun m => by
      have z := k7 m
      cases e : valV kvs (Sum.inl (m : Int)) with
      | none =>
        rw [e] at z
        exact if_neg z
      | some x =>
        rw [e] at z
        obtain ⟨m1, a, rfl, ha⟩ := z
        refine ⟨.unk (rr m), if_pos m1, .tup (SqT.of (xs := [.str "unknown", .int (rr m : Nat)]) ?_) (.cons (.str _) (.cons (.int _) .nil))⟩
        rw [outA_ne (fun y => by rw [y, hpl3] at ha; cases ha)]
        exact ha
    refine ⟨_, rfl, _, rfl, v, t, tb, kvs, _, outA G p, rfl, hv.mono k1.same, outA_sub, ok, hdp, k4, tab, fun x S H' s4 hx hf => ?_⟩
    have e : t.put (fun m => if m ∈ ns then some (.unk (rr m)) else none) = t.ren rr := put_congr t fun m hm => if_pos (memN m hm)
    rw [e] at hx
    have hpS : p ∉ S := fun z => by
      have := hf p z
      rw [hpl3] at this
      cases this
    have at_ : ∀ m, m ∈ ns → ∃ j, j < ns.length ∧ ns[j]? = some m := fun m hm => by
      obtain ⟨j, hj, e⟩ := List.getElem_of_mem hm
      exact ⟨j, hj, by rw [List.getElem?_eq_getElem hj, e]⟩
    refine q x (t.ren rr) H' (Tr.dx (fun y d ⟨_, u, _, _, hdx⟩ => hdx.mono (outA_same fun c o _ e => s4 c o e)) (Tr.out (s4 _ _ hpl3) hx hpS)) ⟨rr, rfl, fun a b ha hb hab => ?_, fun a ha => ?_⟩ ((k3.kp s4).mono (by omega)) (k1.trans (Kp.of_same s4))
    · obtain ⟨ja, ha1, ha2⟩ := at_ a (memN a ha)
      obtain ⟨jb, hb1, hb2⟩ := at_ b (memN b hb)
      have z1 := k6 ja a ha1 ha2
      have z2 := k6 jb b hb1 hb2
      have : ja = jb := by omega
      subst this
      exact Option.some.inj (ha2.symm.trans hb2)
    · obtain ⟨ja, ha1, ha2⟩ := at_ a (memN a ha)
      have z1 := k6 ja a ha1 ha2
      omega
end
end K20

set_option Elab.async false
set_option linter.all false
set_option maxRecDepth 100000
set_option maxHeartbeats 1000000
namespace K20
open PySem PySem.Spec L2 Wy RZ
section
variable {P : Program} {w : World} {K : PySem.W.Frag} {mg : Str → Option Value} {base : Heap}
def odd1 : List PyData := [.none, .tuple [], .list [], .dict [], .str "unknown", .int 7, .tuple [.str "unknown"], .tuple [.str "unknown", .int (0 - 1)], .tuple [.str "unknown", .bool true], .tuple [.str "unknown", .str "0"], .tuple [.str "unknown", .int 0, .int 0], .list [.str "unknown", .int 0]]
def odd2 : List PyData := [.tuple [.str "kind", .str "num"], .tuple [.str "kind", .str "num", .tuple []], .tuple [.str "kind", .str "", .list []], .tuple [.str "kind", .str "Num", .list []], .tuple [.str "kind", .str "ninesigns", .list []], .tuple [.str "kind", .str "let", .list []], .tuple [.str "kind", .int 3, .list []]]
def odd3 (d : PyData) : List PyData := [.tuple [.str "kind", .str "num", .list [], .int 0], .tuple [.str "Kind", .str "num", .list []], .tuple [.str "kind", .none, .list []], .tuple [.str "kind", .str "fun", .list (List.replicate (4 : Int).toNat [d]).flatten], .tuple [.str "kind", .str "fun", .list [d, .none]], .tuple [.str "kind", .str "fun", .tuple [d, d]]]
def odd4 (d : PyData) : List PyData := [.tuple [.str "kind", .str "list", .list [.list [.str "unknown", .int 0]]], .tuple [.none, d], .tuple [.str "kind", .str "pair", d]]
def odds (d : PyData) : List PyData := ((odd1 ++ odd2) ++ odd3 d) ++ odd4 d
/-- the odd ones, new -/
def spOdd (K : PySem.W.Frag) : Sp := fun vs H Q _ => ∃ (v : V) (d : PyData) (M : Addr → Bool), vs = [v] ∧ Occ M H ∧ Dx K (outM M H) v d ∧ ∀ (p : Addr) (xs : List V) (H' : Hp), Same H H' → H p = none → H' p = some (.lst xs) → DxAll K (outM M H') xs (odds d) → Q (.ref p) H'
theorem sc__law_odd_types : FnScope ["one", "found"] ["one"] (defScope s__law_odd_types) := ⟨rfl, rfl, rfl, by decide +kernel, rfl, by decide +kernel, by decide +kernel⟩
theorem ok__law_odd_types (F : Fs K mg) (T : Txt K mg) (Z : Exs P K mg) : FnOk P w K mg base CX0 1 F.f__law_odd_types F.fd__law_odd_types ["one"] (spOdd K) := by
  have SC := sc__law_odd_types
  refine F.d__law_odd_types.fn.ok sc__law_odd_types (fun vs H Q E h => ?_) (fun cdv A outer s H vs Q E hr h => ?_)
  · obtain ⟨v, d, M, rfl, _⟩ := h; rfl
  obtain ⟨v, d, M, rfl, o, hd, q⟩ := h
  refine ⟨_, PSs.nox (pss_cons (ps_set (i := 1) SC.nd rfl (Or.inl rfl) (pe_lst (pa_cons pe_non (pa_cons (pe_tup pa_nil) (pa_cons (pe_lst pa_nil) (pa_cons pe_dnewK (pa_cons pe_str (pa_cons pe_int (pa_cons (pe_tup (pa_cons pe_str pa_nil)) (pa_cons (pe_tup (pa_cons pe_str (pa_cons (pe_op op_sub pe_int pe_int) pa_nil))) (pa_cons (pe_tup (pa_cons pe_str (pa_cons pe_bl pa_nil))) (pa_cons (pe_tup (pa_cons pe_str (pa_cons pe_str pa_nil))) (pa_cons (pe_tup (pa_cons pe_str (pa_cons pe_int (pa_cons pe_int pa_nil)))) (pa_cons (pe_lst (pa_cons pe_str (pa_cons pe_int pa_nil))) pa_nil))))))))))))))
    (pss_cons (ps_set (i := 1) SC.nd rfl (Or.inl rfl) (pe_op op_catS (pv 1) (pe_lst (pa_cons (pe_tup (pa_cons pe_str (pa_cons pe_str pa_nil))) (pa_cons (pe_tup (pa_cons pe_str (pa_cons pe_str (pa_cons (pe_tup pa_nil) pa_nil)))) (pa_cons (pe_tup (pa_cons pe_str (pa_cons pe_str (pa_cons (pe_lst pa_nil) pa_nil)))) (pa_cons (pe_tup (pa_cons pe_str (pa_cons pe_str (pa_cons (pe_lst pa_nil) pa_nil)))) (pa_cons (pe_tup (pa_cons pe_str (pa_cons pe_str (pa_cons (pe_lst pa_nil) pa_nil)))) (pa_cons (pe_tup (pa_cons pe_str (pa_cons pe_str (pa_cons (pe_lst pa_nil) pa_nil)))) (pa_cons (pe_tup (pa_cons pe_str (pa_cons pe_int (pa_cons (pe_lst pa_nil) pa_nil)))) pa_nil))))))))))
    (pss_cons (ps_set (i := 1) SC.nd rfl (Or.inl rfl) (pe_op op_catS (pv 1) (pe_lst (pa_cons (pe_tup (pa_cons pe_str (pa_cons pe_str (pa_cons (pe_lst pa_nil) (pa_cons pe_int pa_nil))))) (pa_cons (pe_tup (pa_cons pe_str (pa_cons pe_str (pa_cons (pe_lst pa_nil) pa_nil)))) (pa_cons (pe_tup (pa_cons pe_str (pa_cons pe_non (pa_cons (pe_lst pa_nil) pa_nil)))) (pa_cons (pe_tup (pa_cons pe_str (pa_cons pe_str (pa_cons (pe_op op_rep (pe_lst (pa_cons (pv 0) pa_nil)) pe_int) pa_nil)))) (pa_cons (pe_tup (pa_cons pe_str (pa_cons pe_str (pa_cons (pe_lst (pa_cons (pv 0) (pa_cons pe_non pa_nil))) pa_nil)))) (pa_cons (pe_tup (pa_cons pe_str (pa_cons pe_str (pa_cons (pe_tup (pa_cons (pv 0) (pa_cons (pv 0) pa_nil))) pa_nil)))) pa_nil)))))))))
    (pss_one (ps_ret (pe_op op_catS (pv 1) (pe_lst (pa_cons (pe_tup (pa_cons pe_str (pa_cons pe_str (pa_cons (pe_lst (pa_cons (pe_lst (pa_cons pe_str (pa_cons pe_int pa_nil))) pa_nil)) pa_nil)))) (pa_cons (pe_tup (pa_cons pe_non (pa_cons (pv 0) pa_nil))) (pa_cons (pe_tup (pa_cons pe_str (pa_cons pe_str (pa_cons (pv 0) pa_nil)))) pa_nil)))))))))), ?_⟩
  refine dr_seq (K := K) (M := M) (F := outM M H) (dr_lst (ds := odd1) ?_ (by decide)) o same_rfl (fun v1 H1 s1 h1 => ?_)
  · unfold odd1
    repeat (first | exact dra_nil | refine dra_cons ?_ ?_ | exact dr_non | exact dr_str | exact dr_int | exact dr_bl | exact dr_sub | exact dr_dict | exact dr_tup dra_nil (by decide) | exact dr_var rfl hd | refine dr_rep (dra_cons (dr_var rfl hd) dra_nil) (Nat.le_of_ble_eq_true rfl) (by decide) (by decide) | refine dr_tup ?_ (Nat.le_of_ble_eq_true rfl) | refine dr_lst ?_ (Nat.le_of_ble_eq_true rfl))
  have hd1 := hd.mono (outM_same s1)
  refine dr_seq (K := K) (M := M) (F := outM M H1) (dr_cat (ds := odd1) (es := odd2) (dr_var rfl h1) (dr_lst ?_ (by decide)) (by decide)) (o.mono s1) same_rfl (fun v2 H2 s2 h2 => ?_)
  · unfold odd2
    repeat (first | exact dra_nil | refine dra_cons ?_ ?_ | exact dr_non | exact dr_str | exact dr_int | exact dr_bl | exact dr_sub | exact dr_dict | exact dr_tup dra_nil (by decide) | exact dr_var rfl hd1 | refine dr_rep (dra_cons (dr_var rfl hd1) dra_nil) (Nat.le_of_ble_eq_true rfl) (by decide) (by decide) | refine dr_tup ?_ (Nat.le_of_ble_eq_true rfl) | refine dr_lst ?_ (Nat.le_of_ble_eq_true rfl))
  have hd2 := hd1.mono (outM_same s2)
  refine dr_seq (K := K) (M := M) (F := outM M H2) (dr_cat (ds := odd1 ++ odd2) (es := odd3 d) (dr_var rfl h2) (dr_lst ?_ (by show 6 ≤ 100000; decide)) (by show 19 + 6 ≤ 100000; decide)) (o.mono (s1.trans s2)) same_rfl (fun v3 H3 s3 h3 => ?_)
  · unfold odd3
    repeat (first | exact dra_nil | refine dra_cons ?_ ?_ | exact dr_non | exact dr_str | exact dr_int | exact dr_bl | exact dr_sub | exact dr_dict | exact dr_tup dra_nil (by decide) | exact dr_var rfl hd2 | refine dr_rep (dra_cons (dr_var rfl hd2) dra_nil) (Nat.le_of_ble_eq_true rfl) (by decide) (by decide) | refine dr_tup ?_ (Nat.le_of_ble_eq_true rfl) | refine dr_lst ?_ (Nat.le_of_ble_eq_true rfl))
  have hd3 := hd2.mono (outM_same s3)
  refine dr_retCat (K := K) (M := M) (F := outM M H3) (ds := (odd1 ++ odd2) ++ odd3 d) (es := odd4 d) (dr_var rfl h3) (dr_lst ?_ (by show 3 ≤ 100000; decide)) (by show 25 + 3 ≤ 100000; decide) (o.mono (s1.trans (s2.trans s3))) same_rfl (fun p4 xs4 H4 s4 hp4 hp5 h4 => ?_)
  · unfold odd4
    repeat (first | exact dra_nil | refine dra_cons ?_ ?_ | exact dr_non | exact dr_str | exact dr_int | exact dr_bl | exact dr_sub | exact dr_dict | exact dr_tup dra_nil (by decide) | exact dr_var rfl hd3 | refine dr_rep (dra_cons (dr_var rfl hd3) dra_nil) (Nat.le_of_ble_eq_true rfl) (by decide) (by decide) | refine dr_tup ?_ (Nat.le_of_ble_eq_true rfl) | refine dr_lst ?_ (Nat.le_of_ble_eq_true rfl))
  exact q p4 xs4 H4 (s1.trans (s2.trans (s3.trans s4))) ((s1.trans (s2.trans s3)).free hp4) hp5 h4
end
end K20

set_option Elab.async false
set_option linter.all false
set_option maxRecDepth 100000
set_option maxHeartbeats 1000000
namespace K20
open PySem PySem.Spec L2 Wy RZ
section
variable {P : Program} {w : World} {K : PySem.W.Frag} {mg : Str → Option Value} {base : Heap}
def hws : List (Str × Nat) := [("type", 0), ("types", 1), ("many", 2)]
/-- the words told of the i-th class -/
def hw (i : Nat) : List Str := hws.filterMap fun p => if i == p.2 then some p.1 else none
def RaisesAs (Z : Exs P K mg) (sp : Sp) (args : List V) (i : Nat) (u : V) (H : Hp) : Prop := ∀ (Q : VK) (E : XK), (∀ dx H', Same H H' → H dx = none → H' dx = some (.xd [("value", u)]) → E (.ref (Z.c i)) (some dx) H') → sp args H Q E
def spHeard (Z : Exs P K mg) (K : PySem.W.Frag) (S : Addr → Sp → Prop) : Sp := fun vs H Q _ => ∃ (f b : Addr) (sp : Sp) (args : List V) (u : V) (d : PyData) (i : Nat), vs = [.ref f, .ref b] ∧ S f sp ∧ SqL K H b args ∧ (args.length = 1 ∨ args.length = 2) ∧ i < 3 ∧ Dx K H u d ∧ d.showable = true ∧ d.shown.length ≤ sizeLine ∧ d.depth ≤ 60 ∧ RaisesAs Z sp args i u H ∧
  ∀ (r : Addr) (H' : Hp), Same H H' → H r = none → H' r = some (.lst ((hw i).map V.str ++ [.str d.shown])) → Q (.ref r) H'
def lenR (K : PySem.W.Frag) : List V → Hp → VK → Prop := fun xs H Q => ∃ x n, xs = [x] ∧ LenV K x H n ∧ Q (.int n) H
def tbHeard (K : PySem.W.Frag) (S : Addr → Sp → Prop) : WX → TS := fun W => tSeq (tIfS (tTest (tOp rEq (tCB (lenR K) (tCons (tVar 1) tNil)) (tC (.int 1)))) (tDrop (tCallAX 0 S (WE W) (tCons (tOp (rIxL K) (tVar 1) (tC (.int 0))) tNil))) tNext)
  (tIfS (tTest (tOp rEq (tCB (lenR K) (tCons (tVar 1) tNil)) (tC (.int 2)))) (tDrop (tCallAX 0 S (WE W) (tCons (tOp (rIxL K) (tVar 1) (tC (.int 0))) (tCons (tOp (rIxL K) (tVar 1) (tC (.int 1))) tNil)))) tNext)
theorem heard_try (Z : Exs P K mg) {S : Addr → Sp → Prop} {f b : Addr} {sp : Sp} {args : List V} {u : V} {i : Nat} {H : Hp} {D : Ends} (hS : S f sp) (hb : SqL K H b args) (hal : args.length = 1 ∨ args.length = 2) (hi : i < 3) (hra : RaisesAs Z sp args i u H)
    (rest : ∀ (a dx : Addr) (H' : Hp), Same H H' → H' a = none → H' dx = some (.xd [("value", u)]) → D.nx [some (.ref f), some (.ref b), some (.ref a), none, none, none, none] (upd H' a (exh a (Z.c i) dx))) :
    tbHeard K S (wKp K (.ref Z.cW) 3 (fun _ => tAsg (tVar 3) (gName 2)) D) D [some (.ref f), some (.ref b), some .non, none, none, none, none] H := by
  have fin : ∀ (dx : Addr) (H' : Hp), Same H H' → H dx = none → H' dx = some (.xd [("value", u)]) → wKp K (.ref Z.cW) 3 (fun _ => tAsg (tVar 3) (gName 2)) D (.ref (Z.c i)) (some dx) [some (.ref f), some (.ref b), some .non, none, none, none, none] H' := fun dx H' s h1 h2 =>
    ⟨Z.exm i hi, Z.c i, dx, rfl, rfl, fun a ha => ⟨_, rfl, fun ha2 => rest a dx H' s ha2 h2⟩⟩
  refine ⟨_, rfl, _, _, rfl, .inl ⟨_, hb, rfl⟩, rfl, _, rfl, ?_⟩
  rcases hal with hl | hl
  · obtain ⟨v, rfl⟩ : ∃ v, args = [v] := by
      match args, hl with
      | [v], _ => exact ⟨v, rfl⟩
    refine ite2 (fun _ => ?_) (fun c => absurd rfl c)
    exact ⟨f, sp, rfl, hS, _, rfl, b, _, 0, v, rfl, rfl, hb, at_of (j := 0) rfl rfl, hra _ _ fin⟩
  · obtain ⟨v, v2, rfl⟩ : ∃ v v2, args = [v, v2] := by
      match args, hl with
      | [v, v2], _ => exact ⟨v, v2, rfl⟩
    refine ite2 (fun c => by cases c) (fun _ => ?_)
    refine ⟨_, rfl, _, _, rfl, .inl ⟨_, hb, rfl⟩, rfl, _, rfl, ?_⟩
    refine ite2 (fun _ => ?_) (fun c => absurd rfl c)
    exact ⟨f, sp, rfl, hS, _, rfl, b, _, 0, v, rfl, rfl, hb, at_of (j := 0) rfl rfl, _, rfl, b, _, 1, v2, rfl, rfl, hb, at_of (j := 1) rfl rfl, hra _ _ fin⟩
theorem hw_step (i j : Nat) (wd : Str) (ws : List (Str × Nat)) : (ws ++ [(wd, j)]).filterMap (fun p => if i == p.2 then some p.1 else none) = ws.filterMap (fun p => if i == p.2 then some p.1 else none) ++ (if i == j then [wd] else []) := by
  rw [List.filterMap_append]
  congr 1
  by_cases h : (i == j) = true
  · rw [List.filterMap_cons]
    simp only [if_pos h]
    rfl
  · rw [List.filterMap_cons]
    simp only [if_neg h]
    rfl
theorem sc_heard : FnScope ["call", "parts", "caught", "e", "kinds", "word", "held"] ["call", "parts"] (defScope s__law_heard) := ⟨rfl, rfl, rfl, by decide +kernel, rfl, by decide +kernel, by decide +kernel⟩
theorem ok_heard (smK : SmK K) (F : Fs K mg) (T : Txt K mg) (Z : Exs P K mg) {S : Addr → Sp → Prop} {k : Nat} (A0 : ∀ f sp, S f sp → HeldX P w K mg base k f sp) : FnG P w K mg base CX0 (k + 1) F.f__law_heard F.fd__law_heard ["call", "parts"] (spHeard Z K S) := by
  have SC := sc_heard
  refine FnG.ok F.d__law_heard sc_heard (fun vs H Q E h => ?_) (fun cdv A outer s H vs Q E hr hgu h => ?_)
  · obtain ⟨f, b, sp, args, u, d, i, rfl, _⟩ := h
    rfl
  have hu := hr.units
  obtain ⟨f, b, sp, args, u, d, i, rfl, hS, hb, hal, hi, hd, hsh, hlen, hdep, hra, q⟩ := h
  refine ⟨_, PSs.nox (pss_cons (ps_set (i := 2) SC.nd rfl (Or.inl rfl) pe_non)
    (pss_cons (ps_try_keep (i := 3) (tb := tbHeard K S) rfl rfl rfl SC.nd rfl rfl ⟨rfl, by decide, .inl Z.gW⟩ (fun W pn xe tk _ =>
        pss_cons (ps_if (pt_cmpR op_eq (pe_callB call_len (by rfl) T.n_len (by decide +kernel) (pa_cons (pv 1) pa_nil)) pe_int (nomark _)) (pss_one (ps_expr (pe_callAX (i := 0) (E := WE W) A0 hr (fun σ => passAt tk σ) rfl (Or.inl rfl) (pa_cons (pe_ix ix_list (pv 1) pe_int (fun _ _ => rfl)) pa_nil)))) pss_nil)
        (pss_one (ps_if (pt_cmpR op_eq (pe_callB call_len (by rfl) T.n_len (by decide +kernel) (pa_cons (pv 1) pa_nil)) pe_int (nomark _)) (pss_one (ps_expr (pe_callAX (i := 0) (E := WE W) A0 hr (fun σ => passAt tk σ) rfl (Or.inl rfl) (pa_cons (pe_ix ix_list (pv 1) pe_int (fun _ _ => rfl)) (pa_cons (pe_ix ix_list (pv 1) pe_int (fun _ _ => rfl)) pa_nil))))) pss_nil)))
      (fun a oe pn => pss_one (ps_set (i := 2) SC.nd rfl (Or.inl rfl) (pv 3))))
    (pss_cons (ps_if (pt_cmpR op_isN (pv 2) pe_non (nomark _)) (pss_one (ps_ret pe_non)) pss_nil)
    (pss_cons (ps_set (i := 4) SC.nd rfl (Or.inl rfl) (pe_lst (pa_cons (pe_tup (pa_cons pe_str (pa_cons (pe_callB call_isH (by rfl) T.n_isinstance (by decide +kernel) (pa_cons (pv 2) (pa_cons (pe_glob (v := .ref (Z.c 0)) rfl (Z.g 0 "InvalidType" rfl) rfl) pa_nil))) pa_nil))) (pa_cons (pe_tup (pa_cons pe_str (pa_cons (pe_callB call_isH (by rfl) T.n_isinstance (by decide +kernel) (pa_cons (pv 2) (pa_cons (pe_glob (v := .ref (Z.c 1)) rfl (Z.g 1 "InvalidTypes" rfl) rfl) pa_nil))) pa_nil))) (pa_cons (pe_tup (pa_cons pe_str (pa_cons (pe_callB call_isH (by rfl) T.n_isinstance (by decide +kernel) (pa_cons (pv 2) (pa_cons (pe_glob (v := .ref (Z.c 2)) rfl (Z.g 2 "TooMany" rfl) rfl) pa_nil))) pa_nil))) pa_nil)))))
    (pss_one (ps_ret (pe_op op_cat (pe_lc (own := [("word", 5), ("held", 6)]) (g := gTup K 2 (gCons (gName 5) (gCons (gName 6) gNil))) (tt := tB (tVar 6)) (by rfl) SC.nd (pi_list (pv 4)) (blkOk_by (own := [("word", 5), ("held", 6)]) (N := ["call", "parts", "caught", "e", "kinds", "word", "held"]) (sc := defScope s__law_heard) (by decide +kernel)) (fun _ _ _ _ _ => (pg_tup (by rfl) (pgs_cons (pg_name (i := 5) SC.nd rfl (Or.inl rfl)) (pgs_cons (pg_name (i := 6) SC.nd rfl (Or.inl rfl)) pgs_nil)))) (fun _ _ _ _ _ => pts_one (pt_val (pv 6))) (fun _ _ _ _ _ => (pv 5))) (pe_lst (pa_cons (pe_callB (call_repr smK hgu hu) (by rfl) T.n_repr (by decide +kernel) (pa_cons (pe_hfld (pv 2)) pa_nil)) pa_nil))))))))), ?_⟩
  refine heard_try Z hS hb hal hi hra fun a dx H' sH ha hdx => ?_
  have nadx : dx ≠ a := fun z => by
    rw [z, ha] at hdx
    cases hdx
  have xat : XAt (upd H' a (exh a (Z.c i) dx)) (Z.c i) a dx [("value", u)] := ⟨upd_same, by rw [upd_ne nadx]; exact hdx⟩
  have sG : Same H (upd H' a (exh a (Z.c i) dx)) := sH.trans (same_new ha _)
  generalize upd H' a _ = G at xat sG ⊢
  refine ⟨_, rfl, rfl, _, rfl, ?_⟩
  refine ite2 (fun c => by cases c) (fun _ => ?_)
  refine ⟨_, rfl, a, Z.c i, dx, _, .ref (Z.c 0), _, (i == 0), rfl, xat, Z.exc i hi, .own _, Z.kit i 0 hi (by decide), small _ (by show 2 ≤ 100000; decide), fun t0 ht0 => ?_⟩
  have st0 := same_new ht0 (.tup [.str "type", .bl (i == 0)])
  have hT0 : upd G t0 (.tup [.str "type", .bl (i == 0)]) t0 = some (.tup [.str "type", .bl (i == 0)]) := upd_same
  have xat1 : XAt (upd G t0 (.tup [.str "type", .bl (i == 0)])) (Z.c i) a dx [("value", u)] := ⟨st0 _ _ xat.1, st0 _ _ xat.2⟩
  replace sG := sG.trans st0
  generalize upd G t0 _ = G0 at st0 hT0 xat1 sG ht0 ⊢
  refine ⟨_, rfl, a, Z.c i, dx, _, .ref (Z.c 1), _, (i == 1), rfl, xat1, Z.exc i hi, .own _, Z.kit i 1 hi (by decide), small _ (by show 2 ≤ 100000; decide), fun t1 ht1 => ?_⟩
  have st1 := same_new ht1 (.tup [.str "types", .bl (i == 1)])
  have hT1 : upd G0 t1 (.tup [.str "types", .bl (i == 1)]) t1 = some (.tup [.str "types", .bl (i == 1)]) := upd_same
  have xat2 : XAt (upd G0 t1 (.tup [.str "types", .bl (i == 1)])) (Z.c i) a dx [("value", u)] := ⟨st1 _ _ xat1.1, st1 _ _ xat1.2⟩
  replace sG := sG.trans st1
  replace hT0 := st1 _ _ hT0
  generalize upd G0 t1 _ = G1 at st1 hT1 xat2 sG ht1 hT0 ⊢
  refine ⟨_, rfl, a, Z.c i, dx, _, .ref (Z.c 2), _, (i == 2), rfl, xat2, Z.exc i hi, .own _, Z.kit i 2 hi (by decide), small _ (by show 2 ≤ 100000; decide), fun t2 ht2 => ?_⟩
  have st2 := same_new ht2 (.tup [.str "many", .bl (i == 2)])
  have hT2 : upd G1 t2 (.tup [.str "many", .bl (i == 2)]) t2 = some (.tup [.str "many", .bl (i == 2)]) := upd_same
  have xat3 : XAt (upd G1 t2 (.tup [.str "many", .bl (i == 2)])) (Z.c i) a dx [("value", u)] := ⟨st2 _ _ xat2.1, st2 _ _ xat2.2⟩
  replace sG := sG.trans st2
  replace hT0 := st2 _ _ hT0
  replace hT1 := st2 _ _ hT1
  generalize upd G1 t2 _ = G2 at st2 hT2 xat3 sG ht2 hT0 hT1 ⊢
  refine ⟨small _ (by show 3 ≤ 100000; decide), fun kl hkl => ?_⟩
  have sk := same_new hkl (.lst [.ref t0, .ref t1, .ref t2])
  replace hT0 := sk _ _ hT0
  replace hT1 := sk _ _ hT1
  replace hT2 := sk _ _ hT2
  replace sG := sG.trans sk
  have xatk : XAt (upd G2 kl (.lst [.ref t0, .ref t1, .ref t2])) (Z.c i) a dx [("value", u)] := ⟨sk _ _ xat3.1, sk _ _ xat3.2⟩
  have hkl2 : upd G2 kl (.lst [.ref t0, .ref t1, .ref t2]) kl = some (.lst [.ref t0, .ref t1, .ref t2]) := upd_same
  generalize upd G2 kl _ = G at xatk sG hkl2 hT0 hT1 hT2 ⊢
  refine ⟨_, rfl, kl, rfl, ⟨_, SqL.of hkl2⟩, fun D hD => ?_⟩
  refine lc_list (xs := [.ref t0, .ref t1, .ref t2]) (fun j H' => Same G H' ∧ H' D = some (.lst (((hws.take j).filterMap fun p => if i == p.2 then some p.1 else none).map V.str))) ⟨same_new hD _, upd_same⟩ ?_ ?_ ?_
  · rintro j H' _ ⟨z1, _⟩
    exact SqL.of (z1 _ _ hkl2)
  · rintro j x H' hj ⟨z1, z2⟩
    have item : ∃ (t : Addr) (wd : Str) (ex : Nat), x = .ref t ∧ G t = some (.tup [.str wd, .bl (i == ex)]) ∧ hws.take (j + 1) = hws.take j ++ [(wd, ex)] ∧ j < 3 := by
      match j, hj with
      | 0, hj =>
        obtain rfl : V.ref t0 = x := Option.some.inj hj
        exact ⟨t0, "type", 0, rfl, hT0, rfl, by decide⟩
      | 1, hj =>
        obtain rfl : V.ref t1 = x := Option.some.inj hj
        exact ⟨t1, "types", 1, rfl, hT1, rfl, by decide⟩
      | 2, hj =>
        obtain rfl : V.ref t2 = x := Option.some.inj hj
        exact ⟨t2, "many", 2, rfl, hT2, rfl, by decide⟩
      | j + 3, hj => simp at hj
    obtain ⟨t, wd, ex, rfl, ht, htk, hjn⟩ := item
    refine ⟨t, _, rfl, SqT.of (z1 _ _ ht), rfl, _, _, rfl, _, _, rfl, rfl, rfl, _, rfl, _, rfl, ?_⟩
    rw [htk, hw_step]
    have hl : (((hws.take j).filterMap fun p => if i == p.2 then some p.1 else none).map V.str).length ≤ 100000 := by
      rw [List.length_map]
      exact Nat.le_trans (List.length_filterMap_le ..) (Nat.le_trans (by rw [List.length_take]; exact Nat.min_le_left ..) (show j ≤ 100000 by omega))
    refine ite2 (fun c => ?_) (fun c => ?_)
    · refine ⟨_, rfl, _, z2, Nat.lt_of_le_of_lt hl (by decide), fun p o e => ?_, ?_⟩
      · rw [upd_ne (ne_of_none e hD)]
        exact z1 _ _ e
      · rw [upd_same, if_pos c, List.map_append]
        rfl
    · rw [if_neg c, List.append_nil]
      exact ⟨z1, z2⟩
  · rintro H2 ⟨z1, z2⟩
    have hh : (hws.take 3).filterMap (fun p => if i == p.2 then some p.1 else none) = hw i := rfl
    change H2 D = some (.lst (((hws.take 3).filterMap fun p => if i == p.2 then some p.1 else none).map V.str)) at z2
    rw [hh] at z2
    have hwl : (hw i).length ≤ 3 := List.length_filterMap_le ..
    refine ⟨_, rfl, a, Z.c i, dx, _, u, rfl, ⟨z1 _ _ xatk.1, z1 _ _ xatk.2⟩, Z.xf i hi, Z.val i hi, rfl, ?_⟩
    refine ⟨u, d, rfl, hd.mono (sG.trans z1), hsh, hlen, hdep, small _ (by show 1 ≤ 100000; decide), fun l hl => ?_⟩
    have sl := same_new hl (.lst [.str d.shown])
    refine ⟨D, l, _, _, rfl, rfl, sl _ _ z2, upd_same, small _ (by rw [List.length_map]; show (hw i).length + 1 ≤ 100000; omega), fun r hr0 => ?_⟩
    have s3 := sG.trans (z1.trans sl)
    exact q r _ (s3.trans (same_new hr0 _)) (s3.free hr0) upd_same
end
end K20

set_option Elab.async false
set_option linter.all false
set_option maxRecDepth 100000
set_option maxHeartbeats 1000000
namespace K20
open PySem PySem.Spec L2 Wy RZ
section
variable {P : Program} {w : World} {K : PySem.W.Frag} {mg : Str → Option Value} {base : Heap}
/-! ### what the program's defs make, as displays -/
section
variable {M : Addr → Bool} {σ : St} {F : Hp} {te : TE} {t : Ty} {ts : List Ty}
theorem numsD_eq (ns : List Nat) : numsD ns = .list ((ns.map fun (n : Nat) => (n : Int)).map PyData.int) := by
  unfold numsD
  rw [List.map_map]
  rfl
theorem numsV_eq (ns : List Nat) : (ns.map fun (n : Nat) => V.int (n : Int)) = (ns.map fun (n : Nat) => (n : Int)).map V.int := by
  rw [List.map_map]
  rfl
theorem tr_nums {H : Hp} {r : Addr} {ns : List Nat} (h : H r = some (.lst (ns.map fun (n : Nat) => V.int (n : Int)))) : Tr K (fun _ _ => False) H (.ref r) (numsD ns) [r] := by
  rw [numsD_eq]
  rw [numsV_eq] at h
  exact .lst h (tr_ints _) (fun z => by cases z)
theorem not_no {t : Ty} (ok : t.ok = true) (sz : t.size ≤ 200) : isTyD t.toD ≠ false := by
  rw [(isTy_iff _).mpr ⟨t, rfl, ok, sz⟩]
  exact fun z => by cases z
theorem tr_unknowns (Z : Exs P K mg) (h : DR K M te σ F t.toD) (ok : t.ok = true) (sz : t.size ≤ 200) : TR K M (tCall (spOf Z K 0 RNums) [] E0 (tCons te tNil)) σ F (numsD (numsIn [t])) := fun H Q o s q =>
  h H _ o s fun v H1 s1 hv => ⟨v, t.toD, rfl, hv.mono outM_sub, sml_ty t ok, fun t' e _ _ x H2 s2 ⟨r, hx, hr0, hr1⟩ => by
    subst hx
    have et : t' = t := toD_inj e.symm
    subst et
    exact q (.ref r) [r] H2 (s1.trans s2) (tr_nums hr1) (fun a ha => by rw [List.mem_singleton.mp ha]; exact s1.free hr0), fun z => absurd z (not_no ok sz)⟩
theorem tr_plain (Z : Exs P K mg) (h : DR K M te σ F t.toD) (ok : t.ok = true) (sz : t.size ≤ 200) (dp : t.deep ≤ 8) : TR K M (tCall (spPlain Z K) [] E0 (tCons te tNil)) σ F (plain1 t).toD := fun H Q o s q =>
  h H _ o s fun v H1 s1 hv => ⟨v, t.toD, rfl, hv.mono outM_sub, sml_ty t ok, .inl ⟨t, rfl, ok, sz, dp, fun x S H2 s2 hx hS => q x S H2 (s1.trans s2) (hx.imp fun _ _ z => z) fun a ha => s1.free (hS a ha)⟩⟩
theorem tr_plains (Z : Exs P K mg) (h : DR K M te σ F (.list (Ty.toDs ts))) (ok : Ty.oks ts = true) (sz : ∀ t ∈ ts, t.size ≤ 200) (hs : Ty.sizes ts ≤ 100000) (dp : Ty.deeps ts ≤ 8) : TR K M (tCall (spPlainL Z K) [] E0 (tCons te tNil)) σ F (.list (Ty.toDs (plainTs ts))) := fun H Q o s q =>
  h H _ o s fun v H1 s1 hv => ⟨v, _, rfl, hv.mono outM_sub, sml_tys ts ok, fun ds e => by
    rw [← PyData.list.inj e, toDs_map, List.length_map]
    exact Nat.le_trans (sizes_ge ts) hs, .inl ⟨ts, rfl, ok, sz, hs, dp, fun r acc S H2 s2 hr hacc hrS hr0 hS => q (.ref r) (r :: S) H2 (s1.trans s2) (.lst hr (hacc.imp fun _ _ z => z) hrS) fun a ha => (List.mem_cons.mp ha).elim (fun z => by rw [z]; exact s1.free hr0) fun z => s1.free (hS a z)⟩⟩
/-- by keyword -/
theorem tr_unknownsK (Z : Exs P K mg) (h : DR K M te σ F t.toD) (ok : t.ok = true) (sz : t.size ≤ 200) : TR K M (tCallKg (spOf Z K 0 RNums) 0 1 (fun vs zs => vs ++ zs) E0 tNil (tCons te tNil)) σ F (numsD (numsIn [t])) := fun H Q o s q =>
  ⟨rfl, h H _ o s fun v H1 s1 hv => ⟨rfl, v, t.toD, rfl, hv.mono outM_sub, sml_ty t ok, fun t' e _ _ x H2 s2 ⟨r, hx, hr0, hr1⟩ => by
    subst hx
    have et : t' = t := toD_inj e.symm
    subst et
    exact q (.ref r) [r] H2 (s1.trans s2) (tr_nums hr1) (fun a ha => by rw [List.mem_singleton.mp ha]; exact s1.free hr0), fun z => absurd z (not_no ok sz)⟩⟩
theorem tr_plainK (Z : Exs P K mg) (h : DR K M te σ F t.toD) (ok : t.ok = true) (sz : t.size ≤ 200) (dp : t.deep ≤ 8) : TR K M (tCallKg (spPlain Z K) 0 1 (fun vs zs => vs ++ zs) E0 tNil (tCons te tNil)) σ F (plain1 t).toD := fun H Q o s q =>
  ⟨rfl, h H _ o s fun v H1 s1 hv => ⟨rfl, v, t.toD, rfl, hv.mono outM_sub, sml_ty t ok, .inl ⟨t, rfl, ok, sz, dp, fun x S H2 s2 hx hS => q x S H2 (s1.trans s2) (hx.imp fun _ _ z => z) fun a ha => s1.free (hS a ha)⟩⟩⟩
theorem tr_plainsK (Z : Exs P K mg) (h : DR K M te σ F (.list (Ty.toDs ts))) (ok : Ty.oks ts = true) (sz : ∀ t ∈ ts, t.size ≤ 200) (hs : Ty.sizes ts ≤ 100000) (dp : Ty.deeps ts ≤ 8) : TR K M (tCallKg (spPlainL Z K) 0 1 (fun vs zs => vs ++ zs) E0 tNil (tCons te tNil)) σ F (.list (Ty.toDs (plainTs ts))) := fun H Q o s q =>
  ⟨rfl, h H _ o s fun v H1 s1 hv => ⟨rfl, v, _, rfl, hv.mono outM_sub, sml_tys ts ok, fun ds e => by
    rw [← PyData.list.inj e, toDs_map, List.length_map]
    exact Nat.le_trans (sizes_ge ts) hs, .inl ⟨ts, rfl, ok, sz, hs, dp, fun r acc S H2 s2 hr hacc hrS hr0 hS => q (.ref r) (r :: S) H2 (s1.trans s2) (.lst hr (hacc.imp fun _ _ z => z) hrS) fun a ha => (List.mem_cons.mp ha).elim (fun z => by rw [z]; exact s1.free hr0) fun z => s1.free (hS a z)⟩⟩⟩
theorem tr_copy (h : DR K M te σ F (.list (Ty.toDs ts))) (hl : ts.length ≤ 100000) : DR K M (tCB (fun xs H Q => ∃ p ys, xs = [.ref p] ∧ (SqL K H p ys ∨ SqT K H p ys) ∧ ∀ l, H l = none → Q (.ref l) (upd H l (.lst ys))) (tCons te tNil)) σ F (.list (Ty.toDs ts)) := fun H Q o s q =>
  h H _ o s fun v H1 s1 hv => by
    obtain ⟨a, xs, rfl, ha, hxs⟩ := hv.lst_inv
    refine ⟨a, xs, rfl, .inl (seq_outM ha), fun l hl0 => q (.ref l) _ (s1.trans (same_new hl0 _)) (.lst (SqL.of (outM_new (o.mono s1) hl0 upd_same)) (hxs.mono (outM_same (same_new hl0 _))))⟩
theorem dr_nums (h : DR K M te σ F (.list (Ty.toDs ts))) (ok : Ty.oks ts = true) (hs : Ty.sizes ts ≤ 100000) : DR K M (tCall (spNumsL K) [] E0 (tCons te tNil)) σ F (numsD (numsIn ts)) := fun H Q o s q =>
  h H _ o s fun v H1 s1 hv => by
    obtain ⟨a, xs, rfl, ha, hxs⟩ := hv.lst_inv
    refine ⟨a, xs, ts, outM M H1, rfl, seq_outM ha, hxs, outM_sub, ok, hs, fun r H2 s2 hr0 hr1 => ?_⟩
    rw [show lawNums ts = numsIn ts from (numsIn_eq ts).symm] at hr1
    exact q (.ref r) H2 (s1.trans s2) (Tr.data (o.mono s1) s2 (tr_nums hr1) fun b hb => by rw [List.mem_singleton.mp hb]; exact hr0)
theorem dr_plains (h : DR K M te σ F (.list (Ty.toDs ts))) (ok : Ty.oks ts = true) (hs : Ty.sizes ts ≤ 100000) (dp : Ty.deeps ts ≤ 8) : DR K M (tCall (spPlainsL K) [] E0 (tCons te tNil)) σ F (.list (Ty.toDs (plainTs ts))) := fun H Q o s q =>
  h H _ o s fun v H1 s1 hv => by
    obtain ⟨a, xs, rfl, ha, hxs⟩ := hv.lst_inv
    exact ⟨a, xs, ts, M, rfl, o.mono s1, ha, hxs, ok, hs, dp, fun r H2 s2 hr => q (.ref r) H2 (s1.trans s2) hr⟩
theorem dr_unk {i : Int} : DR K M (tCall spUnkL [] E0 (tCons (tC (.int i)) tNil)) σ F (.tuple [.str "unknown", .int i]) := fun H Q o s q =>
  ⟨_, rfl, fun p hp => q (.ref p) _ (same_new hp _) (.tup (SqT.of (outM_new o hp upd_same)) (.cons (.str _) (.cons (.int _) .nil)))⟩
end
theorem dt_same {M : Addr → Bool} {σ : St} {F : Hp} {t1 t2 : TE} {d : PyData} {n : Nat} (h1 : DR K M t1 σ F d) (h2 : DR K M t2 σ F d) (hd : okd n d = true) : DT K M (tB (tCall (spSame K n) [] E0 (tCons t1 (tCons t2 tNil)))) σ F true := fun H Qb o s q =>
  h1 H _ o s fun v H1 s1 hv => h2 H1 _ (o.mono s1) (s.trans (outM_same s1)) fun u H2 s2 hu => ⟨v, u, d, rfl, (hv.mono outM_sub).mono s2, hu.mono outM_sub, hd, fun H' s' => ⟨true, rfl, q H' (s1.trans (s2.trans s'))⟩⟩
theorem same_ret {M : Addr → Bool} {σ : St} {F H : Hp} {t1 t2 : TE} {d : PyData} {n : Nat} {D : Ends} (h1 : DR K M t1 σ F d) (h2 : DR K M t2 σ F d) (hd : okd n d = true) (o : Occ M H) (s : Same F (outM M H)) (q : ∀ H', D.rt (.bl true) H') : tRet (tCall (spSame K n) [] E0 (tCons t1 (tCons t2 tNil))) D σ H :=
  h1 H _ o s fun v H1 s1 hv => h2 H1 _ (o.mono s1) (s.trans (outM_same s1)) fun u H2 s2 hu => ⟨v, u, d, rfl, (hv.mono outM_sub).mono s2, hu.mono outM_sub, hd, fun H' s' => q H'⟩
/-- not alike, or marked ahead, or changed: no -/
theorem if_told {M : Addr → Bool} {σ : St} {F F1 H : Hp} {i n : Nat} {t1 t3 : TT} {a rest : TS} {D : Ends} {v : V} {d : PyData} {S : List Addr} (h1 : DT K M t1 σ F1 true) (sF1 : Same F1 (outM M H)) (hv : σ[i]? = some (some v)) (hT : Tr K shNo H v d S) (hd : okd n d = true) (o : Occ M H) (s : Same F (outM M H)) (hS : ∀ a ∈ S, M a ≠ true ∧ F a = none)
    (h3 : DT K M t3 σ F false) (q : ∀ H', Out S H H' → rest D σ H') : tSeq (tIfS (tOr (tNot t1) (tOr (tNot (tB (tCall (spMark K n) [] E0 (tCons (tVar i) tNil)))) t3)) a tNext) rest D σ H := by
  refine h1 H _ o sF1 fun H1 s1 => ?_
  show (if (!true) = true then _ else _)
  rw [if_neg (by decide)]
  refine ⟨v, hv, v, d, S, rfl, hT.mono s1, hd, fun H2 o2 => ⟨true, rfl, ?_⟩⟩
  show (if (!true) = true then _ else _)
  rw [if_neg (by decide)]
  have o1 := o.mono s1
  have oc2 : Occ M H2 := fun b hb => by
    obtain ⟨l, e⟩ := o1 b hb
    exact ⟨l, o2 b _ (fun z => (hS b z).1 hb) e⟩
  have s2 : Same F (outM M H2) := fun b u e => by
    have e1 := s.trans (outM_same s1) _ _ e
    unfold outM at e1 ⊢
    split at e1
    · cases e1
    · rename_i z
      rw [if_neg z]
      exact o2 b u (fun y => by rw [(hS b y).2] at e; cases e) e1
  refine h3 H2 _ oc2 s2 fun H3 s3 => ?_
  show (if false = true then _ else _)
  rw [if_neg Bool.false_ne_true]
  exact q H3 fun b u nb e => s3 _ _ (o2 b u nb (s1 _ _ e))
/-! ### the odd ones are no types -/
theorem runD_one (n : Nat) (x : PyData) : runD (n + 1) [x] = (headD x && runD n ([x].dropLast ++ sidesD x)) := rfl
theorem no_head {x : PyData} (h : headD x = false) : isTyD x = false := by
  show runD (199 + 1) [x] = false
  rw [runD_one, h, Bool.false_and]
theorem no_side {w : Str} {a b : PyData} (h : sideB b = false) : headD (.tuple [.str w, a, b]) = false := by
  show (!(w == "unknown") && (w == "kind" && (kindD a && sideB b))) = false
  rw [h, Bool.and_false, Bool.and_false, Bool.and_false]
theorem no_part {a : PyData} {ds : List PyData} (h : runD 199 ds = false) : isTyD (.tuple [.str "kind", a, .list ds]) = false := by
  show runD (199 + 1) [PyData.tuple [.str "kind", a, .list ds]] = false
  rw [runD_one]
  have e : ([PyData.tuple [.str "kind", a, .list ds]].dropLast ++ sidesD (.tuple [.str "kind", a, .list ds])) = ds := by
    show [] ++ (if ("kind" : Str) = "kind" then ds else []) = ds
    rw [if_pos rfl, List.nil_append]
  rw [e, h, Bool.and_false]
def OddOk (x : PyData) : Prop := isTyD x = false ∧ smlD x = true ∧ Nice 80000 20 x
theorem odd12 : ∀ x ∈ odd1 ++ odd2, OddOk x := by
  have h : ∀ x ∈ odd1 ++ odd2, isTyD x = false ∧ smlD x = true ∧ x.showable = true ∧ x.shown.length ≤ 80000 ∧ x.depth ≤ 20 := by decide +kernel
  exact fun x hx => ⟨(h x hx).1, (h x hx).2.1, (h x hx).2.2⟩
theorem odd34 {t : Ty} (ok : t.ok = true) (hn : Nice 6200 12 t.toD) : ∀ x ∈ odd3 t.toD ++ odd4 t.toD, OddOk x := by
  have hs := sml_ty t ok
  have k1 : Nice 6200 12 (.str "kind") := ⟨by decide +kernel, by decide +kernel, by decide +kernel⟩
  have k2 : Nice 6200 12 (.str "fun") := ⟨by decide +kernel, by decide +kernel, by decide +kernel⟩
  have k3 : Nice 6200 12 (.str "pair") := ⟨by decide +kernel, by decide +kernel, by decide +kernel⟩
  have k4 : Nice 6200 12 .none := ⟨by decide +kernel, by decide +kernel, by decide +kernel⟩
  have sk : smlD (.str "kind") = true := by decide +kernel
  have sf : smlD (.str "fun") = true := by decide +kernel
  have sp : smlD (.str "pair") = true := by decide +kernel
  have tri : ∀ {a b c : PyData} {n : Nat}, 6200 ≤ n → n ≤ 26000 → Nice 6200 12 a → Nice 6200 12 b → Nice n 13 c → Nice 80000 20 (.tuple [a, b, c]) := fun {a b c n} h0 h1 ha hb hc =>
    (nice_tuple (n := n) (m := 13) (c := 3) (fun d hd => by
      simp only [List.mem_cons, List.not_mem_nil, or_false] at hd
      rcases hd with rfl | rfl | rfl
      · exact ha.le h0 (by decide)
      · exact hb.le h0 (by decide)
      · exact hc) (Nat.le_refl _)).le (by omega) (by decide)
  intro x hx
  simp only [odd3, odd4, List.cons_append, List.nil_append, List.mem_cons, List.not_mem_nil, or_false] at hx
  rcases hx with rfl | rfl | rfl | rfl | rfl | rfl | rfl | rfl | rfl
  · exact ⟨by decide +kernel, by decide +kernel, by decide +kernel, by decide +kernel, by decide +kernel⟩
  · exact ⟨by decide +kernel, by decide +kernel, by decide +kernel, by decide +kernel, by decide +kernel⟩
  · exact ⟨by decide +kernel, by decide +kernel, by decide +kernel, by decide +kernel, by decide +kernel⟩
  · refine ⟨no_head (no_side rfl), ?_, tri (n := 24813) (by decide) (by decide) k1 k2 (nice_list (n := 6200) (m := 12) (c := 4) (fun d hd => ?_) (Nat.le_refl _))⟩
    · show (smlD (.str "kind") && (smlD (.str "fun") && (smlD (.list [t.toD, t.toD, t.toD, t.toD]) && true))) = true
      rw [sk, sf, show smlD (.list [t.toD, t.toD, t.toD, t.toD]) = (smlD t.toD && (smlD t.toD && (smlD t.toD && (smlD t.toD && true)))) from rfl, hs]
      rfl
    · have : d ∈ [t.toD, t.toD, t.toD, t.toD] := hd
      simp only [List.mem_cons, List.not_mem_nil, or_false] at this
      rcases this with rfl | rfl | rfl | rfl <;> exact hn
  · refine ⟨no_part ?_, ?_, tri (n := 24813) (by decide) (by decide) k1 k2 ((nice_list (n := 6200) (m := 12) (c := 2) (fun d hd => ?_) (Nat.le_refl _)).le (by decide) (by decide))⟩
    · show (headD .none && runD 198 ([t.toD, .none].dropLast ++ sidesD .none)) = false
      exact Bool.false_and _
    · show (smlD (.str "kind") && (smlD (.str "fun") && (smlD (.list [t.toD, .none]) && true))) = true
      rw [sk, sf, show smlD (.list [t.toD, .none]) = (smlD t.toD && (true && true)) from rfl, hs]
      rfl
    · simp only [List.mem_cons, List.not_mem_nil, or_false] at hd
      rcases hd with rfl | rfl
      · exact hn
      · exact k4
  · refine ⟨no_head (no_side rfl), ?_, tri (n := 24813) (by decide) (by decide) k1 k2 ((nice_tuple (n := 6200) (m := 12) (c := 2) (fun d hd => ?_) (Nat.le_refl _)).le (by decide) (by decide))⟩
    · show (smlD (.str "kind") && (smlD (.str "fun") && (smlD (.tuple [t.toD, t.toD]) && true))) = true
      rw [sk, sf, show smlD (.tuple [t.toD, t.toD]) = (smlD t.toD && (smlD t.toD && true)) from rfl, hs]
      rfl
    · simp only [List.mem_cons, List.not_mem_nil, or_false] at hd
      rcases hd with rfl | rfl <;> exact hn
  · exact ⟨by decide +kernel, by decide +kernel, by decide +kernel, by decide +kernel, by decide +kernel⟩
  · refine ⟨no_head rfl, ?_, (nice_tuple (n := 6200) (m := 12) (c := 2) (fun d hd => ?_) (Nat.le_refl _)).le (by decide) (by decide)⟩
    · show (true && (smlD t.toD && true)) = true
      rw [hs]
      rfl
    · simp only [List.mem_cons, List.not_mem_nil, or_false] at hd
      rcases hd with rfl | rfl
      · exact k4
      · exact hn
  · refine ⟨no_head (no_side ?_), ?_, tri (n := 24813) (by decide) (by decide) k1 k3 (hn.le (by decide) (by decide))⟩
    · cases t <;> rfl
    · show (smlD (.str "kind") && (smlD (.str "pair") && (smlD t.toD && true))) = true
      rw [sk, sp, hs]
      rfl
theorem odds_ok {t : Ty} (ok : t.ok = true) (hn : Nice 6200 12 t.toD) : ∀ x ∈ odds t.toD, OddOk x := fun x hx => by
  unfold odds at hx
  rw [List.append_assoc] at hx
  exact (List.mem_append.mp hx).elim (odd12 x) (odd34 ok hn x)
/-! ### what is heard -/
theorem heard_ne (Z : Exs P K mg) {S : Addr → Sp → Prop} {f : Addr} {sp : Sp} {wd : Str} {i : Nat} {M : Addr → Bool} {σ : St} {F H : Hp} {te tr : TE} {d : PyData} {n m : Nat} {Qb : Bool → Hp → Prop} (hS : S f sp) (hi : i < (exn).length) (hw1 : hw i = [wd]) (o : Occ M H) (s : Same F (outM M H))
    (hargs : DR K M te σ F (.list [d])) (hdue : DR K M tr σ F (.list [.str wd, .str d.shown])) (hn : Nice n m d) (h1 : n ≤ 16000000) (h2 : m ≤ 60) (hra : ∀ v H', Dx K H' v d → RaisesAs Z sp [v] i v H') (q : ∀ H', Same H H' → Qb false H') :
    tTest (tOp (rNeS K) (tCall (spHeard Z K S) [] E0 (tCons (tC (.ref f)) (tCons te tNil))) tr) σ H Qb := by
  refine hargs H _ o s fun x H1 s1 hx => ?_
  obtain ⟨a, xs, rfl, ha, hxs⟩ := hx.lst_inv
  cases hxs with
  | cons hv hrest =>
    cases hrest
    rename_i v
    have hv' := hv.mono outM_sub
    refine ⟨f, a, sp, [v], v, d, i, rfl, hS, seq_outM ha, .inl rfl, hi, hv', hn.1, Nat.le_trans (Nat.le_trans hn.2.1 h1) (by decide), Nat.le_trans hn.2.2 h2, hra v H1 hv', fun r H2 s2 hr0 hr2 => ?_⟩
    rw [hw1] at hr2
    refine hdue H2 _ (o.mono (s1.trans s2)) (s.trans (outM_same (s1.trans s2))) fun y H3 s3 hy => ?_
    obtain ⟨b, ys, rfl, hb, hys⟩ := hy.lst_inv
    cases hys with
    | cons g1 hys =>
      cases hys with
      | cons g2 hys =>
        cases hys
        obtain rfl := g1.str_inv
        obtain rfl := g2.str_inv
        exact ⟨r, b, [wd, d.shown], rfl, rfl, SqL.of (s3 _ _ hr2), seq_outM hb, _, rfl, q H3 (s1.trans (s2.trans s3))⟩
end
end K20

set_option Elab.async false
set_option linter.all false
set_option maxRecDepth 100000
set_option maxHeartbeats 2000000
namespace K20
open PySem PySem.Spec L2 Wy RZ
section
variable {P : Program} {w : World} {K : PySem.W.Frag} {mg : Str → Option Value} {base : Heap}
def SH (Z : Exs P K mg) (F : Fs K mg) (K' : PySem.W.Frag) : Addr → Sp → Prop := fun f sp => (f = F.f_unknowns_of ∧ sp = spOf Z K' 0 RNums) ∨ (f = F.f_plain_type ∧ sp = spPlain Z K') ∨ (f = F.f_plain_types ∧ sp = spPlainL Z K')
theorem held (F : Fs K mg) (T : Txt K mg) (Z : Exs P K mg) : ∀ f sp, SH Z F K f sp → HeldX P w K mg base 13 f sp := by
  rintro f sp (⟨rfl, rfl⟩ | ⟨rfl, rfl⟩ | ⟨rfl, rfl⟩)
  · exact ⟨_, _, (ok_unknowns_of F T Z).mono (by decide), F.d_unknowns_of.fn.kp, F.d_unknowns_of.fn.bindsN fun _ _ _ _ _ _ us hl => match us, hl with | [_], _ => rfl⟩
  · exact ⟨_, _, ok_plain_type F T Z, F.d_plain_type.fn.kp, F.d_plain_type.fn.bindsN fun _ _ _ _ _ _ us hl => match us, hl with | [_], _ => rfl⟩
  · exact ⟨_, _, ok_plain_types F T Z, F.d_plain_types.fn.kp, F.d_plain_types.fn.bindsN fun _ _ _ _ _ _ us hl => match us, hl with | [_], _ => rfl⟩
theorem ra_unknowns (Z : Exs P K mg) {d : PyData} {v : V} {H : Hp} (hno : isTyD d = false) (hs : smlD d = true) (hd : Dx K H v d) : RaisesAs Z (spOf Z K 0 RNums) [v] 0 v H := fun Q E h =>
  ⟨v, d, rfl, hd, hs, fun t e ok sz => absurd hno (by rw [e]; exact not_no ok sz), fun _ dx H' s h1 h2 => h dx H' s h1 h2⟩
theorem ra_plain (Z : Exs P K mg) {d : PyData} {v : V} {H : Hp} (hno : isTyD d = false) (hs : smlD d = true) (hd : Dx K H v d) : RaisesAs Z (spPlain Z K) [v] 0 v H := fun Q E h =>
  ⟨v, d, rfl, hd, hs, .inr ⟨hno, fun dx H' s h1 h2 => h dx H' s h1 h2⟩⟩
theorem ra_plains (Z : Exs P K mg) {d : PyData} {v : V} {H : Hp} (hno : typesB d = false) (hs : smlD d = true) (hl : ∀ ds, d = .list ds → ds.length ≤ 100000) (hd : Dx K H v d) : RaisesAs Z (spPlainL Z K) [v] 1 v H := fun Q E h =>
  ⟨v, d, rfl, hd, hs, hl, .inr ⟨hno, fun dx H' s h1 h2 => h dx H' s h1 h2⟩⟩
def spLaw (K : PySem.W.Frag) : Sp := fun vs H Q _ => ∃ (a : Addr) (ns : List Int), vs = [.ref a] ∧ SqL K H a (ns.map V.int) ∧ ns.length ≤ 63 ∧ ∀ H', Q (.bl true) H'
def SLN : List Str := ["script", "purse", "turn", "odd", "turned", "ones", "one", "told", "noted", "numbers", "due", "plain", "part"]
theorem sc_law : FnScope ["script", "purse", "turn", "odd", "turned", "ones", "one", "told", "noted", "numbers", "due", "plain", "part"] ["script"] (defScope s_law) := ⟨rfl, rfl, rfl, by decide +kernel, rfl, by decide +kernel, by decide +kernel⟩
theorem ok_law (smK : SmK K) (F : Fs K mg) (T : Txt K mg) (Z : Exs P K mg) : FnG P w K mg base CX0 17 F.f_law F.fd_law ["script"] (spLaw K) := by
  have SC := sc_law
  have G__law_purse : FnOk P w K mg base CX0 1 F.f__law_purse F.fd__law_purse ["script"] (spPurse K) := ok_purse F.d__law_purse T.t0
  have B__law_purse : Binds K F.fd__law_purse ["script"] [] := F.d__law_purse.fn.bindsN fun _ _ _ _ _ _ us hl => match us, hl with | [_], _ => rfl
  have G__law_draw : FnOk P w K mg base CX0 1 F.f__law_draw F.fd__law_draw ["purse", "many"] (spDraw) := ok_draw F.d__law_draw T.t0
  have B__law_draw : Binds K F.fd__law_draw ["purse", "many"] [] := F.d__law_draw.fn.bindsN fun _ _ _ _ _ _ us hl => match us, hl with | [_, _], _ => rfl
  have G__law_pick : FnOk P w K mg base CX0 2 F.f__law_pick F.fd__law_pick ["purse", "things"] (spPick K) := ok_pick F.d__law_pick F.d__law_draw T.t0
  have B__law_pick : Binds K F.fd__law_pick ["purse", "things"] [] := F.d__law_pick.fn.bindsN fun _ _ _ _ _ _ us hl => match us, hl with | [_, _], _ => rfl
  have G__law_turned : FnOk P w K mg base CX0 12 F.f__law_turned F.fd__law_turned ["purse", "one"] (spTurned K) := ok__law_turned F T Z
  have B__law_turned : Binds K F.fd__law_turned ["purse", "one"] [] := F.d__law_turned.fn.bindsN fun _ _ _ _ _ _ us hl => match us, hl with | [_, _], _ => rfl
  have G__law_numbers : FnOk P w K mg base CX0 3 F.f__law_numbers F.fd__law_numbers ["ones"] (spNumsL K) := ok__law_numbers F T Z
  have B__law_numbers : Binds K F.fd__law_numbers ["ones"] [] := F.d__law_numbers.fn.bindsN fun _ _ _ _ _ _ us hl => match us, hl with | [_], _ => rfl
  have G__law_plain : FnOk P w K mg base CX0 12 F.f__law_plain F.fd__law_plain ["ones"] (spPlainsL K) := ok__law_plain F T Z
  have B__law_plain : Binds K F.fd__law_plain ["ones"] [] := F.d__law_plain.fn.bindsN fun _ _ _ _ _ _ us hl => match us, hl with | [_], _ => rfl
  have G__law_same : FnOk P w K mg base CX0 15 F.f__law_same F.fd__law_same ["told", "due"] (spSame K 13) := ok_same F T 13
  have B__law_same : Binds K F.fd__law_same ["told", "due"] [] := F.d__law_same.fn.bindsN fun _ _ _ _ _ _ us hl => match us, hl with | [_, _], _ => rfl
  have G__law_spoilt : FnOk P w K mg base CX0 15 F.f__law_spoilt F.fd__law_spoilt ["told"] (spMark K 13) := ok_mark F T 13
  have B__law_spoilt : Binds K F.fd__law_spoilt ["told"] [] := F.d__law_spoilt.fn.bindsN fun _ _ _ _ _ _ us hl => match us, hl with | [_], _ => rfl
  have G__law_shuffled : FnOk P w K mg base CX0 2 F.f__law_shuffled F.fd__law_shuffled ["purse", "things"] (spShuf K) := ok_shuf F.d__law_shuffled F.d__law_draw T.t0
  have B__law_shuffled : Binds K F.fd__law_shuffled ["purse", "things"] [] := F.d__law_shuffled.fn.bindsN fun _ _ _ _ _ _ us hl => match us, hl with | [_, _], _ => rfl
  have G__law_odd_types : FnOk P w K mg base CX0 1 F.f__law_odd_types F.fd__law_odd_types ["one"] (spOdd K) := ok__law_odd_types F T Z
  have B__law_odd_types : Binds K F.fd__law_odd_types ["one"] [] := F.d__law_odd_types.fn.bindsN fun _ _ _ _ _ _ us hl => match us, hl with | [_], _ => rfl
  have G__law_unknown : FnOk P w K mg base CX0 1 F.f__law_unknown F.fd__law_unknown ["number"] (spUnkL) := ok__law_unknown F T Z
  have B__law_unknown : Binds K F.fd__law_unknown ["number"] [] := F.d__law_unknown.fn.bindsN fun _ _ _ _ _ _ us hl => match us, hl with | [_], _ => rfl
  have G_unknowns_of : FnOk P w K mg base (L2.CX P w) 7 F.f_unknowns_of F.fd_unknowns_of ["one"] (spOf Z K 0 RNums) := ok_unknowns_of F T Z
  have B_unknowns_of : Binds K F.fd_unknowns_of ["one"] [] := F.d_unknowns_of.fn.bindsN fun _ _ _ _ _ _ us hl => match us, hl with | [_], _ => rfl
  have G_plain_type : FnOk P w K mg base (L2.CX P w) 13 F.f_plain_type F.fd_plain_type ["one"] (spPlain Z K) := ok_plain_type F T Z
  have B_plain_type : Binds K F.fd_plain_type ["one"] [] := F.d_plain_type.fn.bindsN fun _ _ _ _ _ _ us hl => match us, hl with | [_], _ => rfl
  have G_plain_types : FnOk P w K mg base (L2.CX P w) 13 F.f_plain_types F.fd_plain_types ["types"] (spPlainL Z K) := ok_plain_types F T Z
  have B_plain_types : Binds K F.fd_plain_types ["types"] [] := F.d_plain_types.fn.bindsN fun _ _ _ _ _ _ us hl => match us, hl with | [_], _ => rfl
  have G3 : FnOk P w K mg base CX0 7 F.f__law_drawn_type F.fd__law_drawn_type ["purse", "many", "deep"] (spDrawn K 3) := ok_drawn F T Z 3
  have G4 : FnOk P w K mg base CX0 8 F.f__law_drawn_type F.fd__law_drawn_type ["purse", "many", "deep"] (spDrawn K 4) := ok_drawn F T Z 4
  have B__law_drawn_type : Binds K F.fd__law_drawn_type ["purse", "many", "deep"] [] := F.d__law_drawn_type.fn.bindsN fun _ _ _ _ _ _ us hl => match us, hl with | [_, _, _], _ => rfl
  have G__law_heard : FnG P w K mg base CX0 14 F.f__law_heard F.fd__law_heard ["call", "parts"] (spHeard Z K (SH Z F K)) := ok_heard smK F T Z (held F T Z)
  have B__law_heard : Binds K F.fd__law_heard ["call", "parts"] [] := F.d__law_heard.fn.bindsN fun _ _ _ _ _ _ us hl => match us, hl with | [_, _], _ => rfl
  have KB_unknowns_of_0_one : KBg F.fd_unknowns_of ["one"] ["one"] 0 _ _ := kb_of F.d_unknowns_of.fn fun _ _ _ _ _ _ us ws h1 h2 => match us, ws, h1, h2 with | [], [_], _, _ => rfl
  have KB_plain_type_0_one : KBg F.fd_plain_type ["one"] ["one"] 0 _ _ := kb_of F.d_plain_type.fn fun _ _ _ _ _ _ us ws h1 h2 => match us, ws, h1, h2 with | [], [_], _, _ => rfl
  have KB_plain_types_0_types : KBg F.fd_plain_types ["types"] ["types"] 0 _ _ := kb_of F.d_plain_types.fn fun _ _ _ _ _ _ us ws h1 h2 => match us, ws, h1, h2 with | [], [_], _, _ => rfl
  refine FnG.ok F.d_law sc_law (fun vs H Q E h => ?_) (fun cdv A outer s H vs Q E hr hgu h => ?_)
  · obtain ⟨a, ns, rfl, _⟩ := h
    rfl
  have hu := hr.units
  have hu1 := hu_of hr
  obtain ⟨a, ns, rfl, hS, hlen, q⟩ := h
  refine ⟨_, PSs.nox (pss_cons (ps_set (i := 1) SC.nd rfl (Or.inr rfl) (pe_call G__law_purse (hr.mono (by omega)) rfl F.d__law_purse.gl F.d__law_purse.fn.kp B__law_purse .nil pass0 (pa_cons (pv 0) pa_nil)))
    (pss_cons (ps_for PassesOwn.never rfl (pi_range1 rfl T.n_range (pa_cons pe_int pa_nil)) (pg_name (i := 2) SC.nd rfl (Or.inl rfl)) (pss_cons (ps_setLc (i := 5) (own := [("part", 12)]) (g := (gName 12)) (by rfl) SC.nd rfl rfl (sw_true rfl rfl rfl (by decide +kernel)) (pi_range1 rfl T.n_range (pa_cons (pe_call G__law_draw (hr.mono (by omega)) rfl F.d__law_draw.gl F.d__law_draw.fn.kp B__law_draw .nil pass0 (pa_cons (pv 1) (pa_cons pe_int pa_nil))) pa_nil)) (blkOk_by (own := [("part", 12)]) (N := ["script", "purse", "turn", "odd", "turned", "ones", "one", "told", "noted", "numbers", "due", "plain", "part"]) (sc := defScope s_law) (by decide +kernel)) (fun _ _ _ _ _ => (pg_name (i := 12) SC.nd rfl (Or.inl rfl))) (fun _ _ _ _ _ => pts_nil) (fun _ _ _ _ _ => (pe_call G3 (hr.mono (by omega)) rfl F.d__law_drawn_type.gl F.d__law_drawn_type.fn.kp B__law_drawn_type .nil pass0 (pa_cons (pv 1) (pa_cons (pe_call G__law_pick (hr.mono (by omega)) rfl F.d__law_pick.gl F.d__law_pick.fn.kp B__law_pick .nil pass0 (pa_cons (pv 1) (pa_cons (pe_lst (pa_cons pe_int (pa_cons pe_int (pa_cons pe_int pa_nil)))) pa_nil))) (pa_cons pe_int pa_nil))))))
    (pss_cons (ps_set (i := 6) SC.nd rfl (Or.inl rfl) (pe_call G__law_turned (hr.mono (by omega)) rfl F.d__law_turned.gl F.d__law_turned.fn.kp B__law_turned .nil pass0 (pa_cons (pv 1) (pa_cons (pe_call G4 (hr.mono (by omega)) rfl F.d__law_drawn_type.gl F.d__law_drawn_type.fn.kp B__law_drawn_type .nil pass0 (pa_cons (pv 1) (pa_cons pe_int (pa_cons pe_int pa_nil)))) pa_nil))))
    (pss_cons (ps_asg (pe_tup (pa_cons (pe_callB (call_repr smK hgu hu) (by rfl) T.n_repr (by decide +kernel) (pa_cons (pe_lst (pa_cons (pv 5) (pa_cons (pv 6) pa_nil))) pa_nil)) (pa_cons (pe_call G__law_numbers (hr.mono (by omega)) rfl F.d__law_numbers.gl F.d__law_numbers.fn.kp B__law_numbers .nil pass0 (pa_cons (pe_lst (pa_cons (pv 6) pa_nil)) pa_nil)) (pa_cons (pe_ix ix_list (pe_call G__law_plain (hr.mono (by omega)) rfl F.d__law_plain.gl F.d__law_plain.fn.kp B__law_plain .nil pass0 (pa_cons (pe_lst (pa_cons (pv 6) pa_nil)) pa_nil)) pe_int (fun _ _ => rfl)) (pa_cons (pe_call G__law_plain (hr.mono (by omega)) rfl F.d__law_plain.gl F.d__law_plain.fn.kp B__law_plain .nil pass0 (pa_cons (pv 5) pa_nil)) pa_nil))))) (pg_tup (by rfl) (pgs_cons (pg_name (i := 8) SC.nd rfl (Or.inl rfl)) (pgs_cons (pg_name (i := 9) SC.nd rfl (Or.inl rfl)) (pgs_cons (pg_name (i := 10) SC.nd rfl (Or.inl rfl)) (pgs_cons (pg_name (i := 11) SC.nd rfl (Or.inl rfl)) pgs_nil))))))
    (pss_cons (ps_set (i := 7) SC.nd rfl (Or.inl rfl) (pe_lst (pa_cons (pe_call G_unknowns_of (hr.mono (by omega)) rfl F.d_unknowns_of.gl F.d_unknowns_of.fn.kp B_unknowns_of .nil passL (pa_cons (pv 6) pa_nil)) (pa_cons (pe_callK0 (hb := KB_unknowns_of_0_one) G_unknowns_of (hr.mono (by omega)) rfl F.d_unknowns_of.gl F.d_unknowns_of.fn.kp passL (pk_cons (pv 6) pk_nil)) (pa_cons (pe_call G_plain_type (hr.mono (by omega)) rfl F.d_plain_type.gl F.d_plain_type.fn.kp B_plain_type .nil passL (pa_cons (pv 6) pa_nil)) (pa_cons (pe_callK0 (hb := KB_plain_type_0_one) G_plain_type (hr.mono (by omega)) rfl F.d_plain_type.gl F.d_plain_type.fn.kp passL (pk_cons (pv 6) pk_nil)) (pa_cons (pe_call G_plain_types (hr.mono (by omega)) rfl F.d_plain_types.gl F.d_plain_types.fn.kp B_plain_types .nil passL (pa_cons (pe_callTy call_list_of (by rfl) T.n_list (by decide +kernel) (pa_cons (pv 5) pa_nil)) pa_nil)) (pa_cons (pe_callK0 (hb := KB_plain_types_0_types) G_plain_types (hr.mono (by omega)) rfl F.d_plain_types.gl F.d_plain_types.fn.kp passL (pk_cons (pe_callTy call_list_of (by rfl) T.n_list (by decide +kernel) (pa_cons (pv 5) pa_nil)) pk_nil)) (pa_cons (pe_call G_plain_type (hr.mono (by omega)) rfl F.d_plain_type.gl F.d_plain_type.fn.kp B_plain_type .nil passL (pa_cons (pv 10) pa_nil)) pa_nil)))))))))
    (pss_cons (ps_if (PW.pt (pw_or (pt_not (pt_val (pe_call G__law_same (hr.mono (by omega)) rfl F.d__law_same.gl F.d__law_same.fn.kp B__law_same .nil pass0 (pa_cons (pv 7) (pa_cons (pe_lst (pa_cons (pv 9) (pa_cons (pv 9) (pa_cons (pv 10) (pa_cons (pv 10) (pa_cons (pv 11) (pa_cons (pv 11) (pa_cons (pv 10) pa_nil)))))))) pa_nil))))) (pw_or (pt_not (pt_val (pe_call G__law_spoilt (hr.mono (by omega)) rfl F.d__law_spoilt.gl F.d__law_spoilt.fn.kp B__law_spoilt .nil pass0 (pa_cons (pv 7) pa_nil)))) (pw_or1 (pt_cmpR op_ne (pe_callB (call_repr smK hgu hu) (by rfl) T.n_repr (by decide +kernel) (pa_cons (pe_lst (pa_cons (pv 5) (pa_cons (pv 6) pa_nil))) pa_nil)) (pv 8) (nomark _)))))) (pss_one (ps_ret pe_bl)) pss_nil)
    (pss_cons (ps_if (PW.pt (pw_or (pt_not (pt_val (pe_call G__law_same (hr.mono (by omega)) rfl F.d__law_same.gl F.d__law_same.fn.kp B__law_same .nil pass0 (pa_cons (pe_lst (pa_cons (pe_call G_plain_type (hr.mono (by omega)) rfl F.d_plain_type.gl F.d_plain_type.fn.kp B_plain_type .nil passL (pa_cons (pe_call G__law_turned (hr.mono (by omega)) rfl F.d__law_turned.gl F.d__law_turned.fn.kp B__law_turned .nil pass0 (pa_cons (pv 1) (pa_cons (pv 6) pa_nil))) pa_nil)) (pa_cons (pe_call G_plain_types (hr.mono (by omega)) rfl F.d_plain_types.gl F.d_plain_types.fn.kp B_plain_types .nil passL (pa_cons (pe_lst (pa_cons (pv 6) (pa_cons (pv 6) pa_nil))) pa_nil)) pa_nil))) (pa_cons (pe_lst (pa_cons (pv 10) (pa_cons (pe_lst (pa_cons (pv 10) (pa_cons (pv 10) pa_nil))) pa_nil))) pa_nil))))) (pw_or1 (pt_cmpR (op_neD hu) (pe_call G_unknowns_of (hr.mono (by omega)) rfl F.d_unknowns_of.gl F.d_unknowns_of.fn.kp B_unknowns_of .nil passL (pa_cons (pv 10) pa_nil)) (pe_listRg rfl rfl T.n_list (prg_1 rfl T.n_range (pe_callB call_len (by rfl) T.n_len (by decide +kernel) (pa_cons (pv 9) pa_nil)))) (nomark _))))) (pss_one (ps_ret pe_bl)) pss_nil)
    (pss_one (ps_for PassesOwn.never rfl (pi_list (pe_slice sl_list (pe_call G__law_shuffled (hr.mono (by omega)) rfl F.d__law_shuffled.gl F.d__law_shuffled.fn.kp B__law_shuffled .nil pass0 (pa_cons (pv 1) (pa_cons (pe_call G__law_odd_types (hr.mono (by omega)) rfl F.d__law_odd_types.gl F.d__law_odd_types.fn.kp B__law_odd_types .nil pass0 (pa_cons (pv 6) pa_nil)) pa_nil))) po_none (po_some pe_int))) (pg_name (i := 3) SC.nd rfl (Or.inl rfl)) (pss_cons (ps_if (PW.pt (pw_or (pt_cmpR (op_neS hu) (pe_callG G__law_heard (hr.mono (by omega)) hgu rfl F.d__law_heard.gl F.d__law_heard.fn.kp B__law_heard pass0 (pa_cons (pe_glob (v := .ref F.f_unknowns_of) rfl F.d_unknowns_of.gl rfl) (pa_cons (pe_lst (pa_cons (pv 3) pa_nil)) pa_nil))) (pe_lst (pa_cons pe_str (pa_cons (pe_callB (call_repr smK hgu hu) (by rfl) T.n_repr (by decide +kernel) (pa_cons (pv 3) pa_nil)) pa_nil))) (nomark _)) (pw_or1 (pt_cmpR (op_neS hu) (pe_callG G__law_heard (hr.mono (by omega)) hgu rfl F.d__law_heard.gl F.d__law_heard.fn.kp B__law_heard pass0 (pa_cons (pe_glob (v := .ref F.f_plain_type) rfl F.d_plain_type.gl rfl) (pa_cons (pe_lst (pa_cons (pv 3) pa_nil)) pa_nil))) (pe_lst (pa_cons pe_str (pa_cons (pe_callB (call_repr smK hgu hu) (by rfl) T.n_repr (by decide +kernel) (pa_cons (pv 3) pa_nil)) pa_nil))) (nomark _))))) (pss_one (ps_ret pe_bl)) pss_nil)
    (pss_one (ps_if (pt_cmpR (op_neS hu) (pe_callG G__law_heard (hr.mono (by omega)) hgu rfl F.d__law_heard.gl F.d__law_heard.fn.kp B__law_heard pass0 (pa_cons (pe_glob (v := .ref F.f_plain_types) rfl F.d_plain_types.gl rfl) (pa_cons (pe_lst (pa_cons (pe_lst (pa_cons (pv 6) (pa_cons (pv 3) pa_nil))) pa_nil)) pa_nil))) (pe_lst (pa_cons pe_str (pa_cons (pe_callB (call_repr smK hgu hu) (by rfl) T.n_repr (by decide +kernel) (pa_cons (pe_lst (pa_cons (pv 6) (pa_cons (pv 3) pa_nil))) pa_nil)) pa_nil))) (nomark _)) (pss_one (ps_ret pe_bl)) pss_nil))))))))))))
    (pss_cons (ps_for PassesOwn.never rfl (pi_list (pe_lst (pa_cons pe_non (pa_cons (pe_tup pa_nil) (pa_cons pe_dnewK (pa_cons (pe_tup (pa_cons (pe_disp (pps_cons pe_str pe_int pps_nil) (by rfl) (by rfl) (fun z => by cases z) (by decide)) pa_nil)) (pa_cons pe_str (pa_cons (pe_tup (pa_cons (pe_call G__law_unknown (hr.mono (by omega)) rfl F.d__law_unknown.gl F.d__law_unknown.fn.kp B__law_unknown .nil pass0 (pa_cons pe_int pa_nil)) pa_nil)) pa_nil)))))))) (pg_name (i := 3) SC.nd rfl (Or.inl rfl)) (pss_one (ps_if (pt_cmpR (op_neS hu) (pe_callG G__law_heard (hr.mono (by omega)) hgu rfl F.d__law_heard.gl F.d__law_heard.fn.kp B__law_heard pass0 (pa_cons (pe_glob (v := .ref F.f_plain_types) rfl F.d_plain_types.gl rfl) (pa_cons (pe_lst (pa_cons (pv 3) pa_nil)) pa_nil))) (pe_lst (pa_cons pe_str (pa_cons (pe_callB (call_repr smK hgu hu) (by rfl) T.n_repr (by decide +kernel) (pa_cons (pv 3) pa_nil)) pa_nil))) (nomark _)) (pss_one (ps_ret pe_bl)) pss_nil)))
    (pss_cons (ps_set (i := 4) SC.nd rfl (Or.inl rfl) (pe_tup (pa_cons pe_str (pa_cons pe_str (pa_cons (pe_lst (pa_cons (pe_call G__law_unknown (hr.mono (by omega)) rfl F.d__law_unknown.gl F.d__law_unknown.fn.kp B__law_unknown .nil pass0 (pa_cons pe_int pa_nil)) (pa_cons (pe_call G__law_unknown (hr.mono (by omega)) rfl F.d__law_unknown.gl F.d__law_unknown.fn.kp B__law_unknown .nil pass0 (pa_cons pe_int pa_nil)) pa_nil))) pa_nil)))))
    (pss_one (ps_ret (pe_call G__law_same (hr.mono (by omega)) rfl F.d__law_same.gl F.d__law_same.fn.kp B__law_same .nil pass0 (pa_cons (pe_lst (pa_cons (pe_call G_plain_types (hr.mono (by omega)) rfl F.d_plain_types.gl F.d_plain_types.fn.kp B_plain_types .nil passL (pa_cons (pe_lst pa_nil) pa_nil)) (pa_cons (pe_call G_unknowns_of (hr.mono (by omega)) rfl F.d_unknowns_of.gl F.d_unknowns_of.fn.kp B_unknowns_of .nil passL (pa_cons (pv 4) pa_nil)) (pa_cons (pe_call G_plain_type (hr.mono (by omega)) rfl F.d_plain_type.gl F.d_plain_type.fn.kp B_plain_type .nil passL (pa_cons (pv 4) pa_nil)) pa_nil)))) (pa_cons (pe_lst (pa_cons (pe_lst pa_nil) (pa_cons (pe_lst (pa_cons pe_int (pa_cons pe_int pa_nil))) (pa_cons (pe_tup (pa_cons pe_str (pa_cons pe_str (pa_cons (pe_lst (pa_cons (pe_call G__law_unknown (hr.mono (by omega)) rfl F.d__law_unknown.gl F.d__law_unknown.fn.kp B__law_unknown .nil pass0 (pa_cons pe_int pa_nil)) (pa_cons (pe_call G__law_unknown (hr.mono (by omega)) rfl F.d__law_unknown.gl F.d__law_unknown.fn.kp B__law_unknown .nil pass0 (pa_cons pe_int pa_nil)) pa_nil))) pa_nil)))) pa_nil)))) pa_nil))))))))), ?_⟩
  have c3 : cT 3 = 30 := rfl
  have c4 : cT 4 = 62 := rfl
  have z3 : sT 3 = 15 := rfl
  have z4 : sT 4 = 31 := rfl
  refine ⟨_, rfl, a, ns, rfl, hS, hlen, fun p lc H0 hp0 hl0 hP0 s0 => ?_⟩
  refine ⟨12, rfl, by decide, by decide, for_range (fun i σ H' => (∃ w2 w3 w4 w5 w6 w7 w8 w9 wa wb wc, σ = [some (.ref a), some (.ref p), w2, w3, w4, w5, w6, w7, w8, w9, wa, wb, wc]) ∧ Purse H' p lc (i * 300)) ⟨⟨_, _, _, _, _, _, _, _, _, _, _, rfl⟩, by rw [Nat.zero_mul]; exact hP0⟩ ?_ ?_⟩
  · rintro i σ H hi ⟨⟨w2, w3, w4, w5, w6, w7, w8, w9, wa, wb, wc, rfl⟩, hP⟩
    have hi12 : i < 12 := hi
    refine ⟨_, rfl, p, lc, 4, _, rfl, hP, by omega, by decide, by decide, fun r H1 hr0 hr1 hP1 hk1 => ?_⟩
    refine ⟨r, rfl, by omega, by omega, fun D hD => ?_⟩
    obtain ⟨⟨op1, hpo1⟩, ⟨oc1, hco1⟩, hcp⟩ := hP1.at_
    have hPD : p ≠ D := ne_of_none hpo1 hD
    have hcD : lc ≠ D := ne_of_none hco1 hD
    refine lc_range (fun j G => j ≤ 3 ∧ ∃ acc ts, G D = some (.lst acc) ∧ DxAll K (newH (upd H1 D (.lst [])) G) acc (Ty.toDs ts) ∧ Ty.oks ts = true ∧ ts.length = j ∧ Ty.deeps ts ≤ 4 ∧ Ty.sizes ts ≤ j * 15 ∧ (∀ t ∈ ts, t.size ≤ 15) ∧ (∀ n ∈ allNums ts, n < 1000000) ∧ Purse G p lc (i * 300 + 1 + j * 31) ∧ ∀ b o, b ≠ p → b ≠ D → H1 b = some o → G b = some o)
      ⟨Nat.zero_le _, [], [], upd_same, .nil, rfl, rfl, Nat.zero_le _, Nat.zero_le _, fun t z => (by cases z), fun n z => (by cases z), (hP1.ex (fun o e => by rw [upd_ne hPD]; exact e) fun o e => by rw [upd_ne hcD]; exact e).mono (by omega), fun b o _ hb e => by rw [upd_ne hb]; exact e⟩ ?_ ?_
    · rintro j G hj ⟨hj3, acc, ts, y1, y2, y3, y4, y5, y6, y6', y7, y8, y9⟩
      have hj2 : j ≤ 2 := by omega
      refine ⟨rfl, _, rfl, _, rfl, small _ (by show 3 ≤ 100000; decide), fun l hl => ?_⟩
      have sl := same_new hl (.lst [.int 2, .int 5, .int 40])
      obtain ⟨⟨opG, hpG⟩, ⟨ocG, hcG⟩, _⟩ := y8.at_
      have hpl : p ≠ l := ne_of_none hpG hl
      refine ⟨p, lc, l, _, _, rfl, y8.kp sl, by omega, SqL.of upd_same, hpl.symm, (fun z => by cases z), (by decide), fun x H2 hx hP2 hk2 => ?_⟩
      obtain ⟨m, rfl, hm0, hm1⟩ : ∃ m : Int, x = .int m ∧ 0 < m ∧ m < 1000000 := by
        simp only [List.mem_cons, List.not_mem_nil, or_false] at hx
        rcases hx with rfl | rfl | rfl
        · exact ⟨2, rfl, by decide, by decide⟩
        · exact ⟨5, rfl, by decide, by decide⟩
        · exact ⟨40, rfl, by decide, by decide⟩
      refine ⟨p, lc, m, _, rfl, hP2, by omega, hm0, hm1, fun x t G2 hx hok hdeep hsize hnum hP3 hk3 => ?_⟩
      have k12 : Kp p G G2 := (Kp.of_same sl).trans ((Kp.of_ne hk2).trans hk3)
      have occG : ∀ b, G b = none → upd H1 D (.lst []) b = none := fun b e => by
        have nD : b ≠ D := fun z => by
          rw [z, y1] at e
          cases e
        have np : b ≠ p := fun z => by
          rw [z, hpG] at e
          cases e
        rw [upd_ne nD]
        cases q2 : H1 b with
        | none => rfl
        | some o =>
          rw [y9 b o np nD q2] at e
          cases e
      have nDof : ∀ {b : Addr}, upd H1 D (.lst []) b = none → b ≠ D ∧ b ≠ p := fun {b} e => by
        refine ⟨fun z => ?_, fun z => ?_⟩
        · rw [z, upd_same] at e
          cases e
        · rw [z, upd_ne hPD, hpo1] at e
          cases e
      have occ2 : ∀ b, H2 b = none → G b = none := fun b e => by
        have np : b ≠ p := fun z => by
          obtain ⟨⟨o, h⟩, _⟩ := hP2.at_
          rw [z, h] at e
          cases e
        rw [hk2 b np] at e
        exact sl.free e
      have hal := y2.length
      rw [toDs_map, List.length_map] at hal
      refine ⟨acc, k12 _ _ hPD.symm y1, Nat.lt_of_le_of_lt (show acc.length ≤ 100 by omega) (by decide), by omega, acc ++ [x], ts ++ [t], upd_same, ?_, ?_, by rw [List.length_append, y4]; rfl, ?_, ?_, ?_, ?_, ?_, fun b o hb hbD e => ?_⟩
      · rw [toDs_append]
        refine .append (y2.mono (newH_mono (fun _ e => e) fun b o e e2 => ?_)) (.cons (hx.mono (newH_mono (fun b e => occG b (occ2 b e)) fun b o e e2 => ?_)) .nil)
        · rw [upd_ne (nDof e).1]
          exact k12 b o (nDof e).2 e2
        · rw [upd_ne (nDof (occG b (occ2 b e))).1]
          exact e2
      · rw [oks_append, y3]
        simp [Ty.oks, hok]
      · rw [deeps_append]
        simp only [Ty.deeps]
        omega
      · rw [sizes_append, Nat.succ_mul]
        simp only [Ty.sizes]
        omega
      · intro u hu
        rcases List.mem_append.mp hu with hu | hu
        · exact y6' u hu
        · rw [List.mem_singleton.mp hu]
          omega
      · intro n hn
        unfold allNums at hn
        rw [partss_append, List.filterMap_append] at hn
        rcases List.mem_append.mp hn with hn | hn
        · exact y7 n hn
        · have hn' : n ∈ allNums [t] := hn
          rw [allNums_one] at hn'
          have := hnum n hn'
          omega
      · refine (hP3.ex (fun o e => ?_) fun o e => ?_).mono (by rw [Nat.succ_mul]; omega)
        · rw [upd_ne hPD]
          exact e
        · rw [upd_ne hcD]
          exact e
      · rw [upd_ne hbD]
        exact k12 b o hb (y9 b o hb hbD e)
    rintro G ⟨hj3, acc, ts, y1, y2, y3, y4, y5, y6, y6', y7, y8, y9⟩
    have sO : Same (newH (upd H1 D (.lst [])) G) (outA G p) := fun b o e => by
      obtain ⟨e1, e2⟩ := newH_get e
      have np : b ≠ p := fun z => by
        rw [z, upd_ne hPD, hpo1] at e1
        cases e1
      rw [outA_ne np]
      exact e2
    have hOnes : Dx K (outA G p) (.ref D) (.list (Ty.toDs ts)) := .lst (SqL.of (by rw [outA_ne hPD.symm]; exact y1)) (y2.mono sO)
    have hsz : Ty.sizes ts ≤ 45 := by omega
    clear y1 y2 y9 sO
    -- one
    refine ⟨_, rfl, _, rfl, p, lc, 5, _, rfl, y8, by omega, by decide, by decide, fun x t H2 hx hok hdeep hsize hnum hP2 hk2 => ?_⟩
    have hx2 : Dx K (outA H2 p) x t.toD := hx.mono fun b o e => by
      obtain ⟨e1, e2⟩ := newH_get e
      obtain ⟨⟨o', h⟩, _⟩ := y8.at_
      rw [outA_ne (fun z => by rw [z, h] at e1; cases e1)]
      exact e2
    refine ⟨p, lc, x, t, _, rfl, hP2, by omega, hx2, hok, by omega, by omega, fun x1 t1 H3 hx1 hturn hP3 hk3 => ?_⟩
    have hOnes3 := (hOnes.mono hk2.same).mono hk3.same
    obtain ⟨rr, rfl, hinj, hbd⟩ := hturn
    have hok1 : (t.ren rr).ok = true := by rw [ok_ren]; exact hok
    have hdp1 : (t.ren rr).deep ≤ 5 := by rw [deep_ren]; exact hdeep
    have hsz1 : (t.ren rr).size ≤ 31 := by rw [size_ren]; omega
    have hnum1 : ∀ n ∈ numT (t.ren rr), n < 1000000 := fun n hn => by
      rw [numT_ren] at hn
      obtain ⟨m, hm, rfl⟩ := List.mem_map.mp hn
      exact hbd m hm
    generalize t.ren rr = t1 at hx1 hok1 hdp1 hsz1 hnum1
    rw [← outM_one] at hx1 hOnes3
    have hN3 : i * 300 + 1 + r.toNat * 31 + cT 4 + t.size ≤ i * 300 + 190 := by omega
    clear hx hx2 hnum hok hbd hinj rr
    obtain ⟨M, eM⟩ : ∃ M : Addr → Bool, M = fun b => decide (b = p) := ⟨_, rfl⟩
    rw [← eM] at hx1 hOnes3
    have o3 : Occ M H3 := by rw [eM]; exact occ_one hP3.lst
    have nOne : Nice 6200 12 t1.toD := nice_ty hok1 hnum1 hsz1 hdp1
    have nOnes : Nice 9002 11 (.list (Ty.toDs ts)) := nice_tys y3 y7 hsz y5
    have nBoth : Nice 18013 13 (.list [.list (Ty.toDs ts), t1.toD]) := nice_list (n := 9002) (m := 12) (c := 2) (fun d hd => by
      simp only [List.mem_cons, List.not_mem_nil, or_false] at hd
      rcases hd with rfl | rfl
      · exact nOnes.le (by decide) (by decide)
      · exact nOne.le (by decide) (by decide)) (Nat.le_refl _)
    have oks1 : Ty.oks [t1] = true := by simp [Ty.oks, hok1]
    have szs1 : Ty.sizes [t1] ≤ 31 := by simp only [Ty.sizes]; omega
    have dps1 : Ty.deeps [t1] ≤ 8 := by simp only [Ty.deeps]; omega
    have e1 : PyData.list [t1.toD] = .list (Ty.toDs [t1]) := rfl
    refine dr_seqG (K := K) (M := M) (F := outM M H3) (d := .tuple [.str (PyData.list [.list (Ty.toDs ts), t1.toD]).shown, numsD (numsIn [t1]), (plain1 t1).toD, .list (Ty.toDs (plainTs ts))]) (dr_tup (dra_cons (dr_repr (dr_lst (dra_cons (dr_var rfl hOnes3) (dra_cons (dr_var rfl hx1) dra_nil)) (Nat.le_of_ble_eq_true rfl)) nBoth (by decide) (by decide)) (dra_cons (dr_nums (ts := [t1]) (dr_lst (ds := [t1.toD]) (dra_cons (dr_var rfl hx1) dra_nil) (Nat.le_of_ble_eq_true rfl)) oks1 (by omega)) (dra_cons (dr_ix (k := 0) (dr_plains (ts := [t1]) (dr_lst (ds := [t1.toD]) (dra_cons (dr_var rfl hx1) dra_nil) (Nat.le_of_ble_eq_true rfl)) oks1 (by omega) dps1) rfl) (dra_cons (dr_plains (dr_var rfl hOnes3) y3 (by omega) (by omega)) dra_nil)))) (Nat.le_of_ble_eq_true rfl)) o3 same_rfl fun v H4 s4 hv => ?_
    obtain ⟨tp, xs4, rfl, hT, hxs4⟩ := hv.tup_inv
    cases hxs4 with
    | cons g1 hxs4 =>
    cases hxs4 with
    | cons g2 hxs4 =>
    cases hxs4 with
    | cons g3 hxs4 =>
    cases hxs4 with
    | cons g4 hxs4 =>
    cases hxs4
    obtain rfl := g1.str_inv
    rename_i vn vd vp
    have o4 := o3.mono s4
    refine ⟨tp, _, rfl, (by rcases hT with (hT | ⟨u, hT⟩) | hT
                            · exact .inl (.inl (outM_sub _ _ hT))
                            · exact .inl (.inr ⟨u, outM_sub _ _ hT⟩)
                            · exact .inr hT), rfl, _, _, rfl, _, _, rfl, _, _, rfl, _, _, rfl, rfl, ?_⟩
    have hx4 := hx1.mono (outM_same s4)
    have hOnes4 := hOnes3.mono (outM_same s4)
    have okP : (plain1 t1).ok = true := by unfold plain1; rw [ok_renum]; exact hok1
    have dpP : (plain1 t1).deep ≤ 5 := by unfold plain1; rw [deep_renum]; exact hdp1
    have szP : (plain1 t1).size ≤ 31 := by unfold plain1; rw [plain_eq_ren, size_ren]; exact hsz1
    have ePP : plain1 (plain1 t1) = plain1 t1 := plain_plain t1
    have szts : ∀ t ∈ ts, t.size ≤ 200 := fun t ht => Nat.le_trans (y6' t ht) (by decide)
    have hcopy := tr_copy (K := K) (M := M) (F := outM M H4) (σ := [some (.ref a), some (.ref p), some (.int (0 + (i : Int))), w3, w4, some (.ref D), some x1, w7, some (.str (PyData.list [.list (Ty.toDs ts), t1.toD]).shown), some vn, some vd, some vp, none]) (te := tVar 5) (dr_var rfl hOnes4) (by omega)
    refine tr_seq (K := K) (M := M) (F := outM M H4) (d := .list [numsD (numsIn [t1]), numsD (numsIn [t1]), (plain1 t1).toD, (plain1 t1).toD, .list (Ty.toDs (plainTs ts)), .list (Ty.toDs (plainTs ts)), (plain1 t1).toD]) (tr_lst (tra_cons (tr_unknowns Z (dr_var rfl hx4) hok1 (by omega)) (tra_cons (tr_unknownsK Z (dr_var rfl hx4) hok1 (by omega)) (tra_cons (tr_plain Z (dr_var rfl hx4) hok1 (by omega) (by omega)) (tra_cons (tr_plainK Z (dr_var rfl hx4) hok1 (by omega) (by omega)) (tra_cons (tr_plains Z hcopy y3 szts (by omega) (by omega)) (tra_cons (tr_plainsK Z hcopy y3 szts (by omega) (by omega)) (tra_cons (by rw [← ePP]; exact tr_plain Z (dr_var rfl g3) okP (by omega) (by omega)) tra_nil))))))) (Nat.le_of_ble_eq_true rfl)) o4 same_rfl fun vt S H5 s5 ht hSn => ?_
    have okTold : okd 13 (.list [numsD (numsIn [t1]), numsD (numsIn [t1]), (plain1 t1).toD, (plain1 t1).toD, .list (Ty.toDs (plainTs ts)), .list (Ty.toDs (plainTs ts)), (plain1 t1).toD]) = true := by
      have a1 : okd 12 (numsD (numsIn [t1])) = true := okd_nums (by
        have := numsIn_le [t1]
        omega)
      have a2 : okd 12 (plain1 t1).toD = true := okd_mono (by omega) (okd_ty _ okP)
      have okT : Ty.oks (plainTs ts) = true := by unfold plainTs; rw [← puts_map, oks_renum]; exact y3
      have dpT : Ty.deeps (plainTs ts) ≤ 4 := by unfold plainTs; rw [← puts_map, deeps_renum]; exact y5
      have a3 : okd 12 (.list (Ty.toDs (plainTs ts))) = true := okd_mono (by omega) (okd_tys okT (by unfold plainTs; rw [List.length_map]; omega))
      exact okd_list12 (by intro d hd; simp only [List.mem_cons, List.not_mem_nil, or_false] at hd; rcases hd with rfl | rfl | rfl | rfl | rfl | rfl | rfl <;> assumption) (by show (7 : Nat) ≤ 100000; decide) (by
        unfold endStr
        show (match some (plain1 t1).toD with | some (.str _) => true | _ => false) = false
        cases plain1 t1 <;> rfl)
    have f4 : ∀ b ∈ S, M b ≠ true ∧ outM M H4 b = none := fun b hb => ⟨o4.new (hSn b hb), by
      cases e : outM M H4 b with
      | none => rfl
      | some u =>
        have := outM_sub _ _ e
        rw [hSn b hb] at this
        cases this⟩
    have s45 := outM_same (M := M) s5
    have g2' := g2.mono s45
    have g3' := g3.mono s45
    have g4' := g4.mono s45
    refine if_told (K := K) (M := M) (F := outM M H4) (F1 := outM M H5) (v := vt) (S := S) (dt_same (dr_var rfl (Tr.data o4 s5 ht hSn)) (dr_lst (dra_cons (dr_var rfl g2') (dra_cons (dr_var rfl g2') (dra_cons (dr_var rfl g3') (dra_cons (dr_var rfl g3') (dra_cons (dr_var rfl g4') (dra_cons (dr_var rfl g4') (dra_cons (dr_var rfl g3') dra_nil))))))) (Nat.le_of_ble_eq_true rfl)) okTold) same_rfl rfl ht okTold (o4.mono s5) s45 f4 (dt_ne (dr_repr (dr_lst (dra_cons (dr_var rfl hOnes4) (dra_cons (dr_var rfl hx4) dra_nil)) (Nat.le_of_ble_eq_true rfl)) nBoth (by decide) (by decide)) (dr_var rfl (.str _))) fun H6 o6 => ?_
    -- what stands behind it
    have hP5 : Purse H5 p lc (i * 300 + 190) := (((hP3.kp s4).kp s5)).mono hN3
    have hPS : p ∉ S := fun z => (f4 p z).1 (by rw [eM]; simp)
    obtain ⟨⟨op4, hpo4⟩, ⟨oc4, hco4⟩, _⟩ := (hP3.kp s4).at_
    have hlS : lc ∉ S := fun z => by
      have := hSn lc z
      rw [hco4] at this
      cases this
    have hP6 : Purse H6 p lc (i * 300 + 190) := hP5.ex (fun o e => o6 _ _ hPS e) fun o e => o6 _ _ hlS e
    have s46 : Same (outM M H4) (outM M H6) := fun b u e => by
      have e1 := s45 _ _ e
      unfold outM at e1 ⊢
      split at e1
      · cases e1
      · rename_i z
        rw [if_neg z]
        exact o6 b u (fun y => by rw [(f4 b y).2] at e; cases e) e1
    have hx6 := hx4.mono s46
    have g2'' := g2.mono s46
    have g3'' := g3.mono s46
    have oM : ∀ {G : Hp} {n : Nat}, Purse G p lc n → Occ M G := fun h => by rw [eM]; exact occ_one h.lst
    clear hOnes4 hOnes3 hOnes g4 g4' ht hSn f4 okTold hPS hlS
    refine if_moved (P := fun v H' => Kp p H6 H' ∧ Purse H' p lc (i * 300 + 230) ∧ Dx K (outM M H') v (plain1 t1).toD) (fun Qv hq => ?_) fun v7 H7 ⟨k7, hP7, h7⟩ => ?_
    · refine ⟨_, rfl, _, rfl, p, lc, x1, t1, _, rfl, hP6, by omega, (by rw [eM, outM_one] at hx6; exact hx6), hok1, by omega, by omega, fun x2 t2 H7 hx7 hturn hP7 hk7 => ?_⟩
      obtain ⟨r2, rfl, hinj, hbd⟩ := hturn
      have hsz2 : (t1.ren r2).size ≤ 31 := by rw [size_ren]; exact hsz1
      have hdp2 : (t1.ren r2).deep ≤ 5 := by rw [deep_ren]; exact hdp1
      have hok2 : (t1.ren r2).ok = true := by rw [ok_ren]; exact hok1
      refine ⟨x2, (t1.ren r2).toD, rfl, hx7.mono outA_sub, sml_ty _ hok2, .inl ⟨_, rfl, hok2, by omega, by omega, fun x3 S3 H8 s8 hx8 hS8 => ?_⟩⟩
      refine hq x3 H8 ⟨hk7.trans (Kp.of_same s8), (hP7.kp s8).mono (by omega), ?_⟩
      have e : plain1 (t1.ren r2) = plain1 t1 := plain_ren hinj
      rw [e] at hx8
      exact Tr.data (oM hP7) s8 hx8 hS8
    have s67 : Same (outM M H6) (outM M H7) := by rw [eM, outM_one, outM_one]; exact k7.same
    have hx7 := hx6.mono s67
    have h27 := g2''.mono s67
    have h37 := g3''.mono s67
    have eT : plainTs [t1, t1] = [plain1 t1, plain1 t1] := by
      unfold plainTs
      rw [nums_twice]
      rfl
    have eT2 : PyData.list [(plain1 t1).toD, (plain1 t1).toD] = .list (Ty.toDs (plainTs [t1, t1])) := by
      rw [eT]
      rfl
    have eN : numsIn [plain1 t1] = List.range (numsIn [t1]).length := plain_nums t1
    have okSame : okd 13 (.list [(plain1 t1).toD, .list (Ty.toDs [plain1 t1, plain1 t1])]) = true := by
      have a2 : okd 12 (plain1 t1).toD = true := okd_mono (by omega) (okd_ty _ okP)
      have a3 : okd 12 (.list (Ty.toDs [plain1 t1, plain1 t1])) = true := okd_mono (by simp only [Ty.deeps]; omega) (okd_tys (by simp [Ty.oks, okP]) (by show (2 : Nat) ≤ 100000; decide))
      exact okd_list12 (by intro d hd; simp only [List.mem_cons, List.not_mem_nil, or_false] at hd; rcases hd with rfl | rfl <;> assumption) (by show (2 : Nat) ≤ 100000; decide) rfl
    refine dt_if (K := K) (M := M) (F := outM M H7) (dt_or (dt_not (dt_same (dr_lst (dra_cons (dr_c h7) (dra_cons (d := PyData.list [(plain1 t1).toD, (plain1 t1).toD]) (by rw [eT2]; exact (tr_plains Z (ts := [t1, t1]) (dr_lst (ds := [t1.toD, t1.toD]) (dra_cons (dr_var rfl hx7) (dra_cons (dr_var rfl hx7) dra_nil)) (Nat.le_of_ble_eq_true rfl)) (by simp [Ty.oks, hok1]) (fun t ht => by simp only [List.mem_cons, List.not_mem_nil, or_false, or_self] at ht; rw [ht]; omega) (by simp only [Ty.sizes]; omega) (by simp only [Ty.deeps]; omega)).dr) dra_nil)) (Nat.le_of_ble_eq_true rfl)) (dr_lst (dra_cons (dr_var rfl h37) (dra_cons (dr_lst (ds := [(plain1 t1).toD, (plain1 t1).toD]) (dra_cons (dr_var rfl h37) (dra_cons (dr_var rfl h37) dra_nil)) (Nat.le_of_ble_eq_true rfl)) dra_nil)) (Nat.le_of_ble_eq_true rfl)) okSame))
      (dt_neN (ns := List.range (numsIn [t1]).length) (by rw [← eN]; exact (tr_unknowns Z (dr_var rfl h37) okP (by omega)).dr) (by
        rw [show (numsIn [t1]).length = ((numsIn [t1]).map fun (n : Nat) => PyData.int (n : Int)).length from (List.length_map ..).symm]
        exact dr_rangeLen (dr_var rfl h27) (by rw [List.length_map]; have := numsIn_le [t1]; omega)))) (oM hP7) same_rfl fun H8 s8 => ?_
    -- the odd ones
    have hP8 := hP7.kp s8
    have hx8 := hx7.mono (outM_same s8)
    refine ⟨_, rfl, _, rfl, x1, t1.toD, M, rfl, oM hP8, hx8, fun po xo H9 s9 hpo0 hpo1 hodd => ?_⟩
    have hP9 := hP8.kp s9
    obtain ⟨⟨op8, hop8⟩, ⟨oc8, hoc8⟩, _⟩ := hP8.at_
    have npo : po ≠ p := fun z => by
      rw [z, hop8] at hpo0
      cases hpo0
    have hol := hodd.length
    have hol2 : (odds t1.toD).length = 28 := rfl
    refine ⟨p, lc, po, xo, _, rfl, hP9, by omega, SqL.of hpo1, npo, by omega, fun ys ro H10 hperm hro0 hro1 hP10 hk10 => ?_⟩
    refine ⟨5, rfl, ro, ys, rfl, SqL.of hro1, fun lo hlo => ?_⟩
    have s11 := same_new hlo (.lst (cutV ys none (some 5)))
    have hP11 := hP10.kp s11
    have k911 : Kp p H9 (upd H10 lo (.lst (cutV ys none (some 5)))) := Kp.trans (p := p) hk10 (Kp.of_same s11)
    have s911 : Same (outM M H9) (outM M (upd H10 lo (.lst (cutV ys none (some 5))))) := by rw [eM, outM_one, outM_one]; exact k911.same
    have hlo2 : upd H10 lo (.lst (cutV ys none (some 5))) lo = some (.lst (cutV ys none (some 5))) := upd_same
    have hx11 := (hx8.mono (outM_same s9)).mono s911
    have hodd11 := hodd.mono s911
    generalize upd H10 lo _ = H11 at s11 hP11 k911 s911 hlo2 hx11 hodd11
    refine ⟨lo, rfl, ⟨_, SqL.of hlo2⟩, for_list (xs := cutV ys none (some 5)) (fun j σ H' => (∃ w3', σ = [some (.ref a), some (.ref p), some (.int (0 + (i : Int))), w3', w4, some (.ref D), some x1, some vt, some (.str (PyData.list [.list (Ty.toDs ts), t1.toD]).shown), some vn, some vd, some vp, wc]) ∧ Same H11 H') ⟨⟨_, rfl⟩, same_refl⟩ ?_ ?_ ?_⟩
    · rintro j σ H' _ ⟨_, z⟩
      exact SqL.of (z _ _ hlo2)
    · rintro j y σ H12 hj ⟨⟨w3', rfl⟩, s12⟩
      have hym : y ∈ ys := by
        have := List.mem_of_getElem? hj
        unfold cutV at this
        exact List.mem_of_mem_drop (List.mem_of_mem_take this)
      obtain ⟨k, hk⟩ := List.getElem?_of_mem (hperm.mem_iff.mp hym)
      obtain ⟨d, hd1, hyd⟩ := hodd11.get hk
      have hdm := List.mem_of_getElem? hd1
      obtain ⟨hno, hsm, hni⟩ := odds_ok hok1 nOne d hdm
      have s12M := outM_same (M := M) s12
      have hy12 := hyd.mono s12M
      have hx12 := hx11.mono s12M
      have oc12 := oM (hP11.kp s12)
      refine dt_if (K := K) (M := M) (F := outM M H12) (dt_or (fun H Qb o s q => heard_ne Z (S := SH Z F K) (f := F.f_unknowns_of) (sp := spOf Z K 0 RNums) (wd := "type") (i := 0) (.inl ⟨rfl, rfl⟩) (by decide) rfl o s (dr_lst (dra_cons (dr_var rfl hy12) dra_nil) (Nat.le_of_ble_eq_true rfl)) (dr_lst (dra_cons dr_str (dra_cons (dr_repr (dr_var rfl hy12) hni (by decide) (by decide)) dra_nil)) (Nat.le_of_ble_eq_true rfl)) hni (by decide) (by decide) (fun v H' hv => ra_unknowns Z hno hsm hv) q)
        (fun H Qb o s q => heard_ne Z (S := SH Z F K) (f := F.f_plain_type) (sp := spPlain Z K) (wd := "type") (i := 0) (.inr (.inl ⟨rfl, rfl⟩)) (by decide) rfl o s (dr_lst (dra_cons (dr_var rfl hy12) dra_nil) (Nat.le_of_ble_eq_true rfl)) (dr_lst (dra_cons dr_str (dra_cons (dr_repr (dr_var rfl hy12) hni (by decide) (by decide)) dra_nil)) (Nat.le_of_ble_eq_true rfl)) hni (by decide) (by decide) (fun v H' hv => ra_plain Z hno hsm hv) q)) oc12 same_rfl fun H13 s13 => ?_
      have s13M := outM_same (M := M) s13
      have hy13 := hy12.mono s13M
      have hx13 := hx12.mono s13M
      have nPair : Nice 160009 21 (.list [t1.toD, d]) := nice_list (n := 80000) (m := 20) (c := 2) (fun e he => by
        simp only [List.mem_cons, List.not_mem_nil, or_false] at he
        rcases he with rfl | rfl
        · exact nOne.le (by decide) (by decide)
        · exact hni) (Nat.le_refl _)
      have hnoP : typesB (.list [t1.toD, d]) = false := by
        show ([t1.toD, d].all isTyD) = false
        simp [hno]
      have hsmP : smlD (.list [t1.toD, d]) = true := by
        show (smlD t1.toD && (smlD d && true)) = true
        rw [sml_ty _ hok1, hsm]
        rfl
      refine dt_if1 (K := K) (M := M) (F := outM M H13) (fun H Qb o s q => heard_ne Z (S := SH Z F K) (f := F.f_plain_types) (sp := spPlainL Z K) (wd := "types") (i := 1) (.inr (.inr ⟨rfl, rfl⟩)) (by decide) rfl o s (dr_lst (ds := [.list [t1.toD, d]]) (dra_cons (dr_lst (dra_cons (dr_var rfl hx13) (dra_cons (dr_var rfl hy13) dra_nil)) (Nat.le_of_ble_eq_true rfl)) dra_nil) (Nat.le_of_ble_eq_true rfl)) (dr_lst (dra_cons dr_str (dra_cons (dr_repr (dr_lst (dra_cons (dr_var rfl hx13) (dra_cons (dr_var rfl hy13) dra_nil)) (Nat.le_of_ble_eq_true rfl)) nPair (by decide) (by decide)) dra_nil)) (Nat.le_of_ble_eq_true rfl)) nPair (by decide) (by decide) (fun v H' hv => ra_plains Z hnoP hsmP (fun ds e => by rw [← PyData.list.inj e]; exact Nat.le_of_ble_eq_true rfl) hv) q) (oc12.mono s13) same_rfl fun H14 s14 => ?_
      exact ⟨⟨_, rfl⟩, s12.trans (s13.trans s14)⟩
    · rintro σ H' ⟨⟨w3', rfl⟩, s12⟩
      exact ⟨⟨_, _, _, _, _, _, _, _, _, _, _, rfl⟩, (hP11.kp s12).mono (by omega)⟩
  · rintro σ H ⟨⟨w2, w3, w4, w5, w6, w7, w8, w9, wa, wb, wc, rfl⟩, hP⟩
    have oc : ∀ {G : Hp}, Occ (fun _ => false) G := fun b hb => by cases hb
    refine dr_for (K := K) (M := fun _ => false) (F := outM (fun _ => false) H) (ds := [.none, .tuple [], .dict [], .tuple [.dict [(.str "a", .int 1)]], .str "types", .tuple [.tuple [.str "unknown", .int 0]]]) (fun σ' => ∃ w3, σ' = [some (.ref a), some (.ref p), w2, w3, w4, w5, w6, w7, w8, w9, wa, wb, wc]) (dr_lst (dra_cons dr_non (dra_cons (dr_tup dra_nil (by decide)) (dra_cons dr_dict (dra_cons (dr_tup (dra_cons dr_disp1 dra_nil) (by decide)) (dra_cons dr_str (dra_cons (dr_tup (dra_cons dr_unk dra_nil) (by decide)) dra_nil)))))) (by decide)) oc same_rfl ⟨_, rfl⟩ (fun σ' v ⟨w, e⟩ => ⟨some v, by rw [e]; rfl⟩) ?_ ?_
    · rintro v d σ' H' hd ⟨w3', rfl⟩ s1 hv D' e hq
      have hall : ∀ d ∈ ([.none, .tuple [], .dict [], .tuple [.dict [(.str "a", .int 1)]], .str "types", .tuple [.tuple [.str "unknown", .int 0]]] : List PyData), typesB d = false ∧ smlD d = true ∧ d.showable = true ∧ d.shown.length ≤ 1000 ∧ d.depth ≤ 20 := by decide +kernel
      obtain ⟨h1, h2, h3⟩ := hall d hd
      have hl : ∀ ds, d = .list ds → ds.length ≤ 100000 := fun ds z => by
        subst z
        simp at hd
      have nd : Nice 1000 20 d := h3
      refine dt_if1 (K := K) (M := fun _ => false) (F := outM (fun _ => false) H') (fun H Qb o s q => heard_ne Z (S := SH Z F K) (f := F.f_plain_types) (sp := spPlainL Z K) (wd := "types") (i := 1) (.inr (.inr ⟨rfl, rfl⟩)) (by decide) rfl o s (dr_lst (dra_cons (dr_var rfl hv) dra_nil) (Nat.le_of_ble_eq_true rfl)) (dr_lst (dra_cons dr_str (dra_cons (dr_repr (dr_var rfl hv) nd (by decide) (by decide)) dra_nil)) (Nat.le_of_ble_eq_true rfl)) nd (by decide) (by decide) (fun v H' hv => ra_plains Z h1 h2 hl hv) q) oc same_rfl hq
    rintro σ' H1 ⟨w3', rfl⟩ s1
    refine dr_seq (K := K) (M := fun _ => false) (F := outM (fun _ => false) H1) (d := .tuple [.str "kind", .str "pair", .list [.tuple [.str "unknown", .int 1], .tuple [.str "unknown", .int 0]]]) (dr_tup (dra_cons dr_str (dra_cons dr_str (dra_cons (dr_lst (dra_cons dr_unk (dra_cons dr_unk dra_nil)) (by decide)) dra_nil))) (by decide)) oc same_rfl fun vt H2 s2 hvt => ?_
    have eT : PyData.tuple [.str "kind", .str "pair", .list [.tuple [.str "unknown", .int 1], .tuple [.str "unknown", .int 0]]] = (Ty.kind "pair" [.unk 1, .unk 0]).toD := rfl
    rw [eT] at hvt
    have ok0 : (Ty.kind "pair" [.unk 1, .unk 0]).ok = true := by decide +kernel
    have en : numsIn [Ty.kind "pair" [.unk 1, .unk 0]] = [1, 0] := by decide +kernel
    have ep : plain1 (Ty.kind "pair" [.unk 1, .unk 0]) = .kind "pair" [.unk 0, .unk 1] := by
      unfold plain1
      rw [en]
      rfl
    have e0 : plainTs [] = [] := rfl
    have d1 := (tr_plains (K := K) (M := fun _ => false) (σ := [some (.ref a), some (.ref p), w2, w3', some vt, w5, w6, w7, w8, w9, wa, wb, wc]) (F := outM (fun _ => false) H2) Z (ts := []) (dr_lst (ds := []) dra_nil (by decide)) rfl (fun t h => by cases h) (by decide) (by decide)).dr
    have d2 := (tr_unknowns (K := K) (M := fun _ => false) (σ := [some (.ref a), some (.ref p), w2, w3', some vt, w5, w6, w7, w8, w9, wa, wb, wc]) (te := tVar 4) (F := outM (fun _ => false) H2) Z (dr_var rfl hvt) ok0 (by decide)).dr
    have d3 := (tr_plain (K := K) (M := fun _ => false) (σ := [some (.ref a), some (.ref p), w2, w3', some vt, w5, w6, w7, w8, w9, wa, wb, wc]) (te := tVar 4) (F := outM (fun _ => false) H2) Z (dr_var rfl hvt) ok0 (by decide) (by decide)).dr
    rw [e0] at d1
    rw [en] at d2
    rw [ep] at d3
    refine same_ret (K := K) (M := fun _ => false) (F := outM (fun _ => false) H2) (n := 13) (dr_lst (dra_cons d1 (dra_cons d2 (dra_cons d3 dra_nil))) (Nat.le_of_ble_eq_true rfl)) (dr_lst (dra_cons (dr_lst dra_nil (by decide)) (dra_cons (dr_lst (dra_cons dr_int (dra_cons dr_int dra_nil)) (Nat.le_of_ble_eq_true rfl)) (dra_cons (dr_tup (dra_cons dr_str (dra_cons dr_str (dra_cons (dr_lst (dra_cons dr_unk (dra_cons dr_unk dra_nil)) (Nat.le_of_ble_eq_true rfl)) dra_nil))) (Nat.le_of_ble_eq_true rfl)) dra_nil))) (Nat.le_of_ble_eq_true rfl)) (by decide +kernel) oc same_rfl q
end
end K20

set_option Elab.async false
set_option linter.all false
set_option maxRecDepth 100000
set_option maxHeartbeats 0
namespace K20
open PySem PySem.Spec L2 Wy PySem.W
def nms : List Str := ["InvalidType", "InvalidTypes", "TooMany"]
abbrev sW : Stmt := (clsBody (top 1)).getD 0 (.Pass ⟨0, 0, 0, 0⟩)
def c_ (K : Frag) (i : Nat) : Addr := He.ga K (nms.getD i "")
def wE_ (K : Frag) : Addr := He.ga K "WhyError"
def fW_ (K : Frag) : Addr := He.ma K (c_ K 0) "__init__"
def ch1 (K : Frag) : Bool := (List.range 3).all fun i => isB K (c_ K i) && (decide (findIn K (.ref (c_ K i)) "value" = some none) && (decide (exmOne K (.ref (c_ K i)) (.ref (wE_ K)) = some true) && (decide (subIn K (.ref (c_ K i)) (.type "BaseException") = some true) && (decide (typeIn K (.ref (c_ K i)) = some (.type "type")) && (List.range 3).all fun j => decide (PySem.W.kitOne K (.ref (c_ K i)) (.ref (c_ K j)) = some (i == j))))))
def ch2 (K : Frag) : Bool := (List.range 3).all fun i => wcB K (wE_ K) (c_ K i) && mkB K (c_ K i) (fW_ K)
def ch3 (K : Frag) : Bool := He.tupB K "CLOSED" [.str "choice", .str "show", .str "fun", .str "let", .str "rec", .str "case", .str "pair", .str "num"] && He.tupB K "HOUSE_KINDS" [.str "num", .str "flag", .str "fun", .str "pair"]
def dDef (x : Str) (i : Nat) : He.DefD := ⟨(x, none), x, x, defArgs (top i), defBody (top i), defScope (top i), [], []⟩
def fns : List He.DefD := [dDef "is_whole" 8, dDef "is_count" 9, dDef "is_word" 10, dDef "is_name" 11, dDef "is_kind_name" 16, dDef "is_head" 17, dDef "parts_in" 18, dDef "is_type" 19, dDef "check_type" 20, dDef "all_parts" 21, dDef "numbers_in" 22, dDef "unknowns_of" 23, dDef "put_there" 24, dDef "apart" 25, dDef "plain_there" 26, dDef "plain_type" 27, dDef "plain_types" 28, dDef "_law_purse" 30, dDef "_law_draw" 31, dDef "_law_pick" 32, dDef "_law_shuffled" 33, dDef "_law_same" 34, dDef "_law_spoilt" 35, dDef "_law_kind" 36, dDef "_law_unknown" 37, dDef "_law_sides" 38, dDef "_law_parts" 39, dDef "_law_drawn_type" 40, dDef "_law_put" 41, dDef "_law_numbers" 42, dDef "_law_plain" 43, dDef "_law_odd_types" 44, dDef "_law_heard" 45, dDef "_law_turned" 46, dDef "law" 47]
def fas : List He.Fa := [.glo "is_whole", .glo "is_count", .glo "is_word", .glo "is_name", .glo "is_kind_name", .glo "is_head", .glo "parts_in", .glo "is_type", .glo "check_type", .glo "all_parts", .glo "numbers_in", .glo "unknowns_of", .glo "put_there", .glo "apart", .glo "plain_there", .glo "plain_type", .glo "plain_types", .glo "_law_purse", .glo "_law_draw", .glo "_law_pick", .glo "_law_shuffled", .glo "_law_same", .glo "_law_spoilt", .glo "_law_kind", .glo "_law_unknown", .glo "_law_sides", .glo "_law_parts", .glo "_law_drawn_type", .glo "_law_put", .glo "_law_numbers", .glo "_law_plain", .glo "_law_odd_types", .glo "_law_heard", .glo "_law_turned", .glo "law", .glo "WhyError", .glo "InvalidType", .glo "InvalidTypes", .glo "TooMany", .free "isinstance", .free "int", .free "bool", .free "str", .free "list", .free "tuple", .free "dict", .free "len", .free "all", .free "range", .free "repr", .free "zip", .free "enumerate", .free "super", .int "MOST_LETTERS" 8, .int "MOST_PARTS" 200, .int "MOST_SIDES" 3, .glo "CLOSED", .glo "HOUSE_KINDS"]
abbrev R : PySem.W.OpenRow := PySem.W.OpenLaw.row PySem.Challenge.rw_whytypes_k20_whole_unknowns_told_plain
def file_ : Str := R.prog.main.file
abbrev AlW : Type := Bool × List He.FnW × List FnS
def obsW (K : Frag) : AlW := ((fas.all fun f => f.ok K) && ((fns.all fun d => d.ok K) && (smB K && (ch1 K && (ch2 K && (ch3 K && supB file_ K (wE_ K) (fW_ K)))))), fns.map fun d => He.fnW K d.at_, [fnS K (fW_ K)])
def valW : AlW := (true, fns.map He.DefD.val, [vS "WhyError.__init__" sW])
def kf (g : Addr → Option Obj) : Frag := He.frG g (sysModules :: cStatics :: He.asD g 4)
def hk : PySem.W.Hook where
  α := AlW
  obs := fun s => obsW (kf s.heap.get?)
  val := fun _ => valW
  says := fun _ h => ∃ K : Frag, K.In h ∧ obsW K = valW
  of := fun _ _ e => ⟨_, He.frG_in, e⟩
  keeps := fun _ _ _ ⟨K, hK, c⟩ k => ⟨K, PySem.W.Frag.In.keeps hK k, c⟩
def ob (s : PySem.W.SharedT) : AlW := obsW (kf (HandSHeadRun.getT s))
theorem ob_eq (s : PySem.W.SharedT) : ob s = hk.obs s.abs := by
  have e : HandSHeadRun.getT s = s.abs.heap.get? := funext (HandSHeadRun.getT_eq s)
  show obsW (kf (HandSHeadRun.getT s)) = obsW (kf s.abs.heap.get?)
  rw [e]
def loose : List Str := (["WhyError", "InvalidType", "InvalidTypes", "TooMany", "CLOSED", "MOST_LETTERS", "is_whole", "is_count", "is_word", "is_name", "MOST_PARTS", "MOST_SIDES", "HOUSE_KINDS", "is_kind_name", "is_head", "parts_in", "is_type", "check_type", "all_parts", "numbers_in", "unknowns_of", "put_there", "apart", "plain_there", "plain_type"] : List Str) ++ (["plain_types", "_law_purse", "_law_draw", "_law_pick", "_law_shuffled", "_law_same", "_law_spoilt", "_law_kind", "_law_unknown", "_law_sides", "_law_parts", "_law_drawn_type", "_law_put", "_law_numbers", "_law_plain", "_law_odd_types", "_law_heard", "_law_turned"] : List Str)
theorem run (w : World) : HandSHeadRun.RunEq R (PySem.W.view R.prog [47]) hk ob 6000 loose w := by
  intro os
  kernel_rfl
theorem scW : defScope sW = scSup ps2 := rfl
theorem why_of {P : Program} {K : Frag} (e : fnS K (fW_ K) = vS "WhyError.__init__" sW) (h : supB P.main.file K (wE_ K) (fW_ K) = true) (htop : (P.main.scope.names.lookup ("super" : Str)).isSome = false) :
    ∃ dW, WhyD P K (wE_ K) (fW_ K) dW ∧ (∀ (us : List Value), us.length + 1 = (["self", "value"] : List Str).length → ∀ s' u, BindsTo s' dW ⟨u :: us, []⟩ ((["self", "value"] : List Str).zip (u :: us))) := by
  obtain ⟨p0, p1, p2, p3, p4, p5, p6, p7, p8, p9, hb, hln⟩ : ∃ p0 p1 p2 p3 p4 p5 p6 p7 p8 p9 : Pos, defBody sW = [.Expr (exSup (.Name "value" p3) p0 p1 p2 p4) p5, stFld "value" "value" p6 p7 p8 p9] ∧ (p2.endLine == p4.line) = true := ⟨_, _, _, _, _, _, _, _, _, _, rfl, rfl⟩
  unfold vS at e
  rw [scW, hb] at e
  obtain ⟨cc, cda, kV, doc, pm, ct, an, S, hc⟩ := supB_ok (P := P) (ar := { arg := "self", annotation := none, pos := ((defArgs sW).args.head?.map (·.pos)).getD ⟨0, 0, 0, 0⟩ }) e h rfl htop
  refine ⟨_, ⟨⟨cc, cda, _, _, kV, doc, pm, ct, an, _, p0, p1, p2, p3, p4, p5, p6, p7, p8, p9, rfl, S, rfl, hc, hln, fun _ => rfl⟩, fun s u v => .of_eq rfl⟩, fun us hl s' u => ?_⟩
  match us, hl with
  | [v], _ => exact .of_eq rfl
theorem df_of {K : Frag} {h : Heap} {mg : Str → Option Value} (X : K.In h) (G : h.Ns mainGlobals mg) {x : Str} {i : Nat} (hg : (He.Fa.glo x).ok K = true) (e : He.fnW K (dDef x i).at_ = (dDef x i).val) (c : (dDef x i).ok K = true) : ∃ fd, Df K mg x (top i) (He.ga K x) fd := by
  obtain ⟨fd, F⟩ := He.DefD.funD e c
  exact ⟨fd, F, He.glo_ok X G hg⟩
theorem facts {P : Program} {w : World} {K : Frag} {h : Heap} {mg : Str → Option Value} {f : Addr} (hfile : P.main.file = R.prog.main.file) (htop : (P.main.scope.names.lookup ("super" : Str)).isSome = false) (X : K.In h) (G : h.Ns mainGlobals mg) (hfa : mg ("law" : Str) = some (.ref f)) (cc : obsW K = valW) :
    ∃ fd : FuncData, (∀ (s : Shared) (v : Value), BindsTo s fd ⟨[v], []⟩ [("script", v)]) ∧ ∀ base : Heap, K.In base → base.Ns mainGlobals mg → FnG P w K mg base CX0 17 f fd ["script"] (spLaw K) := by
  have cb : ((fas.all fun f => f.ok K) && ((fns.all fun d => d.ok K) && (smB K && (ch1 K && (ch2 K && (ch3 K && supB file_ K (wE_ K) (fW_ K))))))) = true := congrArg (fun z : AlW => z.1) cc
  have cf : fns.map (fun d => He.fnW K d.at_) = fns.map He.DefD.val := congrArg (fun z : AlW => z.2.1) cc
  have cs : ([fnS K (fW_ K)] : List FnS) = [vS "WhyError.__init__" sW] := congrArg (fun z : AlW => z.2.2) cc
  obtain ⟨b1, cb⟩ := ba cb
  obtain ⟨b2, cb⟩ := ba cb
  obtain ⟨b3, cb⟩ := ba cb
  obtain ⟨b4, cb⟩ := ba cb
  obtain ⟨b5, cb⟩ := ba cb
  obtain ⟨b6, b7⟩ := ba cb
  have fa : ∀ (i : Nat) {z : He.Fa}, fas[i]? = some z → z.ok K = true := fun i {z} e => List.all_eq_true.mp b1 z (List.mem_of_getElem? e)
  have dok : ∀ (i : Nat) {d : He.DefD}, fns[i]? = some d → d.ok K = true ∧ He.fnW K d.at_ = d.val := fun i {d} e => by
    refine ⟨List.all_eq_true.mp b2 d (List.mem_of_getElem? e), ?_⟩
    have e2 : (fns.map fun d => He.fnW K d.at_)[i]? = (fns.map He.DefD.val)[i]? := by rw [cf]
    rw [List.getElem?_map, List.getElem?_map, e] at e2
    exact Option.some.inj e2
  have df : ∀ (i : Nat) {x : Str} {j : Nat}, fas[i]? = some (He.Fa.glo x) → fns[i]? = some (dDef x j) → ∃ fd, Df K mg x (top j) (He.ga K x) fd := fun i {x j} e1 e2 => df_of X G (fa i e1) (dok i e2).2 (dok i e2).1
  obtain ⟨d0, D0⟩ := df 0 (x := "is_whole") (j := 8) rfl rfl
  obtain ⟨d1, D1⟩ := df 1 (x := "is_count") (j := 9) rfl rfl
  obtain ⟨d2, D2⟩ := df 2 (x := "is_word") (j := 10) rfl rfl
  obtain ⟨d3, D3⟩ := df 3 (x := "is_name") (j := 11) rfl rfl
  obtain ⟨d4, D4⟩ := df 4 (x := "is_kind_name") (j := 16) rfl rfl
  obtain ⟨d5, D5⟩ := df 5 (x := "is_head") (j := 17) rfl rfl
  obtain ⟨d6, D6⟩ := df 6 (x := "parts_in") (j := 18) rfl rfl
  obtain ⟨d7, D7⟩ := df 7 (x := "is_type") (j := 19) rfl rfl
  obtain ⟨d8, D8⟩ := df 8 (x := "check_type") (j := 20) rfl rfl
  obtain ⟨d9, D9⟩ := df 9 (x := "all_parts") (j := 21) rfl rfl
  obtain ⟨d10, D10⟩ := df 10 (x := "numbers_in") (j := 22) rfl rfl
  obtain ⟨d11, D11⟩ := df 11 (x := "unknowns_of") (j := 23) rfl rfl
  obtain ⟨d12, D12⟩ := df 12 (x := "put_there") (j := 24) rfl rfl
  obtain ⟨d13, D13⟩ := df 13 (x := "apart") (j := 25) rfl rfl
  obtain ⟨d14, D14⟩ := df 14 (x := "plain_there") (j := 26) rfl rfl
  obtain ⟨d15, D15⟩ := df 15 (x := "plain_type") (j := 27) rfl rfl
  obtain ⟨d16, D16⟩ := df 16 (x := "plain_types") (j := 28) rfl rfl
  obtain ⟨d17, D17⟩ := df 17 (x := "_law_purse") (j := 30) rfl rfl
  obtain ⟨d18, D18⟩ := df 18 (x := "_law_draw") (j := 31) rfl rfl
  obtain ⟨d19, D19⟩ := df 19 (x := "_law_pick") (j := 32) rfl rfl
  obtain ⟨d20, D20⟩ := df 20 (x := "_law_shuffled") (j := 33) rfl rfl
  obtain ⟨d21, D21⟩ := df 21 (x := "_law_same") (j := 34) rfl rfl
  obtain ⟨d22, D22⟩ := df 22 (x := "_law_spoilt") (j := 35) rfl rfl
  obtain ⟨d23, D23⟩ := df 23 (x := "_law_kind") (j := 36) rfl rfl
  obtain ⟨d24, D24⟩ := df 24 (x := "_law_unknown") (j := 37) rfl rfl
  obtain ⟨d25, D25⟩ := df 25 (x := "_law_sides") (j := 38) rfl rfl
  obtain ⟨d26, D26⟩ := df 26 (x := "_law_parts") (j := 39) rfl rfl
  obtain ⟨d27, D27⟩ := df 27 (x := "_law_drawn_type") (j := 40) rfl rfl
  obtain ⟨d28, D28⟩ := df 28 (x := "_law_put") (j := 41) rfl rfl
  obtain ⟨d29, D29⟩ := df 29 (x := "_law_numbers") (j := 42) rfl rfl
  obtain ⟨d30, D30⟩ := df 30 (x := "_law_plain") (j := 43) rfl rfl
  obtain ⟨d31, D31⟩ := df 31 (x := "_law_odd_types") (j := 44) rfl rfl
  obtain ⟨d32, D32⟩ := df 32 (x := "_law_heard") (j := 45) rfl rfl
  obtain ⟨d33, D33⟩ := df 33 (x := "_law_turned") (j := 46) rfl rfl
  obtain ⟨d34, D34⟩ := df 34 (x := "law") (j := 47) rfl rfl
  have ef := hfa.symm.trans D34.gl
  cases ef
  have n_ : ∀ (i : Nat) {x : Str}, fas[i]? = some (He.Fa.free x) → mg x = none := fun i {x} e => He.free_ok X G (fa i e)
  have g_ : ∀ (i : Nat) {x : Str}, fas[i]? = some (He.Fa.glo x) → mg x = some (.ref (He.ga K x)) := fun i {x} e => He.glo_ok X G (fa i e)
  have i_ : ∀ (i : Nat) {x : Str} {n : Int}, fas[i]? = some (He.Fa.int x n) → ∃ u, mg x = some u ∧ RelV (.int n) u := fun i {x n} e => by
    obtain ⟨t, ht⟩ := He.int_ok X G (fa i e)
    exact ⟨_, ht, ⟨t, rfl⟩⟩
  have smK : SmK K := by
    unfold smB at b3
    split at b3
    · rename_i o e
      exact ⟨o, e, of_decide_eq_true b3⟩
    · cases b3
  have hfile2 : file_ = (P.main.file : Str) := by rw [hfile]; rfl
  rw [hfile2] at b7
  have e1 : fnS K (fW_ K) = vS "WhyError.__init__" sW := (List.cons.inj cs).1
  obtain ⟨dW, W, bw⟩ := why_of (P := P) e1 b7 htop
  obtain ⟨t0, b6⟩ := ba b6
  have t1 := b6
  have T0 : Txt K mg := ⟨n_ 39 rfl, n_ 40 rfl, n_ 41 rfl, n_ 42 rfl, n_ 43 rfl, n_ 44 rfl, n_ 45 rfl, n_ 46 rfl, n_ 47 rfl, n_ 48 rfl, n_ 49 rfl, n_ 50 rfl, n_ 51 rfl, i_ 53 rfl, i_ 54 rfl, i_ 55 rfl, ⟨_, g_ 56 rfl, fun H => He.tupB_ok t0 H⟩, ⟨_, g_ 57 rfl, fun H => He.tupB_ok t1 H⟩⟩
  have per : ∀ i, i < 3 → isB K (c_ K i) = true ∧ findIn K (.ref (c_ K i)) "value" = some none ∧ exmOne K (.ref (c_ K i)) (.ref (wE_ K)) = some true ∧ subIn K (.ref (c_ K i)) (.type "BaseException") = some true ∧ typeIn K (.ref (c_ K i)) = some (.type "type") ∧ ∀ j, j < 3 → PySem.W.kitOne K (.ref (c_ K i)) (.ref (c_ K j)) = some (i == j) := fun i hi => by
    obtain ⟨q1, q⟩ := ba (all_range b4 hi)
    obtain ⟨q2, q⟩ := ba q
    obtain ⟨q3, q⟩ := ba q
    obtain ⟨q4, q⟩ := ba q
    obtain ⟨q5, q6⟩ := ba q
    exact ⟨q1, of_decide_eq_true q2, of_decide_eq_true q3, of_decide_eq_true q4, of_decide_eq_true q5, fun j hj => of_decide_eq_true (all_range q6 hj)⟩
  have Z0 : Exs P K mg := ⟨c_ K, wE_ K, fW_ K, dW, W, n_ 52 rfl, g_ 35 rfl, fun i x e => (by
      have e2 : c_ K i = He.ga K x := by
        unfold c_
        rw [List.getD_eq_getElem?_getD, show nms[i]? = some x from e]
        rfl
      rw [e2]
      match i, e with
      | 0, e =>
        obtain rfl : "InvalidType" = x := Option.some.inj e
        exact g_ 36 rfl
      | 1, e =>
        obtain rfl : "InvalidTypes" = x := Option.some.inj e
        exact g_ 37 rfl
      | 2, e =>
        obtain rfl : "TooMany" = x := Option.some.inj e
        exact g_ 38 rfl
      | i + 3, e => simp [exn] at e), fun i hi => mkB_ok (ba (all_range b5 hi)).2, fun i hi => wcB_ok (ba (all_range b5 hi)).1, fun i hi => (isB_ok (per i hi).1).1, fun i hi => (isB_ok (per i hi).1).2, fun i hi => (per i hi).2.1, fun i hi => (per i hi).2.2.2.1, fun i hi => (per i hi).2.2.2.2.1, fun i hi => (per i hi).2.2.1, fun i j hi hj => (per i hi).2.2.2.2.2 j hj, bw⟩
  have b := FunD.bindsA (ps := ["script"]) D34.fn fun _ _ _ _ _ _ us hl => match us, hl with | [_], _ => rfl
  exact ⟨d34, fun s v => b s [v] rfl, fun base _ _ => ok_law smK ⟨_, d0, D0, _, d1, D1, _, d2, D2, _, d3, D3, _, d4, D4, _, d5, D5, _, d6, D6, _, d7, D7, _, d8, D8, _, d9, D9, _, d10, D10, _, d11, D11, _, d12, D12, _, d13, D13, _, d14, D14, _, d15, D15, _, d16, D16, _, d17, D17, _, d18, D18, _, d19, D19, _, d20, D20, _, d21, D21, _, d22, D22, _, d23, D23, _, d24, D24, _, d25, D25, _, d26, D26, _, d27, D27, _, d28, D28, _, d29, D29, _, d30, D30, _, d31, D31, _, d32, D32, _, d33, D33, _, d34, D34⟩ T0 Z0⟩
end K20
open PySem PySem.W PySem.Calls PyProof.Rows
theorem PySem.Challenge.cw_whytypes_k20_whole_unknowns_told_plain_holds : PySem.Challenge.rw_whytypes_k20_whole_unknowns_told_plain.Holds := by
  w_on; o_law
  refine HandSHeadRun.head_any (r := OpenLaw.row PySem.Challenge.rw_whytypes_k20_whole_unknowns_told_plain) (q := view (OpenLaw.row PySem.Challenge.rw_whytypes_k20_whole_unknowns_told_plain).prog [47]) (H := K20.hk) (ob := K20.ob) (M := 6000) (loose := K20.loose) (d := HandSHeadRun.topDef (OpenLaw.row PySem.Challenge.rw_whytypes_k20_whole_unknowns_told_plain).prog 47) (kwd := []) K20.ob_eq
    (by kernel_rfl) (fun s => by kernel_rfl) K20.run (by kernel_rfl) (by kernel_rfl) (by kernel_rfl) (by rfl) (by first | assumption | decide +kernel) (by decide +kernel) ⟨rfl, rfl, rfl, rfl, rfl, by decide +kernel⟩ ?hw ?hc
  case hw => w_witness2
  case hc =>
    refine Wy.walk_ofG (l := PySem.Challenge.rw_whytypes_k20_whole_unknowns_told_plain) (n := 63) (k := 17) (x := "script") rfl (by decide) (by kernel_rfl) ⟨rfl, by decide, by decide⟩ ?F
    intro w mg fa h Y G hmg0
    obtain ⟨K, KX, c⟩ := Y
    have hmg : mg ("law" : PySem.Str) = some (.ref fa) := by
      have e : (HandSHeadRun.topDef (OpenLaw.row PySem.Challenge.rw_whytypes_k20_whole_unknowns_told_plain).prog 47).name = ("law" : PySem.Str) := by kernel_rfl
      rw [← e]
      exact hmg0
    obtain ⟨fd, hb, hF⟩ := K20.facts (P := (PySem.Challenge.rw_whytypes_k20_whole_unknowns_told_plain).prog) (w := w) rfl (by kernel_rfl) KX G hmg c
    exact ⟨K, fd, K20.spLaw K, KX, hb, fun H a ns hl hS => ⟨a, ns, rfl, hS, hl, fun _ => rfl⟩, hF⟩
