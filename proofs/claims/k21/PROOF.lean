import PyProof.Rows.All
import Wide.All
import OpenK.AllK
import Wide.FinOn
import KE.KStateDown
import KE.KExcSuper
import KE.KExcIs
import KE.KExcPX
import HandS.Base
import HandS.Call
import HandS.List
import HandS.Exc
import HandS.ExcInit
import HandS.ExcField
import HandS.ExcIs
import HandS.IsInst
import HandS.Words
import HandS.Defaults
import HandS.MakeKw
import HandS.ForExc
import HandS.Dict
import PyProof.ReprRoads
import PyProof.CallFns
import HandS.Comp
import HandS.Evl
import HandS.HeadHook2
import HandS.HeadEnd
import HandS.EndBits
import HandS.CallLocal
import HandS.Walk
import HandS.Iter
import HandS.Text
import HandS.Style
import HandS.DictComp
import HandS.Zip
import PyProof.StrLawsRepr
import PyProof.Rows.StrJoinMade
import HandS.Conv
import HandS.SortRule
import HandS.Strs
import HandS.TupSets
import PySem.Challenge.RW_whytypes_k21_whole_types_put_in
import HandS.Head0
import HandS.Head1
import HandS.Head2
set_option Elab.async false
set_option linter.all false
set_option maxRecDepth 100000
set_option maxHeartbeats 4000000
/-! Wy, part A: an exception class D over ValueError whose __init__ says super().__init__(value); self.value = value, and the classes below it. -/
namespace Wy
open PySem PySem.W PySem.Calls PyProof.Rows PySem.HandSPX

/-- what the written part says of the class C, seen from D's super() -/
structure Cl (K : Frag) (D C : Addr) : Prop where
  cls : ∃ nm q N bs bm sn sub ab col dd k0 k1 k2 k3 k5, K.lookup C = some (excClassObj nm q C N bs bm true sn sub ab col dd k0 k1 k2 k3 k5 "ValueError.__new__") ∧ refsVE bm = true
  sa : findIn K (.ref C) "__setattr__" = some (some (.builtin "object.__setattr__"))
  op : nsIn K cStatics "thirdparty.any" = some none
  mro : mroIn K C (.ref D) = some true
  ve : subIn K (.ref C) (.type "ValueError") = some true
/-- a def that says super(): where it stands, its class's cell, its code's file -/
structure Sup (prog : Program) (K : Frag) (D f cc cda : Addr) (fd : FuncData) (ar : Arg) : Prop where
  fn : ∃ oc od osl, K.lookup f = some ⟨oc, od, .func fd, osl⟩
  par : (fd.params.posonlyargs ++ fd.params.args).head? = some ar
  cell : ∃ cl cld csl, K.lookup cc = some ⟨cl, cld, .cell (some (.ref D)), csl⟩
  code : ∃ ccl cdd vs ccs file tf, K.lookup cda = some ⟨ccl, cdd, .fields vs, ccs⟩ ∧ vs[2]? = some (.str file tf) ∧ ((prog.main.file : Str) == file) = true
  dcl : ∃ cd, clsIn K D = some cd
  top : (prog.main.scope.names.lookup ("super" : Str)).isSome = false

section
variable {prog : Program} {w : World} {A : Around} {E : Value → Shared → Prop} {R : Result → Shared → Prop} {hp : Heap} {g : Array GenState} {dr : Drawn} {tk : Nat} {os : OsState} {K : Frag}
variable {D C f cc cda x : Addr} {fd : FuncData} {ar : Arg} {env : Env} {m mg mb : Str → Option Value} {ox : Obj} {od : Option Obj} {body : List Stmt}

theorem cls_at (X : K.In hp) {cd : ClassData} (h : clsIn K D = some cd) : ∃ oD, hp.get? D = some oD ∧ oD.data = .cls cd := by
  unfold clsIn at h
  split at h
  · rename_i c d cd' sl ho
    cases h
    exact ⟨_, X _ _ ho, rfl⟩
  · cases h
/-- super() made -/
theorem sup_obj {p0 p1 : Pos} {attr : Str} {whole : Sem Value} {Q : Value → Shared → Prop} (X : K.In hp) (S : Sup prog K D f cc cda fd ar) (hs : mroIn K C (.ref D) = some true)
    (hk : env.scope.kind = .function) (k1 : env.kindOf "super" = some .globalImplicit) (k2 : env.kindOf "__class__" = some .free) (k3 : env.kindOf ar.arg = some .local) (hfu : env.func = some f) (hco : env.code = .ref cda)
    (hce : env.cells.lookup ("__class__" : Str) = some cc) (hgl : env.globals = mainGlobals) (hbl : env.builtins = builtinsNs) (hat : (attr == ("__class__" : Str)) = false)
    (G : hp.Ns mainGlobals mg) (g0 : mg "super" = none) (B : hp.Ns builtinsNs mb) (b0 : mb "super" = some (.type "super")) (L : hp.Ns env.locals m) (l0 : m ar.arg = some (.ref x)) (I : InstAt hp x ox C od)
    (h : ∀ h', h'.get? hp.objs.size = some (ks_superObj D x C) → (∀ b o, hp.get? b = some o → h'.get? b = some o) → Q (.ref hp.objs.size) ⟨h', g, dr, tk, os⟩) :
    _root_.PySem.wpAt (model prog w) A (.func body env) (attributeBase (.Call (.Name "super" p0) [] [] p1) attr env whole) Q E ⟨hp, g, dr, tk, os⟩ := by
  obtain ⟨oc, odf, osl, hf⟩ := S.fn
  obtain ⟨cl, cld, csl, hcl⟩ := S.cell
  obtain ⟨ccl, cdd, vs, ccs, file, tf, hcd, hvs, hfile⟩ := S.code
  obtain ⟨cdD, hD⟩ := S.dcl
  obtain ⟨oD, hD1, hD2⟩ := cls_at X hD
  refine ks_wpAt_super_base k1 k2 hat hfu (X _ _ hf) (by rfl) S.par hco (X _ _ hcd) (by rfl) hvs hfile S.top ?_
  refine ks_loadName_global hk k1 (loadGlobal_builtin (by rw [hgl]; exact G) g0 (by rw [hbl]; exact B) b0 ⟨rfl, ?_⟩)
  refine wpAny_loadName_free hk k2 hce ⟨_, X _ _ hcl, rfl⟩ ?_
  refine wpAny_loadName_local hk k3 L l0 ?_
  refine ks_wpAny_isType_cls hD1 hD2 ⟨rfl, ?_⟩
  refine ks_wpAny_call_super hD1 hD2 I.at_ I.cls (fun c e => ?_) (looks_mroIn X hs) (fun h' e k => h h' e k)
  have := I.no
  unfold notCls at this
  rw [e] at this
  exact Bool.noConfusion this
/-- the built-in __init__, bound to the object, called -/
theorem mw_call {u e t0 : Addr} {dv : Option Addr} {c2 : Value} {rest : List Value} {Q : Value → Shared → Prop} {nm q : Str} {N : Addr} {bs bm : List Value} {sn : List Str} {sub : List Value} {ab : Bool} {col : Option Bool} {dd : Option Addr} {k0 k1 k2 k3 k5 : Option Value}
    (hC : hp.get? C = some (excClassObj nm q C N bs bm true sn sub ab col dd k0 k1 k2 k3 k5 "ValueError.__new__")) (hu : hp.get? u = some (kxs_mw "ValueError.__init__" e)) (he : hp.get? e = some (excObj C t0 dv c2)) (hz : rest.length ≤ sizeLine)
    (h : ∀ h' t1, (∀ b o, b ≠ e → hp.get? b = some o → h'.get? b = some o) → h'.get? e = some (excObj C t1 dv c2) → Q .none ⟨h', g, dr, tk, os⟩) :
    wpAny (model prog w) A (call (.ref u) rest) Q E ⟨hp, g, dr, tk, os⟩ := by
  refine wpAny_call (codeAny_of_tree ?_)
  show wpAny _ A.in1 (callAny (.ref u) ⟨rest, []⟩) _ _ _
  simp only [callAny]
  refine wpAny_bind (wpAny_load hu ?_)
  simp only [kxs_mw, show (Value.type "method-wrapper" == Value.type "method" || Value.type "method-wrapper" == Value.type "builtin_function_or_method" || Value.type "method-wrapper" == Value.type "method-wrapper") = true by decide, if_true]
  refine KFB.if_so (by decide) ?_
  refine wpAny_bind (check_bound_init F.excBase_ValueError.toExcCallFacts hC he rfl ?_)
  refine wpAny_bind (wpAny_pure (wpAny_pure ?_))
  refine ⟨plainId_quiet F.excBase_ValueError.init.plain _, codeAny_builtin F.excBase_ValueError.initEntry ?_⟩
  exact exc_init_tree (cls := .ref C) (t0 := t0) (dv := dv) (c2 := c2) (c3 := .none) (b4 := .bool false) he hz fun h' k e' _ => h h' _ k e'
/-- super().__init__(e) that comes to ValueError's own -/
theorem sup_init {pl : Sem Bool} {whole : Sem Value} {p0 p1 p4 : Pos} {e : Expr} {v : Value} {t0 : Addr} {Q : Value → Shared → Prop} (X : K.In hp) (T : Cl K D C) (hup : ks_superIn K C D "__init__" = some (some (.builtin "ValueError.__init__"))) (S : Sup prog K D f cc cda fd ar)
    (hk : env.scope.kind = .function) (k1 : env.kindOf "super" = some .globalImplicit) (k2 : env.kindOf "__class__" = some .free) (k3 : env.kindOf ar.arg = some .local) (hfu : env.func = some f) (hco : env.code = .ref cda)
    (hce : env.cells.lookup ("__class__" : Str) = some cc) (hgl : env.globals = mainGlobals) (hbl : env.builtins = builtinsNs)
    (G : hp.Ns mainGlobals mg) (g0 : mg "super" = none) (B : hp.Ns builtinsNs mb) (b0 : mb "super" = some (.type "super")) (L : hp.Ns env.locals m) (l0 : m ar.arg = some (.ref x)) (hx : hp.get? x = some (excObj C t0 none .none))
    (he : ∀ h' tk' (Q' : Value → Shared → Prop), (∀ b o, hp.get? b = some o → h'.get? b = some o) → (∀ tk2, Q' v ⟨h', g, dr, tk2, os⟩) → wpAny (model prog w) A (eval e env) Q' E ⟨h', g, dr, tk', os⟩)
    (h : ∀ h' tk' t1, (∀ b o, b ≠ x → hp.get? b = some o → h'.get? b = some o) → h'.get? x = some (excObj C t1 none .none) → Q .none ⟨h', g, dr, tk', os⟩)
    (hst : starEach [e] env = (false, eval e env) :: starEach [] env) :
    _root_.PySem.wpAt (model prog w) A (.func body env) (attributeBase (.Call (.Name "super" p0) [] [] p1) "__init__" env whole) (fun ov s₁ => wpAny (model prog w) A (getMethod ov "__init__" pl) (fun fx s₂ => wpAny (model prog w) A (callWith p4 fx.1 fx.2 (backTo p4 (starEach [e] env)) []) Q E s₂) E s₁) E ⟨hp, g, dr, tk, os⟩ := by
  obtain ⟨nm, q, N, bs, bm, sn, sub, ab, col, dd, k0, k1', k2', k3', k5, hC, hbm⟩ := T.cls
  have I : InstAt hp x (excObj C t0 none .none) C none := ⟨hx, rfl, rfl, trivial⟩
  refine sup_obj X S T.mro hk k1 k2 k3 hfu hco hce hgl hbl (by decide +kernel) G g0 B b0 L l0 I fun h1 e1 q1 => ?_
  have X1 : K.In h1 := X.keeps q1
  have I1 : InstAt h1 x (excObj C t0 none .none) C none := ⟨q1 _ _ hx, rfl, rfl, trivial⟩
  have hI : Looks (model prog w) h1 (isInstance (.ref x) (.type "ValueError")) true := I1.type.andThen (looks_subIn X1 T.ve)
  cases hc : clsIn K C with
  | none =>
    unfold ks_superIn at hup
    rw [hc] at hup
    cases hup
  | some cd =>
    unfold ks_superIn at hup
    rw [hc] at hup
    refine kxs_getMethod kxs_ValueError e1 (looks_opaque X1 T.op) (l₀ := cd.mro) ?_ rfl X1 hup hI (ks_ne X1 I1 hc) (by decide +kernel) ?_
    · exact fun A Q E s k q => wpAny_bind ((looks_clsIn X1 hc) A _ E s k (wpAny_pure q))
    have k2h : ∀ b o, hp.get? b = some o → (h1.push (kxs_mw "ValueError.__init__" x)).get? b = some o := fun b o z => Heap.get?_push_of_some _ (q1 b o z)
    show wpAny _ _ (callWith p4 (.ref h1.objs.size) [] (backTo p4 (starEach [e] env)) []) _ _ _
    rw [hst]
    refine kxs_callWith (i := "ValueError.__init__") (x := x) rfl ?_
    refine evalArgs_plain ?_
    refine spliced_cons ?_
    refine he _ _ _ k2h fun tk2 => ?_
    refine spliced_nil ?_
    refine ⟨Heap.get?_push_at rfl rfl, ?_⟩
    exact mw_call (k2h _ _ (X _ _ hC)) (Heap.get?_push_at rfl rfl) (k2h _ _ hx) (by show 1 ≤ sizeLine; decide) fun h' t1 k e' => h h' tk2 t1 (fun b o hb z => k b o hb (k2h b o z)) e'
/-- super().__init__(e) that comes to a def -/
theorem sup_fn {pl : Sem Bool} {whole : Sem Value} {p0 p1 p4 : Pos} {e : Expr} {v : Value} {f2 : Addr} {Q : Value → Shared → Prop} (X : K.In hp) (hop : nsIn K cStatics "thirdparty.any" = some none) (hmr : mroIn K C (.ref D) = some true)
    (hup : ks_superIn K C D "__init__" = some (some (.ref f2))) (hfn : fnIn K f2 = true) (hty : typeIn K (.ref f2) = some (.type "function")) (S : Sup prog K D f cc cda fd ar)
    (hk : env.scope.kind = .function) (k1 : env.kindOf "super" = some .globalImplicit) (k2 : env.kindOf "__class__" = some .free) (k3 : env.kindOf ar.arg = some .local) (hfu : env.func = some f) (hco : env.code = .ref cda)
    (hce : env.cells.lookup ("__class__" : Str) = some cc) (hgl : env.globals = mainGlobals) (hbl : env.builtins = builtinsNs)
    (G : hp.Ns mainGlobals mg) (g0 : mg "super" = none) (B : hp.Ns builtinsNs mb) (b0 : mb "super" = some (.type "super")) (L : hp.Ns env.locals m) (l0 : m ar.arg = some (.ref x)) (I : InstAt hp x ox C od)
    (he : ∀ h' tk' (Q' : Value → Shared → Prop), (∀ b o, hp.get? b = some o → h'.get? b = some o) → (∀ tk2, Q' v ⟨h', g, dr, tk2, os⟩) → wpAny (model prog w) A (eval e env) Q' E ⟨h', g, dr, tk', os⟩)
    (h : ∀ h' tk', (∀ b o, hp.get? b = some o → h'.get? b = some o) → codeAny (model prog w) A (.call (.ref f2) ⟨[.ref x, v], []⟩) (fun r s' => match r with | .ok (.ret u) => Q u s' | .ok _ => False | .error e => E e s') ⟨h', g, dr, tk', os⟩)
    (hst : starEach [e] env = (false, eval e env) :: starEach [] env) :
    _root_.PySem.wpAt (model prog w) A (.func body env) (attributeBase (.Call (.Name "super" p0) [] [] p1) "__init__" env whole) (fun ov s₁ => wpAny (model prog w) A (getMethod ov "__init__" pl) (fun fx s₂ => wpAny (model prog w) A (callWith p4 fx.1 fx.2 (backTo p4 (starEach [e] env)) []) Q E s₂) E s₁) E ⟨hp, g, dr, tk, os⟩ := by
  refine sup_obj X S hmr hk k1 k2 k3 hfu hco hce hgl hbl (by decide +kernel) G g0 B b0 L l0 I fun h1 e1 q1 => ?_
  have X1 : K.In h1 := X.keeps q1
  cases hc : clsIn K C with
  | none =>
    unfold ks_superIn at hup
    rw [hc] at hup
    cases hup
  | some cd =>
    unfold ks_superIn at hup
    rw [hc] at hup
    obtain ⟨ofn, hof, hofc⟩ : ∃ ofn, h1.get? f2 = some ofn ∧ ofn.cls = .type "function" := by
      have ht' : (K.lookup f2).map (·.cls) = some (.type "function") := hty
      cases z : K.lookup f2 with
      | none => rw [z] at ht'; cases ht'
      | some o2 => rw [z] at ht'; exact ⟨o2, X1 _ _ z, Option.some.inj ht'⟩
    refine ks_wpAny_getMethod_super e1 (looks_opaque X1 hop) (l₀ := cd.mro) ?_ rfl X1 hup hof hofc (ks_ne X I hc) (by decide +kernel) ?_
    · exact fun A Q E s k q => wpAny_bind ((looks_clsIn X1 hc) A _ E s k (wpAny_pure q))
    have k2h : ∀ b o, hp.get? b = some o → (h1.push (methodObj (.ref f2) (.ref x))).get? b = some o := fun b o z => Heap.get?_push_of_some _ (q1 b o z)
    show wpAny _ _ (callWith p4 (.ref h1.objs.size) [] (backTo p4 (starEach [e] env)) []) _ _ _
    rw [hst]
    refine callWith_of (P := MethP K h1.objs.size f2 (.ref x)) rfl (keeps_M hfn) ?_
    refine evalArgs_plain ?_
    refine spliced_cons ?_
    refine he _ _ _ k2h fun tk2 => ?_
    refine spliced_nil ?_
    have hm : (h1.push (methodObj (.ref f2) (.ref x))).get? h1.objs.size = some (methodObj (.ref f2) (.ref x)) := Heap.get?_push_at rfl rfl
    refine ⟨⟨hm, X.keeps k2h⟩, ?_⟩
    show wpAny _ _ (call (.ref h1.objs.size) [v]) _ _ _
    refine wpAny_call (ks_codeAny_call_bound hm (codeAny_mono (h _ tk2 k2h) fun r s' z => ?_))
    rcases r with e | (u | _ | _ | _) <;> exact z
end
end Wy

set_option Elab.async false
set_option linter.all false
set_option maxRecDepth 100000
set_option maxHeartbeats 4000000
/-! Wy, part B: the three kinds of __init__ walked at the machine's level. -/
namespace Wy
open PySem PySem.W PySem.Calls PyProof.Rows PySem.HandSPX

/-- the scope of a def that says super() and has these parameters -/
def scSup (ps : List Str) : Scope := { kind := .function, names := ps.map (fun p => (p, NameKind.local)) ++ ([("__class__", NameKind.free), ("super", NameKind.globalImplicit)] : List (Str × NameKind)), isGenerator := false, isCoroutine := false, more := [] }
abbrev fnSup (qual : Str) (params : Arguments) (body : List Stmt) (ps : List Str) (cc cda : Addr) (kV doc pm : Value) (an : Option Addr) (ct : Value) : FuncData :=
  fnX "__init__" qual params body (scSup ps) [("__class__", cc)] .none kV doc pm an (.ref cda) ct
abbrev ps2 : List Str := ["self", "value"]
abbrev ps4 : List Str := ["self", "value", "row", "column"]
abbrev ps1 : List Str := ["self"]
theorem k2_super : (scSup ps2).names.lookup ("super" : Str) = some .globalImplicit := by decide +kernel
theorem k2_class : (scSup ps2).names.lookup ("__class__" : Str) = some .free := by decide +kernel
theorem k2_self : (scSup ps2).names.lookup ("self" : Str) = some .local := by decide +kernel
theorem k2_value : (scSup ps2).names.lookup ("value" : Str) = some .local := by decide +kernel
theorem k2_cells : ∀ x ∈ (scSup ps2).names, x.2 ≠ .cell := by decide +kernel
theorem k4_super : (scSup ps4).names.lookup ("super" : Str) = some .globalImplicit := by decide +kernel
theorem k4_class : (scSup ps4).names.lookup ("__class__" : Str) = some .free := by decide +kernel
theorem k4_self : (scSup ps4).names.lookup ("self" : Str) = some .local := by decide +kernel
theorem k4_value : (scSup ps4).names.lookup ("value" : Str) = some .local := by decide +kernel
theorem k4_row : (scSup ps4).names.lookup ("row" : Str) = some .local := by decide +kernel
theorem k4_column : (scSup ps4).names.lookup ("column" : Str) = some .local := by decide +kernel
theorem k4_cells : ∀ x ∈ (scSup ps4).names, x.2 ≠ .cell := by decide +kernel
theorem k1_super : (scSup ps1).names.lookup ("super" : Str) = some .globalImplicit := by decide +kernel
theorem k1_class : (scSup ps1).names.lookup ("__class__" : Str) = some .free := by decide +kernel
theorem k1_self : (scSup ps1).names.lookup ("self" : Str) = some .local := by decide +kernel
theorem k1_cells : ∀ x ∈ (scSup ps1).names, x.2 ≠ .cell := by decide +kernel
/-- self.n = y -/
abbrev stFld (n y : Str) (p1 p2 p3 p4 : Pos) : Stmt := .Assign [.Attribute (.Name "self" p1) n p2] (.Name y p3) p4
abbrev exSup (e : Expr) (p0 p1 p2 p4 : Pos) : Expr := .Call (.Attribute (.Call (.Name "super" p0) [] [] p1) "__init__" p2) [e] [] p4

section
variable {prog : Program} {w : World} {A : Around} {E : Value → Shared → Prop} {R : Result → Shared → Prop} {hp : Heap} {g : Array GenState} {dr : Drawn} {tk : Nat} {os : OsState} {K : Frag}
variable {D C f cc cda x : Addr} {params : Arguments} {ar : Arg} {mg mb : Str → Option Value} {qual : Str} {kV doc pm ct : Value} {an : Option Addr} {args : Args}

theorem mc_eval {o e : Expr} {name : Str} {apos pos : Pos} {env : Env} (h : (apos.endLine == pos.line) = true) (hst : starEach [e] env = [(false, eval e env)]) :
    eval (.Call (.Attribute o name apos) [e] [] pos) env = (do
      let ov ← attributeBase o name env (eval o env)
      standAt apos.atName
      let (f, first) ← holding [ov] (getMethod ov name (do return (← importBound o env).getD true))
      callWith pos f first (backTo pos (starEach [e] env)) []) := by
  have e0 : eval (.Call (.Attribute o name apos) [e] [] pos) env = (do
      let ov ← attributeBase o name env (eval o env)
      standAt apos.atName
      methodCall o name apos pos env ov 1 (backTo pos (starEach [e] env)) (backToKw pos (keywordEach [] env))) := by rfl
  have e1 : methodCallForm 1 (backTo pos (starEach [e] env)) (backToKw pos (keywordEach [] env)) = true := by
    rw [hst]
    rfl
  rw [e0]
  unfold methodCall
  rw [e1]
  unfold calleeOf methodCallPos
  simp only [h, Bool.or_true, if_true, pure_bind]
  rfl
/-- self.n = y, the first field -/
theorem fld_new {env : Env} {n y : Str} {p1 p2 p3 p4 : Pos} {v : Value} {t1 : Addr} {m : Str → Option Value} {Q : Flow → Shared → Prop} (X : K.In hp) (T : Cl K D C) (hno : findIn K (.ref C) n = some none) (hx : hp.get? x = some (excObj C t1 none .none))
    (hk : env.scope.kind = .function) (k1 : env.kindOf "self" = some .local) (k2 : env.kindOf y = some .local) (L : hp.Ns env.locals m) (l1 : m "self" = some (.ref x)) (l2 : m y = some v) (hdb : (y == ("__debug__" : Str)) = false) (hsw : swapsWith (.Name y p3) (some (.Attribute (.Name "self" p1) n p2)) p4.line env = pure false)
    (h : ∀ h' tk' dx, (∀ b o, b ≠ x → hp.get? b = some o → h'.get? b = some o) → hp.objs.size ≤ dx → dx ≠ x → h'.get? x = some (excObj C t1 (some dx) .none) → h'.Ns1 dx (fun z => if z = n then some v else none) → Q .next ⟨h', g, dr, tk', os⟩) :
    wpAny (model prog w) A (exec (stFld n y p1 p2 p3 p4) env) Q E ⟨hp, g, dr, tk, os⟩ := by
  obtain ⟨nm, q, N, bs, bm, sn, sub, ab, col, dd, k0, k1', k2', k3', k5, hC, hbm⟩ := T.cls
  have hcl : clsIn K C = some { name := nm, bases := bs, mro := .ref C :: bm, ns := N, qualname := q, hasDict := true, slotNames := sn, subclasses := sub, abstract := ab, collection := col, hasDel := false } := by
    unfold clsIn
    rw [hC] <;> rfl
  refine plainObj_wpAny_Assign_Attribute (wpAny_Name (wpAny_loadName_local hk k2 L l2 ?_) hdb) hsw
  refine wpAny_Name (wpAny_loadName_local hk k1 L l1 ?_)
  refine set_plain X (ox := excObj C t1 none .none) (od := none) ⟨hx, rfl, rfl, trivial⟩ T.sa ?_
  exact exc_osa X hx hcl (show refsVE (.ref C :: bm) = true from hbm) rfl hno fun h' tk' dx k dn dne hx' hn => h h' tk' dx k dn dne hx' hn
/-- self.n = y, a further field -/
theorem fld_old {env : Env} {n y : Str} {p1 p2 p3 p4 : Pos} {v : Value} {t1 dx : Addr} {m m0 : Str → Option Value} {nl : List Str} {Q : Flow → Shared → Prop} (X : K.In hp) (T : Cl K D C) (hno : findIn K (.ref C) n = some none) (hx : hp.get? x = some (excObj C t1 (some dx) .none))
    (hns : hp.Ns1 dx m0) (hw : Within m0 nl) (hz : nl.length ≤ 1000)
    (hk : env.scope.kind = .function) (k1 : env.kindOf "self" = some .local) (k2 : env.kindOf y = some .local) (L : hp.Ns env.locals m) (l1 : m "self" = some (.ref x)) (l2 : m y = some v) (hdb : (y == ("__debug__" : Str)) = false) (hsw : swapsWith (.Name y p3) (some (.Attribute (.Name "self" p1) n p2)) p4.line env = pure false)
    (h : ∀ h' tk', (∀ b o, b ≠ dx → hp.get? b = some o → h'.get? b = some o) → h'.Ns1 dx (fun z => if z = n then some v else m0 z) → Q .next ⟨h', g, dr, tk', os⟩) :
    wpAny (model prog w) A (exec (stFld n y p1 p2 p3 p4) env) Q E ⟨hp, g, dr, tk, os⟩ := by
  obtain ⟨nm, q, N, bs, bm, sn, sub, ab, col, dd, k0, k1', k2', k3', k5, hC, hbm⟩ := T.cls
  have hcl : clsIn K C = some { name := nm, bases := bs, mro := .ref C :: bm, ns := N, qualname := q, hasDict := true, slotNames := sn, subclasses := sub, abstract := ab, collection := col, hasDel := false } := by
    unfold clsIn
    rw [hC] <;> rfl
  obtain ⟨oD, _, _, hoD, _, _⟩ := hns.count hw
  refine plainObj_wpAny_Assign_Attribute (wpAny_Name (wpAny_loadName_local hk k2 L l2 ?_) hdb) hsw
  refine wpAny_Name (wpAny_loadName_local hk k1 L l1 ?_)
  refine set_plain X (ox := excObj C t1 (some dx) .none) (od := some oD) ⟨hx, rfl, rfl, hoD⟩ T.sa ?_
  exact PySem.OEX.osa_old X hx hns hw hz hcl (show refsVE (.ref C :: bm) = true from hbm) rfl hno fun h' tk' k hn => h h' tk' k hn

/-- the bindings by name -/
theorem b2_self {u v : Value} : (([("self", u), ("value", v)] : List (Str × Value)).reverse).lookup ("self" : Str) = some u := by
  have e : (("self" : Str) == ("value" : Str)) = false := by decide +kernel
  simp [List.lookup, e]
theorem b2_value {u v : Value} : (([("self", u), ("value", v)] : List (Str × Value)).reverse).lookup ("value" : Str) = some v := by
  simp [List.lookup]
theorem b2_loc {u v : Value} : ∀ y ∈ ([("self", u), ("value", v)] : List (Str × Value)), (scSup ps2).names.lookup y.1 = some .local := by
  intro y hy
  rcases List.mem_cons.mp hy with rfl | hy
  · exact k2_self
  · rcases List.mem_cons.mp hy with rfl | hy
    · exact k2_value
    · cases hy
theorem kin_but {h h1 : Heap} (X : K.In h) (hKx : K.lookup x = none) (k : ∀ b o, b ≠ x → h.get? b = some o → h1.get? b = some o) : K.In h1 := fun b o z => k b o (fun e => by
  rw [e, hKx] at z
  cases z) (X _ _ z)
theorem ns_but {h h1 : Heap} {a : Addr} {m : Str → Option Value} (L : h.Ns a m) (hn : a ≠ x) (k : ∀ b o, b ≠ x → h.get? b = some o → h1.get? b = some o) : h1.Ns a m := by
  obtain ⟨o, es, ep, e, r⟩ := L
  exact ⟨o, es, ep, k _ _ hn e, r⟩
theorem ns_lt {h : Heap} {a : Addr} {m : Str → Option Value} (L : h.Ns a m) : a < h.objs.size := by
  obtain ⟨o, es, ep, e, r⟩ := L
  exact Heap.lt_size e

/-- WhyError.__init__: super().__init__(value); self.value = value -/
theorem why_run {p0 p1 p2 p3 p4 p5 p6 p7 p8 p9 : Pos} {t0 : Addr} {v : Value} (hln : (p2.endLine == p4.line) = true) (hsw : ∀ env : Env, swapsWith (.Name "value" p8) (some (.Attribute (.Name "self" p6) "value" p7)) p9.line env = pure false) (X : K.In hp) (T : Cl K D C) (hup : ks_superIn K C D "__init__" = some (some (.builtin "ValueError.__init__"))) (hno : findIn K (.ref C) "value" = some none)
    (S : Sup prog K D f cc cda (fnSup qual params [.Expr (exSup (.Name "value" p3) p0 p1 p2 p4) p5, stFld "value" "value" p6 p7 p8 p9] ps2 cc cda kV doc pm an ct) ar) (har : ar.arg = "self")
    (hcode : codeIn K (.ref cda) qual = true) (hlim : hp.NoLimit) (hroom : A.depth < recursionLimit)
    (G : hp.Ns mainGlobals mg) (g0 : mg "super" = none) (B : hp.Ns builtinsNs mb) (b0 : mb "super" = some (.type "super"))
    (hbind : BindsTo ⟨hp, g, dr, tk, os⟩ (fnSup qual params [.Expr (exSup (.Name "value" p3) p0 p1 p2 p4) p5, stFld "value" "value" p6 p7 p8 p9] ps2 cc cda kV doc pm an ct) args [("self", .ref x), ("value", v)])
    (hx : hp.get? x = some (excObj C t0 none .none)) (hKx : K.lookup x = none)
    (h : ∀ h' tk' dx t1, (∀ b o, b ≠ x → hp.get? b = some o → h'.get? b = some o) → hp.objs.size ≤ dx → dx ≠ x → h'.get? x = some (excObj C t1 (some dx) .none) → h'.Ns1 dx (fun z => if z = "value" then some v else none) → R (.ok (.ret .none)) ⟨h', g, dr, tk', os⟩) :
    codeAny (model prog w) A (.call (.ref f) args) R ⟨hp, g, dr, tk, os⟩ := by
  obtain ⟨oc, od, osl, hf⟩ := S.fn
  refine ks_codeAny_call_defAt hroom (X _ _ hf) rfl hlim (codeRec_of X hcode) rfl hbind k2_cells b2_loc fun h₀ hL hk => ?_
  have hxL : x ≠ hp.objs.size := Nat.ne_of_lt (Heap.lt_size hx)
  refine ks_wpAt_execs_cons (ks_wpAt_Expr_any (ks_wpAt_MethodCall ?_ (mc_eval hln rfl)))
  refine sup_init (x := x) (v := v) (t0 := t0) (m := fun z => ([("self", Value.ref x), ("value", v)] : List (Str × Value)).reverse.lookup z) (X.keeps hk) T hup S rfl k2_super k2_class (by rw [har]; exact k2_self) rfl rfl (by kernel_rfl) rfl rfl (G.keeps hk) g0 (B.keeps hk) b0 hL (by rw [har]; exact b2_self) (hk _ _ hx) (fun h1 tk1 Q1 k1 q1 => ?_) (fun h1 tk1 t1 k1 e1 => ?_) rfl
  · exact wpAny_Name (wpAny_loadName_local rfl k2_value (hL.keeps k1) b2_value (q1 _)) (by decide +kernel)
  · have hL1 := ns_but hL hxL.symm k1
    have X1 : K.In h1 := kin_but (X.keeps hk) hKx k1
    refine wpAt_of_wpAny (wpAny_execs_cons ?_)
    refine fld_new X1 T hno e1 rfl k2_self k2_value hL1 b2_self b2_value (by decide +kernel) (hsw _) fun h2 tk2 dx k2 dn dne e2 n2 => ?_
    refine wpAny_execs_nil ?_
    exact h h2 tk2 dx t1 (fun b o hb z => k2 b o hb (k1 b o hb (hk b o z))) (Nat.le_trans (Nat.le_of_lt (ns_lt hL1)) dn) dne e2 n2
/-- the bindings of InvalidText.__init__ -/
abbrev bs4 (u v r c : Value) : List (Str × Value) := [("self", u), ("value", v), ("row", r), ("column", c)]
theorem b4_self {u v r c : Value} : (bs4 u v r c).reverse.lookup ("self" : Str) = some u := by
  have e1 : (("self" : Str) == ("value" : Str)) = false := by decide +kernel
  have e2 : (("self" : Str) == ("row" : Str)) = false := by decide +kernel
  have e3 : (("self" : Str) == ("column" : Str)) = false := by decide +kernel
  simp [List.lookup, e1, e2, e3]
theorem b4_value {u v r c : Value} : (bs4 u v r c).reverse.lookup ("value" : Str) = some v := by
  have e2 : (("value" : Str) == ("row" : Str)) = false := by decide +kernel
  have e3 : (("value" : Str) == ("column" : Str)) = false := by decide +kernel
  simp [List.lookup, e2, e3]
theorem b4_row {u v r c : Value} : (bs4 u v r c).reverse.lookup ("row" : Str) = some r := by
  have e3 : (("row" : Str) == ("column" : Str)) = false := by decide +kernel
  simp [List.lookup, e3]
theorem b4_column {u v r c : Value} : (bs4 u v r c).reverse.lookup ("column" : Str) = some c := by
  simp [List.lookup]
theorem b4_loc {u v r c : Value} : ∀ y ∈ bs4 u v r c, (scSup ps4).names.lookup y.1 = some .local := by
  intro y hy
  rcases List.mem_cons.mp hy with rfl | hy
  · exact k4_self
  rcases List.mem_cons.mp hy with rfl | hy
  · exact k4_value
  rcases List.mem_cons.mp hy with rfl | hy
  · exact k4_row
  rcases List.mem_cons.mp hy with rfl | hy
  · exact k4_column
  cases hy
theorem b1_self {u : Value} : (([("self", u)] : List (Str × Value)).reverse).lookup ("self" : Str) = some u := by
  simp [List.lookup]
theorem b1_loc {u : Value} : ∀ y ∈ ([("self", u)] : List (Str × Value)), (scSup ps1).names.lookup y.1 = some .local := by
  intro y hy
  rcases List.mem_cons.mp hy with rfl | hy
  · exact k1_self
  cases hy
/-- the frame's room for one more def -/
theorem ns_new {h h1 : Heap} {a : Addr} {m : Str → Option Value} (L : h.Ns a m) (hn : h.get? x ≠ none → a ≠ x) (k : ∀ b o, b ≠ x → h.get? b = some o → h1.get? b = some o) (hx : h.get? x ≠ none) : h1.Ns a m := ns_but L (hn hx) k

/-- what a super().__init__ leaves behind: the first field stored -/
def Made (hp : Heap) (C x : Addr) (v : Value) (h' : Heap) : Prop := ∃ dx t1, (∀ b o, b ≠ x → hp.get? b = some o → h'.get? b = some o) ∧ hp.objs.size ≤ dx ∧ dx ≠ x ∧ h'.get? x = some (excObj C t1 (some dx) .none) ∧ h'.Ns1 dx (fun z => if z = "value" then some v else none)
/-- InvalidText.__init__: super().__init__(value); self.row = row; self.column = column -/
theorem text_run {p0 p1 p2 p3 p4 p5 q1 q2 q3 q4 q5 q6 q7 q8 : Pos} {t0 f2 : Addr} {u r c : Value} (hln : (p2.endLine == p4.line) = true)
    (hsw : ∀ env : Env, swapsWith (.Name "row" q3) (some (.Attribute (.Name "self" q1) "row" q2)) q4.line env = pure false) (hsw2 : ∀ env : Env, swapsWith (.Name "column" q7) (some (.Attribute (.Name "self" q5) "column" q6)) q8.line env = pure false)
    (X : K.In hp) (T : Cl K D C) (hmr : mroIn K C (.ref C) = some true) (hup : ks_superIn K C C "__init__" = some (some (.ref f2))) (hfn : fnIn K f2 = true) (hty : typeIn K (.ref f2) = some (.type "function")) (hr : findIn K (.ref C) "row" = some none) (hcl : findIn K (.ref C) "column" = some none)
    (S : Sup prog K C f cc cda (fnSup qual params [.Expr (exSup (.Name "value" p3) p0 p1 p2 p4) p5, stFld "row" "row" q1 q2 q3 q4, stFld "column" "column" q5 q6 q7 q8] ps4 cc cda kV doc pm an ct) ar) (har : ar.arg = "self")
    (hcode : codeIn K (.ref cda) qual = true) (hlim : hp.NoLimit) (hroom : A.depth < recursionLimit)
    (G : hp.Ns mainGlobals mg) (g0 : mg "super" = none) (B : hp.Ns builtinsNs mb) (b0 : mb "super" = some (.type "super"))
    (hbind : BindsTo ⟨hp, g, dr, tk, os⟩ (fnSup qual params [.Expr (exSup (.Name "value" p3) p0 p1 p2 p4) p5, stFld "row" "row" q1 q2 q3 q4, stFld "column" "column" q5 q6 q7 q8] ps4 cc cda kV doc pm an ct) args (bs4 (.ref x) u r c))
    (hx : hp.get? x = some (excObj C t0 none .none)) (hKx : K.lookup x = none)
    (hinit : ∀ (A' : Around) (h' : Heap) (tk' : Nat) (R' : Result → Shared → Prop), (∀ b o, hp.get? b = some o → h'.get? b = some o) → A'.depth = A.depth + 1 → (∀ h2 tk2, Made h' C x u h2 → R' (.ok (.ret .none)) ⟨h2, g, dr, tk2, os⟩) → codeAny (model prog w) A' (.call (.ref f2) ⟨[.ref x, u], []⟩) R' ⟨h', g, dr, tk', os⟩)
    (h : ∀ h' tk' dx t1, (∀ b o, b ≠ x → hp.get? b = some o → h'.get? b = some o) → hp.objs.size ≤ dx → dx ≠ x → h'.get? x = some (excObj C t1 (some dx) .none) →
      h'.Ns1 dx (fun z => if z = "column" then some c else if z = "row" then some r else if z = "value" then some u else none) → R (.ok (.ret .none)) ⟨h', g, dr, tk', os⟩) :
    codeAny (model prog w) A (.call (.ref f) args) R ⟨hp, g, dr, tk, os⟩ := by
  obtain ⟨oc, od, osl, hf⟩ := S.fn
  refine ks_codeAny_call_defAt hroom (X _ _ hf) rfl hlim (codeRec_of X hcode) rfl hbind k4_cells b4_loc fun h₀ hL hk => ?_
  have hxL : x ≠ hp.objs.size := Nat.ne_of_lt (Heap.lt_size hx)
  have I0 : InstAt h₀ x (excObj C t0 none .none) C none := ⟨hk _ _ hx, rfl, rfl, trivial⟩
  refine ks_wpAt_execs_cons (ks_wpAt_Expr_any (ks_wpAt_MethodCall ?_ (mc_eval hln rfl)))
  refine sup_fn (x := x) (v := u) (m := fun z => (bs4 (.ref x) u r c).reverse.lookup z) (X.keeps hk) T.op hmr hup hfn hty S rfl k4_super k4_class (by rw [har]; exact k4_self) rfl rfl (by kernel_rfl) rfl rfl (G.keeps hk) g0 (B.keeps hk) b0 hL (by rw [har]; exact b4_self) I0 (fun h1 tk1 Q1 k1 q1 => ?_) (fun h1 tk1 k1 => ?_) rfl
  · exact wpAny_Name (wpAny_loadName_local rfl k4_value (hL.keeps k1) b4_value (q1 _)) (by decide +kernel)
  · refine hinit _ h1 tk1 _ (fun b o z => k1 b o (hk b o z)) rfl fun h2 tk2 md => ?_
    obtain ⟨dx, t1, m1, m2, m3, m4, m5⟩ := md
    have hL1 : h1.Ns hp.objs.size _ := hL.keeps k1
    have hL2 := ns_but hL1 hxL.symm m1
    have X2 : K.In h2 := kin_but ((X.keeps hk).keeps k1) hKx m1
    have hLd : hp.objs.size ≠ dx := Nat.ne_of_lt (Nat.lt_of_lt_of_le (ns_lt hL1) m2)
    have w1 : Within (fun z => if z = "value" then some u else none) ["value"] := fun z hz => by
      by_cases e : z = "value"
      · rw [e]; exact List.mem_singleton.mpr rfl
      · exact absurd (if_neg e) hz
    refine wpAt_of_wpAny (wpAny_execs_cons ?_)
    refine fld_old X2 T hr m4 m5 w1 (by decide) rfl k4_self k4_row hL2 b4_self b4_row (by decide +kernel) (hsw _) fun h3 tk3 k3 n3 => ?_
    have ndx : ∀ b o, hp.get? b = some o → b ≠ dx := fun b o z => Nat.ne_of_lt (Nat.lt_of_lt_of_le (Heap.lt_size (k1 b o (hk b o z))) m2)
    have hL3 : h3.Ns hp.objs.size _ := ns_but (x := dx) hL2 hLd k3
    have X3 : K.In h3 := fun b o z => k3 b o (ndx b o (X _ _ z)) (X2 b o z)
    have e3 : h3.get? x = some (excObj C t1 (some dx) .none) := k3 _ _ (Ne.symm m3) m4
    have w2 : Within (fun z => if z = "row" then some r else if z = "value" then some u else none) ["row", "value"] := Within.cons _ _ w1
    refine wpAny_execs_cons ?_
    refine fld_old X3 T hcl e3 n3 w2 (by decide) rfl k4_self k4_column hL3 b4_self b4_column (by decide +kernel) (hsw2 _) fun h4 tk4 k4 n4 => ?_
    refine wpAny_execs_nil ?_
    exact h h4 tk4 dx t1 (fun b o hb z => k4 b o (ndx b o z) (k3 b o (ndx b o z) (m1 b o hb (k1 b o (hk b o z))))) (Nat.le_trans (Nat.le_of_lt (ns_lt hL1)) m2) m3 (k4 _ _ (Ne.symm m3) e3) n4
/-- NothingToUndo.__init__: super().__init__(None) -/
theorem none_run {p0 p1 p2 p3 p4 p5 : Pos} {kc : Nat} {t0 f2 : Addr} (hln : (p2.endLine == p4.line) = true)
    (X : K.In hp) (T : Cl K D C) (hmr : mroIn K C (.ref C) = some true) (hup : ks_superIn K C C "__init__" = some (some (.ref f2))) (hfn : fnIn K f2 = true) (hty : typeIn K (.ref f2) = some (.type "function"))
    (S : Sup prog K C f cc cda (fnSup qual params [.Expr (exSup (.Constant .none kc p3) p0 p1 p2 p4) p5] ps1 cc cda kV doc pm an ct) ar) (har : ar.arg = "self")
    (hcode : codeIn K (.ref cda) qual = true) (hlim : hp.NoLimit) (hroom : A.depth < recursionLimit)
    (G : hp.Ns mainGlobals mg) (g0 : mg "super" = none) (B : hp.Ns builtinsNs mb) (b0 : mb "super" = some (.type "super"))
    (hbind : BindsTo ⟨hp, g, dr, tk, os⟩ (fnSup qual params [.Expr (exSup (.Constant .none kc p3) p0 p1 p2 p4) p5] ps1 cc cda kV doc pm an ct) args [("self", .ref x)])
    (hx : hp.get? x = some (excObj C t0 none .none)) (hKx : K.lookup x = none)
    (hinit : ∀ (A' : Around) (h' : Heap) (tk' : Nat) (R' : Result → Shared → Prop), (∀ b o, hp.get? b = some o → h'.get? b = some o) → A'.depth = A.depth + 1 → (∀ h2 tk2, Made h' C x .none h2 → R' (.ok (.ret .none)) ⟨h2, g, dr, tk2, os⟩) → codeAny (model prog w) A' (.call (.ref f2) ⟨[.ref x, .none], []⟩) R' ⟨h', g, dr, tk', os⟩)
    (h : ∀ h' tk' dx t1, (∀ b o, b ≠ x → hp.get? b = some o → h'.get? b = some o) → hp.objs.size ≤ dx → dx ≠ x → h'.get? x = some (excObj C t1 (some dx) .none) →
      h'.Ns1 dx (fun z => if z = "value" then some .none else none) → R (.ok (.ret .none)) ⟨h', g, dr, tk', os⟩) :
    codeAny (model prog w) A (.call (.ref f) args) R ⟨hp, g, dr, tk, os⟩ := by
  obtain ⟨oc, od, osl, hf⟩ := S.fn
  refine ks_codeAny_call_defAt hroom (X _ _ hf) rfl hlim (codeRec_of X hcode) rfl hbind k1_cells b1_loc fun h₀ hL hk => ?_
  have I0 : InstAt h₀ x (excObj C t0 none .none) C none := ⟨hk _ _ hx, rfl, rfl, trivial⟩
  refine ks_wpAt_execs_cons (ks_wpAt_Expr_any (ks_wpAt_MethodCall ?_ (mc_eval hln rfl)))
  refine sup_fn (x := x) (v := .none) (m := fun z => ([("self", Value.ref x)] : List (Str × Value)).reverse.lookup z) (X.keeps hk) T.op hmr hup hfn hty S rfl k1_super k1_class (by rw [har]; exact k1_self) rfl rfl (by kernel_rfl) rfl rfl (G.keeps hk) g0 (B.keeps hk) b0 hL (by rw [har]; exact b1_self) I0 (fun h1 tk1 Q1 k1 q1 => ?_) (fun h1 tk1 k1 => ?_) rfl
  · rw [eval_Constant]
    exact wpAny_pure (q1 _)
  · refine hinit _ h1 tk1 _ (fun b o z => k1 b o (hk b o z)) rfl fun h2 tk2 md => ?_
    obtain ⟨dx, t1, m1, m2, m3, m4, m5⟩ := md
    refine wpAt_of_wpAny (wpAny_execs_nil ?_)
    exact h h2 tk2 dx t1 (fun b o hb z => m1 b o hb (k1 b o (hk b o z))) (Nat.le_trans (Nat.le_of_lt (ns_lt (hL.keeps k1))) m2) m3 m4 m5
end
end Wy

set_option Elab.async false
set_option linter.all false
set_option maxRecDepth 100000
set_option maxHeartbeats 4000000
/-! Wy, part C: C(.., k = v) for an exception class with an __init__ of its own. -/
namespace Wy
open PySem PySem.W PySem.Calls PySem.HandSPX

section
variable {M : Model} {prog : Program} {w : World} {A : Around} {E : Value → Shared → Prop} {R : Result → Shared → Prop} {hp : Heap} {g : Array GenState} {dr : Drawn} {tk : Nat} {os : OsState}
variable {nm q : Str} {C N : Addr} {bs bm : List Value} {sn : List Str} {sub : List Value} {ab : Bool} {col : Option Bool} {dd : Option Addr} {k0 k1 k2 k3 k5 : Option Value}

theorem has_VE (hbm : refsVE bm = true) : (Value.ref C :: bm).contains (.type "ValueError") = true := by
  rw [List.contains_cons, refsVE_contains _ _ hbm, show veTail.contains (Value.type "ValueError") = true by decide +kernel, Bool.or_true]
theorem no_AE (hbm : refsVE bm = true) : (Value.ref C :: bm).contains (.type "AttributeError") = false := by
  rw [List.contains_cons, refsVE_contains _ _ hbm, show veTail.contains (Value.type "AttributeError") = false by decide +kernel]
  rfl
theorem no_NE (hbm : refsVE bm = true) : (Value.ref C :: bm).contains (.type "NameError") = false := by
  rw [List.contains_cons, refsVE_contains _ _ hbm, show veTail.contains (Value.type "NameError") = false by decide +kernel]
  rfl
theorem new_checked (hbm : refsVE bm = true) {rest : List Value} {kw : List (Str × Value)} {Q : Unit → Shared → Prop}
    (hC : hp.get? C = some (excClassObj nm q C N bs bm true sn sub ab col dd k0 k1 k2 k3 k5 "ValueError.__new__")) (hq : Q () ⟨hp, g, dr, tk, os⟩) : wpAny M A (checkBuiltinCall "ValueError.__new__" ⟨.ref C :: rest, kw⟩) Q E ⟨hp, g, dr, tk, os⟩ := by
  have FB := PySem.F.excBase_ValueError
  have hcont := has_VE (C := C) hbm
  have hs := FB.noStar
  simp only [checkBuiltinCall, FB.newKind, FB.newSplit, FB.newRow]
  repeat (first | refine wpAny_loadPart_at hC ?_ | (refine wpAny_isSubtype_exc hC ?_; rw [hcont]) | refine wpAny_staticBase_exc hC ?_ | refine wpAny_madeBy_exc hC ?_ | simp only [bne_self_eq_false, Bool.false_eq_true, if_false] | wp_step)
  exact hq
theorem new_made (hbm : refsVE bm = true) {rest : List Value} {kw : List (Str × Value)} (hC : hp.get? C = some (excClassObj nm q C N bs bm true sn sub ab col dd k0 k1 k2 k3 k5 "ValueError.__new__"))
    (hq : R (.ok (.ret (.ref (hp.objs.size + 1)))) ⟨(hp.push (kdv_tup rest)).push (excO C hp.objs.size), g, dr, tk, os⟩) (hrest : rest.length ≤ sizeLine) :
    codeAny (model prog w) A (.builtin "ValueError.__new__" ⟨.ref C :: rest, kw⟩) R ⟨hp, g, dr, tk, os⟩ := by
  have FB := PySem.F.excBase_ValueError
  have he := FB.ends
  have h1 := has_VE (C := C) hbm
  have h2 := no_AE (C := C) hbm
  have h3 := no_NE (C := C) hbm
  refine codeAny_builtinAt FB.entry ?_
  unfold Builtin.«BaseException.__new__»
  refine wpAt_bind ?_
  show _root_.PySem.wpAt _ _ _ (stack >>= _) _ _ _
  refine wpAt_bind (wpAt_stack fun p below => wpAt_of_wpAny ?_)
  wp_walk
  refine wpAt_of_wpAny ?_
  rw [FB.owner]
  repeat (first | with_reducible refine wpAny_madeHere_exc FB.canon hC ?_ | with_reducible refine wpAny_loadPart_at hC ?_ | (with_reducible refine wpAny_isSubtype_exc hC ?_; first | rw [h1] | rw [h2] | rw [h3]) | wp_step)
  show R _ _
  rw [Heap.size_push]
  exact hq
theorem type_called (hbm : refsVE bm = true) {rest : List Value} {kw : List (Str × Value)} {fI : Addr} {Q : Fin → Shared → Prop} (hC : hp.get? C = some (excClassObj nm q C N bs bm true sn sub ab col dd k0 k1 k2 k3 k5 "ValueError.__new__"))
    (hi : Looks (model prog w) hp (typeLookup (.ref C) "__init__") (some (.ref fI))) (hb : ∀ self, Looks (model prog w) hp (bindSpecial (.ref fI) self) (.ref fI, [self])) (hrest : rest.length ≤ sizeLine)
    (hq : codeAny (model prog w) A (.call (.ref fI) ⟨.ref (hp.objs.size + 1) :: rest, kw⟩)
      (fun r s' => match r with | .ok (.ret v) => v = .none ∧ Q (.done (.ret (.ref (hp.objs.size + 1)))) s' | .ok _ => False | .error e => E e s') ⟨(hp.push (kdv_tup rest)).push (excO C hp.objs.size), g, dr, tk, os⟩) :
    wpAny (model prog w) A (Builtin.«type.__call__» ⟨.ref C :: rest, kw⟩) Q E ⟨hp, g, dr, tk, os⟩ := by
  have FB := PySem.F.excBase_ValueError
  repeat (first | with_reducible refine wpAny_loadPart_at hC ?_ | with_reducible refine wpAny_madeBy_exc hC ?_ | wp_step)
  refine codeAny_call_builtin_code (Code.quiet_builtin _ FB.quiet) (new_checked hbm hC ?_)
  refine new_made hbm hC ?_ hrest
  show wpAny _ _ _ _ _ _
  have k : ∀ b o, hp.get? b = some o → ((hp.push (kdv_tup rest)).push (excO C hp.objs.size)).get? b = some o := fun b o e => Heap.get?_push_of_some _ (Heap.get?_push_of_some _ e)
  have hC₁ := k _ _ hC
  have hget : ((hp.push (kdv_tup rest)).push (excO C hp.objs.size)).get? (hp.objs.size + 1) = some (excO C hp.objs.size) := by heap_get
  have hcC : (Value.ref C :: bm).contains (.ref C) = true := by simp
  have i1 := hi.keeps k
  have b1 := (hb (.ref (hp.objs.size + 1))).keeps k
  unfold isInstance
  repeat (first | with_reducible refine wpAny_loadPart_at hget ?_ | (with_reducible refine wpAny_isSubtype_exc hC₁ ?_; rw [hcC]) | wp_step)
  show wpAny _ _ (typeLookup (.ref C) _) _ _ _
  refine i1.at ?_
  refine wpAny_holding (wpAny_bind (b1.at ?_))
  refine wpAny_bind (wpAny_call (codeAny_mono hq fun r s' z => ?_))
  rcases r with e | (v | _ | _ | _) <;> first | exact z | exact z.elim | skip
  obtain ⟨rfl, z⟩ := z
  first
    | exact wpAny_pure (wpAny_pure z)
    | (wp_walk; exact z)
theorem cls_called (hbm : refsVE bm = true) {rest : List Value} {kw : List (Str × Value)} {fI : Addr} (hC : hp.get? C = some (excClassObj nm q C N bs bm true sn sub ab col dd k0 k1 k2 k3 k5 "ValueError.__new__"))
    (hi : Looks (model prog w) hp (typeLookup (.ref C) "__init__") (some (.ref fI))) (hb : ∀ self, Looks (model prog w) hp (bindSpecial (.ref fI) self) (.ref fI, [self])) (hrest : rest.length ≤ sizeLine)
    (hq : codeAny (model prog w) (A.under (.builtin "type.__call__" ⟨.ref C :: rest, kw⟩)) (.call (.ref fI) ⟨.ref (hp.objs.size + 1) :: rest, kw⟩) (InitBack (hp.objs.size + 1) R)
      ⟨(hp.push (kdv_tup rest)).push (excO C hp.objs.size), g, dr, tk, os⟩) : codeAny (model prog w) A (.call (.ref C) ⟨rest, kw⟩) R ⟨hp, g, dr, tk, os⟩ := by
  have f1 := tc_lookup
  have f2 := tc_bind (.ref C)
  have hTy : (⟨hp, g, dr, tk, os⟩ : Shared).TypeIs (.ref C) "type" := ⟨_, hC, rfl⟩
  refine codeAny_of_tree ?_
  show wpAny _ _ (callAny (.ref C) _) _ _ _
  repeat (any_goals (first | assumption | with_reducible refine wpAny_loadPart_at hC ?_ | wp_step))
  refine ⟨rfl, ?_⟩
  refine codeAny_call_builtin_at (Code.quiet_builtin _ (by decide +kernel)) entry_typeCall (wpAny_check_type_call_sub hC (type_called hbm hC hi hb hrest ?_))
  refine codeAny_mono hq fun r s' z => ?_
  rcases r with e | (v | _ | _ | _) <;> exact z
end
end Wy

set_option Elab.async false
set_option linter.all false
set_option maxRecDepth 100000
set_option maxHeartbeats 4000000
/-! Wy, part D: the exceptions over the hand layer: made, read, asked. -/
namespace Wy
open PySem PySem.Spec L2

/-- what is asked of the class C below D, that its instances are made with a value -/
structure WC (K : PySem.W.Frag) (D C : Addr) : Prop where
  cl : Cl K D C
  up : PySem.W.ks_superIn K C D "__init__" = some (some (.builtin "ValueError.__init__"))
  no : PySem.W.findIn K (.ref C) "value" = some none
/-- an exception of the class at C stands at a, its dict at dx, its fields fs -/
def ExAt (H : Hp) (C a dx : Addr) (fs : List (Str × V)) : Prop := H a = some (exo a C (some dx)) ∧ H dx = some (exd dx fs)
/-- .. no field yet -/
def Bare (H : Hp) (C a : Addr) : Prop := H a = some (exo a C none)

section
variable {P : Program} {w : World} {H : Hp} {h h' : Heap} {a C dx t1 : Addr} {fs : List (Str × V)} {mA : Str → Option Value} {outer : List Addr}
/-- the heap with the exception's fields -/
def hpW (H : Hp) (C a dx : Addr) (fs : List (Str × V)) : Hp := upd (upd H dx (exd dx fs)) a (exo a C (some dx))
theorem hpW_at : ExAt (hpW H C a dx fs) C a dx fs ∨ dx = a := by
  by_cases e : dx = a
  · exact .inr e
  · exact .inl ⟨upd_same, by unfold hpW; rw [upd_ne e]; exact upd_same⟩
theorem made_un (ea : Bare H C a) (hok : HOk P w H h) (k : ∀ b o, b ≠ a → h.get? b = some o → h'.get? b = some o) (dn : h.objs.size ≤ dx) (dne : dx ≠ a)
    (hx : h'.get? a = some (PySem.W.excObj C t1 (some dx) .none)) (hn : h'.Ns1 dx mA) (rel : ∀ f, RelO (fs.lookup f) (mA f)) : Un outer [] H (hpW H C a dx fs) h h' ∧ HOk P w (hpW H C a dx fs) h' := by
  have ea' : H a = some (exo a C none) := ea
  have hnd : H dx = none := hok.fresh dn
  have nd : ∀ {b : Addr} {o : Obj}, h.get? b = some o → b ≠ dx := fun {b o} q => Nat.ne_of_lt (Nat.lt_of_lt_of_le (Heap.lt_size q) dn)
  have na : ∀ {b : Addr}, H b = none → b ≠ a := fun {b} n z => by
    rw [z, ea'] at n
    cases n
  refine ⟨⟨fun b o q n _ _ => k b o (na n) q, fun b o q n _ _ => ⟨o.slots, k b o (na n) q⟩, fun b o q n _ => ?_, fun b o q _ => ?_, fun b xs q => ?_, fun b o v q => ?_, fun b ps q => ?_⟩, fun b o q => ?_⟩
  · unfold hpW
    rw [upd_ne (na n), upd_ne (nd q)]
    exact n
  · by_cases hb : b = a
    · exact ⟨_, by rw [hb]; exact hx⟩
    · exact ⟨o, k b o hb q⟩
  · unfold hpW
    rw [upd_ne (at_ne ea' q exo_tup), upd_ne (ne_of_none q hnd)]
    exact q
  · unfold hpW
    rw [upd_ne (at_ne ea' q exo_frz), upd_ne (ne_of_none q hnd)]
    exact q
  · refine ⟨#[], ?_⟩
    unfold hpW
    rw [upd_ne (at_ne ea' q exo_tbl), upd_ne (ne_of_none q hnd), q]
    simp
  · by_cases hb : b = a
    · subst hb
      unfold hpW at q
      rw [upd_same] at q
      cases q
      exact exo_ok hx
    · unfold hpW at q
      rw [upd_ne hb] at q
      by_cases hd : b = dx
      · subst hd
        rw [upd_same] at q
        cases q
        exact exd_ok hn rel
      · rw [upd_ne hd] at q
        have own_ : ∀ c, H c = some (.own b) → hpW H C a dx fs c = some (.own b) := fun c hc => by
          unfold hpW
          rw [upd_ne (at_ne ea' hc exo_own), upd_ne (ne_of_none hc hnd)]
          exact hc
        have tup_ : ∀ c xs, H c = some (.tup xs) → hpW H C a dx fs c = some (.tup xs) := fun c xs hc => by
          unfold hpW
          rw [upd_ne (at_ne ea' hc exo_tup), upd_ne (ne_of_none hc hnd)]
          exact hc
        refine (hok b o q).stay (fun c v hc z => k c v ?_ z) own_ tup_
        rcases hc with hc | hc
        · rw [hc]
          exact hb
        · exact at_ne ea' hc exo_own
end

/-! ### the promises of the three kinds of __init__ -/
def spWhy (K : PySem.W.Frag) (D : Addr) : Sp := fun vs H Q _ => ∃ (a C : Addr) (v : V), vs = [.ref a, v] ∧ WC K D C ∧ Bare H C a ∧ ∀ dx, H dx = none → dx ≠ a → Q .non (hpW H C a dx [("value", v)])
def spText (K : PySem.W.Frag) (D C : Addr) : Sp := fun vs H Q _ => ∃ (a : Addr) (v r c : V), vs = [.ref a, v, r, c] ∧ Bare H C a ∧ ∀ dx, H dx = none → dx ≠ a → Q .non (hpW H C a dx [("column", c), ("row", r), ("value", v)])
def spNone (K : PySem.W.Frag) (D C : Addr) : Sp := fun vs H Q _ => ∃ a : Addr, vs = [.ref a] ∧ Bare H C a ∧ ∀ dx, H dx = none → dx ≠ a → Q .non (hpW H C a dx [("value", .non)])

/-- WhyError's __init__ as it stands behind the top -/
structure WhyD (prog : Program) (K : PySem.W.Frag) (D f : Addr) (fd : FuncData) : Prop where
  ex : ∃ (cc cda : Addr) (qual : Str) (params : Arguments) (kV doc pm ct : Value) (an : Option Addr) (ar : Arg) (p0 p1 p2 p3 p4 p5 p6 p7 p8 p9 : Pos), fd = fnSup qual params [.Expr (exSup (.Name "value" p3) p0 p1 p2 p4) p5, stFld "value" "value" p6 p7 p8 p9] ps2 cc cda kV doc pm an ct ∧
    Sup prog K D f cc cda fd ar ∧ ar.arg = "self" ∧ PySem.W.codeIn K (.ref cda) qual = true ∧ (p2.endLine == p4.line) = true ∧ (∀ env : Env, swapsWith (.Name "value" p8) (some (.Attribute (.Name "self" p6) "value" p7)) p9.line env = pure false)
  bind : ∀ (s : Shared) (u v : Value), BindsTo s fd ⟨[u, v], []⟩ [("self", u), ("value", v)]
structure TextD (prog : Program) (K : PySem.W.Frag) (D C f f2 : Addr) (fd fd2 : FuncData) : Prop where
  ex : ∃ (cc cda : Addr) (qual : Str) (params : Arguments) (kV doc pm ct : Value) (an : Option Addr) (ar : Arg) (p0 p1 p2 p3 p4 p5 q1 q2 q3 q4 q5 q6 q7 q8 : Pos),
    fd = fnSup qual params [.Expr (exSup (.Name "value" p3) p0 p1 p2 p4) p5, stFld "row" "row" q1 q2 q3 q4, stFld "column" "column" q5 q6 q7 q8] ps4 cc cda kV doc pm an ct ∧
    Sup prog K C f cc cda fd ar ∧ ar.arg = "self" ∧ PySem.W.codeIn K (.ref cda) qual = true ∧ (p2.endLine == p4.line) = true ∧
    (∀ env : Env, swapsWith (.Name "row" q3) (some (.Attribute (.Name "self" q1) "row" q2)) q4.line env = pure false) ∧ (∀ env : Env, swapsWith (.Name "column" q7) (some (.Attribute (.Name "self" q5) "column" q6)) q8.line env = pure false)
  why : WhyD prog K D f2 fd2
  wc : WC K D C
  mr : PySem.W.mroIn K C (.ref C) = some true
  up : PySem.W.ks_superIn K C C "__init__" = some (some (.ref f2))
  fn : PySem.W.fnIn K f2 = true
  ty : PySem.W.typeIn K (.ref f2) = some (.type "function")
  nr : PySem.W.findIn K (.ref C) "row" = some none
  nc : PySem.W.findIn K (.ref C) "column" = some none
structure NoneD (prog : Program) (K : PySem.W.Frag) (D C f f2 : Addr) (fd fd2 : FuncData) : Prop where
  ex : ∃ (cc cda : Addr) (qual : Str) (params : Arguments) (kV doc pm ct : Value) (an : Option Addr) (ar : Arg) (kc : Nat) (p0 p1 p2 p3 p4 p5 : Pos),
    fd = fnSup qual params [.Expr (exSup (.Constant .none kc p3) p0 p1 p2 p4) p5] ps1 cc cda kV doc pm an ct ∧
    Sup prog K C f cc cda fd ar ∧ ar.arg = "self" ∧ PySem.W.codeIn K (.ref cda) qual = true ∧ (p2.endLine == p4.line) = true
  why : WhyD prog K D f2 fd2
  wc : WC K D C
  mr : PySem.W.mroIn K C (.ref C) = some true
  up : PySem.W.ks_superIn K C C "__init__" = some (some (.ref f2))
  fn : PySem.W.fnIn K f2 = true
  ty : PySem.W.typeIn K (.ref f2) = some (.type "function")

section
variable {P : Program} {w : World} {K : PySem.W.Frag} {mg : Str → Option Value} {base : Heap} {D C f f2 : Addr} {fd fd2 : FuncData}
theorem rel1 {v : V} {u : Value} (r : RelV v u) (g : Str) : RelO (([("value", v)] : List (Str × V)).lookup g) (if g = "value" then some u else none) := relO_put (fs := []) (mA := fun _ => none) r (fun _ => True.intro) g
theorem notK {A : Around} {outer : List Env} {s : Shared} {H : Hp} (e0 : Env0 P w K mg base A outer s H) {a : Addr} {o : HO} (ea : H a = some o) : K.lookup a = none := by
  cases z : K.lookup a with
  | none => rfl
  | some ob =>
    have y := (e0.bs a ob (e0.mod.kin a ob z)).2
    rw [ea] at y
    cases y
theorem ok_why (W : WhyD P K D f fd) (g0 : mg "super" = none) : FnOk P w K mg base CX0 1 f fd ["self", "value"] (spWhy K D) := by
  refine ⟨fun vs H Q E h => ?_, fun A outer s H args us vs Q E hr e0 hb r hsp => ?_⟩
  · obtain ⟨a, C, v, rfl, _⟩ := h
    rfl
  obtain ⟨a, C, v, rfl, T, ea, q⟩ := hsp
  obtain ⟨cc, cda, qual, params, kV, doc, pm, ct, an, ar, p0, p1, p2, p3, p4, p5, p6, p7, p8, p9, rfl, S, har, hcode, hln, hsw⟩ := W.ex
  have kb : ∀ b o, base.get? b = some o → s.heap.get? b = some o := fun b o e => (e0.bs b o e).1
  obtain ⟨t0, hx⟩ := exo_at e0.hok ea
  obtain ⟨mb, hmb, hbb⟩ := e0.mod.blt
  cases r with
  | cons r1 rr =>
    cases rr with
    | cons r2 rr =>
      cases rr
      rename_i u1 u2
      obtain rfl : u1 = Value.ref a := r1
      obtain ⟨hp, g, dr, tk, os⟩ := s
      refine why_run (mg := mg) (mb := mb) hln hsw (e0.mod.kin.keeps kb) T.cl T.up T.no S har hcode (e0.mod.nolimit.keeps kb) hr.depth (e0.mod.glob.keeps kb) g0 (hmb.keeps kb) ((hbb "super" (by decide +kernel)).trans (by decide +kernel)) hb hx (notK e0 ea) fun h' tk' dx t1 k dn dne hx' hn => ?_
      obtain ⟨un, hok⟩ := made_un (outer := frs outer) (fs := [("value", v)]) ea e0.hok k dn dne hx' hn (rel1 r2)
      exact ⟨.non, _, rfl, e0.bare, un, hok, rfl, q dx (e0.hok.fresh dn) dne⟩
theorem ok_text (W : TextD P K D C f f2 fd fd2) (g0 : mg "super" = none) : FnOk P w K mg base CX0 2 f fd ["self", "value", "row", "column"] (spText K D C) := by
  refine ⟨fun vs H Q E h => ?_, fun A outer s H args us vs Q E hr e0 hb r hsp => ?_⟩
  · obtain ⟨a, v, r, c, rfl, _⟩ := h
    rfl
  obtain ⟨a, v, rw_, c, rfl, ea, q⟩ := hsp
  obtain ⟨cc, cda, qual, params, kV, doc, pm, ct, an, ar, p0, p1, p2, p3, p4, p5, q1, q2, q3, q4, q5, q6, q7, q8, rfl, S, har, hcode, hln, hsw1, hsw2⟩ := W.ex
  obtain ⟨cc', cda', qual', params', kV', doc', pm', ct', an', ar', p0', p1', p2', p3', p4', p5', p6', p7', p8', p9', rfl, S', har', hcode', hln', hsw'⟩ := W.why.ex
  have kb : ∀ b o, base.get? b = some o → s.heap.get? b = some o := fun b o e => (e0.bs b o e).1
  obtain ⟨t0, hx⟩ := exo_at e0.hok ea
  obtain ⟨mb, hmb, hbb⟩ := e0.mod.blt
  have b0 : mb "super" = some (.type "super") := (hbb "super" (by decide +kernel)).trans (by decide +kernel)
  have hd := hr.dp
  cases r with
  | cons r1 rr =>
    cases rr with
    | cons r2 rr =>
      cases rr with
      | cons r3 rr =>
        cases rr with
        | cons r4 rr =>
          cases rr
          rename_i u1 u2 u3 u4
          obtain rfl : u1 = Value.ref a := r1
          obtain ⟨hp, g, dr, tk, os⟩ := s
          refine text_run (mg := mg) (mb := mb) hln hsw1 hsw2 (e0.mod.kin.keeps kb) W.wc.cl W.mr W.up W.fn W.ty W.nr W.nc S har hcode (e0.mod.nolimit.keeps kb) hr.depth (e0.mod.glob.keeps kb) g0 (hmb.keeps kb) b0 hb hx (notK e0 ea) (fun A' h' tk' R' kk hA hR => ?_) fun h' tk' dx t1 k dn dne hx' hn => ?_
          · refine why_run (mg := mg) (mb := mb) hln' hsw' ((e0.mod.kin.keeps kb).keeps kk) W.wc.cl W.wc.up W.wc.no S' har' hcode' ((e0.mod.nolimit.keeps kb).keeps kk) (by omega) ((e0.mod.glob.keeps kb).keeps kk) g0 ((hmb.keeps kb).keeps kk) b0 (W.why.bind _ _ _) (kk _ _ hx) (notK e0 ea) fun h2 tk2 dx t1 k dn dne hx' hn => ?_
            exact hR h2 tk2 ⟨dx, t1, k, dn, dne, hx', hn⟩
          · obtain ⟨un, hok⟩ := made_un (outer := frs outer) (fs := [("column", c), ("row", rw_), ("value", v)]) ea e0.hok k dn dne hx' hn (fun z => relO_put r4 (relO_put r3 (rel1 r2)) z)
            exact ⟨.non, _, rfl, e0.bare, un, hok, rfl, q dx (e0.hok.fresh dn) dne⟩
theorem ok_none (W : NoneD P K D C f f2 fd fd2) (g0 : mg "super" = none) : FnOk P w K mg base CX0 2 f fd ["self"] (spNone K D C) := by
  refine ⟨fun vs H Q E h => ?_, fun A outer s H args us vs Q E hr e0 hb r hsp => ?_⟩
  · obtain ⟨a, rfl, _⟩ := h
    rfl
  obtain ⟨a, rfl, ea, q⟩ := hsp
  obtain ⟨cc, cda, qual, params, kV, doc, pm, ct, an, ar, kc, p0, p1, p2, p3, p4, p5, rfl, S, har, hcode, hln⟩ := W.ex
  obtain ⟨cc', cda', qual', params', kV', doc', pm', ct', an', ar', p0', p1', p2', p3', p4', p5', p6', p7', p8', p9', rfl, S', har', hcode', hln', hsw'⟩ := W.why.ex
  have kb : ∀ b o, base.get? b = some o → s.heap.get? b = some o := fun b o e => (e0.bs b o e).1
  obtain ⟨t0, hx⟩ := exo_at e0.hok ea
  obtain ⟨mb, hmb, hbb⟩ := e0.mod.blt
  have b0 : mb "super" = some (.type "super") := (hbb "super" (by decide +kernel)).trans (by decide +kernel)
  have hd := hr.dp
  cases r with
  | cons r1 rr =>
    cases rr
    rename_i u1
    obtain rfl : u1 = Value.ref a := r1
    obtain ⟨hp, g, dr, tk, os⟩ := s
    refine none_run (mg := mg) (mb := mb) hln (e0.mod.kin.keeps kb) W.wc.cl W.mr W.up W.fn W.ty S har hcode (e0.mod.nolimit.keeps kb) hr.depth (e0.mod.glob.keeps kb) g0 (hmb.keeps kb) b0 hb hx (notK e0 ea) (fun A' h' tk' R' kk hA hR => ?_) fun h' tk' dx t1 k dn dne hx' hn => ?_
    · refine why_run (mg := mg) (mb := mb) hln' hsw' ((e0.mod.kin.keeps kb).keeps kk) W.wc.cl W.wc.up W.wc.no S' har' hcode' ((e0.mod.nolimit.keeps kb).keeps kk) (by omega) ((e0.mod.glob.keeps kb).keeps kk) g0 ((hmb.keeps kb).keeps kk) b0 (W.why.bind _ _ _) (kk _ _ hx) (notK e0 ea) fun h2 tk2 dx t1 k dn dne hx' hn => ?_
      exact hR h2 tk2 ⟨dx, t1, k, dn, dne, hx', hn⟩
    · obtain ⟨un, hok⟩ := made_un (outer := frs outer) (fs := [("value", .non)]) ea e0.hok k dn dne hx' hn (rel1 rfl)
      exact ⟨.non, _, rfl, e0.bare, un, hok, rfl, q dx (e0.hok.fresh dn) dne⟩
end
end Wy

set_option Elab.async false
set_option linter.all false
set_option maxRecDepth 100000
set_option maxHeartbeats 4000000
/-! Wy, part E: rules of expressions: C(..) of such a class, e.value, isinstance(e, c), repr(x). -/
namespace Wy
open PySem PySem.Spec L2

/-- the class C makes its instances by the def at fI -/
structure MkE (K : PySem.W.Frag) (C fI : Addr) : Prop where
  cls : ∃ nm q N bs bm sn sub ab col dd k0 k1 k2 k3 k5, K.lookup C = some (excClassObj nm q C N bs bm true sn sub ab col dd k0 k1 k2 k3 k5 "ValueError.__new__") ∧ PySem.HandSPX.refsVE bm = true
  ini : PySem.W.findIn K (.ref C) "__init__" = some (some (.ref fI))
  fn : PySem.W.typeIn K (.ref fI) = some (.type "function")
  kp : PySem.W.keepIn K (.ref C) = true
/-- C(e, ..) -/
def tMkE (C : Addr) (sp : Sp) (t : TA) : TE := fun σ H Q => t σ H fun vs H1 => vs.length ≤ 1000 ∧ ∀ a, H1 a = none → sp (.ref a :: vs) (upd H1 a (exo a C none)) (fun v H2 => v = .non ∧ Q (.ref a) H2) E0
section
variable {X : Cx} {k : Nat} {fI C : Addr} {fd : FuncData} {ps ks : List Str} {sp : Sp} {x : Str} {p pos : Pos} {e : Expr} {es : List Expr} {kws : List Keyword} {t : TA}
theorem run_mkE {pins : List (Addr × Obj)} {σ : St} {H : Hp} {s : Shared} {Q : VK} {us ws : List Value} {vs : List V} {kw : List (Str × Value)} (M : MkE X.K C fI) (F : FnOk X.prog X.w X.K X.mg X.base CX0 k fI fd ps sp) (hr : Room (k + 1) X.A)
    (I : Inv X pins σ H s) (hl : us.length ≤ 1000) (hb : ∀ s' u, BindsTo s' fd ⟨u :: us, kw⟩ (ps.zip (u :: ws))) (r : Vals vs ws)
    (h : ∀ a, H a = none → sp (.ref a :: vs) (upd H a (exo a C none)) (fun v H2 => v = .non ∧ Q (.ref a) H2) E0) :
    wpAny (model X.prog X.w) X.A (call (.ref C) us kw) (EP X pins σ Q) X.xe s := by
  obtain ⟨nm, q, N, bs, bm, sn, sub, ab, col, dd, k0, k1, k2, k3, k5, hC, hbm⟩ := M.cls
  obtain ⟨hp, g, dr, tk, os⟩ := s
  have hsz : hp.objs.size ≤ hp.objs.size + 1 := Nat.le_succ _
  have hn : H (hp.objs.size + 1) = none := I.hok.fresh hsz
  have hq := h (hp.objs.size + 1) hn
  have kk : ∀ b o, hp.get? b = some o → ((hp.push (PySem.W.kdv_tup us)).push (PySem.HandSPX.excO C hp.objs.size)).get? b = some o := fun b o e => Heap.get?_push_of_some _ (Heap.get?_push_of_some _ e)
  have hget : ((hp.push (PySem.W.kdv_tup us)).push (PySem.HandSPX.excO C hp.objs.size)).get? (hp.objs.size + 1) = some (PySem.HandSPX.excO C hp.objs.size) := by heap_get
  have I2 : Inv X pins σ (upd H (hp.objs.size + 1) (exo (hp.objs.size + 1) C none)) ⟨(hp.push (PySem.W.kdv_tup us)).push (PySem.HandSPX.excO C hp.objs.size), g, dr, tk, os⟩ :=
    I.laid (t' := tk) (a := hp.objs.size + 1) (o := exo (hp.objs.size + 1) C none) (h' := (hp.push (PySem.W.kdv_tup us)).push (PySem.HandSPX.excO C hp.objs.size)) kk hsz (exo_ok hget)
  have r2 : Vals (V.ref (hp.objs.size + 1) :: vs) (Value.ref (hp.objs.size + 1) :: ws) := .cons rfl r
  refine wpAny_call (cls_called hbm (I.kIn _ _ hC) (PySem.W.looks_findIn I.kIn M.ini) (fun self => PySem.W.bind_fn I.kIn self M.fn) (Nat.le_trans hl (by decide))
    (codeAny_mono (F.run _ X.stack _ _ ⟨Value.ref (hp.objs.size + 1) :: us, kw⟩ (Value.ref (hp.objs.size + 1) :: ws) _ _ E0 (hr.make C us kw) (I2.env0.make C us kw) (hb _ _) r2 hq) fun r s' hq' => ?_))
  cases r with
  | error er => exact (show False from hq').elim
  | ok fl =>
    cases fl with
    | ret u =>
      obtain ⟨v, H2, I3, rv, ev, q2⟩ := I2.after hq'
      subst ev
      exact ⟨rv, V.ref (hp.objs.size + 1), H2, I3, rfl, q2⟩
    | next => exact False.elim hq'
    | brk => exact False.elim hq'
    | cont => exact False.elim hq'
theorem pe_mkE (M : MkE X.K C fI) (F : FnOk X.prog X.w X.K X.mg X.base CX0 k fI fd ps sp) (hr : Room (k + 1) X.A) (hg : Gl X x) (hm : X.mg x = some (.ref C)) (hb : ∀ (us : List Value), us.length + 1 = ps.length → ∀ s' u, BindsTo s' fd ⟨u :: us, []⟩ (ps.zip (u :: us))) (hps : ∀ vs H Q, sp vs H Q E0 → vs.length = ps.length)
    (ha : PA X (e :: es) t) (hdb : (x == ("__debug__" : Str)) = false := by decide) (he : starEach (e :: es) X.env = (false, eval e X.env) :: starEach es X.env := by rfl) (hpl : (backTo pos (starEach es X.env)).any (·.1) = false := by rfl) :
    PE X (.Call (.Name x p) (e :: es) [] pos) (tMkE C sp t) := by
  refine ⟨fun pins s σ H Q I h => ?_⟩
  refine wpAny_Call_Name_kw (ld_glob I hg hm ?_ hdb)
  refine PySem.W.callWith_K (h₀ := X.base) I.ok.mod.kin M.kp (thn (ha.run pos pins s σ H _ I h) fun us s1 ⟨vs, H1, I1, r, hl, q⟩ => ⟨I1.kIn, ?_⟩) he hpl
  have e1 := hps _ _ _ (q (s1.heap.objs.size) (I1.hok.fresh (Nat.le_refl _)))
  have e2 := r.length
  show wpAny _ _ (call (.ref C) us []) _ _ _
  refine run_mkE M F hr I1 (by rw [← e2]; exact hl) (hb us ?_) r q
  rw [← e2, ← e1]
  rfl
theorem pe_mkE0 (M : MkE X.K C fI) (F : FnOk X.prog X.w X.K X.mg X.base CX0 k fI fd ps sp) (hr : Room (k + 1) X.A) (hg : Gl X x) (hm : X.mg x = some (.ref C)) (hb : ∀ s' u, BindsTo s' fd ⟨[u], []⟩ (ps.zip [u])) (hdb : (x == ("__debug__" : Str)) = false := by decide) :
    PE X (.Call (.Name x p) [] [] pos) (tMkE C sp tNil) := by
  refine ⟨fun pins s σ H Q I h => ?_⟩
  refine wpAny_Call_Name_kw (ld_glob I hg hm ?_ hdb)
  exact PySem.W.callWith_K0 I.kIn M.kp (run_mkE (us := []) (ws := []) (vs := []) M F hr I (by decide) hb .nil h.2)
/-- C(k = v, ..) -/
theorem pe_mkEk (M : MkE X.K C fI) (F : FnOk X.prog X.w X.K X.mg X.base CX0 k fI fd ps sp) (hr : Room (k + 1) X.A) (hg : Gl X x) (hm : X.mg x = some (.ref C)) (hb : ∀ (ws : List Value), ws.length = ks.length → ∀ s' u, BindsTo s' fd ⟨[u], ks.zip ws⟩ (ps.zip (u :: ws)))
    (hps : ∀ vs H Q, sp vs H Q E0 → vs.length = ks.length + 1) (hkw : PK X kws t) (hall : (backToKw pos (keywordEach kws X.env)).all (·.1.isSome) = true := by rfl) (hks : (backToKw pos (keywordEach kws X.env)).filterMap (·.1) = ks := by rfl)
    (hdb : (x == ("__debug__" : Str)) = false := by decide) (hpl : ((backTo pos (starEach [] X.env)).any (·.1) || (backToKw pos (keywordEach kws X.env)).any (·.1.isNone)) = false := by rfl) :
    PE X (.Call (.Name x p) [] kws pos) (tMkE C sp t) := by
  refine ⟨fun pins s σ H Q I h => ?_⟩
  refine wpAny_Call_Name_kw (ld_glob I hg hm ?_ hdb)
  refine PySem.W.callWith_KW0 (h₀ := X.base) I.ok.mod.kin M.kp hall ?_ hpl
  refine thn (hkw.run pos pins s σ H _ I h) fun ws s2 ⟨zs, H2, I2, rz, hl, q⟩ => ⟨I2.kIn, ?_⟩
  rw [hks]
  have e1 := hps _ _ _ (q (s2.heap.objs.size) (I2.hok.fresh (Nat.le_refl _)))
  have e2 := rz.length
  exact run_mkE (us := []) M F hr I2 (by decide) (hb ws (by rw [← e2]; exact Nat.succ.inj e1)) rz q
end

/-! ### e.n -/
def tXfld (K : PySem.W.Frag) (te : TE) (n : Str) : TE := fun σ H Q => te σ H fun x H1 => ∃ (a C dx : Addr) (fs : List (Str × V)) (v : V), x = .ref a ∧ ExAt H1 C a dx fs ∧ XfC K C ∧ PySem.W.findIn K (.ref C) n = some none ∧ fs.lookup n = some v ∧ Q v H1
theorem ex_inst {P : Program} {w : World} {H : Hp} {h : Heap} {C a dx : Addr} {fs : List (Str × V)} (hok : HOk P w H h) (ea : ExAt H C a dx fs) : ∃ (t1 : Addr) (od : Obj) (mA : Str → Option Value), PySem.W.InstAt h a (PySem.W.excObj C t1 (some dx) .none) C (some od) ∧ h.Ns1 dx mA ∧ h.get? dx = some od ∧ ∀ f, RelO (fs.lookup f) (mA f) := by
  obtain ⟨t1, hx⟩ := exo_at hok ea.1
  obtain ⟨mA, hns, rel⟩ := exd_at hok ea.2
  obtain ⟨od, es, ep, ho, r⟩ := id hns
  exact ⟨t1, od, mA, ⟨hx, rfl, rfl, ho⟩, hns, ho, rel⟩
theorem pe_xfld {X : Cx} {e : Expr} {te : TE} {pos : Pos} {n : Str} (he : PE X e te) (hb : attributeBase e n X.env (eval e X.env) = eval e X.env := by rfl) : PE X (.Attribute e n pos) (tXfld X.K te n) := by
  refine ⟨fun pins s σ H Q I h => ?_⟩
  refine attr_of hb (thn (he.run pins s σ H _ I h) fun u s1 hh => ?_)
  obtain ⟨x, H1, I1, rx, a, C, dx, fs, v, ex, ea, T, hno, l, q⟩ := hh
  subst ex
  obtain rfl : u = Value.ref a := rx
  obtain ⟨t1, hx⟩ := exo_at I1.hok ea.1
  obtain ⟨mA, hns, hr⟩ := exd_at I1.hok ea.2
  obtain ⟨od, ho, hl⟩ := lookIn_ns hns
  obtain ⟨u, hu, ru⟩ := RelO.some_of (v := v) (o := mA n) (by rw [← l]; exact hr n)
  have J : PySem.W.InstAt s1.heap a (PySem.W.excObj C t1 (some dx) .none) C (some od) := ⟨hx, rfl, rfl, ho⟩
  exact PySem.HandSPX.exc_get I1.kIn J T.ga T.gg T.exC (PySem.W.findObj_own T.hdC hno rfl (by rw [hl, hu])) (handed_of ru) ⟨v, H1, I1.tok _, ru, q⟩

/-! ### isinstance(e, c) -/
def rIsX (K : PySem.W.Frag) : List V → Hp → VK → Prop := fun xs H Q => ∃ (a C dx : Addr) (fs : List (Str × V)) (c : V) (u : Value) (b : Bool), xs = [.ref a, c] ∧ ExAt H C a dx fs ∧ ExcC K C ∧ ClsV c u ∧ PySem.W.kitOne K (.ref C) u = some b ∧ Q (.bl b) H
theorem call_isX {X : Cx} : CallR X (.builtin "isinstance") (rIsX X.K) := by
  intro pins s σ H xs us Q I r h
  obtain ⟨a, C, dx, fs, c, cv, b, rfl, ea, T, k, e, q⟩ := h
  cases r with
  | cons rx rr =>
    cases rr with
    | cons rt rr =>
      cases rr
      cases rx
      have ec := k.eq rt
      subst ec
      obtain ⟨t1, od, mA, J, _⟩ := ex_inst I.hok ea
      have hcl : (PySem.W.clsIn X.K C).isSome = true := by
        obtain ⟨cd, hc, _⟩ := PySem.W.any_some T.hd
        rw [hc]
        rfl
      exact PySem.W.kia_one (PySem.W.kitx_exc hcl T.hg T.hk T.hs T.ha T.hn T.ht T.hm) I.kIn J e (fun z => nomatch z) fun tk => ⟨.bl b, H, I.kept (t' := tk) fun _ _ z => z, rfl, q⟩
end Wy

set_option Elab.async false
set_option linter.all false
set_option maxRecDepth 100000
set_option maxHeartbeats 4000000
/-! Wy, part F: data of any depth (dicts, too), repr of it; defs that may ask repr (no repr runs around them). -/
namespace Wy
open PySem PySem.Spec L2

def kD : Key → PyData
  | .inl i => .int i
  | .inr x => .str x
mutual
inductive Dx (K : PySem.W.Frag) (H : Hp) : V → PyData → Prop
  | non : Dx K H .non .none
  | bl (b : Bool) : Dx K H (.bl b) (.bool b)
  | int (i : Int) : Dx K H (.int i) (.int i)
  | str (x : Str) : Dx K H (.str x) (.str x)
  | lst {a : Addr} {xs : List V} {ds : List PyData} : SqL K H a xs → DxAll K H xs ds → Dx K H (.ref a) (.list ds)
  | tup {a : Addr} {xs : List V} {ds : List PyData} : SqT K H a xs → DxAll K H xs ds → Dx K H (.ref a) (.tuple ds)
  | dct {a : Addr} {kvs : List (Key × V)} {es : List (PyData × PyData)} : H a = some (.dK kvs) → DxKv K H kvs es → Dx K H (.ref a) (.dict es)
inductive DxAll (K : PySem.W.Frag) (H : Hp) : List V → List PyData → Prop
  | nil : DxAll K H [] []
  | cons {v : V} {vs : List V} {d : PyData} {ds : List PyData} : Dx K H v d → DxAll K H vs ds → DxAll K H (v :: vs) (d :: ds)
inductive DxKv (K : PySem.W.Frag) (H : Hp) : List (Key × V) → List (PyData × PyData) → Prop
  | nil : DxKv K H [] []
  | cons {k : Key} {v : V} {kvs : List (Key × V)} {d : PyData} {es : List (PyData × PyData)} : Dx K H v d → DxKv K H kvs es → DxKv K H ((k, v) :: kvs) ((kD k, d) :: es)
end
mutual
theorem Dx.mono {K : PySem.W.Frag} {H H' : Hp} (s : Same H H') : ∀ {v : V} {d : PyData}, Dx K H v d → Dx K H' v d
  | _, _, .non => .non
  | _, _, .bl b => .bl b
  | _, _, .int i => .int i
  | _, _, .str x => .str x
  | _, _, .lst h a => .lst (s.seq h) (DxAll.mono s a)
  | _, _, .tup h a => .tup (by
      rcases h with (h | ⟨o, h⟩) | h
      · exact .inl (.inl (s _ _ h))
      · exact .inl (.inr ⟨o, s _ _ h⟩)
      · exact .inr h) (DxAll.mono s a)
  | _, _, .dct h a => .dct (s _ _ h) (DxKv.mono s a)
theorem DxAll.mono {K : PySem.W.Frag} {H H' : Hp} (s : Same H H') : ∀ {vs : List V} {ds : List PyData}, DxAll K H vs ds → DxAll K H' vs ds
  | _, _, .nil => .nil
  | _, _, .cons h a => .cons (Dx.mono s h) (DxAll.mono s a)
theorem DxKv.mono {K : PySem.W.Frag} {H H' : Hp} (s : Same H H') : ∀ {kvs : List (Key × V)} {es : List (PyData × PyData)}, DxKv K H kvs es → DxKv K H' kvs es
  | _, _, .nil => .nil
  | _, _, .cons h a => .cons (Dx.mono s h) (DxKv.mono s a)
end
theorem DxAll.append {K : PySem.W.Frag} {H : Hp} : ∀ {vs us : List V} {ds es : List PyData}, DxAll K H vs ds → DxAll K H us es → DxAll K H (vs ++ us) (ds ++ es)
  | _, _, _, _, .nil, b => b
  | _, _, _, _, .cons h a, b => .cons h (DxAll.append a b)
theorem DxAll.length {K : PySem.W.Frag} {H : Hp} : ∀ {vs : List V} {ds : List PyData}, DxAll K H vs ds → vs.length = ds.length
  | _, _, .nil => rfl
  | _, _, .cons _ a => congrArg Nat.succ (DxAll.length a)
theorem DxAll.get {K : PySem.W.Frag} {H : Hp} : ∀ {vs : List V} {ds : List PyData} {i : Nat} {v : V}, DxAll K H vs ds → vs[i]? = some v → ∃ d, ds[i]? = some d ∧ Dx K H v d
  | _, _, _, _, .nil, e => by simp at e
  | _, _, 0, _, .cons h _, e => by
    simp at e
    subst e
    exact ⟨_, rfl, h⟩
  | _, _, i + 1, _, .cons _ a, e => by
    obtain ⟨d, h1, h2⟩ := DxAll.get (i := i) a (by simpa using e)
    exact ⟨d, by simpa using h1, h2⟩

/-- the written part holds the dict of loaded modules -/
def SmK (K : PySem.W.Frag) : Prop := ∃ o, K.lookup sysModules = some o ∧ o.cls = .type "dict"
section
variable {X : Cx} {pins : List (Addr × Obj)} {σ : St} {H : Hp} {s : Shared}
theorem list_ne (I : Inv X pins σ H s) (hK : SmK X.K) {a : Addr} {o : Obj} (h : s.heap.get? a = some o) (hc : o.cls = .type "list") : a ≠ sysModules := by
  intro e
  subst e
  obtain ⟨o', h1, h2⟩ := hK
  have h3 := I.kIn _ _ h1
  rw [h] at h3
  cases h3
  rw [hc] at h2
  exact absurd h2 (by decide)
theorem pairs_reads {P : Program} {w : World} : ∀ {es : List DictEntry} {kvs : List (Key × Value)}, Pairs (mixKind P w) es kvs → ∃ as, ReadsAll s.heap (es.map (·.key)) (kvs.map fun p => kD p.1) as ∧ sysModules ∉ as
  | _, _, .nil => ⟨[], .nil, by simp⟩
  | _, _, .cons (e := e) (kv := kv) h1 h2 hr => by
    obtain ⟨as, r, n⟩ := pairs_reads hr
    have h1' : keyIs kv.1 e.key = true := h1
    obtain ⟨k, v⟩ := kv
    rcases keyIs_shape h1' with ⟨i, t, e1, e2⟩ | ⟨x, t, e1, e2⟩
    · simp only at e1
      subst e1
      refine ⟨[] ++ as, ?_, n⟩
      rw [List.map_cons, e2]
      exact .cons (.int i t) r
    · simp only at e1
      subst e1
      refine ⟨[] ++ as, ?_, n⟩
      rw [List.map_cons, e2]
      exact .cons (.str x t) r
mutual
theorem Dx.reads (I : Inv X pins σ H s) (hK : SmK X.K) : ∀ (d : PyData) (v : V) (u : Value), Dx X.K H v d → RelV v u → ∃ as, Reads s.heap u d as ∧ sysModules ∉ as
  | .none, _, _, h, r => by
    cases h
    cases r
    exact ⟨_, Reads.none, by simp⟩
  | .bool b, _, _, h, r => by
    cases h
    cases r
    exact ⟨_, Reads.bool b, by simp⟩
  | .int i, _, _, h, r => by
    cases h
    obtain ⟨t, rfl⟩ := r
    exact ⟨_, Reads.int i t, by simp⟩
  | .str x, _, _, h, r => by
    cases h
    obtain ⟨t, rfl⟩ := r
    exact ⟨_, Reads.str x t, by simp⟩
  | .list ds, _, _, h, r => by
    cases h with
    | lst hs ha =>
      cases r
      obtain ⟨its, rv, ⟨o, n, ho, hc, _, hd⟩, _⟩ := I.list hs
      obtain ⟨as, hr, hn⟩ := Dx.readsAll I hK ds _ its ha rv
      refine ⟨_, Reads.list ho hc hd hr, ?_⟩
      rw [List.mem_cons]
      exact fun z => z.elim (fun z => list_ne I hK ho hc z.symm) hn
  | .tuple ds, _, _, h, r => by
    cases h with
    | tup hs ha =>
      cases r
      obtain ⟨its, rv, ⟨o, ho, hc, n, hd⟩, _⟩ := I.tuple hs
      obtain ⟨as, hr, hn⟩ := Dx.readsAll I hK ds _ its ha rv
      exact ⟨_, Reads.tuple ho hc hd hr, hn⟩
  | .dict es, _, _, h, r => by
    cases h with
    | dct ha hv =>
      cases r
      obtain ⟨z, hne, vs, rel, o, des, ep, ho, hx, hd, _, hp, _⟩ := dk_of I.hok ha
      obtain ⟨as, hr, hn⟩ := pairs_reads hp
      obtain ⟨e1, bs, hb, hbn⟩ := Dx.readsKv I hK es _ vs des.toList hv rel hp
      refine ⟨_, Reads.dict ho hx.1 hd (by rw [e1] at hr; exact hr) hb, ?_⟩
      rw [List.cons_append, List.mem_cons, List.mem_append]
      rintro (z | z | z)
      · rw [z] at hne
        simp at hne
      · exact hn z
      · exact hbn z
theorem Dx.readsAll (I : Inv X pins σ H s) (hK : SmK X.K) : ∀ (ds : List PyData) (vs : List V) (us : List Value), DxAll X.K H vs ds → Vals vs us → ∃ as, ReadsAll s.heap us ds as ∧ sysModules ∉ as
  | [], _, _, h, r => by
    cases h
    cases r
    exact ⟨_, ReadsAll.nil, by simp⟩
  | d :: ds, _, _, h, r => by
    cases h with
    | cons h1 h2 =>
      cases r with
      | cons r1 r2 =>
        obtain ⟨as, q1, n1⟩ := Dx.reads I hK d _ _ h1 r1
        obtain ⟨bs, q2, n2⟩ := Dx.readsAll I hK ds _ _ h2 r2
        refine ⟨_, ReadsAll.cons q1 q2, ?_⟩
        rw [List.mem_append]
        exact fun z => z.elim n1 n2
theorem Dx.readsKv (I : Inv X pins σ H s) (hK : SmK X.K) : ∀ (es : List (PyData × PyData)) (kvs : List (Key × V)) (vs : List (Key × Value)) (des : List DictEntry), DxKv X.K H kvs es → KV kvs vs → Pairs (mixKind X.prog X.w) des vs →
    (vs.map fun p => kD p.1) = es.map (·.1) ∧ ∃ bs, ReadsAll s.heap (des.map (·.val)) (es.map (·.2)) bs ∧ sysModules ∉ bs
  | [], _, _, _, h, r, p => by
    cases h
    cases r
    cases p
    exact ⟨rfl, _, ReadsAll.nil, by simp⟩
  | (kd, d) :: es, _, _, _, h, r, p => by
    cases h with
    | cons h1 h2 =>
      cases r with
      | cons r1 r2 =>
        cases p with
        | cons p1 p2 p3 =>
          obtain ⟨e1, bs, q2, n2⟩ := Dx.readsKv I hK es _ _ _ h2 r2 p3
          obtain ⟨as, q1, n1⟩ := Dx.reads I hK d _ _ h1 r1.2
          refine ⟨?_, as ++ bs, ?_, ?_⟩
          · rw [List.map_cons, List.map_cons, e1, ← r1.1]
          · rw [List.map_cons, List.map_cons, p2]
            exact ReadsAll.cons q1 q2
          · rw [List.mem_append]
            exact fun z => z.elim n1 n2
end
end
/-- repr(x) -/
def rRepr (K : PySem.W.Frag) : List V → Hp → VK → Prop := fun xs H Q => ∃ (x : V) (d : PyData), xs = [x] ∧ Dx K H x d ∧ d.showable = true ∧ d.shown.length ≤ sizeLine ∧ d.depth ≤ 60 ∧ Q (.str d.shown) H
theorem call_repr {X : Cx} (hK : SmK X.K) (hg : X.A.guards = some []) (hu : X.A.units + 64 < cLine) : CallR X (.builtin "repr") (rRepr X.K) := by
  intro pins s σ H xs us Q I r h
  obtain ⟨x, d, rfl, hd, hs, hz, hdep, q⟩ := h
  cases r with
  | cons rx rr =>
    cases rr
    rename_i u
    obtain ⟨as, hr, hn⟩ := Dx.reads I hK d x u hd rx
    cases hd with
    | non =>
      cases rx
      refine PySem.P.repr_of_none ?_
      exact ⟨.str "None", H, I.tok _, ⟨_, rfl⟩, by simpa only [PyData.shown] using q⟩
    | bl b =>
      cases rx
      refine PySem.P.repr_of_bool ?_
      exact ⟨.str (if b then "True" else "False"), H, I.tok _, ⟨_, rfl⟩, by simpa only [PyData.shown] using q⟩
    | int i =>
      obtain ⟨t, rfl⟩ := rx
      refine PySem.P.repr_of_int (by simpa [PyData.showable] using hs) ?_
      exact ⟨.str (toString i), H, I.tok _, ⟨_, rfl⟩, by simpa only [PyData.shown] using q⟩
    | str y =>
      obtain ⟨t, rfl⟩ := rx
      refine PySem.P.repr_of_str ?_ (by simpa only [PyData.shown] using hz)
      exact ⟨.str (reprText y), H, I.tok _, ⟨_, rfl⟩, by simpa only [PyData.shown] using q⟩
    | lst h1 h2 =>
      cases rx
      exact repr_of_reads' hr hs (fun _ => hn) hg (by omega) (fun _ _ e => e) (fun h' t tk k => ⟨.str _, H, I.kept (t' := tk) k, ⟨_, rfl⟩, q⟩) hz
    | tup h1 h2 =>
      cases rx
      exact repr_of_reads' hr hs (fun _ => hn) hg (by omega) (fun _ _ e => e) (fun h' t tk k => ⟨.str _, H, I.kept (t' := tk) k, ⟨_, rfl⟩, q⟩) hz
    | dct h1 h2 =>
      cases rx
      exact repr_of_reads' hr hs (fun _ => hn) hg (by omega) (fun _ _ e => e) (fun h' t tk k => ⟨.str _, H, I.kept (t' := tk) k, ⟨_, rfl⟩, q⟩) hz
end Wy

set_option Elab.async false
set_option linter.all false
set_option maxRecDepth 100000
set_option maxHeartbeats 4000000
/-! Wy, part G: short words; xs[i] op= e; defs that may ask repr. -/
namespace Wy
open PySem PySem.Spec L2

/-- a def of the text as it stands, under its name -/
structure Df (K : PySem.W.Frag) (mg : Str → Option Value) (x : Str) (st : Stmt) (f : Addr) (fd : FuncData) : Prop where
  fn : FunD K x x (defArgs st) (defBody st) (defScope st) [] [] f fd
  gl : mg x = some (.ref f)
/-- xs[i] of a list, read for xs[i] op= e -/
theorem get_list {X : Cx} : PGet X (fun x y H Q => ∃ p xs v, ∃ j : Nat, x = .ref p ∧ y = .int (j : Int) ∧ SqL X.K H p xs ∧ xs[j]? = some v ∧ (j : Int) < 2 ^ 63 ∧ Q v H) := by
  intro pins s σ H o i ov iv Q I ro ri h
  obtain ⟨p, xs, z, j, rfl, rfl, hq, hz, hj, q⟩ := h
  cases ro
  obtain ⟨t, rfl⟩ := ri
  obtain ⟨its, r, pl, _⟩ := I.list hq
  obtain ⟨u, eu, ru⟩ := r.get hz
  exact wpAny_getItem_list pl.isList (by omega) hj (by simpa using eu) ⟨z, H, I, ru, q⟩
/-- the heap without one address -/
def outA (H : Hp) (p : Addr) : Hp := fun b => if b = p then none else H b
theorem outA_ne {H : Hp} {p b : Addr} (h : b ≠ p) : outA H p b = H b := if_neg h
theorem outA_at {H : Hp} {p : Addr} : outA H p p = none := if_pos rfl
theorem outA_eq {H H' : Hp} {p : Addr} (k : ∀ b, b ≠ p → H' b = H b) : outA H' p = outA H p := by
  funext b
  by_cases e : b = p
  · rw [e, outA_at, outA_at]
  · rw [outA_ne e, outA_ne e, k b e]
theorem outA_sub {H : Hp} {p : Addr} : Same (outA H p) H := fun b o e => by
  by_cases h : b = p
  · rw [h, outA_at] at e
    cases e
  · rw [outA_ne h] at e
    exact e
theorem outA_same {H H' : Hp} {p : Addr} (k : ∀ b o, b ≠ p → H b = some o → H' b = some o) : Same (outA H p) (outA H' p) := fun b o e => by
  by_cases h : b = p
  · rw [h, outA_at] at e
    cases e
  · rw [outA_ne h] at e
    rw [outA_ne h]
    exact k b o h e
theorem same_new {H : Hp} {p : Addr} (h : H p = none) (o : HO) : Same H (upd H p o) := fun b u q => by
  rw [upd_ne (ne_of_none q h)]
  exact q
theorem small (n : Nat) (h : n ≤ 100000) : n ≤ sizeLine := Nat.le_trans h (by decide)

/-! ### a def that may ask repr: no repr runs around it -/
structure FnG (P : Program) (w : World) (K : PySem.W.Frag) (mg : Str → Option Value) (base : Heap) (CX : CXT) (k : Nat) (f : Addr) (fd : FuncData) (ps : List Str) (sp : Sp) : Prop where
  len : ∀ vs H Q E, sp vs H Q E → vs.length = ps.length
  run : ∀ (A : Around) (outer : List Env) (s : Shared) (H : Hp) (args : Args) (us : List Value) (vs : List V) (Q : VK) (E : XK), Room k A → A.guards = some [] → Env0 P w K mg base A outer s H → BindsTo s fd args (ps.zip us) → Vals vs us → sp vs H Q E →
    codeAny (model P w) A (.call (.ref f) args) (CR CX outer P w H s Q E) s
theorem FnG.ok {P : Program} {w : World} {K : PySem.W.Frag} {mg : Str → Option Value} {base : Heap} {CX : CXT} {qn : Str} {st : Stmt} {f : Addr} {fd : FuncData} {N ps : List Str} {k : Nat} {sp : Sp} (D : Df K mg qn st f fd) (S : FnScope N ps (defScope st))
    (len : ∀ vs H Q E, sp vs H Q E → vs.length = ps.length)
    (hbody : ∀ (cdv : Value) (A : Around) (outer : List Env) (s : Shared) (H : Hp) (vs : List V) (Q : VK) (E : XK), Room k (A.deeper (PyProof.Rows.envOfC qn (defScope st) s.heap.objs.size f cdv)) → A.guards = some [] → sp vs H Q E →
      ∃ t, PSs (cxOf CX P w K mg base N qn (defScope st) f cdv A outer s H E) (defBody st) t ∧ t { nx := fun _ H' => Q .non H', rt := Q } (start N vs) H) : FnG P w K mg base CX (k + 1) f fd ps sp := by
  obtain ⟨oc, od, dV, kV, doc, pm, an, cdv, ct, osl, rfl, lk, hcd, _, _⟩ := D.fn.ex
  refine ⟨len, fun A outer s H args us vs Q E hr hg e0 hb r hsp => ?_⟩
  have kb : ∀ b o, base.get? b = some o → s.heap.get? b = some o := fun b o e => (e0.bs b o e).1
  have KX : K.In s.heap := e0.mod.kin.keeps kb
  have lim : s.heap.NoLimit := e0.mod.nolimit.keeps kb
  refine codeAny_call_function hr.depth (KX _ _ lk) rfl S.co S.gen rfl (PySem.W.codeRec_of KX hcd) (hb _ _ _ _ ?_)
  refine wpAny_newFunctionEnv_cells S.kind (fun ⟨n, v⟩ hy => ?_) fun env he s1 x => ?_
  · rcases S.par n (List.of_mem_zip hy).1 with q | q
    · exact .inl q
    · exact .inr ⟨q, PySem.W.cellsFrom_some _ _ _ (.inl q)⟩
  subst he
  refine ⟨lim.keeps x.toInCall.keep, codeAny_func ?_⟩
  obtain ⟨t, ht, hq⟩ := hbody cdv A outer s H vs Q E (hr.deeper _) hg hsp
  have I : Inv (cxOf CX P w K mg base N qn (defScope st) f cdv A outer s H E) [] (start N vs) H s1 := inv_start S hr.hd e0 (len _ _ _ _ hsp) r x
  have fin : ∀ {σ' : St} {H' : Hp} {v : V} {u : Value} {s' : Shared}, Inv (cxOf CX P w K mg base N qn (defScope st) f cdv A outer s H E) [] σ' H' s' → RelV v u → Q v H' → CE outer P w H s Q u s' :=
    fun {σ' H' v u s'} J rv q => ⟨v, H', J.os, J.bare, J.base, J.hok, rv, q⟩
  refine wpAny_mono (ht.run [] s1 (start N vs) H _ I hq) (fun fl s' hs => ?_) fun e s' hs => hs
  cases fl with
  | ret u =>
    obtain ⟨v, σ', H', J, rv, q⟩ := hs
    exact fin J rv q
  | next =>
    obtain ⟨σ', H', J, q⟩ := hs
    exact fin (v := V.non) (u := Value.none) J rfl q
  | brk =>
    obtain ⟨_, _, _, q⟩ := hs
    exact False.elim q
  | cont =>
    obtain ⟨_, _, _, q⟩ := hs
    exact False.elim q
theorem FnG.of {P : Program} {w : World} {K : PySem.W.Frag} {mg : Str → Option Value} {base : Heap} {CX : CXT} {k : Nat} {f : Addr} {fd : FuncData} {ps : List Str} {sp : Sp} (F : FnOk P w K mg base CX k f fd ps sp) : FnG P w K mg base CX k f fd ps sp :=
  ⟨F.len, fun A outer s H args us vs Q E hr _ e0 hb r h => F.run A outer s H args us vs Q E hr e0 hb r h⟩
end Wy

set_option Elab.async false
set_option linter.all false
set_option maxRecDepth 100000
set_option maxHeartbeats 1000000
/-! Wy, part H: the end of a law whose def may ask repr. -/
namespace Wy
open PySem PySem.Spec L2 PyProof.Rows
/-- an abstract heap that tells the script alone (nothing, where the module holds it) -/
theorem script_heap {P : Program} {w : World} {K : PySem.W.Frag} {h : Heap} {a : Addr} {vs : List Value} {ns : List Int} (KX : K.In h) (ha : h.get? a = some { cls := .type "list", data := .seq vs.toArray }) (hi : IntsAre vs ns) (hl : ns.length ≤ sizeLine) :
    ∃ H : Hp, SqL K H a (ns.map V.int) ∧ HOk P w H h ∧ ∀ b u, H b = some u → b = a ∧ K.lookup a = none ∧ ∃ o xs, u = .frz o (.lst xs) := by
  have rv := vals_ints hi
  cases hk : K.lookup a with
  | some o =>
    have e := KX a o hk
    rw [ha] at e
    cases e
    exact ⟨fun _ => none, .inr ⟨_, vs.toArray, _, hk, rfl, rfl, rfl, by rw [List.size_toArray, hi.length]; exact hl, by simpa using rv⟩, fun b u z => (by cases (show (none : Option HO) = some u from z)), fun b u z => (by cases (show (none : Option HO) = some u from z))⟩
  | none =>
    have at_ : ∀ {b : Addr} {u : HO}, upd (fun _ => none) a (.frz { cls := .type "list", data := .seq vs.toArray } (.lst (ns.map V.int))) b = some u → b = a ∧ u = .frz { cls := .type "list", data := .seq vs.toArray } (.lst (ns.map V.int)) := fun {b u} z => by
      by_cases hb : b = a
      · rw [hb, upd_same] at z
        exact ⟨hb, (Option.some.inj z).symm⟩
      · rw [upd_ne hb] at z
        cases z
    refine ⟨upd (fun _ => none) a (.frz { cls := .type "list", data := .seq vs.toArray } (.lst (ns.map V.int))), .inl (.inr ⟨_, upd_same⟩), fun b u z => ?_, fun b u z => ⟨(at_ z).1, rfl, _, _, (at_ z).2⟩⟩
    obtain ⟨rfl, rfl⟩ := at_ z
    exact ⟨ha, by rw [List.length_map]; exact hl, vs, _, rv, ha⟩
/-- the law called by the script's owner: no repr runs there -/
theorem law_callG {P : Program} {w : World} {K : PySem.W.Frag} {mg mb : Str → Option Value} {k : Nat} {fa a : Addr} {fd : FuncData} {x : Str} {sp : Sp} {s₁ : Shared} {vs : List Value} {ns : List Int}
    (KX : K.In s₁.heap) (hns : s₁.heap.Ns mainGlobals mg) (hb : s₁.heap.Ns builtinsNs mb) (hbb : ∀ x : Str, x ≠ "__name__" → mb x = bootBuiltins x) (hlim : s₁.heap.NoLimit) (hg : s₁.gens = #[])
    (ha : s₁.heap.get? a = some { cls := .type "list", data := .seq vs.toArray }) (hi : IntsAre vs ns) (hl : ns.length ≤ sizeLine) (hr : Room k callerA)
    (F : ∀ base : Heap, K.In base → base.Ns mainGlobals mg → FnG P w K mg base CX0 k fa fd [x] sp) (hbind : ∀ (s : Shared) (u : Value), BindsTo s fd ⟨[u], []⟩ [(x, u)])
    (hsp : ∀ H : Hp, SqL K H a (ns.map V.int) → sp [.ref a] H (fun v _ => v = .bl true) fun _ _ _ => False) :
    codeAny (model P w) callerA (.call (.ref fa) ⟨[.ref a], []⟩) (fun r s' => r = .ok (.ret (.bool true)) ∧ OldK s₁.heap s'.heap ∧ s'.os = s₁.os ∧ AllBare s'.gens) s₁ := by
  obtain ⟨H, hS, hok, hA⟩ := script_heap (P := P) (w := w) KX ha hi hl
  -- what the heap holds beside the script is its base
  have free : ∀ {b : Addr} {o : Obj}, s₁.heap.get? b = some o → (b = a → K.lookup a = none → False) → H b = none := fun {b o} e n => by
    cases q : H b with
    | none => rfl
    | some u => exact (n (hA b u q).1 (hA b u q).2.1).elim
  have ns_ : ∀ {b : Addr} {m : Str → Option Value}, s₁.heap.Ns b m → (hidT s₁.heap H).Ns b m := fun {b m} ⟨o, es, ep, e, d, r⟩ => ⟨o, es, ep, hidT_get e (free e fun z _ => by
    rw [z, ha] at e
    cases e
    cases d), d, r⟩
  have Kb : K.In (hidT s₁.heap H) := fun b o e => hidT_get (KX b o e) (free (KX b o e) fun z n => by
    rw [z, n] at e
    cases e)
  have e0 : Env0 P w K mg (hidT s₁.heap H) callerA [] s₁ H :=
    ⟨rfl, ⟨Kb, ns_ hns, ⟨mb, ns_ hb, hbb⟩, let ⟨mc, h1, h2⟩ := hlim; ⟨mc, ns_ h1, h2⟩⟩, fun b o e => of_hidT e, Nat.le_of_eq (hidT_size _ _), trivial, fun _ h => (List.not_mem_nil h).elim, hok, .of_eq hg⟩
  refine codeAny_mono ((F _ Kb (ns_ hns)).run callerA [] s₁ H ⟨[.ref a], []⟩ [.ref a] [.ref a] _ _ hr rfl e0 (hbind s₁ (.ref a)) (.cons rfl .nil) (hsp H hS)) fun r s' h => ?_
  match r, h with
  | .error e, h => exact (show False from h).elim
  | .ok .next, h => exact (show False from h).elim
  | .ok .brk, h => exact (show False from h).elim
  | .ok .cont, h => exact (show False from h).elim
  | .ok (.ret u), ⟨v, H', os, bare, un, hok', rv, q⟩ =>
    obtain rfl : v = .bl true := q
    obtain rfl : u = Value.bool true := rv
    refine ⟨rfl, OldK.of_keep fun b o e => ?_, os, bare⟩
    cases q : H b with
    | none => exact un.keep b o e q (fun h => (List.not_mem_nil h).elim) (by simp)
    | some u =>
      obtain ⟨_, _, ob, xs, rfl⟩ := hA b u q
      have e1 := (hok b _ q).1
      rw [e] at e1
      cases e1
      exact (hok' b _ (un.frzs b _ _ q)).1
theorem walk_ofG {l : PySem.W.OpenLaw} {n k : Nat} {q : Program} {loose : List Str} {XP : (Str → Option Value) → Heap → Prop} {YP : World → Heap → Prop} {d : DefRec} {x : Str}
    (hn : l.most = some n) (hn2 : n ≤ sizeLine) (hdf : d.params.defaults = []) (hr : Room k callerA)
    (F : ∀ (w : World) (mg : Str → Option Value) (fa : Addr) (h : Heap), YP w h → h.Ns mainGlobals mg → mg d.name = some (.ref fa) →
      ∃ (K : PySem.W.Frag) (fd : FuncData) (sp : Sp), K.In h ∧ (∀ (s : Shared) (u : Value), BindsTo s fd ⟨[u], []⟩ [(x, u)]) ∧
        (∀ (H : Hp) (a : Addr) (ns : List Int), ns.length ≤ n → SqL K H a (ns.map V.int) → sp [.ref a] H (fun v _ => v = .bl true) fun _ _ _ => False) ∧
        ∀ base : Heap, K.In base → base.Ns mainGlobals mg → FnG l.prog w K mg base CX0 k fa fd [x] sp) :
    PySem.W.WalkO q loose XP YP l.row.toRowW d [] (fun f vs => PySem.call f vs) := by
  refine Att.attach_call hn hdf fun w s₀ s₁ mg mb fa o pm cd doc a vs ns G Y ho hd hcd hmg hobj hints hlen hg => ?_
  obtain ⟨K, fd, sp, KX, hb, hsp, hF⟩ := F w mg fa _ Y G.T.g hmg
  exact law_callG KX G.T.g G.T.b G.T.builtins G.T.nolimit hg hobj hints (Nat.le_trans hlen hn2) hr hF hb fun H hS => hsp H a ns hlen hS
end Wy

set_option Elab.async false
set_option linter.all false
set_option maxRecDepth 100000
set_option maxHeartbeats 1000000
/-! Wy, part X: exceptions made and raised, caught, kept behind the suite, read and asked there. -/
namespace Wy
open PySem PySem.Spec L2

/-- at a: an exception of the class at C, raised or not, its dict at d -/
def exh (a C d : Addr) : HO := .ext fun h => ∃ (oe : Obj) (vs : Array Value), h.get? a = some oe ∧ oe.cls = .ref C ∧ oe.dict = some d ∧ oe.data = .fields vs
theorem exh_ok {P : Program} {w : World} {H : Hp} {h : Heap} {a C d : Addr} {oe : Obj} {vs : Array Value} (e : h.get? a = some oe) (z : Zc (.ref C) (some d) oe) (hd : oe.data = .fields vs) : ObjOk P w H h a (exh a C d) :=
  ⟨⟨oe, vs, e, z.1, z.2, hd⟩, ⟨oe, e⟩, fun _ _ ⟨o, v, q, r⟩ k => ⟨o, v, k o q, r⟩⟩
theorem exh_at {P : Program} {w : World} {H : Hp} {h : Heap} {a C d : Addr} (hok : HOk P w H h) (he : H a = some (exh a C d)) : ∃ (oe : Obj) (vs : Array Value), h.get? a = some oe ∧ oe.cls = .ref C ∧ oe.dict = some d ∧ oe.data = .fields vs :=
  (show ObjOk P w H h a (exh a C d) from hok a _ he).1
/-- a kept exception with its fields -/
def XAt (H : Hp) (C a d : Addr) (fs : List (Str × V)) : Prop := H a = some (exh a C d) ∧ H d = some (.xd fs)
theorem exh_inst {P : Program} {w : World} {H : Hp} {h : Heap} {C a d : Addr} {fs : List (Str × V)} (hok : HOk P w H h) (ea : XAt H C a d fs) : ∃ (oe od : Obj) (mA : Str → Option Value), PySem.W.InstAt h a oe C (some od) ∧ h.Ns1 d mA ∧ h.get? d = some od ∧ ∀ f, RelO (fs.lookup f) (mA f) := by
  obtain ⟨oe, vs, h1, h2, h3, h4⟩ := exh_at hok ea.1
  obtain ⟨mA, hns, rel⟩ := (show ObjOk P w H h d (.xd fs) from hok d _ ea.2)
  obtain ⟨od, es, ep, ho, r⟩ := id hns
  exact ⟨oe, od, mA, ⟨h1, h2, by unfold PySem.W.notCls; rw [h4], by rw [h3]; exact ho⟩, hns, ho, rel⟩
/-- e.n of a kept exception -/
def tHfld (K : PySem.W.Frag) (te : TE) (n : Str) : TE := fun σ H Q => te σ H fun x H1 => ∃ (a C d : Addr) (fs : List (Str × V)) (v : V), x = .ref a ∧ XAt H1 C a d fs ∧ XfC K C ∧ PySem.W.findIn K (.ref C) n = some none ∧ fs.lookup n = some v ∧ Q v H1
theorem pe_hfld {X : Cx} {e : Expr} {te : TE} {pos : Pos} {n : Str} (he : PE X e te) (hb : attributeBase e n X.env (eval e X.env) = eval e X.env := by rfl) : PE X (.Attribute e n pos) (tHfld X.K te n) := by
  refine ⟨fun pins s σ H Q I h => ?_⟩
  refine attr_of hb (thn (he.run pins s σ H _ I h) fun u s1 ⟨x, H1, I1, rx, a, C, d, fs, v, ex, ea, T, hno, l, q⟩ => ?_)
  subst ex
  obtain rfl : u = Value.ref a := rx
  obtain ⟨oe, od, mA, J, hns, ho, rel⟩ := exh_inst I1.hok ea
  obtain ⟨od', ho', hl⟩ := lookIn_ns hns
  rw [ho] at ho'
  cases ho'
  obtain ⟨u, hu, ru⟩ := RelO.some_of (v := v) (o := mA n) (by rw [← l]; exact rel n)
  exact PySem.HandSPX.exc_get I1.kIn J T.ga T.gg T.exC (PySem.W.findObj_own T.hdC hno rfl (by rw [hl, hu])) (handed_of ru) ⟨v, H1, I1.tok _, ru, q⟩
/-- isinstance(e, c) of a kept exception -/
def rIsH (K : PySem.W.Frag) : List V → Hp → VK → Prop := fun xs H Q => ∃ (a C d : Addr) (fs : List (Str × V)) (c : V) (u : Value) (b : Bool), xs = [.ref a, c] ∧ XAt H C a d fs ∧ ExcC K C ∧ ClsV c u ∧ PySem.W.kitOne K (.ref C) u = some b ∧ Q (.bl b) H
theorem call_isH {X : Cx} : CallR X (.builtin "isinstance") (rIsH X.K) := by
  intro pins s σ H xs us Q I r h
  obtain ⟨a, C, d, fs, c, cv, b, rfl, ea, T, k, e, q⟩ := h
  cases r with
  | cons rx rr =>
    cases rr with
    | cons rt rr =>
      cases rr
      cases rx
      have ec := k.eq rt
      subst ec
      obtain ⟨oe, od, mA, J, _⟩ := exh_inst I.hok ea
      have hcl : (PySem.W.clsIn X.K C).isSome = true := by
        obtain ⟨cd, hc, _⟩ := PySem.W.any_some T.hd
        rw [hc]
        rfl
      exact PySem.W.kia_one (PySem.W.kitx_exc hcl T.hg T.hk T.hs T.ha T.hn T.ht T.hm) I.kIn J e (fun z => nomatch z) fun tk => ⟨.bl b, H, I.kept (t' := tk) fun _ _ z => z, rfl, q⟩

/-! ### C(e, ..), to be raised -/
def tPmE (C : Addr) (sp : Sp) (ta : TA) : St → Hp → XK → Prop := fun σ H Q => ta σ H fun vs H1 => vs.length ≤ 1000 ∧ ∀ a, H1 a = none → sp (.ref a :: vs) (upd H1 a (exo a C none))
  (fun v H2 => v = .non ∧ ∃ (d : Addr) (fs : List (Str × V)), H2 a = some (exo a C (some d)) ∧ H2 d = some (exd d fs) ∧ H1 d = none ∧ Q (.ref C) (some d) (upd (del H2 a) d (.xd fs))) E0
section
variable {X : Cx} {k : Nat} {fI C : Addr} {fd : FuncData} {ps : List Str} {sp : Sp} {x : Str} {p pos : Pos} {e : Expr} {es : List Expr} {ta : TA}
theorem pmk_mkE (M : MkE X.K C fI) (T : Raises X (.ref C)) (F : FnOk X.prog X.w X.K X.mg X.base CX0 k fI fd ps sp) (hr : Room (k + 1) X.A) (hg : Gl X x) (hm : X.mg x = some (.ref C)) (hb : ∀ (us : List Value), us.length + 1 = ps.length → ∀ s' u, BindsTo s' fd ⟨u :: us, []⟩ (ps.zip (u :: us)))
    (ha : PA X (e :: es) ta) (hdb : (x == ("__debug__" : Str)) = false := by decide) (he : starEach (e :: es) X.env = (false, eval e X.env) :: starEach es X.env := by rfl) (hpl : (backTo pos (starEach es X.env)).any (·.1) = false := by rfl) :
    PMk X (.Call (.Name x p) (e :: es) [] pos) (tPmE C sp ta) := by
  intro pins s σ H Q I h
  obtain ⟨nm, q, N, bs, bm, sn, sub, ab, col, dd, k0, k1, k2, k3, k5, hC, hbm⟩ := M.cls
  refine wpAny_Call_Name_kw (ld_glob I hg hm ?_ hdb)
  refine PySem.W.callWith_K (h₀ := X.base) I.ok.mod.kin M.kp (thn (ha.run pos pins s σ H _ I h) fun us s1 ⟨vs, H1, I1, r1, hz, q1⟩ => ⟨I1.kIn, ?_⟩) he hpl
  obtain ⟨hp, g, dr, tk, os⟩ := s1
  have hsz : hp.objs.size ≤ hp.objs.size + 1 := Nat.le_succ _
  have hq := q1 (hp.objs.size + 1) (I1.hok.fresh hsz)
  have kk : ∀ b o, hp.get? b = some o → ((hp.push (PySem.W.kdv_tup us)).push (PySem.HandSPX.excO C hp.objs.size)).get? b = some o := fun b o e => Heap.get?_push_of_some _ (Heap.get?_push_of_some _ e)
  have hget : ((hp.push (PySem.W.kdv_tup us)).push (PySem.HandSPX.excO C hp.objs.size)).get? (hp.objs.size + 1) = some (PySem.HandSPX.excO C hp.objs.size) := by heap_get
  have I2 := I1.laid (t' := tk) kk hsz (exo_ok hget)
  have e2 := r1.length
  have e1 := F.len _ _ _ _ hq
  have hus : us.length + 1 = ps.length := by
    rw [← e1, ← e2]
    rfl
  have r2 : Vals (V.ref (hp.objs.size + 1) :: vs) (Value.ref (hp.objs.size + 1) :: us) := .cons rfl r1
  show wpAny _ _ (call (.ref C) us []) _ _ _
  refine wpAny_call (cls_called hbm (I1.kIn _ _ hC) (PySem.W.looks_findIn I1.kIn M.ini) (fun self => PySem.W.bind_fn I1.kIn self M.fn) (Nat.le_trans (by rw [← e2]; exact hz) (show 1000 ≤ sizeLine by decide))
    (codeAny_mono (F.run _ X.stack _ _ ⟨Value.ref (hp.objs.size + 1) :: us, []⟩ (Value.ref (hp.objs.size + 1) :: us) _ _ E0 (hr.make C us []) (I2.env0.make C us []) (hb us hus _ _) r2 hq) fun r s' hq' => ?_))
  match r, hq' with
  | .error er, hq' => exact (show False from hq').elim
  | .ok .next, hq' => exact (show False from hq').elim
  | .ok .brk, hq' => exact (show False from hq').elim
  | .ok .cont, hq' => exact (show False from hq').elim
  | .ok (.ret u), ⟨v, H2, os2, bare2, un2, hok2, rv, ev, d, fs, ea, ed, hd1, q2⟩ =>
    subst ev
    obtain ⟨h2, g2, d2, t2, os'⟩ := s'
    exact ⟨rv, mk_end T I1 hsz kk un2 hok2 os2 bare2 ea ed hd1 q2⟩
end
end Wy

set_option Elab.async false
set_option linter.all false
set_option maxRecDepth 100000
set_option maxHeartbeats 1000000
/-! Wy, part Y: try: body / except x as n: m = n, and the exception is told of behind the suite. -/
namespace Wy
open PySem PySem.Spec L2

section
variable {X : Cx} {pins : List (Addr × Obj)} {σ : St} {H : Hp} {s : Shared}
/-- an object that stands there untracked is tracked from now on -/
theorem track {a : Addr} {o : HO} (I : Inv X pins σ H s) (hn : H a = none) (h0 : X.s_0.heap.get? a = none) (nL : a ≠ X.env.locals) (nc : ∀ x c, X.env.cells.lookup x = some c → c ≠ a) (np : ∀ p ∈ X.pn ++ pins, p.1 ≠ a)
    (new : ObjOk X.prog X.w (upd H a o) s.heap a o) : Inv X pins σ (upd H a o) s := by
  have old : ∀ {b : Addr} {u : HO}, H b = some u → upd H a o b = some u := fun {b u} q => by
    rw [upd_ne (ne_of_none q hn)]
    exact q
  refine ⟨I.ok, I.os, I.bare, ⟨I.base.keep, I.base.slot, fun b u e n hx => ?_, I.base.there, fun b xs q => old (I.base.tups b xs q), fun b u xs q => old (I.base.frzs b u xs q), fun b ps q => ?_⟩, I.loc, I.cell, ?_, fun x c e => ?_, fun p hp => ?_, fun b u q => ?_, I.len⟩
  · rw [upd_ne (fun z => by rw [z, h0] at e; cases e)]
    exact I.base.free b u e n hx
  · obtain ⟨m, z⟩ := I.base.tbls b ps q
    exact ⟨m, old z⟩
  · rw [upd_ne (Ne.symm nL)]
    exact I.free
  · rw [upd_ne (nc x c e)]
    exact I.freeC x c e
  · obtain ⟨z1, z2, z3⟩ := I.pin p hp
    exact ⟨z1, by rw [upd_ne (np p hp)]; exact z2, z3⟩
  · by_cases hb : b = a
    · subst hb
      rw [upd_same] at q
      cases q
      exact new
    · rw [upd_ne hb] at q
      exact (I.hok b u q).stay (fun _ _ _ z => z) (fun _ z => old z) fun _ _ z => old z
end
/-- what the clause wishes of an exception of the body -/
def wKp (K : PySem.W.Frag) (c : Value) (i : Nat) (ts : Addr → TS) (D : Ends) : WX := fun cls d σ H => PySem.W.exmOne K cls c = some true ∧ ∃ C dd, cls = .ref C ∧ d = some dd ∧ ∀ a, H a = none →
  ts a { nx := fun σ' H' => H' a = none → D.nx (σ'.set i none) (upd H' a (exh a C dd)), rt := fun _ _ => False, bk := fun _ _ => False, ct := fun _ _ => False } (σ.set i (some (.ref a))) H
section
variable {X : Cx} {x n : Str} {c : Value} {i : Nat} {body suite : List Stmt} {b₀ : Stmt} {np pos pos' : Pos} {tb : WX → TS} {ts : Addr → TS}
theorem ps_try_keep (hs : X.stack = X.env :: X.outer) (hf : X.env.frame = some X.env.locals) (hex : X.ex = []) (hN : X.N.Nodup) (hi : X.N[i]? = some n) (hln : X.env.kindOf n = some .local) (hc : Names X x c)
    (hb : ∀ (W : WX) (pn : List (Addr × Obj)) (xe : Value → Shared → Prop), Takes (X.tr pn xe) W → PassesOwn (model X.prog X.w) X.A X.env xe → PSs (X.tr pn xe) body (tb W))
    (hsu : ∀ (a : Addr) (oe : Obj) (pn : List (Addr × Obj)), PSs (X.suite a ((a, oe) :: pn)) (b₀ :: suite) (ts a)) :
    PS X (.Try body [.ExceptHandler (some (.Name x np)) (some n) (b₀ :: suite) pos'] [] [] pos) (fun D σ H => tb (wKp X.K c i ts D) D σ H) := by
  refine ⟨fun pins s σ H D I h => ?_⟩
  have ok := I.ok
  have hloc : Loc X.env.scope n := .inl hln
  refine wpAny_Try_except (wpAny_mono ((hb (wKp X.K c i ts D) (X.pn ++ pins) (fun e s₁ => wpAny (model X.prog X.w) X.A (noteFrame e X.env) (fun _ s₂ => wpAny (model X.prog X.w) X.A (setFlight e none) (fun _ s₃ =>
    wpAny (model X.prog X.w) X.A (handleBy e X.env [.ExceptHandler (some (.Name x np)) (some n) (b₀ :: suite) pos']) (SP X pins D) X.xe s₃) X.xe s₂) X.xe s₁) (fun u s' xx => ?_) PassesOwn.looking).run [] s σ H D (I.toTry _) h) (fun f s1 hsp => ?_) fun e s1 he => he)
  · -- in the air: caught, kept
    obtain ⟨a, B, sI, pins', σ', H', cls, d, rfl, J', nb, up, sky, na, os, ag, hyes, C, dd, rfl, rfl, hts⟩ := xx
    have J := J'.ofTry (pins := pins) ok
    show wpAny (model X.prog X.w) X.A (noteFrame (.ref a) X.env) _ _ _
    refine Sky.land Zc.steady (by rw [ok.frames, hs]) hf (by rw [← hs]; exact sky) fun h3 fl3 up3 => ?_
    have J3 : Inv X pins σ' H' { s' with heap := h3 } := J.landed nb fl3.1 (up.trans up3) os ag
    obtain ⟨oe3, vs3, he3, hz3, hd3⟩ := fl3.there
    -- a is none of the frames, and was not there before
    have nfr : a ∉ frs (X.env :: X.outer) := fun hm => by
      obtain ⟨_, o', e', hnf⟩ := fl3.2.2.1.mem hm
      rw [he3] at e'
      cases e'
      exact hnf _ hd3
    have nI : sI.heap.get? a = none := by
      cases q : sI.heap.get? a with
      | none => rfl
      | some o =>
        have z := nb a o q (by rw [hs]; exact nfr)
        rw [fl3.2.1] at z
        cases z
    have n0 : X.s_0.heap.get? a = none := by
      cases q : X.s_0.heap.get? a with
      | none => rfl
      | some o =>
        obtain ⟨o', z⟩ := J.base.there a o q (by rw [hex]; exact List.not_mem_nil)
        rw [nI] at z
        cases z
    have nL : a ≠ X.env.locals := fun z => nfr (List.mem_filterMap.mpr ⟨X.env, List.mem_cons_self, by rw [hf, z]⟩)
    have nF : a ∉ X.fs := fun hm => by
      obtain ⟨e, he, q⟩ := List.mem_filterMap.mp hm
      exact nfr (List.mem_filterMap.mpr ⟨e, List.mem_cons_of_mem _ he, q⟩)
    have npn : ∀ p ∈ X.pn ++ pins, p.1 ≠ a := fun p hp z => by
      have q := (J.pin p hp).1
      rw [z, nI] at q
      cases q
    have nc : ∀ x c, X.env.cells.lookup x = some c → c ≠ a := fun x c e z => by
      obtain ⟨v, o, ho, _⟩ := J.cell x c e
      rw [z, nI] at ho
      cases ho
    refine wpAny_handleBy_cons (codeAny_handlers_test ?_) (by intro q; cases q)
    have LT : PySem.W.Looks (model X.prog X.w) h3 (typeOf (.ref a)) (.ref C) := fun A Q E s k q => wpAny_typeOf_ref (k _ _ he3) (by rw [hz3.1]; exact q)
    have S3 := J3.suite he3 hd3 na nL nF
    have test : ∀ {Q : Value → Shared → Prop} {E : Value → Shared → Prop}, Q c { s' with heap := h3 } → wpAny (model X.prog X.w) (X.A.mark (some (.ref a))) (eval (.Name x np) X.env) Q E { s' with heap := h3 } := fun {Q E} q => by
      obtain ⟨hg, hdbg, hm | ⟨hm, hv, hnn⟩⟩ := hc
      · exact ld_glob (X := X.suite a ((a, oe3) :: (X.pn ++ pins))) S3 hg hm q hdbg
      · exact ld_blt (X := X.suite a ((a, oe3) :: (X.pn ++ pins))) S3 hg hm hv q hnn hdbg
    have LM := PySem.W.exm_one (M := model X.prog X.w) J3.kIn LT hyes
    refine test (LM.here ?_)
    refine codeAny_handlers_suite_as (HandSPX.lands_againZ fl3 fun h4 fl4 up4 => ?_)
    have J4 : Inv X pins σ' H' { s' with heap := h4 } := J.landed nb fl4.1 ((up.trans up3).trans up4) os ag
    obtain ⟨oe4, vs4, he4, hz4, hd4⟩ := fl4.there
    refine store_ok (X := X.suite a ((a, oe4) :: (X.pn ++ pins))) (v := .ref a) (J4.suite he4 hd4 na nL nF) hN hi hloc rfl (fun s5 S5 => ?_) (.inr hln)
    refine wpAny_mono ((hsu a oe4 (X.pn ++ pins)).run [] s5 _ H' _ S5 (hts a na)) (fun f s6 hsp => ?_) fun _ _ z => False.elim z
    match f, hsp with
    | .next, ⟨σ6, H6, S6, q6⟩ =>
      have P6 : Inv X ((a, oe4) :: pins) σ6 H6 s6 := ⟨ok, S6.os, S6.bare, S6.base, S6.loc, S6.cell, S6.free, S6.freeC, fun p hp => S6.pin p (by
        rcases List.mem_append.mp hp with hp | hp
        · exact List.mem_append_left _ (List.mem_cons_of_mem _ (List.mem_append_left _ hp))
        · rcases List.mem_cons.mp hp with hp | hp
          · rw [hp]
            exact List.mem_append_left _ List.mem_cons_self
          · exact List.mem_append_left _ (List.mem_cons_of_mem _ (List.mem_append_right _ hp))), S6.hok, S6.len⟩
      refine gone_ok P6 hN hi hln fun s7 J7 => ?_
      obtain ⟨he7, hn7, _⟩ := J7.pin (a, oe4) (List.mem_append_right _ List.mem_cons_self)
      have J8 : Inv X pins (σ6.set i none) H6 s7 := J7.pins_of fun p hp => J7.pin p (List.mem_append_right _ (List.mem_cons_of_mem _ hp))
      exact ⟨_, _, track J8 hn7 n0 nL nc npn (exh_ok he7 hz4 hd4), q6 hn7⟩
    | .brk, ⟨_, _, _, q6⟩ => exact False.elim q6
    | .cont, ⟨_, _, _, q6⟩ => exact False.elim q6
    | .ret u, ⟨_, _, _, _, _, q6⟩ => exact False.elim q6
  · match f, hsp with
    | .next, ⟨σ', H', J', q⟩ => exact wpAny_execs_nil ⟨σ', H', J'.ofTry ok, q⟩
    | .brk, ⟨σ', H', J', q⟩ => exact ⟨σ', H', J'.ofTry ok, q⟩
    | .cont, ⟨σ', H', J', q⟩ => exact ⟨σ', H', J'.ofTry ok, q⟩
    | .ret u, ⟨v, σ', H', J', r, q⟩ => exact ⟨v, σ', H', J'.ofTry ok, r, q⟩
end
end Wy

set_option Elab.async false
set_option linter.all false
set_option maxRecDepth 100000
set_option maxHeartbeats 1000000
/-! Wy, part T: data of any kind asked: isinstance, len, items; what is a type. -/
namespace Wy
open PySem PySem.Spec L2

/-- the built-in type of data -/
def tyD : PyData → String
  | .none => "NoneType"
  | .bool _ => "bool"
  | .int _ => "int"
  | .str _ => "str"
  | .list _ => "list"
  | .tuple _ => "tuple"
  | .dict _ => "dict"
theorem Dx.tyx {K : PySem.W.Frag} {H : Hp} {v : V} {d : PyData} (h : Dx K H v d) : TyX K H v (.type (tyD d)) := by
  cases h with
  | non => exact .base .non
  | bl b => exact .base (.bl b)
  | int i => exact .base (.int i)
  | str x => exact .base (.str x)
  | lst hs _ =>
    rcases hs with (hs | ⟨o, hs⟩) | ⟨o, its, n, hk, hc, _⟩
    · exact .base (.lst hs)
    · exact .base (.frz hs)
    · exact .kList hk hc
  | tup hs _ =>
    rcases hs with (hs | ⟨o, hs⟩) | ⟨o, its, n, hk, hc, _⟩
    · exact .base (.tup hs)
    · exact .fTuple hs
    · exact .kTuple hk hc
  | dct hs _ => exact .base (.dK hs)
/-- isinstance(d, n), n one of these types -/
def isD (d : PyData) (n : String) : Bool := tyD d == n || (tyD d == "bool" && n == "int")
def six : List String := ["int", "bool", "str", "list", "tuple", "dict"]
theorem kit_six : ∀ n ∈ six, ∀ m ∈ ["NoneType", "bool", "int", "str", "list", "tuple", "dict"], kitB m n = some (m == n || (m == "bool" && n == "int")) := by decide +kernel
theorem tyD_mem (d : PyData) : tyD d ∈ ["NoneType", "bool", "int", "str", "list", "tuple", "dict"] := by cases d <;> simp [tyD]
/-- isinstance(x, T) of data -/
def rIsD (K : PySem.W.Frag) : List V → Hp → VK → Prop := fun xs H Q => ∃ (x : V) (d : PyData) (n : String), xs = [x, .ty n] ∧ Dx K H x d ∧ n ∈ six ∧ Q (.bl (isD d n)) H
theorem call_isD {X : Cx} : CallR X (.builtin "isinstance") (rIsD X.K) := fun pins s σ H xs us Q I r ⟨x, d, n, e, hd, hn, q⟩ =>
  call_isi pins s σ H xs us Q I r ⟨x, .ty n, _, _, _, e, .ty n, hd.tyx, kit_ty (kit_six n hn _ (tyD_mem d)), q⟩
/-! ### names, numbers, heads -/
def wholeD : PyData → Bool
  | .int _ => true
  | _ => false
def countD : PyData → Bool
  | .int i => decide (0 ≤ i)
  | _ => false
def signB (c : Nat) : Bool := decide (97 ≤ c) && decide (c ≤ 122)
def wordS (x : Str) : Bool := decide (0 < x.cps.size) && (decide (x.cps.size ≤ 8) && x.cps.toList.all signB)
def wordD : PyData → Bool
  | .str x => wordS x
  | _ => false
def closedL : List Str := ["choice", "show", "fun", "let", "rec", "case", "pair", "num"]
def houseL : List Str := ["num", "flag", "fun", "pair"]
def nameS (x : Str) : Bool := wordS x && !closedL.contains x
def nameD : PyData → Bool
  | .str x => nameS x
  | _ => false
def kindD : PyData → Bool
  | .str x => houseL.contains x || nameS x
  | _ => false
theorem eqV_str (x y : Str) : eqV (.str x) (.str y) = (x == y) := rfl
theorem inV_strs (x : Str) : ∀ l : List Str, inV (.str x) (l.map V.str) = l.contains x
  | [] => rfl
  | y :: l => by
    have ih := inV_strs x l
    unfold inV at ih ⊢
    rw [List.map_cons, List.any_cons, ih, eqV_str, List.contains_cons]
    congr 1
    rw [Bool.eq_iff_iff, beq_iff_eq, beq_iff_eq]
    exact eq_comm
theorem flat_strs : ∀ l : List Str, (l.map V.str).all flatV = true
  | [] => rfl
  | y :: l => by
    rw [List.map_cons, List.all_cons, flat_strs l]
    rfl
/-! ### texts in data are short -/
mutual
def smlD : PyData → Bool
  | .str x => decide (x.length ≤ 100000)
  | .list xs => smlAll xs
  | .tuple xs => smlAll xs
  | _ => true
def smlAll : List PyData → Bool
  | [] => true
  | x :: xs => smlD x && smlAll xs
end
theorem smlAll_mem : ∀ {ds : List PyData}, smlAll ds = true → ∀ d ∈ ds, smlD d = true
  | [], _, _, h => by cases h
  | x :: xs, h, d, hd => by
    have h' : smlD x = true ∧ smlAll xs = true := Bool.and_eq_true_iff.mp (by simpa only [smlAll] using h)
    rcases List.mem_cons.mp hd with rfl | hd
    · exact h'.1
    · exact smlAll_mem h'.2 d hd
theorem smlAll_of : ∀ {ds : List PyData}, (∀ d ∈ ds, smlD d = true) → smlAll ds = true
  | [], _ => rfl
  | x :: xs, h => by
    simp only [smlAll, Bool.and_eq_true]
    exact ⟨h x (List.mem_cons_self ..), smlAll_of fun d hd => h d (List.mem_cons_of_mem _ hd)⟩
theorem Dx.str_inv {K : PySem.W.Frag} {H : Hp} {v : V} {x : Str} (h : Dx K H v (.str x)) : v = .str x := by
  cases h
  rfl
theorem Dx.tup_inv {K : PySem.W.Frag} {H : Hp} {v : V} {ds : List PyData} (h : Dx K H v (.tuple ds)) : ∃ a xs, v = .ref a ∧ SqT K H a xs ∧ DxAll K H xs ds := by
  cases h with
  | tup h1 h2 => exact ⟨_, _, rfl, h1, h2⟩
theorem Dx.lst_inv {K : PySem.W.Frag} {H : Hp} {v : V} {ds : List PyData} (h : Dx K H v (.list ds)) : ∃ a xs, v = .ref a ∧ SqL K H a xs ∧ DxAll K H xs ds := by
  cases h with
  | lst h1 h2 => exact ⟨_, _, rfl, h1, h2⟩
theorem DxAll.get' {K : PySem.W.Frag} {H : Hp} : ∀ {vs : List V} {ds : List PyData} {i : Nat} {d : PyData}, DxAll K H vs ds → ds[i]? = some d → ∃ v, vs[i]? = some v ∧ Dx K H v d
  | _, _, _, _, .nil, e => by simp at e
  | _, _, 0, _, .cons h _, e => by
    simp at e
    subst e
    exact ⟨_, rfl, h⟩
  | _, _, i + 1, _, .cons _ a, e => by
    obtain ⟨v, h1, h2⟩ := DxAll.get' (i := i) a (by simpa using e)
    exact ⟨v, by simpa using h1, h2⟩
theorem same_seqT {K : PySem.W.Frag} {H H' : Hp} {a : Addr} {xs : List V} (s : Same H H') : SqT K H a xs → SqT K H' a xs := by
  rintro ((h | ⟨o, h⟩) | h)
  · exact .inl (.inl (s _ _ h))
  · exact .inl (.inr ⟨o, s _ _ h⟩)
  · exact .inr h
theorem one_lt (a b : Nat) : (([a] : List Nat) < [b]) ↔ a < b := by simp [List.cons_lt_cons_iff]
theorem sgn_a (c : Nat) : (!decide ((⟨#[c]⟩ : Str).cps.toList < ("a" : Str).cps.toList)) = decide (97 ≤ c) := by
  have e : ("a" : Str).cps.toList = [97] := by decide +kernel
  rw [e, Bool.eq_iff_iff]
  show (!decide (([c] : List Nat) < [97])) = true ↔ _
  simp only [one_lt, Bool.not_eq_true', decide_eq_false_iff_not, decide_eq_true_eq]
  omega
theorem sgn_z (c : Nat) : (!decide (("z" : Str).cps.toList < (⟨#[c]⟩ : Str).cps.toList)) = decide (c ≤ 122) := by
  have e : ("z" : Str).cps.toList = [122] := by decide +kernel
  rw [e, Bool.eq_iff_iff]
  show (!decide (([122] : List Nat) < [c])) = true ↔ _
  simp only [one_lt, Bool.not_eq_true', decide_eq_false_iff_not, decide_eq_true_eq]
  omega
def sideB : PyData → Bool
  | .list ts => decide (ts.length ≤ 3)
  | _ => false
/-- the head of a type -/
def headD : PyData → Bool
  | .tuple [.str w, a] => w == "unknown" && countD a
  | .tuple [.str w, a, b] => !(w == "unknown") && (w == "kind" && (kindD a && sideB b))
  | _ => false
/-- its parts -/
def sidesD : PyData → List PyData
  | .tuple [.str w, _, .list ts] => if w = "kind" then ts else []
  | _ => []
theorem in23 (n : Nat) : inV (.int (n : Int)) [.int 2, .int 3] = decide (n = 2 ∨ n = 3) := by
  unfold inV
  simp only [List.any_cons, List.any_nil, Bool.or_false]
  show ((2 : Int) == (n : Int) || (3 : Int) == (n : Int)) = _
  rw [Bool.eq_iff_iff]
  simp only [Bool.or_eq_true, beq_iff_eq, decide_eq_true_eq]
  omega
theorem shape23 {K : PySem.W.Frag} {G : Hp} {xs : List V} {ds : List PyData} (h : DxAll K G xs ds) (hl : xs.length = 2 ∨ xs.length = 3) :
    (∃ x0 x1 d0 d1, xs = [x0, x1] ∧ ds = [d0, d1] ∧ Dx K G x0 d0 ∧ Dx K G x1 d1) ∨ ∃ x0 x1 x2 d0 d1 d2, xs = [x0, x1, x2] ∧ ds = [d0, d1, d2] ∧ Dx K G x0 d0 ∧ Dx K G x1 d1 ∧ Dx K G x2 d2 := by
  cases h with
  | nil => rcases hl with hl | hl <;> cases hl
  | cons h0 h =>
    cases h with
    | nil => rcases hl with hl | hl <;> cases hl
    | cons h1 h =>
      cases h with
      | nil => exact .inl ⟨_, _, _, _, rfl, rfl, h0, h1⟩
      | cons h2 h =>
        cases h with
        | nil => exact .inr ⟨_, _, _, _, _, _, rfl, rfl, h0, h1, h2⟩
        | cons h3 h =>
          simp only [List.length_cons] at hl
          omega
theorem head_len {ds : List PyData} (h : ¬ (ds.length = 2 ∨ ds.length = 3)) : headD (.tuple ds) = false := by
  match ds, h with
  | [], _ => rfl
  | [d], _ => cases d <;> rfl
  | [_, _], e => exact absurd (.inl rfl) e
  | [_, _, _], e => exact absurd (.inr rfl) e
  | d :: _ :: _ :: _ :: _, _ => cases d <;> rfl
/-! ### xs + zs, xs != [] of any lists -/
def rCatS (K : PySem.W.Frag) : R2 := fun x y H Q => ∃ l b xs zs, x = .ref l ∧ y = .ref b ∧ SqL K H l xs ∧ SqL K H b zs ∧ xs.length + zs.length ≤ sizeLine ∧ ∀ p, H p = none → Q (.ref p) (upd H p (.lst (xs ++ zs)))
theorem op_catS {X : Cx} : OpR X (binaryOp .Add) (rCatS X.K) := by
  intro pins s σ H x y v u Q I rx ry h
  obtain ⟨l, b, xs, zs, rfl, rfl, hH, hB, hz, q⟩ := h
  cases rx
  cases ry
  obtain ⟨its, r, ⟨⟨c1, d1, t1, s1⟩, n1, ho1, hc1, _, hd1⟩, _⟩ := I.list hH
  obtain ⟨its2, r2, ⟨⟨c2, d2, t2, s2⟩, n2, ho2, hc2, _, hd2⟩, _⟩ := I.list hB
  simp only at hc1 hd1 hc2 hd2
  subst hc1 hd1 hc2 hd2
  have e1 := r.length
  have e2 := r2.length
  have room : its.toArray.size + its2.toArray.size ≤ sizeLine := by
    rw [List.size_toArray, List.size_toArray]
    omega
  have run := PyProof.Rows.list_addW l b its.toArray its2.toArray n1 n2 d1 d2 s1 s2 room
  refine PySem.concat_meets ⟨_, ho1, rfl⟩ ⟨_, ho2, rfl⟩ PySem.noFill_list_add PySem.seq_list_add
    PySem.F.slot_list_add PySem.F.entry_list_add (PySem.F.args_list_add_2 _ _) run ⟨ho1, ho2, ?_⟩
  have ea : its.toArray ++ its2.toArray = (its ++ its2).toArray := by simp
  rw [ea]
  exact ⟨.ref _, _, I.lnew (t' := s.toks) (r.append r2) (by rw [List.length_append]; omega), rfl, q _ I.fresh⟩
def rNeNil (K : PySem.W.Frag) : R2 := fun x y H Q => ∃ a b xs, x = .ref a ∧ y = .ref b ∧ SqL K H a xs ∧ SqL K H b [] ∧ Q (.bl (!xs.isEmpty)) H
theorem op_neNil {X : Cx} (hu : X.A.units + 64 < cLine) : OpR X (compareOp .NotEq) (rNeNil X.K) := by
  intro pins s σ H x y v u Q I rx ry h
  obtain ⟨a, b, xs, rfl, rfl, ha, hb, q⟩ := h
  cases xs with
  | nil => exact op_neD hu pins s σ H _ _ v u Q I rx ry ⟨.list [], .list [], .lst ha .nil, .lst hb .nil, by decide +kernel, by decide +kernel, q⟩
  | cons x xs =>
    cases rx
    cases ry
    obtain ⟨its, r, p1, _⟩ := I.list ha
    obtain ⟨its2, r2, p2, _⟩ := I.list hb
    cases r2
    cases r with
    | cons r0 r => exact PySem.SeqAt.RcNeAt.lists_lengths p1.isList p2.isList (by simp) (by omega) _ _ _ _ ⟨.bl true, H, I, rfl, q⟩
theorem head_inv {d : PyData} (h : headD d = true) : (∃ a, d = .tuple [.str "unknown", a] ∧ countD a = true) ∨ ∃ a ts, d = .tuple [.str "kind", a, .list ts] ∧ kindD a = true ∧ ts.length ≤ 3 := by
  unfold headD at h
  split at h
  · rename_i w a
    obtain ⟨h1, h2⟩ := Bool.and_eq_true_iff.mp h
    exact .inl ⟨a, by rw [beq_iff_eq.mp h1], h2⟩
  · rename_i w a b
    obtain ⟨_, h⟩ := Bool.and_eq_true_iff.mp h
    obtain ⟨h1, h⟩ := Bool.and_eq_true_iff.mp h
    obtain ⟨h2, h3⟩ := Bool.and_eq_true_iff.mp h
    cases b with
    | list ts => exact .inr ⟨a, ts, by rw [beq_iff_eq.mp h1], h2, of_decide_eq_true h3⟩
    | _ => cases h3
  · cases h
theorem sides_sml {d : PyData} (h : smlD d = true) : smlAll (sidesD d) = true := by
  unfold sidesD
  split
  · rename_i w a ts
    split
    · have z := smlAll_mem (show smlAll [.str w, a, .list ts] = true from h) (.list ts) (by simp)
      exact z
    · rfl
  · rfl
/-- the parts of types, waiting, looked at from the end: at most so many more -/
def runD : Nat → List PyData → Bool
  | 0, ds => ds.isEmpty
  | n + 1, ds => match ds.getLast? with
    | none => true
    | some d => headD d && runD n (ds.dropLast ++ sidesD d)
def isTyD (d : PyData) : Bool := runD 200 [d]
theorem DxAll.dropLast {K : PySem.W.Frag} {H : Hp} : ∀ {vs : List V} {ds : List PyData}, DxAll K H vs ds → DxAll K H vs.dropLast ds.dropLast
  | _, _, .nil => .nil
  | _, _, .cons h .nil => .nil
  | _, _, .cons h (.cons h1 a) => .cons h (DxAll.dropLast (.cons h1 a))
theorem DxAll.last {K : PySem.W.Frag} {H : Hp} {vs : List V} {ds : List PyData} (h : DxAll K H vs ds) (hne : vs ≠ []) : ∃ v d, vs[vs.length - 1]? = some v ∧ ds.getLast? = some d ∧ Dx K H v d := by
  have hl := h.length
  have hpos : 0 < vs.length := by
    cases vs with
    | nil => exact absurd rfl hne
    | cons _ _ => exact Nat.succ_pos _
  obtain ⟨d, h1, h2⟩ := h.get (i := vs.length - 1) (v := vs[vs.length - 1]) (List.getElem?_eq_getElem (by omega))
  exact ⟨_, d, List.getElem?_eq_getElem (by omega), by rw [List.getLast?_eq_getElem?, ← hl]; exact h1, h2⟩
theorem smlAll_app {a b : List PyData} (h1 : smlAll a = true) (h2 : smlAll b = true) : smlAll (a ++ b) = true := smlAll_of fun d hd => (List.mem_append.mp hd).elim (smlAll_mem h1 d) (smlAll_mem h2 d)
theorem smlAll_drop {a : List PyData} (h : smlAll a = true) : smlAll a.dropLast = true := smlAll_of fun d hd => smlAll_mem h d (List.dropLast_subset a hd)
/-! ### C(v) made and raised -/
theorem made_same {H : Hp} {C a dx : Addr} {fs : List (Str × V)} (ha : H a = none) (hd : upd H a (exo a C none) dx = none) (hne : dx ≠ a) :
    (hpW (upd H a (exo a C none)) C a dx fs) a = some (exo a C (some dx)) ∧ (hpW (upd H a (exo a C none)) C a dx fs) dx = some (exd dx fs) ∧ H dx = none ∧ Same H (upd (del (hpW (upd H a (exo a C none)) C a dx fs) a) dx (.xd fs)) := by
  rw [upd_ne hne] at hd
  refine ⟨upd_same, ?_, hd, fun b o e => ?_⟩
  · unfold hpW
    rw [upd_ne hne]
    exact upd_same
  · rw [upd_ne (ne_of_none e hd), del_ne (ne_of_none e ha)]
    unfold hpW
    rw [upd_ne (ne_of_none e ha), upd_ne (ne_of_none e hd), upd_ne (ne_of_none e ha)]
    exact e
theorem raise_why {K : PySem.W.Frag} {D C : Addr} {σ : St} {H : Hp} {Q : XK} {i : Nat} {v : V} (T : WC K D C) (q : ∀ dx H', Same H H' → H dx = none → H' dx = some (.xd [("value", v)]) → Q (.ref C) (some dx) H') (hi : σ[i]? = some (some v)) :
    tPmE C (spWhy K D) (tCons (tVar i) tNil) σ H Q := by
  refine ⟨_, hi, (by show 1 ≤ 1000; decide), fun a ha => ⟨a, C, v, rfl, T, upd_same, fun dx hdx hne => ?_⟩⟩
  obtain ⟨h1, h2, h3, h4⟩ := made_same (fs := [("value", v)]) ha hdx hne
  exact ⟨rfl, dx, _, h1, h2, h3, q dx _ h4 h3 upd_same⟩
end Wy

set_option Elab.async false
set_option linter.all false
set_option maxRecDepth 100000
set_option maxHeartbeats 1000000
/-! Wy, part U: types as a plain datatype. -/
namespace Wy
open PySem PySem.Spec L2

inductive Ty where
  | unk (n : Nat)
  | kind (k : Str) (ts : List Ty)
mutual
def Ty.toD : Ty → PyData
  | .unk n => .tuple [.str "unknown", .int n]
  | .kind k ts => .tuple [.str "kind", .str k, .list (Ty.toDs ts)]
def Ty.toDs : List Ty → List PyData
  | [] => []
  | t :: ts => t.toD :: Ty.toDs ts
end
mutual
def Ty.size : Ty → Nat
  | .unk _ => 1
  | .kind _ ts => 1 + Ty.sizes ts
def Ty.sizes : List Ty → Nat
  | [] => 0
  | t :: ts => t.size + Ty.sizes ts
end
mutual
/-- the words are names of kinds, no kind has more than three parts -/
def Ty.ok : Ty → Bool
  | .unk _ => true
  | .kind k ts => kindD (.str k) && (decide (ts.length ≤ 3) && Ty.oks ts)
def Ty.oks : List Ty → Bool
  | [] => true
  | t :: ts => t.ok && Ty.oks ts
end
mutual
/-- itself and its parts, from the left -/
def Ty.parts : Ty → List Ty
  | .unk n => [.unk n]
  | .kind k ts => .kind k ts :: Ty.partss ts
def Ty.partss : List Ty → List Ty
  | [] => []
  | t :: ts => t.parts ++ Ty.partss ts
end
def Ty.sides : Ty → List Ty
  | .unk _ => []
  | .kind _ ts => ts
theorem toDs_map : ∀ ts : List Ty, Ty.toDs ts = ts.map Ty.toD
  | [] => rfl
  | t :: ts => by rw [Ty.toDs, toDs_map ts]; rfl
theorem toDs_append (a b : List Ty) : Ty.toDs (a ++ b) = Ty.toDs a ++ Ty.toDs b := by rw [toDs_map, toDs_map, toDs_map, List.map_append]
theorem sizes_append : ∀ a b : List Ty, Ty.sizes (a ++ b) = Ty.sizes a + Ty.sizes b
  | [], b => by simp [Ty.sizes]
  | t :: a, b => by
    have := sizes_append a b
    simp only [List.cons_append, Ty.sizes]
    omega
theorem oks_append : ∀ a b : List Ty, Ty.oks (a ++ b) = (Ty.oks a && Ty.oks b)
  | [], b => by simp [Ty.oks]
  | t :: a, b => by
    have := oks_append a b
    simp only [List.cons_append, Ty.oks, this, Bool.and_assoc]
theorem partss_append : ∀ a b : List Ty, Ty.partss (a ++ b) = Ty.partss a ++ Ty.partss b
  | [], b => by simp [Ty.partss]
  | t :: a, b => by
    have := partss_append a b
    simp only [List.cons_append, Ty.partss, this, List.append_assoc]
theorem parts_eq (t : Ty) : t.parts = t :: Ty.partss t.sides := by
  cases t with
  | unk n => rfl
  | kind k ts => rw [Ty.parts]; rfl
theorem size_eq (t : Ty) : t.size = 1 + Ty.sizes t.sides := by
  cases t with
  | unk n => rfl
  | kind k ts => rw [Ty.size]; rfl
theorem sidesD_toD (t : Ty) : sidesD t.toD = Ty.toDs t.sides := by
  cases t with
  | unk n => rfl
  | kind k ts => rw [Ty.toD]; rfl
theorem headD_toD {t : Ty} (h : t.ok = true) : headD t.toD = true := by
  cases t with
  | unk n =>
    rw [Ty.toD]
    show ((("unknown" : Str) == "unknown") && countD (.int (n : Int))) = true
    rw [show countD (.int (n : Int)) = true from decide_eq_true (Int.natCast_nonneg n), Bool.and_true]
    decide +kernel
  | kind k ts =>
    rw [Ty.ok] at h
    obtain ⟨h1, h⟩ := Bool.and_eq_true_iff.mp h
    obtain ⟨h2, h3⟩ := Bool.and_eq_true_iff.mp h
    rw [Ty.toD]
    show (!(("kind" : Str) == "unknown") && ((("kind" : Str) == "kind") && (kindD (.str k) && decide ((Ty.toDs ts).length ≤ 3)))) = true
    rw [h1, Bool.true_and, toDs_map, List.length_map, h2]
    decide +kernel
theorem oks_sides {t : Ty} (h : t.ok = true) : Ty.oks t.sides = true := by
  cases t with
  | unk n => rfl
  | kind k ts =>
    rw [Ty.ok] at h
    exact (Bool.and_eq_true_iff.mp (Bool.and_eq_true_iff.mp h).2).2
theorem size_pos (t : Ty) : 0 < t.size := by
  rw [size_eq]
  omega
/-- what is_type takes is a type of at most so many parts -/
theorem run_ty : ∀ (n : Nat) (ds : List PyData), runD n ds = true → ∃ ts : List Ty, ds = Ty.toDs ts ∧ Ty.oks ts = true ∧ Ty.sizes ts ≤ n
  | 0, ds, h => by
    have : ds = [] := List.isEmpty_iff.mp h
    exact ⟨[], this, rfl, Nat.le_refl _⟩
  | n + 1, ds, h => by
    cases hl : ds.getLast? with
    | none =>
      have : ds = [] := List.getLast?_eq_none_iff.mp hl
      exact ⟨[], this, rfl, Nat.zero_le _⟩
    | some d =>
      simp only [runD, hl] at h
      obtain ⟨h1, h2⟩ := Bool.and_eq_true_iff.mp h
      obtain ⟨ts, e, ok, sz⟩ := run_ty n _ h2
      rw [toDs_map] at e
      obtain ⟨ta, tb, rfl, ea, eb⟩ := List.map_eq_append_iff.mp e.symm
      rw [oks_append] at ok
      obtain ⟨oa, ob⟩ := Bool.and_eq_true_iff.mp ok
      rw [sizes_append] at sz
      have hds : ds = ds.dropLast ++ [d] := by
        obtain ⟨ys, e⟩ := List.getLast?_eq_some_iff.mp hl
        rw [e, List.dropLast_concat]
      rcases head_inv h1 with ⟨a, rfl, hc⟩ | ⟨a, ss, rfl, hk, hlen⟩
      · cases a with
        | int i =>
          have hi : 0 ≤ i := of_decide_eq_true hc
          refine ⟨ta ++ [.unk i.toNat], ?_, ?_, ?_⟩
          · rw [hds, toDs_append, toDs_map, ea]
            show _ = _ ++ [PyData.tuple [.str "unknown", .int (i.toNat : Int)]]
            rw [Int.toNat_of_nonneg hi]
          · rw [oks_append, oa]
            rfl
          · rw [sizes_append]
            simp only [Ty.sizes, Ty.size]
            omega
        | _ => cases hc
      · cases a with
        | str k =>
          have eb' : ss = Ty.toDs tb := by
            rw [toDs_map, eb]
            rfl
          refine ⟨ta ++ [.kind k tb], ?_, ?_, ?_⟩
          · rw [hds, toDs_append, toDs_map ta, ea]
            show _ = _ ++ [PyData.tuple [.str "kind", .str k, .list (Ty.toDs tb)]]
            rw [eb']
          · rw [oks_append, oa]
            have : tb.length ≤ 3 := by
              rw [eb', toDs_map, List.length_map] at hlen
              exact hlen
            simp only [Ty.oks, Ty.ok, hk, ob, decide_eq_true this, Bool.and_true]
          · rw [sizes_append]
            simp only [Ty.sizes, Ty.size]
            omega
        | _ => cases hk
theorem ty_run : ∀ (n : Nat) (ts : List Ty), Ty.oks ts = true → Ty.sizes ts ≤ n → runD n (Ty.toDs ts) = true
  | 0, ts, _, h => by
    cases ts with
    | nil => rfl
    | cons t ts =>
      have := size_pos t
      simp only [Ty.sizes] at h
      omega
  | n + 1, ts, ok, h => by
    rcases List.eq_nil_or_concat ts with rfl | ⟨ta, t, rfl⟩
    · rfl
    · rw [List.concat_eq_append] at ok h ⊢
      rw [oks_append] at ok
      obtain ⟨oa, ot⟩ := Bool.and_eq_true_iff.mp ok
      have ot' : t.ok = true := by simpa [Ty.oks] using ot
      rw [sizes_append] at h
      simp only [Ty.sizes] at h
      have hs := size_eq t
      have e : (Ty.toDs (ta ++ [t])) = Ty.toDs ta ++ [t.toD] := by
        rw [toDs_append]
        rfl
      rw [e]
      simp only [runD, List.getLast?_append, List.getLast?_singleton, Option.some_or, List.dropLast_concat]
      rw [headD_toD ot', Bool.true_and, sidesD_toD, ← toDs_append]
      exact ty_run n _ (by rw [oks_append, oa, oks_sides ot']; rfl) (by rw [sizes_append]; omega)
theorem isTy_iff (d : PyData) : isTyD d = true ↔ ∃ t : Ty, d = t.toD ∧ t.ok = true ∧ t.size ≤ 200 := by
  constructor
  · intro h
    obtain ⟨ts, e, ok, sz⟩ := run_ty 200 [d] h
    match ts, e with
    | [t], e =>
      refine ⟨t, ?_, by simpa [Ty.oks] using ok, by simpa [Ty.sizes] using sz⟩
      have := List.cons.inj e
      exact this.1
    | [], e => cases e
    | _ :: _ :: _, e => cases (List.cons.inj e).2
  · rintro ⟨t, rfl, ok, sz⟩
    exact ty_run 200 [t] (by simpa [Ty.oks] using ok) (by simpa [Ty.sizes] using sz)
theorem DxAll.concat_inv {K : PySem.W.Frag} {H : Hp} : ∀ {ws : List V} {ds : List PyData} {d : PyData}, DxAll K H ws (ds ++ [d]) → ∃ ws' y, ws = ws' ++ [y] ∧ DxAll K H ws' ds ∧ Dx K H y d
  | _, [], _, .cons h .nil => ⟨[], _, rfl, .nil, h⟩
  | _, e :: ds, d, .cons h a => by
    obtain ⟨ws', y, rfl, h1, h2⟩ := DxAll.concat_inv (ds := ds) a
    exact ⟨_ :: ws', y, rfl, .cons h h1, h2⟩
theorem DxAll.reverse {K : PySem.W.Frag} {H : Hp} : ∀ {ws : List V} {ds : List PyData}, DxAll K H ws ds → DxAll K H ws.reverse ds.reverse
  | _, _, .nil => .nil
  | _, _, .cons h a => by
    rw [List.reverse_cons, List.reverse_cons]
    exact DxAll.append (DxAll.reverse a) (.cons h .nil)
mutual
theorem parts_length : ∀ t : Ty, t.parts.length = t.size
  | .unk _ => rfl
  | .kind k ts => by
    rw [Ty.parts, Ty.size, List.length_cons, partss_length ts]
    omega
theorem partss_length : ∀ ts : List Ty, (Ty.partss ts).length = Ty.sizes ts
  | [] => rfl
  | t :: ts => by rw [Ty.partss, Ty.sizes, List.length_append, parts_length t, partss_length ts]
end
theorem oks_reverse : ∀ ts : List Ty, Ty.oks ts = true → Ty.oks ts.reverse = true
  | [], h => h
  | t :: ts, h => by
    obtain ⟨h1, h2⟩ := Bool.and_eq_true_iff.mp (show (t.ok && Ty.oks ts) = true from h)
    rw [List.reverse_cons, oks_append, oks_reverse ts h2]
    simp [Ty.oks, h1]
theorem sizes_reverse : ∀ ts : List Ty, Ty.sizes ts.reverse = Ty.sizes ts
  | [] => rfl
  | t :: ts => by
    rw [List.reverse_cons, sizes_append, sizes_reverse ts]
    simp only [Ty.sizes]
    omega
theorem sides_three {t : Ty} (h : t.ok = true) : t.sides.length ≤ 3 := by
  cases t with
  | unk n => exact Nat.zero_le _
  | kind k ts =>
    rw [Ty.ok] at h
    exact of_decide_eq_true (Bool.and_eq_true_iff.mp (Bool.and_eq_true_iff.mp h).2).1
theorem sizes_ge : ∀ ts : List Ty, ts.length ≤ Ty.sizes ts
  | [] => Nat.le_refl _
  | t :: ts => by
    have h1 := sizes_ge ts
    have h2 := size_pos t
    simp only [List.length_cons, Ty.sizes]
    omega
end Wy

set_option Elab.async false
set_option linter.all false
set_option maxRecDepth 100000
set_option maxHeartbeats 1000000
/-! Wy, part V: d.update(dict). -/
namespace Wy
open PySem PySem.Spec L2
def rUpdD : V → List V → Hp → VK → Prop := fun x vs H Q => ∃ a b ks ls, x = .ref a ∧ vs = [.ref b] ∧ H a = some (.dK ks) ∧ H b = some (.dK ls) ∧ a ≠ b ∧ ks.length + ls.length ≤ sizeLine ∧ Q .non (upd H a (.dK (mergeK ks ls)))
theorem mt_updateD {X : Cx} : MtM X "dict.update" rUpdD := by
  intro pins s σ H x vs v us Q I rx rv h
  obtain ⟨a, b, ks, ls, rfl, rfl, ha, hb, hab, hz, q⟩ := h
  cases rx
  obtain ⟨u, rfl, ru⟩ := Vals.one rv
  cases ru
  obtain ⟨z1, da, va, ra, oa⟩ := dk_of I.hok ha
  obtain ⟨z2, db, vb, rb, ob⟩ := dk_of I.hok hb
  refine call_meetsIn PySem.F.slot_dict_update oa.typeIs PySem.F.entry_dict_update (PySem.F.args_dict_update_2 _ _) (meets_dict_update (mixKind X.prog X.w) a b hab db)
    ⟨va, vb, oa, ob, by rw [← ra.length, ← rb.length]; exact hz, fun h' d1 d2 hs => ?_⟩
  have hl : (mergeK ks ls).length ≤ sizeLine := Nat.le_trans (length_mergeK ls ks) hz
  have he : ∃ q, h'.get? a = some q := let ⟨q, _, _, hq, _⟩ := d1; ⟨q, hq⟩
  exact ⟨.non, _, d_write (t' := s.toks) I (by rw [ha]; exact True.intro) hs he (dk_new hl da (KV.merge rb ra) d1), rfl, q⟩
/-- a dict comprehension over any walk -/
theorem dc_walk {J : It} {n : Nat} {G : Hp → Prop} {Y : Nat → Hp → V → Hp → Prop} (w : Walk J n G Y) {g : TG} {tt : TT} {tk tv : TE} {vs : List Nat} {σ : St} {H1 : Hp} {D : Addr} {Qd : Hp → Prop} (Pv : Nat → Hp → Prop) (h0 : Pv 0 (upd H1 D (.dK []))) (hG : ∀ i H, i ≤ n → Pv i H → G H)
    (hs : ∀ i x H H', i < n → Pv i H → Y i H x H' → g x (wipe σ vs) H' fun σ2 H2 => wipe σ2 vs = wipe σ vs ∧ tt σ2 H2 fun b H3 =>
      if b = true then tk σ2 H3 fun y H4 => tv σ2 H4 fun z H5 => ∃ kvs k, y = kV k ∧ H5 D = some (.dK kvs) ∧ kvs.length < sizeLine ∧ Pv (i + 1) (upd H5 D (.dK (putK kvs k z))) else Pv (i + 1) H3) (hd : ∀ H, Pv n H → Qd H) :
    ∃ W : Nat → Nat → Hp → Prop, (∃ m, W 0 m (upd H1 D (.dK []))) ∧ ∀ i m H, W i m H →
      (J.stop i H ∧ Qd H) ∨ (J.go i H ∧ ∃ Nx : Hp → Prop, (∀ H', Nx H' → ∃ m', m' < m ∧ W (i + 1) m' H') ∧ ∀ x H', J.yld i H x H' → g x (wipe σ vs) H' fun σ2 H2 => wipe σ2 vs = wipe σ vs ∧ tt σ2 H2 fun b H3 =>
        if b = true then tk σ2 H3 fun y H4 => tv σ2 H4 fun z H5 => ∃ kvs k, y = kV k ∧ H5 D = some (.dK kvs) ∧ kvs.length < sizeLine ∧ Nx (upd H5 D (.dK (putK kvs k z))) else Nx H3) :=
  ⟨fun i m H => m + i = n ∧ Pv i H, ⟨n, rfl, h0⟩, fun i m H ⟨e, p⟩ => by
    have q := hG i H (by omega) p
    cases m with
    | zero =>
      obtain rfl : i = n := by omega
      exact .inl ⟨w.stops H q, hd H p⟩
    | succ m => exact .inr ⟨w.goes i H (by omega) q, Pv (i + 1), fun H' p' => ⟨m, Nat.lt_succ_self m, by omega, p'⟩, fun x H' y => hs i x H H' (by omega) p (w.yields i H x H' (by omega) q y)⟩⟩
/-! ### numbers, each once -/
def addN (ns : List Nat) (n : Nat) : List Nat := if n ∈ ns then ns else ns ++ [n]
def addAll (ns ms : List Nat) : List Nat := ms.foldl addN ns
def unkN : Ty → Option Nat
  | .unk n => some n
  | .kind _ _ => none
def numT (t : Ty) : List Nat := t.parts.filterMap unkN
def numsIn (ts : List Ty) : List Nat := ts.foldl (fun ns t => addAll ns (addAll [] (numT t))) []
/-- a dict of numbers -/
def kd (ns : List Nat) : List (Key × V) := ns.map fun (n : Nat) => ((Sum.inl (n : Int) : Key), V.bl true)
theorem kd_put (ns : List Nat) (n : Nat) : putK (kd ns) (Sum.inl (n : Int)) (.bl true) = kd (addN ns n) := by
  unfold putK addN kd
  by_cases h : n ∈ ns
  · rw [if_pos h, if_pos]
    · rw [List.map_map]
      apply List.map_congr_left
      intro m _
      show (if (Sum.inl (m : Int) : Key) = Sum.inl (n : Int) then _ else _) = _
      split
      · rfl
      · rfl
    · rw [List.any_eq_true]
      exact ⟨_, List.mem_map_of_mem h, decide_eq_true rfl⟩
  · rw [if_neg h, if_neg, List.map_append]
    · rfl
    · intro z
      rw [List.any_eq_true] at z
      obtain ⟨p, hp, e⟩ := z
      obtain ⟨m, hm, rfl⟩ := List.mem_map.mp hp
      have e' := Sum.inl.inj (of_decide_eq_true e)
      have : m = n := by exact_mod_cast e'
      exact h (this ▸ hm)
theorem kd_merge : ∀ (ms ns : List Nat), mergeK (kd ns) (kd ms) = kd (addAll ns ms)
  | [], ns => rfl
  | m :: ms, ns => by
    have e : mergeK (kd ns) (kd (m :: ms)) = mergeK (putK (kd ns) (Sum.inl (m : Int)) (.bl true)) (kd ms) := rfl
    rw [e, kd_put, kd_merge ms]
    rfl
theorem addN_length (ns : List Nat) (n : Nat) : (addN ns n).length ≤ ns.length + 1 := by
  unfold addN
  split
  · omega
  · simp
theorem addAll_length : ∀ (ms ns : List Nat), (addAll ns ms).length ≤ ns.length + ms.length
  | [], ns => Nat.le_refl _
  | m :: ms, ns => by
    have h1 := addAll_length ms (addN ns m)
    have h2 := addN_length ns m
    show (addAll (addN ns m) ms).length ≤ _
    rw [List.length_cons]
    omega
theorem numT_length (t : Ty) : (numT t).length ≤ t.size := by
  rw [← parts_length]
  exact List.length_filterMap_le ..
theorem oks_mem : ∀ {ts : List Ty}, Ty.oks ts = true → ∀ t ∈ ts, t.ok = true
  | [], _, _, h => by cases h
  | x :: xs, h, t, ht => by
    obtain ⟨h1, h2⟩ := Bool.and_eq_true_iff.mp (show (x.ok && Ty.oks xs) = true from h)
    rcases List.mem_cons.mp ht with rfl | ht
    · exact h1
    · exact oks_mem h2 t ht
theorem sizes_mem : ∀ {ts : List Ty} {t : Ty}, t ∈ ts → t.size ≤ Ty.sizes ts
  | x :: xs, t, ht => by
    rcases List.mem_cons.mp ht with rfl | ht
    · exact Nat.le_add_right _ _
    · exact Nat.le_trans (sizes_mem ht) (Nat.le_add_left _ _)
theorem sizes_take : ∀ (ts : List Ty) (i : Nat), Ty.sizes (ts.take i) ≤ Ty.sizes ts
  | [], i => by simp [Ty.sizes]
  | t :: ts, 0 => Nat.zero_le _
  | t :: ts, i + 1 => by
    have := sizes_take ts i
    simp only [List.take_succ_cons, Ty.sizes]
    omega
end Wy

set_option Elab.async false
set_option linter.all false
set_option maxRecDepth 100000
set_option maxHeartbeats 1000000
/-! Wy, part W: trees: data whose lists are told by their addresses; types put in. -/
namespace Wy
open PySem PySem.Spec L2
mutual
/-- data whose lists stand at S, each once; sh: what is shared -/
inductive Tr (K : PySem.W.Frag) (sh : V → PyData → Prop) (H : Hp) : V → PyData → List Addr → Prop
  | sh {v : V} {d : PyData} : sh v d → Tr K sh H v d []
  | bl (b : Bool) : Tr K sh H (.bl b) (.bool b) []
  | int (i : Int) : Tr K sh H (.int i) (.int i) []
  | str (x : Str) : Tr K sh H (.str x) (.str x) []
  | tup {a : Addr} {xs : List V} {ds : List PyData} {S : List Addr} : SqT K H a xs → TrAll K sh H xs ds S → Tr K sh H (.ref a) (.tuple ds) S
  | lst {a : Addr} {xs : List V} {ds : List PyData} {S : List Addr} : H a = some (.lst xs) → TrAll K sh H xs ds S → a ∉ S → Tr K sh H (.ref a) (.list ds) (a :: S)
inductive TrAll (K : PySem.W.Frag) (sh : V → PyData → Prop) (H : Hp) : List V → List PyData → List Addr → Prop
  | nil : TrAll K sh H [] [] []
  | cons {v : V} {vs : List V} {d : PyData} {ds : List PyData} {S T : List Addr} : Tr K sh H v d S → TrAll K sh H vs ds T → (∀ a ∈ S, a ∉ T) → TrAll K sh H (v :: vs) (d :: ds) (S ++ T)
end
mutual
theorem Tr.mono {K : PySem.W.Frag} {sh : V → PyData → Prop} {H H' : Hp} (s : Same H H') : ∀ {v : V} {d : PyData} {S : List Addr}, Tr K sh H v d S → Tr K sh H' v d S
  | _, _, _, .sh h => .sh h
  | _, _, _, .bl b => .bl b
  | _, _, _, .int i => .int i
  | _, _, _, .str x => .str x
  | _, _, _, .tup h a => .tup (same_seqT s h) (TrAll.mono s a)
  | _, _, _, .lst h a n => .lst (s _ _ h) (TrAll.mono s a) n
theorem TrAll.mono {K : PySem.W.Frag} {sh : V → PyData → Prop} {H H' : Hp} (s : Same H H') : ∀ {vs : List V} {ds : List PyData} {S : List Addr}, TrAll K sh H vs ds S → TrAll K sh H' vs ds S
  | _, _, _, .nil => .nil
  | _, _, _, .cons h a n => .cons (Tr.mono s h) (TrAll.mono s a) n
end
mutual
theorem Tr.dx {K : PySem.W.Frag} {sh : V → PyData → Prop} {H : Hp} (hs : ∀ v d, sh v d → Dx K H v d) : ∀ {v : V} {d : PyData} {S : List Addr}, Tr K sh H v d S → Dx K H v d
  | _, _, _, .sh h => hs _ _ h
  | _, _, _, .bl b => .bl b
  | _, _, _, .int i => .int i
  | _, _, _, .str x => .str x
  | _, _, _, .tup h a => .tup h (TrAll.dx hs a)
  | _, _, _, .lst h a _ => .lst (SqL.of h) (TrAll.dx hs a)
theorem TrAll.dx {K : PySem.W.Frag} {sh : V → PyData → Prop} {H : Hp} (hs : ∀ v d, sh v d → Dx K H v d) : ∀ {vs : List V} {ds : List PyData} {S : List Addr}, TrAll K sh H vs ds S → DxAll K H vs ds
  | _, _, _, .nil => .nil
  | _, _, _, .cons h a _ => .cons (Tr.dx hs h) (TrAll.dx hs a)
end
theorem TrAll.snoc {K : PySem.W.Frag} {sh : V → PyData → Prop} {H : Hp} : ∀ {vs : List V} {ds : List PyData} {S T : List Addr} {v : V} {d : PyData}, TrAll K sh H vs ds S → Tr K sh H v d T → (∀ a ∈ S, a ∉ T) → TrAll K sh H (vs ++ [v]) (ds ++ [d]) (S ++ T)
  | _, _, _, T, v, d, .nil, h, _ => by
    have := TrAll.cons (T := []) h .nil (fun _ _ z => by cases z)
    rw [List.append_nil] at this
    exact this
  | _, _, _, T, v, d, .cons (S := S1) (T := T1) h a n, h2, n2 => by
    rw [List.append_assoc]
    exact .cons h (TrAll.snoc a h2 fun x hx => n2 x (List.mem_append_right _ hx)) fun x hx z => (List.mem_append.mp z).elim (n x hx) (n2 x (List.mem_append_left _ hx))
theorem TrAll.length {K : PySem.W.Frag} {sh : V → PyData → Prop} {H : Hp} : ∀ {vs : List V} {ds : List PyData} {S : List Addr}, TrAll K sh H vs ds S → vs.length = ds.length
  | _, _, _, .nil => rfl
  | _, _, _, .cons _ a _ => congrArg Nat.succ (TrAll.length a)
mutual
/-- types put in for numbers -/
def Ty.put (f : Nat → Option Ty) : Ty → Ty
  | .unk n => (f n).getD (.unk n)
  | .kind k ts => .kind k (Ty.puts f ts)
def Ty.puts (f : Nat → Option Ty) : List Ty → List Ty
  | [] => []
  | t :: ts => t.put f :: Ty.puts f ts
end
theorem puts_map (f : Nat → Option Ty) : ∀ ts : List Ty, Ty.puts f ts = ts.map (Ty.put f)
  | [] => rfl
  | t :: ts => by rw [Ty.puts, puts_map f ts]; rfl
mutual
def Ty.deep : Ty → Nat
  | .unk _ => 0
  | .kind _ ts => 1 + Ty.deeps ts
def Ty.deeps : List Ty → Nat
  | [] => 0
  | t :: ts => max t.deep (Ty.deeps ts)
end
theorem deep_mem : ∀ {ts : List Ty} {t : Ty}, t ∈ ts → t.deep ≤ Ty.deeps ts
  | x :: xs, t, h => by
    rcases List.mem_cons.mp h with rfl | h
    · exact Nat.le_max_left _ _
    · exact Nat.le_trans (deep_mem h) (Nat.le_max_right _ _)
theorem tr_unk {K : PySem.W.Frag} {sh : V → PyData → Prop} {H Fh : Hp} {p : Addr} {xs : List V} {m : Nat} (hq : SqT K H p xs) (h : DxAll K Fh xs [.str "unknown", .int (m : Int)]) : Tr K sh H (.ref p) (Ty.unk m).toD [] := by
  cases h with
  | cons h0 h =>
    cases h with
    | cons h1 h =>
      cases h
      cases h0
      cases h1
      exact .tup (S := []) hq (.cons (S := []) (T := []) (.str _) (.cons (S := []) (T := []) (.int _) .nil (fun _ z => by cases z)) (fun _ z => by cases z))
theorem tr_kind {K : PySem.W.Frag} {sh : V → PyData → Prop} {H : Hp} {p D : Addr} {k : Str} {acc : List V} {ts : List Ty} {S : List Addr} (hq : H p = some (.tup [.str "kind", .str k, .ref D])) (hD : H D = some (.lst acc)) (h : TrAll K sh H acc (Ty.toDs ts) S) (hn : D ∉ S) : Tr K sh H (.ref p) (Ty.kind k ts).toD (D :: S) := by
  have e : D :: S = [] ++ ([] ++ ((D :: S) ++ [])) := by simp
  rw [e, Ty.toD]
  exact .tup (SqT.of hq) (.cons (.str _) (.cons (.str _) (.cons (.lst hD h hn) .nil (fun _ _ z => by cases z)) (fun _ z => by cases z)) (fun _ z => by cases z))
mutual
theorem Tr.there {K : PySem.W.Frag} {sh : V → PyData → Prop} {H : Hp} : ∀ {v : V} {d : PyData} {S : List Addr}, Tr K sh H v d S → ∀ a ∈ S, ∃ xs, H a = some (.lst xs)
  | _, _, _, .sh h, a, ha => by cases ha
  | _, _, _, .bl b, a, ha => by cases ha
  | _, _, _, .int i, a, ha => by cases ha
  | _, _, _, .str x, a, ha => by cases ha
  | _, _, _, .tup h t, a, ha => TrAll.there t a ha
  | _, _, _, .lst h t n, a, ha => by
    rcases List.mem_cons.mp ha with rfl | ha
    · exact ⟨_, h⟩
    · exact TrAll.there t a ha
theorem TrAll.there {K : PySem.W.Frag} {sh : V → PyData → Prop} {H : Hp} : ∀ {vs : List V} {ds : List PyData} {S : List Addr}, TrAll K sh H vs ds S → ∀ a ∈ S, ∃ xs, H a = some (.lst xs)
  | _, _, _, .nil, a, ha => by cases ha
  | _, _, _, .cons h t n, a, ha => (List.mem_append.mp ha).elim (Tr.there h a) (TrAll.there t a)
end
theorem sqT_out {K : PySem.W.Frag} {H : Hp} {D a : Addr} {acc xs : List V} (hD : H D = some (.lst acc)) (h : SqT K H a xs) : SqT K (outA H D) a xs := by
  rcases h with (h | ⟨o, h⟩) | h
  · refine .inl (.inl ?_)
    rw [outA_ne]
    · exact h
    · intro z
      rw [z, hD] at h
      cases h
  · refine .inl (.inr ⟨o, ?_⟩)
    rw [outA_ne]
    · exact h
    · intro z
      rw [z, hD] at h
      cases h
  · exact .inr h
mutual
theorem Tr.out {K : PySem.W.Frag} {sh : V → PyData → Prop} {H : Hp} {D : Addr} {acc : List V} (hD : H D = some (.lst acc)) : ∀ {v : V} {d : PyData} {S : List Addr}, Tr K sh H v d S → D ∉ S → Tr K sh (outA H D) v d S
  | _, _, _, .sh h, _ => .sh h
  | _, _, _, .bl b, _ => .bl b
  | _, _, _, .int i, _ => .int i
  | _, _, _, .str x, _ => .str x
  | _, _, _, .tup h t, n => .tup (sqT_out hD h) (TrAll.out hD t n)
  | _, _, _, .lst h t m, n => .lst (by
      rw [outA_ne (fun z => n (by rw [z]; exact List.mem_cons_self ..))]
      exact h) (TrAll.out hD t (fun z => n (List.mem_cons_of_mem _ z))) m
theorem TrAll.out {K : PySem.W.Frag} {sh : V → PyData → Prop} {H : Hp} {D : Addr} {acc : List V} (hD : H D = some (.lst acc)) : ∀ {vs : List V} {ds : List PyData} {S : List Addr}, TrAll K sh H vs ds S → D ∉ S → TrAll K sh (outA H D) vs ds S
  | _, _, _, .nil, _ => .nil
  | _, _, _, .cons h t m, n => .cons (Tr.out hD h fun z => n (List.mem_append_left _ z)) (TrAll.out hD t fun z => n (List.mem_append_right _ z)) m
end
mutual
theorem put_none : ∀ t : Ty, t.put (fun _ => none) = t
  | .unk n => rfl
  | .kind k ts => by rw [Ty.put, puts_none ts]
theorem puts_none : ∀ ts : List Ty, Ty.puts (fun _ => none) ts = ts
  | [] => rfl
  | t :: ts => by rw [Ty.puts, put_none t, puts_none ts]
end
mutual
theorem Tr.imp {K : PySem.W.Frag} {sh sh' : V → PyData → Prop} {H : Hp} (f : ∀ v d, sh v d → sh' v d) : ∀ {v : V} {d : PyData} {S : List Addr}, Tr K sh H v d S → Tr K sh' H v d S
  | _, _, _, .sh h => .sh (f _ _ h)
  | _, _, _, .bl b => .bl b
  | _, _, _, .int i => .int i
  | _, _, _, .str x => .str x
  | _, _, _, .tup h a => .tup h (TrAll.imp f a)
  | _, _, _, .lst h a n => .lst h (TrAll.imp f a) n
theorem TrAll.imp {K : PySem.W.Frag} {sh sh' : V → PyData → Prop} {H : Hp} (f : ∀ v d, sh v d → sh' v d) : ∀ {vs : List V} {ds : List PyData} {S : List Addr}, TrAll K sh H vs ds S → TrAll K sh' H vs ds S
  | _, _, _, .nil => .nil
  | _, _, _, .cons h a n => .cons (Tr.imp f h) (TrAll.imp f a) n
end
/-! ### numbers told anew -/
theorem addN_nodup {ns : List Nat} {n : Nat} (h : ns.Nodup) : (addN ns n).Nodup := by
  unfold addN
  split
  · exact h
  · rename_i z
    rw [List.nodup_append]
    exact ⟨h, by simp, fun a ha b hb e => z (by rw [← List.mem_singleton.mp hb, ← e]; exact ha)⟩
theorem addAll_nodup : ∀ {ms ns : List Nat}, ns.Nodup → (addAll ns ms).Nodup
  | [], ns, h => h
  | m :: ms, ns, h => addAll_nodup (ns := addN ns m) (addN_nodup h)
theorem numsIn_nodup (ts : List Ty) : (numsIn ts).Nodup := by
  unfold numsIn
  have : ∀ (l : List Ty) (ns : List Nat), ns.Nodup → (l.foldl (fun ns t => addAll ns (addAll [] (numT t))) ns).Nodup := by
    intro l
    induction l with
    | nil => intro ns h; exact h
    | cons t l ih => intro ns h; exact ih _ (addAll_nodup h)
  exact this ts [] List.nodup_nil
/-- the i-th of these numbers is i from now on -/
def renum (ns : List Nat) : Nat → Option Ty := fun n => if n ∈ ns then some (.unk (ns.idxOf n)) else none
mutual
theorem deep_renum (ns : List Nat) : ∀ t : Ty, (t.put (renum ns)).deep = t.deep
  | .unk n => by
    rw [Ty.put]
    unfold renum
    split <;> rfl
  | .kind k ts => by rw [Ty.put, Ty.deep, Ty.deep, deeps_renum ns ts]
theorem deeps_renum (ns : List Nat) : ∀ ts : List Ty, Ty.deeps (Ty.puts (renum ns) ts) = Ty.deeps ts
  | [] => rfl
  | t :: ts => by rw [Ty.puts, Ty.deeps, Ty.deeps, deep_renum ns t, deeps_renum ns ts]
end
mutual
theorem ok_renum (ns : List Nat) : ∀ t : Ty, (t.put (renum ns)).ok = t.ok
  | .unk n => by
    rw [Ty.put]
    unfold renum
    split <;> rfl
  | .kind k ts => by rw [Ty.put, Ty.ok, Ty.ok, oks_renum ns ts, puts_map, List.length_map]
theorem oks_renum (ns : List Nat) : ∀ ts : List Ty, Ty.oks (Ty.puts (renum ns) ts) = Ty.oks ts
  | [] => rfl
  | t :: ts => by rw [Ty.puts, Ty.oks, Ty.oks, ok_renum ns t, oks_renum ns ts]
end
theorem numsIn_le (ts : List Ty) : (numsIn ts).length ≤ Ty.sizes ts := by
  unfold numsIn
  have : ∀ (l : List Ty) (ns : List Nat), (l.foldl (fun ns t => addAll ns (addAll [] (numT t))) ns).length ≤ ns.length + Ty.sizes l := by
    intro l
    induction l with
    | nil => intro ns; exact Nat.le_refl _
    | cons t l ih =>
      intro ns
      have h1 := ih (addAll ns (addAll [] (numT t)))
      have h2 := addAll_length (addAll [] (numT t)) ns
      have h3 := addAll_length (numT t) []
      have h4 := numT_length t
      simp only [List.length_nil] at h3
      simp only [List.foldl_cons, Ty.sizes]
      omega
  have := this ts []
  simpa using this
theorem deeps_append : ∀ a b : List Ty, Ty.deeps (a ++ b) = max (Ty.deeps a) (Ty.deeps b)
  | [], b => by simp [Ty.deeps]
  | t :: a, b => by
    have := deeps_append a b
    simp only [List.cons_append, Ty.deeps, this, Nat.max_assoc]
end Wy

set_option Elab.async false
set_option linter.all false
set_option maxRecDepth 100000
set_option maxHeartbeats 1000000
/-! Wy, part M: numbers told anew: the mathematics of plain types. -/
namespace Wy
open PySem PySem.Spec L2
theorem addN_mem {ns : List Nat} {n x : Nat} : x ∈ addN ns n ↔ x ∈ ns ∨ x = n := by
  unfold addN
  split
  · rename_i h
    exact ⟨.inl, fun z => z.elim id fun z => z ▸ h⟩
  · rw [List.mem_append, List.mem_singleton]
theorem addAll_mem : ∀ {ms ns : List Nat} {x : Nat}, x ∈ addAll ns ms ↔ x ∈ ns ∨ x ∈ ms
  | [], ns, x => by simp [addAll]
  | m :: ms, ns, x => by
    have := addAll_mem (ms := ms) (ns := addN ns m) (x := x)
    show x ∈ addAll (addN ns m) ms ↔ _
    rw [this, addN_mem, List.mem_cons, or_assoc]
theorem addAll_append (ns a b : List Nat) : addAll ns (a ++ b) = addAll (addAll ns a) b := by
  unfold addAll
  rw [List.foldl_append]
theorem addN_same {ns : List Nat} {n : Nat} (h : n ∈ ns) : addN ns n = ns := if_pos h
theorem addAll_absorb : ∀ {ms ns : List Nat}, (∀ x ∈ ms, x ∈ ns) → addAll ns ms = ns
  | [], ns, _ => rfl
  | m :: ms, ns, h => by
    show addAll (addN ns m) ms = ns
    rw [addN_same (h m (List.mem_cons_self ..))]
    exact addAll_absorb fun x hx => h x (List.mem_cons_of_mem _ hx)
theorem addAll_all : ∀ (ms ks ns : List Nat), addAll ns (addAll ks ms) = addAll (addAll ns ks) ms
  | [], ks, ns => rfl
  | m :: ms, ks, ns => by
    show addAll ns (addAll (addN ks m) ms) = addAll (addN (addAll ns ks) m) ms
    rw [addAll_all ms]
    congr 1
    by_cases h : m ∈ ks
    · rw [addN_same h, addN_same (addAll_mem.mpr (.inr h))]
    · rw [show addN ks m = ks ++ [m] from if_neg h, addAll_append]
      rfl
def allNums (ts : List Ty) : List Nat := (Ty.partss ts).filterMap unkN
theorem allNums_cons (t : Ty) (ts : List Ty) : allNums (t :: ts) = numT t ++ allNums ts := by
  unfold allNums numT
  rw [Ty.partss, List.filterMap_append]
theorem allNums_one (t : Ty) : allNums [t] = numT t := by
  rw [allNums_cons]
  show numT t ++ [] = _
  rw [List.append_nil]
theorem numsIn_eq (ts : List Ty) : numsIn ts = addAll [] (allNums ts) := by
  unfold numsIn
  have : ∀ (l : List Ty) (ns : List Nat), l.foldl (fun ns t => addAll ns (addAll [] (numT t))) ns = addAll ns (allNums l) := by
    intro l
    induction l with
    | nil => intro ns; rfl
    | cons t l ih =>
      intro ns
      rw [List.foldl_cons, ih, allNums_cons, addAll_append, addAll_all]
      rfl
  exact this ts []
theorem numT_unk (n : Nat) : numT (.unk n) = [n] := rfl
theorem numT_kind (k : Str) (ts : List Ty) : numT (.kind k ts) = allNums ts := by
  unfold numT allNums
  rw [Ty.parts]
  rfl
/-- numbers told anew by r -/
def Ty.ren (r : Nat → Nat) (t : Ty) : Ty := t.put fun n => some (.unk (r n))
mutual
theorem put_congr {f g : Nat → Option Ty} : ∀ t : Ty, (∀ n ∈ numT t, f n = g n) → t.put f = t.put g
  | .unk n, h => by rw [Ty.put, Ty.put, h n (by rw [numT_unk]; exact List.mem_singleton_self n)]
  | .kind k ts, h => by rw [Ty.put, Ty.put, puts_congr ts (by rw [numT_kind] at h; exact h)]
theorem puts_congr {f g : Nat → Option Ty} : ∀ ts : List Ty, (∀ n ∈ allNums ts, f n = g n) → Ty.puts f ts = Ty.puts g ts
  | [], _ => rfl
  | t :: ts, h => by
    rw [allNums_cons] at h
    rw [Ty.puts, Ty.puts, put_congr t (fun n hn => h n (List.mem_append_left _ hn)), puts_congr ts (fun n hn => h n (List.mem_append_right _ hn))]
end
mutual
theorem numT_ren (r : Nat → Nat) : ∀ t : Ty, numT (t.ren r) = (numT t).map r
  | .unk n => rfl
  | .kind k ts => by
    unfold Ty.ren
    rw [Ty.put, numT_kind, numT_kind, allNums_ren r ts]
theorem allNums_ren (r : Nat → Nat) : ∀ ts : List Ty, allNums (Ty.puts (fun n => some (.unk (r n))) ts) = (allNums ts).map r
  | [] => rfl
  | t :: ts => by
    rw [Ty.puts, allNums_cons, allNums_cons, List.map_append, allNums_ren r ts]
    congr 1
    exact numT_ren r t
end
mutual
theorem ren_put (r : Nat → Nat) (g : Nat → Option Ty) : ∀ t : Ty, (t.ren r).put g = t.put fun n => some ((g (r n)).getD (.unk (r n)))
  | .unk n => rfl
  | .kind k ts => by
    unfold Ty.ren
    rw [Ty.put, Ty.put, Ty.put, rens_puts r g ts]
theorem rens_puts (r : Nat → Nat) (g : Nat → Option Ty) : ∀ ts : List Ty, Ty.puts g (Ty.puts (fun n => some (.unk (r n))) ts) = Ty.puts (fun n => some ((g (r n)).getD (.unk (r n)))) ts
  | [] => rfl
  | t :: ts => by
    rw [Ty.puts, Ty.puts, Ty.puts, rens_puts r g ts]
    congr 1
    exact ren_put r g t
end
mutual
theorem ok_ren (r : Nat → Nat) : ∀ t : Ty, (t.ren r).ok = t.ok
  | .unk n => rfl
  | .kind k ts => by
    unfold Ty.ren
    rw [Ty.put, Ty.ok, Ty.ok, oks_ren r ts, puts_map, List.length_map]
theorem oks_ren (r : Nat → Nat) : ∀ ts : List Ty, Ty.oks (Ty.puts (fun n => some (.unk (r n))) ts) = Ty.oks ts
  | [] => rfl
  | t :: ts => by
    rw [Ty.puts, Ty.oks, Ty.oks, oks_ren r ts]
    congr 1
    exact ok_ren r t
end
mutual
theorem deep_ren (r : Nat → Nat) : ∀ t : Ty, (t.ren r).deep = t.deep
  | .unk n => rfl
  | .kind k ts => by
    unfold Ty.ren
    rw [Ty.put, Ty.deep, Ty.deep, deeps_ren r ts]
theorem deeps_ren (r : Nat → Nat) : ∀ ts : List Ty, Ty.deeps (Ty.puts (fun n => some (.unk (r n))) ts) = Ty.deeps ts
  | [] => rfl
  | t :: ts => by
    rw [Ty.puts, Ty.deeps, Ty.deeps, deeps_ren r ts]
    congr 1
    exact deep_ren r t
end
mutual
theorem size_ren (r : Nat → Nat) : ∀ t : Ty, (t.ren r).size = t.size
  | .unk n => rfl
  | .kind k ts => by
    unfold Ty.ren
    rw [Ty.put, Ty.size, Ty.size, sizes_ren r ts]
theorem sizes_ren (r : Nat → Nat) : ∀ ts : List Ty, Ty.sizes (Ty.puts (fun n => some (.unk (r n))) ts) = Ty.sizes ts
  | [] => rfl
  | t :: ts => by
    rw [Ty.puts, Ty.sizes, Ty.sizes, sizes_ren r ts]
    congr 1
    exact size_ren r t
end
theorem addAll_map {S : Nat → Prop} {r : Nat → Nat} (hr : ∀ a b, S a → S b → r a = r b → a = b) : ∀ (ms ns : List Nat), (∀ x ∈ ns, S x) → (∀ x ∈ ms, S x) → addAll (ns.map r) (ms.map r) = (addAll ns ms).map r
  | [], ns, _, _ => rfl
  | m :: ms, ns, h1, h2 => by
    have hm := h2 m (List.mem_cons_self ..)
    have e : addN (ns.map r) (r m) = (addN ns m).map r := by
      unfold addN
      by_cases h : m ∈ ns
      · rw [if_pos h, if_pos (List.mem_map_of_mem h)]
      · rw [if_neg h, if_neg, List.map_append]
        · rfl
        · intro z
          obtain ⟨a, ha, e⟩ := List.mem_map.mp z
          exact h (hr a m (h1 a ha) hm e ▸ ha)
    show addAll (addN (ns.map r) (r m)) (ms.map r) = (addAll (addN ns m) ms).map r
    rw [e]
    exact addAll_map hr ms _ (fun x hx => (addN_mem.mp hx).elim (h1 x) fun z => z ▸ hm) fun x hx => h2 x (List.mem_cons_of_mem _ hx)
theorem numsIn_mem {ts : List Ty} {n : Nat} : n ∈ numsIn ts ↔ n ∈ allNums ts := by
  rw [numsIn_eq, addAll_mem]
  simp
theorem numsIn_ren {r : Nat → Nat} {t : Ty} (hr : ∀ a b, a ∈ numT t → b ∈ numT t → r a = r b → a = b) : numsIn [t.ren r] = (numsIn [t]).map r := by
  rw [numsIn_eq, numsIn_eq, allNums_one, allNums_one, numT_ren]
  exact addAll_map (S := fun x => x ∈ numT t) hr (numT t) [] (fun _ h => by cases h) fun _ h => h
theorem idx_map {r : Nat → Nat} : ∀ {l : List Nat} {n : Nat}, (∀ a b, a ∈ l → b ∈ l → r a = r b → a = b) → n ∈ l → (l.map r).idxOf (r n) = l.idxOf n
  | [], _, _, h => by cases h
  | a :: l, n, hr, h => by
    rw [List.map_cons, List.idxOf_cons, List.idxOf_cons]
    by_cases e : a = n
    · subst e
      simp
    · have ne : ¬ r a = r n := fun z => e (hr a n (List.mem_cons_self ..) h z)
      have hn : n ∈ l := (List.mem_cons.mp h).resolve_left fun z => e z.symm
      have ih := idx_map (l := l) (n := n) (fun a b ha hb => hr a b (List.mem_cons_of_mem _ ha) (List.mem_cons_of_mem _ hb)) hn
      rw [beq_eq_false_iff_ne.mpr ne, beq_eq_false_iff_ne.mpr e, ih]
def plainOf (ns : List Nat) (t : Ty) : Ty := t.put (renum ns)
theorem plain_as_ren {ns : List Nat} {t : Ty} (h : ∀ n ∈ numT t, n ∈ ns) : t.put (renum ns) = t.ren fun n => ns.idxOf n :=
  put_congr t fun n hn => if_pos (h n hn)
/-- renamed ones are the same told plain -/
theorem plain_ren {r : Nat → Nat} {t : Ty} (hr : ∀ a b, a ∈ numT t → b ∈ numT t → r a = r b → a = b) : (t.ren r).put (renum (numsIn [t.ren r])) = t.put (renum (numsIn [t])) := by
  rw [numsIn_ren hr, ren_put]
  refine put_congr t fun n hn => ?_
  have hm : n ∈ numsIn [t] := by rw [numsIn_mem, allNums_one]; exact hn
  have hr' : ∀ a b, a ∈ numsIn [t] → b ∈ numsIn [t] → r a = r b → a = b := fun a b ha hb => by
    rw [numsIn_mem, allNums_one] at ha hb
    exact hr a b ha hb
  unfold renum
  rw [if_pos (List.mem_map_of_mem hm), if_pos hm, idx_map hr' hm]
  rfl
theorem idx_inj {l : List Nat} {a b : Nat} (ha : a ∈ l) (hb : b ∈ l) (h : l.idxOf a = l.idxOf b) : a = b := by
  have h1 : l.idxOf a < l.length := List.idxOf_lt_length_of_mem ha
  have h2 : l.idxOf b < l.length := List.idxOf_lt_length_of_mem hb
  have e1 : l[l.idxOf a] = a := List.getElem_idxOf h1
  have e2 : l[l.idxOf b] = b := List.getElem_idxOf h2
  rw [← e1, ← e2]
  simp only [h]
theorem plain_inj {t : Ty} : ∀ a b, a ∈ numT t → b ∈ numT t → (numsIn [t]).idxOf a = (numsIn [t]).idxOf b → a = b := fun a b ha hb h =>
  idx_inj (by rw [numsIn_mem, allNums_one]; exact ha) (by rw [numsIn_mem, allNums_one]; exact hb) h
theorem plain_eq_ren (t : Ty) : t.put (renum (numsIn [t])) = t.ren fun n => (numsIn [t]).idxOf n :=
  plain_as_ren fun n hn => by rw [numsIn_mem, allNums_one]; exact hn
theorem plain_plain (t : Ty) : (t.put (renum (numsIn [t]))).put (renum (numsIn [t.put (renum (numsIn [t]))])) = t.put (renum (numsIn [t])) := by
  rw [plain_eq_ren t]
  rw [plain_ren plain_inj, plain_eq_ren]
theorem map_idx : ∀ {l : List Nat}, l.Nodup → l.map (fun n => l.idxOf n) = List.range l.length := by
  intro l h
  apply List.ext_getElem
  · simp
  · intro i h1 h2
    rw [List.length_map] at h1
    rw [List.getElem_map, List.getElem_range]
    exact h.idxOf_getElem i h1
theorem plain_nums (t : Ty) : numsIn [t.put (renum (numsIn [t]))] = List.range (numsIn [t]).length := by
  rw [plain_eq_ren t, numsIn_ren plain_inj]
  exact map_idx (numsIn_nodup [t])
theorem nums_twice (t : Ty) : numsIn [t, t] = numsIn [t] := by
  rw [numsIn_eq, numsIn_eq, allNums_cons, allNums_one, addAll_append]
  exact addAll_absorb fun x hx => addAll_mem.mpr (.inr hx)
end Wy

set_option Elab.async false
set_option linter.all false
set_option maxRecDepth 100000
set_option maxHeartbeats 1000000
/-! Wy, part Z: calls (a def that may ask repr; keywords alone; a def that stands in a local and raises); is of data and bools; zip of tuples walked. -/
namespace Wy
open PySem PySem.Spec L2 RZ
/-! ### x is True, x is False of data -/
def isBoolD : PyData → Bool → Bool
  | .bool c, b => c == b
  | _, _ => false
def rIsBD (K : PySem.W.Frag) : R2 := fun x y H Q => ∃ (d : PyData) (b : Bool), Dx K H x d ∧ y = .bl b ∧ Q (.bl (isBoolD d b)) H
theorem op_isBD {X : Cx} : OpR X (compareOp .Is) (rIsBD X.K) := by
  intro pins s σ H x y v u Q I rx ry h
  obtain ⟨d, b, hd, rfl, q⟩ := h
  cases (show u = Value.bool b from ry)
  cases hd with
  | non =>
    cases rx
    exact PySem.wpAny_is_other rfl (fun z => nomatch z) ⟨.bl false, H, I, rfl, q⟩
  | bl c =>
    cases rx
    by_cases e : c = b
    · subst e
      exact PySem.wpAny_is_self rfl ⟨.bl true, H, I, rfl, by simpa [isBoolD] using q⟩
    · exact PySem.wpAny_is_other rfl (fun z => e (Value.bool.inj z)) ⟨.bl false, H, I, rfl, (by
        have z : isBoolD (.bool c) b = false := by
          show (c == b) = false
          exact beq_eq_false_iff_ne.mpr e
        rw [z] at q
        exact q)⟩
  | int i =>
    obtain ⟨t, rfl⟩ := rx
    exact PySem.wpAny_is_other rfl (fun z => nomatch z) ⟨.bl false, H, I, rfl, q⟩
  | str i =>
    obtain ⟨t, rfl⟩ := rx
    exact PySem.wpAny_is_other rfl (fun z => nomatch z) ⟨.bl false, H, I, rfl, q⟩
  | lst h1 h2 =>
    cases rx
    exact PySem.wpAny_is_other rfl (fun z => nomatch z) ⟨.bl false, H, I, rfl, q⟩
  | tup h1 h2 =>
    cases rx
    exact PySem.wpAny_is_other rfl (fun z => nomatch z) ⟨.bl false, H, I, rfl, q⟩
  | dct h1 h2 =>
    cases rx
    exact PySem.wpAny_is_other rfl (fun z => nomatch z) ⟨.bl false, H, I, rfl, q⟩
theorem paired_snoc {α β : Type} {F : α → β → Prop} {a : α} {b : β} : ∀ {l₁ : List α} {l₂ : List β}, Paired F l₁ l₂ → F a b → Paired F (l₁ ++ [a]) (l₂ ++ [b])
  | _, _, .nil, h => .cons h .nil
  | _, _, .cons h t, k => .cons h (paired_snoc t k)
/-! ### zip of tuples, walked -/
theorem walk_zipT {K : PySem.W.Frag} {a b : Addr} {xs ys : List V} {n : Nat} (hn : n = min xs.length ys.length) : Walk (ItzT K a b) n (fun H => SqT K H a xs ∧ SqT K H b ys) (YPair (fun i => xs[i]?) (fun i => ys[i]?)) := by
  subst hn
  refine ⟨fun i _ hi q => ?_, fun _ q => ⟨xs, ys, q.1, q.2, by omega⟩, fun i H v H' _ q y => ?_⟩
  · have h1 : i < xs.length := by omega
    have h2 : i < ys.length := by omega
    exact ⟨xs, ys, xs[i], ys[i], q.1, q.2, by simp [h1], by simp [h2]⟩
  · obtain ⟨T, x, z, h1, h2, h3, h4, h5⟩ := y
    exact ⟨T, x, z, h1, h2, h3, h4 xs q.1, h5 ys q.2⟩
/-! ### calls -/
section
variable {X : Cx} {CX : CXT} {k i : Nat} {f : Addr} {fd : FuncData} {ps ks : List Str} {sp : Sp} {E : XK} {x : Str} {p pos : Pos} {e : Expr} {es : List Expr} {t tk : TA} {kws : List Keyword} {g : List Value → List Value → List Value} {gV : List V → List V → List V}
theorem run_fnG {pins : List (Addr × Obj)} {σ : St} {H : Hp} {s : Shared} {Q : VK} {us : List Value} {vs : List V} (F : FnG X.prog X.w X.K X.mg X.base CX k f fd ps sp) (hr : Room k X.A) (hgu : X.A.guards = some []) (hb : Binds X.K fd ps []) (hx : Passes CX X E)
    (I : Inv X pins σ H s) (r : Vals vs us) (h : sp vs H Q E) : wpAny (model X.prog X.w) X.A (call (.ref f) us) (EP X pins σ Q) X.xe s := by
  have hl : us.length = ps.length := by rw [← r.length]; exact F.len _ _ _ _ h
  have b := hb s us I.kIn (by rw [List.append_nil]; exact hl)
  rw [List.append_nil] at b
  refine wpAny_call (codeAny_mono (F.run X.A X.stack s H ⟨us, []⟩ us vs Q E hr hgu I.env0 b r h) fun r s' hq => ?_)
  cases r with
  | error e => exact hx pins σ H s e s' I hq
  | ok fl =>
    cases fl with
    | ret u => exact I.after hq
    | next => exact False.elim hq
    | brk => exact False.elim hq
    | cont => exact False.elim hq
/-- a call of a def that may ask repr -/
theorem pe_callG (F : FnG X.prog X.w X.K X.mg X.base CX k f fd ps sp) (hr : Room k X.A) (hgu : X.A.guards = some []) (hg : Gl X x) (hm : X.mg x = some (.ref f)) (hk : PySem.W.keepIn X.K (.ref f) = true) (hb : Binds X.K fd ps []) (hx : Passes CX X E)
    (ha : PA X (e :: es) t) (hdb : (x == ("__debug__" : Str)) = false := by decide) (he : starEach (e :: es) X.env = (false, eval e X.env) :: starEach es X.env := by rfl) (hpl : (backTo pos (starEach es X.env)).any (·.1) = false := by rfl) :
    PE X (.Call (.Name x p) (e :: es) [] pos) (tCall sp [] E t) := by
  refine ⟨fun pins s σ H Q I h => ?_⟩
  refine wpAny_Call_Name_kw (ld_glob I hg hm ?_ hdb)
  refine PySem.W.callWith_K (h₀ := X.base) I.ok.mod.kin hk (thn (ha.run pos pins s σ H _ I h) fun us s1 ⟨vs, H1, I1, r, q⟩ => ⟨I1.kIn, ?_⟩) he hpl
  have q : sp (vs ++ []) H1 Q E := q
  rw [List.append_nil] at q
  exact run_fnG F hr hgu hb hx I1 r q
/-- how positional values and keywords' values stand in the parameters' order -/
structure KBg (fd : FuncData) (ps ks : List Str) (n : Nat) (g : List Value → List Value → List Value) (gV : List V → List V → List V) : Prop where
  to : ∀ (s : Shared) (us ws : List Value), us.length = n → ws.length = ks.length → BindsTo s fd ⟨us, ks.zip ws⟩ (ps.zip (g us ws))
  rel : ∀ {vs : List V} {us : List Value} {zs : List V} {ws : List Value}, Vals vs us → Vals zs ws → Vals (gV vs zs) (g us ws)
theorem kb_of {K : PySem.W.Frag} {qual : Str} {params : Arguments} {body : List Stmt} {scope : Scope} {n : Nat} (F : FunD K x qual params body scope [] [] f fd)
    (h : ∀ (kV doc pm : Value) (an : Option Addr) (cdv ct : Value) (us ws : List Value), us.length = n → ws.length = ks.length → bindArgs (PySem.W.fnOf x qual params body scope .none kV doc pm an cdv ct) ⟨us, ks.zip ws⟩ = pure (ps.zip (us ++ ws))) :
    KBg fd ps ks n (fun us ws => us ++ ws) (fun vs zs => vs ++ zs) := by
  refine ⟨fun s us ws h1 h2 => ?_, fun a b => a.append b⟩
  obtain ⟨oc, od, dV, kV, doc, pm, an, cdv, ct, osl, rfl, lk, hcd, hD, hK⟩ := F.ex
  rcases hD with ⟨_, rfl⟩ | ⟨e, _⟩
  · exact .of_eq (h kV doc pm an cdv ct us ws h1 h2)
  · exact absurd rfl e
def tCallKg (sp : Sp) (n m : Nat) (gV : List V → List V → List V) (E : XK) (t tk : TA) : TE := fun σ H Q => t σ H fun vs H1 => vs.length = n ∧ tk σ H1 fun zs H2 => zs.length = m ∧ sp (gV vs zs) H2 Q E
variable {n : Nat}
theorem run_fnKg {pins : List (Addr × Obj)} {σ : St} {H : Hp} {s : Shared} {Q : VK} {us ws : List Value} {vs zs : List V} (F : FnOk X.prog X.w X.K X.mg X.base CX k f fd ps sp) (hr : Room k X.A) (hb : KBg fd ps ks n g gV) (hx : Passes CX X E)
    (I : Inv X pins σ H s) (r : Vals vs us) (rz : Vals zs ws) (l1 : vs.length = n) (l2 : zs.length = ks.length) (h : sp (gV vs zs) H Q E) : wpAny (model X.prog X.w) X.A (call (.ref f) us (ks.zip ws)) (EP X pins σ Q) X.xe s := by
  have b := hb.to s us ws (r.length.symm.trans l1) (rz.length.symm.trans l2)
  refine wpAny_call (codeAny_mono (F.run X.A X.stack s H ⟨us, ks.zip ws⟩ (g us ws) (gV vs zs) Q E hr I.env0 b (hb.rel r rz) h) fun r s' hq => ?_)
  cases r with
  | error e => exact hx pins σ H s e s' I hq
  | ok fl =>
    cases fl with
    | ret u => exact I.after hq
    | next => exact False.elim hq
    | brk => exact False.elim hq
    | cont => exact False.elim hq
/-- f(k = v, ..) -/
theorem pe_callK0 (F : FnOk X.prog X.w X.K X.mg X.base CX k f fd ps sp) (hr : Room k X.A) (hg : Gl X x) (hm : X.mg x = some (.ref f)) (hk : PySem.W.keepIn X.K (.ref f) = true) (hb : KBg fd ps ks 0 g gV) (hx : Passes CX X E)
    (hkw : PK X kws tk) (hall : (backToKw pos (keywordEach kws X.env)).all (·.1.isSome) = true := by rfl) (hks : (backToKw pos (keywordEach kws X.env)).filterMap (·.1) = ks := by rfl)
    (hdb : (x == ("__debug__" : Str)) = false := by decide) (hpl : ((backTo pos (starEach [] X.env)).any (·.1) || (backToKw pos (keywordEach kws X.env)).any (·.1.isNone)) = false := by rfl) :
    PE X (.Call (.Name x p) [] kws pos) (tCallKg sp 0 ks.length gV E tNil tk) := by
  refine ⟨fun pins s σ H Q I h => ?_⟩
  refine wpAny_Call_Name_kw (ld_glob I hg hm ?_ hdb)
  refine PySem.W.callWith_KW0 (h₀ := X.base) I.ok.mod.kin hk hall ?_ hpl
  obtain ⟨_, h⟩ := h
  refine thn (hkw.run pos pins s σ H _ I h) fun ws s2 ⟨zs, H2, I2, rz, l2, q2⟩ => ⟨I2.kIn, ?_⟩
  rw [hks]
  exact run_fnKg (us := []) (vs := []) F hr hb hx I2 .nil rz rfl l2 q2
/-- f(e, .., k = v, ..) -/
theorem pe_callKg (F : FnOk X.prog X.w X.K X.mg X.base CX k f fd ps sp) (hr : Room k X.A) (hg : Gl X x) (hm : X.mg x = some (.ref f)) (hk : PySem.W.keepIn X.K (.ref f) = true) (hb : KBg fd ps ks n g gV) (hx : Passes CX X E)
    (ha : PA X (e :: es) t) (hkw : PK X kws tk) (hall : (backToKw pos (keywordEach kws X.env)).all (·.1.isSome) = true := by rfl) (hks : (backToKw pos (keywordEach kws X.env)).filterMap (·.1) = ks := by rfl)
    (hdb : (x == ("__debug__" : Str)) = false := by decide) (he : starEach (e :: es) X.env = (false, eval e X.env) :: starEach es X.env := by rfl)
    (hpl : ((backTo pos (starEach (e :: es) X.env)).any (·.1) || (backToKw pos (keywordEach kws X.env)).any (·.1.isNone)) = false := by rfl) :
    PE X (.Call (.Name x p) (e :: es) kws pos) (tCallKg sp n ks.length gV E t tk) := by
  refine ⟨fun pins s σ H Q I h => ?_⟩
  refine wpAny_Call_Name_kw (ld_glob I hg hm ?_ hdb)
  refine PySem.W.callWith_KW (h₀ := X.base) I.ok.mod.kin hk hall (thn (ha.run pos pins s σ H _ I h) fun us s1 ⟨vs, H1, I1, r, l1, q⟩ => ?_) hpl he
  refine thn (hkw.run pos pins s1 σ H1 _ I1 q) fun ws s2 ⟨zs, H2, I2, rz, l2, q2⟩ => ⟨I2.kIn, ?_⟩
  rw [hks]
  exact run_fnKg F hr hb hx I2 r rz l1 l2 q2
/-! ### a def that stands in a local, and raises -/
structure HeldX (P : Program) (w : World) (K : PySem.W.Frag) (mg : Str → Option Value) (base : Heap) (k : Nat) (f : Addr) (sp : Sp) : Prop where
  ex : ∃ (fd : FuncData) (ps : List Str), FnOk P w K mg base (L2.CX P w) k f fd ps sp ∧ PySem.W.keepIn K (.ref f) = true ∧ Binds K fd ps []
def tCallAX (i : Nat) (S : Addr → Sp → Prop) (E : St → XK) (t : TA) : TE := fun σ H Q => ∃ f sp, σ[i]? = some (some (.ref f)) ∧ S f sp ∧ t σ H fun vs H1 => sp vs H1 Q (E σ)
theorem pe_callAX {S : Addr → Sp → Prop} {E : St → XK} (A : ∀ f sp, S f sp → HeldX X.prog X.w X.K X.mg X.base k f sp) (hr : Room k X.A) (hx : ∀ σ, PassesAt (L2.CX X.prog X.w) X σ (E σ)) (hN : X.N[i]? = some x) (hv : Vis X.env.scope x) (ha : PA X (e :: es) t)
    (hdb : (x == ("__debug__" : Str)) = false := by decide) (hcd : (x == ("__classdict__" : Str)) = false := by decide)
    (he : starEach (e :: es) X.env = (false, eval e X.env) :: starEach es X.env := by rfl) (hpl : (backTo pos (starEach es X.env)).any (·.1) = false := by rfl) : PE X (.Call (.Name x p) (e :: es) [] pos) (tCallAX i S E t) := by
  refine ⟨fun pins s σ H Q I h => ?_⟩
  obtain ⟨f, sp, hs, hS, ht⟩ := h
  obtain ⟨fd, ps, F, hk, hb⟩ := (A f sp hS).ex
  refine wpAny_Call_Name_kw (thn ((pe_var (pos := p) hN hv hdb hcd).run pins s σ H (fun v H1 => v = .ref f ∧ H1 = H) I ⟨.ref f, hs, rfl, rfl⟩) fun u s1 ⟨v, H1, I1, r1, q1⟩ => ?_)
  obtain ⟨rfl, rfl⟩ := q1
  cases r1
  refine PySem.W.callWith_K (h₀ := X.base) I.ok.mod.kin hk (thn (ha.run pos pins s1 σ _ _ I1 ht) fun us s2 ⟨vs, H2, I2, r, q⟩ => ⟨I2.kIn, ?_⟩) he hpl
  exact run_fnS F hr hb (hx σ) I2 r q
end
end Wy
namespace Wy
open PySem PySem.Spec L2 RZ
/-! ### data at most so deep, without dicts; no list ends in a text -/
def endStr (ds : List PyData) : Bool := match ds.getLast? with
  | some (.str _) => true
  | _ => false
def okd : Nat → PyData → Bool
  | 0, d => match d with
    | .list _ => false
    | .tuple _ => false
    | .dict _ => false
    | _ => true
  | n + 1, d => match d with
    | .list ds => !endStr ds && (decide (ds.length ≤ 100000) && ds.all (okd n))
    | .tuple ds => decide (ds.length ≤ 100000) && ds.all (okd n)
    | .dict _ => false
    | _ => true
def isSeqD : PyData → Bool
  | .list _ => true
  | .tuple _ => true
  | _ => false
theorem kit_seq {K : PySem.W.Frag} (d : PyData) : PySem.W.kitAny K (.type (tyD d)) [.type "list", .type "tuple"] = some (isSeqD d) := by
  have h : ∀ m ∈ ["NoneType", "bool", "int", "str", "list", "tuple", "dict"], kitB m "list" = some (m == "list") ∧ kitB m "tuple" = some (m == "tuple") := by decide +kernel
  obtain ⟨a, b⟩ := h _ (tyD_mem d)
  have a' := kit_ty (K := K) a
  have b' := kit_ty (K := K) b
  simp only [PySem.W.kitAny, a', b']
  cases d <;> rfl
theorem okd_seq {n : Nat} {ds : List PyData} (h : okd n (.list ds) = true) : ∃ n', n = n' + 1 ∧ endStr ds = false ∧ ds.length ≤ 100000 ∧ ∀ d ∈ ds, okd n' d = true := by
  cases n with
  | zero => cases h
  | succ n =>
    obtain ⟨h1, h2⟩ := Bool.and_eq_true_iff.mp (show (!endStr ds && (decide (ds.length ≤ 100000) && ds.all (okd n))) = true from h)
    obtain ⟨h2, h3⟩ := Bool.and_eq_true_iff.mp h2
    exact ⟨n, rfl, by simpa using h1, of_decide_eq_true h2, fun d hd => List.all_eq_true.mp h3 d hd⟩
theorem okd_tup {n : Nat} {ds : List PyData} (h : okd n (.tuple ds) = true) : ∃ n', n = n' + 1 ∧ ds.length ≤ 100000 ∧ ∀ d ∈ ds, okd n' d = true := by
  cases n with
  | zero => cases h
  | succ n =>
    obtain ⟨h2, h3⟩ := Bool.and_eq_true_iff.mp (show (decide (ds.length ≤ 100000) && ds.all (okd n)) = true from h)
    exact ⟨n, rfl, of_decide_eq_true h2, fun d hd => List.all_eq_true.mp h3 d hd⟩
theorem okd_mono : ∀ {n m : Nat} {d : PyData}, n ≤ m → okd n d = true → okd m d = true
  | 0, 0, d, _, h => h
  | 0, m + 1, d, _, h => by
    cases d <;> first | rfl | cases h
  | n + 1, 0, d, e, h => absurd e (by omega)
  | n + 1, m + 1, d, e, h => by
    have e' : n ≤ m := by omega
    cases d with
    | list ds =>
      obtain ⟨n', e1, h1, hl, h2⟩ := okd_seq h
      obtain rfl : n = n' := by omega
      show (!endStr ds && (decide (ds.length ≤ 100000) && ds.all (okd m))) = true
      rw [h1, decide_eq_true hl, Bool.not_false, Bool.true_and, Bool.true_and, List.all_eq_true]
      exact fun d hd => okd_mono e' (h2 d hd)
    | tuple ds =>
      obtain ⟨n', e1, hl, h2⟩ := okd_tup h
      obtain rfl : n = n' := by omega
      show (decide (ds.length ≤ 100000) && ds.all (okd m)) = true
      rw [decide_eq_true hl, Bool.true_and, List.all_eq_true]
      exact fun d hd => okd_mono e' (h2 d hd)
    | dict es => cases h
    | _ => rfl
theorem endStr_tys (ts : List Ty) : endStr (Ty.toDs ts) = false := by
  unfold endStr
  split
  · rename_i x e
    rw [toDs_map, List.getLast?_map] at e
    obtain ⟨t, _, e⟩ := Option.map_eq_some_iff.mp e
    cases t <;> cases e
  · rfl
mutual
theorem okd_ty : ∀ t : Ty, t.ok = true → okd (2 * t.deep + 1) t.toD = true
  | .unk n, _ => rfl
  | .kind k ts, ok => by
    rw [Ty.toD, Ty.deep, show 2 * (1 + Ty.deeps ts) + 1 = (2 * Ty.deeps ts + 2) + 1 by omega]
    have h : okd (2 * Ty.deeps ts + 2) (.list (Ty.toDs ts)) = true := by
      have h1 : endStr (Ty.toDs ts) = false := endStr_tys ts
      have h2 : ∀ d ∈ Ty.toDs ts, okd (2 * Ty.deeps ts + 1) d = true := okd_each ts (oks_sides (t := .kind k ts) ok)
      have h3 : (Ty.toDs ts).length ≤ 100000 := by
        rw [toDs_map, List.length_map]
        exact Nat.le_trans (sides_three (t := .kind k ts) ok) (by decide)
      show (!endStr (Ty.toDs ts) && (decide ((Ty.toDs ts).length ≤ 100000) && (Ty.toDs ts).all (okd (2 * Ty.deeps ts + 1)))) = true
      rw [h1, decide_eq_true h3, Bool.not_false, Bool.true_and, Bool.true_and, List.all_eq_true]
      exact h2
    show (decide (3 ≤ 100000) && [PyData.str "kind", .str k, .list (Ty.toDs ts)].all (okd (2 * Ty.deeps ts + 2))) = true
    simp only [List.all_cons, List.all_nil, Bool.and_true]
    rw [show okd (2 * Ty.deeps ts + 2) (PyData.str "kind") = true from rfl, show okd (2 * Ty.deeps ts + 2) (PyData.str k) = true from rfl, Bool.true_and, Bool.true_and, h]
    rfl
theorem okd_each : ∀ ts : List Ty, Ty.oks ts = true → ∀ d ∈ Ty.toDs ts, okd (2 * Ty.deeps ts + 1) d = true
  | [], _, d, h => by cases h
  | t :: ts, ok, d, h => by
    obtain ⟨o1, o2⟩ := Bool.and_eq_true_iff.mp (show (t.ok && Ty.oks ts) = true from ok)
    rw [Ty.toDs] at h
    rw [Ty.deeps]
    rcases List.mem_cons.mp h with rfl | h
    · exact okd_mono (by omega) (okd_ty t o1)
    · exact okd_mono (by omega) (okd_each ts o2 d h)
end
theorem okd_tys {ts : List Ty} (ok : Ty.oks ts = true) (hl : ts.length ≤ 100000) : okd (2 * Ty.deeps ts + 2) (.list (Ty.toDs ts)) = true := by
  have h2 : ∀ d ∈ Ty.toDs ts, okd (2 * Ty.deeps ts + 1) d = true := okd_each ts ok
  show (!endStr (Ty.toDs ts) && (decide ((Ty.toDs ts).length ≤ 100000) && (Ty.toDs ts).all (okd (2 * Ty.deeps ts + 1)))) = true
  rw [endStr_tys, toDs_map, List.length_map, decide_eq_true hl, ← toDs_map, Bool.not_false, Bool.true_and, Bool.true_and, List.all_eq_true]
  exact h2
theorem okd_nums {n : Nat} {ns : List Nat} (h : ns.length ≤ 100000) : okd (n + 1) (.list (ns.map fun (n : Nat) => PyData.int (n : Int))) = true := by
  have h1 : endStr (ns.map fun (n : Nat) => PyData.int (n : Int)) = false := by
    unfold endStr
    split
    · rename_i x e
      rw [List.getLast?_map] at e
      obtain ⟨t, _, e⟩ := Option.map_eq_some_iff.mp e
      cases e
    · rfl
  show (!endStr _ && (decide (_ ≤ 100000) && List.all _ (okd n))) = true
  rw [h1, List.length_map, decide_eq_true h, Bool.not_false, Bool.true_and, Bool.true_and, List.all_eq_true]
  intro d hd
  obtain ⟨m, _, rfl⟩ := List.mem_map.mp hd
  cases n <;> rfl
theorem okd_list12 {n : Nat} {ds : List PyData} (h : ∀ d ∈ ds, okd n d = true) (hl : ds.length ≤ 100000) (he : endStr ds = false) : okd (n + 1) (.list ds) = true := by
  show (!endStr ds && (decide (ds.length ≤ 100000) && ds.all (okd n))) = true
  rw [he, decide_eq_true hl, Bool.not_false, Bool.true_and, Bool.true_and, List.all_eq_true]
  exact h
/-! ### trees whose lists are changed -/
/-- all is kept but what stands at S -/
def Out (S : List Addr) (H H' : Hp) : Prop := ∀ b o, b ∉ S → H b = some o → H' b = some o
theorem Out.refl (S : List Addr) (H : Hp) : Out S H H := fun _ _ _ e => e
theorem Out.trans {S T : List Addr} {A B C : Hp} (h1 : Out S A B) (h2 : Out T B C) : Out (S ++ T) A C := fun b o n e =>
  h2 b o (fun z => n (List.mem_append_right _ z)) (h1 b o (fun z => n (List.mem_append_left _ z)) e)
theorem Out.of_same {S : List Addr} {A B : Hp} (h : Same A B) : Out S A B := fun b o _ e => h b o e
theorem Out.sub {S T : List Addr} {A B : Hp} (h : Out S A B) (k : ∀ a ∈ S, a ∈ T) : Out T A B := fun b o n e => h b o (fun z => n (k b z)) e
/-- what is kept of what was there ahead -/
theorem Out.same {S : List Addr} {F A B : Hp} (h : Out S A B) (s : Same F A) (k : ∀ a ∈ S, F a = none) : Same F B := fun b o e =>
  h b o (fun z => by rw [k b z] at e; cases e) (s b o e)
theorem sqT_kept {K : PySem.W.Frag} {S : List Addr} {H H' : Hp} {a : Addr} {xs : List V} (o : Out S H H') (hS : ∀ a ∈ S, ∃ l, H a = some (.lst l)) (h : SqT K H a xs) : SqT K H' a xs := by
  rcases h with (h | ⟨u, h⟩) | h
  · refine .inl (.inl (o _ _ (fun z => ?_) h))
    obtain ⟨l, e⟩ := hS a z
    rw [h] at e
    cases e
  · refine .inl (.inr ⟨u, o _ _ (fun z => ?_) h⟩)
    obtain ⟨l, e⟩ := hS a z
    rw [h] at e
    cases e
  · exact .inr h
mutual
theorem Tr.kept {K : PySem.W.Frag} {sh : V → PyData → Prop} {S0 : List Addr} {H H' : Hp} (o : Out S0 H H') (hS : ∀ a ∈ S0, ∃ l, H a = some (.lst l)) : ∀ {v : V} {d : PyData} {S : List Addr}, Tr K sh H v d S → (∀ a ∈ S, a ∉ S0) → Tr K sh H' v d S
  | _, _, _, .sh h, _ => .sh h
  | _, _, _, .bl b, _ => .bl b
  | _, _, _, .int i, _ => .int i
  | _, _, _, .str x, _ => .str x
  | _, _, _, .tup h t, n => .tup (sqT_kept o hS h) (TrAll.kept o hS t n)
  | _, _, _, .lst h t m, n => .lst (o _ _ (n _ (List.mem_cons_self ..)) h) (TrAll.kept o hS t fun a ha => n a (List.mem_cons_of_mem _ ha)) m
theorem TrAll.kept {K : PySem.W.Frag} {sh : V → PyData → Prop} {S0 : List Addr} {H H' : Hp} (o : Out S0 H H') (hS : ∀ a ∈ S0, ∃ l, H a = some (.lst l)) : ∀ {vs : List V} {ds : List PyData} {S : List Addr}, TrAll K sh H vs ds S → (∀ a ∈ S, a ∉ S0) → TrAll K sh H' vs ds S
  | _, _, _, .nil, _ => .nil
  | _, _, _, .cons h t m, n => .cons (Tr.kept o hS h fun a ha => n a (List.mem_append_left _ ha)) (TrAll.kept o hS t fun a ha => n a (List.mem_append_right _ ha)) m
end
end Wy

set_option Elab.async false
set_option linter.all false
set_option maxRecDepth 100000
set_option maxHeartbeats 1000000
/-! Wy, part O: displays of data, read as a whole; M tells which objects change (the purse's), the data stands outside of them. -/
namespace Wy
open PySem PySem.Spec L2
theorem same_rfl {H : Hp} : Same H H := fun _ _ e => e
def outM (M : Addr → Bool) (H : Hp) : Hp := fun b => if M b = true then none else H b
/-- what changes are lists -/
def Occ (M : Addr → Bool) (H : Hp) : Prop := ∀ b, M b = true → ∃ l, H b = some (.lst l)
theorem outM_sub {M : Addr → Bool} {H : Hp} : Same (outM M H) H := fun b o e => by
  unfold outM at e
  split at e
  · cases e
  · exact e
theorem outM_same {M : Addr → Bool} {H H' : Hp} (s : Same H H') : Same (outM M H) (outM M H') := fun b o e => by
  unfold outM at e ⊢
  split at e
  · cases e
  · rename_i h
    rw [if_neg h]
    exact s _ _ e
theorem Occ.mono {M : Addr → Bool} {H H' : Hp} (h : Occ M H) (s : Same H H') : Occ M H' := fun b hb => by
  obtain ⟨l, e⟩ := h b hb
  exact ⟨l, s _ _ e⟩
theorem Occ.new {M : Addr → Bool} {H : Hp} (h : Occ M H) {p : Addr} (hp : H p = none) : M p ≠ true := fun z => by
  obtain ⟨l, e⟩ := h p z
  rw [hp] at e
  cases e
theorem outM_new {M : Addr → Bool} {H H' : Hp} {p : Addr} {o : HO} (h : Occ M H) (hp : H p = none) (e : H' p = some o) : outM M H' p = some o := by
  unfold outM
  rw [if_neg (h.new hp)]
  exact e
theorem outM_one {H : Hp} {p : Addr} : outM (fun b => decide (b = p)) H = outA H p := by
  funext b
  unfold outM outA
  by_cases h : b = p
  · rw [if_pos (decide_eq_true h), if_pos h]
  · rw [if_neg (by simpa using h), if_neg h]
theorem occ_one {H : Hp} {p : Addr} (h : ∃ l, H p = some (.lst l)) : Occ (fun b => decide (b = p)) H := fun b hb => by
  rw [of_decide_eq_true hb]
  exact h
theorem outM_no {H : Hp} : outM (fun _ => false) H = H := by
  funext b
  exact if_neg Bool.false_ne_true
theorem occ_no {H : Hp} : Occ (fun _ => false) H := fun b hb => by cases hb
/-- te makes data d, where F is kept -/
def DR (K : PySem.W.Frag) (M : Addr → Bool) (te : TE) (σ : St) (F : Hp) (d : PyData) : Prop := ∀ (H : Hp) (Q : VK), Occ M H → Same F (outM M H) → (∀ v H', Same H H' → Dx K (outM M H') v d → Q v H') → te σ H Q
def DRA (K : PySem.W.Frag) (M : Addr → Bool) (ta : TA) (σ : St) (F : Hp) (ds : List PyData) : Prop := ∀ (H : Hp) (Q : List V → Hp → Prop), Occ M H → Same F (outM M H) → (∀ vs H', Same H H' → DxAll K (outM M H') vs ds → Q vs H') → ta σ H Q
section
variable {K : PySem.W.Frag} {M : Addr → Bool} {σ : St} {F : Hp} {te t1 t2 : TE} {ta : TA} {d : PyData} {ds es : List PyData}
theorem dr_non : DR K M (tC .non) σ F .none := fun H Q _ _ q => q _ H same_rfl .non
theorem dr_str {x : Str} : DR K M (tC (.str x)) σ F (.str x) := fun H Q _ _ q => q _ H same_rfl (.str x)
theorem dr_int {i : Int} : DR K M (tC (.int i)) σ F (.int i) := fun H Q _ _ q => q _ H same_rfl (.int i)
theorem dr_bl {b : Bool} : DR K M (tC (.bl b)) σ F (.bool b) := fun H Q _ _ q => q _ H same_rfl (.bl b)
theorem dr_sub {i j : Int} : DR K M (tOp (rI0 fun a b => .int (a - b)) (tC (.int i)) (tC (.int j))) σ F (.int (i - j)) := fun H Q _ _ q => ⟨_, _, rfl, rfl, q _ H same_rfl (.int _)⟩
theorem dr_dict : DR K M tDNewK σ F (.dict []) := fun H Q o _ q d hd => q _ _ (same_new hd _) (.dct (outM_new o hd upd_same) .nil)
theorem dr_var {i : Nat} {v : V} (h : σ[i]? = some (some v)) (hd : Dx K F v d) : DR K M (tVar i) σ F d := fun H Q _ s q => ⟨v, h, q v H same_rfl (hd.mono s)⟩
theorem dra_nil : DRA K M tNil σ F [] := fun H Q _ _ q => q [] H same_rfl .nil
theorem dra_cons (h : DR K M te σ F d) (t : DRA K M ta σ F ds) : DRA K M (tCons te ta) σ F (d :: ds) := fun H Q o s q =>
  h H _ o s fun v H1 s1 hv => t H1 _ (o.mono s1) (s.trans (outM_same s1)) fun vs H2 s2 hvs => q (v :: vs) H2 (s1.trans s2) (.cons (hv.mono (outM_same s2)) hvs)
theorem dr_lst (h : DRA K M ta σ F ds) (hl : ds.length ≤ 100000) : DR K M (tLst ta) σ F (.list ds) := fun H Q o s q =>
  h H _ o s fun vs H1 s1 hvs => ⟨small _ (by rw [hvs.length]; exact hl), fun p hp => q (.ref p) _ (s1.trans (same_new hp _)) (.lst (SqL.of (outM_new (o.mono s1) hp upd_same)) (hvs.mono (outM_same (same_new hp _))))⟩
theorem dr_tup (h : DRA K M ta σ F ds) (hl : ds.length ≤ 100000) : DR K M (tTup ta) σ F (.tuple ds) := fun H Q o s q =>
  h H _ o s fun vs H1 s1 hvs => ⟨small _ (by rw [hvs.length]; exact hl), fun p hp => q (.ref p) _ (s1.trans (same_new hp _)) (.tup (SqT.of (outM_new (o.mono s1) hp upd_same)) (hvs.mono (outM_same (same_new hp _))))⟩
theorem seq_outM {H : Hp} {a : Addr} {xs : List V} (h : SqL K (outM M H) a xs) : SqL K H a xs := outM_sub.seq h
theorem dr_cat (h1 : DR K M t1 σ F (.list ds)) (h2 : DR K M t2 σ F (.list es)) (hl : ds.length + es.length ≤ 100000) : DR K M (tOp (rCatS K) t1 t2) σ F (.list (ds ++ es)) := fun H Q o s q =>
  h1 H _ o s fun v H1 s1 hv => h2 H1 _ (o.mono s1) (s.trans (outM_same s1)) fun u H2 s2 hu => by
    obtain ⟨a, xs, rfl, ha, hxs⟩ := hv.lst_inv
    obtain ⟨b, ys, rfl, hb, hys⟩ := hu.lst_inv
    refine ⟨a, b, xs, ys, rfl, rfl, s2.seq (seq_outM ha), seq_outM hb, small _ (by rw [hxs.length, hys.length]; exact hl), fun p hp => ?_⟩
    have s3 := same_new hp (.lst (xs ++ ys))
    exact q _ _ (s1.trans (s2.trans s3)) (.lst (SqL.of (outM_new (o.mono (s1.trans s2)) hp upd_same)) (((hxs.mono (outM_same s2)).append hys).mono (outM_same s3)))
theorem dxall_rep {H : Hp} {vs : List V} (h : DxAll K H vs ds) : ∀ n : Nat, DxAll K H (List.replicate n vs).flatten (List.replicate n ds).flatten
  | 0 => .nil
  | n + 1 => by
    rw [List.replicate_succ, List.replicate_succ, List.flatten_cons, List.flatten_cons]
    exact h.append (dxall_rep h n)
theorem dr_rep {k : Int} (h : DRA K M ta σ F ds) (hl : ds.length ≤ 100) (h0 : 0 ≤ k) (hk : k ≤ 100) : DR K M (tOp rRep (tLst ta) (tC (.int k))) σ F (.list (List.replicate k.toNat ds).flatten) := fun H Q o s q =>
  h H _ o s fun vs H1 s1 hvs => ⟨small _ (by rw [hvs.length]; omega), fun l hl0 => by
    have s2 := same_new hl0 (.lst vs)
    have hk2 : k.toNat ≤ 100 := by omega
    refine ⟨l, k, vs, rfl, rfl, upd_same, by omega, by omega, small _ ?_, fun p hp => ?_⟩
    · rw [hvs.length]
      exact Nat.le_trans (Nat.mul_le_mul hl hk2) (by decide)
    · have s3 := same_new hp (.lst (List.replicate k.toNat vs).flatten)
      exact q _ _ (s1.trans (s2.trans s3)) (.lst (SqL.of (outM_new (o.mono (s1.trans s2)) hp upd_same)) ((dxall_rep hvs _).mono (outM_same (s2.trans s3))))⟩
/-- x = te; rest -/
theorem dr_seq {i : Nat} {rest : TS} {D : Ends} {H : Hp} (h : DR K M te σ F d) (o : Occ M H) (s : Same F (outM M H)) (q : ∀ v H', Same H H' → Dx K (outM M H') v d → rest D (σ.set i (some v)) H') : tSeq (tAsg te (gName i)) rest D σ H := h H _ o s q
theorem dr_ret {D : Ends} {H : Hp} (h : DR K M te σ F d) (o : Occ M H) (s : Same F (outM M H)) (q : ∀ v H', Same H H' → Dx K (outM M H') v d → D.rt v H') : tRet te D σ H := h H _ o s q
end
end Wy

set_option Elab.async false
set_option linter.all false
set_option maxRecDepth 100000
set_option maxHeartbeats 1000000
/-! Wy, part N: data that repr shows: how long, how deep. -/
namespace Wy
open PySem PySem.Spec L2
def Nice (n m : Nat) (d : PyData) : Prop := d.showable = true ∧ d.shown.length ≤ n ∧ d.depth ≤ m
theorem Nice.le {n m n' m' : Nat} {d : PyData} (h : Nice n m d) (a : n ≤ n') (b : m ≤ m') : Nice n' m' d := ⟨h.1, Nat.le_trans h.2.1 a, Nat.le_trans h.2.2 b⟩
theorem all_nice {n m : Nat} : ∀ {ds : List PyData}, (∀ d ∈ ds, Nice n m d) → PyData.showableAll ds = true ∧ piled (PyData.shownAll ds) ≤ ds.length * (n + 2) ∧ PyData.depthAll ds ≤ m ∧ (PyData.shownAll ds).length = ds.length
  | [], _ => by simp [PyData.showableAll, PyData.shownAll, PyData.depthAll, piled]
  | d :: ds, h => by
    obtain ⟨a, b, c, e⟩ := all_nice (ds := ds) fun x hx => h x (List.mem_cons_of_mem _ hx)
    obtain ⟨a1, b1, c1⟩ := h d (List.mem_cons_self ..)
    refine ⟨by simp [PyData.showableAll, a, a1], ?_, ?_, by simp [PyData.shownAll, e]⟩
    · simp only [PyData.shownAll, piled, List.map_cons, List.sum_cons, List.length_cons]
      have z : ((PyData.shownAll ds).map fun t => t.length + 2).sum ≤ ds.length * (n + 2) := b
      have e2 : (ds.length + 1) * (n + 2) = ds.length * (n + 2) + (n + 2) := Nat.succ_mul _ _
      omega
    · simp only [PyData.depthAll]
      omega
theorem textFrom_le : ∀ (ts : List Str) (k : Nat) (acc : Str), (textFrom k acc ts).length ≤ acc.length + piled ts
  | [], k, acc => Nat.le_add_right _ _
  | t :: r, k, acc => by
    have h := textFrom_le r (k + 1) (acc ++ (if k > 0 then ", " else "" : String) ++ t)
    have e : (acc ++ (if k > 0 then ", " else "" : String) ++ t).length ≤ acc.length + 2 + t.length := by
      rw [strLen_append, strLen_append]
      split
      · exact Nat.le_refl _
      · show acc.length + 0 + t.length ≤ _
        omega
    have e2 : piled (t :: r) = (t.length + 2) + piled r := by simp [piled]
    show (textFrom (k + 1) _ r).length ≤ _
    omega
theorem nice_list {n m c : Nat} {ds : List PyData} (h : ∀ d ∈ ds, Nice n m d) (hc : ds.length ≤ c) : Nice (c * (n + 2) + 5) (m + 1) (.list ds) := by
  obtain ⟨a, b, e, _⟩ := all_nice h
  refine ⟨by simpa [PyData.showable] using a, ?_, by simp only [PyData.depth]; omega⟩
  simp only [PyData.shown, listText]
  rw [strLen_append]
  have z := textFrom_le (PyData.shownAll ds) 0 "["
  have y : ds.length * (n + 2) ≤ c * (n + 2) := Nat.mul_le_mul_right _ hc
  have u : (("[" : String) : Str).length = 1 := rfl
  have u2 : (("]" : String) : Str).length = 1 := rfl
  omega
theorem join_le (ts : List Str) : (Str.join ", " ts).length ≤ piled ts := by
  by_cases h : ts = []
  · subst h
    exact Nat.zero_le _
  · have := join_length_add ts h
    omega
theorem nice_tuple {n m c : Nat} {ds : List PyData} (h : ∀ d ∈ ds, Nice n m d) (hc : ds.length ≤ c) : Nice (c * (n + 2) + 5) (m + 1) (.tuple ds) := by
  obtain ⟨a, b, e, _⟩ := all_nice h
  refine ⟨by simpa [PyData.showable] using a, ?_, by simp only [PyData.depth]; omega⟩
  simp only [PyData.shown, tupleText]
  rw [strLen_append, strLen_append]
  have z := join_le (PyData.shownAll ds)
  have y : ds.length * (n + 2) ≤ c * (n + 2) := Nat.mul_le_mul_right _ hc
  have u : (("(" : String) : Str).length = 1 := rfl
  have u2 : ((if (PyData.shownAll ds).length == 1 then ",)" else ")" : String) : Str).length ≤ 2 := by
    split <;> decide
  omega
theorem nice_dict {n m : Nat} {d : PyData} (h : Nice n m d) (hm : 1 ≤ m) : Nice (n + 20) (m + 1) (.dict [(.str "a", d)]) := by
  obtain ⟨a, b, c⟩ := h
  refine ⟨by simp [PyData.showable, PyData.showableKv, a], ?_, ?_⟩
  · simp only [PyData.shown, PyData.shownKv, dictText]
    rw [strLen_append, strLen_append]
    have e : (reprText "a").length = 3 := by decide +kernel
    have z := join_le [reprText "a" ++ ": " ++ d.shown]
    have z2 : piled [reprText "a" ++ ": " ++ d.shown] = (reprText "a" ++ ": " ++ d.shown).length + 2 := by simp [piled]
    have z3 : (reprText "a" ++ ": " ++ d.shown).length = 3 + 2 + d.shown.length := by
      rw [strLen_append, strLen_append, e]
      rfl
    have u : (("{" : String) : Str).length = 1 := rfl
    have u2 : (("}" : String) : Str).length = 1 := rfl
    omega
  · simp only [PyData.depth, PyData.depthKv]
    omega

theorem tupleText_le (ts : List Str) : (tupleText ts).length ≤ piled ts + 3 := by
  unfold tupleText
  rw [strLen_append, strLen_append]
  have z := join_le ts
  have u : (("(" : String) : Str).length = 1 := rfl
  have u2 : ((if ts.length == 1 then ",)" else ")" : String) : Str).length ≤ 2 := by
    split <;> decide
  omega
theorem listText_le (ts : List Str) : (listText ts).length ≤ piled ts + 2 := by
  unfold listText
  rw [strLen_append]
  have z := textFrom_le ts 0 "["
  have u : (("[" : String) : Str).length = 1 := rfl
  have u2 : (("]" : String) : Str).length = 1 := rfl
  omega
theorem nice_non : Nice 20 1 .none := ⟨rfl, by decide +kernel, by decide +kernel⟩
theorem nice_str {x : Str} {n : Nat} (h : (reprText x).length ≤ n) : Nice n 1 (.str x) := ⟨rfl, by simpa only [PyData.shown] using h, by simp [PyData.depth]⟩
theorem nice_int {i : Int} (h0 : 0 ≤ i) (h : i < 1000000) : Nice 7 1 (.int i) := by
  refine ⟨?_, ?_, by simp [PyData.depth]⟩
  · simp only [PyData.showable, decide_eq_true_eq]
    by_cases z : i.natAbs = 0
    · rw [z]
      decide
    · exact Nat.lt_trans ((Nat.log2_lt z).mpr (Nat.lt_of_lt_of_le (show i.natAbs < 1000000 by omega) (show 1000000 ≤ 2 ^ 20 by decide))) (by decide)
  · simp only [PyData.shown]
    exact Nat.le_trans (PyProof.Rows.toString_length_le h0 (by decide) (show i < 10 ^ 6 by omega)) (by decide)
theorem repr_kind {k : Str} (h : kindD (.str k) = true) : (reprText k).length ≤ 82 := by
  rcases Bool.or_eq_true_iff.mp (show (houseL.contains k || nameS k) = true from h) with h | h
  · have : k ∈ houseL := by simpa using h
    simp only [houseL, List.mem_cons, List.not_mem_nil, or_false] at this
    rcases this with rfl | rfl | rfl | rfl <;> decide +kernel
  · obtain ⟨h1, _⟩ := Bool.and_eq_true_iff.mp (show (wordS k && !closedL.contains k) = true from h)
    obtain ⟨_, h1⟩ := Bool.and_eq_true_iff.mp (show (decide (0 < k.cps.size) && (decide (k.cps.size ≤ 8) && k.cps.toList.all signB)) = true from h1)
    obtain ⟨h1, h2⟩ := Bool.and_eq_true_iff.mp h1
    have h1 : k.length ≤ 8 := of_decide_eq_true h1
    have := StrLaws.reprText_len k fun c hc => by
      have z := List.all_eq_true.mp h2 c hc
      obtain ⟨_, z⟩ := Bool.and_eq_true_iff.mp (show (decide (97 ≤ c) && decide (c ≤ 122)) = true from z)
      have := of_decide_eq_true z
      omega
    omega
mutual
theorem nice_ty2 : ∀ t : Ty, t.ok = true → (∀ n ∈ numT t, n < 1000000) → Nice (200 * t.size - 2) (2 * t.deep + 2) t.toD
  | .unk n, _, hn => by
    have h := hn n (List.mem_singleton_self n)
    have a : Nice 9 1 (.str "unknown") := nice_str (by decide +kernel)
    have b : Nice 7 1 (.int (n : Int)) := nice_int (by omega) (by omega)
    refine (nice_tuple (n := 9) (m := 1) (c := 2) (fun d hd => ?_) (Nat.le_refl _)).le (by simp only [Ty.size]; omega) (by simp only [Ty.deep]; omega)
    rcases List.mem_cons.mp hd with rfl | hd
    · exact a
    · rw [List.mem_singleton.mp hd]
      exact b.le (by decide) (Nat.le_refl _)
  | .kind k ts, ok, hn => by
    rw [numT_kind] at hn
    obtain ⟨a, b, c, _⟩ := piled_tys ts (oks_sides (t := .kind k ts) ok) hn
    have hk : kindD (.str k) = true := (Bool.and_eq_true_iff.mp (show (kindD (.str k) && (decide (ts.length ≤ 3) && Ty.oks ts)) = true from ok)).1
    have hr := repr_kind hk
    have e0 : (reprText "kind").length = 6 := by decide +kernel
    rw [Ty.toD]
    refine ⟨by simp [PyData.showable, PyData.showableAll, a], ?_, by simp only [PyData.depth, PyData.depthAll, Ty.deep]; omega⟩
    simp only [PyData.shown, PyData.shownAll]
    have z := tupleText_le [reprText "kind", reprText k, listText (PyData.shownAll (Ty.toDs ts))]
    have y : piled [reprText "kind", reprText k, listText (PyData.shownAll (Ty.toDs ts))] = (reprText "kind").length + 2 + ((reprText k).length + 2 + ((listText (PyData.shownAll (Ty.toDs ts))).length + 2)) := by simp [piled]
    have x := listText_le (PyData.shownAll (Ty.toDs ts))
    simp only [Ty.size]
    omega
theorem piled_tys : ∀ ts : List Ty, Ty.oks ts = true → (∀ n ∈ allNums ts, n < 1000000) → PyData.showableAll (Ty.toDs ts) = true ∧ piled (PyData.shownAll (Ty.toDs ts)) ≤ 200 * Ty.sizes ts ∧ PyData.depthAll (Ty.toDs ts) ≤ 2 * Ty.deeps ts + 2 ∧ True
  | [], _, _ => by simp [PyData.showableAll, PyData.shownAll, PyData.depthAll, piled, Ty.toDs]
  | t :: ts, ok, hn => by
    obtain ⟨o1, o2⟩ := Bool.and_eq_true_iff.mp (show (t.ok && Ty.oks ts) = true from ok)
    rw [allNums_cons] at hn
    obtain ⟨a, b, c, _⟩ := piled_tys ts o2 fun n h => hn n (List.mem_append_right _ h)
    obtain ⟨a1, b1, c1⟩ := nice_ty2 t o1 fun n h => hn n (List.mem_append_left _ h)
    have p := size_pos t
    refine ⟨by simp [PyData.showableAll, Ty.toDs, a, a1], ?_, ?_, True.intro⟩
    · simp only [Ty.toDs, PyData.shownAll, piled, List.map_cons, List.sum_cons, Ty.sizes]
      have z : ((PyData.shownAll (Ty.toDs ts)).map fun t => t.length + 2).sum ≤ 200 * Ty.sizes ts := b
      omega
    · simp only [Ty.toDs, PyData.depthAll, Ty.deeps]
      omega
end
theorem nice_ty {t : Ty} (ok : t.ok = true) (hn : ∀ n ∈ numT t, n < 1000000) {s d : Nat} (hs : t.size ≤ s) (hd : t.deep ≤ d) : Nice (200 * s) (2 * d + 2) t.toD := (nice_ty2 t ok hn).le (by omega) (by omega)
theorem nice_tys {ts : List Ty} (ok : Ty.oks ts = true) (hn : ∀ n ∈ allNums ts, n < 1000000) {s d : Nat} (hs : Ty.sizes ts ≤ s) (hd : Ty.deeps ts ≤ d) : Nice (200 * s + 2) (2 * d + 3) (.list (Ty.toDs ts)) := by
  obtain ⟨a, b, c, _⟩ := piled_tys ts ok hn
  refine ⟨by simpa [PyData.showable] using a, ?_, by simp only [PyData.depth]; omega⟩
  simp only [PyData.shown, listText]
  rw [strLen_append]
  have z := textFrom_le (PyData.shownAll (Ty.toDs ts)) 0 "["
  have u : (("[" : String) : Str).length = 1 := rfl
  have u2 : (("]" : String) : Str).length = 1 := rfl
  omega
mutual
theorem toD_inj : ∀ {t u : Ty}, t.toD = u.toD → t = u
  | .unk n, .unk m, h => by
    rw [Ty.toD, Ty.toD] at h
    simp only [PyData.tuple.injEq, List.cons.injEq, PyData.int.injEq] at h
    rw [show n = m by omega]
  | .unk n, .kind k ts, h => by
    rw [Ty.toD, Ty.toD] at h
    simp at h
  | .kind k ts, .unk n, h => by
    rw [Ty.toD, Ty.toD] at h
    simp at h
  | .kind k ts, .kind k2 us, h => by
    rw [Ty.toD, Ty.toD] at h
    simp only [PyData.tuple.injEq, List.cons.injEq, PyData.str.injEq, PyData.list.injEq] at h
    obtain ⟨_, h1, h2, _⟩ := h
    rw [h1, toDs_inj h2]
theorem toDs_inj : ∀ {ts us : List Ty}, Ty.toDs ts = Ty.toDs us → ts = us
  | [], [], _ => rfl
  | [], u :: us, h => by
    rw [Ty.toDs, Ty.toDs] at h
    cases h
  | t :: ts, [], h => by
    rw [Ty.toDs, Ty.toDs] at h
    cases h
  | t :: ts, u :: us, h => by
    rw [Ty.toDs, Ty.toDs] at h
    obtain ⟨h1, h2⟩ := List.cons.inj h
    rw [toD_inj h1, toDs_inj h2]
end
/-! ### texts in types are short -/
theorem sml_kind {k : Str} (h : kindD (.str k) = true) : smlD (.str k) = true := by
  refine decide_eq_true (Nat.le_trans (show k.length ≤ 8 from ?_) (by decide))
  rcases Bool.or_eq_true_iff.mp (show (houseL.contains k || nameS k) = true from h) with h | h
  · have : k ∈ houseL := by simpa using h
    simp only [houseL, List.mem_cons, List.not_mem_nil, or_false] at this
    rcases this with rfl | rfl | rfl | rfl <;> decide +kernel
  · obtain ⟨h1, _⟩ := Bool.and_eq_true_iff.mp (show (wordS k && !closedL.contains k) = true from h)
    obtain ⟨_, h1⟩ := Bool.and_eq_true_iff.mp (show (decide (0 < k.cps.size) && (decide (k.cps.size ≤ 8) && k.cps.toList.all signB)) = true from h1)
    exact of_decide_eq_true (Bool.and_eq_true_iff.mp h1).1
mutual
theorem sml_ty : ∀ t : Ty, t.ok = true → smlD t.toD = true
  | .unk n, _ => by
    show smlAll [.str "unknown", .int (n : Int)] = true
    simp only [smlAll, smlD, Bool.and_true]
    decide +kernel
  | .kind k ts, ok => by
    have hk : kindD (.str k) = true := (Bool.and_eq_true_iff.mp (show (kindD (.str k) && (decide (ts.length ≤ 3) && Ty.oks ts)) = true from ok)).1
    show smlAll [.str "kind", .str k, .list (Ty.toDs ts)] = true
    refine smlAll_of fun d hd => ?_
    simp only [List.mem_cons, List.not_mem_nil, or_false] at hd
    rcases hd with rfl | rfl | rfl
    · decide +kernel
    · exact sml_kind hk
    · exact sml_tys ts (oks_sides (t := .kind k ts) ok)
theorem sml_tys : ∀ ts : List Ty, Ty.oks ts = true → smlAll (Ty.toDs ts) = true
  | [], _ => rfl
  | t :: ts, ok => by
    obtain ⟨o1, o2⟩ := Bool.and_eq_true_iff.mp (show (t.ok && Ty.oks ts) = true from ok)
    rw [Ty.toDs]
    simp only [smlAll, sml_ty t o1, sml_tys ts o2, Bool.and_self]
end
end Wy

set_option Elab.async false
set_option linter.all false
set_option maxRecDepth 100000
set_option maxHeartbeats 1000000
/-! Wy, part P: lists of texts compared; repr within a display. -/
namespace Wy
open PySem PySem.Spec L2
/-- two lists of the same texts -/
def rNeS (K : PySem.W.Frag) : R2 := fun x y H Q => ∃ (a b : Addr) (zs : List Str), x = .ref a ∧ y = .ref b ∧ SqL K H a (zs.map V.str) ∧ SqL K H b (zs.map V.str) ∧ Q (.bl false) H
theorem strs_vals : ∀ {zs : List Str} {us : List Value}, Vals (zs.map V.str) us → ∀ (j : Nat) (h : j < us.length), ∃ z t, zs[j]? = some z ∧ us[j] = Value.str z t
  | [], _, .nil, j, h => absurd h (Nat.not_lt_zero j)
  | z :: zs, _, .cons r rr, 0, h => by
    obtain ⟨t, e⟩ := r
    exact ⟨z, t, rfl, e⟩
  | z :: zs, _, .cons r rr, j + 1, h => by
    obtain ⟨z', t, h1, h2⟩ := strs_vals (zs := zs) rr j (Nat.lt_of_succ_lt_succ h)
    exact ⟨z', t, h1, h2⟩
theorem op_neS {X : Cx} (hu : X.A.units + 64 < cLine) : OpR X (compareOp .NotEq) (rNeS X.K) := by
  intro pins s σ H x y v u Q I rx ry h
  obtain ⟨a, b, zs, rfl, rfl, ha, hb, q⟩ := h
  cases rx
  cases ry
  obtain ⟨its, r, p1, _⟩ := I.list ha
  obtain ⟨its2, r2, p2, _⟩ := I.list hb
  have e1 := r.length
  have e2 := r2.length
  have key := PySem.SeqAt.RcNeAt.lists (A := X.A) (e := fun _ => true) p1.isList p2.isList (by rw [List.size_toArray, List.size_toArray]; omega) (by omega) (fun j h1 h2 => by
    rw [List.size_toArray] at h1 h2
    obtain ⟨z, t, hz, h3⟩ := strs_vals r j h1
    obtain ⟨z', t', hz', h4⟩ := strs_vals r2 j h2
    obtain rfl : z = z' := Option.some.inj (hz.symm.trans hz')
    rw [List.getElem_toArray, List.getElem_toArray, h3, h4]
    have := PySem.SeqAt.EqAt.str_str (A := X.A.in1) (s := s) z t z t'
    rw [beq_self_eq_true] at this
    exact this)
  refine key _ _ _ _ ?_
  rw [show (!(List.range its.toArray.size).all fun _ => true) = false by simp]
  exact ⟨.bl false, H, I, rfl, q⟩
section
variable {K : PySem.W.Frag} {M : Addr → Bool} {σ : St} {F : Hp} {te : TE} {d : PyData}
theorem dr_repr (h : DR K M te σ F d) {n m : Nat} (hn : Nice n m d) (h1 : n ≤ 16000000) (h2 : m ≤ 60) : DR K M (tCB (rRepr K) (tCons te tNil)) σ F (.str d.shown) := fun H Q o s q =>
  h H _ o s fun v H1 s1 hv => ⟨v, d, rfl, hv.mono outM_sub, hn.1, Nat.le_trans (Nat.le_trans hn.2.1 h1) (by decide), Nat.le_trans hn.2.2 h2, q _ H1 s1 (.str _)⟩
end
end Wy

set_option Elab.async false
set_option linter.all false
set_option maxRecDepth 100000
set_option maxHeartbeats 1000000
/-! Wy, part Q: displays that make trees of new lists; trees seen outside of what changes. -/
namespace Wy
open PySem PySem.Spec L2
theorem sqT_outM {K : PySem.W.Frag} {M : Addr → Bool} {H : Hp} {a : Addr} {xs : List V} (o : Occ M H) (h : SqT K H a xs) : SqT K (outM M H) a xs := by
  have no : ∀ u : HO, H a = some u → (∀ l, u ≠ .lst l) → outM M H a = some u := fun u e n => by
    unfold outM
    rw [if_neg]
    · exact e
    · intro z
      obtain ⟨l, e2⟩ := o a z
      rw [e] at e2
      exact n l (Option.some.inj e2)
  rcases h with (h | ⟨u, h⟩) | h
  · exact .inl (.inl (no _ h fun l z => nomatch z))
  · exact .inl (.inr ⟨u, no _ h fun l z => nomatch z⟩)
  · exact .inr h
mutual
theorem Tr.outM {K : PySem.W.Frag} {sh : V → PyData → Prop} {M : Addr → Bool} {H : Hp} (o : Occ M H) : ∀ {v : V} {d : PyData} {S : List Addr}, Tr K sh H v d S → (∀ a ∈ S, M a ≠ true) → Tr K sh (outM M H) v d S
  | _, _, _, .sh h, _ => .sh h
  | _, _, _, .bl b, _ => .bl b
  | _, _, _, .int i, _ => .int i
  | _, _, _, .str x, _ => .str x
  | _, _, _, .tup h t, n => .tup (sqT_outM o h) (TrAll.outM o t n)
  | _, _, _, .lst h t m, n => .lst (by
      unfold Wy.outM
      rw [if_neg (n _ (List.mem_cons_self ..))]
      exact h) (TrAll.outM o t fun a ha => n a (List.mem_cons_of_mem _ ha)) m
theorem TrAll.outM {K : PySem.W.Frag} {sh : V → PyData → Prop} {M : Addr → Bool} {H : Hp} (o : Occ M H) : ∀ {vs : List V} {ds : List PyData} {S : List Addr}, TrAll K sh H vs ds S → (∀ a ∈ S, M a ≠ true) → TrAll K sh (outM M H) vs ds S
  | _, _, _, .nil, _ => .nil
  | _, _, _, .cons h t m, n => .cons (Tr.outM o h fun a ha => n a (List.mem_append_left _ ha)) (TrAll.outM o t fun a ha => n a (List.mem_append_right _ ha)) m
end
/-- all made anew -/
def shN : V → PyData → Prop := fun _ _ => False
/-- a tree of new lists, as data outside of what changes -/
theorem Tr.data {K : PySem.W.Frag} {M : Addr → Bool} {H H' : Hp} {v : V} {d : PyData} {S : List Addr} (o : Occ M H) (s : Same H H') (h : Tr K (fun _ _ => False) H' v d S) (n : ∀ a ∈ S, H a = none) : Dx K (Wy.outM M H') v d :=
  Tr.dx (sh := fun _ _ => False) (fun _ _ z => False.elim z) (Tr.outM (o.mono s) h fun a ha => o.new (n a ha))
theorem TrAll.data {K : PySem.W.Frag} {M : Addr → Bool} {H H' : Hp} {vs : List V} {ds : List PyData} {S : List Addr} (o : Occ M H) (s : Same H H') (h : TrAll K (fun _ _ => False) H' vs ds S) (n : ∀ a ∈ S, H a = none) : DxAll K (Wy.outM M H') vs ds :=
  TrAll.dx (sh := fun _ _ => False) (fun _ _ z => False.elim z) (TrAll.outM (o.mono s) h fun a ha => o.new (n a ha))
theorem tr_ints {K : PySem.W.Frag} {H : Hp} : ∀ ns : List Int, TrAll K (fun _ _ => False) H (ns.map V.int) (ns.map PyData.int) []
  | [] => .nil
  | n :: ns => .cons (S := []) (T := []) (.int n) (tr_ints ns) (fun _ z => by cases z)
/-- te makes a tree of new lists -/
def TR (K : PySem.W.Frag) (M : Addr → Bool) (te : TE) (σ : St) (F : Hp) (d : PyData) : Prop := ∀ (H : Hp) (Q : VK), Occ M H → Same F (outM M H) → (∀ v S H', Same H H' → Tr K (fun _ _ => False) H' v d S → (∀ a ∈ S, H a = none) → Q v H') → te σ H Q
def TRA (K : PySem.W.Frag) (M : Addr → Bool) (ta : TA) (σ : St) (F : Hp) (ds : List PyData) : Prop := ∀ (H : Hp) (Q : List V → Hp → Prop), Occ M H → Same F (outM M H) → (∀ vs S H', Same H H' → TrAll K (fun _ _ => False) H' vs ds S → (∀ a ∈ S, H a = none) → Q vs H') → ta σ H Q
section
variable {K : PySem.W.Frag} {M : Addr → Bool} {σ : St} {F : Hp} {te t1 t2 : TE} {ta : TA} {d : PyData} {ds es : List PyData}
theorem tra_nil : TRA K M tNil σ F [] := fun H Q _ _ q => q [] [] H same_rfl .nil (fun _ z => by cases z)
theorem tra_cons (h : TR K M te σ F d) (t : TRA K M ta σ F ds) : TRA K M (tCons te ta) σ F (d :: ds) := fun H Q o s q =>
  h H _ o s fun v S H1 s1 hv hS => t H1 _ (o.mono s1) (s.trans (outM_same s1)) fun vs T H2 s2 hvs hT => q (v :: vs) (S ++ T) H2 (s1.trans s2) (.cons (hv.mono s2) hvs fun a ha z => by
    obtain ⟨l, e⟩ := Tr.there hv a ha
    rw [hT a z] at e
    cases e) fun a ha => (List.mem_append.mp ha).elim (hS a) fun z => s1.free (hT a z)
theorem tr_lst (h : TRA K M ta σ F ds) (hl : ds.length ≤ 100000) : TR K M (tLst ta) σ F (.list ds) := fun H Q o s q =>
  h H _ o s fun vs S H1 s1 hvs hS => ⟨small _ (by rw [hvs.length]; exact hl), fun p hp => q (.ref p) (p :: S) _ (s1.trans (same_new hp _)) (.lst upd_same (hvs.mono (same_new hp _)) fun z => by
    obtain ⟨l, e⟩ := TrAll.there hvs p z
    rw [hp] at e
    cases e) fun a ha => (List.mem_cons.mp ha).elim (fun z => by rw [z]; exact s1.free hp) (hS a)⟩
theorem TR.dr (h : TR K M te σ F d) : DR K M te σ F d := fun H Q o s q => h H Q o s fun v S H' s' hv hS => q v H' s' (Tr.data o s' hv hS)
theorem tr_seq {i : Nat} {rest : TS} {D : Ends} {H : Hp} (h : TR K M te σ F d) (o : Occ M H) (s : Same F (outM M H)) (q : ∀ v S H', Same H H' → Tr K (fun _ _ => False) H' v d S → (∀ a ∈ S, H a = none) → rest D (σ.set i (some v)) H') : tSeq (tAsg te (gName i)) rest D σ H := h H _ o s q
theorem dr_seqG {g : TG} {rest : TS} {D : Ends} {H : Hp} (h : DR K M te σ F d) (o : Occ M H) (s : Same F (outM M H)) (q : ∀ v H', Same H H' → Dx K (outM M H') v d → g v σ H' fun σ2 H2 => rest D σ2 H2) : tSeq (tAsg te g) rest D σ H := h H _ o s q
theorem dr_ix {k : Nat} (h : DR K M te σ F (.list ds)) (hk : ds[k]? = some d) : DR K M (tOp (rIxL K) te (tC (.int (k : Int)))) σ F d := fun H Q o s q =>
  h H _ o s fun v H1 s1 hv => by
    obtain ⟨a, xs, rfl, ha, hxs⟩ := hv.lst_inv
    obtain ⟨y, hy, hd⟩ := hxs.get' hk
    exact ⟨a, xs, (k : Int), y, rfl, rfl, seq_outM ha, atI_nat hy, q y H1 s1 hd⟩
theorem dr_disp1 {k : Str} {i : Int} : DR K M (tDisp [(tC (.str k), tC (.int i))]) σ F (.dict [(.str k, .int i)]) := fun H Q o s q p hp => by
  refine ⟨upd_same, [((Sum.inr k : Key), V.int i)], rfl, Nat.le_of_ble_eq_true rfl, q _ _ ?_ (.dct (outM_new o hp upd_same) (.cons (k := Sum.inr k) (.int i) .nil))⟩
  intro b u e
  rw [upd_ne (ne_of_none e hp)]
  exact same_new hp _ _ _ e
end
end Wy

set_option Elab.async false
set_option linter.all false
set_option maxRecDepth 100000
set_option maxHeartbeats 1000000
/-! Wy, part R: tests over displays, whose answer is known. -/
namespace Wy
open PySem PySem.Spec L2
def numsD (ns : List Nat) : PyData := .list (ns.map fun (n : Nat) => PyData.int (n : Int))
/-- tt is b, where F is kept -/
def DT (K : PySem.W.Frag) (M : Addr → Bool) (tt : TT) (σ : St) (F : Hp) (b : Bool) : Prop := ∀ (H : Hp) (Qb : Bool → Hp → Prop), Occ M H → Same F (outM M H) → (∀ H', Same H H' → Qb b H') → tt σ H Qb
section
variable {K : PySem.W.Frag} {M : Addr → Bool} {σ : St} {F : Hp} {te t1 t2 : TE} {ta : TA} {tt tu : TT} {d : PyData} {ds es : List PyData}
theorem dr_c {v : V} (hd : Dx K F v d) : DR K M (tC v) σ F d := fun H Q _ s q => q v H same_rfl (hd.mono s)
theorem dt_if1 {a : TS} {D : Ends} {H : Hp} (h : DT K M tt σ F false) (o : Occ M H) (s : Same F (outM M H)) (q : ∀ H', Same H H' → D.nx σ H') : tIfS tt a tNext D σ H :=
  h H _ o s fun H' s' => by
    rw [if_neg Bool.false_ne_true]
    exact q H' s'
/-- the first item of a display changes what M tells of; then as if it were written -/
theorem if_moved {P : V → Hp → Prop} {sp : Sp} {teA : TE} {tb tc : TA} {t3 : TT} {a rest : TS} {D : Ends} {H : Hp} (hA : ∀ Q : VK, (∀ v H', P v H' → Q v H') → teA σ H Q) (h : ∀ v H', P v H' → tSeq (tIfS (tOr (tNot (tB (tCall sp [] E0 (tCons (tLst (tCons (tC v) tb)) tc)))) t3) a tNext) rest D σ H') :
    tSeq (tIfS (tOr (tNot (tB (tCall sp [] E0 (tCons (tLst (tCons teA tb)) tc)))) t3) a tNext) rest D σ H := hA _ fun v H' p => h v H' p
theorem dr_for {tl : TE} {i : Nat} {tb rest : TS} {D : Ends} {H : Hp} (Ps : St → Prop) (h : DR K M tl σ F (.list ds)) (o : Occ M H) (s : Same F (outM M H)) (h0 : Ps σ) (hset : ∀ σ' v, Ps σ' → Ps (σ'.set i (some v)))
    (step : ∀ v d σ' H', d ∈ ds → Ps σ' → Same H H' → Dx K (outM M H') v d → ∀ D' : Ends, D'.rt = D.rt → (∀ H'', Same H' H'' → D'.nx (σ'.set i (some v)) H'') → tb D' (σ'.set i (some v)) H') (q : ∀ σ' H', Ps σ' → Same H H' → rest D σ' H') :
    tSeq (tFor (iList K tl) (gName i) tb) rest D σ H := by
  refine h H _ o s fun v H1 s1 hv => ?_
  obtain ⟨a, xs, rfl, ha, hxs⟩ := hv.lst_inv
  have ha' := seq_outM ha
  refine ⟨a, rfl, ⟨xs, ha'⟩, for_list (xs := xs) (fun j σ' H' => Ps σ' ∧ Same H1 H') ⟨h0, same_rfl⟩ (fun j σ' H' _ z => z.2.seq ha') ?_ ?_⟩
  · rintro j v σ' H' hj ⟨z1, z2⟩
    obtain ⟨d, hd, hvd⟩ := hxs.get hj
    exact step v d σ' H' (List.mem_of_getElem? hd) z1 (s1.trans z2) (hvd.mono (outM_same z2)) _ rfl fun H'' s' => ⟨hset _ _ z1, z2.trans s'⟩
  · rintro σ' H' ⟨z1, z2⟩
    exact q σ' H' z1 (s1.trans z2)
theorem dr_retB {tt : TE} {D : Ends} {H : Hp} {sp : Sp} (h : ∀ (Q : VK), (∀ H', Same H H' → Q (.bl true) H') → tt σ H Q) (q : ∀ H', D.rt (.bl true) H') : tRet tt D σ H := h _ fun H' _ => q H'
theorem dr_retCat {D : Ends} {H : Hp} (h1 : DR K M t1 σ F (.list ds)) (h2 : DR K M t2 σ F (.list es)) (hl : ds.length + es.length ≤ 100000) (o : Occ M H) (s : Same F (outM M H))
    (q : ∀ p xs H', Same H H' → H p = none → H' p = some (.lst xs) → DxAll K (outM M H') xs (ds ++ es) → D.rt (.ref p) H') : tRet (tOp (rCatS K) t1 t2) D σ H :=
  h1 H _ o s fun v H1 s1 hv => h2 H1 _ (o.mono s1) (s.trans (outM_same s1)) fun u H2 s2 hu => by
    obtain ⟨a, xs, rfl, ha, hxs⟩ := hv.lst_inv
    obtain ⟨b, ys, rfl, hb, hys⟩ := hu.lst_inv
    refine ⟨a, b, xs, ys, rfl, rfl, s2.seq (seq_outM ha), seq_outM hb, small _ (by rw [hxs.length, hys.length]; exact hl), fun p hp => ?_⟩
    have s3 := same_new hp (.lst (xs ++ ys))
    exact q p _ _ (s1.trans (s2.trans s3)) ((s1.trans s2).free hp) upd_same (((hxs.mono (outM_same s2)).append hys).mono (outM_same s3))
theorem dt_or (h1 : DT K M tt σ F false) (h2 : DT K M tu σ F false) : DT K M (tOr tt tu) σ F false := fun H Qb o s q =>
  h1 H _ o s fun H1 s1 => (by
    rw [if_neg Bool.false_ne_true]
    exact h2 H1 _ (o.mono s1) (s.trans (outM_same s1)) fun H2 s2 => q H2 (s1.trans s2))
theorem dt_not {b : Bool} (h : DT K M tt σ F b) : DT K M (tNot tt) σ F (!b) := fun H Qb o s q => h H _ o s q
theorem dt_ne {x : Str} (h1 : DR K M t1 σ F (.str x)) (h2 : DR K M t2 σ F (.str x)) : DT K M (tTest (tOp rNe t1 t2)) σ F false := fun H Qb o s q =>
  h1 H _ o s fun v H1 s1 hv => h2 H1 _ (o.mono s1) (s.trans (outM_same s1)) fun u H2 s2 hu => by
    obtain rfl := hv.str_inv
    obtain rfl := hu.str_inv
    refine ⟨rfl, _, rfl, ?_⟩
    rw [show (!decide (V.str x = V.str x)) = false by simp]
    exact q H2 (s1.trans s2)
theorem dt_if {a : TS} {rest : TS} {D : Ends} {H : Hp} (h : DT K M tt σ F false) (o : Occ M H) (s : Same F (outM M H)) (q : ∀ H', Same H H' → rest D σ H') : tSeq (tIfS tt a tNext) rest D σ H :=
  h H _ o s fun H' s' => by
    rw [if_neg Bool.false_ne_true]
    exact q H' s'
theorem dxall_map {α : Type} {H : Hp} {f : α → V} {g : α → PyData} (h : ∀ i, Dx K H (f i) (g i)) : ∀ l : List α, DxAll K H (l.map f) (l.map g)
  | [] => .nil
  | x :: l => .cons (h x) (dxall_map h l)
theorem dpall_ints {H : Hp} : ∀ {ns : List Nat} {xs : List V}, DxAll K H xs (ns.map fun (n : Nat) => PyData.int (n : Int)) → DpAll K H xs (ns.map fun (n : Nat) => PyData.int (n : Int))
  | [], _, .nil => .nil
  | n :: ns, _, .cons h t => by
    cases h
    exact .cons (.int _) (dpall_ints t)
theorem lay_ints : ∀ ns : List Nat, PyData.canLayAll0 (ns.map fun (n : Nat) => PyData.int (n : Int)) = true
  | [] => rfl
  | n :: ns => by
    rw [List.map_cons, PyData.canLayAll0, lay_ints ns]
    rfl
theorem depth_ints : ∀ ns : List Nat, PyData.depthAll (ns.map fun (n : Nat) => PyData.int (n : Int)) = 0
  | [] => rfl
  | n :: ns => by
    rw [List.map_cons, PyData.depthAll, depth_ints ns]
    rfl
theorem lay_nums (ns : List Nat) : (numsD ns).canLay0 = true := by
  unfold numsD
  rw [PyData.canLay0]
  exact lay_ints ns
theorem shaped_nums (ns : List Nat) : SeqAt.shaped (numsD ns) = true := by
  unfold SeqAt.shaped
  rw [lay_nums, Bool.true_and]
  refine decide_eq_true ?_
  unfold numsD
  rw [PyData.depth, depth_ints]
  decide
theorem dt_neN {ns : List Nat} (h1 : DR K M t1 σ F (numsD ns)) (h2 : DR K M t2 σ F (numsD ns)) : DT K M (tTest (tOp (rNeD K) t1 t2)) σ F false := fun H Qb o s q =>
  h1 H _ o s fun v H1 s1 hv => h2 H1 _ (o.mono s1) (s.trans (outM_same s1)) fun u H2 s2 hu => by
    obtain ⟨a, xs, rfl, ha, hxs⟩ := ((hv.mono outM_sub).mono s2).lst_inv
    obtain ⟨b, ys, rfl, hb, hys⟩ := (hu.mono outM_sub).lst_inv
    refine ⟨numsD ns, numsD ns, .lst ha (dpall_ints hxs), .lst hb (dpall_ints hys), shaped_nums ns, shaped_nums ns, _, rfl, ?_⟩
    rw [SeqAt.eqv_refl _ (lay_nums ns)]
    exact q H2 (s1.trans s2)
theorem dr_rangeLen (h : DR K M te σ F (.list ds)) (hl : ds.length ≤ 100000) : DR K M (tLstRg (tRg1 (tCB (fun xs H Q => ∃ x n, xs = [x] ∧ LenV K x H n ∧ Q (.int n) H) (tCons te tNil)))) σ F (numsD (List.range ds.length)) := fun H Q o s q =>
  h H _ o s fun v H1 s1 hv => by
    obtain ⟨a, xs, rfl, ha, hxs⟩ := hv.lst_inv
    have e := hxs.length
    refine ⟨_, _, rfl, .inl ⟨xs, seq_outM ha, rfl⟩, _, rfl, RgOk.of_le (by decide) (by omega) (by decide) (by omega), fun l hl0 => ?_⟩
    refine q _ _ (s1.trans (same_new hl0 _)) (.lst (SqL.of (outM_new (o.mono s1) hl0 upd_same)) ?_)
    unfold rgV
    have e2 : ((xs.length : Int) - 0).toNat = ds.length := by omega
    rw [e2]
    refine dxall_map (fun i => ?_) _
    rw [Int.zero_add]
    exact .int _
end
end Wy

set_option Elab.async false
set_option linter.all false
set_option maxRecDepth 100000
set_option maxHeartbeats 1000000
/-! Wy, part K: a head's facts about own exceptions, as Bool checks. -/
namespace Wy
open PySem PySem.Spec L2 PySem.W
/-! ### the head's facts -/
theorem ba {a b : Bool} (h : (a && b) = true) : a = true ∧ b = true := Bool.and_eq_true_iff.mp h
def shapeB (K : Frag) (C : Addr) : Bool := match K.lookup C with
  | some ⟨.type "type", _, .cls cd, sl⟩ => (match cd.mro, sl.toList with
    | .ref C' :: bm, [_, _, _, _, some (.builtin n), _] => C' == C && (n == "ValueError.__new__" && (!cd.hasDel && (cd.hasDict && PySem.HandSPX.refsVE bm)))
    | _, _ => false)
  | _ => false
theorem shapeB_ok {K : Frag} {C : Addr} (h : shapeB K C = true) : ∃ nm q N bs bm sn sub ab col dd k0 k1 k2 k3 k5, K.lookup C = some (excClassObj nm q C N bs bm true sn sub ab col dd k0 k1 k2 k3 k5 "ValueError.__new__") ∧ PySem.HandSPX.refsVE bm = true := by
  unfold shapeB at h
  split at h
  · rename_i dd cd sl ho
    split at h
    · rename_i C' bm k0 k1 k2 k3 n k5 hm hs
      simp only [Bool.and_eq_true, beq_iff_eq, Bool.not_eq_true'] at h
      obtain ⟨rfl, rfl, hdel, hdict, hve⟩ := h
      obtain ⟨nm, bs, mro, ns, qn, hd, sn, sub, ab, col, del⟩ := cd
      dsimp only at hm hdel hdict
      subst hm hdel hdict
      have hsl : sl = #[k0, k1, k2, k3, some (.builtin "ValueError.__new__"), k5] := by
        obtain ⟨l⟩ := sl
        simp only at hs
        rw [hs]
      subst hsl
      exact ⟨_, _, _, _, _, _, _, _, _, _, _, _, _, _, _, ho, hve⟩
    · cases h
  · cases h
def clB (K : Frag) (D C : Addr) : Bool := shapeB K C && (decide (findIn K (.ref C) "__setattr__" = some (some (.builtin "object.__setattr__"))) && (decide (nsIn K cStatics "thirdparty.any" = some none) && (decide (mroIn K C (.ref D) = some true) && decide (subIn K (.ref C) (.type "ValueError") = some true))))
theorem clB_ok {K : Frag} {D C : Addr} (h : clB K D C = true) : Cl K D C := by
  obtain ⟨h1, h⟩ := ba h
  obtain ⟨h2, h⟩ := ba h
  obtain ⟨h3, h⟩ := ba h
  obtain ⟨h4, h5⟩ := ba h
  exact ⟨shapeB_ok h1, of_decide_eq_true h2, of_decide_eq_true h3, of_decide_eq_true h4, of_decide_eq_true h5⟩
def wcB (K : Frag) (D C : Addr) : Bool := clB K D C && (decide (ks_superIn K C D "__init__" = some (some (.builtin "ValueError.__init__"))) && decide (findIn K (.ref C) "value" = some none))
theorem wcB_ok {K : Frag} {D C : Addr} (h : wcB K D C = true) : WC K D C := by
  obtain ⟨h1, h⟩ := ba h
  obtain ⟨h2, h3⟩ := ba h
  exact ⟨clB_ok h1, of_decide_eq_true h2, of_decide_eq_true h3⟩
def mkB (K : Frag) (C fI : Addr) : Bool := shapeB K C && (decide (findIn K (.ref C) "__init__" = some (some (.ref fI))) && (decide (typeIn K (.ref fI) = some (.type "function")) && keepIn K (.ref C)))
theorem mkB_ok {K : Frag} {C fI : Addr} (h : mkB K C fI = true) : MkE K C fI := by
  obtain ⟨h1, h⟩ := ba h
  obtain ⟨h2, h⟩ := ba h
  obtain ⟨h3, h4⟩ := ba h
  exact ⟨shapeB_ok h1, of_decide_eq_true h2, of_decide_eq_true h3, h4⟩
def isB (K : Frag) (D : Addr) : Bool := xfB K D && (decide (findIn K (.ref D) "__class__" = some (some (.builtin "object.__class__"))) && (decide (specialIn K (.builtin "object.__class__") "__get__" = some (some (.builtin "getset_descriptor.__get__"))) && (decide (takesIn K (.builtin "object.__class__") = some true) && decide (mroIn K D (.type "object") = some true))))
theorem isB_ok {K : Frag} {D : Addr} (h : isB K D = true) : ExcC K D ∧ XfC K D := by
  obtain ⟨h1, h⟩ := ba h
  obtain ⟨h2, h⟩ := ba h
  obtain ⟨h3, h⟩ := ba h
  obtain ⟨h4, h5⟩ := ba h
  have x := xfB_ok h1
  exact ⟨⟨x.ga, x.gg, x.exC, x.hdC, of_decide_eq_true h2, of_decide_eq_true h3, of_decide_eq_true h4, of_decide_eq_true h5⟩, x⟩
def clsBody (s : Stmt) : List Stmt := match s with
  | .ClassDef _ _ _ b _ _ _ _ _ _ _ => b
  | _ => []
abbrev FnS : Type := Option (Str × Str × Arguments × FuncBody × Scope × Addr × List Str × Addr)
def fnS (K : Frag) (f : Addr) : FnS := match K.lookup f with
  | some ⟨_, _, .func fd, _⟩ => some (fd.name, fd.qualname, fd.params, fd.body, fd.scope, fd.globals, fd.closure.map (·.1), fd.builtins)
  | _ => none
def vS (q : Str) (st : Stmt) : FnS := some ("__init__", q, defArgs st, .stmts (defBody st), defScope st, mainGlobals, ["__class__"], builtinsNs)
def supB (file : Str) (K : Frag) (D f : Addr) : Bool := match K.lookup f with
  | some ⟨_, _, .func fd, _⟩ => (match fd.closure, fd.defaults, fd.code with
    | [(_, cc)], .none, .ref cda => (match K.lookup cc with
        | some ⟨_, _, .cell (some (.ref D')), _⟩ => D' == D
        | _ => false) && ((match K.lookup cda with
        | some ⟨_, _, .fields vs, _⟩ => (match vs[2]? with
            | some (Value.str fl _) => file == fl
            | _ => false)
        | _ => false) && (codeIn K (.ref cda) fd.qualname && (clsIn K D).isSome))
    | _, _, _ => false)
  | _ => false
theorem supB_ok {P : Program} {K : Frag} {D f : Addr} {qual : Str} {params : Arguments} {body : List Stmt} {ps : List Str} {ar : Arg}
    (e : fnS K f = (some ("__init__", qual, params, FuncBody.stmts body, scSup ps, mainGlobals, ["__class__"], builtinsNs) : FnS)) (h : supB P.main.file K D f = true) (har : (params.posonlyargs ++ params.args).head? = some ar) (htop : (P.main.scope.names.lookup ("super" : Str)).isSome = false) :
    ∃ cc cda kV doc pm ct an, Sup P K D f cc cda (fnSup qual params body ps cc cda kV doc pm an ct) ar ∧ codeIn K (.ref cda) qual = true := by
  unfold fnS at e
  unfold supB at h
  cases q : K.lookup f with
  | none =>
    rw [q] at e
    cases e
  | some o =>
    obtain ⟨oc, od, dt, osl⟩ := o
    rw [q] at e h
    cases dt with
    | func fd =>
      obtain ⟨n1, n2, n3, n4, n5, n6, n7, n8, n9, n10, n11, n12, n13, n14, n15⟩ := fd
      have e2 : (some (n1, n2, n3, n4, n5, n6, n7.map (·.1), n15) : FnS) = (some ("__init__", qual, params, FuncBody.stmts body, scSup ps, mainGlobals, ["__class__"], builtinsNs) : FnS) := e
      simp only [Option.some.injEq, Prod.mk.injEq] at e2
      obtain ⟨h1, h2, h3, h4, h5, h6, h7, h8⟩ := e2
      subst h1 h2 h3 h4 h5 h6 h8
      dsimp only at h
      split at h
      · rename_i y cc cda
        obtain ⟨g1, h⟩ := ba h
        obtain ⟨g2, h⟩ := ba h
        obtain ⟨g3, g4⟩ := ba h
        obtain rfl : y = "__class__" := List.head_eq_of_cons_eq h7
        have gc : ∃ cl cld csl, K.lookup cc = some ⟨cl, cld, .cell (some (.ref D)), csl⟩ := by
          split at g1
          · rename_i D' _ z
            have zz := beq_iff_eq.mp g1
            subst zz
            exact ⟨_, _, _, z⟩
          · cases g1
        have gd : ∃ ccl cdd vs ccs file tf, K.lookup cda = some ⟨ccl, cdd, .fields vs, ccs⟩ ∧ vs[2]? = some (.str file tf) ∧ ((P.main.file : Str) == file) = true := by
          split at g2
          · rename_i vs _ z
            split at g2
            · rename_i fl tf z2
              exact ⟨_, _, _, _, _, _, z, z2, g2⟩
            · cases g2
          · cases g2
        refine ⟨cc, cda, n9, n10, n11, n14, n12, ⟨⟨oc, od, osl, q⟩, har, gc, gd, ?_, htop⟩, g3⟩
        cases z : clsIn K D with
        | none =>
          rw [z] at g4
          cases g4
        | some cd => exact ⟨cd, rfl⟩
      · cases h
    | _ => cases e
def smB (K : Frag) : Bool := match K.lookup sysModules with
  | some o => decide (o.cls = .type "dict")
  | none => false
theorem all_range {n : Nat} {p : Nat → Bool} (h : (List.range n).all p = true) {i : Nat} (hi : i < n) : p i = true := List.all_eq_true.mp h i (List.mem_range.mpr hi)
end Wy

set_option Elab.async false
set_option linter.all false
set_option maxRecDepth 100000
set_option maxHeartbeats 2000000
/-! Wy, part S: sorted of pairs of an int and a value, the ints unlike. -/
namespace Wy
open PySem PySem.Spec L2 SrtO PyProof.Rows Srt
/-- a pair of an int and a value -/
def IsPr (h : Heap) (v : Value) (x : Int) : Prop := ∃ a o t u n, v = .ref a ∧ h.get? a = some o ∧ o.cls = .type "tuple" ∧ o.data = .seq #[.int x t, u] n
theorem IsPr.keeps {h h' : Heap} {v : Value} {x : Int} (p : IsPr h v x) (k : ∀ b o, h.get? b = some o → o.cls = .type "tuple" → h'.get? b = some o) : IsPr h' v x := by
  obtain ⟨a, o, t, u, n, e, ho, hc, hd⟩ := p
  exact ⟨a, o, t, u, n, e, k _ _ ho hc, hc, hd⟩
section
variable {prog : Program} {w : World} {A : Around} {E : Value → Shared → Prop} {s : Shared}
theorem firsts_pr {h : Heap} : ∀ {vs : List Value}, (∀ v ∈ vs, ∃ x, IsPr h v x) → ∃ fs : List Value, PySem.W.KatTups h vs fs ∧ fs.length = vs.length ∧ ∀ f ∈ fs, ∃ x t, f = Value.int x t
  | [], _ => ⟨[], PySem.W.KatTups.nil, rfl, fun _ hm => by simp at hm⟩
  | v :: vs, hp => by
    obtain ⟨fs, h1, h2, h3⟩ := firsts_pr (vs := vs) fun v' hm => hp v' (List.mem_cons_of_mem _ hm)
    obtain ⟨x, a, o, t, u, n, e, ho, hc, hd⟩ := hp v (List.mem_cons_self ..)
    subst e
    refine ⟨.int x t :: fs, PySem.W.KatTups.cons ho hc hd rfl h1, by rw [List.length_cons, List.length_cons, h2], fun f hm => ?_⟩
    rcases List.mem_cons.mp hm with rfl | hm
    · exact ⟨x, t, rfl⟩
    · exact h3 f hm
theorem pr_cmp {vs : List Value} {k : Value → Int} (hp : ∀ v ∈ vs, IsPr s.heap v (k v)) (hi : ∀ v ∈ vs, ∀ u ∈ vs, k v = k u → v = u) : Cmp prog w A s (tuples' true) (fun p => p.1 ∈ vs) (lt2 fun v u => decide (k v < k u)) := by
  intro p q hm hm'
  have h1 := hp _ hm
  have h2 := hp _ hm'
  have h3 := hi _ hm _ hm'
  show wpAny (model prog w) A (keyLt' (tuples' true) p.1 q.1) (fun r s' => s' = s ∧ r = decide (k p.1 < k q.1)) (fun _ _ => False) s
  generalize k p.1 = x at h1 h3 ⊢
  generalize k q.1 = x' at h2 h3 ⊢
  obtain ⟨a, o, t, u, n, e, ho, hc, hd⟩ := h1
  obtain ⟨a', o', t', u', n', e', ho', hc', hd'⟩ := h2
  rw [e, e'] at h3 ⊢
  refine PySem.W.kat_lt ho hd ho' hd' ?_
  show PySem.W.KatLex prog w A true (decide (2 < 2)) _ [(.int x t, .int x' t'), (u, u')] 0 s
  refine PySem.W.kat_cons (SeqAt.EqAt.int_int x t x' t' prog w _ _ ?_)
  refine PySem.W.kat_go (fun e1 => ?_) (fun e1 => ?_)
  · have ex : x = x' := by simpa using e1
    have ea : a = a' := Value.ref.inj (h3 ex)
    subst ea
    rw [ho] at ho'
    cases ho'
    rw [hd] at hd'
    cases hd'
    refine PySem.W.kat_yes (PySem.W.kat_cons (SeqAt.EqAt.same u prog w _ _ ?_))
    refine PySem.W.kat_yes (PySem.W.kat_nil ⟨rfl, ?_⟩)
    simp
  · exact PySem.W.kat_no (oneLt_int ⟨rfl, rfl⟩)
theorem swo_int (k : Value → Int) : Swo fun v u => decide (k v < k u) := by
  refine ⟨fun x y h => ?_, fun x y z h1 h2 => ?_⟩
  · have a := of_decide_eq_true h
    exact decide_eq_false (by omega)
  · have a := of_decide_eq_false h1
    have b := of_decide_eq_false h2
    exact decide_eq_false (by omega)
theorem prs_sortable {a : Addr} {vs : List Value} {k : Value → Int} (h0 : 0 < vs.length) (hp : ∀ v ∈ vs, IsPr s.heap v (k v)) (hi : ∀ v ∈ vs, ∀ u ∈ vs, k v = k u → v = u) (ha : ∀ o, s.heap.get? a = some o → o.cls ≠ .type "tuple") : SortableO prog w A s a vs fun v u => decide (k v < k u) := by
  intro h' keep
  have hp' : ∀ v ∈ vs, IsPr h' v (k v) := fun v hm => (hp v hm).keeps fun b o e c => keep b o (fun z => by subst z; exact ha o e c) e
  obtain ⟨fs, h1, h2, h3⟩ := firsts_pr fun v hm => ⟨_, hp' v hm⟩
  refine ⟨tuples' true, fun Q E hq => ?_, pr_cmp hp' hi⟩
  refine PySem.W.kat_kind (T := .type "int") h1 (by omega) (fun f hm => ?_) (by rfl) ?_
  · obtain ⟨x, t, rfl⟩ := h3 f hm
    exact PySem.W.Looks.now
  · have e : (Value.type "int" != Value.type "tuple") = true := by first | decide +kernel | rfl | decide
    rw [e]
    exact hq
theorem sorted_prs {l : Addr} {vs : List Value} {k : Value → Int} {Q : Value → Shared → Prop} (hl : s.heap.IsList l vs.toArray) (hz : vs.length ≤ sizeLine) (hp : ∀ v ∈ vs, IsPr s.heap v (k v)) (hi : ∀ v ∈ vs, ∀ u ∈ vs, k v = k u → v = u)
    (h : ∀ (h' : Heap) (d : Addr) (out : List Value), Srtd (fun v u => decide (k v < k u)) out → Stb (fun v u => decide (k v < k u)) out vs → (∀ b o, s.heap.get? b = some o → h'.get? b = some o) → s.heap.objs.size ≤ d → (∃ n, h'.get? d = some (seqObj "list" out.toArray n)) → Q (.ref d) { s with heap := h' }) :
    wpAny (model prog w) A (call (.builtin "sorted") [.ref l]) Q E s := by
  refine sorted_ord (swo_int k) hl hz (fun h2 h₁ a ha kk => ?_) fun out hs hb => ?_
  · refine prs_sortable (s := { s with heap := h₁ }) (by omega) (fun v hm => (hp v hm).keeps fun b o e _ => (kk b o e).2) hi fun o e => ?_
    have e' : some o = some (seqObj "list" vs.toArray 0) := e.symm.trans ha
    cases e'
    intro c
    exact absurd (Value.type.inj c) (by decide)
  · exact h _ _ out hs hb (fun b o e => sortedAll_old e) (Nat.le_succ _) (sortedAll_at s.heap vs out.toArray)
end
/-- sorted(xs), xs a list of pairs, their first parts unlike ints (k says which) -/
def rSortedPr (K : PySem.W.Frag) : List V → Hp → VK → Prop := fun vs H Q => ∃ (a : Addr) (xs : List V) (k : V → Int), vs = [V.ref a] ∧ SqL K H a xs ∧ (∀ x ∈ xs, ∃ t y, x = V.ref t ∧ H t = some (.tup [.int (k x), y])) ∧ (∀ x ∈ xs, ∀ y ∈ xs, k x = k y → x = y) ∧
  ∀ ys p, ys.Perm xs → ys.Pairwise (fun x y => k x ≤ k y) → H p = none → Q (.ref p) (upd H p (.lst ys))
section
variable {X : Cx}
theorem cr_sortedPr : CallR X (.builtin "sorted") (rSortedPr X.K) := by
  intro pins s σ H vs us Q I r h
  obtain ⟨a, xs, k, rfl, hs, hx, hi, q⟩ := h
  obtain ⟨its, rv, hl, hz⟩ := I.list hs
  obtain ⟨u, rfl, ru⟩ := vals1 r
  obtain rfl : u = Value.ref a := ru
  obtain ⟨e1, e2⟩ := refs_back rv fun x m => by
    obtain ⟨t, _, e, _⟩ := hx x m
    exact ⟨t, e⟩
  have mem : ∀ v ∈ its, ∃ t, v = Value.ref t ∧ V.ref t ∈ xs := fun v hv => by
    obtain ⟨t, rfl⟩ := e2 v hv
    exact ⟨t, rfl, by rw [e1]; exact List.mem_map.mpr ⟨_, hv, rfl⟩⟩
  refine sorted_prs (k := fun u => k (backV u)) hl.isList (by rw [← rv.length]; exact hz) (fun v hv => ?_) (fun v hv u hu e => ?_) fun h' d out h1 h2 kp hd hn => ?_
  · obtain ⟨t, rfl, hm⟩ := mem v hv
    obtain ⟨t', y, e, ht⟩ := hx _ hm
    cases e
    obtain ⟨_, its2, r2, o, ho, hc, n, hd⟩ := I.hok _ _ ht
    obtain ⟨u1, u2, rfl, ri, rj⟩ := vals2 r2
    obtain ⟨t1, rfl⟩ := ri
    exact ⟨t, o, t1, u2, n, rfl, ho, hc, hd⟩
  · obtain ⟨t, rfl, hm⟩ := mem v hv
    obtain ⟨t', rfl, hm'⟩ := mem u hu
    have := hi _ hm _ hm' e
    cases this
    rfl
  · have h3 : ∀ u ∈ out, ∃ a, u = Value.ref a := fun u hu => e2 u (h2.perm.mem_iff.mp hu)
    obtain ⟨n, hn⟩ := hn
    have hb : (out.map backV).Perm xs := by
      rw [e1]
      exact h2.perm.map backV
    refine ⟨.ref d, upd H d (.lst (out.map backV)), I.laid (t' := s.toks) kp hd ⟨?_, out, n, vals_back h3, hn⟩, rfl, q _ d hb ?_ (I.hok.fresh hd)⟩
    · rw [hb.length_eq]
      exact hz
    · rw [List.pairwise_map]
      refine List.Pairwise.imp (fun {x y} h => ?_) h1
      have := of_decide_eq_false h
      omega
end
end Wy

set_option Elab.async false
set_option linter.all false
set_option maxRecDepth 100000
set_option maxHeartbeats 3200000
/-! Wy, part I: set(xs) of a list of ints. -/
namespace Wy
open PySem PySem.Spec L2 PyProof.Rows
theorem setR_congr {w : World} {h : Heap} {a : Addr} {S T : Int → Bool} {n : Nat} (R : SetR w h a S n) (e : ∀ k, S k = T k) : SetR w h a T n := by
  obtain rfl : S = T := funext e
  exact R
section
variable {prog : Program} {w : World} {A : Around} {R : Result → Shared → Prop} {I : Addr} {fp wr : List Addr} {G : Array GenState → Array GenState → Prop} {n : Nat} {P : Nat → Value → Prop} {St : Nat → Shared → Prop}
theorem loopInt (W : WalksS prog w A.in1 I fp wr G n P St) (S : Addr) (hSf : S ∉ fp) (xs : List Int) (hsz : xs.length = n) (hn1 : n < 64)
    (hval : ∀ i v, P i v → ∃ t, v = .int (xs.getD i 0) t) :
    ∀ (k i : Nat) (s : Shared), n - i = k → i ≤ n → St i s →
      (∃ m, m ≤ i ∧ SetR w s.heap S (fun j => decide (j ∈ xs.take i)) m) →
      (∀ s' m, Moved (S :: wr) G s s' → m ≤ n → SetR w s'.heap S (fun j => decide (j ∈ xs.take n)) m → R (.ok (.ret .none)) s') →
      codeAny (model prog w) A (.builtin "set.update.loop" ⟨[.ref S, .ref I], []⟩) R s := by
  have hSw : S ∉ wr := fun h => hSf (W.sub _ h)
  have hsub : ∀ b ∈ wr, b ∈ S :: wr := fun b hb => List.mem_cons_of_mem _ hb
  intro k
  induction k with
  | zero =>
    intro i s hk hi hst hS hR
    have hin : i = n := by omega
    subst hin
    refine codeAny_builtin PyProof.Rows.F.entry_set_update_loop ?_
    rw [Around.under_plainId PyProof.Rows.F.plain_set_update_loop _]
    show wpAny _ A.in1 (pyNext (.ref I) >>= _) _ _ s
    refine wpAny_bind (W.done s _ _ hst fun s' hm => ?_)
    show wpAny _ A.in1 (ret Value.none) _ _ s'
    obtain ⟨m, hmi, hS⟩ := hS
    exact wpAny_pure (hR s' m (hm.mono hsub) hmi (hS.at fun o ho => hm.heap S _ hSw ho))
  | succ k ih =>
    intro i s hk hi hst hS hR
    have hlt : i < n := by omega
    refine codeAny_builtin PyProof.Rows.F.entry_set_update_loop ?_
    rw [Around.under_plainId PyProof.Rows.F.plain_set_update_loop _]
    show wpAny _ A.in1 (pyNext (.ref I) >>= _) _ _ s
    refine wpAny_bind (W.item i s _ _ hlt hst fun v s' hP hst' hm => ?_)
    obtain ⟨t, rfl⟩ := hval i v hP
    obtain ⟨m, hmi, hS⟩ := hS
    have hS' : SetR w s'.heap S (fun j => decide (j ∈ xs.take i)) m := hS.at fun o ho => hm.heap S _ hSw ho
    show wpAny _ A.in1 (holding [Value.int (xs.getD i 0) t] (setAdd S (.int (xs.getD i 0) t)) >>= _) _ _ s'
    refine wpAny_bind (wpAny_holding ?_)
    unfold setAdd
    refine wpAny_holding ?_
    refine wpAny_bind ((PySem.intKind prog w).pyHash (k := xs.getD i 0) (intKind_is _ _ _ _) ?_)
    refine setR_add_hashed (P := prog) (s := { s' with toks := s'.toks + 1 }) hS' (by unfold scanBound; omega) fun h' hsb hS2 => ?_
    have hx : xs[i]? = some (xs.getD i 0) := by
      rw [List.getD_eq_getElem?_getD, List.getElem?_eq_getElem (by omega)]
      rfl
    have hSi : ∃ m', m' ≤ i + 1 ∧ SetR w h' S (fun j => decide (j ∈ xs.take (i + 1))) m' := by
      refine ⟨_, ?_, setR_congr hS2 fun j => ?_⟩
      · split <;> omega
      · rw [List.take_add_one, hx, Bool.eq_iff_iff]
        simp only [Bool.or_eq_true, decide_eq_true_eq, List.mem_append, Option.toList_some, List.mem_singleton]
    refine wpAny_pure ⟨plainId_quiet PyProof.Rows.F.plain_set_update_loop _, ih (i + 1) _ (by omega) hlt (W.frame _ s' _ _ hst' (Nat.le_succ _) fun b hb o e => ?_) hSi fun s'' m'' hm'' hle hS'' => ?_⟩
    · rw [hsb.2 b (fun h : b = S => hSf (by rw [← h]; exact hb))]; exact e
    · refine hR s'' m'' (Moved.trans W.gtrans ((hm.mono hsub).then_heap (Nat.le_succ _) fun b o hb e => ?_) hm'') hle hS''
      rw [hsb.2 b (fun h : b = S => hb (by rw [h]; exact List.mem_cons_self))]; exact e
end
section
variable {prog : Program} {w : World} {A : Around} {E : Value → Shared → Prop} {s : Shared}
theorem call_set_ints {l : Addr} {items : Array Value} {xs : List Int} {Q : Value → Shared → Prop}
    (hh : A.handled = none) (hl : s.heap.IsList l items) (hi : ∀ (i : Nat) (v : Value), items[i]? = some v → ∃ t, v = .int (xs.getD i 0) t) (hsz : xs.length = items.size) (hn1 : xs.length < 64)
    (h : ∀ (h' : Heap) (tk m : Nat), m ≤ xs.length → SetR w h' s.heap.objs.size (fun j => decide (j ∈ xs)) m →
      (∀ b o, b < s.heap.objs.size → s.heap.get? b = some o → h'.get? b = some o) → Q (.ref s.heap.objs.size) { s with heap := h', toks := tk }) :
    wpAny (model prog w) A (call (.type "set") [.ref l]) Q E s := by
  obtain ⟨c, tl, hmro⟩ := PySem.F.called_set.mro
  have hmade := PySem.F.called_set.made
  have hsub := PySem.F.called_set.sub
  refine wpAny_call (codeAny_of_tree ?_)
  show wpAny _ _ (callAny (.type "set") _) _ _ _
  refine wpAny_pure ⟨Code.quiet_builtin _ (by decide +kernel), codeAny_builtin PySem.F.entry_type_call ?_⟩
  rw [Around.under_plain (weight_type_call_type "set" [.ref l] []) rfl]
  have h1 := PySem.F.called_set.notType
  have h2 := PySem.F.called_set.canCreate
  have hct := PySem.F.typeCall_set_1 (.ref l)
  repeat (any_goals (first | assumption | wp_step))

  refine codeAny_mono (code_set_led1 (.ref l) (E := E) (Q₁ := fun obj s₁ => obj = .ref s.heap.objs.size ∧ s₁ = { s with heap := s.heap.push { cls := .type "set", dict := none, data := .set #[] 0 (.fresh 0 0 (!w.params.followText "set-order")) } }) ⟨rfl, rfl⟩) fun r s₁ hr => ?_
  cases r with
  | error e => exact hr
  | ok fl =>
    cases fl with
    | ret obj =>
      obtain ⟨rfl, rfl⟩ := hr
      have hS : (s.heap.push { cls := .type "set", dict := none, data := .set #[] 0 (.fresh 0 0 (!w.params.followText "set-order")) }).get? s.heap.objs.size = some { cls := .type "set", dict := none, data := .set #[] 0 (.fresh 0 0 (!w.params.followText "set-order")) } := Heap.get?_push_size _ rfl
      have hT : Shared.TypeIs { s with heap := s.heap.push { cls := .type "set", dict := none, data := .set #[] 0 (.fresh 0 0 (!w.params.followText "set-order")) } } (.ref s.heap.objs.size) "set" := ⟨_, hS, rfl⟩
      have hli := PySem.F.called_set.init.lookup
      have hbi := PySem.F.called_set.init.bind (.ref s.heap.objs.size)
      repeat (any_goals (first | assumption | wp_step))

      refine codeAny_mono (codeAny_call_builtin (R := wants (fun r s₂ => r = .none ∧ ∃ h' tk m, s₂ = { s with heap := h', toks := tk } ∧ m ≤ xs.length ∧
          SetR w h' s.heap.objs.size (fun j => decide (j ∈ xs)) m ∧
          (∀ b o, b < s.heap.objs.size → s.heap.get? b = some o → h'.get? b = some o)) E) PySem.F.called_set.init.plain PySem.F.entry_set_init (check_set_init_1 hT ?_)) fun r₂ s₂ hr₂ => ?_
      · obtain ⟨ol, hol, hcl, nl, hdl⟩ := hl
        obtain ⟨ocls, odict, odata, oslots⟩ := ol
        simp only at hcl hdl
        subst hcl; subst hdl
        have hol' : (s.heap.push { cls := .type "set", dict := none, data := .set #[] 0 (.fresh 0 0 (!w.params.followText "set-order")) }).get? l = some { cls := .type "list", dict := odict, data := .seq items nl, slots := oslots } := Heap.get?_push_of_some _ hol
        have hsls := PySem.F.sub_list_set
        have hslf := PySem.F.sub_list_frozenset
        have hne : (Value.type "list" == Value.type "dict") = false := by decide
        have hl1 : (s.heap.push { cls := .type "set", dict := none, data := .set #[] 0 (.fresh 0 0 (!w.params.followText "set-order")) }).IsList l items := ⟨_, hol', rfl, nl, rfl⟩
        unfold Builtin.«set.__init__» noKeywords Builtin.Frozenset.updateFrom
        generalize hPI : pyIter = PI
        wp_walk
        subst hPI

        refine wpAny_pyIter_list hl1 ?_
        refine wpAny_bind (wpAny_runValue ?_)
        have hlS : l < s.heap.objs.size := Heap.lt_size hol
        have hh3 : A.in1.in1.in1.handled = none := by simp [hh]
        have hneI : l ≠ (s.heap.push { cls := .type "set", dict := none, data := .set #[] 0 (.fresh 0 0 (!w.params.followText "set-order")) }).objs.size := by
          rw [Heap.size_push]; exact Nat.ne_of_lt (Nat.lt_succ_of_lt hlS)
        have hSf : s.heap.objs.size ∉ [(s.heap.push { cls := .type "set", dict := none, data := .set #[] 0 (.fresh 0 0 (!w.params.followText "set-order")) }).objs.size, l] := by
          rw [Heap.size_push]; simp only [List.mem_cons, List.mem_singleton, List.not_mem_nil, or_false, not_or]
          exact ⟨Nat.ne_of_lt (Nat.lt_succ_self _), Nat.ne_of_gt hlS⟩
        refine loopInt ((Walks.list hh3 _ l hneI items).toS) s.heap.objs.size
          hSf xs hsz (by rw [← hsz]; exact hn1) hi (items.size - 0) 0 _ (by omega) (Nat.zero_le _)
          ⟨⟨_, Heap.get?_push_size _ rfl, rfl, rfl⟩, (hl1.push _)⟩ ⟨0, Nat.le_refl _, ?hS0⟩ ?hR
        case hS0 =>
          have z := setR_fresh (h := s.heap) w
          refine setR_congr (z.at fun o ho => Heap.get?_push_of_some _ ho) fun k => ?_
          simp
        case hR =>
          intro s' m hm hle hS'
          obtain ⟨h', g', d', tk', os'⟩ := s'
          have eg : g' = s.gens := hm.gens
          have ed : d' = s.drawn := hm.drawn
          have eo : os' = s.os := hm.os
          subst eg; subst ed; subst eo
          show wpAny _ _ _ _ _ _
          refine wpAny_pure ?_
          show wpAny _ _ (ret Value.none) _ _ _
          refine wpAny_pure ⟨rfl, h', tk', m, rfl, by rw [hsz]; exact hle, setR_congr hS' (fun j => by rw [← hsz, List.take_length]), fun b o hb e => ?_⟩
          have hb1 : b ≠ s.heap.objs.size := Nat.ne_of_lt hb
          have hb2 : b ≠ (s.heap.push { cls := .type "set", dict := none, data := .set #[] 0 (.fresh 0 0 (!w.params.followText "set-order")) }).objs.size := by
            rw [Heap.size_push]; exact Nat.ne_of_lt (Nat.lt_succ_of_lt hb)
          exact hm.heap b o (by simp only [List.mem_cons, List.mem_singleton, List.not_mem_nil, or_false, not_or]; exact ⟨hb1, hb2⟩) (Heap.get?_push_of_some _ (Heap.get?_push_of_some _ e))

      · cases r₂ with
        | error e => exact hr₂
        | ok fl₂ =>
          cases fl₂ with
          | ret r =>
            obtain ⟨rfl, h', tk, m, rfl, hle, hS', hk'⟩ := hr₂
            repeat (any_goals (first | assumption | wp_step))
            exact h _ _ _ hle hS' hk'
          | _ => exact hr₂.elim
    | _ => exact hr.elim
end
/-- set(xs), xs a list of ints -/
def rSetOfI (K : PySem.W.Frag) (w : World) : List V → Hp → VK → Prop := fun vs H Q => ∃ (a : Addr) (ns : List Int), vs = [V.ref a] ∧ SqL K H a (ns.map V.int) ∧ ns.length < 64 ∧ ∀ p m, H p = none → m ≤ ns.length → Q (.ref p) (upd H p (SetO w p (fun j => decide (j ∈ ns)) m))
theorem cr_setOfI {X : Cx} (hc : X.calm = true) : CallR X (.type "set") (rSetOfI X.K X.w) := by
  intro pins s σ H vs us Q I r h
  obtain ⟨a, ns, rfl, hs, hl, q⟩ := h
  rw [Vals.ref1 r]
  obtain ⟨its, rv, pl, hz⟩ := I.list hs
  have e1 := rv.length
  rw [List.length_map] at e1
  refine call_set_ints (xs := ns) (I.ok.hd hc) pl.isList (fun i v hv => ?_) (by rw [List.size_toArray]; exact e1) hl fun h' tk m hm R k => ?_
  · rw [List.getElem?_toArray] at hv
    have hi : i < its.length := (List.getElem?_eq_some_iff.mp hv).1
    have hx : (ns.map V.int)[i]? = some (V.int (ns.getD i 0)) := by
      rw [List.getElem?_map, List.getD_eq_getElem?_getD, List.getElem?_eq_getElem (by omega)]
      rfl
    obtain ⟨u, hu, ru⟩ := rv.get hx
    rw [hv] at hu
    obtain rfl := Option.some.inj hu
    exact ru
  · exact ⟨.ref s.heap.objs.size, upd H s.heap.objs.size (SetO X.w s.heap.objs.size (fun j => decide (j ∈ ns)) m), I.laid (t' := tk) (fun b o e => k b o (Heap.lt_size e) e) (Nat.le_refl _) (setO_new R), rfl, q _ m (I.hok.fresh (Nat.le_refl _)) hm⟩
end Wy

set_option Elab.async false
set_option linter.all false
set_option maxRecDepth 100000
set_option maxHeartbeats 1000000
/-! Wy, part J: pairs of numbers and types; a table of them; what is put in. -/
namespace Wy
open PySem PySem.Spec L2
def pairD (p : Nat × Ty) : PyData := .tuple [.int (p.1 : Int), p.2.toD]
def prD (ps : List (Nat × Ty)) : PyData := .list (ps.map pairD)
def lkT (ps : List (Nat × Ty)) (n : Nat) : Option Ty := (ps.find? fun p => decide (p.1 = n)).map (·.2)
theorem lkT_cons (p : Nat × Ty) (ps : List (Nat × Ty)) (n : Nat) : lkT (p :: ps) n = if p.1 = n then some p.2 else lkT ps n := by
  unfold lkT
  rw [List.find?_cons]
  by_cases h : p.1 = n
  · rw [decide_eq_true h, if_pos h]
    rfl
  · rw [decide_eq_false h, if_neg h]
theorem valV_cons (k : Key) (v : V) (kvs : List (Key × V)) (j : Key) : valV ((k, v) :: kvs) j = if k = j then some v else valV kvs j := by
  unfold valV
  rw [List.find?_cons]
  by_cases h : k = j
  · rw [decide_eq_true (show (k, v).1 = j from h), if_pos h]
    rfl
  · rw [decide_eq_false (show ¬ (k, v).1 = j from h), if_neg h]
theorem lkT_mem {ps : List (Nat × Ty)} {n : Nat} {u : Ty} (h : lkT ps n = some u) : (n, u) ∈ ps := by
  induction ps with
  | nil => cases h
  | cons p ps ih =>
    rw [lkT_cons] at h
    split at h
    · rename_i e
      obtain ⟨m, x⟩ := p
      cases h
      cases e
      exact List.mem_cons_self
    · exact List.mem_cons_of_mem _ (ih h)
theorem lkT_none {ps : List (Nat × Ty)} {n : Nat} : lkT ps n = none ↔ n ∉ ps.map (·.1) := by
  induction ps with
  | nil => exact ⟨fun _ h => (by cases h), fun _ => rfl⟩
  | cons p ps ih =>
    rw [lkT_cons, List.map_cons, List.mem_cons]
    split
    · rename_i e
      exact ⟨fun h => (by cases h), fun h => absurd (Or.inl e.symm) h⟩
    · rename_i e
      rw [ih]
      exact ⟨fun h z => z.elim (fun y => e y.symm) h, fun h z => h (.inr z)⟩
theorem lkT_of {ps : List (Nat × Ty)} (nd : (ps.map (·.1)).Nodup) {n : Nat} {u : Ty} (h : (n, u) ∈ ps) : lkT ps n = some u := by
  induction ps with
  | nil => cases h
  | cons p ps ih =>
    rw [List.map_cons, List.nodup_cons] at nd
    rw [lkT_cons]
    rcases List.mem_cons.mp h with e | h
    · rw [← e]
      exact if_pos rfl
    · rw [if_neg fun e => nd.1 (by rw [e]; exact List.mem_map.mpr ⟨_, h, rfl⟩)]
      exact ih nd.2 h
theorem lkT_perm {ps qs : List (Nat × Ty)} (hp : ps.Perm qs) (nd : (ps.map (·.1)).Nodup) (n : Nat) : lkT ps n = lkT qs n := by
  have nd2 : (qs.map (·.1)).Nodup := (hp.map _).nodup_iff.mp nd
  cases h : lkT qs n with
  | some u => exact lkT_of nd (hp.mem_iff.mpr (lkT_mem h))
  | none => exact lkT_none.mpr fun z => lkT_none.mp h ((hp.map _).mem_iff.mp z)
/-! ### the table in the heap -/
inductive TabIs (K : PySem.W.Frag) (H : Hp) : List (Key × V) → List (Nat × Ty) → Prop
  | nil : TabIs K H [] []
  | cons {n : Nat} {u : Ty} {v : V} {kvs : List (Key × V)} {ps : List (Nat × Ty)} : Dx K H v u.toD → TabIs K H kvs ps → TabIs K H ((Sum.inl (n : Int), v) :: kvs) ((n, u) :: ps)
theorem TabIs.mono {K : PySem.W.Frag} {H H' : Hp} (s : Same H H') : ∀ {kvs : List (Key × V)} {ps : List (Nat × Ty)}, TabIs K H kvs ps → TabIs K H' kvs ps
  | _, _, .nil => .nil
  | _, _, .cons h t => .cons (h.mono s) (t.mono s)
theorem TabIs.length {K : PySem.W.Frag} {H : Hp} : ∀ {kvs : List (Key × V)} {ps : List (Nat × Ty)}, TabIs K H kvs ps → kvs.length = ps.length
  | _, _, .nil => rfl
  | _, _, .cons _ t => congrArg Nat.succ t.length
theorem TabIs.get {K : PySem.W.Frag} {H : Hp} : ∀ {kvs : List (Key × V)} {ps : List (Nat × Ty)} {i : Nat} {k : Key} {v : V}, TabIs K H kvs ps → kvs[i]? = some (k, v) → ∃ n u, ps[i]? = some (n, u) ∧ k = Sum.inl (n : Int) ∧ Dx K H v u.toD
  | _, _, 0, _, _, .cons h _, e => by
    cases e
    exact ⟨_, _, rfl, rfl, h⟩
  | _, _, i + 1, _, _, .cons _ t, e => t.get (i := i) e
theorem inl_ne {m n : Nat} (h : m ≠ n) : ¬ (Sum.inl (m : Int) : Key) = Sum.inl (n : Int) := fun z => h (by
  have := Sum.inl.inj z
  exact_mod_cast this)
theorem TabIs.val {K : PySem.W.Frag} {H : Hp} : ∀ {kvs : List (Key × V)} {ps : List (Nat × Ty)}, TabIs K H kvs ps → ∀ n : Nat, match valV kvs (Sum.inl (n : Int)) with
    | some x => ∃ u, lkT ps n = some u ∧ Dx K H x u.toD
    | none => lkT ps n = none
  | _, _, .nil, n => rfl
  | _, _, @TabIs.cons _ _ m u v kvs ps h t, n => by
    rw [valV_cons, lkT_cons]
    by_cases e : m = n
    · subst e
      rw [if_pos rfl, if_pos rfl]
      exact ⟨u, rfl, h⟩
    · rw [if_neg (inl_ne e), if_neg e]
      exact t.val n
theorem TabIs.keys {K : PySem.W.Frag} {H : Hp} : ∀ {kvs : List (Key × V)} {ps : List (Nat × Ty)}, TabIs K H kvs ps → kvs.map (·.1) = (ps.map (·.1)).map fun (n : Nat) => (Sum.inl (n : Int) : Key)
  | _, _, .nil => rfl
  | _, _, .cons _ t => by
    rw [List.map_cons, List.map_cons, List.map_cons, t.keys]
theorem valV_key {kvs : List (Key × V)} {k : Key} (h : k ∉ kvs.map (·.1)) : valV kvs k = none := by
  induction kvs with
  | nil => rfl
  | cons p kvs ih =>
    obtain ⟨j, v⟩ := p
    rw [List.map_cons, List.mem_cons, not_or] at h
    rw [valV_cons, if_neg fun e => h.1 e.symm]
    exact ih h.2
theorem merge_new : ∀ (kvs acc : List (Key × V)), ((acc ++ kvs).map (·.1)).Nodup → mergeK acc kvs = acc ++ kvs
  | [], acc, _ => by rw [List.append_nil]; rfl
  | (k, v) :: kvs, acc, h => by
    have e : acc ++ (k, v) :: kvs = (acc ++ [(k, v)]) ++ kvs := by rw [List.append_assoc]; rfl
    show mergeK (putK acc k v) kvs = _
    rw [putK_new v (valV_key fun z => ?_), merge_new kvs _ (by rw [← e]; exact h), ← e]
    rw [List.map_append, List.nodup_append] at h
    exact h.2.2 k z k (by simp) rfl
theorem nodup_inl : ∀ {ns : List Nat}, ns.Nodup → (ns.map fun (n : Nat) => (Sum.inl (n : Int) : Key)).Nodup
  | [], _ => List.nodup_nil
  | n :: ns, h => by
    rw [List.nodup_cons] at h
    rw [List.map_cons, List.nodup_cons]
    refine ⟨fun z => ?_, nodup_inl h.2⟩
    obtain ⟨m, hm, e⟩ := List.mem_map.mp z
    have : m = n := by
      have := Sum.inl.inj e
      exact_mod_cast this
    exact h.1 (this ▸ hm)
theorem TabIs.merge {K : PySem.W.Frag} {H : Hp} {kvs : List (Key × V)} {ps : List (Nat × Ty)} (h : TabIs K H kvs ps) (nd : (ps.map (·.1)).Nodup) : mergeK [] kvs = kvs :=
  merge_new kvs [] (by rw [List.nil_append, h.keys]; exact nodup_inl nd)
theorem dx_pairs {K : PySem.W.Frag} {H : Hp} : ∀ {ps : List (Nat × Ty)} {vs : List V}, DxAll K H vs (ps.map pairD) → ∃ (as : List Addr) (kvs : List (Key × V)), vs = as.map V.ref ∧ Paired (fun p (kv : Key × V) => SqT K H p [kV kv.1, kv.2]) as kvs ∧ TabIs K H kvs ps
  | [], _, .nil => ⟨[], [], rfl, .nil, .nil⟩
  | (n, u) :: ps, _, .cons h t => by
    obtain ⟨as, kvs, rfl, hp, ht⟩ := dx_pairs t
    obtain ⟨a, xs, rfl, hq, hx⟩ := h.tup_inv
    cases hx with
    | cons h1 hx =>
    cases hx with
    | cons h2 hx =>
    cases hx
    cases h1
    exact ⟨a :: as, (Sum.inl (n : Int), _) :: kvs, rfl, .cons hq hp, .cons h2 ht⟩
/-! ### the counts -/
def cntK (ps : List (Nat × Ty)) : List (Key × V) := ps.map fun p => ((Sum.inl (p.1 : Int) : Key), V.int (p.2.size : Nat))
theorem cnt_keys (ps : List (Nat × Ty)) : (cntK ps).map (·.1) = (ps.map (·.1)).map fun (n : Nat) => (Sum.inl (n : Int) : Key) := by
  unfold cntK
  rw [List.map_map, List.map_map]
  rfl
theorem cnt_val : ∀ (ps : List (Nat × Ty)) (n : Nat), valV (cntK ps) (Sum.inl (n : Int)) = (lkT ps n).map fun u => V.int (u.size : Nat)
  | [], n => rfl
  | (m, u) :: ps, n => by
    show valV ((Sum.inl (m : Int), V.int (u.size : Nat)) :: cntK ps) _ = _
    rw [valV_cons, lkT_cons]
    by_cases e : m = n
    · subst e
      rw [if_pos rfl, if_pos rfl]
      rfl
    · rw [if_neg (inl_ne e), if_neg e]
      exact cnt_val ps n
theorem cnt_step {ps : List (Nat × Ty)} {j n : Nat} {u : Ty} (nd : (ps.map (·.1)).Nodup) (h : ps[j]? = some (n, u)) : putK (cntK (ps.take j)) (Sum.inl (n : Int)) (V.int (u.size : Nat)) = cntK (ps.take (j + 1)) := by
  have e : ps.take (j + 1) = ps.take j ++ [(n, u)] := by
    rw [List.take_add_one, h]
    rfl
  have nj : n ∉ (ps.take j).map (·.1) := by
    have z := nd.sublist ((List.take_sublist (j + 1) ps).map (·.1))
    rw [e, List.map_append, List.nodup_append] at z
    exact fun y => z.2.2 n y n (by simp) rfl
  rw [putK_new _ (by rw [cnt_val, lkT_none.mpr nj]; rfl), e]
  unfold cntK
  rw [List.map_append]
  rfl
/-- how many parts stand for a part -/
def wt (f : Nat → Option Ty) : Ty → Nat
  | .unk n => match f n with
    | some u => u.size
    | none => 1
  | .kind _ _ => 1
mutual
theorem size_put (f : Nat → Option Ty) : ∀ t : Ty, (t.put f).size = (t.parts.map (wt f)).sum
  | .unk n => by
    rw [Ty.put, Ty.parts, List.map_cons, List.map_nil, List.sum_cons, List.sum_nil, Nat.add_zero]
    show _ = match f n with | some u => u.size | none => 1
    cases f n <;> rfl
  | .kind k ts => by
    rw [Ty.put, Ty.size, Ty.parts, List.map_cons, List.sum_cons, sizes_puts f ts]
    rfl
theorem sizes_puts (f : Nat → Option Ty) : ∀ ts : List Ty, Ty.sizes (Ty.puts f ts) = ((Ty.partss ts).map (wt f)).sum
  | [] => rfl
  | t :: ts => by
    rw [Ty.puts, Ty.sizes, Ty.partss, List.map_append, List.sum_append, size_put f t, sizes_puts f ts]
end
/-! ### put in twice -/
mutual
theorem put_put (f g : Nat → Option Ty) : ∀ t : Ty, (t.put f).put g = t.put fun n => match f n with
    | some u => some (u.put g)
    | none => g n
  | .unk n => by
    rw [Ty.put, Ty.put]
    show _ = (match f n with | some u => some (u.put g) | none => g n).getD _
    cases f n with
    | none => rfl
    | some u => rfl
  | .kind k ts => by
    rw [Ty.put, Ty.put, Ty.put, puts_puts f g ts]
theorem puts_puts (f g : Nat → Option Ty) : ∀ ts : List Ty, Ty.puts g (Ty.puts f ts) = Ty.puts (fun n => match f n with
    | some u => some (u.put g)
    | none => g n) ts
  | [] => rfl
  | t :: ts => by
    rw [Ty.puts, Ty.puts, Ty.puts, put_put f g t, puts_puts f g ts]
end
mutual
theorem ok_put {f : Nat → Option Ty} (hf : ∀ n u, f n = some u → u.ok = true) : ∀ t : Ty, t.ok = true → (t.put f).ok = true
  | .unk n, _ => by
    rw [Ty.put]
    cases e : f n with
    | none => rfl
    | some u => exact hf n u e
  | .kind k ts, h => by
    rw [Ty.ok, Bool.and_eq_true, Bool.and_eq_true] at h
    rw [Ty.put, Ty.ok, Bool.and_eq_true, Bool.and_eq_true]
    exact ⟨h.1, by rw [puts_map, List.length_map]; exact h.2.1, oks_put hf ts h.2.2⟩
theorem oks_put {f : Nat → Option Ty} (hf : ∀ n u, f n = some u → u.ok = true) : ∀ ts : List Ty, Ty.oks ts = true → Ty.oks (Ty.puts f ts) = true
  | [], _ => rfl
  | t :: ts, h => by
    rw [Ty.oks, Bool.and_eq_true] at h
    rw [Ty.puts, Ty.oks, Bool.and_eq_true]
    exact ⟨ok_put hf t h.1, oks_put hf ts h.2⟩
end
mutual
theorem deep_put {f : Nat → Option Ty} {m : Nat} (hf : ∀ n u, f n = some u → u.deep ≤ m) : ∀ t : Ty, (t.put f).deep ≤ t.deep + m
  | .unk n => by
    rw [Ty.put]
    cases e : f n with
    | none => exact Nat.zero_le _
    | some u => exact Nat.le_trans (hf n u e) (Nat.le_add_left _ _)
  | .kind k ts => by
    rw [Ty.put, Ty.deep, Ty.deep]
    have := deeps_put hf ts
    omega
theorem deeps_put {f : Nat → Option Ty} {m : Nat} (hf : ∀ n u, f n = some u → u.deep ≤ m) : ∀ ts : List Ty, Ty.deeps (Ty.puts f ts) ≤ Ty.deeps ts + m
  | [] => Nat.zero_le _
  | t :: ts => by
    rw [Ty.puts, Ty.deeps, Ty.deeps]
    have h1 := deep_put hf t
    have h2 := deeps_put hf ts
    omega
end
/-- what is put in later, put into what is put in first, and the rest of it -/
def bothL (ps ls : List (Nat × Ty)) : List (Nat × Ty) := ps.map (fun p => (p.1, p.2.put (lkT ls))) ++ ls.filter fun p => !(ps.any fun q => decide (q.1 = p.1))
theorem lkT_append (a b : List (Nat × Ty)) (n : Nat) : lkT (a ++ b) n = match lkT a n with
    | some u => some u
    | none => lkT b n := by
  induction a with
  | nil => rfl
  | cons p a ih =>
    rw [List.cons_append, lkT_cons, lkT_cons]
    split
    · rfl
    · exact ih
theorem lkT_map (g : Ty → Ty) (ps : List (Nat × Ty)) (n : Nat) : lkT (ps.map fun p => (p.1, g p.2)) n = (lkT ps n).map g := by
  induction ps with
  | nil => rfl
  | cons p ps ih =>
    rw [List.map_cons, lkT_cons, lkT_cons]
    by_cases e : p.1 = n
    · rw [if_pos e, if_pos e]
      rfl
    · rw [if_neg e, if_neg e]
      exact ih
theorem lkT_filter (f : Nat → Bool) (ls : List (Nat × Ty)) (n : Nat) (h : f n = true) : lkT (ls.filter fun p => f p.1) n = lkT ls n := by
  induction ls with
  | nil => rfl
  | cons p ls ih =>
    rw [List.filter_cons]
    split
    · rw [lkT_cons, lkT_cons, ih]
    · rename_i e
      rw [lkT_cons, if_neg fun z => e (by rw [z]; exact h)]
      exact ih
theorem lkT_both (ps ls : List (Nat × Ty)) (n : Nat) : lkT (bothL ps ls) n = match lkT ps n with
    | some u => some (u.put (lkT ls))
    | none => lkT ls n := by
  unfold bothL
  rw [lkT_append, lkT_map]
  cases e : lkT ps n with
  | some u => rfl
  | none =>
    refine lkT_filter (fun m => !(ps.any fun q => decide (q.1 = m))) ls n ?_
    have z := lkT_none.mp e
    rw [Bool.not_eq_true', Bool.eq_false_iff]
    intro y
    obtain ⟨q, hq, e2⟩ := List.any_eq_true.mp y
    exact z (List.mem_map.mpr ⟨q, hq, of_decide_eq_true e2⟩)
theorem put_both (ps ls : List (Nat × Ty)) (t : Ty) : (t.put (lkT ps)).put (lkT ls) = t.put (lkT (bothL ps ls)) := by
  rw [put_put]
  exact put_congr t fun n _ => (lkT_both ps ls n).symm
theorem both_nodup {ps ls : List (Nat × Ty)} (h1 : (ps.map (·.1)).Nodup) (h2 : (ls.map (·.1)).Nodup) : ((bothL ps ls).map (·.1)).Nodup := by
  unfold bothL
  rw [List.map_append, List.map_map, List.nodup_append]
  refine ⟨h1, h2.sublist (List.filter_sublist.map _), fun a ha b hb e => ?_⟩
  obtain ⟨q, hq, rfl⟩ := List.mem_map.mp hb
  have z := (List.mem_filter.mp hq).2
  rw [Bool.not_eq_true', Bool.eq_false_iff] at z
  obtain ⟨p, hp, rfl⟩ := List.mem_map.mp ha
  exact z (List.any_eq_true.mpr ⟨p, hp, decide_eq_true e⟩)
end Wy

set_option Elab.async false
set_option linter.all false
set_option maxRecDepth 100000
set_option maxHeartbeats 1000000
namespace K21
open PySem PySem.Spec L2 Wy
def top (i : Nat) : Stmt := PySem.Challenge.pw_whytypes_k21_whole_types_put_in.main.body.getD i (.Pass ⟨0, 0, 0, 0⟩)
abbrev s_is_whole : Stmt := top 8
abbrev s_is_count : Stmt := top 9
abbrev s_is_word : Stmt := top 10
abbrev s_is_name : Stmt := top 11
abbrev s_is_kind_name : Stmt := top 16
abbrev s_is_head : Stmt := top 17
abbrev s_parts_in : Stmt := top 18
abbrev s_is_type : Stmt := top 19
abbrev s_check_type : Stmt := top 20
abbrev s_all_parts : Stmt := top 21
abbrev s_put_there : Stmt := top 22
abbrev s_apart : Stmt := top 23
abbrev s_put_many : Stmt := top 24
abbrev s_are_pairs : Stmt := top 25
abbrev s_put_types : Stmt := top 26
abbrev s__law_purse : Stmt := top 28
abbrev s__law_draw : Stmt := top 29
abbrev s__law_pick : Stmt := top 30
abbrev s__law_same : Stmt := top 31
abbrev s__law_spoilt : Stmt := top 32
abbrev s__law_kind : Stmt := top 33
abbrev s__law_unknown : Stmt := top 34
abbrev s__law_sides : Stmt := top 35
abbrev s__law_parts : Stmt := top 36
abbrev s__law_drawn_type : Stmt := top 37
abbrev s__law_put : Stmt := top 38
abbrev s__law_odd_types : Stmt := top 39
abbrev s__law_heard : Stmt := top 40
abbrev s__law_pairs : Stmt := top 41
abbrev s__law_odd_pairs : Stmt := top 42
abbrev s_law : Stmt := top 43
/-- the defs of the text, as the top has left them -/
structure Fs (K : PySem.W.Frag) (mg : Str → Option Value) where
  f_is_whole : Addr
  fd_is_whole : FuncData
  d_is_whole : Df K mg "is_whole" s_is_whole f_is_whole fd_is_whole
  f_is_count : Addr
  fd_is_count : FuncData
  d_is_count : Df K mg "is_count" s_is_count f_is_count fd_is_count
  f_is_word : Addr
  fd_is_word : FuncData
  d_is_word : Df K mg "is_word" s_is_word f_is_word fd_is_word
  f_is_name : Addr
  fd_is_name : FuncData
  d_is_name : Df K mg "is_name" s_is_name f_is_name fd_is_name
  f_is_kind_name : Addr
  fd_is_kind_name : FuncData
  d_is_kind_name : Df K mg "is_kind_name" s_is_kind_name f_is_kind_name fd_is_kind_name
  f_is_head : Addr
  fd_is_head : FuncData
  d_is_head : Df K mg "is_head" s_is_head f_is_head fd_is_head
  f_parts_in : Addr
  fd_parts_in : FuncData
  d_parts_in : Df K mg "parts_in" s_parts_in f_parts_in fd_parts_in
  f_is_type : Addr
  fd_is_type : FuncData
  d_is_type : Df K mg "is_type" s_is_type f_is_type fd_is_type
  f_check_type : Addr
  fd_check_type : FuncData
  d_check_type : Df K mg "check_type" s_check_type f_check_type fd_check_type
  f_all_parts : Addr
  fd_all_parts : FuncData
  d_all_parts : Df K mg "all_parts" s_all_parts f_all_parts fd_all_parts
  f_put_there : Addr
  fd_put_there : FuncData
  d_put_there : Df K mg "put_there" s_put_there f_put_there fd_put_there
  f_apart : Addr
  fd_apart : FuncData
  d_apart : Df K mg "apart" s_apart f_apart fd_apart
  f_put_many : Addr
  fd_put_many : FuncData
  d_put_many : Df K mg "put_many" s_put_many f_put_many fd_put_many
  f_are_pairs : Addr
  fd_are_pairs : FuncData
  d_are_pairs : Df K mg "are_pairs" s_are_pairs f_are_pairs fd_are_pairs
  f_put_types : Addr
  fd_put_types : FuncData
  d_put_types : Df K mg "put_types" s_put_types f_put_types fd_put_types
  f__law_purse : Addr
  fd__law_purse : FuncData
  d__law_purse : Df K mg "_law_purse" s__law_purse f__law_purse fd__law_purse
  f__law_draw : Addr
  fd__law_draw : FuncData
  d__law_draw : Df K mg "_law_draw" s__law_draw f__law_draw fd__law_draw
  f__law_pick : Addr
  fd__law_pick : FuncData
  d__law_pick : Df K mg "_law_pick" s__law_pick f__law_pick fd__law_pick
  f__law_same : Addr
  fd__law_same : FuncData
  d__law_same : Df K mg "_law_same" s__law_same f__law_same fd__law_same
  f__law_spoilt : Addr
  fd__law_spoilt : FuncData
  d__law_spoilt : Df K mg "_law_spoilt" s__law_spoilt f__law_spoilt fd__law_spoilt
  f__law_kind : Addr
  fd__law_kind : FuncData
  d__law_kind : Df K mg "_law_kind" s__law_kind f__law_kind fd__law_kind
  f__law_unknown : Addr
  fd__law_unknown : FuncData
  d__law_unknown : Df K mg "_law_unknown" s__law_unknown f__law_unknown fd__law_unknown
  f__law_sides : Addr
  fd__law_sides : FuncData
  d__law_sides : Df K mg "_law_sides" s__law_sides f__law_sides fd__law_sides
  f__law_parts : Addr
  fd__law_parts : FuncData
  d__law_parts : Df K mg "_law_parts" s__law_parts f__law_parts fd__law_parts
  f__law_drawn_type : Addr
  fd__law_drawn_type : FuncData
  d__law_drawn_type : Df K mg "_law_drawn_type" s__law_drawn_type f__law_drawn_type fd__law_drawn_type
  f__law_put : Addr
  fd__law_put : FuncData
  d__law_put : Df K mg "_law_put" s__law_put f__law_put fd__law_put
  f__law_odd_types : Addr
  fd__law_odd_types : FuncData
  d__law_odd_types : Df K mg "_law_odd_types" s__law_odd_types f__law_odd_types fd__law_odd_types
  f__law_heard : Addr
  fd__law_heard : FuncData
  d__law_heard : Df K mg "_law_heard" s__law_heard f__law_heard fd__law_heard
  f__law_pairs : Addr
  fd__law_pairs : FuncData
  d__law_pairs : Df K mg "_law_pairs" s__law_pairs f__law_pairs fd__law_pairs
  f__law_odd_pairs : Addr
  fd__law_odd_pairs : FuncData
  d__law_odd_pairs : Df K mg "_law_odd_pairs" s__law_odd_pairs f__law_odd_pairs fd__law_odd_pairs
  f_law : Addr
  fd_law : FuncData
  d_law : Df K mg "law" s_law f_law fd_law
end K21

set_option Elab.async false
set_option linter.all false
set_option maxRecDepth 100000
set_option maxHeartbeats 1000000
namespace K21
open PySem PySem.Spec L2 Wy
structure Txt (K : PySem.W.Frag) (mg : Str → Option Value) : Prop where
  n_isinstance : mg "isinstance" = none
  n_int : mg "int" = none
  n_bool : mg "bool" = none
  n_str : mg "str" = none
  n_list : mg "list" = none
  n_tuple : mg "tuple" = none
  n_dict : mg "dict" = none
  n_len : mg "len" = none
  n_all : mg "all" = none
  n_range : mg "range" = none
  n_repr : mg "repr" = none
  n_zip : mg "zip" = none
  n_enumerate : mg "enumerate" = none
  n_sum : mg "sum" = none
  n_sorted : mg "sorted" = none
  n_set : mg "set" = none
  c_MOST_LETTERS : ∃ u, mg "MOST_LETTERS" = some u ∧ RelV (.int 8) u
  c_MOST_PARTS : ∃ u, mg "MOST_PARTS" = some u ∧ RelV (.int 200) u
  c_MOST_SIDES : ∃ u, mg "MOST_SIDES" = some u ∧ RelV (.int 3) u
  c_CLOSED : ∃ a, mg "CLOSED" = some (.ref a) ∧ ∀ H, SqT K H a (closedL.map V.str)
  c_HOUSE_KINDS : ∃ a, mg "HOUSE_KINDS" = some (.ref a) ∧ ∀ H, SqT K H a (houseL.map V.str)
/-- the classes of errors -/
def exn : List Str := ["InvalidType", "InvalidTypes", "TooMany"]
structure Exs (P : Program) (K : PySem.W.Frag) (mg : Str → Option Value) where
  c : Nat → Addr
  cW : Addr
  fW : Addr
  dW : FuncData
  why : WhyD P K cW fW dW
  sup : mg "super" = none
  gW : mg "WhyError" = some (.ref cW)
  g : ∀ i x, exn[i]? = some x → mg x = some (.ref (c i))
  m : ∀ i, i < 3 → MkE K (c i) fW
  wc : ∀ i, i < 3 → WC K cW (c i)
  exc : ∀ i, i < 3 → ExcC K (c i)
  xf : ∀ i, i < 3 → XfC K (c i)
  val : ∀ i, i < 3 → PySem.W.findIn K (.ref (c i)) "value" = some none
  sub : ∀ i, i < 3 → PySem.W.subIn K (.ref (c i)) (.type "BaseException") = some true
  tyc : ∀ i, i < 3 → PySem.W.typeIn K (.ref (c i)) = some (.type "type")
  exm : ∀ i, i < 3 → PySem.W.exmOne K (.ref (c i)) (.ref cW) = some true
  kit : ∀ i j, i < 3 → j < 3 → PySem.W.kitOne K (.ref (c i)) (.ref (c j)) = some (i == j)
  bw : ∀ (us : List Value), us.length + 1 = (["self", "value"] : List Str).length → ∀ s' u, BindsTo s' dW ⟨u :: us, []⟩ ((["self", "value"] : List Str).zip (u :: us))
theorem Exs.GW {P : Program} {w : World} {K : PySem.W.Frag} {mg : Str → Option Value} {base : Heap} (Z : Exs P K mg) : FnOk P w K mg base CX0 1 Z.fW Z.dW ["self", "value"] (spWhy K Z.cW) := ok_why Z.why Z.sup
theorem Exs.raises {P : Program} {K : PySem.W.Frag} {mg : Str → Option Value} (Z : Exs P K mg) {X : Cx} (hK : X.K = K) (i : Nat) (hi : i < 3) : Raises X (.ref (Z.c i)) := raises_own (by rw [hK]; exact Z.sub i hi) (by rw [hK]; exact Z.tyc i hi)
section
variable {P : Program} {w : World} {K : PySem.W.Frag} {mg : Str → Option Value} {base : Heap}
/-- a def that tells of data yes or no -/
def spB (K : PySem.W.Frag) (g : PyData → Bool) : Sp := fun vs H Q _ => ∃ (v : V) (d : PyData), vs = [v] ∧ Dx K H v d ∧ smlD d = true ∧ ∀ H', Same H H' → Q (.bl (g d)) H'
theorem same_refl {H : Hp} : Same H H := fun _ _ e => e
theorem sc_is_whole : FnScope ["value"] ["value"] (defScope s_is_whole) := ⟨rfl, rfl, rfl, by decide +kernel, rfl, by decide +kernel, by decide +kernel⟩
theorem ok_is_whole (F : Fs K mg) (T : Txt K mg) (Z : Exs P K mg) : FnOk P w K mg base CX0 1 F.f_is_whole F.fd_is_whole ["value"] (spB K wholeD) := by
  have SC := sc_is_whole
  refine F.d_is_whole.fn.ok sc_is_whole (fun vs H Q E h => ?_) (fun cdv A outer s H vs Q E hr h => ?_)
  · obtain ⟨v, d, rfl, _⟩ := h; rfl
  obtain ⟨v, d, rfl, hd, hsm, q⟩ := h
  refine ⟨_, PSs.nox (pss_one (ps_ret (pe_and (pe_callB call_isD (by rfl) T.n_isinstance (by decide +kernel) (pa_cons (pv 0) (pa_cons (pe_bltn (v := .ty "int") (by rfl) T.n_int (by decide +kernel) rfl) pa_nil))) (pe_one (pe_not (pe_callB call_isD (by rfl) T.n_isinstance (by decide +kernel) (pa_cons (pv 0) (pa_cons (pe_bltn (v := .ty "bool") (by rfl) T.n_bool (by decide +kernel) rfl) pa_nil)))))))), ?_⟩
  refine ⟨_, rfl, v, d, _, rfl, hd, by decide, _, rfl, ?_⟩
  refine ite2 (fun c => ⟨_, rfl, v, d, _, rfl, hd, by decide, _, rfl, ?_⟩) (fun c => ?_)
  · cases d <;> first | exact q H same_refl | cases c
  · cases d <;> first | exact q H same_refl | exact absurd rfl c
theorem sc_is_count : FnScope ["value"] ["value"] (defScope s_is_count) := ⟨rfl, rfl, rfl, by decide +kernel, rfl, by decide +kernel, by decide +kernel⟩
theorem ok_is_count (F : Fs K mg) (T : Txt K mg) (Z : Exs P K mg) : FnOk P w K mg base CX0 2 F.f_is_count F.fd_is_count ["value"] (spB K countD) := by
  have SC := sc_is_count
  have G_is_whole : FnOk P w K mg base CX0 1 F.f_is_whole F.fd_is_whole ["value"] (spB K wholeD) := ok_is_whole F T Z
  have B_is_whole : Binds K F.fd_is_whole ["value"] [] := F.d_is_whole.fn.bindsN fun _ _ _ _ _ _ us hl => match us, hl with | [_], _ => rfl
  refine F.d_is_count.fn.ok sc_is_count (fun vs H Q E h => ?_) (fun cdv A outer s H vs Q E hr h => ?_)
  · obtain ⟨v, d, rfl, _⟩ := h; rfl
  obtain ⟨v, d, rfl, hd, hsm, q⟩ := h
  refine ⟨_, PSs.nox (pss_one (ps_ret (pe_and (pe_call G_is_whole (hr.mono (by decide)) rfl F.d_is_whole.gl F.d_is_whole.fn.kp B_is_whole .nil pass0 (pa_cons (pv 0) pa_nil)) (pe_one (pe_cmpR op_ge (pv 0) pe_int (nomark _)))))), ?_⟩
  refine ⟨_, rfl, v, d, rfl, hd, hsm, fun H1 s1 => ⟨_, rfl, ?_⟩⟩
  refine ite2 (fun c => ?_) (fun c => ?_)
  · cases hd with
    | int i =>
      refine ⟨_, rfl, _, _, rfl, rfl, ?_⟩
      exact q H1 s1
    | _ => cases c
  · cases hd with
    | int i => exact absurd rfl c
    | _ => exact q H1 s1
theorem sc_is_word : FnScope ["value", "sign"] ["value"] (defScope s_is_word) := ⟨rfl, rfl, rfl, by decide +kernel, rfl, by decide +kernel, by decide +kernel⟩
theorem ok_is_word (F : Fs K mg) (T : Txt K mg) (Z : Exs P K mg) : FnOk P w K mg base CX0 1 F.f_is_word F.fd_is_word ["value"] (spB K wordD) := by
  have SC := sc_is_word
  refine F.d_is_word.fn.ok sc_is_word (fun vs H Q E h => ?_) (fun cdv A outer s H vs Q E hr h => ?_)
  · obtain ⟨v, d, rfl, _⟩ := h; rfl
  obtain ⟨v, d, rfl, hd, hsm, q⟩ := h
  obtain ⟨uL, gL, rL⟩ := T.c_MOST_LETTERS
  refine ⟨_, PSs.nox (pss_cons (ps_if (PW.pt (pw_or (pt_not (pt_val (pe_callB call_isD (by rfl) T.n_isinstance (by decide +kernel) (pa_cons (pv 0) (pa_cons (pe_bltn (v := .ty "str") (by rfl) T.n_str (by decide +kernel) rfl) pa_nil))))) (pw_or1 (pt_not (pt_chain op_lt op_le pe_int (pe_callB call_len (by rfl) T.n_len (by decide +kernel) (pa_cons (pv 0) pa_nil)) (pe_glob (v := .int 8) rfl gL rL)))))) (pss_one (ps_ret pe_bl)) pss_nil)
    (pss_one (ps_ret (pe_callB (cr_all rfl) (by rfl) T.n_all (by decide +kernel) (pa_cons (pe_lc (own := [("sign", 1)]) (g := (gName 1)) (by rfl) SC.nd (pi_str (pv 0)) (blkOk_by (own := [("sign", 1)]) (N := ["value", "sign"]) (sc := defScope s_is_word) (by decide +kernel)) (fun _ _ _ _ _ => (pg_name (i := 1) SC.nd rfl (Or.inl rfl))) (fun _ _ _ _ _ => pts_nil) (fun _ _ _ _ _ => (pe_chain op_le_str op_le_str pe_str (pv 1) pe_str))) pa_nil))))), ?_⟩
  refine ⟨_, rfl, v, d, _, rfl, hd, by decide, _, rfl, ?_⟩
  refine ite2 (fun c => ?_) (fun c => ?_)
  · have e : wordD d = false := by cases d <;> first | rfl | cases c
    have z := q H same_refl
    rw [e] at z
    exact z
  match d, hd, hsm, c with
  | .str x, hd, hsm, _ =>
  obtain rfl := hd.str_inv
  have hx : x.length ≤ 100000 := of_decide_eq_true hsm
  refine ⟨_, rfl, _, _, rfl, ⟨small _ hx, rfl⟩, _, _, rfl, rfl, _, rfl, ?_⟩
  have e0 : wordD (.str x) = wordS x := rfl
  have hlx : x.length = x.cps.size := rfl
  have no : wordS x = false → Q (.bl false) H := fun z => by
    have y := q H same_refl
    rw [e0, z] at y
    exact y
  refine ite2 (fun c1 => ?_) (fun c1 => ?_)
  rotate_left
  · refine ⟨false, rfl, no ?_⟩
    have : ¬ 0 < x.cps.size := fun z => c1 (decide_eq_true (by omega))
    unfold wordS
    rw [decide_eq_false this, Bool.false_and]
  have l0 : 0 < x.cps.size := by
    have := of_decide_eq_true c1
    omega
  refine ⟨_, _, rfl, rfl, _, rfl, ?_⟩
  refine ite2 (fun c2 => no ?_) (fun c2 => ?_)
  · have : ¬ x.cps.size ≤ 8 := fun z => by
      rw [decide_eq_true (show (x.length : Int) ≤ 8 by omega)] at c2
      cases c2
    unfold wordS
    rw [decide_eq_false this, Bool.false_and, Bool.and_false]
  have l8 : x.cps.size ≤ 8 := by
    by_cases z : x.cps.size ≤ 8
    · exact z
    · exact absurd (by rw [decide_eq_false (show ¬ (x.length : Int) ≤ 8 by omega)]; rfl) c2
  refine ⟨_, rfl, x, rfl, fun d hd => ?_⟩
  refine lc_it walk_str (fun i H' => Same H H' ∧ H' d = some (.lst ((x.cps.toList.take i).map fun c => .bl (signB c)))) ⟨same_new hd _, upd_same⟩ (fun _ _ _ _ => True.intro) ?_ ?_
  · rintro i v H1 H2 hi ⟨k1, k2⟩ ⟨rfl, c, hc, rfl⟩
    have hg : x.cps.toList[i]? = some c := by
      rw [Array.getElem?_toList]
      exact hc
    have step : ∀ b, b = signB c → ((x.cps.toList.take i).map fun c => V.bl (signB c)) ++ [V.bl b] = (x.cps.toList.take (i + 1)).map fun c => V.bl (signB c) := fun b hb => by
      rw [List.take_add_one, hg, hb, List.map_append]
      rfl
    have fin : ∀ b, b = signB c → ∃ acc, H2 d = some (.lst acc) ∧ acc.length < sizeLine ∧ Same H (upd H2 d (.lst (acc ++ [V.bl b]))) ∧ upd H2 d (.lst (acc ++ [V.bl b])) d = some (.lst ((x.cps.toList.take (i + 1)).map fun c => V.bl (signB c))) := fun b hb => by
      refine ⟨_, k2, ?_, fun b' o e => ?_, ?_⟩
      · rw [List.length_map, List.length_take]
        exact Nat.lt_of_le_of_lt (Nat.min_le_left _ _) (Nat.lt_of_lt_of_le (show i < 100000 by omega) (small _ (Nat.le_refl _)))
      · rw [upd_ne (ne_of_none e hd)]
        exact k1 _ _ e
      · rw [upd_same, step b hb]
    refine ⟨rfl, _, rfl, _, _, rfl, rfl, _, rfl, ?_⟩
    rw [sgn_a]
    by_cases ca : 97 ≤ c
    · rw [decide_eq_true ca]
      refine ⟨_, _, rfl, rfl, ?_⟩
      rw [sgn_z]
      exact fin _ (by unfold signB; rw [decide_eq_true ca, Bool.true_and])
    · rw [decide_eq_false ca]
      exact fin false (by unfold signB; rw [decide_eq_false ca, Bool.false_and])
  · rintro H2 ⟨k1, k2⟩
    rw [show x.cps.size = x.cps.toList.length by simp, List.take_length] at k2
    refine ⟨d, x.cps.toList.map signB, rfl, SqL.of (by rw [k2, List.map_map]; rfl), ?_⟩
    have z := q H2 k1
    rw [e0] at z
    unfold wordS at z
    rw [decide_eq_true l0, decide_eq_true l8, Bool.true_and, Bool.true_and] at z
    rw [List.all_map]
    exact z
theorem sc_is_name : FnScope ["value"] ["value"] (defScope s_is_name) := ⟨rfl, rfl, rfl, by decide +kernel, rfl, by decide +kernel, by decide +kernel⟩
theorem ok_is_name (F : Fs K mg) (T : Txt K mg) (Z : Exs P K mg) : FnOk P w K mg base CX0 2 F.f_is_name F.fd_is_name ["value"] (spB K nameD) := by
  have SC := sc_is_name
  have G_is_word : FnOk P w K mg base CX0 1 F.f_is_word F.fd_is_word ["value"] (spB K wordD) := ok_is_word F T Z
  have B_is_word : Binds K F.fd_is_word ["value"] [] := F.d_is_word.fn.bindsN fun _ _ _ _ _ _ us hl => match us, hl with | [_], _ => rfl
  refine F.d_is_name.fn.ok sc_is_name (fun vs H Q E h => ?_) (fun cdv A outer s H vs Q E hr h => ?_)
  · obtain ⟨v, d, rfl, _⟩ := h; rfl
  obtain ⟨v, d, rfl, hd, hsm, q⟩ := h
  obtain ⟨aC, gC, hC⟩ := T.c_CLOSED
  refine ⟨_, PSs.nox (pss_one (ps_ret (pe_and (pe_call G_is_word (hr.mono (by decide)) rfl F.d_is_word.gl F.d_is_word.fn.kp B_is_word .nil pass0 (pa_cons (pv 0) pa_nil)) (pe_one (pe_cmpR op_notIn_seq (pv 0) (pe_glob (v := .ref aC) rfl gC rfl) rfl))))), ?_⟩
  refine ⟨_, rfl, v, d, rfl, hd, hsm, fun H1 s1 => ⟨_, rfl, ?_⟩⟩
  refine ite2 (fun c => ?_) (fun c => ?_)
  · match d, hd, c with
    | .str x, hd, c =>
      obtain rfl := hd.str_inv
      refine ⟨_, rfl, _, _, rfl, .inr (hC H1), rfl, Wy.flat_strs _, ?_⟩
      have z := q H1 s1
      have e : nameD (.str x) = (wordS x && !closedL.contains x) := rfl
      rw [e, show wordS x = true from c, Bool.true_and] at z
      rw [inV_strs]
      exact z
  · have e : nameD d = false := by
      cases d with
      | str x => 
        show (wordS x && !closedL.contains x) = false
        rw [show wordS x = false from Bool.eq_false_iff.mpr c, Bool.false_and]
      | _ => rfl
    have z := q H1 s1
    rw [e] at z
    exact z
theorem sc_is_kind_name : FnScope ["value"] ["value"] (defScope s_is_kind_name) := ⟨rfl, rfl, rfl, by decide +kernel, rfl, by decide +kernel, by decide +kernel⟩
theorem ok_is_kind_name (F : Fs K mg) (T : Txt K mg) (Z : Exs P K mg) : FnOk P w K mg base CX0 3 F.f_is_kind_name F.fd_is_kind_name ["value"] (spB K kindD) := by
  have SC := sc_is_kind_name
  have G_is_name : FnOk P w K mg base CX0 2 F.f_is_name F.fd_is_name ["value"] (spB K nameD) := ok_is_name F T Z
  have B_is_name : Binds K F.fd_is_name ["value"] [] := F.d_is_name.fn.bindsN fun _ _ _ _ _ _ us hl => match us, hl with | [_], _ => rfl
  refine F.d_is_kind_name.fn.ok sc_is_kind_name (fun vs H Q E h => ?_) (fun cdv A outer s H vs Q E hr h => ?_)
  · obtain ⟨v, d, rfl, _⟩ := h; rfl
  obtain ⟨v, d, rfl, hd, hsm, q⟩ := h
  obtain ⟨aC, gC, hC⟩ := T.c_HOUSE_KINDS
  refine ⟨_, PSs.nox (pss_one (ps_ret (pe_and (pe_callB call_isD (by rfl) T.n_isinstance (by decide +kernel) (pa_cons (pv 0) (pa_cons (pe_bltn (v := .ty "str") (by rfl) T.n_str (by decide +kernel) rfl) pa_nil))) (pe_one (pe_or (pe_cmpR op_in_seq (pv 0) (pe_glob (v := .ref aC) rfl gC rfl) rfl) (pe_one (pe_call G_is_name (hr.mono (by decide)) rfl F.d_is_name.gl F.d_is_name.fn.kp B_is_name .nil pass0 (pa_cons (pv 0) pa_nil)))))))), ?_⟩
  refine ⟨_, rfl, v, d, _, rfl, hd, by decide, _, rfl, ?_⟩
  refine ite2 (fun c => ?_) (fun c => ?_)
  · match d, hd, hsm, c with
    | .str x, hd, hsm, c =>
      have hd0 := hd
      obtain rfl := hd.str_inv
      refine ⟨_, rfl, _, _, rfl, .inr (hC H), rfl, Wy.flat_strs _, _, rfl, ?_⟩
      have e : kindD (.str x) = (houseL.contains x || nameS x) := rfl
      rw [e] at q
      rw [inV_strs]
      refine ite2 (fun c2 => ?_) (fun c2 => ?_)
      · have z := q H same_refl
        rw [show houseL.contains x = true from c2, Bool.true_or] at z
        exact z
      · rw [show houseL.contains x = false from Bool.eq_false_iff.mpr c2, Bool.false_or] at q
        exact ⟨_, rfl, _, .str x, rfl, hd0, hsm, q⟩
  · have e : kindD d = false := by
      cases d with
      | str x => exact absurd rfl c
      | _ => rfl
    have z := q H same_refl
    rw [e] at z
    exact z
theorem sc_is_head : FnScope ["value"] ["value"] (defScope s_is_head) := ⟨rfl, rfl, rfl, by decide +kernel, rfl, by decide +kernel, by decide +kernel⟩
theorem ok_is_head (F : Fs K mg) (T : Txt K mg) (Z : Exs P K mg) : FnOk P w K mg base CX0 4 F.f_is_head F.fd_is_head ["value"] (spB K headD) := by
  have SC := sc_is_head
  have G_is_count : FnOk P w K mg base CX0 2 F.f_is_count F.fd_is_count ["value"] (spB K countD) := ok_is_count F T Z
  have B_is_count : Binds K F.fd_is_count ["value"] [] := F.d_is_count.fn.bindsN fun _ _ _ _ _ _ us hl => match us, hl with | [_], _ => rfl
  have G_is_kind_name : FnOk P w K mg base CX0 3 F.f_is_kind_name F.fd_is_kind_name ["value"] (spB K kindD) := ok_is_kind_name F T Z
  have B_is_kind_name : Binds K F.fd_is_kind_name ["value"] [] := F.d_is_kind_name.fn.bindsN fun _ _ _ _ _ _ us hl => match us, hl with | [_], _ => rfl
  refine F.d_is_head.fn.ok sc_is_head (fun vs H Q E h => ?_) (fun cdv A outer s H vs Q E hr h => ?_)
  · obtain ⟨v, d, rfl, _⟩ := h; rfl
  obtain ⟨v, d, rfl, hd, hsm, q⟩ := h
  obtain ⟨uL, gL, rL⟩ := T.c_MOST_SIDES
  refine ⟨_, PSs.nox (pss_cons (ps_if (PW.pt (pw_or (pt_not (pt_val (pe_callB call_isD (by rfl) T.n_isinstance (by decide +kernel) (pa_cons (pv 0) (pa_cons (pe_bltn (v := .ty "tuple") (by rfl) T.n_tuple (by decide +kernel) rfl) pa_nil))))) (pw_or (pt_cmpR op_notIn_seq (pe_callB call_len (by rfl) T.n_len (by decide +kernel) (pa_cons (pv 0) pa_nil)) (pe_tup (pa_cons pe_int (pa_cons pe_int pa_nil))) rfl) (pw_or1 (pt_not (pt_val (pe_callB call_isD (by rfl) T.n_isinstance (by decide +kernel) (pa_cons (pe_ix ix_tup (pv 0) pe_int (fun _ _ => rfl)) (pa_cons (pe_bltn (v := .ty "str") (by rfl) T.n_str (by decide +kernel) rfl) pa_nil))))))))) (pss_one (ps_ret pe_bl)) pss_nil)
    (pss_cons (ps_if (pt_cmpR op_eq (pe_ix ix_tup (pv 0) pe_int (fun _ _ => rfl)) pe_str (nomark _)) (pss_one (ps_ret (pe_and (pe_cmpR op_eq (pe_callB call_len (by rfl) T.n_len (by decide +kernel) (pa_cons (pv 0) pa_nil)) pe_int (nomark _)) (pe_one (pe_call G_is_count (hr.mono (by decide)) rfl F.d_is_count.gl F.d_is_count.fn.kp B_is_count .nil pass0 (pa_cons (pe_ix ix_tup (pv 0) pe_int (fun _ _ => rfl)) pa_nil)))))) pss_nil)
    (pss_cons (ps_if (PW.pt (pw_or (pt_cmpR op_ne (pe_ix ix_tup (pv 0) pe_int (fun _ _ => rfl)) pe_str (nomark _)) (pw_or (pt_cmpR op_ne (pe_callB call_len (by rfl) T.n_len (by decide +kernel) (pa_cons (pv 0) pa_nil)) pe_int (nomark _)) (pw_or1 (pt_not (pt_val (pe_call G_is_kind_name (hr.mono (by decide)) rfl F.d_is_kind_name.gl F.d_is_kind_name.fn.kp B_is_kind_name .nil pass0 (pa_cons (pe_ix ix_tup (pv 0) pe_int (fun _ _ => rfl)) pa_nil)))))))) (pss_one (ps_ret pe_bl)) pss_nil)
    (pss_one (ps_ret (pe_and (pe_callB call_isD (by rfl) T.n_isinstance (by decide +kernel) (pa_cons (pe_ix ix_tup (pv 0) pe_int (fun _ _ => rfl)) (pa_cons (pe_bltn (v := .ty "list") (by rfl) T.n_list (by decide +kernel) rfl) pa_nil))) (pe_one (pe_cmpR op_le (pe_callB call_len (by rfl) T.n_len (by decide +kernel) (pa_cons (pe_ix ix_tup (pv 0) pe_int (fun _ _ => rfl)) pa_nil)) (pe_glob (v := .int 3) rfl gL rL) (nomark _))))))))), ?_⟩
  have bad : ∀ H', Same H H' → headD d = false → Q (.bl false) H' := fun H' s z => by
    have y := q H' s
    rw [z] at y
    exact y
  refine ⟨_, rfl, v, d, _, rfl, hd, by decide, _, rfl, ?_⟩
  refine ite2 (fun c => bad H same_refl ?_) (fun c => ?_)
  · cases d <;> first | rfl | cases c
  match d, hd, hsm, c, q, bad with
  | .tuple ds, hd, hsm, _, q, bad =>
  obtain ⟨a, xs, rfl, hq, hall⟩ := hd.tup_inv
  have hlen := hall.length
  refine ⟨_, rfl, _, xs.length, rfl, .inr ⟨xs, hq, rfl⟩, small _ (by show 2 ≤ 100000; decide), fun t ht => ?_⟩
  have s1 := same_new ht (.tup [.int 2, .int 3])
  refine ⟨t, _, rfl, .inr (SqT.of upd_same), rfl, rfl, _, rfl, ?_⟩
  rw [in23]
  replace hq := same_seqT s1 hq
  replace hall := hall.mono s1
  generalize upd H t _ = G at s1 hq hall ⊢
  by_cases hl : xs.length = 2 ∨ xs.length = 3
  rotate_left
  · rw [decide_eq_false hl]
    refine bad G s1 ?_
    exact head_len (by rw [← hlen]; exact hl)
  rw [decide_eq_true hl]
  have hsm' := smlAll_mem (show smlAll ds = true from hsm)
  rcases shape23 hall hl with ⟨x0, x1, d0, d1, rfl, rfl, h0, h1⟩ | ⟨x0, x1, x2, d0, d1, d2, rfl, rfl, h0, h1, h2⟩
  · clear hd hall hsm hl hlen
    refine ⟨_, rfl, a, _, 0, x0, rfl, rfl, hq, at_of (j := 0) rfl rfl, x0, d0, _, rfl, h0, by decide, _, rfl, ?_⟩
    refine ite2 (fun c => bad G s1 ?_) (fun c => ?_)
    · cases d0 <;> first | rfl | cases c
    match d0, h0, c, q, bad with
    | .str w, h0, _, q, bad =>
    obtain rfl := h0.str_inv
    refine ⟨_, rfl, a, _, 0, _, rfl, rfl, hq, at_of (j := 0) rfl rfl, rfl, _, rfl, ?_⟩
    refine ite2 (fun c => ?_) (fun c => ?_)
    · obtain rfl : w = "unknown" := V.str.inj (of_decide_eq_true c)
      refine ⟨_, rfl, _, _, rfl, .inr ⟨_, hq, rfl⟩, rfl, _, rfl, ?_⟩
      refine ite2 (fun c2 => ?_) (fun c2 => absurd (decide_eq_true rfl) c2)
      refine ⟨_, rfl, a, _, 1, _, rfl, rfl, hq, at_of (j := 1) rfl rfl, x1, d1, rfl, h1, hsm' d1 (by simp), fun H2 s2 => ?_⟩
      exact q H2 (s1.trans s2)
    · have hw : (w == "unknown") = false := by
        rw [beq_eq_false_iff_ne]
        exact fun z => c (decide_eq_true (by rw [z]))
      have hf : headD (.tuple [.str w, d1]) = false := by
        show (w == "unknown" && countD d1) = false
        rw [hw, Bool.false_and]
      refine ⟨_, rfl, a, _, 0, _, rfl, rfl, hq, at_of (j := 0) rfl rfl, rfl, _, rfl, ?_⟩
      refine ite2 (fun c => bad G s1 hf) (fun c => ?_)
      refine ⟨_, rfl, _, _, rfl, .inr ⟨_, hq, rfl⟩, rfl, _, rfl, ?_⟩
      exact ite2 (fun c2 => bad G s1 hf) (fun c2 => absurd (by show (!decide (V.int 2 = V.int 3)) = true; decide) c2)
  · clear hd hall hsm hl hlen
    refine ⟨_, rfl, a, _, 0, x0, rfl, rfl, hq, at_of (j := 0) rfl rfl, x0, d0, _, rfl, h0, by decide, _, rfl, ?_⟩
    refine ite2 (fun c => bad G s1 ?_) (fun c => ?_)
    · cases d0 <;> first | rfl | cases c
    match d0, h0, c, q, bad with
    | .str w, h0, _, q, bad =>
    obtain rfl := h0.str_inv
    refine ⟨_, rfl, a, _, 0, _, rfl, rfl, hq, at_of (j := 0) rfl rfl, rfl, _, rfl, ?_⟩
    refine ite2 (fun c => ?_) (fun c => ?_)
    · obtain rfl : w = "unknown" := V.str.inj (of_decide_eq_true c)
      refine ⟨_, rfl, _, _, rfl, .inr ⟨_, hq, rfl⟩, rfl, _, rfl, ?_⟩
      exact ite2 (fun c2 => absurd (V.int.inj (of_decide_eq_true c2)) (by show ¬ ((3 : Int) = 2); decide)) (fun c2 => bad G s1 rfl)
    · have hw : (w == "unknown") = false := by
        rw [beq_eq_false_iff_ne]
        exact fun z => c (decide_eq_true (by rw [z]))
      have hh : headD (.tuple [.str w, d1, d2]) = (w == "kind" && (kindD d1 && sideB d2)) := by
        show (!(w == "unknown") && _) = _
        rw [hw]
        rfl
      refine ⟨_, rfl, a, _, 0, _, rfl, rfl, hq, at_of (j := 0) rfl rfl, rfl, _, rfl, ?_⟩
      refine ite2 (fun c => bad G s1 ?_) (fun c => ?_)
      · have : (w == "kind") = false := by
          rw [beq_eq_false_iff_ne]
          intro z
          rw [z] at c
          cases c
        rw [hh, this, Bool.false_and]
      have hk : w = "kind" := by
        by_cases z : w = "kind"
        · exact z
        · exact absurd (by rw [decide_eq_false (fun y => z (V.str.inj y))]; rfl) c
      have hk2 : (w == "kind") = true := beq_iff_eq.mpr hk
      rw [hk2, Bool.true_and] at hh
      refine ⟨_, rfl, _, _, rfl, .inr ⟨_, hq, rfl⟩, rfl, _, rfl, ?_⟩
      refine ite2 (fun c2 => absurd c2 (by show ¬ (!decide (V.int 3 = V.int 3)) = true; decide)) (fun c2 => ?_)
      refine ⟨_, rfl, a, _, 1, _, rfl, rfl, hq, at_of (j := 1) rfl rfl, x1, d1, rfl, h1, hsm' d1 (by simp), fun H2 s2 => ⟨_, rfl, ?_⟩⟩
      have s12 := s1.trans s2
      refine ite2 (fun c3 => bad H2 s12 ?_) (fun c3 => ?_)
      · have : kindD d1 = false := by simpa using c3
        rw [hh, this, Bool.false_and]
      have hk3 : kindD d1 = true := by simpa using c3
      rw [hk3, Bool.true_and] at hh
      have hq2 := same_seqT s2 hq
      refine ⟨_, rfl, a, _, 2, _, rfl, rfl, hq2, at_of (j := 2) rfl rfl, x2, d2, _, rfl, h2.mono s2, by decide, _, rfl, ?_⟩
      refine ite2 (fun c4 => ?_) (fun c4 => bad H2 s12 ?_)
      · match d2, h2, c4, hh, q with
        | .list ts, h2, _, hh, q =>
          obtain ⟨b, ys, rfl, hqb, hab⟩ := (h2.mono s2).lst_inv
          refine ⟨_, rfl, a, _, 2, _, rfl, rfl, hq2, at_of (j := 2) rfl rfl, _, _, rfl, .inl ⟨_, hqb, rfl⟩, _, _, rfl, rfl, ?_⟩
          have z := q H2 s12
          rw [hh] at z
          have e : decide ((ys.length : Int) ≤ 3) = decide (ts.length ≤ 3) := by
            rw [hab.length, Bool.eq_iff_iff, decide_eq_true_eq, decide_eq_true_eq]
            omega
          show Q (.bl (decide ((ys.length : Int) ≤ 3))) H2
          rw [e]
          exact z
      · rw [hh]
        cases d2 <;> first | rfl | exact absurd rfl c4
/-- the parts of what has the head of a type -/
def spParts (K : PySem.W.Frag) : Sp := fun vs H Q _ => ∃ (v : V) (d : PyData) (F : Hp), vs = [v] ∧ Dx K F v d ∧ Same F H ∧ headD d = true ∧ ∀ (b : Addr) (xs : List V) (H' : Hp), Same H H' → SqL K H' b xs → DxAll K F xs (sidesD d) → Q (.ref b) H'
theorem sc_parts_in : FnScope ["one"] ["one"] (defScope s_parts_in) := ⟨rfl, rfl, rfl, by decide +kernel, rfl, by decide +kernel, by decide +kernel⟩
theorem ok_parts_in (F : Fs K mg) (T : Txt K mg) (Z : Exs P K mg) : FnOk P w K mg base CX0 1 F.f_parts_in F.fd_parts_in ["one"] (spParts K) := by
  have SC := sc_parts_in
  refine F.d_parts_in.fn.ok sc_parts_in (fun vs H Q E h => ?_) (fun cdv A outer s H vs Q E hr h => ?_)
  · obtain ⟨v, d, Fh, rfl, _⟩ := h; rfl
  obtain ⟨v, d, Fh, rfl, hd, sF, hh, q⟩ := h
  refine ⟨_, PSs.nox (pss_one (ps_ret (pe_ifExp (pt_cmpR op_eq (pe_ix ix_tup (pv 0) pe_int (fun _ _ => rfl)) pe_str (nomark _)) (pe_ix ix_tup (pv 0) pe_int (fun _ _ => rfl)) (pe_lst pa_nil)))), ?_⟩
  rcases head_inv hh with ⟨a, rfl, _⟩ | ⟨a, ts, rfl, _, _⟩
  · obtain ⟨p, xs, rfl, hq, hall⟩ := hd.tup_inv
    obtain ⟨x0, e0, h0⟩ := hall.get' (i := 0) rfl
    obtain rfl := h0.str_inv
    refine ⟨_, rfl, p, xs, 0, _, rfl, rfl, same_seqT sF hq, at_of (j := 0) rfl e0, rfl, _, rfl, ?_⟩
    refine ite2 (fun c => absurd (V.str.inj (of_decide_eq_true c)) (by decide)) (fun c => ⟨small _ (by show 0 ≤ 100000; decide), fun b hb => ?_⟩)
    exact q b [] _ (same_new hb _) (SqL.of upd_same) .nil
  · obtain ⟨p, xs, rfl, hq, hall⟩ := hd.tup_inv
    obtain ⟨x0, e0, h0⟩ := hall.get' (i := 0) rfl
    obtain ⟨x2, e2, h2⟩ := hall.get' (i := 2) rfl
    obtain rfl := h0.str_inv
    obtain ⟨b, ys, rfl, hqb, hab⟩ := h2.lst_inv
    refine ⟨_, rfl, p, xs, 0, _, rfl, rfl, same_seqT sF hq, at_of (j := 0) rfl e0, rfl, _, rfl, ?_⟩
    refine ite2 (fun c => ?_) (fun c => absurd (decide_eq_true rfl) c)
    exact ⟨_, rfl, p, xs, 2, _, rfl, rfl, same_seqT sF hq, at_of (j := 2) rfl e2, q b ys H same_refl (sF.seq hqb) hab⟩
theorem sc_is_type : FnScope ["value", "waiting", "many", "here"] ["value"] (defScope s_is_type) := ⟨rfl, rfl, rfl, by decide +kernel, rfl, by decide +kernel, by decide +kernel⟩
theorem ok_is_type (F : Fs K mg) (T : Txt K mg) (Z : Exs P K mg) : FnOk P w K mg base CX0 5 F.f_is_type F.fd_is_type ["value"] (spB K isTyD) := by
  have SC := sc_is_type
  have G_parts_in : FnOk P w K mg base CX0 1 F.f_parts_in F.fd_parts_in ["one"] (spParts K) := ok_parts_in F T Z
  have B_parts_in : Binds K F.fd_parts_in ["one"] [] := F.d_parts_in.fn.bindsN fun _ _ _ _ _ _ us hl => match us, hl with | [_], _ => rfl
  have G_is_head : FnOk P w K mg base CX0 4 F.f_is_head F.fd_is_head ["value"] (spB K headD) := ok_is_head F T Z
  have B_is_head : Binds K F.fd_is_head ["value"] [] := F.d_is_head.fn.bindsN fun _ _ _ _ _ _ us hl => match us, hl with | [_], _ => rfl
  refine F.d_is_type.fn.ok sc_is_type (fun vs H Q E h => ?_) (fun cdv A outer s H vs Q E hr h => ?_)
  · obtain ⟨v, d, rfl, _⟩ := h; rfl
  obtain ⟨v, d, rfl, hd, hsm, q⟩ := h
  obtain ⟨uL, gL, rL⟩ := T.c_MOST_PARTS
  have hu := hr.units
  refine ⟨_, PSs.nox (pss_cons (ps_par (i := 1) (j := 2) (by rfl) SC.nd rfl rfl (by decide) rfl rfl (pa_cons (pe_lst (pa_cons (pv 0) pa_nil)) (pa_cons pe_int pa_nil)) (by rfl))
    (pss_cons (ps_while PassesOwn.never (pt_cmpR (op_neNil hu) (pv 1) (pe_lst pa_nil) (nomark _)) (pss_cons (ps_par (i := 3) (j := 2) (by rfl) SC.nd rfl rfl (by decide) rfl rfl (pa_cons (pe_bm0 PySem.F.plainAttrs_list PySem.F.slot_list_pop PySem.F.type_list_pop mt_pop (pv 1)) (pa_cons (pe_op op_add (pv 2) pe_int) pa_nil)) (by rfl))
    (pss_cons (ps_if (PW.pt (pw_or (pt_cmpR op_gt (pv 2) (pe_glob (v := .int 200) rfl gL rL) (nomark _)) (pw_or1 (pt_not (pt_val (pe_call G_is_head (hr.mono (by decide)) rfl F.d_is_head.gl F.d_is_head.fn.kp B_is_head .nil pass0 (pa_cons (pv 3) pa_nil))))))) (pss_one (ps_ret pe_bl)) pss_nil)
    (pss_one (ps_set (i := 1) SC.nd rfl (Or.inl rfl) (pe_op op_catS (pv 1) (pe_call G_parts_in (hr.mono (by decide)) rfl F.d_parts_in.gl F.d_parts_in.fn.kp B_parts_in .nil pass0 (pa_cons (pv 3) pa_nil))))))))
    (pss_one (ps_ret pe_bl)))), ?_⟩
  refine ⟨_, rfl, small _ (by show 1 ≤ 100000; decide), fun l hl => ?_⟩
  refine ⟨_, _, rfl, ?_⟩
  refine ⟨fun m σ H' => ∃ (ws : List V) (ds : List PyData) (many : Nat) (l : Addr) (x : Option V), m = 200 - many ∧ many ≤ 200 ∧ σ = [some v, some (.ref l), some (.int (many : Int)), x] ∧ Same H H' ∧ H' l = some (.lst ws) ∧ H l = none ∧ DxAll K (outA H' l) ws ds ∧ smlAll ds = true ∧ ws.length ≤ 3 * many + 1 ∧ isTyD d = runD (200 - many) ds,
    ⟨200, [v], [d], 0, l, none, rfl, by decide, rfl, same_new hl _, upd_same, hl, .cons (hd.mono fun b o e => (by rw [outA_ne (ne_of_none e hl), upd_ne (ne_of_none e hl)]; exact e)) .nil, by simp only [smlAll, hsm, Bool.and_true], Nat.le_refl _, rfl⟩, ?_⟩
  rintro m σ H' ⟨ws, ds, many, l, x, rfl, hmany, rfl, s1, hl1, hl0, hall, hsml, hlen, heq⟩
  refine ⟨_, rfl, small _ (by show 0 ≤ 100000; decide), fun e he => ?_⟩
  have se := same_new he (.lst [])
  have nel : l ≠ e := ne_of_none hl1 he
  refine ⟨l, e, ws, rfl, rfl, SqL.of (se _ _ hl1), SqL.of upd_same, _, rfl, ?_⟩
  have hl2 := se _ _ hl1
  replace s1 := s1.trans se
  replace hall := hall.mono (outA_same fun b o _ z => se b o z)
  generalize upd H' e (.lst []) = G at hl2 s1 hall ⊢
  have hdl := hall.length
  by_cases hw : ws = []
  · subst hw
    have hds : ds = [] := List.eq_nil_of_length_eq_zero hdl.symm
    refine ite2 (fun c => by cases c) (fun _ => ?_)
    have z := q G s1
    rw [heq, hds] at z
    have e1 : runD (200 - many) [] = true := by cases 200 - many <;> rfl
    rw [e1] at z
    exact z
  obtain ⟨y, dy, hy, hdy, hxy⟩ := hall.last hw
  have hdsne : ds ≠ [] := fun z => by
    rw [z] at hdy
    cases hdy
  refine ite2 (fun _ => ?_) (fun c => absurd (by cases ws with | nil => exact absurd rfl hw | cons _ _ => rfl) c)
  refine ⟨fun σ' H' => ∃ m', m' < 200 - many ∧ ∃ (ws : List V) (ds : List PyData) (many : Nat) (l : Addr) (x : Option V), m' = 200 - many ∧ many ≤ 200 ∧ σ' = [some v, some (.ref l), some (.int (many : Int)), x] ∧ Same H H' ∧ H' l = some (.lst ws) ∧ H l = none ∧ DxAll K (outA H' l) ws ds ∧ smlAll ds = true ∧ ws.length ≤ 3 * many + 1 ∧ isTyD d = runD (200 - many) ds, fun _ _ h => h, ?_⟩
  refine ⟨_, rfl, .inl ⟨rfl, ws, SqL.of hl2⟩, l, ws, y, rfl, rfl, hl2, hy, _, rfl, _, _, rfl, rfl, ?_⟩
  refine ⟨_, _, rfl, ?_⟩
  have sp : Same H (upd G l (.lst ws.dropLast)) := fun b o z => by
    rw [upd_ne (ne_of_none z hl0)]
    exact s1 _ _ z
  have eo : outA (upd G l (.lst ws.dropLast)) l = outA G l := outA_eq fun b hb => upd_ne hb
  have hl3 : upd G l (.lst ws.dropLast) l = some (.lst ws.dropLast) := upd_same
  rw [← eo] at hall hxy
  generalize upd G l (.lst ws.dropLast) = G1 at sp hall hxy hl3 ⊢
  have bad : ∀ H', Same H H' → runD (200 - many) ds = false → Q (.bl false) H' := fun H' s z => by
    have y := q H' s
    rw [heq, z] at y
    exact y
  refine ⟨_, rfl, _, _, rfl, rfl, _, rfl, ?_⟩
  refine ite2 (fun c => bad G1 sp ?_) (fun c => ?_)
  · have : 200 - many = 0 := by
      have := of_decide_eq_true c
      omega
    rw [this]
    cases ds with
    | nil => exact absurd rfl hdsne
    | cons _ _ => rfl
  obtain ⟨n, hn⟩ : ∃ n, 200 - many = n + 1 := by
    have : ¬ (200 : Int) < (many : Int) + 1 := fun z => c (decide_eq_true z)
    exact ⟨199 - many, by omega⟩
  have hrun : runD (200 - many) ds = (headD dy && runD n (ds.dropLast ++ sidesD dy)) := by
    rw [hn]
    simp only [runD, hdy]
  have hys : smlD dy = true := smlAll_mem hsml dy (List.mem_of_getLast? hdy)
  refine ⟨_, rfl, y, dy, rfl, hxy.mono outA_sub, hys, fun G2 s2 => ⟨_, rfl, ?_⟩⟩
  refine ite2 (fun c2 => bad G2 (sp.trans s2) ?_) (fun c2 => ?_)
  · have : headD dy = false := by simpa using c2
    rw [hrun, this, Bool.false_and]
  have hh : headD dy = true := by simpa using c2
  rw [hh, Bool.true_and] at hrun
  refine ⟨_, rfl, _, rfl, y, dy, outA G1 l, rfl, hxy, fun b o z => s2 _ _ (outA_sub _ _ z), hh, fun b xs G3 s3 hb hxs => ?_⟩
  have hxl := hxs.length
  have hsl : xs.length ≤ 3 := by
    rw [hxl]
    rcases head_inv hh with ⟨_, rfl, _⟩ | ⟨_, ts, rfl, _, ht⟩
    · exact Nat.zero_le _
    · exact ht
  have hdrop : ws.dropLast.length ≤ 3 * many := by
    rw [List.length_dropLast]
    omega
  refine ⟨l, b, ws.dropLast, xs, rfl, rfl, SqL.of (s3 _ _ (s2 _ _ hl3)), hb, small _ (by omega), fun p hp => ?_⟩
  have sN := same_new hp (.lst (ws.dropLast ++ xs))
  have pl : l ≠ p := ne_of_none (s3 _ _ (s2 _ _ hl3)) hp
  have keep : Same (outA G1 l) (outA (upd G3 p (.lst (ws.dropLast ++ xs))) p) := fun b o z => by
    have z3 := s3 _ _ (s2 _ _ (outA_sub _ _ z))
    rw [outA_ne (ne_of_none z3 hp)]
    exact sN _ _ z3
  refine ⟨n, by omega, ws.dropLast ++ xs, ds.dropLast ++ sidesD dy, many + 1, p, _, by omega, by omega, rfl, sp.trans (s2.trans (s3.trans sN)), upd_same, (sp.trans (s2.trans s3)).free hp, (hall.dropLast.append hxs).mono keep, smlAll_app (smlAll_drop hsml) (sides_sml hys), ?_, ?_⟩
  · rw [List.length_append]
    omega
  · rw [heq, hrun, show 200 - (many + 1) = n by omega]
/-- a def that asks for a type: the i-th error otherwise -/
def spAsk (Z : Exs P K mg) (K : PySem.W.Frag) (i : Nat) : Sp := fun vs H Q E => ∃ (v : V) (d : PyData), vs = [v] ∧ Dx K H v d ∧ smlD d = true ∧ (isTyD d = true → ∀ H', Same H H' → Q .non H') ∧
  (isTyD d = false → ∀ dx H', Same H H' → H dx = none → H' dx = some (.xd [("value", v)]) → E (.ref (Z.c i)) (some dx) H')
theorem sc_check_type : FnScope ["value"] ["value"] (defScope s_check_type) := ⟨rfl, rfl, rfl, by decide +kernel, rfl, by decide +kernel, by decide +kernel⟩
theorem ok_check_type (F : Fs K mg) (T : Txt K mg) (Z : Exs P K mg) : FnOk P w K mg base (L2.CX P w) 6 F.f_check_type F.fd_check_type ["value"] (spAsk Z K 0) := by
  have SC := sc_check_type
  have G_is_type : FnOk P w K mg base CX0 5 F.f_is_type F.fd_is_type ["value"] (spB K isTyD) := ok_is_type F T Z
  have B_is_type : Binds K F.fd_is_type ["value"] [] := F.d_is_type.fn.bindsN fun _ _ _ _ _ _ us hl => match us, hl with | [_], _ => rfl
  refine F.d_check_type.fn.ok sc_check_type (fun vs H Q E h => ?_) (fun cdv A outer s H vs Q E hr h => ?_)
  · obtain ⟨v, d, rfl, _⟩ := h; rfl
  obtain ⟨v, d, rfl, hd, hsm, q, qe⟩ := h
  refine ⟨_, (pss_one (ps_if (pt_not (pt_val (pe_call G_is_type (hr.mono (by decide)) rfl F.d_is_type.gl F.d_is_type.fn.kp B_is_type .nil pass0 (pa_cons (pv 0) pa_nil)))) (pss_one (ps_raise rfl (takes_of rfl rfl rfl rfl) (pmk_mkE (Z.m 0 (by decide)) (Z.raises rfl 0 (by decide)) Z.GW (hr.mono (by decide)) rfl (Z.g 0 "InvalidType" rfl) Z.bw (pa_cons (pv 0) pa_nil)))) pss_nil)), ?_⟩
  refine ⟨_, rfl, v, d, rfl, hd, hsm, fun H1 s1 => ⟨_, rfl, ?_⟩⟩
  refine ite2 (fun c => ?_) (fun c => q (by simpa using c) H1 s1)
  exact raise_why (Z.wc 0 (by decide)) (fun dx H' s h1 h2 => qe (by simpa using c) dx H' (s1.trans s) (s1.free h1) h2) rfl
/-- a type's parts, itself first -/
def spAll (K : PySem.W.Frag) : Sp := fun vs H Q _ => ∃ (v : V) (t : Ty) (Fh : Hp), vs = [v] ∧ Dx K Fh v t.toD ∧ Same Fh H ∧ t.ok = true ∧ t.size ≤ 100000 ∧ ∀ (r : Addr) (fv : List V) (H' : Hp), Same H H' → H r = none → H' r = some (.lst fv) → DxAll K Fh fv (Ty.toDs t.parts) → Q (.ref r) H'
theorem sc_all_parts : FnScope ["one", "found", "waiting", "here"] ["one"] (defScope s_all_parts) := ⟨rfl, rfl, rfl, by decide +kernel, rfl, by decide +kernel, by decide +kernel⟩
theorem ok_all_parts (F : Fs K mg) (T : Txt K mg) (Z : Exs P K mg) : FnOk P w K mg base CX0 2 F.f_all_parts F.fd_all_parts ["one"] (spAll K) := by
  have SC := sc_all_parts
  have G_parts_in : FnOk P w K mg base CX0 1 F.f_parts_in F.fd_parts_in ["one"] (spParts K) := ok_parts_in F T Z
  have B_parts_in : Binds K F.fd_parts_in ["one"] [] := F.d_parts_in.fn.bindsN fun _ _ _ _ _ _ us hl => match us, hl with | [_], _ => rfl
  refine F.d_all_parts.fn.ok sc_all_parts (fun vs H Q E h => ?_) (fun cdv A outer s H vs Q E hr h => ?_)
  · obtain ⟨v, t, Fh, rfl, _⟩ := h; rfl
  obtain ⟨v, t, Fh, rfl, hd, sF, ok, hsz, q⟩ := h
  have hu := hr.units
  refine ⟨_, PSs.nox (pss_cons (ps_par (i := 1) (j := 2) (by rfl) SC.nd rfl rfl (by decide) rfl rfl (pa_cons (pe_lst pa_nil) (pa_cons (pe_lst (pa_cons (pv 0) pa_nil)) pa_nil)) (by rfl))
    (pss_cons (ps_while PassesOwn.never (pt_cmpR (op_neNil hu) (pv 2) (pe_lst pa_nil) (nomark _)) (pss_cons (ps_set (i := 3) SC.nd rfl (Or.inl rfl) (pe_bm0 PySem.F.plainAttrs_list PySem.F.slot_list_pop PySem.F.type_list_pop mt_pop (pv 2)))
    (pss_cons (ps_expr (pe_bm PySem.F.plainAttrs_list PySem.F.slot_list_append PySem.F.type_list_append mt_append (pv 1) (pa_cons (pv 3) pa_nil)))
    (pss_one (ps_set (i := 2) SC.nd rfl (Or.inl rfl) (pe_op op_catS (pv 2) (pe_revL (pe_call G_parts_in (hr.mono (by decide)) rfl F.d_parts_in.gl F.d_parts_in.fn.kp B_parts_in .nil pass0 (pa_cons (pv 3) pa_nil)))))))))
    (pss_one (ps_ret (pv 1))))), ?_⟩
  refine ⟨small _ (by show 0 ≤ 100000; decide), fun g hg => ?_⟩
  have s1 := same_new hg (.lst [])
  refine ⟨_, rfl, small _ (by show 1 ≤ 100000; decide), fun l hl => ?_⟩
  have s2 := same_new hl (.lst [v])
  have ngl : g ≠ l := ne_of_none upd_same hl
  refine ⟨_, _, rfl, ?_⟩
  refine ⟨fun m σ H' => ∃ (ws fv : List V) (wts done : List Ty) (l : Addr) (x : Option V), m = Ty.sizes wts ∧ σ = [some v, some (.ref g), some (.ref l), x] ∧ Same H H' ∧ H' g = some (.lst fv) ∧ H' l = some (.lst ws) ∧ H l = none ∧ l ≠ g ∧ DxAll K Fh ws (Ty.toDs wts) ∧ DxAll K Fh fv (Ty.toDs done) ∧ Ty.oks wts = true ∧ t.parts = done ++ Ty.partss wts.reverse,
    ⟨_, [v], [], [t], [], l, none, rfl, rfl, s1.trans s2, s2 _ _ upd_same, upd_same, s1.free hl, ngl.symm, .cons hd .nil, .nil, by simp [Ty.oks, ok], by simp [Ty.partss]⟩, ?_⟩
  rintro m σ H' ⟨ws, fv, wts, done, l, x, rfl, rfl, sH, hg1, hl1, hl0, nlg, hall, hfv, oks, hparts⟩
  refine ⟨_, rfl, small _ (by show 0 ≤ 100000; decide), fun e he => ?_⟩
  have se := same_new he (.lst [])
  refine ⟨l, e, ws, rfl, rfl, SqL.of (se _ _ hl1), SqL.of upd_same, _, rfl, ?_⟩
  replace hl1 := se _ _ hl1
  replace hg1 := se _ _ hg1
  replace sH := sH.trans se
  generalize upd H' e (.lst []) = G at hl1 hg1 sH ⊢
  have hdl := hall.length
  rw [toDs_map, List.length_map] at hdl
  have hfl := hfv.length
  rw [toDs_map, List.length_map] at hfl
  have hpl := congrArg List.length hparts
  rw [parts_length, List.length_append, partss_length, sizes_reverse] at hpl
  rcases List.eq_nil_or_concat wts with rfl | ⟨wa, u, rfl⟩
  · have hw : ws = [] := List.eq_nil_of_length_eq_zero hdl
    subst hw
    refine ite2 (fun c => by cases c) (fun _ => ⟨_, rfl, ?_⟩)
    have e : t.parts = done := by
      rw [hparts]
      exact List.append_nil _
    exact q g fv G sH hg hg1 (by rw [e]; exact hfv)
  rw [List.concat_eq_append] at *
  rw [toDs_append] at hall
  obtain ⟨wv, y, rfl, hwa, hy⟩ := hall.concat_inv
  rw [oks_append] at oks
  obtain ⟨oa, ou⟩ := Bool.and_eq_true_iff.mp oks
  have ou' : u.ok = true := by simpa [Ty.oks] using ou
  rw [sizes_append] at hpl ⊢
  have hus := size_eq u
  refine ite2 (fun _ => ?_) (fun c => absurd (by simp) c)
  refine ⟨fun σ' H' => ∃ m', m' < Ty.sizes wa + Ty.sizes [u] ∧ ∃ (ws fv : List V) (wts done : List Ty) (l : Addr) (x : Option V), m' = Ty.sizes wts ∧ σ' = [some v, some (.ref g), some (.ref l), x] ∧ Same H H' ∧ H' g = some (.lst fv) ∧ H' l = some (.lst ws) ∧ H l = none ∧ l ≠ g ∧ DxAll K Fh ws (Ty.toDs wts) ∧ DxAll K Fh fv (Ty.toDs done) ∧ Ty.oks wts = true ∧ t.parts = done ++ Ty.partss wts.reverse, fun _ _ h => h, ?_⟩
  refine ⟨_, rfl, .inl ⟨rfl, _, SqL.of hl1⟩, l, _, y, rfl, rfl, hl1, by simp, ?_⟩
  rw [List.dropLast_concat]
  have sp : Same H (upd G l (.lst wv)) := fun b o z => by
    rw [upd_ne (ne_of_none z hl0)]
    exact sH _ _ z
  have hg2 : upd G l (.lst wv) g = some (.lst fv) := by
    rw [upd_ne nlg.symm]
    exact hg1
  have hl2 : upd G l (.lst wv) l = some (.lst wv) := upd_same
  generalize upd G l (.lst wv) = G1 at sp hg2 hl2 ⊢
  refine ⟨_, rfl, .inl ⟨rfl, _, SqL.of hg2⟩, _, rfl, g, fv, y, rfl, rfl, hg2, ?_, ?_⟩
  · exact Nat.lt_of_lt_of_le (show fv.length < 200000 by simp only [Ty.sizes] at hpl; omega) (by decide)
  have sp2 : Same H (upd G1 g (.lst (fv ++ [y]))) := fun b o z => by
    rw [upd_ne (ne_of_none z hg)]
    exact sp _ _ z
  have hl3 : upd G1 g (.lst (fv ++ [y])) l = some (.lst wv) := by
    rw [upd_ne nlg]
    exact hl2
  have hg3 : upd G1 g (.lst (fv ++ [y])) g = some (.lst (fv ++ [y])) := upd_same
  generalize upd G1 g (.lst (fv ++ [y])) = G2 at sp2 hl3 hg3 ⊢
  refine ⟨_, rfl, _, rfl, y, u.toD, Fh, rfl, hy, sF.trans sp2, headD_toD ou', fun b xs G3 s3 hb hxs => ?_⟩
  rw [sidesD_toD] at hxs
  have hxl := hxs.length
  rw [toDs_map, List.length_map] at hxl
  have h3 := sides_three ou'
  refine ⟨b, xs, rfl, hb, fun p hp => ?_⟩
  have s4 := same_new hp (.lst xs.reverse)
  have hwl := hwa.length
  rw [toDs_map, List.length_map] at hwl
  have hws := sizes_ge wa
  refine ⟨l, p, wv, xs.reverse, rfl, rfl, SqL.of (s4 _ _ (s3 _ _ hl3)), SqL.of upd_same, ?_, fun n hn => ?_⟩
  · rw [List.length_reverse]
    exact Nat.le_trans (show wv.length + xs.length ≤ 200000 by omega) (by decide)
  have s5 := same_new hn (.lst (wv ++ xs.reverse))
  have sN := s3.trans (s4.trans s5)
  refine ⟨Ty.sizes (wa ++ u.sides.reverse), ?_, wv ++ xs.reverse, fv ++ [y], wa ++ u.sides.reverse, done ++ [u], n, _, rfl, rfl, sp2.trans sN, sN _ _ hg3, upd_same, (sp2.trans (s3.trans s4)).free hn, fun z => ?_, ?_, ?_, ?_, ?_⟩
  · rw [sizes_append, sizes_reverse]
    simp only [Ty.sizes]
    omega
  · rw [z] at hn
    rw [(s3.trans s4) _ _ hg3] at hn
    cases hn
  · rw [toDs_append]
    refine hwa.append ?_
    rw [toDs_map, List.map_reverse, ← toDs_map]
    exact hxs.reverse
  · rw [toDs_append]
    exact hfv.append (.cons hy .nil)
  · rw [oks_append, oa, oks_reverse _ (oks_sides ou')]
    rfl
  · rw [hparts, List.reverse_append, List.reverse_append, List.reverse_reverse, partss_append]
    have e1 : Ty.partss [u].reverse = u :: Ty.partss u.sides := by
      show Ty.partss [u] = _
      rw [Ty.partss, parts_eq, Ty.partss, List.append_nil]
    rw [e1, partss_append, List.append_assoc]
    rfl
/-- a table of types -/
def TabOk (K : PySem.W.Frag) (Fh : Hp) (f : Nat → Option Ty) (kvs : List (Key × V)) : Prop := ∀ n : Nat, match valV kvs (Sum.inl (n : Int)) with
  | some x => ∃ u, f n = some u ∧ Dx K Fh x u.toD
  | none => f n = none
def ShOf (K : PySem.W.Frag) (Fh : Hp) (f : Nat → Option Ty) : V → PyData → Prop := fun v d => ∃ n u, f n = some u ∧ d = u.toD ∧ Dx K Fh v d
def spPut (K : PySem.W.Frag) (n : Nat) : Sp := fun vs H Q _ => ∃ (v : V) (t : Ty) (tb : Addr) (kvs : List (Key × V)) (f : Nat → Option Ty) (Fh : Hp), vs = [v, .ref tb] ∧ Dx K Fh v t.toD ∧ Same Fh H ∧ t.ok = true ∧ t.deep ≤ n ∧ H tb = some (.dK kvs) ∧ TabOk K Fh f kvs ∧
  ∀ (x : V) (S : List Addr) (H' : Hp), Same H H' → Tr K (ShOf K Fh f) H' x (t.put f).toD S → (∀ a ∈ S, H a = none) → Q x H'
def spPutB (K : PySem.W.Frag) : Nat → Sp
  | 0 => fun _ _ _ _ => False
  | n + 1 => spPut K n
theorem sc_put_there : FnScope ["one", "table", "part"] ["one", "table"] (defScope s_put_there) := ⟨rfl, rfl, rfl, by decide +kernel, rfl, by decide +kernel, by decide +kernel⟩
theorem put_step (F : Fs K mg) {n k : Nat} (G : FnOk P w K mg base CX0 (k + 1) F.f_put_there F.fd_put_there ["one", "table"] (spPutB K n)) : FnOk P w K mg base CX0 (k + 2) F.f_put_there F.fd_put_there ["one", "table"] (spPut K n) := by
  have SC := sc_put_there
  have B : Binds K F.fd_put_there ["one", "table"] [] := F.d_put_there.fn.bindsN fun _ _ _ _ _ _ us hl => match us, hl with | [_, _], _ => rfl
  refine F.d_put_there.fn.ok sc_put_there (fun vs H Q E h => ?_) (fun cdv A outer s H vs Q E hr h => ?_)
  · obtain ⟨v, t, tb, kvs, f, Fh, rfl, _⟩ := h
    rfl
  obtain ⟨v, t, tb, kvs, f, Fh, rfl, hd, sF, ok, hdeep, htb, hT, q⟩ := h
  have hu1 := hu_of hr
  refine ⟨_, PSs.nox (pss_cons (ps_if (pt_cmpR op_eq (pe_ix ix_tup (pv 0) pe_int (fun _ _ => rfl)) pe_str (nomark _)) (pss_one (ps_ret (pe_dget2 hu1 (pv 1) (pe_ix ix_tup (pv 0) pe_int (fun _ _ => rfl)) (pv 0) ⟨by rfl, by rfl, by rfl, by rfl⟩))) pss_nil)
    (pss_one (ps_ret (pe_tup (pa_cons pe_str (pa_cons (pe_ix ix_tup (pv 0) pe_int (fun _ _ => rfl)) (pa_cons (pe_lc (own := [("part", 2)]) (g := (gName 2)) (by rfl) SC.nd (pi_list (pe_ix ix_tup (pv 0) pe_int (fun _ _ => rfl))) (blkOk_by (own := [("part", 2)]) (N := ["one", "table", "part"]) (sc := defScope s_put_there) (by decide +kernel)) (fun _ _ _ _ _ => (pg_name (i := 2) SC.nd rfl (Or.inl rfl))) (fun _ _ _ _ _ => pts_nil) (fun _ _ _ _ _ => (pe_call G (hr.mono (by omega)) rfl F.d_put_there.gl F.d_put_there.fn.kp B .nil pass0 (pa_cons (pv 2) (pa_cons (pv 1) pa_nil))))) pa_nil))))))), ?_⟩
  cases t with
  | unk m =>
    obtain ⟨p, xs, rfl, hq, hall⟩ := (show Dx K Fh v (.tuple [.str "unknown", .int (m : Int)]) from hd).tup_inv
    obtain ⟨x0, e0, h0⟩ := hall.get' (i := 0) rfl
    obtain ⟨x1, e1, h1⟩ := hall.get' (i := 1) rfl
    obtain rfl := h0.str_inv
    cases h1
    have hq' := same_seqT sF hq
    refine ⟨_, rfl, p, xs, 0, _, rfl, rfl, hq', at_of (j := 0) rfl e0, rfl, _, rfl, ?_⟩
    refine ite2 (fun _ => ?_) (fun c => absurd (decide_eq_true rfl) c)
    refine ⟨_, rfl, tb, rfl, .inl ⟨kvs, .inl htb⟩, _, rfl, p, xs, 1, _, rfl, rfl, hq', at_of (j := 1) rfl e1, _, rfl, _, DGet.k (k := Sum.inl (m : Int)) htb, ?_⟩
    have hm := hT m
    cases hv : valV kvs (Sum.inl (m : Int)) with
    | none =>
      rw [hv] at hm
      refine q _ [] H same_refl ?_ (fun a z => by cases z)
      have e : (Ty.unk m).put f = .unk m := by
        rw [Ty.put, show f m = none from hm]
        rfl
      rw [e]
      exact tr_unk hq' hall
    | some x =>
      rw [hv] at hm
      obtain ⟨u, hfu, hx⟩ := hm
      refine q x [] H same_refl ?_ (fun a z => by cases z)
      have e : ((Ty.unk m).put f).toD = u.toD := by
        rw [Ty.put, hfu]
        rfl
      rw [e]
      exact .sh ⟨m, u, hfu, rfl, hx⟩
  | kind kw ts =>
    obtain ⟨p, xs, rfl, hq, hall⟩ := (show Dx K Fh v (.tuple [.str "kind", .str kw, .list (Ty.toDs ts)]) from hd).tup_inv
    obtain ⟨x0, e0, h0⟩ := hall.get' (i := 0) rfl
    obtain ⟨x1, e1, h1⟩ := hall.get' (i := 1) rfl
    obtain ⟨x2, e2, h2⟩ := hall.get' (i := 2) rfl
    obtain rfl := h0.str_inv
    obtain rfl := h1.str_inv
    obtain ⟨b, ys, rfl, hqb, hab⟩ := h2.lst_inv
    have hq' := same_seqT sF hq
    have hyl := hab.length
    rw [toDs_map, List.length_map] at hyl
    have h3 : ts.length ≤ 3 := sides_three (t := .kind kw ts) ok
    refine ⟨_, rfl, p, xs, 0, _, rfl, rfl, hq', at_of (j := 0) rfl e0, rfl, _, rfl, ?_⟩
    refine ite2 (fun c => absurd (V.str.inj (of_decide_eq_true c)) (by decide)) (fun _ => ?_)
    refine ⟨_, rfl, p, xs, 1, _, rfl, rfl, hq', at_of (j := 1) rfl e1, ?_⟩
    refine ⟨_, rfl, p, xs, 2, _, rfl, rfl, hq', at_of (j := 2) rfl e2, b, rfl, ⟨ys, sF.seq hqb⟩, fun D hD => ?_⟩
    refine lc_list (xs := ys) (fun i H' => Same H H' ∧ ∃ acc S, H' D = some (.lst acc) ∧ TrAll K (ShOf K Fh f) (outA H' D) acc (Ty.toDs ((ts.take i).map (Ty.put f))) S ∧ (∀ a ∈ S, H a = none) ∧ D ∉ S ∧ ∀ a ∈ S, H' a ≠ none) ⟨same_new hD _, [], [], upd_same, .nil, fun _ z => (by cases z), (by simp), fun _ z => (by cases z)⟩ ?_ ?_ ?_
    · rintro i H' _ ⟨z, _⟩
      exact z.seq (sF.seq hqb)
    · rintro i y H' hi ⟨z1, acc, S, z2, z3, z4, z5, z6⟩
      obtain ⟨d, hd1, hy⟩ := hab.get hi
      rw [toDs_map, List.getElem?_map] at hd1
      obtain ⟨u, hu1, rfl⟩ := Option.map_eq_some_iff.mp hd1
      have hum := List.mem_of_getElem? hu1
      have hul := (List.getElem?_eq_some_iff.mp hu1).1
      have huok : u.ok = true := oks_mem (oks_sides (t := .kind kw ts) ok) u hum
      obtain ⟨n', rfl⟩ : ∃ n', n = n' + 1 := ⟨n - 1, by
        simp only [Ty.deep] at hdeep
        omega⟩
      have hud : u.deep ≤ n' := by
        have := deep_mem hum
        simp only [Ty.deep] at hdeep
        omega
      refine ⟨rfl, _, rfl, _, rfl, y, u, tb, kvs, f, Fh, rfl, hy, sF.trans z1, huok, hud, z1 _ _ htb, hT, fun x S2 G2 s2 hx hf2 => ?_⟩
      have hal := z3.length
      rw [toDs_map, List.length_map, List.length_map, List.length_take] at hal
      refine ⟨acc, s2 _ _ z2, Nat.lt_of_le_of_lt (show acc.length ≤ 100 by omega) (by decide), fun a o e => ?_, acc ++ [x], S ++ S2, upd_same, ?_, fun a ha => ?_, fun ha => ?_, fun a ha => ?_⟩
      · rw [upd_ne (ne_of_none e hD)]
        exact s2 _ _ (z1 _ _ e)
      · have eT : (ts.take (i + 1)).map (Ty.put f) = (ts.take i).map (Ty.put f) ++ [u.put f] := by
          rw [List.take_add_one, hu1, List.map_append]
          rfl
        rw [eT, toDs_append]
        have eo : outA (upd G2 D (.lst (acc ++ [x]))) D = outA G2 D := outA_eq fun c hc => upd_ne hc
        rw [eo]
        have DS2 : D ∉ S2 := fun z => by
          have := hf2 D z
          rw [z2] at this
          cases this
        refine TrAll.snoc (z3.mono (outA_same fun c o _ e => s2 c o e)) (Tr.out (s2 _ _ z2) hx DS2) fun a ha z => ?_
        exact z6 a ha (hf2 a z)
      · rcases List.mem_append.mp ha with ha | ha
        · exact z4 a ha
        · exact z1.free (hf2 a ha)
      · rcases List.mem_append.mp ha with ha | ha
        · exact z5 ha
        · have := hf2 D ha
          rw [z2] at this
          cases this
      · by_cases haD : a = D
        · rw [haD, upd_same]
          exact fun z => by cases z
        rw [upd_ne haD]
        rcases List.mem_append.mp ha with ha | ha
        · cases e : H' a with
          | none => exact absurd e (z6 a ha)
          | some o =>
            rw [s2 _ _ e]
            exact fun z => by cases z
        · obtain ⟨l, e⟩ := Tr.there hx a ha
          rw [e]
          exact fun z => by cases z
    · rintro H' ⟨z1, acc, S, z2, z3, z4, z5, z6⟩
      rw [hyl, List.take_length] at z3
      refine ⟨small _ (by show 3 ≤ 100000; decide), fun p' hp' => ?_⟩
      have sp := same_new hp' (.tup [.str "kind", .str kw, .ref D])
      refine q (.ref p') (D :: S) _ (z1.trans sp) ?_ fun a ha => ?_
      · have e : (Ty.kind kw ts).put f = .kind kw (ts.map (Ty.put f)) := by
          rw [Ty.put, puts_map]
        rw [e]
        exact tr_kind upd_same (sp _ _ z2) (z3.mono (outA_sub.trans sp)) z5
      · rcases List.mem_cons.mp ha with rfl | ha
        · exact hD
        · exact z4 a ha
theorem ok_no {k : Nat} {f : Addr} {fd : FuncData} {ps : List Str} : FnOk P w K mg base CX0 k f fd ps (fun _ _ _ _ => False) := ⟨fun _ _ _ _ h => h.elim, fun _ _ _ _ _ _ _ _ _ _ _ _ _ h => h.elim⟩
theorem ok_put_there (F : Fs K mg) : ∀ n, FnOk P w K mg base CX0 (n + 2) F.f_put_there F.fd_put_there ["one", "table"] (spPut K n)
  | 0 => put_step F (k := 0) ok_no
  | n + 1 => put_step F (k := n + 1) (ok_put_there F n)
end
end K21

set_option Elab.async false
set_option linter.all false
set_option maxRecDepth 100000
set_option maxHeartbeats 4000000
namespace K21
open PySem PySem.Spec L2 Wy
abbrev sPurse : Stmt := s__law_purse
abbrev sDraw : Stmt := s__law_draw
abbrev sPick : Stmt := s__law_pick
/-- a purse stands at p, at most n draws by its hash so far -/
def Purse (H : Hp) (p l : Addr) (n : Nat) : Prop := ∃ (cs : List Int) (i : Nat) (cur k seed : Int), H p = some (.lst [.ref l, .int (i : Int), .int cur, .int k, .int seed]) ∧ H l = some (.lst (cs.map V.int)) ∧ l ≠ p ∧
  (∀ c ∈ cs, 0 ≤ c) ∧ cs.length ≤ 63 ∧ i ≤ cs.length ∧ 0 ≤ cur ∧ 0 ≤ k ∧ k ≤ (n : Int) ∧ 0 ≤ seed ∧ seed < 2147483647
theorem Purse.set {H : Hp} {p l : Addr} {cs : List Int} {i : Nat} {cur k seed : Int} {n : Nat} {o : HO} (hl : H l = some (.lst (cs.map V.int))) (hne : l ≠ p) (h1 : ∀ c ∈ cs, 0 ≤ c) (h2 : cs.length ≤ 63) (hi : i ≤ cs.length) (h3 : 0 ≤ cur) (h4 : 0 ≤ k) (h5 : k ≤ (n : Int)) (h6 : 0 ≤ seed) (h7 : seed < 2147483647)
    (ho : o = .lst [.ref l, .int (i : Int), .int cur, .int k, .int seed]) : Purse (upd H p o) p l n := by
  subst ho
  exact ⟨cs, i, cur, k, seed, upd_same, by rw [upd_ne hne]; exact hl, hne, h1, h2, hi, h3, h4, h5, h6, h7⟩
theorem Purse.mono {H : Hp} {p l : Addr} {n m : Nat} (h : Purse H p l n) (le : n ≤ m) : Purse H p l m := by
  obtain ⟨cs, i, cur, k, seed, a1, a2, a3, a4, a5, a6, a7, a8, a9, b1, b2⟩ := h
  exact ⟨cs, i, cur, k, seed, a1, a2, a3, a4, a5, a6, a7, a8, by omega, b1, b2⟩
/-- the purse is as it was where its two lists are -/
theorem Purse.ex {H H' : Hp} {p l : Addr} {n : Nat} (h : Purse H p l n) (k1 : ∀ o, H p = some o → H' p = some o) (k2 : ∀ o, H l = some o → H' l = some o) : Purse H' p l n := by
  obtain ⟨cs, i, cur, k, seed, a1, a2, r⟩ := h
  exact ⟨cs, i, cur, k, seed, k1 _ a1, k2 _ a2, r⟩
theorem Purse.at_ {H : Hp} {p l : Addr} {n : Nat} (h : Purse H p l n) : (∃ o, H p = some o) ∧ (∃ o, H l = some o) ∧ l ≠ p := by
  obtain ⟨cs, i, cur, k, seed, a1, a2, a3, _⟩ := h
  exact ⟨⟨_, a1⟩, ⟨_, a2⟩, a3⟩
def spDraw : Sp := fun vs H Q _ => ∃ (p lc : Addr) (m : Int) (n : Nat), vs = [.ref p, .int m] ∧ Purse H p lc n ∧ n ≤ 1000000 ∧ 0 < m ∧ m < 1000000 ∧
  ∀ (r : Int) (H' : Hp), 0 ≤ r → r < m → Purse H' p lc (n + 1) → (∀ b, b ≠ p → H' b = H b) → Q (.int r) H'
structure Txt0 (mg : Str → Option Value) : Prop where
  n_len : mg "len" = none
  n_int : mg "int" = none
  n_list : mg "list" = none
  n_range : mg "range" = none
  n_tuple : mg "tuple" = none
theorem Txt.t0 {K : PySem.W.Frag} {mg : Str → Option Value} (T : Txt K mg) : Txt0 mg := ⟨T.n_len, T.n_int, T.n_list, T.n_range, T.n_tuple⟩
section
variable {P : Program} {w : World} {K : PySem.W.Frag} {mg : Str → Option Value} {base : Heap}
theorem scDraw : FnScope ["purse", "many", "told", "stirred"] ["purse", "many"] (defScope sDraw) := ⟨rfl, rfl, rfl, by decide +kernel, rfl, by decide +kernel, by decide +kernel⟩
theorem ok_draw {f : Addr} {fd : FuncData} (D : Df K mg "_law_draw" sDraw f fd) (T : Txt0 mg) : FnOk P w K mg base CX0 1 f fd ["purse", "many"] spDraw := by
  have SC := scDraw
  refine D.fn.ok scDraw (fun vs H Q E h => ?_) (fun cdv A outer s H vs Q E hr h => ?_)
  · obtain ⟨p, lc, m, n, rfl, _⟩ := h
    rfl
  obtain ⟨p, l, m, n, rfl, hP, hn, hm0, hm, q⟩ := h
  refine ⟨_, PSs.nox (Evl.pss_cut (ps_if (PW.pt (pw_and (pt_cmpR op_lt (pe_ix ix_list (pv 0) pe_int (fun _ _ => rfl)) (pv 1) (nomark _)) (pw_and1 (pt_cmpR op_lt (pe_ix ix_list (pv 0) pe_int (fun _ _ => rfl)) (pe_callB call_len (by rfl) T.n_len (by decide +kernel) (pa_cons (pe_ix ix_list (pv 0) pe_int (fun _ _ => rfl)) pa_nil)) (nomark _))))) (pss_cons (ps_asg (pe_ix ix_list (pe_ix ix_list (pv 0) pe_int (fun _ _ => rfl)) (pe_ix ix_list (pv 0) pe_int (fun _ _ => rfl)) (fun _ _ => rfl)) (pg_sub (pv 0) pe_int set_list))
    (pss_one (ps_augS (pv 0) pe_int get_list pe_int ip_add set_list))) pss_nil)
    (pss_cons (ps_if (pt_cmpR op_ge (pe_ix ix_list (pv 0) pe_int (fun _ _ => rfl)) (pv 1) (nomark _)) (pss_cons (ps_set (i := 2) SC.nd rfl (Or.inl rfl) (pe_op op_mod (pe_callTy call_int1 (by rfl) T.n_int (by decide +kernel) (pa_cons (pe_ix ix_list (pv 0) pe_int (fun _ _ => rfl)) pa_nil)) (pv 1)))
    (pss_cons (ps_asg (pe_op op_fdiv (pe_ix ix_list (pv 0) pe_int (fun _ _ => rfl)) (pv 1)) (pg_sub (pv 0) pe_int set_list))
    (pss_one (ps_ret (pv 2))))) pss_nil)
    (pss_cons (ps_augS (pv 0) pe_int get_list pe_int ip_add set_list)
    (pss_cons (ps_set (i := 3) SC.nd rfl (Or.inl rfl) (pe_op op_mod (pe_callTy call_int1 (by rfl) T.n_int (by decide +kernel) (pa_cons (pe_op op_mul (pe_op op_add (pe_op op_mul (pe_ix ix_list (pv 0) pe_int (fun _ _ => rfl)) (pe_ix ix_list (pv 0) pe_int (fun _ _ => rfl))) (pe_ix ix_list (pv 0) pe_int (fun _ _ => rfl))) pe_int) pa_nil)) pe_int))
    (pss_one (ps_ret (pe_op op_mod (pe_callTy call_int1 (by rfl) T.n_int (by decide +kernel) (pa_cons (pe_op op_mod (pe_callTy call_int1 (by rfl) T.n_int (by decide +kernel) (pa_cons (pe_op op_mul (pv 3) (pv 3)) pa_nil)) pe_int) pa_nil)) (pv 1)))))))), ?_⟩
  -- the purse's list taken on, perhaps
  refine ⟨fun σ' H' => σ' = start ["purse", "many", "told", "stirred"] [.ref p, .int m] ∧ Purse H' p l n ∧ ∀ b, b ≠ p → H' b = H b, ?_, ?_⟩
  · obtain ⟨cs, i, cur, k, seed, hp, hl, hne, h1, h2, hi, h3, h4, h5, h6, h7⟩ := hP
    have keep : Purse H p l n := ⟨cs, i, cur, k, seed, hp, hl, hne, h1, h2, hi, h3, h4, h5, h6, h7⟩
    refine ⟨_, rfl, p, _, 2, _, rfl, rfl, SqL.of hp, at_of (j := 2) rfl rfl, _, rfl, _, _, rfl, rfl, _, rfl, ?_⟩
    refine ite2 (fun c => ?_) (fun c => ?_)
    · refine ⟨_, rfl, p, _, 1, _, rfl, rfl, SqL.of hp, at_of (j := 1) rfl rfl, _, rfl, p, _, 0, _, rfl, rfl, SqL.of hp, at_of (j := 0) rfl rfl, _, _, rfl, .inl ⟨_, SqL.of hl, rfl⟩, _, _, rfl, rfl, _, rfl, ?_⟩
      refine ite2 (fun c2 => ?_) (fun c2 => ?_)
      · have hlt : i < cs.length := by
          have z := of_decide_eq_true c2
          rw [List.length_map] at z
          omega
        have hg : (cs.map V.int)[i]? = some (.int cs[i]) := by rw [List.getElem?_map, List.getElem?_eq_getElem hlt]; rfl
        refine ⟨_, rfl, p, _, 0, _, rfl, rfl, SqL.of hp, at_of (j := 0) rfl rfl, _, rfl, p, _, 1, _, rfl, rfl, SqL.of hp, at_of (j := 1) rfl rfl, l, _, _, _, rfl, rfl, SqL.of hl, at_of (j := i) rfl hg, _, rfl, p, _, 2, 2, rfl, rfl, hp, rfl, ?_⟩
        have hp2 : upd H p (.lst [.ref l, .int (i : Int), .int cs[i], .int k, .int seed]) p = some (.lst [.ref l, .int (i : Int), .int cs[i], .int k, .int seed]) := upd_same
        refine ⟨_, rfl, p, _, _, 1, rfl, rfl, SqL.of hp2, rfl, by decide, _, _, rfl, rfl, p, _, 1, 1, rfl, rfl, hp2, rfl, ?_⟩
        refine ⟨rfl, ?_, fun b hb => by rw [upd_ne hb, upd_ne hb]⟩
        rw [upd_upd]
        exact Purse.set (i := i + 1) hl hne h1 h2 (by omega) (h1 _ (List.getElem_mem hlt)) h4 h5 h6 h7 rfl
      · exact ⟨rfl, keep, fun _ _ => rfl⟩
    · exact ⟨rfl, keep, fun _ _ => rfl⟩
  · rintro σ' H1 ⟨rfl, hP1, hk⟩
    obtain ⟨cs, i, cur, k, seed, hp, hl, hne, h1, h2, hi, h3, h4, h5, h6, h7⟩ := hP1
    refine ⟨_, rfl, p, _, 2, _, rfl, rfl, SqL.of hp, at_of (j := 2) rfl rfl, _, rfl, _, _, rfl, rfl, _, rfl, ?_⟩
    refine ite2 (fun c => ?_) (fun c => ?_)
    · refine ⟨_, rfl, p, _, 2, _, rfl, rfl, SqL.of hp, at_of (j := 2) rfl rfl, .inl ⟨_, rfl, _, rfl, _, _, rfl, rfl, hm0, ?_⟩⟩
      refine ⟨_, rfl, p, _, 2, _, rfl, rfl, SqL.of hp, at_of (j := 2) rfl rfl, _, rfl, _, _, rfl, rfl, ⟨hm0, by omega⟩, _, rfl, p, _, 2, 2, rfl, rfl, hp, rfl, _, rfl, ?_⟩
      refine q _ _ (Int.emod_nonneg _ (by omega)) (Int.emod_lt_of_pos _ hm0) ?_ (fun b hb => by rw [upd_ne hb]; exact hk b hb)
      exact Purse.set (i := i) hl hne h1 h2 hi (Int.ediv_nonneg h3 (by omega)) h4 (by omega) h6 h7 rfl
    · refine ⟨_, rfl, p, _, _, 3, rfl, rfl, SqL.of hp, rfl, by decide, _, _, rfl, rfl, p, _, 3, 3, rfl, rfl, hp, rfl, ?_⟩
      have hp2 : upd H1 p (.lst [.ref l, .int (i : Int), .int cur, .int (k + 1), .int seed]) p = some (.lst [.ref l, .int (i : Int), .int cur, .int (k + 1), .int seed]) := upd_same
      have b1 : k + 1 < 2 ^ 64 := by omega
      refine ⟨_, rfl, p, _, 3, _, rfl, rfl, SqL.of hp2, at_of (j := 3) rfl rfl, _, rfl, p, _, 3, _, rfl, rfl, SqL.of hp2, at_of (j := 3) rfl rfl, _, _, rfl, rfl, .inl ⟨by omega, b1⟩, _, rfl, p, _, 4, _, rfl, rfl, SqL.of hp2, at_of (j := 4) rfl rfl, _, _, rfl, rfl, _, _, rfl, rfl, .inr ⟨by decide, by decide⟩, .inl ⟨_, rfl, _, _, rfl, rfl, (by show (0 : Int) < 2147483629; decide), ?_⟩⟩
      have s0 := Int.emod_nonneg (((k + 1) * (k + 1) + seed) * 48271) (show (2147483629 : Int) ≠ 0 by decide)
      have s1 := Int.emod_lt_of_pos (((k + 1) * (k + 1) + seed) * 48271) (show (0 : Int) < 2147483629 by decide)
      refine ⟨_, rfl, _, rfl, _, _, rfl, rfl, .inl ⟨by omega, by omega⟩, .inl ⟨_, rfl, _, _, rfl, rfl, (by show (0 : Int) < 2147483587; decide), .inl ⟨_, rfl, _, rfl, _, _, rfl, rfl, hm0, ?_⟩⟩⟩
      refine q _ _ (Int.emod_nonneg _ (by omega)) (Int.emod_lt_of_pos _ hm0) ?_ (fun b hb => by rw [upd_ne hb]; exact hk b hb)
      exact Purse.set (i := i) hl hne h1 h2 hi h3 (by show (0 : Int) ≤ k + 1; omega) (by show k + 1 ≤ ((n + 1 : Nat) : Int); omega) h6 h7 rfl
theorem scPick : FnScope ["purse", "things"] ["purse", "things"] (defScope sPick) := ⟨rfl, rfl, rfl, by decide +kernel, rfl, by decide +kernel, by decide +kernel⟩
def spPick (K : PySem.W.Frag) : Sp := fun vs H Q _ => ∃ (p lc t : Addr) (xs : List V) (n : Nat), vs = [.ref p, .ref t] ∧ Purse H p lc n ∧ n ≤ 1000000 ∧ SqL K H t xs ∧ t ≠ p ∧ xs ≠ [] ∧ xs.length < 1000000 ∧
  ∀ (x : V) (H' : Hp), x ∈ xs → Purse H' p lc (n + 1) → (∀ b, b ≠ p → H' b = H b) → Q x H'
theorem sqL_ne {H H' : Hp} {p t : Addr} {xs : List V} (h : SqL K H t xs) (hne : t ≠ p) (k : ∀ b, b ≠ p → H' b = H b) : SqL K H' t xs := by
  rcases h with (h | ⟨o, h⟩) | h
  · exact .inl (.inl ((k t hne).trans h))
  · exact .inl (.inr ⟨o, (k t hne).trans h⟩)
  · exact .inr h
theorem sqL_k {H H' : Hp} {p t : Addr} {xs : List V} (h : SqL K H t xs) (hne : t ≠ p) (k : ∀ b o, b ≠ p → H b = some o → H' b = some o) : SqL K H' t xs := by
  rcases h with (h | ⟨o, h⟩) | h
  · exact .inl (.inl (k t _ hne h))
  · exact .inl (.inr ⟨o, k t _ hne h⟩)
  · exact .inr h
theorem ok_pick {f f_law_draw : Addr} {fd fd_law_draw : FuncData} (D : Df K mg "_law_pick" sPick f fd) (D_law_draw : Df K mg "_law_draw" sDraw f_law_draw fd_law_draw) (T : Txt0 mg) : FnOk P w K mg base CX0 2 f fd ["purse", "things"] (spPick K) := by
  have SC := scPick
  have G_law_draw : FnOk P w K mg base CX0 1 f_law_draw fd_law_draw ["purse", "many"] spDraw := ok_draw D_law_draw T
  have B_law_draw : Binds K fd_law_draw ["purse", "many"] [] := D_law_draw.fn.bindsN fun _ _ _ _ _ _ us hl => match us, hl with | [_, _], _ => rfl
  refine D.fn.ok scPick (fun vs H Q E h => ?_) (fun cdv A outer s H vs Q E hr h => ?_)
  · obtain ⟨p, lc, t, xs, n, rfl, _⟩ := h
    rfl
  obtain ⟨p, lc, t, xs, n, rfl, hP, hn, hS, hne, hx, hlen, q⟩ := h
  refine ⟨_, PSs.nox (pss_one (ps_ret (pe_ix ix_list (pv 1) (pe_call G_law_draw (hr.mono (by decide)) rfl D_law_draw.gl D_law_draw.fn.kp B_law_draw .nil pass0 (pa_cons (pv 0) (pa_cons (pe_callB call_len (by rfl) T.n_len (by decide +kernel) (pa_cons (pv 1) pa_nil)) pa_nil))) (fun _ _ => rfl)))), ?_⟩
  have hpos : 0 < xs.length := by cases xs with
    | nil => exact absurd rfl hx
    | cons _ _ => exact Nat.succ_pos _
  refine ⟨_, rfl, _, rfl, _, rfl, _, _, rfl, .inl ⟨_, hS, rfl⟩, p, lc, _, n, rfl, hP, hn, by omega, by omega, fun r H' hr0 hr1 hP' hk => ?_⟩
  have hlt : r.toNat < xs.length := by omega
  exact ⟨t, xs, r, xs[r.toNat], rfl, rfl, sqL_ne hS hne hk, at_of (j := r.toNat) (by omega) (List.getElem?_eq_getElem hlt), q _ H' (List.getElem_mem hlt) hP' hk⟩
/-! ### the purse made -/
theorem cut63 {xs : List V} (h : xs.length ≤ 63) : cutV xs none (some 63) = xs := by
  unfold cutV
  have e1 : HT.sIx xs.length 0 none = 0 := rfl
  have e2 : HT.sIx xs.length xs.length (some 63) = xs.length := by
    show HT.sIx _ _ (some ((63 : Nat) : Int)) = _
    rw [HT.sIx_nat]
    exact Nat.min_eq_right h
  rw [e1, e2, List.drop_zero, Nat.sub_zero, List.take_length]
theorem scPurse : FnScope ["script", "seed", "cell"] ["script"] (defScope sPurse) := ⟨rfl, rfl, rfl, by decide +kernel, rfl, by decide +kernel, by decide +kernel⟩
def spPurse (K : PySem.W.Frag) : Sp := fun vs H Q _ => ∃ (a : Addr) (ns : List Int), vs = [.ref a] ∧ SqL K H a (ns.map V.int) ∧ ns.length ≤ 63 ∧ ∀ (p lc : Addr) (H' : Hp), H p = none → H lc = none → Purse H' p lc 0 → Same H H' → Q (.ref p) H'
theorem ok_purse {f : Addr} {fd : FuncData} (D : Df K mg "_law_purse" sPurse f fd) (T : Txt0 mg) : FnOk P w K mg base CX0 1 f fd ["script"] (spPurse K) := by
  have SC := scPurse
  refine D.fn.ok scPurse (fun vs H Q E h => ?_) (fun cdv A outer s H vs Q E hr h => ?_)
  · obtain ⟨a, ns, rfl, _⟩ := h
    rfl
  obtain ⟨a, ns, rfl, hS, hlen, q⟩ := h
  refine ⟨_, PSs.nox (pss_cons (ps_set (i := 1) SC.nd rfl (Or.inl rfl) pe_int)
    (pss_cons (ps_for PassesOwn.never rfl (pi_list (pe_slice sl_list (pv 0) po_none (po_some pe_int))) (pg_name (i := 2) SC.nd rfl (Or.inl rfl)) (pss_one (ps_set (i := 1) SC.nd rfl (Or.inl rfl) (pe_op op_mod (pe_callTy call_int1 (by rfl) T.n_int (by decide +kernel) (pa_cons (pe_op op_add (pe_op op_mul (pv 1) pe_int) (pv 2)) pa_nil)) pe_int))))
    (pss_one (ps_ret (pe_lst (pa_cons (pe_lc (own := [("cell", 2)]) (g := (gName 2)) (by rfl) SC.nd (pi_list (pe_slice sl_list (pv 0) po_none (po_some pe_int))) (blkOk_by (own := [("cell", 2)]) (N := ["script", "seed", "cell"]) (sc := defScope sPurse) (by decide +kernel)) (fun _ _ _ _ _ => (pg_name (i := 2) SC.nd rfl (Or.inl rfl))) (fun _ _ _ _ _ => pts_one (pt_cmpR op_ge (pv 2) (pe_op op_pow pe_int pe_int) (nomark _))) (fun _ _ _ _ _ => (pv 2))) (pa_cons pe_int (pa_cons pe_int (pa_cons pe_int (pa_cons (pv 1) pa_nil)))))))))), ?_⟩
  have hml : (ns.map V.int).length ≤ 63 := by rw [List.length_map]; exact hlen
  refine ⟨_, rfl, 63, rfl, a, _, rfl, hS, fun l hl => ?_⟩
  rw [cut63 hml]
  have s1 : Same H (upd H l (.lst (ns.map V.int))) := same_new hl _
  refine ⟨l, rfl, ⟨_, SqL.of upd_same⟩, for_list (xs := ns.map V.int) (fun i σ H' => ∃ sd : Int, (∃ c, σ = [some (.ref a), some (.int sd), c]) ∧ 0 ≤ sd ∧ sd < 2147483647 ∧ H' = upd H l (.lst (ns.map V.int))) ⟨7, ⟨_, rfl⟩, by decide, by decide, rfl⟩ ?_ ?_ ?_⟩
  · rintro i σ H' _ ⟨sd, _, _, _, rfl⟩
    exact SqL.of upd_same
  · rintro i x σ H' hi ⟨sd, ⟨c, rfl⟩, h0, h1, rfl⟩
    rw [List.getElem?_map] at hi
    obtain ⟨n, hn, rfl⟩ := Option.map_eq_some_iff.mp hi
    refine ⟨_, rfl, _, _, rfl, rfl, .inl ⟨by omega, by omega⟩, _, rfl, _, _, rfl, rfl, .inl ⟨_, rfl, _, _, rfl, rfl, (by show (0 : Int) < 2147483647; decide), ?_⟩⟩
    exact ⟨_, ⟨_, rfl⟩, Int.emod_nonneg _ (by decide), Int.emod_lt_of_pos _ (by decide), rfl⟩
  · rintro σ H' ⟨sd, ⟨c, rfl⟩, h0, h1, rfl⟩
    refine ⟨_, rfl, 63, rfl, a, _, rfl, s1.seq hS, fun l2 hl2 => ?_⟩
    rw [cut63 hml]
    have s2 := s1.trans (same_new hl2 (.lst (ns.map V.int)))
    refine ⟨l2, rfl, ⟨_, SqL.of upd_same⟩, fun d hd => ?_⟩
    have s3 := s2.trans (same_new hd (.lst []))
    have nd2 : d ≠ l2 := fun e => by
      rw [e, upd_same] at hd
      cases hd
    refine lc_list (xs := ns.map V.int) (fun i H' => Same H H' ∧ H' l2 = some (.lst (ns.map V.int)) ∧ ∃ cs : List Int, H' d = some (.lst (cs.map V.int)) ∧ cs.length ≤ i ∧ ∀ c ∈ cs, 0 ≤ c) ⟨s3, ?_, [], upd_same, Nat.le_refl _, fun c hc => by cases hc⟩ ?_ ?_ ?_
    · rw [upd_ne nd2.symm]
      exact upd_same
    · rintro i H' _ ⟨_, z, _⟩
      exact SqL.of z
    · rintro i x H' hi ⟨k1, k2, cs, k3, k4, k5⟩
      have hlt := (List.getElem?_eq_some_iff.mp hi).1
      rw [List.getElem?_map] at hi
      obtain ⟨n, hn, rfl⟩ := Option.map_eq_some_iff.mp hi
      refine ⟨rfl, _, rfl, _, _, rfl, rfl, ⟨by decide, by decide, by decide⟩, _, _, rfl, rfl, _, rfl, ?_⟩
      refine ite2 (fun c => ?_) (fun c => ?_)
      · refine ⟨_, rfl, _, k3, ?_, ?_⟩
        · rw [List.length_map]
          have : 100 < sizeLine := by decide
          omega
        · refine ⟨fun b o e => ?_, ?_, cs ++ [n], ?_, ?_, ?_⟩
          · rw [upd_ne (ne_of_none e (s2.free hd))]
            exact k1 b o e
          · rw [upd_ne nd2.symm]
            exact k2
          · rw [upd_same, List.map_append]
            rfl
          · rw [List.length_append]
            exact Nat.succ_le_succ k4
          · intro c' hc'
            rcases List.mem_append.mp hc' with hc' | hc'
            · exact k5 c' hc'
            · obtain rfl := List.mem_singleton.mp hc'
              have z := of_decide_eq_true c
              have z2 : ((10 : Int) ^ (18 : Int).toNat) = 1000000000000000000 := by decide
              omega
      · exact ⟨k1, k2, cs, k3, Nat.le_succ_of_le k4, k5⟩
    · rintro H' ⟨k1, k2, cs, k3, k4, k5⟩
      refine ⟨_, rfl, (by show 5 ≤ sizeLine; decide), fun p hp => ?_⟩
      have hpd : d ≠ p := ne_of_none k3 hp
      refine q p d _ (k1.free hp) (s2.free hd) ?_ (k1.trans (same_new hp _))
      rw [List.length_map] at k4
      exact ⟨cs, 0, 0, 0, sd, upd_same, by rw [upd_ne hpd]; exact k3, hpd, k5, by omega, Nat.zero_le _, by decide, by decide, by decide, h0, h1⟩
end
end K21

set_option Elab.async false
set_option linter.all false
set_option maxRecDepth 100000
set_option maxHeartbeats 1000000
namespace K21
open PySem PySem.Spec L2 Wy
section
variable {P : Program} {w : World} {K : PySem.W.Frag} {mg : Str → Option Value} {base : Heap}
def spKindL : Sp := fun vs H Q _ => ∃ x y : V, vs = [x, y] ∧ ∀ p, H p = none → Q (.ref p) (upd H p (.tup [.str "kind", x, y]))
def spUnkL : Sp := fun vs H Q _ => ∃ x : V, vs = [x] ∧ ∀ p, H p = none → Q (.ref p) (upd H p (.tup [.str "unknown", x]))
theorem sc__law_kind : FnScope ["name", "types"] ["name", "types"] (defScope s__law_kind) := ⟨rfl, rfl, rfl, by decide +kernel, rfl, by decide +kernel, by decide +kernel⟩
theorem ok__law_kind (F : Fs K mg) (T : Txt K mg) (Z : Exs P K mg) : FnOk P w K mg base CX0 1 F.f__law_kind F.fd__law_kind ["name", "types"] (spKindL) := by
  have SC := sc__law_kind
  refine F.d__law_kind.fn.ok sc__law_kind (fun vs H Q E h => ?_) (fun cdv A outer s H vs Q E hr h => ?_)
  · obtain ⟨x, y, rfl, _⟩ := h; rfl
  obtain ⟨x, y, rfl, q⟩ := h
  refine ⟨_, PSs.nox (pss_one (ps_ret (pe_tup (pa_cons pe_str (pa_cons (pv 0) (pa_cons (pv 1) pa_nil)))))), ?_⟩
  exact ⟨_, rfl, _, rfl, small _ (by show 3 ≤ 100000; decide), fun p hp => q p hp⟩
theorem sc__law_unknown : FnScope ["number"] ["number"] (defScope s__law_unknown) := ⟨rfl, rfl, rfl, by decide +kernel, rfl, by decide +kernel, by decide +kernel⟩
theorem ok__law_unknown (F : Fs K mg) (T : Txt K mg) (Z : Exs P K mg) : FnOk P w K mg base CX0 1 F.f__law_unknown F.fd__law_unknown ["number"] (spUnkL) := by
  have SC := sc__law_unknown
  refine F.d__law_unknown.fn.ok sc__law_unknown (fun vs H Q E h => ?_) (fun cdv A outer s H vs Q E hr h => ?_)
  · obtain ⟨x, rfl, _⟩ := h; rfl
  obtain ⟨x, rfl, q⟩ := h
  refine ⟨_, PSs.nox (pss_one (ps_ret (pe_tup (pa_cons pe_str (pa_cons (pv 0) pa_nil))))), ?_⟩
  exact ⟨_, rfl, small _ (by show 2 ≤ 100000; decide), fun p hp => q p hp⟩
theorem sc__law_sides : FnScope ["one"] ["one"] (defScope s__law_sides) := ⟨rfl, rfl, rfl, by decide +kernel, rfl, by decide +kernel, by decide +kernel⟩
theorem ok__law_sides (F : Fs K mg) (T : Txt K mg) (Z : Exs P K mg) : FnOk P w K mg base CX0 1 F.f__law_sides F.fd__law_sides ["one"] (spParts K) := by
  have SC := sc__law_sides
  refine F.d__law_sides.fn.ok sc__law_sides (fun vs H Q E h => ?_) (fun cdv A outer s H vs Q E hr h => ?_)
  · obtain ⟨v, d, Fh, rfl, _⟩ := h; rfl
  obtain ⟨v, d, Fh, rfl, hd, sF, hh, q⟩ := h
  refine ⟨_, PSs.nox (pss_one (ps_ret (pe_ifExp (pt_cmpR op_eq (pe_ix ix_tup (pv 0) pe_int (fun _ _ => rfl)) pe_str (nomark _)) (pe_ix ix_tup (pv 0) pe_int (fun _ _ => rfl)) (pe_lst pa_nil)))), ?_⟩
  rcases head_inv hh with ⟨a, rfl, _⟩ | ⟨a, ts, rfl, _, _⟩
  · obtain ⟨p, xs, rfl, hq, hall⟩ := hd.tup_inv
    obtain ⟨x0, e0, h0⟩ := hall.get' (i := 0) rfl
    obtain rfl := h0.str_inv
    refine ⟨_, rfl, p, xs, 0, _, rfl, rfl, same_seqT sF hq, at_of (j := 0) rfl e0, rfl, _, rfl, ?_⟩
    refine ite2 (fun c => absurd (V.str.inj (of_decide_eq_true c)) (by decide)) (fun c => ⟨small _ (by show 0 ≤ 100000; decide), fun b hb => ?_⟩)
    exact q b [] _ (same_new hb _) (SqL.of upd_same) .nil
  · obtain ⟨p, xs, rfl, hq, hall⟩ := hd.tup_inv
    obtain ⟨x0, e0, h0⟩ := hall.get' (i := 0) rfl
    obtain ⟨x2, e2, h2⟩ := hall.get' (i := 2) rfl
    obtain rfl := h0.str_inv
    obtain ⟨b, ys, rfl, hqb, hab⟩ := h2.lst_inv
    refine ⟨_, rfl, p, xs, 0, _, rfl, rfl, same_seqT sF hq, at_of (j := 0) rfl e0, rfl, _, rfl, ?_⟩
    refine ite2 (fun c => ?_) (fun c => absurd (decide_eq_true rfl) c)
    exact ⟨_, rfl, p, xs, 2, _, rfl, rfl, same_seqT sF hq, at_of (j := 2) rfl e2, q b ys H same_refl (sF.seq hqb) hab⟩
theorem sc__law_parts : FnScope ["one", "found", "waiting", "here"] ["one"] (defScope s__law_parts) := ⟨rfl, rfl, rfl, by decide +kernel, rfl, by decide +kernel, by decide +kernel⟩
theorem ok__law_parts (F : Fs K mg) (T : Txt K mg) (Z : Exs P K mg) : FnOk P w K mg base CX0 2 F.f__law_parts F.fd__law_parts ["one"] (spAll K) := by
  have SC := sc__law_parts
  have G__law_sides : FnOk P w K mg base CX0 1 F.f__law_sides F.fd__law_sides ["one"] (spParts K) := ok__law_sides F T Z
  have B__law_sides : Binds K F.fd__law_sides ["one"] [] := F.d__law_sides.fn.bindsN fun _ _ _ _ _ _ us hl => match us, hl with | [_], _ => rfl
  refine F.d__law_parts.fn.ok sc__law_parts (fun vs H Q E h => ?_) (fun cdv A outer s H vs Q E hr h => ?_)
  · obtain ⟨v, t, Fh, rfl, _⟩ := h; rfl
  obtain ⟨v, t, Fh, rfl, hd, sF, ok, hsz, q⟩ := h
  have hu := hr.units
  refine ⟨_, PSs.nox (pss_cons (ps_par (i := 1) (j := 2) (by rfl) SC.nd rfl rfl (by decide) rfl rfl (pa_cons (pe_lst pa_nil) (pa_cons (pe_lst (pa_cons (pv 0) pa_nil)) pa_nil)) (by rfl))
    (pss_cons (ps_while PassesOwn.never (pt_cmpR (op_neNil hu) (pv 2) (pe_lst pa_nil) (nomark _)) (pss_cons (ps_set (i := 3) SC.nd rfl (Or.inl rfl) (pe_bm0 PySem.F.plainAttrs_list PySem.F.slot_list_pop PySem.F.type_list_pop mt_pop (pv 2)))
    (pss_cons (ps_expr (pe_bm PySem.F.plainAttrs_list PySem.F.slot_list_append PySem.F.type_list_append mt_append (pv 1) (pa_cons (pv 3) pa_nil)))
    (pss_one (ps_set (i := 2) SC.nd rfl (Or.inl rfl) (pe_op op_catS (pv 2) (pe_revL (pe_call G__law_sides (hr.mono (by decide)) rfl F.d__law_sides.gl F.d__law_sides.fn.kp B__law_sides .nil pass0 (pa_cons (pv 3) pa_nil)))))))))
    (pss_one (ps_ret (pv 1))))), ?_⟩
  refine ⟨small _ (by show 0 ≤ 100000; decide), fun g hg => ?_⟩
  have s1 := same_new hg (.lst [])
  refine ⟨_, rfl, small _ (by show 1 ≤ 100000; decide), fun l hl => ?_⟩
  have s2 := same_new hl (.lst [v])
  have ngl : g ≠ l := ne_of_none upd_same hl
  refine ⟨_, _, rfl, ?_⟩
  refine ⟨fun m σ H' => ∃ (ws fv : List V) (wts done : List Ty) (l : Addr) (x : Option V), m = Ty.sizes wts ∧ σ = [some v, some (.ref g), some (.ref l), x] ∧ Same H H' ∧ H' g = some (.lst fv) ∧ H' l = some (.lst ws) ∧ H l = none ∧ l ≠ g ∧ DxAll K Fh ws (Ty.toDs wts) ∧ DxAll K Fh fv (Ty.toDs done) ∧ Ty.oks wts = true ∧ t.parts = done ++ Ty.partss wts.reverse,
    ⟨_, [v], [], [t], [], l, none, rfl, rfl, s1.trans s2, s2 _ _ upd_same, upd_same, s1.free hl, ngl.symm, .cons hd .nil, .nil, by simp [Ty.oks, ok], by simp [Ty.partss]⟩, ?_⟩
  rintro m σ H' ⟨ws, fv, wts, done, l, x, rfl, rfl, sH, hg1, hl1, hl0, nlg, hall, hfv, oks, hparts⟩
  refine ⟨_, rfl, small _ (by show 0 ≤ 100000; decide), fun e he => ?_⟩
  have se := same_new he (.lst [])
  refine ⟨l, e, ws, rfl, rfl, SqL.of (se _ _ hl1), SqL.of upd_same, _, rfl, ?_⟩
  replace hl1 := se _ _ hl1
  replace hg1 := se _ _ hg1
  replace sH := sH.trans se
  generalize upd H' e (.lst []) = G at hl1 hg1 sH ⊢
  have hdl := hall.length
  rw [toDs_map, List.length_map] at hdl
  have hfl := hfv.length
  rw [toDs_map, List.length_map] at hfl
  have hpl := congrArg List.length hparts
  rw [parts_length, List.length_append, partss_length, sizes_reverse] at hpl
  rcases List.eq_nil_or_concat wts with rfl | ⟨wa, u, rfl⟩
  · have hw : ws = [] := List.eq_nil_of_length_eq_zero hdl
    subst hw
    refine ite2 (fun c => by cases c) (fun _ => ⟨_, rfl, ?_⟩)
    have e : t.parts = done := by
      rw [hparts]
      exact List.append_nil _
    exact q g fv G sH hg hg1 (by rw [e]; exact hfv)
  rw [List.concat_eq_append] at *
  rw [toDs_append] at hall
  obtain ⟨wv, y, rfl, hwa, hy⟩ := hall.concat_inv
  rw [oks_append] at oks
  obtain ⟨oa, ou⟩ := Bool.and_eq_true_iff.mp oks
  have ou' : u.ok = true := by simpa [Ty.oks] using ou
  rw [sizes_append] at hpl ⊢
  have hus := size_eq u
  refine ite2 (fun _ => ?_) (fun c => absurd (by simp) c)
  refine ⟨fun σ' H' => ∃ m', m' < Ty.sizes wa + Ty.sizes [u] ∧ ∃ (ws fv : List V) (wts done : List Ty) (l : Addr) (x : Option V), m' = Ty.sizes wts ∧ σ' = [some v, some (.ref g), some (.ref l), x] ∧ Same H H' ∧ H' g = some (.lst fv) ∧ H' l = some (.lst ws) ∧ H l = none ∧ l ≠ g ∧ DxAll K Fh ws (Ty.toDs wts) ∧ DxAll K Fh fv (Ty.toDs done) ∧ Ty.oks wts = true ∧ t.parts = done ++ Ty.partss wts.reverse, fun _ _ h => h, ?_⟩
  refine ⟨_, rfl, .inl ⟨rfl, _, SqL.of hl1⟩, l, _, y, rfl, rfl, hl1, by simp, ?_⟩
  rw [List.dropLast_concat]
  have sp : Same H (upd G l (.lst wv)) := fun b o z => by
    rw [upd_ne (ne_of_none z hl0)]
    exact sH _ _ z
  have hg2 : upd G l (.lst wv) g = some (.lst fv) := by
    rw [upd_ne nlg.symm]
    exact hg1
  have hl2 : upd G l (.lst wv) l = some (.lst wv) := upd_same
  generalize upd G l (.lst wv) = G1 at sp hg2 hl2 ⊢
  refine ⟨_, rfl, .inl ⟨rfl, _, SqL.of hg2⟩, _, rfl, g, fv, y, rfl, rfl, hg2, ?_, ?_⟩
  · exact Nat.lt_of_lt_of_le (show fv.length < 200000 by simp only [Ty.sizes] at hpl; omega) (by decide)
  have sp2 : Same H (upd G1 g (.lst (fv ++ [y]))) := fun b o z => by
    rw [upd_ne (ne_of_none z hg)]
    exact sp _ _ z
  have hl3 : upd G1 g (.lst (fv ++ [y])) l = some (.lst wv) := by
    rw [upd_ne nlg]
    exact hl2
  have hg3 : upd G1 g (.lst (fv ++ [y])) g = some (.lst (fv ++ [y])) := upd_same
  generalize upd G1 g (.lst (fv ++ [y])) = G2 at sp2 hl3 hg3 ⊢
  refine ⟨_, rfl, _, rfl, y, u.toD, Fh, rfl, hy, sF.trans sp2, headD_toD ou', fun b xs G3 s3 hb hxs => ?_⟩
  rw [sidesD_toD] at hxs
  have hxl := hxs.length
  rw [toDs_map, List.length_map] at hxl
  have h3 := sides_three ou'
  refine ⟨b, xs, rfl, hb, fun p hp => ?_⟩
  have s4 := same_new hp (.lst xs.reverse)
  have hwl := hwa.length
  rw [toDs_map, List.length_map] at hwl
  have hws := sizes_ge wa
  refine ⟨l, p, wv, xs.reverse, rfl, rfl, SqL.of (s4 _ _ (s3 _ _ hl3)), SqL.of upd_same, ?_, fun n hn => ?_⟩
  · rw [List.length_reverse]
    exact Nat.le_trans (show wv.length + xs.length ≤ 200000 by omega) (by decide)
  have s5 := same_new hn (.lst (wv ++ xs.reverse))
  have sN := s3.trans (s4.trans s5)
  refine ⟨Ty.sizes (wa ++ u.sides.reverse), ?_, wv ++ xs.reverse, fv ++ [y], wa ++ u.sides.reverse, done ++ [u], n, _, rfl, rfl, sp2.trans sN, sN _ _ hg3, upd_same, (sp2.trans (s3.trans s4)).free hn, fun z => ?_, ?_, ?_, ?_, ?_⟩
  · rw [sizes_append, sizes_reverse]
    simp only [Ty.sizes]
    omega
  · rw [z] at hn
    rw [(s3.trans s4) _ _ hg3] at hn
    cases hn
  · rw [toDs_append]
    refine hwa.append ?_
    rw [toDs_map, List.map_reverse, ← toDs_map]
    exact hxs.reverse
  · rw [toDs_append]
    exact hfv.append (.cons hy .nil)
  · rw [oks_append, oa, oks_reverse _ (oks_sides ou')]
    rfl
  · rw [hparts, List.reverse_append, List.reverse_append, List.reverse_reverse, partss_append]
    have e1 : Ty.partss [u].reverse = u :: Ty.partss u.sides := by
      show Ty.partss [u] = _
      rw [Ty.partss, parts_eq, Ty.partss, List.append_nil]
    rw [e1, partss_append, List.append_assoc]
    rfl
end
end K21

set_option Elab.async false
set_option linter.all false
set_option maxRecDepth 100000
set_option maxHeartbeats 1000000
namespace K21
open PySem PySem.Spec L2 Wy
section
variable {P : Program} {w : World} {K : PySem.W.Frag} {mg : Str → Option Value} {base : Heap}
/-- what stands in H' where nothing stood in H -/
def newH (H H' : Hp) : Hp := fun b => match H b with
  | none => H' b
  | some _ => none
theorem newH_of {H H' : Hp} {b : Addr} (h : H b = none) : newH H H' b = H' b := by
  unfold newH
  rw [h]
theorem newH_get {H H' : Hp} {b : Addr} {o : HO} (h : newH H H' b = some o) : H b = none ∧ H' b = some o := by
  unfold newH at h
  cases e : H b with
  | none =>
    rw [e] at h
    exact ⟨rfl, h⟩
  | some u =>
    rw [e] at h
    cases h
theorem newH_mono {A B H1 H2 : Hp} (h : ∀ b, B b = none → A b = none) (k : ∀ b o, B b = none → H1 b = some o → H2 b = some o) : Same (newH B H1) (newH A H2) := fun b o e => by
  obtain ⟨e1, e2⟩ := newH_get e
  rw [newH_of (h b e1)]
  exact k b o e1 e2
/-- what is kept but for the purse -/
def Kp (p : Addr) (H H' : Hp) : Prop := ∀ b o, b ≠ p → H b = some o → H' b = some o
theorem Kp.occ {p lc : Addr} {n : Nat} {H H' : Hp} (k : Kp p H H') (hP : Purse H' p lc n) : ∀ b, H' b = none → H b = none := fun b e => by
  obtain ⟨⟨o, z⟩, _, _⟩ := hP.at_
  have nb : b ≠ p := fun y => by
    rw [y, z] at e
    cases e
  cases h : H b with
  | none => rfl
  | some u =>
    rw [k b u nb h] at e
    cases e

def cT : Nat → Nat
  | 0 => 2
  | d + 1 => 2 + 2 * cT d
def sT : Nat → Nat
  | 0 => 1
  | d + 1 => 1 + 2 * sT d
theorem cT_pos (d : Nat) : 2 ≤ cT d := by cases d <;> simp [cT]
theorem sT_pos (d : Nat) : 1 ≤ sT d := by cases d <;> simp [sT]
def spDrawn (K : PySem.W.Frag) (d : Nat) : Sp := fun vs H Q _ => ∃ (p lc : Addr) (m : Int) (n : Nat), vs = [.ref p, .int m, .int (d : Int)] ∧ Purse H p lc n ∧ n + cT d ≤ 100000 ∧ 0 < m ∧ m < 1000000 ∧
  ∀ (x : V) (t : Ty) (H' : Hp), Dx K (newH H H') x t.toD → t.ok = true → t.deep ≤ d + 1 → t.size ≤ sT d → (∀ n ∈ numT t, (n : Int) < m) → Purse H' p lc (n + cT d) → Kp p H H' → Q x H'
def spDrawnB (K : PySem.W.Frag) : Nat → Sp
  | 0 => fun _ _ _ _ => False
  | d + 1 => spDrawn K d
theorem drawn_test {σ : St} {H : Hp} {Qb : Bool → Hp → Prop} {d r : Int} (h2 : σ[2]? = some (some (.int d))) (h3 : σ[3]? = some (some (.int r))) (q : Qb (decide ((d = 0 ∧ 3 < r) ∨ r < 2)) H) :
    tOr (tAnd (tTest (tOp rEq (tVar 2) (tC (V.int 0)))) (tTest (tOp (rI0 fun i j => V.bl (decide (j < i))) (tVar 3) (tC (V.int 3))))) (tTest (tOp (rI0 fun i j => V.bl (decide (i < j))) (tVar 3) (tC (V.int 2)))) σ H Qb := by
  have last : ¬ (d = 0 ∧ 3 < r) → (tTest (tOp (rI0 fun i j => V.bl (decide (i < j))) (tVar 3) (tC (V.int 2)))) σ H Qb := fun h => by
    refine ⟨_, h3, _, _, rfl, rfl, _, rfl, ?_⟩
    have e : decide ((d = 0 ∧ 3 < r) ∨ r < 2) = decide (r < 2) := by
      rw [Bool.eq_iff_iff, decide_eq_true_eq, decide_eq_true_eq]
      exact ⟨fun z => z.resolve_left h, .inr⟩
    rw [e] at q
    exact q
  refine ⟨_, h2, rfl, _, rfl, ?_⟩
  by_cases hd : d = 0
  · rw [show decide (V.int d = V.int 0) = true from decide_eq_true (by rw [hd])]
    refine ⟨_, h3, _, _, rfl, rfl, _, rfl, ?_⟩
    by_cases hr : 3 < r
    · have e : decide ((d = 0 ∧ 3 < r) ∨ r < 2) = true := decide_eq_true (.inl ⟨hd, hr⟩)
      rw [e] at q
      show (if decide (3 < r) = true then Qb true H else _)
      rw [decide_eq_true hr]
      exact q
    · show (if decide (3 < r) = true then Qb true H else _)
      rw [decide_eq_false hr]
      exact last fun z => hr z.2
  · rw [show decide (V.int d = V.int 0) = false from decide_eq_false (fun z => hd (V.int.inj z))]
    exact last fun z => hd z.1
theorem sc_drawn : FnScope ["purse", "many", "deep", "way", "name", "part"] ["purse", "many", "deep"] (defScope s__law_drawn_type) := ⟨rfl, rfl, rfl, by decide +kernel, rfl, by decide +kernel, by decide +kernel⟩
theorem drawn_step (F : Fs K mg) (T : Txt K mg) (Z : Exs P K mg) {d k : Nat} (G : FnOk P w K mg base CX0 (k + 3) F.f__law_drawn_type F.fd__law_drawn_type ["purse", "many", "deep"] (spDrawnB K d)) : FnOk P w K mg base CX0 (k + 4) F.f__law_drawn_type F.fd__law_drawn_type ["purse", "many", "deep"] (spDrawn K d) := by
  have SC := sc_drawn
  have G__law_draw : FnOk P w K mg base CX0 1 F.f__law_draw F.fd__law_draw ["purse", "many"] spDraw := ok_draw F.d__law_draw T.t0
  have B__law_draw : Binds K F.fd__law_draw ["purse", "many"] [] := F.d__law_draw.fn.bindsN fun _ _ _ _ _ _ us hl => match us, hl with | [_, _], _ => rfl
  have G__law_pick : FnOk P w K mg base CX0 2 F.f__law_pick F.fd__law_pick ["purse", "things"] (spPick K) := ok_pick F.d__law_pick F.d__law_draw T.t0
  have B__law_pick : Binds K F.fd__law_pick ["purse", "things"] [] := F.d__law_pick.fn.bindsN fun _ _ _ _ _ _ us hl => match us, hl with | [_, _], _ => rfl
  have G__law_kind : FnOk P w K mg base CX0 1 F.f__law_kind F.fd__law_kind ["name", "types"] spKindL := ok__law_kind F T Z
  have B__law_kind : Binds K F.fd__law_kind ["name", "types"] [] := F.d__law_kind.fn.bindsN fun _ _ _ _ _ _ us hl => match us, hl with | [_, _], _ => rfl
  have G__law_unknown : FnOk P w K mg base CX0 1 F.f__law_unknown F.fd__law_unknown ["number"] spUnkL := ok__law_unknown F T Z
  have B__law_unknown : Binds K F.fd__law_unknown ["number"] [] := F.d__law_unknown.fn.bindsN fun _ _ _ _ _ _ us hl => match us, hl with | [_], _ => rfl
  have B : Binds K F.fd__law_drawn_type ["purse", "many", "deep"] [] := F.d__law_drawn_type.fn.bindsN fun _ _ _ _ _ _ us hl => match us, hl with | [_, _, _], _ => rfl
  refine F.d__law_drawn_type.fn.ok sc_drawn (fun vs H Q E h => ?_) (fun cdv A outer s H vs Q E hr h => ?_)
  · obtain ⟨p, lc, m, n, rfl, _⟩ := h
    rfl
  obtain ⟨p, lc, m, n, rfl, hP, hn, hm0, hm1, q⟩ := h
  refine ⟨_, PSs.nox (pss_cons (ps_set (i := 3) SC.nd rfl (Or.inl rfl) (pe_call G__law_draw (hr.mono (by omega)) rfl F.d__law_draw.gl F.d__law_draw.fn.kp B__law_draw .nil pass0 (pa_cons (pv 0) (pa_cons pe_int pa_nil))))
    (pss_cons (ps_if (PW.pt (pw_or (PW.pt (pw_and (pt_cmpR op_eq (pv 2) pe_int (nomark _)) (pw_and1 (pt_cmpR op_gt (pv 3) pe_int (nomark _))))) (pw_or1 (pt_cmpR op_lt (pv 3) pe_int (nomark _))))) (pss_one (ps_ret (pe_call G__law_unknown (hr.mono (by omega)) rfl F.d__law_unknown.gl F.d__law_unknown.fn.kp B__law_unknown .nil pass0 (pa_cons (pe_call G__law_draw (hr.mono (by omega)) rfl F.d__law_draw.gl F.d__law_draw.fn.kp B__law_draw .nil pass0 (pa_cons (pv 0) (pa_cons (pv 1) pa_nil))) pa_nil)))) pss_nil)
    (pss_cons (ps_if (pt_cmpR op_lt (pv 3) pe_int (nomark _)) (pss_one (ps_ret (pe_call G__law_kind (hr.mono (by omega)) rfl F.d__law_kind.gl F.d__law_kind.fn.kp B__law_kind .nil pass0 (pa_cons (pe_call G__law_pick (hr.mono (by omega)) rfl F.d__law_pick.gl F.d__law_pick.fn.kp B__law_pick .nil pass0 (pa_cons (pv 0) (pa_cons (pe_lst (pa_cons pe_str (pa_cons pe_str pa_nil))) pa_nil))) (pa_cons (pe_lst pa_nil) pa_nil))))) pss_nil)
    (pss_cons (ps_set (i := 4) SC.nd rfl (Or.inl rfl) (pe_call G__law_pick (hr.mono (by omega)) rfl F.d__law_pick.gl F.d__law_pick.fn.kp B__law_pick .nil pass0 (pa_cons (pv 0) (pa_cons (pe_lst (pa_cons pe_str (pa_cons pe_str (pa_cons pe_str (pa_cons pe_str pa_nil))))) pa_nil))))
    (pss_one (ps_ret (pe_call G__law_kind (hr.mono (by omega)) rfl F.d__law_kind.gl F.d__law_kind.fn.kp B__law_kind .nil pass0 (pa_cons (pv 4) (pa_cons (pe_lc (own := [("part", 5)]) (g := (gName 5)) (by rfl) SC.nd (pi_range1 rfl T.n_range (pa_cons (pe_ifExp (pt_cmpR op_eq (pv 4) pe_str (nomark _)) pe_int pe_int) pa_nil)) (blkOk_by (own := [("part", 5)]) (N := ["purse", "many", "deep", "way", "name", "part"]) (sc := defScope s__law_drawn_type) (by decide +kernel)) (fun _ _ _ _ _ => (pg_name (i := 5) SC.nd rfl (Or.inl rfl))) (fun _ _ _ _ _ => pts_nil) (fun _ _ _ _ _ => (pe_call G (hr.mono (by omega)) rfl F.d__law_drawn_type.gl F.d__law_drawn_type.fn.kp B .nil pass0 (pa_cons (pv 0) (pa_cons (pv 1) (pa_cons (pe_op op_sub (pv 2) pe_int) pa_nil)))))) pa_nil))))))))), ?_⟩
  obtain ⟨⟨op, hpo⟩, ⟨oc, hco⟩, hcp⟩ := hP.at_
  have c2 := cT_pos d
  refine ⟨_, rfl, p, lc, _, n, rfl, hP, by omega, by decide, by decide, fun r H1 hr0 hr1 hP1 hk1 => ?_⟩
  have kp1 : Kp p H H1 := fun b o nb e => (hk1 b nb).trans e
  have occ1 := kp1.occ hP1
  refine drawn_test rfl rfl ?_
  refine ite2 (fun c => ?_) (fun c => ?_)
  · refine ⟨_, rfl, _, rfl, p, lc, m, n + 1, rfl, hP1, by omega, hm0, hm1, fun i H2 hi0 hi1 hP2 hk2 => ⟨_, rfl, fun t ht => ?_⟩⟩
    have kp2 : Kp p H H2 := fun b o nb e => (hk2 b nb).trans (kp1 b o nb e)
    have st := same_new ht (.tup [.str "unknown", .int i])
    have hti : (Ty.unk i.toNat).toD = .tuple [.str "unknown", .int i] := by
      show PyData.tuple [.str "unknown", .int ((i.toNat : Nat) : Int)] = _
      rw [Int.toNat_of_nonneg hi0]
    refine q (.ref t) (.unk i.toNat) _ ?_ rfl (Nat.zero_le _) (sT_pos d) (fun n hn => by
      obtain rfl : n = i.toNat := List.mem_singleton.mp hn
      omega) ((hP2.ex (fun o e => st _ _ e) fun o e => st _ _ e).mono (by omega)) fun b o nb e => st _ _ (kp2 b o nb e)
    rw [hti]
    refine .tup (SqT.of (xs := [.str "unknown", .int i]) ?_) (.cons (.str _) (.cons (.int _) .nil))
    rw [newH_of (kp2.occ hP2 t ht)]
    exact upd_same
  have hd0 : d = 0 → r ≤ 3 := fun z => by
    have : ¬ (((d : Int) = 0 ∧ 3 < r) ∨ r < 2) := fun y => c (decide_eq_true y)
    omega
  obtain ⟨⟨op1, hpo1⟩, ⟨oc1, hco1⟩, _⟩ := hP1.at_
  refine ⟨_, rfl, _, _, rfl, rfl, _, rfl, ?_⟩
  refine ite2 (fun c4 => ?_) (fun c4 => ?_)
  · refine ⟨_, rfl, small _ (by show 2 ≤ 100000; decide), fun l hl => ?_⟩
    have sl := same_new hl (.lst [.str "num", .str "flag"])
    have hpl : p ≠ l := ne_of_none hpo1 hl
    refine ⟨p, lc, l, _, n + 1, rfl, hP1.ex (fun o e => sl _ _ e) (fun o e => sl _ _ e), by omega, SqL.of upd_same, hpl.symm, (fun z => by cases z), (by decide), fun x H2 hx hP2 hk2 => ⟨small _ (by show 0 ≤ 100000; decide), fun e he => ⟨_, _, rfl, fun t ht => ?_⟩⟩⟩
    have kp2 : Kp p H H2 := fun b o nb e => (hk2 b nb).trans (sl _ _ (kp1 b o nb e))
    have s1 := same_new he (.lst [])
    have s2 := same_new ht (.tup [.str "kind", x, .ref e])
    have s12 := s1.trans s2
    obtain ⟨kw, rfl, hkw⟩ : ∃ kw : Str, x = .str kw ∧ kindD (.str kw) = true := by
      simp only [List.mem_cons, List.not_mem_nil, or_false] at hx
      rcases hx with rfl | rfl
      · exact ⟨_, rfl, by decide +kernel⟩
      · exact ⟨_, rfl, by decide +kernel⟩
    have occ2 := kp2.occ hP2
    refine q (.ref t) (.kind kw []) _ ?_ ?_ ?_ (sT_pos d) (fun n hn => by
      have hn' : n ∈ ([] : List Nat) := hn
      cases hn') ((hP2.ex (fun o e => s12 _ _ e) fun o e => s12 _ _ e).mono (by omega)) fun b o nb e => s12 _ _ (kp2 b o nb e)
    · refine .tup (SqT.of (xs := [.str "kind", .str kw, .ref e]) ?_) (.cons (.str _) (.cons (.str _) (.cons (.lst (xs := []) (SqL.of ?_) .nil) .nil)))
      · rw [newH_of (occ2 t (s1.free ht))]
        exact upd_same
      · rw [newH_of (occ2 e he)]
        exact s2 _ _ upd_same
    · simp only [Ty.ok, hkw, Ty.oks]
      decide
    · simp only [Ty.deep, Ty.deeps]
      omega
  obtain ⟨d', rfl⟩ : ∃ d', d = d' + 1 := by
    cases d with
    | zero => exact absurd (decide_eq_true (by have := hd0 rfl; omega)) c4
    | succ d' => exact ⟨d', rfl⟩
  have hcT : cT (d' + 1) = 2 + 2 * cT d' := rfl
  have hsT : sT (d' + 1) = 1 + 2 * sT d' := rfl
  refine ⟨_, rfl, small _ (by show 4 ≤ 100000; decide), fun l hl => ?_⟩
  have sl := same_new hl (.lst [.str "fun", .str "fun", .str "pair", .str "list"])
  have hpl : p ≠ l := ne_of_none hpo1 hl
  refine ⟨p, lc, l, _, n + 1, rfl, hP1.ex (fun o e => sl _ _ e) (fun o e => sl _ _ e), by omega, SqL.of upd_same, hpl.symm, (fun z => by cases z), (by decide), fun x H2 hx hP2 hk2 => ?_⟩
  have kp2 : Kp p H H2 := fun b o nb e => (hk2 b nb).trans (sl _ _ (kp1 b o nb e))
  obtain ⟨kw, rfl, hkw⟩ : ∃ kw : Str, x = .str kw ∧ kindD (.str kw) = true := by
    simp only [List.mem_cons, List.not_mem_nil, or_false] at hx
    rcases hx with rfl | rfl | rfl | rfl
    · exact ⟨_, rfl, by decide +kernel⟩
    · exact ⟨_, rfl, by decide +kernel⟩
    · exact ⟨_, rfl, by decide +kernel⟩
    · exact ⟨_, rfl, by decide +kernel⟩
  obtain ⟨⟨op2, hpo2⟩, ⟨oc2, hco2⟩, _⟩ := hP2.at_
  have occ2 := kp2.occ hP2
  refine ⟨_, rfl, ?_⟩
  refine ⟨_, rfl, rfl, _, rfl, ?_⟩
  refine ite2 (fun _ => ⟨1, rfl, by decide, by decide, fun D hD => ?_⟩) (fun _ => ⟨2, rfl, by decide, by decide, fun D hD => ?_⟩)
  all_goals
    have hPD : p ≠ D := ne_of_none hpo2 hD
    have hcD : lc ≠ D := ne_of_none hco2 hD
    refine lc_range (fun i G => i ≤ 2 ∧ ∃ acc ts, G D = some (.lst acc) ∧ DxAll K (newH (upd H2 D (.lst [])) G) acc (Ty.toDs ts) ∧ Ty.oks ts = true ∧ ts.length = i ∧ Ty.deeps ts ≤ d' + 1 ∧ Ty.sizes ts ≤ i * sT d' ∧ (∀ n ∈ (Ty.partss ts).filterMap unkN, (n : Int) < m) ∧ Purse G p lc (n + 2 + i * cT d') ∧ ∀ b o, b ≠ p → b ≠ D → H2 b = some o → G b = some o)
      ⟨Nat.zero_le _, [], [], upd_same, .nil, rfl, rfl, Nat.zero_le _, Nat.zero_le _, fun n hn => (by
        have hn' : n ∈ ([] : List Nat) := hn
        cases hn'), by
        rw [Nat.zero_mul]
        exact hP2.ex (fun o e => by rw [upd_ne hPD]; exact e) (fun o e => by rw [upd_ne hcD]; exact e), fun b o _ hb e => by rw [upd_ne hb]; exact e⟩ ?_ ?_
    · rintro i G hi ⟨hi2, acc, ts, y1, y2, y3, y4, y5, y6, y9, y7, y8⟩
      have hi1 : i ≤ 1 := by
        have : i < 2 := Nat.lt_of_lt_of_le hi (by decide)
        omega
      have hic : i * cT d' ≤ 1 * cT d' := Nat.mul_le_mul_right _ hi1
      have c2' := cT_pos d'
      refine ⟨rfl, _, rfl, _, rfl, _, rfl, _, _, rfl, rfl, p, lc, m, n + 2 + i * cT d', ?_, y7, by omega, hm0, hm1, fun x t G2 hx hok hdeep hsize hnum hP3 hk3 => ?_⟩
      · show [V.ref p, V.int m, V.int (((d' + 1 : Nat) : Int) - 1)] ++ [] = _
        rw [show (((d' + 1 : Nat) : Int) - 1) = (d' : Int) by omega]
        rfl
      have occG : ∀ b, G b = none → upd H2 D (.lst []) b = none := fun b e => by
        have nD : b ≠ D := fun z => by
          rw [z, y1] at e
          cases e
        have np : b ≠ p := fun z => by
          obtain ⟨⟨o, zz⟩, _, _⟩ := y7.at_
          rw [z, zz] at e
          cases e
        rw [upd_ne nD]
        cases q2 : H2 b with
        | none => rfl
        | some o =>
          rw [y8 b o np nD q2] at e
          cases e
      have nDof : ∀ {b : Addr}, upd H2 D (.lst []) b = none → b ≠ D ∧ b ≠ p := fun {b} e => by
        refine ⟨fun z => ?_, fun z => ?_⟩
        · rw [z, upd_same] at e
          cases e
        · rw [z, upd_ne hPD, hpo2] at e
          cases e
      have hal := y2.length
      rw [toDs_map, List.length_map] at hal
      refine ⟨acc, hk3 _ _ hPD.symm y1, Nat.lt_of_le_of_lt (show acc.length ≤ 100 by omega) (by decide), by omega, acc ++ [x], ts ++ [t], upd_same, ?_, ?_, by rw [List.length_append, y4]; rfl, ?_, ?_, ?_, ?_, fun b o hb hbD e => ?_⟩
      · rw [toDs_append]
        refine .append (y2.mono (newH_mono (fun _ e => e) fun b o e e2 => ?_)) (.cons (hx.mono (newH_mono occG fun b o e e2 => ?_)) .nil)
        · rw [upd_ne (nDof e).1]
          exact hk3 b o (nDof e).2 e2
        · rw [upd_ne (nDof (occG b e)).1]
          exact e2
      · rw [oks_append, y3]
        simp [Ty.oks, hok]
      · rw [deeps_append]
        simp only [Ty.deeps]
        omega
      · rw [sizes_append, Nat.succ_mul]
        simp only [Ty.sizes]
        omega
      · intro n hn
        rw [partss_append, List.filterMap_append] at hn
        rcases List.mem_append.mp hn with hn | hn
        · exact y9 n hn
        · refine hnum n ?_
          have e : Ty.partss [t] = t.parts := by rw [Ty.partss, Ty.partss, List.append_nil]
          rw [e] at hn
          exact hn
      · refine (hP3.ex (fun o e => ?_) fun o e => ?_).mono (by rw [Nat.succ_mul]; omega)
        · rw [upd_ne hPD]
          exact e
        · rw [upd_ne hcD]
          exact e
      · rw [upd_ne hbD]
        exact hk3 b o hb (y8 b o hb hbD e)
    · rintro G ⟨hi2, acc, ts, y1, y2, y3, y4, y5, y6, y9, y7, y8⟩
      refine ⟨_, _, rfl, fun t ht => ?_⟩
      have st := same_new ht (.tup [.str "kind", .str kw, .ref D])
      have hDH : H D = none := occ2 D hD
      have kpG : Kp p H G := fun b o nb e => y8 b o nb (ne_of_none e hDH) (kp2 b o nb e)
      have occG : ∀ b, G b = none → H b = none := kpG.occ y7
      have hmul := Nat.mul_le_mul_right (cT d') hi2
      have hmul2 := Nat.mul_le_mul_right (sT d') hi2
      refine q (.ref t) (.kind kw ts) _ ?_ ?_ ?_ ?_ y9 ((y7.ex (fun o e => st _ _ e) fun o e => st _ _ e).mono (by omega)) fun b o nb e => st _ _ (kpG b o nb e)
      · refine .tup (SqT.of (xs := [.str "kind", .str kw, .ref D]) ?_) (.cons (.str _) (.cons (.str _) (.cons (.lst (xs := acc) (SqL.of ?_) ?_) .nil)))
        · rw [newH_of (occG t ht)]
          exact upd_same
        · rw [newH_of hDH]
          exact st _ _ y1
        · refine y2.mono (newH_mono (fun b e => ?_) fun b o e e2 => st _ _ e2)
          have nD : b ≠ D := fun z => by
            rw [z, upd_same] at e
            cases e
          rw [upd_ne nD] at e
          exact occ2 b e
      · simp only [Ty.ok, hkw, y3, Bool.true_and, Bool.and_true, decide_eq_true_eq]
        omega
      · simp only [Ty.deep]
        omega
      · simp only [Ty.size]
        omega
theorem ok_no3 {k : Nat} {f : Addr} {fd : FuncData} {ps : List Str} : FnOk P w K mg base CX0 k f fd ps (fun _ _ _ _ => False) := ⟨fun _ _ _ _ h => h.elim, fun _ _ _ _ _ _ _ _ _ _ _ _ _ h => h.elim⟩
theorem ok_drawn (F : Fs K mg) (T : Txt K mg) (Z : Exs P K mg) : ∀ d, FnOk P w K mg base CX0 (d + 4) F.f__law_drawn_type F.fd__law_drawn_type ["purse", "many", "deep"] (spDrawn K d)
  | 0 => drawn_step F T Z (k := 0) ok_no3
  | d + 1 => drawn_step F T Z (k := d + 1) (ok_drawn F T Z d)
end
end K21

set_option Elab.async false
set_option linter.all false
set_option maxRecDepth 100000
set_option maxHeartbeats 1000000
namespace K21
open PySem PySem.Spec L2 Wy
section
variable {P : Program} {w : World} {K : PySem.W.Frag} {mg : Str → Option Value} {base : Heap}
theorem sc_law_put : FnScope ["one", "table", "part"] ["one", "table"] (defScope s__law_put) := ⟨rfl, rfl, rfl, by decide +kernel, rfl, by decide +kernel, by decide +kernel⟩
theorem lput_step (F : Fs K mg) (T : Txt K mg) (Z : Exs P K mg) {n k : Nat} (G : FnOk P w K mg base CX0 (k + 1) F.f__law_put F.fd__law_put ["one", "table"] (spPutB K n)) : FnOk P w K mg base CX0 (k + 2) F.f__law_put F.fd__law_put ["one", "table"] (spPut K n) := by
  have SC := sc_law_put
  have G__law_kind : FnOk P w K mg base CX0 1 F.f__law_kind F.fd__law_kind ["name", "types"] spKindL := ok__law_kind F T Z
  have B__law_kind : Binds K F.fd__law_kind ["name", "types"] [] := F.d__law_kind.fn.bindsN fun _ _ _ _ _ _ us hl => match us, hl with | [_, _], _ => rfl
  have B : Binds K F.fd__law_put ["one", "table"] [] := F.d__law_put.fn.bindsN fun _ _ _ _ _ _ us hl => match us, hl with | [_, _], _ => rfl
  refine F.d__law_put.fn.ok sc_law_put (fun vs H Q E h => ?_) (fun cdv A outer s H vs Q E hr h => ?_)
  · obtain ⟨v, t, tb, kvs, f, Fh, rfl, _⟩ := h
    rfl
  obtain ⟨v, t, tb, kvs, f, Fh, rfl, hd, sF, ok, hdeep, htb, hT, q⟩ := h
  have hu1 := hu_of hr
  refine ⟨_, PSs.nox (pss_cons (ps_if (pt_cmpR op_eq (pe_ix ix_tup (pv 0) pe_int (fun _ _ => rfl)) pe_str (nomark _)) (pss_one (ps_ret (pe_ifExp (pt_cmp (pc_din hu1 (pe_ix ix_tup (pv 0) pe_int (fun _ _ => rfl)) (pv 1))) (pe_dget hu1 (pv 1) (pe_ix ix_tup (pv 0) pe_int (fun _ _ => rfl)) (fun _ _ => rfl)) (pv 0)))) pss_nil)
    (pss_one (ps_ret (pe_call G__law_kind (hr.mono (by omega)) rfl F.d__law_kind.gl F.d__law_kind.fn.kp B__law_kind .nil pass0 (pa_cons (pe_ix ix_tup (pv 0) pe_int (fun _ _ => rfl)) (pa_cons (pe_lc (own := [("part", 2)]) (g := (gName 2)) (by rfl) SC.nd (pi_list (pe_ix ix_tup (pv 0) pe_int (fun _ _ => rfl))) (blkOk_by (own := [("part", 2)]) (N := ["one", "table", "part"]) (sc := defScope s__law_put) (by decide +kernel)) (fun _ _ _ _ _ => (pg_name (i := 2) SC.nd rfl (Or.inl rfl))) (fun _ _ _ _ _ => pts_nil) (fun _ _ _ _ _ => (pe_call G (hr.mono (by omega)) rfl F.d__law_put.gl F.d__law_put.fn.kp B .nil pass0 (pa_cons (pv 2) (pa_cons (pv 1) pa_nil))))) pa_nil)))))), ?_⟩
  cases t with
  | unk m =>
    obtain ⟨p, xs, rfl, hq, hall⟩ := (show Dx K Fh v (.tuple [.str "unknown", .int (m : Int)]) from hd).tup_inv
    obtain ⟨x0, e0, h0⟩ := hall.get' (i := 0) rfl
    obtain ⟨x1, e1, h1⟩ := hall.get' (i := 1) rfl
    obtain rfl := h0.str_inv
    cases h1
    have hq' := same_seqT sF hq
    refine ⟨_, rfl, p, xs, 0, _, rfl, rfl, hq', at_of (j := 0) rfl e0, rfl, _, rfl, ?_⟩
    refine ite2 (fun _ => ?_) (fun c => absurd (decide_eq_true rfl) c)
    refine ⟨_, rfl, p, xs, 1, _, rfl, rfl, hq', at_of (j := 1) rfl e1, _, rfl, tb, _, rfl, DGet.k (k := Sum.inl (m : Int)) htb, _, rfl, ?_⟩
    have hm := hT m
    cases hv : valV kvs (Sum.inl (m : Int)) with
    | none =>
      rw [hv] at hm
      refine ⟨_, rfl, ?_⟩
      refine q _ [] H same_refl ?_ (fun a z => by cases z)
      have e : (Ty.unk m).put f = .unk m := by
        rw [Ty.put, show f m = none from hm]
        rfl
      rw [e]
      exact tr_unk hq' hall
    | some x =>
      rw [hv] at hm
      obtain ⟨u, hfu, hx⟩ := hm
      refine ⟨_, rfl, _, rfl, p, xs, 1, _, rfl, rfl, hq', at_of (j := 1) rfl e1, tb, x, rfl, (by rw [← hv]; exact DGet.k (k := Sum.inl (m : Int)) htb), ?_⟩
      refine q x [] H same_refl ?_ (fun a z => by cases z)
      have e : ((Ty.unk m).put f).toD = u.toD := by
        rw [Ty.put, hfu]
        rfl
      rw [e]
      exact .sh ⟨m, u, hfu, rfl, hx⟩
  | kind kw ts =>
    obtain ⟨p, xs, rfl, hq, hall⟩ := (show Dx K Fh v (.tuple [.str "kind", .str kw, .list (Ty.toDs ts)]) from hd).tup_inv
    obtain ⟨x0, e0, h0⟩ := hall.get' (i := 0) rfl
    obtain ⟨x1, e1, h1⟩ := hall.get' (i := 1) rfl
    obtain ⟨x2, e2, h2⟩ := hall.get' (i := 2) rfl
    obtain rfl := h0.str_inv
    obtain rfl := h1.str_inv
    obtain ⟨b, ys, rfl, hqb, hab⟩ := h2.lst_inv
    have hq' := same_seqT sF hq
    have hyl := hab.length
    rw [toDs_map, List.length_map] at hyl
    have h3 : ts.length ≤ 3 := sides_three (t := .kind kw ts) ok
    refine ⟨_, rfl, p, xs, 0, _, rfl, rfl, hq', at_of (j := 0) rfl e0, rfl, _, rfl, ?_⟩
    refine ite2 (fun c => absurd (V.str.inj (of_decide_eq_true c)) (by decide)) (fun _ => ?_)
    refine ⟨_, rfl, p, xs, 1, _, rfl, rfl, hq', at_of (j := 1) rfl e1, ?_⟩
    refine ⟨_, rfl, p, xs, 2, _, rfl, rfl, hq', at_of (j := 2) rfl e2, b, rfl, ⟨ys, sF.seq hqb⟩, fun D hD => ?_⟩
    refine lc_list (xs := ys) (fun i H' => Same H H' ∧ ∃ acc S, H' D = some (.lst acc) ∧ TrAll K (ShOf K Fh f) (outA H' D) acc (Ty.toDs ((ts.take i).map (Ty.put f))) S ∧ (∀ a ∈ S, H a = none) ∧ D ∉ S ∧ ∀ a ∈ S, H' a ≠ none) ⟨same_new hD _, [], [], upd_same, .nil, fun _ z => (by cases z), (by simp), fun _ z => (by cases z)⟩ ?_ ?_ ?_
    · rintro i H' _ ⟨z, _⟩
      exact z.seq (sF.seq hqb)
    · rintro i y H' hi ⟨z1, acc, S, z2, z3, z4, z5, z6⟩
      obtain ⟨d, hd1, hy⟩ := hab.get hi
      rw [toDs_map, List.getElem?_map] at hd1
      obtain ⟨u, hu1, rfl⟩ := Option.map_eq_some_iff.mp hd1
      have hum := List.mem_of_getElem? hu1
      have hul := (List.getElem?_eq_some_iff.mp hu1).1
      have huok : u.ok = true := oks_mem (oks_sides (t := .kind kw ts) ok) u hum
      obtain ⟨n', rfl⟩ : ∃ n', n = n' + 1 := ⟨n - 1, by
        simp only [Ty.deep] at hdeep
        omega⟩
      have hud : u.deep ≤ n' := by
        have := deep_mem hum
        simp only [Ty.deep] at hdeep
        omega
      refine ⟨rfl, _, rfl, _, rfl, y, u, tb, kvs, f, Fh, rfl, hy, sF.trans z1, huok, hud, z1 _ _ htb, hT, fun x S2 G2 s2 hx hf2 => ?_⟩
      have hal := z3.length
      rw [toDs_map, List.length_map, List.length_map, List.length_take] at hal
      refine ⟨acc, s2 _ _ z2, Nat.lt_of_le_of_lt (show acc.length ≤ 100 by omega) (by decide), fun a o e => ?_, acc ++ [x], S ++ S2, upd_same, ?_, fun a ha => ?_, fun ha => ?_, fun a ha => ?_⟩
      · rw [upd_ne (ne_of_none e hD)]
        exact s2 _ _ (z1 _ _ e)
      · have eT : (ts.take (i + 1)).map (Ty.put f) = (ts.take i).map (Ty.put f) ++ [u.put f] := by
          rw [List.take_add_one, hu1, List.map_append]
          rfl
        rw [eT, toDs_append]
        have eo : outA (upd G2 D (.lst (acc ++ [x]))) D = outA G2 D := outA_eq fun c hc => upd_ne hc
        rw [eo]
        have DS2 : D ∉ S2 := fun z => by
          have := hf2 D z
          rw [z2] at this
          cases this
        refine TrAll.snoc (z3.mono (outA_same fun c o _ e => s2 c o e)) (Tr.out (s2 _ _ z2) hx DS2) fun a ha z => ?_
        exact z6 a ha (hf2 a z)
      · rcases List.mem_append.mp ha with ha | ha
        · exact z4 a ha
        · exact z1.free (hf2 a ha)
      · rcases List.mem_append.mp ha with ha | ha
        · exact z5 ha
        · have := hf2 D ha
          rw [z2] at this
          cases this
      · by_cases haD : a = D
        · rw [haD, upd_same]
          exact fun z => by cases z
        rw [upd_ne haD]
        rcases List.mem_append.mp ha with ha | ha
        · cases e : H' a with
          | none => exact absurd e (z6 a ha)
          | some o =>
            rw [s2 _ _ e]
            exact fun z => by cases z
        · obtain ⟨l, e⟩ := Tr.there hx a ha
          rw [e]
          exact fun z => by cases z
    · rintro H' ⟨z1, acc, S, z2, z3, z4, z5, z6⟩
      rw [hyl, List.take_length] at z3
      refine ⟨_, _, rfl, fun p' hp' => ?_⟩
      have sp := same_new hp' (.tup [.str "kind", .str kw, .ref D])
      refine q (.ref p') (D :: S) _ (z1.trans sp) ?_ fun a ha => ?_
      · have e : (Ty.kind kw ts).put f = .kind kw (ts.map (Ty.put f)) := by
          rw [Ty.put, puts_map]
        rw [e]
        exact tr_kind upd_same (sp _ _ z2) (z3.mono (outA_sub.trans sp)) z5
      · rcases List.mem_cons.mp ha with rfl | ha
        · exact hD
        · exact z4 a ha
theorem ok_law_put (F : Fs K mg) (T : Txt K mg) (Z : Exs P K mg) : ∀ n, FnOk P w K mg base CX0 (n + 2) F.f__law_put F.fd__law_put ["one", "table"] (spPut K n)
  | 0 => lput_step F T Z (k := 0) ok_no
  | n + 1 => lput_step F T Z (k := n + 1) (ok_law_put F T Z n)
end
end K21

set_option Elab.async false
set_option linter.all false
set_option maxRecDepth 100000
set_option maxHeartbeats 1000000
namespace K21
open PySem PySem.Spec L2 Wy RZ
section
variable {P : Program} {w : World} {K : PySem.W.Frag} {mg : Str → Option Value} {base : Heap}
def spSame (K : PySem.W.Frag) (n : Nat) : Sp := fun vs H Q _ => ∃ (v u : V) (d : PyData), vs = [v, u] ∧ Dx K H v d ∧ Dx K H u d ∧ okd n d = true ∧ ∀ H', Same H H' → Q (.bl true) H'
def spSameB (K : PySem.W.Frag) : Nat → Sp
  | 0 => fun _ _ _ _ => False
  | n + 1 => spSame K n
theorem sc_same : FnScope ["told", "due", "alike", "one", "other"] ["told", "due"] (defScope s__law_same) := ⟨rfl, rfl, rfl, by decide +kernel, rfl, by decide +kernel, by decide +kernel⟩
theorem same_step (F : Fs K mg) (T : Txt K mg) {n k : Nat} (G : FnOk P w K mg base CX0 (k + 1) F.f__law_same F.fd__law_same ["told", "due"] (spSameB K n)) : FnOk P w K mg base CX0 (k + 2) F.f__law_same F.fd__law_same ["told", "due"] (spSame K n) := by
  have SC := sc_same
  have B : Binds K F.fd__law_same ["told", "due"] [] := F.d__law_same.fn.bindsN fun _ _ _ _ _ _ us hl => match us, hl with | [_, _], _ => rfl
  refine F.d__law_same.fn.ok sc_same (fun vs H Q E h => ?_) (fun cdv A outer s H vs Q E hr h => ?_)
  · obtain ⟨v, u, d, rfl, _⟩ := h
    rfl
  obtain ⟨v, u, d, rfl, hv, hu, hok, q⟩ := h
  refine ⟨_, PSs.nox (pss_cons (ps_if (pt_cmpR op_isN (pv 1) pe_non (nomark _)) (pss_one (ps_ret (pe_cmpR op_isN (pv 0) pe_non (nomark _)))) pss_nil)
    (pss_cons (ps_if (pt_cmpR op_isBD (pv 1) pe_bl (nomark _)) (pss_one (ps_ret (pe_cmpR op_isBD (pv 0) pe_bl (nomark _)))) pss_nil)
    (pss_cons (ps_if (pt_cmpR op_isBD (pv 1) pe_bl (nomark _)) (pss_one (ps_ret (pe_cmpR op_isBD (pv 0) pe_bl (nomark _)))) pss_nil)
    (pss_cons (ps_if (pt_val (pe_callB call_isiT (by rfl) T.n_isinstance (by decide +kernel) (pa_cons (pv 1) (pa_cons (pe_tup (pa_cons (pe_bltn (v := .ty "list") (by rfl) T.n_list (by decide +kernel) rfl) (pa_cons (pe_bltn (v := .ty "tuple") (by rfl) T.n_tuple (by decide +kernel) rfl) pa_nil))) pa_nil)))) (pss_cons (ps_set (i := 2) SC.nd rfl (Or.inl rfl) (pe_ifExp (pt_val (pe_callB call_isD (by rfl) T.n_isinstance (by decide +kernel) (pa_cons (pv 1) (pa_cons (pe_bltn (v := .ty "list") (by rfl) T.n_list (by decide +kernel) rfl) pa_nil)))) (pe_callB call_isD (by rfl) T.n_isinstance (by decide +kernel) (pa_cons (pv 0) (pa_cons (pe_bltn (v := .ty "list") (by rfl) T.n_list (by decide +kernel) rfl) pa_nil))) (pe_callB call_isD (by rfl) T.n_isinstance (by decide +kernel) (pa_cons (pv 0) (pa_cons (pe_bltn (v := .ty "tuple") (by rfl) T.n_tuple (by decide +kernel) rfl) pa_nil)))))
    (pss_one (ps_ret (pe_and (pv 2) (pe_and (pe_cmpR op_eq (pe_callB call_len (by rfl) T.n_len (by decide +kernel) (pa_cons (pv 0) pa_nil)) (pe_callB call_len (by rfl) T.n_len (by decide +kernel) (pa_cons (pv 1) pa_nil)) (nomark _)) (pe_one (pe_callB (cr_all rfl) (by rfl) T.n_all (by decide +kernel) (pa_cons (pe_lc (own := [("one", 3), ("other", 4)]) (g := gTup K 2 (gCons (gName 3) (gCons (gName 4) gNil))) (by rfl) SC.nd (pi_zipA rfl T.n_zip (pa_cons (pv 0) (pa_cons (pv 1) pa_nil))) (blkOk_by (own := [("one", 3), ("other", 4)]) (N := ["told", "due", "alike", "one", "other"]) (sc := defScope s__law_same) (by decide +kernel)) (fun _ _ _ _ _ => (pg_tup (by rfl) (pgs_cons (pg_name (i := 3) SC.nd rfl (Or.inl rfl)) (pgs_cons (pg_name (i := 4) SC.nd rfl (Or.inl rfl)) pgs_nil)))) (fun _ _ _ _ _ => pts_nil) (fun _ _ _ _ _ => (pe_call G (hr.mono (by omega)) rfl F.d__law_same.gl F.d__law_same.fn.kp B .nil pass0 (pa_cons (pv 3) (pa_cons (pv 4) pa_nil))))) pa_nil)))))))) pss_nil)
    (pss_cons (ps_if (pt_val (pe_callB call_isD (by rfl) T.n_isinstance (by decide +kernel) (pa_cons (pv 1) (pa_cons (pe_bltn (v := .ty "int") (by rfl) T.n_int (by decide +kernel) rfl) pa_nil)))) (pss_one (ps_ret (pe_and (pe_callB call_isD (by rfl) T.n_isinstance (by decide +kernel) (pa_cons (pv 0) (pa_cons (pe_bltn (v := .ty "int") (by rfl) T.n_int (by decide +kernel) rfl) pa_nil))) (pe_and (pe_not (pe_callB call_isD (by rfl) T.n_isinstance (by decide +kernel) (pa_cons (pv 0) (pa_cons (pe_bltn (v := .ty "bool") (by rfl) T.n_bool (by decide +kernel) rfl) pa_nil)))) (pe_one (pe_cmpR op_eq (pv 0) (pv 1) (nomark _))))))) pss_nil)
    (pss_one (ps_ret (pe_and (pe_callB call_isD (by rfl) T.n_isinstance (by decide +kernel) (pa_cons (pv 0) (pa_cons (pe_bltn (v := .ty "str") (by rfl) T.n_str (by decide +kernel) rfl) pa_nil))) (pe_one (pe_cmpR op_eq (pv 0) (pv 1) (nomark _))))))))))), ?_⟩
  refine ⟨_, rfl, rfl, _, rfl, ?_⟩
  have nn : d ≠ .none → u ≠ .non := fun hd z => hd (by
    subst z
    cases hu
    rfl)
  refine ite2 (fun c => ?_) (fun c => ?_)
  · obtain rfl : u = .non := of_decide_eq_true c
    cases hu
    cases hv
    exact ⟨_, rfl, rfl, q H same_refl⟩
  have hdn : d ≠ .none := fun z => c (decide_eq_true (by
    subst z
    cases hu
    rfl))
  refine ⟨_, rfl, d, true, hu, rfl, _, rfl, ?_⟩
  refine ite2 (fun c1 => ?_) (fun c1 => ?_)
  · match d, c1, hu, hv with
    | .bool b, c1, hu, hv =>
      obtain rfl : b = true := by simpa [isBoolD] using c1
      exact ⟨_, rfl, _, true, hv, rfl, q H same_refl⟩
  refine ⟨_, rfl, d, false, hu, rfl, _, rfl, ?_⟩
  refine ite2 (fun c2 => ?_) (fun c2 => ?_)
  · match d, c2, hu, hv with
    | .bool b, c2, hu, hv =>
      obtain rfl : b = false := by simpa [isBoolD] using c2
      exact ⟨_, rfl, _, false, hv, rfl, q H same_refl⟩
  refine ⟨_, rfl, small _ (by show 2 ≤ 100000; decide), fun t ht => ?_⟩
  have st := same_new ht (.tup [.ty "list", .ty "tuple"])
  refine ⟨u, t, [.ty "list", .ty "tuple"], _, [.type "list", .type "tuple"], isSeqD d, rfl, upd_same, .cons (.ty _) (.cons (.ty _) .nil), (hu.mono st).tyx, kit_seq d, _, rfl, ?_⟩
  have hv := hv.mono st
  have hu := hu.mono st
  replace q : ∀ H', Same (upd H t (.tup [.ty "list", .ty "tuple"])) H' → Q (.bl true) H' := fun H' s => q H' (st.trans s)
  generalize upd H t _ = Gh at hv hu q ⊢
  cases d with
  | none => exact absurd rfl hdn
  | bool b => cases b with
    | true => exact absurd rfl c1
    | false => exact absurd rfl c2
  | dict es => cases n <;> cases hok
  | int i =>
    refine ite2 (fun c => by cases c) (fun _ => ?_)
    refine ⟨_, rfl, u, _, _, rfl, hu, by decide, _, rfl, ?_⟩
    refine ite2 (fun _ => ?_) (fun c => absurd rfl c)
    refine ⟨_, rfl, v, _, _, rfl, hv, by decide, _, rfl, ?_⟩
    refine ite2 (fun _ => ?_) (fun c => absurd rfl c)
    refine ⟨_, rfl, v, _, _, rfl, hv, by decide, _, rfl, _, rfl, ?_⟩
    refine ite2 (fun _ => ?_) (fun c => absurd rfl c)
    cases hv
    cases hu
    refine ⟨_, rfl, _, rfl, rfl, ?_⟩
    rw [decide_eq_true rfl]
    exact q Gh same_refl
  | str x =>
    refine ite2 (fun c => by cases c) (fun _ => ?_)
    refine ⟨_, rfl, u, _, _, rfl, hu, by decide, _, rfl, ?_⟩
    refine ite2 (fun c => by cases c) (fun _ => ?_)
    refine ⟨_, rfl, v, _, _, rfl, hv, by decide, _, rfl, ?_⟩
    refine ite2 (fun _ => ?_) (fun c => absurd rfl c)
    cases hv
    cases hu
    refine ⟨_, rfl, _, rfl, rfl, ?_⟩
    rw [decide_eq_true rfl]
    exact q Gh same_refl
  | list ds =>
    obtain ⟨a, xs, rfl, hxs, hxa⟩ := hv.lst_inv
    obtain ⟨b, ys, rfl, hys, hya⟩ := hu.lst_inv
    obtain ⟨n', rfl, _, hdl, hall⟩ := okd_seq hok
    have hxl := hxa.length
    have hyl := hya.length
    refine ite2 (fun _ => ?_) (fun c => absurd rfl c)
    refine ⟨_, rfl, _, _, _, rfl, hu, by decide, _, rfl, ?_⟩
    refine ite2 (fun _ => ?_) (fun c => absurd rfl c)
    refine ⟨_, rfl, _, _, _, rfl, hv, by decide, ?_⟩
    refine ⟨_, rfl, _, rfl, ?_⟩
    refine ite2 (fun _ => ?_) (fun c => absurd rfl c)
    refine ⟨_, rfl, _, _, rfl, .inl ⟨_, hxs, rfl⟩, _, rfl, _, _, rfl, .inl ⟨_, hys, rfl⟩, rfl, _, rfl, ?_⟩
    refine ite2 (fun _ => ?_) (fun c => absurd (decide_eq_true (by rw [hxl, hyl])) c)
    refine ⟨_, rfl, _, rfl, a, b, xs, ys, rfl, .inl ⟨hxs, hys, fun D hD => ?_⟩⟩
    refine lc_it (walk_zip (xs := xs) (ys := ys) rfl) (fun i H' => Same Gh H' ∧ H' D = some (.lst (List.replicate i (.bl true))) ∧ i ≤ 100000) ⟨same_new hD _, upd_same, Nat.zero_le _⟩ ?_ ?_ ?_
    · rintro i H' _ ⟨z1, _⟩
      exact ⟨z1.seq hxs, z1.seq hys⟩
    · rintro i y G0 G1 hi ⟨z1, z2, z3⟩ ⟨T0, x1, x2, rfl, hT0, rfl, e1, e2⟩
      obtain ⟨d1, hd1, hx1⟩ := hxa.get e1
      obtain ⟨d2, hd2, hx2⟩ := hya.get e2
      obtain rfl : d1 = d2 := Option.some.inj (hd1.symm.trans hd2)
      have sT := same_new hT0 (.tup [x1, x2])
      refine ⟨T0, _, rfl, SqT.of upd_same, rfl, _, _, rfl, _, _, rfl, rfl, rfl, ?_⟩
      refine ⟨_, rfl, _, rfl, x1, x2, d1, rfl, hx1.mono (z1.trans sT), hx2.mono (z1.trans sT), hall d1 (List.mem_of_getElem? hd1), fun H2 s2 => ?_⟩
      refine ⟨_, s2 _ _ (sT _ _ z2), ?_, fun p o e => ?_, ?_, ?_⟩
      · rw [List.length_replicate]
        exact Nat.lt_of_le_of_lt z3 (by decide)
      · rw [upd_ne (ne_of_none e hD)]
        exact s2 _ _ (sT _ _ (z1 _ _ e))
      · rw [upd_same, List.replicate_succ']
      · omega
    · rintro H2 ⟨z1, z2, _⟩
      refine ⟨D, List.replicate (min xs.length ys.length) true, rfl, SqL.of (by rw [z2, List.map_replicate]), ?_⟩
      rw [show (List.replicate (min xs.length ys.length) true).all id = true by simp]
      exact q H2 z1
  | tuple ds =>
    obtain ⟨a, xs, rfl, hxs, hxa⟩ := hv.tup_inv
    obtain ⟨b, ys, rfl, hys, hya⟩ := hu.tup_inv
    obtain ⟨n', rfl, hdl, hall⟩ := okd_tup hok
    have hxl := hxa.length
    have hyl := hya.length
    refine ite2 (fun _ => ?_) (fun c => absurd rfl c)
    refine ⟨_, rfl, _, _, _, rfl, hu, by decide, _, rfl, ?_⟩
    refine ite2 (fun c => by cases c) (fun _ => ?_)
    refine ⟨_, rfl, _, _, _, rfl, hv, by decide, ?_⟩
    refine ⟨_, rfl, _, rfl, ?_⟩
    refine ite2 (fun _ => ?_) (fun c => absurd rfl c)
    refine ⟨_, rfl, _, _, rfl, .inr ⟨_, hxs, rfl⟩, _, rfl, _, _, rfl, .inr ⟨_, hys, rfl⟩, rfl, _, rfl, ?_⟩
    refine ite2 (fun _ => ?_) (fun c => absurd (decide_eq_true (by rw [hxl, hyl])) c)
    refine ⟨_, rfl, _, rfl, a, b, xs, ys, rfl, .inr ⟨hxs, hys, fun D hD => ?_⟩⟩
    refine lc_it (walk_zipT (xs := xs) (ys := ys) rfl) (fun i H' => Same Gh H' ∧ H' D = some (.lst (List.replicate i (.bl true))) ∧ i ≤ 100000) ⟨same_new hD _, upd_same, Nat.zero_le _⟩ ?_ ?_ ?_
    · rintro i H' _ ⟨z1, _⟩
      exact ⟨same_seqT z1 hxs, same_seqT z1 hys⟩
    · rintro i y G0 G1 hi ⟨z1, z2, z3⟩ ⟨T0, x1, x2, rfl, hT0, rfl, e1, e2⟩
      obtain ⟨d1, hd1, hx1⟩ := hxa.get e1
      obtain ⟨d2, hd2, hx2⟩ := hya.get e2
      obtain rfl : d1 = d2 := Option.some.inj (hd1.symm.trans hd2)
      have sT := same_new hT0 (.tup [x1, x2])
      refine ⟨T0, _, rfl, SqT.of upd_same, rfl, _, _, rfl, _, _, rfl, rfl, rfl, ?_⟩
      refine ⟨_, rfl, _, rfl, x1, x2, d1, rfl, hx1.mono (z1.trans sT), hx2.mono (z1.trans sT), hall d1 (List.mem_of_getElem? hd1), fun H2 s2 => ?_⟩
      refine ⟨_, s2 _ _ (sT _ _ z2), ?_, fun p o e => ?_, ?_, ?_⟩
      · rw [List.length_replicate]
        exact Nat.lt_of_le_of_lt z3 (by decide)
      · rw [upd_ne (ne_of_none e hD)]
        exact s2 _ _ (sT _ _ (z1 _ _ e))
      · rw [upd_same, List.replicate_succ']
      · omega
    · rintro H2 ⟨z1, z2, _⟩
      refine ⟨D, List.replicate (min xs.length ys.length) true, rfl, SqL.of (by rw [z2, List.map_replicate]), ?_⟩
      rw [show (List.replicate (min xs.length ys.length) true).all id = true by simp]
      exact q H2 z1
theorem ok_noV {k : Nat} {f : Addr} {fd : FuncData} {ps : List Str} : FnOk P w K mg base CX0 k f fd ps (fun _ _ _ _ => False) := ⟨fun _ _ _ _ h => h.elim, fun _ _ _ _ _ _ _ _ _ _ _ _ _ h => h.elim⟩
theorem ok_same (F : Fs K mg) (T : Txt K mg) : ∀ n, FnOk P w K mg base CX0 (n + 2) F.f__law_same F.fd__law_same ["told", "due"] (spSame K n)
  | 0 => same_step F T (k := 0) ok_noV
  | n + 1 => same_step F T (k := n + 1) (ok_same F T n)
end
end K21

set_option Elab.async false
set_option linter.all false
set_option maxRecDepth 100000
set_option maxHeartbeats 1000000
namespace K21
open PySem PySem.Spec L2 Wy RZ
/-- all laid anew -/
def shNo : V → PyData → Prop := fun _ _ => False
section
variable {P : Program} {w : World} {K : PySem.W.Frag} {mg : Str → Option Value} {base : Heap}
def spMark (K : PySem.W.Frag) (n : Nat) : Sp := fun vs H Q _ => ∃ (v : V) (d : PyData) (S : List Addr), vs = [v] ∧ Tr K shNo H v d S ∧ okd n d = true ∧ ∀ H', Out S H H' → Q (.bl true) H'
def spMarkB (K : PySem.W.Frag) : Nat → Sp
  | 0 => fun _ _ _ _ => False
  | n + 1 => spMark K n
theorem sc_spoilt : FnScope ["told", "found", "part"] ["told"] (defScope s__law_spoilt) := ⟨rfl, rfl, rfl, by decide +kernel, rfl, by decide +kernel, by decide +kernel⟩
theorem mark_step (F : Fs K mg) (T : Txt K mg) {n k : Nat} (G : FnOk P w K mg base CX0 (k + 1) F.f__law_spoilt F.fd__law_spoilt ["told"] (spMarkB K n)) : FnOk P w K mg base CX0 (k + 2) F.f__law_spoilt F.fd__law_spoilt ["told"] (spMark K n) := by
  have SC := sc_spoilt
  have B : Binds K F.fd__law_spoilt ["told"] [] := F.d__law_spoilt.fn.bindsN fun _ _ _ _ _ _ us hl => match us, hl with | [_], _ => rfl
  refine F.d__law_spoilt.fn.ok sc_spoilt (fun vs H Q E h => ?_) (fun cdv A outer s H vs Q E hr h => ?_)
  · obtain ⟨v, d, S, rfl, _⟩ := h
    rfl
  obtain ⟨v, d, S, rfl, hv, hok, q⟩ := h
  have hu := hr.units
  refine ⟨_, PSs.nox (pss_cons (ps_if (pt_val (pe_callB call_isD (by rfl) T.n_isinstance (by decide +kernel) (pa_cons (pv 0) (pa_cons (pe_bltn (v := .ty "tuple") (by rfl) T.n_tuple (by decide +kernel) rfl) pa_nil)))) (pss_one (ps_ret (pe_callB (cr_all rfl) (by rfl) T.n_all (by decide +kernel) (pa_cons (pe_lc (own := [("part", 2)]) (g := (gName 2)) (by rfl) SC.nd (pi_tup (pv 0)) (blkOk_by (own := [("part", 2)]) (N := ["told", "found", "part"]) (sc := defScope s__law_spoilt) (by decide +kernel)) (fun _ _ _ _ _ => (pg_name (i := 2) SC.nd rfl (Or.inl rfl))) (fun _ _ _ _ _ => pts_nil) (fun _ _ _ _ _ => (pe_call G (hr.mono (by omega)) rfl F.d__law_spoilt.gl F.d__law_spoilt.fn.kp B .nil pass0 (pa_cons (pv 2) pa_nil)))) pa_nil)))) pss_nil)
    (pss_cons (ps_if (pt_not (pt_val (pe_callB call_isD (by rfl) T.n_isinstance (by decide +kernel) (pa_cons (pv 0) (pa_cons (pe_bltn (v := .ty "list") (by rfl) T.n_list (by decide +kernel) rfl) pa_nil))))) (pss_one (ps_ret pe_bl)) pss_nil)
    (pss_cons (ps_if (PW.pt (pw_and (pt_cmpR (op_neNil hu) (pv 0) (pe_lst pa_nil) (nomark _)) (pw_and (pt_val (pe_callB call_isD (by rfl) T.n_isinstance (by decide +kernel) (pa_cons (pe_ix ix_list (pv 0) (pe_un un_neg pe_int) (fun _ _ => rfl)) (pa_cons (pe_bltn (v := .ty "str") (by rfl) T.n_str (by decide +kernel) rfl) pa_nil)))) (pw_and1 (pt_cmpR op_eq (pe_ix ix_list (pv 0) (pe_un un_neg pe_int) (fun _ _ => rfl)) pe_str (nomark _)))))) (pss_one (ps_ret pe_bl)) pss_nil)
    (pss_cons (ps_setLc (i := 1) (own := [("part", 2)]) (g := (gName 2)) (by rfl) SC.nd rfl rfl (sw_true rfl rfl rfl (by decide +kernel)) (pi_list (pv 0)) (blkOk_by (own := [("part", 2)]) (N := ["told", "found", "part"]) (sc := defScope s__law_spoilt) (by decide +kernel)) (fun _ _ _ _ _ => (pg_name (i := 2) SC.nd rfl (Or.inl rfl))) (fun _ _ _ _ _ => pts_nil) (fun _ _ _ _ _ => (pe_call G (hr.mono (by omega)) rfl F.d__law_spoilt.gl F.d__law_spoilt.fn.kp B .nil pass0 (pa_cons (pv 2) pa_nil))))
    (pss_cons (ps_expr (pe_bm PySem.F.plainAttrs_list PySem.F.slot_list_append PySem.F.type_list_append mt_append (pv 0) (pa_cons pe_str pa_nil)))
    (pss_one (ps_ret (pe_callB (cr_all rfl) (by rfl) T.n_all (by decide +kernel) (pa_cons (pv 1) pa_nil))))))))), ?_⟩
  have hd : Dx K H v d := Tr.dx (fun _ _ z => z.elim) hv
  refine ⟨_, rfl, v, d, _, rfl, hd, by decide, _, rfl, ?_⟩
  cases hv with
  | sh z => exact z.elim
  | bl b =>
    refine ite2 (fun c => by cases c) (fun _ => ?_)
    refine ⟨_, rfl, _, _, _, rfl, hd, by decide, _, rfl, ?_⟩
    exact ite2 (fun _ => q H (Out.refl _ _)) (fun c => absurd rfl c)
  | int b =>
    refine ite2 (fun c => by cases c) (fun _ => ?_)
    refine ⟨_, rfl, _, _, _, rfl, hd, by decide, _, rfl, ?_⟩
    exact ite2 (fun _ => q H (Out.refl _ _)) (fun c => absurd rfl c)
  | str b =>
    refine ite2 (fun c => by cases c) (fun _ => ?_)
    refine ⟨_, rfl, _, _, _, rfl, hd, by decide, _, rfl, ?_⟩
    exact ite2 (fun _ => q H (Out.refl _ _)) (fun c => absurd rfl c)
  | @tup a xs ds _ hq hall =>
    obtain ⟨S0, rfl⟩ : ∃ S0, S0 = S := ⟨S, rfl⟩
    refine ite2 (fun _ => ?_) (fun c => absurd rfl c)
    obtain ⟨n', rfl, hdl, hdeep⟩ := okd_tup hok
    have hxl := hall.length
    refine ⟨_, rfl, a, rfl, ⟨xs, hq⟩, fun D hD => ?_⟩
    let Gh := H
    refine lc_it (walk_tup (xs := xs)) (fun i H' => i ≤ 100000 ∧ ∃ S1 S2, S0 = S1 ++ S2 ∧ TrAll K shNo Gh (xs.drop i) (ds.drop i) S2 ∧ (∀ b ∈ S1, b ∉ S2) ∧ Out S1 Gh H' ∧ H' D = some (.lst (List.replicate i (.bl true)))) ⟨Nat.zero_le _, [], S0, rfl, hall, fun _ z => (by cases z), Out.of_same (same_new hD _), upd_same⟩ ?_ ?_ ?_
    · rintro i H' _ ⟨_, S1, S2, e, _, _, z, _⟩
      exact sqT_kept z (fun b hb => TrAll.there hall b (by rw [e]; exact List.mem_append_left _ hb)) hq
    · rintro i x H' H'' hi ⟨z0, S1, S2, rfl, z1, z2, z3, z4⟩ ⟨rfl, hx⟩
      have hlx := (List.getElem?_eq_some_iff.mp hx).1
      have hld : i < ds.length := by omega
      rw [List.drop_eq_getElem_cons hlx, List.drop_eq_getElem_cons hld] at z1
      have hxe : xs[i] = x := (List.getElem?_eq_some_iff.mp hx).2
      rw [hxe] at z1
      cases z1 with
      | cons h1 h2 h3 =>
        rename_i Si Sr
        have hSl : ∀ b ∈ S1, ∃ l, Gh b = some (.lst l) := fun b hb => TrAll.there hall b (List.mem_append_left _ hb)
        have h1' := Tr.kept z3 hSl h1 (fun b hb y => z2 b y (List.mem_append_left _ hb))
        refine ⟨rfl, _, rfl, x, _, Si, rfl, h1', hdeep _ (List.getElem_mem hld), fun H2 o2 => ?_⟩
        have hDi : D ∉ Si := fun y => by
          obtain ⟨l, e⟩ := TrAll.there hall D (List.mem_append_right _ (List.mem_append_left _ y))
          rw [hD] at e
          cases e
        refine ⟨_, o2 _ _ hDi z4, ?_, ?_, S1 ++ Si, Sr, (List.append_assoc ..).symm, h2, ?_, ?_, ?_⟩
        · rw [List.length_replicate]
          exact Nat.lt_of_le_of_lt z0 (by decide)
        · omega
        · intro b hb y
          rcases List.mem_append.mp hb with hb | hb
          · exact z2 b hb (List.mem_append_right _ y)
          · exact h3 b hb y
        · intro b o nb e
          rw [upd_ne (ne_of_none e hD)]
          exact (Out.trans z3 o2) b o nb e
        · rw [upd_same, List.replicate_succ']
    · rintro H2 ⟨_, S1, S2, e, z1, z2, z3, z4⟩
      have hS2 : S2 = [] := by
        rw [List.drop_eq_nil_of_le (Nat.le_refl _), hxl, List.drop_eq_nil_of_le (Nat.le_refl _)] at z1
        cases z1
        rfl
      subst hS2
      rw [List.append_nil] at e
      subst e
      refine ⟨D, List.replicate xs.length true, rfl, SqL.of (by rw [z4, List.map_replicate]), ?_⟩
      rw [show (List.replicate xs.length true).all id = true by simp]
      exact q H2 z3
  | @lst a xs ds S0 ha hall hn =>
    refine ite2 (fun c => by cases c) (fun _ => ?_)
    refine ⟨_, rfl, _, _, _, rfl, hd, by decide, _, rfl, ?_⟩
    refine ite2 (fun c => by cases c) (fun _ => ?_)
    obtain ⟨n', rfl, hend, hdl, hdeep⟩ := okd_seq hok
    have hxl := hall.length
    refine ⟨_, rfl, small _ (by show 0 ≤ 100000; decide), fun e he => ?_⟩
    have se := same_new he (.lst [])
    refine ⟨a, e, xs, rfl, rfl, SqL.of (se _ _ ha), SqL.of upd_same, _, rfl, ?_⟩
    have hall0 := hall
    have hd0 := hd
    replace ha := se _ _ ha
    replace hall := hall.mono se
    replace hd := hd.mono se
    replace q : ∀ H', Out (a :: S0) (upd H e (.lst [])) H' → Q (.bl true) H' := fun H' o => q H' (fun b u nb z => o b u nb (se _ _ z))
    generalize upd H e (.lst []) = Gh at ha hall hd q ⊢
    have go : ∀ (D : Addr), Gh D = none → ∀ (H2 : Hp), Out S0 Gh H2 → H2 D = some (.lst (List.replicate xs.length (.bl true))) → H2 a = some (.lst xs) ∧ Q (.bl true) (upd H2 a (.lst (xs ++ [.str "spoilt"]))) ∧ upd H2 a (.lst (xs ++ [.str "spoilt"])) D = some (.lst (List.replicate xs.length (.bl true))) := by
      intro D hD H2 z3 z4
      refine ⟨z3 _ _ hn ha, q _ (fun b o nb e => ?_), ?_⟩
      · rw [upd_ne (fun z => nb (by rw [z]; exact List.mem_cons_self ..))]
        exact z3 b o (fun z => nb (List.mem_cons_of_mem _ z)) e
      · rw [upd_ne (fun z => by rw [z, ha] at hD; cases hD)]
        exact z4
    have lastNo : ∀ y, xs.getLast? = some y → ∃ dy, Dx K Gh y dy ∧ isD dy "str" = false := by
      intro y hy
      have hda := TrAll.dx (fun _ _ z => z.elim) hall
      have hne : xs ≠ [] := fun z => by rw [z] at hy; cases hy
      obtain ⟨v, dv, h1, h2, h3⟩ := hda.last hne
      rw [List.getLast?_eq_getElem?, h1] at hy
      obtain rfl := Option.some.inj hy
      refine ⟨dv, h3, ?_⟩
      unfold endStr at hend
      rw [h2] at hend
      cases dv <;> first | rfl | cases hend
    rcases List.eq_nil_or_concat xs with hx0 | ⟨xs0, y, hx0⟩
    · refine ite2 (fun c => by rw [hx0] at c; cases c) (fun _ => ?_)
      refine ⟨_, rfl, a, rfl, ⟨xs, SqL.of ha⟩, fun D hD => ?_⟩
      refine lc_it (walk_list (xs := xs)) (fun i H' => i ≤ 100000 ∧ ∃ S1 S2, S0 = S1 ++ S2 ∧ TrAll K shNo Gh (xs.drop i) (ds.drop i) S2 ∧ (∀ b ∈ S1, b ∉ S2) ∧ Out S1 Gh H' ∧ H' D = some (.lst (List.replicate i (.bl true)))) ⟨Nat.zero_le _, [], S0, rfl, hall, fun _ z => (by cases z), Out.of_same (same_new hD _), upd_same⟩ ?_ ?_ ?_
      · rintro i H' _ ⟨_, S1, S2, e, _, _, z, _⟩
        exact SqL.of (z _ _ (fun y => hn (by rw [e]; exact List.mem_append_left _ y)) ha)
      · rintro i x H' H'' hi ⟨z0, S1, S2, rfl, z1, z2, z3, z4⟩ ⟨rfl, hx⟩
        have hlx := (List.getElem?_eq_some_iff.mp hx).1
        have hld : i < ds.length := by omega
        rw [List.drop_eq_getElem_cons hlx, List.drop_eq_getElem_cons hld] at z1
        have hxe : xs[i] = x := (List.getElem?_eq_some_iff.mp hx).2
        rw [hxe] at z1
        cases z1 with
        | cons h1 h2 h3 =>
          rename_i Si Sr
          have hSl : ∀ b ∈ S1, ∃ l, Gh b = some (.lst l) := fun b hb => TrAll.there hall b (List.mem_append_left _ hb)
          have h1' := Tr.kept z3 hSl h1 (fun b hb y => z2 b y (List.mem_append_left _ hb))
          refine ⟨rfl, _, rfl, x, _, Si, rfl, h1', hdeep _ (List.getElem_mem hld), fun H2 o2 => ?_⟩
          have hDi : D ∉ Si := fun y => by
            obtain ⟨l, e⟩ := TrAll.there hall D (List.mem_append_right _ (List.mem_append_left _ y))
            rw [hD] at e
            cases e
          refine ⟨_, o2 _ _ hDi z4, ?_, ?_, S1 ++ Si, Sr, (List.append_assoc ..).symm, h2, ?_, ?_, ?_⟩
          · rw [List.length_replicate]
            exact Nat.lt_of_le_of_lt z0 (by decide)
          · omega
          · intro b hb y
            rcases List.mem_append.mp hb with hb | hb
            · exact z2 b hb (List.mem_append_right _ y)
            · exact h3 b hb y
          · intro b o nb e
            rw [upd_ne (ne_of_none e hD)]
            exact (Out.trans z3 o2) b o nb e
          · rw [upd_same, List.replicate_succ']
      · rintro H2 ⟨_, S1, S2, e, z1, z2, z3, z4⟩
        have hS2 : S2 = [] := by
          rw [List.drop_eq_nil_of_le (Nat.le_refl _), hxl, List.drop_eq_nil_of_le (Nat.le_refl _)] at z1
          cases z1
          rfl
        subst hS2
        rw [List.append_nil] at e
        subst e
        obtain ⟨g1, g2, g3⟩ := go D hD H2 z3 z4
        refine ⟨_, rfl, .inl ⟨rfl, _, SqL.of g1⟩, _, xs, _, rfl, rfl, g1, Nat.lt_of_le_of_lt (show xs.length ≤ 100000 by omega) (by decide), ?_⟩
        refine ⟨_, rfl, D, List.replicate xs.length true, rfl, SqL.of (by rw [g3, List.map_replicate]), ?_⟩
        rw [show (List.replicate xs.length true).all id = true by simp]
        exact g2
    · refine ite2 (fun _ => ?_) (fun c => absurd (by rw [hx0]; simp) c)
      obtain ⟨dy, hdy, hstr⟩ := lastNo y (by rw [hx0, List.concat_eq_append, List.getLast?_append]; rfl)
      refine ⟨_, rfl, _, rfl, a, xs, -1, y, rfl, rfl, SqL.of ha, (by rw [hx0, List.concat_eq_append]; exact atI_last xs0 y), y, dy, _, rfl, hdy, by decide, _, rfl, ?_⟩
      refine ite2 (fun c => by rw [hstr] at c; cases c) (fun _ => ?_)
      refine ⟨_, rfl, a, rfl, ⟨xs, SqL.of ha⟩, fun D hD => ?_⟩
      refine lc_it (walk_list (xs := xs)) (fun i H' => i ≤ 100000 ∧ ∃ S1 S2, S0 = S1 ++ S2 ∧ TrAll K shNo Gh (xs.drop i) (ds.drop i) S2 ∧ (∀ b ∈ S1, b ∉ S2) ∧ Out S1 Gh H' ∧ H' D = some (.lst (List.replicate i (.bl true)))) ⟨Nat.zero_le _, [], S0, rfl, hall, fun _ z => (by cases z), Out.of_same (same_new hD _), upd_same⟩ ?_ ?_ ?_
      · rintro i H' _ ⟨_, S1, S2, e, _, _, z, _⟩
        exact SqL.of (z _ _ (fun y => hn (by rw [e]; exact List.mem_append_left _ y)) ha)
      · rintro i x H' H'' hi ⟨z0, S1, S2, rfl, z1, z2, z3, z4⟩ ⟨rfl, hx⟩
        have hlx := (List.getElem?_eq_some_iff.mp hx).1
        have hld : i < ds.length := by omega
        rw [List.drop_eq_getElem_cons hlx, List.drop_eq_getElem_cons hld] at z1
        have hxe : xs[i] = x := (List.getElem?_eq_some_iff.mp hx).2
        rw [hxe] at z1
        cases z1 with
        | cons h1 h2 h3 =>
          rename_i Si Sr
          have hSl : ∀ b ∈ S1, ∃ l, Gh b = some (.lst l) := fun b hb => TrAll.there hall b (List.mem_append_left _ hb)
          have h1' := Tr.kept z3 hSl h1 (fun b hb y => z2 b y (List.mem_append_left _ hb))
          refine ⟨rfl, _, rfl, x, _, Si, rfl, h1', hdeep _ (List.getElem_mem hld), fun H2 o2 => ?_⟩
          have hDi : D ∉ Si := fun y => by
            obtain ⟨l, e⟩ := TrAll.there hall D (List.mem_append_right _ (List.mem_append_left _ y))
            rw [hD] at e
            cases e
          refine ⟨_, o2 _ _ hDi z4, ?_, ?_, S1 ++ Si, Sr, (List.append_assoc ..).symm, h2, ?_, ?_, ?_⟩
          · rw [List.length_replicate]
            exact Nat.lt_of_le_of_lt z0 (by decide)
          · omega
          · intro b hb y
            rcases List.mem_append.mp hb with hb | hb
            · exact z2 b hb (List.mem_append_right _ y)
            · exact h3 b hb y
          · intro b o nb e
            rw [upd_ne (ne_of_none e hD)]
            exact (Out.trans z3 o2) b o nb e
          · rw [upd_same, List.replicate_succ']
      · rintro H2 ⟨_, S1, S2, e, z1, z2, z3, z4⟩
        have hS2 : S2 = [] := by
          rw [List.drop_eq_nil_of_le (Nat.le_refl _), hxl, List.drop_eq_nil_of_le (Nat.le_refl _)] at z1
          cases z1
          rfl
        subst hS2
        rw [List.append_nil] at e
        subst e
        obtain ⟨g1, g2, g3⟩ := go D hD H2 z3 z4
        refine ⟨_, rfl, .inl ⟨rfl, _, SqL.of g1⟩, _, xs, _, rfl, rfl, g1, Nat.lt_of_le_of_lt (show xs.length ≤ 100000 by omega) (by decide), ?_⟩
        refine ⟨_, rfl, D, List.replicate xs.length true, rfl, SqL.of (by rw [g3, List.map_replicate]), ?_⟩
        rw [show (List.replicate xs.length true).all id = true by simp]
        exact g2
theorem ok_mark (F : Fs K mg) (T : Txt K mg) : ∀ n, FnOk P w K mg base CX0 (n + 2) F.f__law_spoilt F.fd__law_spoilt ["told"] (spMark K n)
  | 0 => mark_step F T (k := 0) ok_no3
  | n + 1 => mark_step F T (k := n + 1) (ok_mark F T n)
end
end K21

set_option Elab.async false
set_option linter.all false
set_option maxRecDepth 100000
set_option maxHeartbeats 1000000
namespace K21
open PySem PySem.Spec L2 Wy
section
variable {P : Program} {w : World} {K : PySem.W.Frag} {mg : Str → Option Value} {base : Heap}
def spApart (K : PySem.W.Frag) : Sp := fun vs H Q _ => ∃ (v : V) (t : Ty) (Fh : Hp), vs = [v] ∧ Dx K Fh v t.toD ∧ Same Fh H ∧ t.ok = true ∧ t.deep ≤ 60 ∧ ∀ (x : V) (S : List Addr) (H' : Hp), Same H H' → Tr K shNo H' x t.toD S → (∀ a ∈ S, H a = none) → Q x H'
theorem sc_apart : FnScope ["one"] ["one"] (defScope s_apart) := ⟨rfl, rfl, rfl, by decide +kernel, rfl, by decide +kernel, by decide +kernel⟩
theorem ok_apart (F : Fs K mg) : FnOk P w K mg base CX0 63 F.f_apart F.fd_apart ["one"] (spApart K) := by
  have SC := sc_apart
  have G_put_there : FnOk P w K mg base CX0 62 F.f_put_there F.fd_put_there ["one", "table"] (spPut K 60) := ok_put_there F 60
  have B_put_there : Binds K F.fd_put_there ["one", "table"] [] := F.d_put_there.fn.bindsN fun _ _ _ _ _ _ us hl => match us, hl with | [_, _], _ => rfl
  refine F.d_apart.fn.ok sc_apart (fun vs H Q E h => ?_) (fun cdv A outer s H vs Q E hr h => ?_)
  · obtain ⟨v, t, Fh, rfl, _⟩ := h
    rfl
  obtain ⟨v, t, Fh, rfl, hd, sF, ok, hdeep, q⟩ := h
  refine ⟨_, PSs.nox (pss_one (ps_ret (pe_call G_put_there (hr.mono (by omega)) rfl F.d_put_there.gl F.d_put_there.fn.kp B_put_there .nil pass0 (pa_cons (pv 0) (pa_cons pe_dnewK pa_nil))))), ?_⟩
  refine ⟨_, rfl, fun d hd0 => ?_⟩
  have s1 := same_new hd0 (.dK [])
  refine ⟨v, t, d, [], fun _ => none, Fh, rfl, hd, sF.trans s1, ok, hdeep, upd_same, fun n => rfl, fun x S H' s2 hx hf => ?_⟩
  rw [put_none] at hx
  exact q x S H' (s1.trans s2) (hx.imp fun _ _ ⟨_, _, z, _⟩ => by cases z) fun a ha => s1.free (hf a ha)
/-- a table of types, as pairs tell it -/
def spMany (K : PySem.W.Frag) : Sp := fun vs H Q _ => ∃ (v : V) (t : Ty) (tb : Addr) (kvs : List (Key × V)) (ps : List (Nat × Ty)) (Fh : Hp), vs = [v, .ref tb] ∧ Dx K Fh v t.toD ∧ Same Fh H ∧ Fh tb = none ∧ t.ok = true ∧ t.size ≤ 200 ∧ H tb = some (.dK kvs) ∧ TabIs K Fh kvs ps ∧ ps.length ≤ 1000 ∧ (∀ p ∈ ps, p.2.ok = true ∧ p.2.size ≤ 200) ∧ (ps.map (·.1)).Nodup ∧
  ∀ H', Same H H' → Q (.int ((t.put (lkT ps)).size : Nat)) H'
theorem sum_cast : ∀ ns : List Nat, (ns.map fun (n : Nat) => (n : Int)).sum = ((ns.sum : Nat) : Int)
  | [] => rfl
  | n :: ns => by
    rw [List.map_cons, List.sum_cons, List.sum_cons, sum_cast ns]
    rfl
def lenK (K : PySem.W.Frag) : List V → Hp → VK → Prop := fun xs H Q => ∃ x n, xs = [x] ∧ LenV K x H n ∧ Q (.int n) H
def tvMany (K : PySem.W.Frag) : TE := tCB (lenK K) (tCons (tCall (spAll K) [] E0 (tCons (tVar 4) tNil)) tNil)
def teMany (K : PySem.W.Frag) : TE := tIf (tTest (tOp rEq (tOp (rIxT K) (tVar 5) (tC (.int 0))) (tC (.str "unknown")))) (tDGet2 (tVar 2) (tOp (rIxT K) (tVar 5) (tC (.int 1))) (tC (.int 1))) (tC (.int 1))
theorem sc_put_many : FnScope ["one", "table", "many", "number", "late", "part"] ["one", "table"] (defScope s_put_many) := ⟨rfl, rfl, rfl, by decide +kernel, rfl, by decide +kernel, by decide +kernel⟩
theorem ok_put_many (F : Fs K mg) (T : Txt K mg) (Z : Exs P K mg) : FnOk P w K mg base CX0 3 F.f_put_many F.fd_put_many ["one", "table"] (spMany K) := by
  have SC := sc_put_many
  have G_all_parts : FnOk P w K mg base CX0 2 F.f_all_parts F.fd_all_parts ["one"] (spAll K) := ok_all_parts F T Z
  have B_all_parts : Binds K F.fd_all_parts ["one"] [] := F.d_all_parts.fn.bindsN fun _ _ _ _ _ _ us hl => match us, hl with | [_], _ => rfl
  refine F.d_put_many.fn.ok sc_put_many (fun vs H Q E h => ?_) (fun cdv A outer s H vs Q E hr h => ?_)
  · obtain ⟨v, t, tb, kvs, ps, Fh, rfl, _⟩ := h; rfl
  obtain ⟨v, t, tb, kvs, ps, Fh, rfl, hd, sF, hFt, ok, hsz, htb, hT, hpl, hps, nd, q⟩ := h
  have hu1 := hu_of hr
  refine ⟨_, PSs.nox (pss_cons (ps_set (i := 2) SC.nd rfl (Or.inr rfl) (pe_lock (pe_dc (own := [("number", 3), ("late", 4)]) (g := gTup K 2 (gCons (gName 3) (gCons (gName 4) gNil))) (tk := tVar 3) (tv := tvMany K) (by rfl) SC.nd (pi_items (pv 1)) (blkOk_by (own := [("number", 3), ("late", 4)]) (N := ["one", "table", "many", "number", "late", "part"]) (sc := defScope s_put_many) (by decide +kernel)) (fun _ _ _ _ _ => (pg_tup (by rfl) (pgs_cons (pg_name (i := 3) SC.nd rfl (Or.inl rfl)) (pgs_cons (pg_name (i := 4) SC.nd rfl (Or.inl rfl)) pgs_nil)))) (fun _ _ _ _ _ => pts_nil) (fun _ _ _ _ _ => (pv 3)) (fun _ _ _ _ _ => (pe_callB call_len (by rfl) T.n_len (by decide +kernel) (pa_cons (pe_call G_all_parts (hr.mono (by decide)) rfl F.d_all_parts.gl F.d_all_parts.fn.kp B_all_parts .nil pass0 (pa_cons (pv 4) pa_nil)) pa_nil))))))
    (pss_one (ps_ret (pe_callB (cr_sum rfl) (by rfl) T.n_sum (by decide +kernel) (pa_cons (pe_lc (own := [("part", 5)]) (g := (gName 5)) (te := teMany K) (by rfl) SC.nd (pi_list (pe_call G_all_parts (hr.mono (by decide)) rfl F.d_all_parts.gl F.d_all_parts.fn.kp B_all_parts .nil pass0 (pa_cons (pv 0) pa_nil))) (blkOk_by (own := [("part", 5)]) (N := ["one", "table", "many", "number", "late", "part"]) (sc := defScope s_put_many) (by decide +kernel)) (fun _ _ _ _ _ => (pg_name (i := 5) SC.nd rfl (Or.inl rfl))) (fun _ _ _ _ _ => pts_nil) (fun _ _ _ _ _ => (pe_ifExp (pt_cmpR op_eq (pe_ix ix_tup (pv 5) pe_int (fun _ _ => rfl)) pe_str (nomark _)) (pe_dget2 hu1 (pv 2) (pe_ix ix_tup (pv 5) pe_int (fun _ _ => rfl)) pe_int ⟨by rfl, by rfl, by rfl, by rfl⟩) pe_int))) pa_nil))))), ?_⟩
  have htl := hT.length
  refine ⟨tb, _, htb, trivial, fun od => ?_⟩
  have sF0 : Same Fh (upd H tb (.frz od (.dK kvs))) := fun b o e => by
    rw [upd_ne (fun z => by rw [z, hFt] at e; cases e)]
    exact sF _ _ e
  have ht0 : upd H tb (.frz od (.dK kvs)) tb = some (.frz od (.dK kvs)) := upd_same
  have back : ∀ G, Same (upd H tb (.frz od (.dK kvs))) G → Same H (upd G tb (.dK kvs)) := fun G s b o e => by
    by_cases hb : b = tb
    · rw [hb, upd_same]
      rw [hb, htb] at e
      exact e
    · rw [upd_ne hb]
      exact s _ _ (by rw [upd_ne hb]; exact e)
  generalize upd H tb (.frz od (.dK kvs)) = G0 at sF0 ht0 back
  refine ⟨_, rfl, tb, od, kvs, rfl, ht0, fun D hD => ?_⟩
  have hDt : D ≠ tb := fun z => by
    rw [z, ht0] at hD
    cases hD
  refine dc_walk walk_items (fun j G => Same G0 G ∧ G D = some (.dK (cntK (ps.take j)))) ⟨same_new hD _, upd_same⟩ (fun j G _ ⟨z, _⟩ => z _ _ ht0) ?_ ?_
  · rintro j y G1 G hj ⟨z1, z2⟩ ⟨T0, x, y, rfl, hT0, rfl, e1, e2⟩
    obtain ⟨⟨k, y'⟩, hk, e3⟩ := Option.map_eq_some_iff.mp e1
    replace e2 : Option.map Prod.snd kvs[j]? = some y := e2
    rw [hk] at e2
    obtain rfl : y' = y := Option.some.inj e2
    obtain ⟨n, u, hp, rfl, hx⟩ := hT.get hk
    obtain rfl : V.int (n : Int) = x := e3
    have hpm := List.mem_of_getElem? hp
    have sT := same_new hT0 (.tup [V.int (n : Int), y'])
    refine ⟨T0, _, rfl, SqT.of upd_same, rfl, _, _, rfl, _, _, rfl, rfl, rfl, ?_⟩
    refine ⟨_, rfl, _, rfl, y', u, Fh, rfl, hx, sF0.trans (z1.trans sT), (hps _ hpm).1, Nat.le_trans (hps _ hpm).2 (by decide), fun r fv H2 s2 hr0 hr1 hfv => ?_⟩
    have hfl := hfv.length
    rw [toDs_map, List.length_map, parts_length] at hfl
    refine ⟨_, _, rfl, .inl ⟨_, SqL.of hr1, rfl⟩, cntK (ps.take j), Sum.inl (n : Int), rfl, s2 _ _ (sT _ _ z2), ?_, fun b o e => ?_, ?_⟩
    · unfold cntK
      rw [List.length_map, List.length_take]
      exact Nat.lt_of_le_of_lt (show _ ≤ 100000 by omega) (by decide)
    · rw [upd_ne (ne_of_none e hD)]
      exact s2 _ _ (sT _ _ (z1 _ _ e))
    · rw [upd_same, hfl, cnt_step nd hp]
  rintro G ⟨z1, z2⟩
  rw [htl, List.take_length] at z2
  refine ⟨z1 _ _ ht0, ?_⟩
  have sG := back G z1
  have hD2 : upd G tb (.dK kvs) D = some (.dK (cntK ps)) := by
    rw [upd_ne hDt]
    exact z2
  generalize upd G tb (.dK kvs) = G2 at sG hD2
  refine ⟨_, rfl, v, t, Fh, rfl, hd, sF.trans sG, ok, Nat.le_trans hsz (by decide), fun r fv H2 s2 hr0 hr1 hfv => ?_⟩
  have hfl := hfv.length
  rw [toDs_map, List.length_map] at hfl
  have sF2 := sF.trans (sG.trans s2)
  refine ⟨r, rfl, ⟨fv, SqL.of hr1⟩, fun L hL => ?_⟩
  refine lc_list (xs := fv) (fun i H' => Same H2 H' ∧ H' L = some (.lst ((((t.parts.take i).map (wt (lkT ps))).map fun (n : Nat) => (n : Int)).map V.int))) ⟨same_new hL _, upd_same⟩ ?_ ?_ ?_
  · rintro i H' _ ⟨y1, _⟩
    exact SqL.of (y1 _ _ hr1)
  · rintro i x H' hi ⟨y1, y2⟩
    obtain ⟨d, hd1, hx⟩ := hfv.get hi
    rw [toDs_map, List.getElem?_map] at hd1
    obtain ⟨u, hu1', rfl⟩ := Option.map_eq_some_iff.mp hd1
    have htk : t.parts.take (i + 1) = t.parts.take i ++ [u] := by
      rw [List.take_add_one, hu1']
      rfl
    have hpt := parts_length t
    have fin : ∀ z : Nat, z = wt (lkT ps) u → ∃ acc, H' L = some (.lst acc) ∧ acc.length < sizeLine ∧ (Same H2 (upd H' L (.lst (acc ++ [V.int (z : Int)]))) ∧ upd H' L (.lst (acc ++ [V.int (z : Int)])) L = some (.lst ((((t.parts.take (i + 1)).map (wt (lkT ps))).map fun (n : Nat) => (n : Int)).map V.int))) := by
      rintro z rfl
      refine ⟨_, y2, ?_, fun b o e => ?_, ?_⟩
      · rw [List.length_map, List.length_map, List.length_map, List.length_take]
        exact Nat.lt_of_le_of_lt (show _ ≤ 100000 by omega) (by decide)
      · rw [upd_ne (ne_of_none e hL)]
        exact y1 _ _ e
      · rw [upd_same, htk, List.map_append, List.map_append, List.map_append]
        rfl
    refine ⟨rfl, ?_⟩
    cases u with
    | unk n =>
      obtain ⟨p, ys, rfl, hqp, hap⟩ := (show Dx K Fh x (.tuple [.str "unknown", .int (n : Int)]) from hx).tup_inv
      obtain ⟨x0, e0, h0⟩ := hap.get' (i := 0) rfl
      obtain ⟨x1, e1, h1⟩ := hap.get' (i := 1) rfl
      obtain rfl := h0.str_inv
      cases h1
      have hq' := same_seqT (sF2.trans y1) hqp
      refine ⟨_, rfl, p, ys, 0, _, rfl, rfl, hq', at_of (j := 0) rfl e0, rfl, _, rfl, ?_⟩
      refine ite2 (fun _ => ?_) (fun c => absurd (decide_eq_true rfl) c)
      refine ⟨_, rfl, D, rfl, .inl ⟨_, .inl (y1 _ _ (s2 _ _ hD2))⟩, _, rfl, p, ys, 1, _, rfl, rfl, hq', at_of (j := 1) rfl e1, _, DGet.k (k := Sum.inl (n : Int)) (y1 _ _ (s2 _ _ hD2)), ?_⟩
      rw [cnt_val]
      have hw : ((lkT ps n).map fun u => V.int (u.size : Nat)).getD (V.int 1) = V.int ((wt (lkT ps) (.unk n) : Nat) : Int) := by
        show _ = V.int ((match lkT ps n with | some u => u.size | none => 1 : Nat) : Int)
        cases lkT ps n <;> rfl
      rw [hw]
      exact fin _ rfl
    | kind k us =>
      obtain ⟨p, ys, rfl, hqp, hap⟩ := (show Dx K Fh x (.tuple [.str "kind", .str k, .list (Ty.toDs us)]) from hx).tup_inv
      obtain ⟨x0, e0, h0⟩ := hap.get' (i := 0) rfl
      obtain rfl := h0.str_inv
      refine ⟨_, rfl, p, ys, 0, _, rfl, rfl, same_seqT (sF2.trans y1) hqp, at_of (j := 0) rfl e0, rfl, _, rfl, ?_⟩
      refine ite2 (fun c => absurd (V.str.inj (of_decide_eq_true c)) (by decide)) (fun _ => ?_)
      exact fin 1 rfl
  · rintro H3 ⟨y1, y2⟩
    rw [hfl, List.take_length] at y2
    refine ⟨L, _, rfl, SqL.of y2, ?_⟩
    rw [sum_cast, ← size_put]
    exact q H3 (sG.trans (s2.trans y1))
/-! ### are these pairs -/
def pairB : PyData → Bool
  | .tuple [_, _] => true
  | _ => false
def numTyB : PyData → Bool
  | .tuple [n, t] => countD n && isTyD t
  | _ => false
def ltB : PyData → PyData → Bool
  | .tuple (.int m :: _), .tuple (.int n :: _) => decide (m < n)
  | _, _ => false
def ascZ (ds : List PyData) : List Bool := (ds.zip (ds.drop 1)).map fun p => ltB p.1 p.2
def arePairsD : PyData → Bool
  | .list ds => ds.all pairB && (ds.all numTyB && (ascZ ds).all id)
  | _ => false
theorem pair_inv {d : PyData} (h : pairB d = true) : ∃ a b, d = .tuple [a, b] := by
  match d, h with
  | .tuple [a, b], _ => exact ⟨a, b, rfl⟩
theorem numTy_inv {d : PyData} (h : numTyB d = true) : ∃ (n : Int) (t : PyData), d = .tuple [.int n, t] := by
  match d, h with
  | .tuple [n, t], h =>
    have h1 := (Bool.and_eq_true_iff.mp (show (countD n && isTyD t) = true from h)).1
    match n, h1 with
    | .int i, _ => exact ⟨i, t, rfl⟩
theorem cut1 (xs : List V) : cutV xs (some 1) none = xs.drop 1 := by
  unfold cutV
  cases xs with
  | nil => rfl
  | cons x xs =>
    have e : HT.sIx (x :: xs).length 0 (some 1) = 1 := by
      simp [HT.sIx]
    rw [e]
    show ((x :: xs).drop 1).take ((x :: xs).length - 1) = _
    rw [List.take_of_length_le]
    simp
def spPairs (K : PySem.W.Frag) : Sp := fun vs H Q _ => ∃ (v : V) (d : PyData), vs = [v] ∧ Dx K H v d ∧ smlD d = true ∧ (∀ ds, d = .list ds → ds.length ≤ 100000) ∧ ∀ H', Same H H' → Q (.bl (arePairsD d)) H'
theorem pair_len (es : List PyData) : pairB (.tuple es) = decide (es.length = 2) := by
  match es with
  | [] => rfl
  | [_] => rfl
  | [_, _] => rfl
  | _ :: _ :: _ :: es =>
    symm
    show decide (es.length + 1 + 1 + 1 = 2) = false
    exact decide_eq_false (by omega)
theorem decide_int2 (n : Nat) : decide (V.int (n : Int) = V.int 2) = decide (n = 2) := by
  rw [Bool.eq_iff_iff, decide_eq_true_eq, decide_eq_true_eq]
  constructor
  · intro h
    have := V.int.inj h
    omega
  · rintro rfl
    rfl
def teP1 (K : PySem.W.Frag) : TE := tAndV (tCB (rIsD K) (tCons (tVar 3) (tCons (tC (.ty "tuple")) tNil))) (tOp rEq (tCB (lenK K) (tCons (tVar 3) tNil)) (tC (.int 2)))
def teP2 (K : PySem.W.Frag) : TE := tAndV (tCall (spB K countD) [] E0 (tCons (tVar 4) tNil)) (tCall (spB K isTyD) [] E0 (tCons (tVar 2) tNil))
def teP3 (K : PySem.W.Frag) : TE := tOp (rI0 fun i j => .bl (decide (i < j))) (tOp (rIxT K) (tVar 1) (tC (.int 0))) (tOp (rIxT K) (tVar 2) (tC (.int 0)))
theorem sc_are_pairs : FnScope ["value", "one", "late", "pair", "number"] ["value"] (defScope s_are_pairs) := ⟨rfl, rfl, rfl, by decide +kernel, rfl, by decide +kernel, by decide +kernel⟩
theorem ok_are_pairs (F : Fs K mg) (T : Txt K mg) (Z : Exs P K mg) : FnOk P w K mg base CX0 6 F.f_are_pairs F.fd_are_pairs ["value"] (spPairs K) := by
  have SC := sc_are_pairs
  have G_is_count : FnOk P w K mg base CX0 2 F.f_is_count F.fd_is_count ["value"] (spB K countD) := ok_is_count F T Z
  have B_is_count : Binds K F.fd_is_count ["value"] [] := F.d_is_count.fn.bindsN fun _ _ _ _ _ _ us hl => match us, hl with | [_], _ => rfl
  have G_is_type : FnOk P w K mg base CX0 5 F.f_is_type F.fd_is_type ["value"] (spB K isTyD) := ok_is_type F T Z
  have B_is_type : Binds K F.fd_is_type ["value"] [] := F.d_is_type.fn.bindsN fun _ _ _ _ _ _ us hl => match us, hl with | [_], _ => rfl
  refine F.d_are_pairs.fn.ok sc_are_pairs (fun vs H Q E h => ?_) (fun cdv A outer s H vs Q E hr h => ?_)
  · obtain ⟨v, d, rfl, _⟩ := h; rfl
  obtain ⟨v, d, rfl, hd, hsm, hlen, q⟩ := h
  have hu1 := hu_of hr
  refine ⟨_, PSs.nox (pss_cons (ps_if (PW.pt (pw_or (pt_not (pt_val (pe_callB call_isD (by rfl) T.n_isinstance (by decide +kernel) (pa_cons (pv 0) (pa_cons (pe_bltn (v := .ty "list") (by rfl) T.n_list (by decide +kernel) rfl) pa_nil))))) (pw_or1 (pt_not (pt_val (pe_callB (cr_all rfl) (by rfl) T.n_all (by decide +kernel) (pa_cons (pe_lc (own := [("pair", 3)]) (te := teP1 K) (g := (gName 3)) (by rfl) SC.nd (pi_list (pv 0)) (blkOk_by (own := [("pair", 3)]) (N := ["value", "one", "late", "pair", "number"]) (sc := defScope s_are_pairs) (by decide +kernel)) (fun _ _ _ _ _ => (pg_name (i := 3) SC.nd rfl (Or.inl rfl))) (fun _ _ _ _ _ => pts_nil) (fun _ _ _ _ _ => (pe_and (pe_callB call_isD (by rfl) T.n_isinstance (by decide +kernel) (pa_cons (pv 3) (pa_cons (pe_bltn (v := .ty "tuple") (by rfl) T.n_tuple (by decide +kernel) rfl) pa_nil))) (pe_one (pe_cmpR op_eq (pe_callB call_len (by rfl) T.n_len (by decide +kernel) (pa_cons (pv 3) pa_nil)) pe_int (nomark _)))))) pa_nil))))))) (pss_one (ps_ret pe_bl)) pss_nil)
    (pss_cons (ps_if (pt_not (pt_val (pe_callB (cr_all rfl) (by rfl) T.n_all (by decide +kernel) (pa_cons (pe_lc (own := [("number", 4), ("late", 2)]) (te := teP2 K) (g := gTup K 2 (gCons (gName 4) (gCons (gName 2) gNil))) (by rfl) SC.nd (pi_list (pv 0)) (blkOk_by (own := [("number", 4), ("late", 2)]) (N := ["value", "one", "late", "pair", "number"]) (sc := defScope s_are_pairs) (by decide +kernel)) (fun _ _ _ _ _ => (pg_tup (by rfl) (pgs_cons (pg_name (i := 4) SC.nd rfl (Or.inl rfl)) (pgs_cons (pg_name (i := 2) SC.nd rfl (Or.inl rfl)) pgs_nil)))) (fun _ _ _ _ _ => pts_nil) (fun _ _ _ _ _ => (pe_and (pe_call G_is_count (hr.mono (by decide)) rfl F.d_is_count.gl F.d_is_count.fn.kp B_is_count .nil pass0 (pa_cons (pv 4) pa_nil)) (pe_one (pe_call G_is_type (hr.mono (by decide)) rfl F.d_is_type.gl F.d_is_type.fn.kp B_is_type .nil pass0 (pa_cons (pv 2) pa_nil)))))) pa_nil)))) (pss_one (ps_ret pe_bl)) pss_nil)
    (pss_one (ps_ret (pe_callB (cr_all rfl) (by rfl) T.n_all (by decide +kernel) (pa_cons (pe_lc (own := [("one", 1), ("late", 2)]) (te := teP3 K) (g := gTup K 2 (gCons (gName 1) (gCons (gName 2) gNil))) (by rfl) SC.nd (pi_zip rfl T.n_zip (pa_cons (pv 0) (pa_cons (pe_slice sl_list (pv 0) (po_some pe_int) po_none) pa_nil))) (blkOk_by (own := [("one", 1), ("late", 2)]) (N := ["value", "one", "late", "pair", "number"]) (sc := defScope s_are_pairs) (by decide +kernel)) (fun _ _ _ _ _ => (pg_tup (by rfl) (pgs_cons (pg_name (i := 1) SC.nd rfl (Or.inl rfl)) (pgs_cons (pg_name (i := 2) SC.nd rfl (Or.inl rfl)) pgs_nil)))) (fun _ _ _ _ _ => pts_nil) (fun _ _ _ _ _ => (pe_cmpR op_lt (pe_ix ix_tup (pv 1) pe_int (fun _ _ => rfl)) (pe_ix ix_tup (pv 2) pe_int (fun _ _ => rfl)) (nomark _)))) pa_nil)))))), ?_⟩
  have bad : ∀ H', Same H H' → arePairsD d = false → Q (.bl false) H' := fun H' s z => by
    have y := q H' s
    rw [z] at y
    exact y
  refine ⟨_, rfl, v, d, _, rfl, hd, by decide, _, rfl, ?_⟩
  cases hl : isD d "list" with
  | false =>
    refine bad H same_refl ?_
    cases d <;> first | rfl | cases hl
  | true =>
  match d, hd, hsm, hlen, q, bad, hl with
  | .list ds, hd, hsm, hlen, q, bad, _ =>
  obtain ⟨a, xs, rfl, hq, hall⟩ := hd.lst_inv
  have hxl := hall.length
  have hdl := hlen ds rfl
  have hsm' := smlAll_mem (show smlAll ds = true from hsm)
  refine ⟨_, rfl, a, rfl, ⟨xs, hq⟩, fun D hD => ?_⟩
  refine lc_list (xs := xs) (fun i H' => Same H H' ∧ H' D = some (.lst (((ds.take i).map pairB).map V.bl))) ⟨same_new hD _, upd_same⟩ ?_ ?_ ?_
  · rintro i H' _ ⟨y1, _⟩
    exact y1.seq hq
  · rintro i x H' hi ⟨y1, y2⟩
    obtain ⟨e, he, hx⟩ := hall.get hi
    have hlt := (List.getElem?_eq_some_iff.mp hi).1
    have fin : ∀ b, b = pairB e → ∃ acc, H' D = some (.lst acc) ∧ acc.length < sizeLine ∧ (Same H (upd H' D (.lst (acc ++ [V.bl b]))) ∧ upd H' D (.lst (acc ++ [V.bl b])) D = some (.lst (((ds.take (i + 1)).map pairB).map V.bl))) := by
      rintro b rfl
      refine ⟨_, y2, ?_, fun b o z => ?_, ?_⟩
      · rw [List.length_map, List.length_map, List.length_take]
        exact Nat.lt_of_le_of_lt (show _ ≤ 100000 by omega) (by decide)
      · rw [upd_ne (ne_of_none z hD)]
        exact y1 _ _ z
      · rw [upd_same, List.take_add_one, he, List.map_append, List.map_append]
        rfl
    refine ⟨rfl, _, rfl, x, e, _, rfl, hx.mono y1, by decide, _, rfl, ?_⟩
    cases ht : isD e "tuple" with
    | false => exact fin false (by cases e <;> first | rfl | cases ht)
    | true =>
    match e, hx, ht, fin with
    | .tuple es, hx, _, fin =>
    obtain ⟨b, ys, rfl, hqb, hyb⟩ := hx.tup_inv
    have hyl := hyb.length
    refine ⟨_, rfl, _, _, rfl, .inr ⟨_, same_seqT y1 hqb, rfl⟩, rfl, ?_⟩
    refine fin _ ?_
    rw [pair_len, ← hyl]
    exact decide_int2 _
  · rintro H1 ⟨y1, y2⟩
    rw [hxl, List.take_length] at y2
    refine ⟨D, ds.map pairB, rfl, SqL.of y2, _, rfl, ?_⟩
    have e : (ds.map pairB).all id = ds.all pairB := by rw [List.all_map]; rfl
    rw [e]
    cases hp : ds.all pairB with
    | false =>
      refine bad H1 y1 ?_
      show (ds.all pairB && (ds.all numTyB && (ascZ ds).all id)) = false
      rw [hp]
      rfl
    | true =>
    have hpair : ∀ d ∈ ds, pairB d = true := List.all_eq_true.mp hp
    refine ⟨_, rfl, a, rfl, ⟨xs, y1.seq hq⟩, fun D2 hD2 => ?_⟩
    refine lc_list (xs := xs) (fun i H' => Same H1 H' ∧ H' D2 = some (.lst (((ds.take i).map numTyB).map V.bl))) ⟨same_new hD2 _, upd_same⟩ ?_ ?_ ?_
    · rintro i H' _ ⟨z1, _⟩
      exact z1.seq (y1.seq hq)
    · rintro i x H' hi ⟨z1, z2⟩
      obtain ⟨e, he, hx⟩ := hall.get hi
      have hem := List.mem_of_getElem? he
      have hlt := (List.getElem?_eq_some_iff.mp hi).1
      have fin : ∀ G b, Same H' G → b = numTyB e → ∃ acc, G D2 = some (.lst acc) ∧ acc.length < sizeLine ∧ (Same H1 (upd G D2 (.lst (acc ++ [V.bl b]))) ∧ upd G D2 (.lst (acc ++ [V.bl b])) D2 = some (.lst (((ds.take (i + 1)).map numTyB).map V.bl))) := by
        rintro G b s rfl
        refine ⟨_, s _ _ z2, ?_, fun b o z => ?_, ?_⟩
        · rw [List.length_map, List.length_map, List.length_take]
          exact Nat.lt_of_le_of_lt (show _ ≤ 100000 by omega) (by decide)
        · rw [upd_ne (ne_of_none z hD2)]
          exact s _ _ (z1 _ _ z)
        · rw [upd_same, List.take_add_one, he, List.map_append, List.map_append]
          rfl
      obtain ⟨d0, d1, rfl⟩ := pair_inv (hpair e hem)
      obtain ⟨b, ys, rfl, hqb, hyb⟩ := (hx.mono (y1.trans z1)).tup_inv
      cases hyb with
      | cons h0 hyb =>
      cases hyb with
      | cons h1 hyb =>
      cases hyb
      have hs2 := smlAll_mem (show smlAll [d0, d1] = true from hsm' _ hem)
      refine ⟨b, _, rfl, hqb, rfl, _, _, rfl, _, _, rfl, rfl, rfl, ?_⟩
      refine ⟨_, rfl, _, d0, rfl, h0, hs2 d0 (by simp), fun H2 s2 => ⟨_, rfl, ?_⟩⟩
      cases hc : countD d0 with
      | false => exact fin H2 false s2 (by show false = (countD d0 && isTyD d1); rw [hc]; rfl)
      | true =>
        refine ⟨_, rfl, _, d1, rfl, h1.mono s2, hs2 d1 (by simp), fun H3 s3 => ?_⟩
        exact fin H3 _ (s2.trans s3) (by show isTyD d1 = (countD d0 && isTyD d1); rw [hc]; rfl)
    · rintro H2 ⟨z1, z2⟩
      rw [hxl, List.take_length] at z2
      refine ⟨D2, ds.map numTyB, rfl, SqL.of z2, _, rfl, ?_⟩
      have e : (ds.map numTyB).all id = ds.all numTyB := by rw [List.all_map]; rfl
      rw [e]
      cases hn : ds.all numTyB with
      | false =>
        refine bad H2 (y1.trans z1) ?_
        show (ds.all pairB && (ds.all numTyB && (ascZ ds).all id)) = false
        rw [hp, hn]
        rfl
      | true =>
      have hnum : ∀ d ∈ ds, numTyB d = true := List.all_eq_true.mp hn
      have s02 := y1.trans z1
      refine ⟨_, rfl, _, rfl, 1, rfl, a, xs, rfl, s02.seq hq, fun lo hlo => ?_⟩
      rw [cut1]
      have sL := same_new hlo (.lst (xs.drop 1))
      have hlo1 : upd H2 lo (.lst (xs.drop 1)) lo = some (.lst (xs.drop 1)) := upd_same
      have s03 := s02.trans sL
      generalize upd H2 lo (.lst (xs.drop 1)) = G at sL hlo1 s03
      refine ⟨a, lo, xs, xs.drop 1, rfl, s03.seq hq, SqL.of hlo1, fun D3 hD3 => ?_⟩
      refine lc_it (walk_zip (xs := xs) (ys := xs.drop 1) rfl) (fun i H' => Same G H' ∧ H' D3 = some (.lst (((ascZ ds).take i).map V.bl))) ⟨same_new hD3 _, upd_same⟩ ?_ ?_ ?_
      · rintro i H' _ ⟨w1, _⟩
        exact ⟨w1.seq (s03.seq hq), SqL.of (w1 _ _ hlo1)⟩
      · rintro i y G0 G1 hi ⟨w1, w2⟩ ⟨T0, x1, x2, rfl, hT0, rfl, e1, e2⟩
        replace e1 : xs[i]? = some x1 := e1
        replace e2 : (xs.drop 1)[i]? = some x2 := e2
        rw [List.getElem?_drop] at e2
        obtain ⟨d1, hd1, hx1⟩ := hall.get e1
        obtain ⟨d2, hd2, hx2⟩ := hall.get e2
        obtain ⟨m, t1, rfl⟩ := numTy_inv (hnum d1 (List.mem_of_getElem? hd1))
        obtain ⟨n, t2, rfl⟩ := numTy_inv (hnum d2 (List.mem_of_getElem? hd2))
        have sT := same_new hT0 (.tup [x1, x2])
        have hlt := (List.getElem?_eq_some_iff.mp hd1).1
        have hz : (ascZ ds)[i]? = some (decide (m < n)) := by
          unfold ascZ
          have hz0 : (ds.zip (ds.drop 1))[i]? = some (PyData.tuple [.int m, t1], PyData.tuple [.int n, t2]) := List.getElem?_zip_eq_some.mpr ⟨hd1, by rw [List.getElem?_drop]; exact hd2⟩
          rw [List.getElem?_map, hz0]
          rfl
        obtain ⟨b1, y1', rfl, hq1, hy1⟩ := (hx1.mono (s03.trans (w1.trans sT))).tup_inv
        obtain ⟨b2, y2', rfl, hq2, hy2⟩ := (hx2.mono (s03.trans (w1.trans sT))).tup_inv
        cases hy1 with
        | cons h1 _ =>
        cases hy2 with
        | cons h2 _ =>
        cases h1
        cases h2
        refine ⟨T0, _, rfl, SqT.of upd_same, rfl, _, _, rfl, _, _, rfl, rfl, rfl, ?_⟩
        refine ⟨_, rfl, b1, _, 0, _, rfl, rfl, hq1, at_of (j := 0) rfl rfl, _, rfl, b2, _, 0, _, rfl, rfl, hq2, at_of (j := 0) rfl rfl, m, n, rfl, rfl, ?_⟩
        refine ⟨_, sT _ _ w2, ?_, fun b o z => ?_, ?_⟩
        · rw [List.length_map, List.length_take]
          exact Nat.lt_of_le_of_lt (show _ ≤ 100000 by omega) (by decide)
        · rw [upd_ne (ne_of_none z hD3)]
          exact sT _ _ (w1 _ _ z)
        · rw [upd_same, List.take_add_one, hz, List.map_append]
          rfl
      · rintro H3 ⟨w1, w2⟩
        have el : min xs.length (xs.drop 1).length = (ascZ ds).length := by
          unfold ascZ
          rw [List.length_map, List.length_zip, List.length_drop, List.length_drop, hxl]
        rw [el, List.take_length] at w2
        refine ⟨D3, ascZ ds, rfl, SqL.of w2, ?_⟩
        have z := q H3 (s03.trans w1)
        rw [show arePairsD (.list ds) = (ds.all pairB && (ds.all numTyB && (ascZ ds).all id)) from rfl, hp, hn] at z
        exact z
/-- pairs of rising numbers and types -/
def okPs (ps : List (Nat × Ty)) : Prop := (ps.map (·.1)).Pairwise (· < ·) ∧ ∀ p ∈ ps, p.2.ok = true ∧ p.2.size ≤ 200
theorem okPs.nodup {ps : List (Nat × Ty)} (h : okPs ps) : (ps.map (·.1)).Nodup := h.1.imp fun h => Nat.ne_of_lt h
theorem asc_all : ∀ {ps : List (Nat × Ty)}, (ps.map (·.1)).Pairwise (· < ·) → (ascZ (ps.map pairD)).all id = true
  | [], _ => rfl
  | [_], _ => rfl
  | (n, t) :: (m, u) :: ps, h => by
    rw [List.map_cons, List.pairwise_cons] at h
    have ih := asc_all h.2
    show (ltB (pairD (n, t)) (pairD (m, u)) && (ascZ (((m, u) :: ps).map pairD)).all id) = true
    rw [ih, Bool.and_true]
    show decide ((n : Int) < (m : Int)) = true
    have := h.1 m (by simp)
    exact decide_eq_true (by omega)
theorem pairs_ok {ps : List (Nat × Ty)} (h : okPs ps) : arePairsD (prD ps) = true := by
  show ((ps.map pairD).all pairB && ((ps.map pairD).all numTyB && (ascZ (ps.map pairD)).all id)) = true
  rw [asc_all h.1, Bool.and_true, Bool.and_eq_true, List.all_map, List.all_map, List.all_eq_true, List.all_eq_true]
  refine ⟨fun p _ => rfl, fun p hp => ?_⟩
  show (decide (0 ≤ (p.1 : Int)) && isTyD p.2.toD) = true
  rw [(isTy_iff _).mpr ⟨p.2, rfl, h.2 p hp⟩, decide_eq_true (by omega)]
  rfl
def spPutT (Z : Exs P K mg) (K : PySem.W.Frag) : Sp := fun vs H Q E => ∃ (v pz : V) (d e : PyData), vs = [v, pz] ∧ Dx K H v d ∧ smlD d = true ∧ Dx K H pz e ∧ smlD e = true ∧ (∀ ds, e = .list ds → ds.length ≤ 100000) ∧
  ((isTyD d = false ∧ ∀ dx H', Same H H' → H dx = none → H' dx = some (.xd [("value", v)]) → E (.ref (Z.c 0)) (some dx) H') ∨
   (isTyD d = true ∧ arePairsD e = false ∧ ∀ dx H', Same H H' → H dx = none → H' dx = some (.xd [("value", pz)]) → E (.ref (Z.c 1)) (some dx) H') ∨
   ∃ (t : Ty) (ps : List (Nat × Ty)), d = t.toD ∧ e = prD ps ∧ t.ok = true ∧ t.size ≤ 200 ∧ t.deep ≤ 60 ∧ okPs ps ∧ ps.length ≤ 1000 ∧
    ((200 < (t.put (lkT ps)).size ∧ ∀ dx H', Same H H' → H dx = none → H' dx = some (.xd [("value", .int 200)]) → E (.ref (Z.c 2)) (some dx) H') ∨
     ((t.put (lkT ps)).size ≤ 200 ∧ (t.put (lkT ps)).deep ≤ 60 ∧ ∀ x S H', Same H H' → Tr K shNo H' x (t.put (lkT ps)).toD S → (∀ a ∈ S, H a = none) → Q x H')))
theorem raise_whyC {K : PySem.W.Frag} {D C : Addr} {σ : St} {H : Hp} {Q : XK} {v : V} (T : WC K D C) (q : ∀ dx H', Same H H' → H dx = none → H' dx = some (.xd [("value", v)]) → Q (.ref C) (some dx) H') :
    tPmE C (spWhy K D) (tCons (tC v) tNil) σ H Q := by
  refine ⟨(by show 1 ≤ 1000; decide), fun a ha => ⟨a, C, v, rfl, T, upd_same, fun dx hdx hne => ?_⟩⟩
  obtain ⟨h1, h2, h3, h4⟩ := made_same (fs := [("value", v)]) ha hdx hne
  exact ⟨rfl, dx, _, h1, h2, h3, q dx _ h4 h3 upd_same⟩
theorem sc_put_types : FnScope ["one", "pairs"] ["one", "pairs"] (defScope s_put_types) := ⟨rfl, rfl, rfl, by decide +kernel, rfl, by decide +kernel, by decide +kernel⟩
theorem ok_put_types (F : Fs K mg) (T : Txt K mg) (Z : Exs P K mg) : FnOk P w K mg base (L2.CX P w) 64 F.f_put_types F.fd_put_types ["one", "pairs"] (spPutT Z K) := by
  have SC := sc_put_types
  have G_check_type : FnOk P w K mg base (L2.CX P w) 6 F.f_check_type F.fd_check_type ["value"] (spAsk Z K 0) := ok_check_type F T Z
  have B_check_type : Binds K F.fd_check_type ["value"] [] := F.d_check_type.fn.bindsN fun _ _ _ _ _ _ us hl => match us, hl with | [_], _ => rfl
  have G_apart : FnOk P w K mg base CX0 63 F.f_apart F.fd_apart ["one"] (spApart K) := ok_apart F
  have B_apart : Binds K F.fd_apart ["one"] [] := F.d_apart.fn.bindsN fun _ _ _ _ _ _ us hl => match us, hl with | [_], _ => rfl
  have G_are_pairs : FnOk P w K mg base CX0 6 F.f_are_pairs F.fd_are_pairs ["value"] (spPairs K) := ok_are_pairs F T Z
  have B_are_pairs : Binds K F.fd_are_pairs ["value"] [] := F.d_are_pairs.fn.bindsN fun _ _ _ _ _ _ us hl => match us, hl with | [_], _ => rfl
  have G_put_many : FnOk P w K mg base CX0 3 F.f_put_many F.fd_put_many ["one", "table"] (spMany K) := ok_put_many F T Z
  have B_put_many : Binds K F.fd_put_many ["one", "table"] [] := F.d_put_many.fn.bindsN fun _ _ _ _ _ _ us hl => match us, hl with | [_, _], _ => rfl
  have G_put_there : FnOk P w K mg base CX0 62 F.f_put_there F.fd_put_there ["one", "table"] (spPut K 60) := ok_put_there F 60
  have B_put_there : Binds K F.fd_put_there ["one", "table"] [] := F.d_put_there.fn.bindsN fun _ _ _ _ _ _ us hl => match us, hl with | [_, _], _ => rfl
  refine F.d_put_types.fn.ok sc_put_types (fun vs H Q E h => ?_) (fun cdv A outer s H vs Q E hr h => ?_)
  · obtain ⟨v, pz, d, e, rfl, _⟩ := h; rfl
  obtain ⟨v, pz, d, e, rfl, hd, hsd, he, hse, hle, q⟩ := h
  obtain ⟨uL, gL, rL⟩ := T.c_MOST_PARTS
  refine ⟨_, (pss_cons (ps_expr (pe_call G_check_type (hr.mono (by decide)) rfl F.d_check_type.gl F.d_check_type.fn.kp B_check_type .nil (passes_call (takes_of rfl rfl rfl rfl) (fun _ _ _ _ h => h)) (pa_cons (pv 0) pa_nil)))
    (pss_cons (ps_if (pt_not (pt_val (pe_call G_are_pairs (hr.mono (by decide)) rfl F.d_are_pairs.gl F.d_are_pairs.fn.kp B_are_pairs .nil pass0 (pa_cons (pv 1) pa_nil)))) (pss_one (ps_raise rfl (takes_of rfl rfl rfl rfl) (pmk_mkE (Z.m 1 (by decide)) (Z.raises rfl 1 (by decide)) Z.GW (hr.mono (by decide)) rfl (Z.g 1 "InvalidTypes" rfl) Z.bw (pa_cons (pv 1) pa_nil)))) pss_nil)
    (pss_cons (ps_if (pt_cmpR op_gt (pe_call G_put_many (hr.mono (by decide)) rfl F.d_put_many.gl F.d_put_many.fn.kp B_put_many .nil pass0 (pa_cons (pv 0) (pa_cons (pe_callTy (call_dictP (by rfl)) (by rfl) T.n_dict (by decide +kernel) (pa_cons (pv 1) pa_nil)) pa_nil))) (pe_glob (v := .int 200) rfl gL rL) (nomark _)) (pss_one (ps_raise rfl (takes_of rfl rfl rfl rfl) (pmk_mkE (Z.m 2 (by decide)) (Z.raises rfl 2 (by decide)) Z.GW (hr.mono (by decide)) rfl (Z.g 2 "TooMany" rfl) Z.bw (pa_cons (pe_glob (v := .int 200) rfl gL rL) pa_nil)))) pss_nil)
    (pss_one (ps_ret (pe_call G_apart (hr.mono (by decide)) rfl F.d_apart.gl F.d_apart.fn.kp B_apart .nil pass0 (pa_cons (pe_call G_put_there (hr.mono (by decide)) rfl F.d_put_there.gl F.d_put_there.fn.kp B_put_there .nil pass0 (pa_cons (pv 0) (pa_cons (pe_callTy (call_dictP (by rfl)) (by rfl) T.n_dict (by decide +kernel) (pa_cons (pv 1) pa_nil)) pa_nil))) pa_nil))))))), ?_⟩
  refine ⟨_, rfl, v, d, rfl, hd, hsd, fun hty H1 s1 => ?_, fun hno => ?_⟩
  rotate_left
  · rcases q with ⟨_, qe⟩ | ⟨hty, _⟩ | ⟨t, ps, rfl, rfl, ok, sz, _⟩
    · exact qe
    · rw [hno] at hty
      cases hty
    · rw [(isTy_iff _).mpr ⟨t, rfl, ok, sz⟩] at hno
      cases hno
  refine ⟨_, rfl, pz, e, rfl, he.mono s1, hse, hle, fun H2 s2 => ⟨_, rfl, ?_⟩⟩
  cases hp : arePairsD e with
  | false =>
    rcases q with ⟨hno, _⟩ | ⟨_, _, qe⟩ | ⟨t, ps, rfl, rfl, _, _, _, okp, _⟩
    · rw [hty] at hno
      cases hno
    · exact raise_why (Z.wc 1 (by decide)) (fun dx H' s h1 h2 => qe dx H' (s1.trans (s2.trans s)) ((s1.trans s2).free h1) h2) rfl
    · rw [pairs_ok okp] at hp
      cases hp
  | true =>
  rcases q with ⟨hno, _⟩ | ⟨_, hnp, _⟩ | ⟨t, ps, rfl, rfl, ok, sz, dp, okp, hpl, q⟩
  · rw [hty] at hno
    cases hno
  · rw [hnp] at hp
    cases hp
  have s02 := s1.trans s2
  obtain ⟨a, xs, rfl, hqa, hxs⟩ := (show Dx K H pz (.list (ps.map pairD)) from he).lst_inv
  obtain ⟨as, kvs, rfl, hpr, htab⟩ := dx_pairs hxs
  have hmk := htab.merge okp.nodup
  have hpr2 : ∀ {G : Hp}, Same H G → Paired (fun p (kv : Key × V) => SqT K G p [kV kv.1, kv.2]) as kvs := fun s => L2.Paired.mapP hpr fun _ _ z => same_seqT s z
  refine ⟨_, rfl, _, rfl, a, as, kvs, rfl, s02.seq hqa, hpr2 s02, fun tb htb => ?_⟩
  rw [hmk]
  have s3 := same_new htb (.dK kvs)
  refine ⟨v, t, tb, kvs, ps, H2, rfl, hd.mono s02, s3, htb, ok, sz, upd_same, htab.mono s02, hpl, okp.2, okp.nodup, fun H3 s4 => ?_⟩
  have s03 := s02.trans (s3.trans s4)
  refine ⟨_, _, rfl, rfl, _, rfl, ?_⟩
  refine ite2 (fun c => ?_) (fun c => ?_)
  · have hgt : 200 < (t.put (lkT ps)).size := by
      have := of_decide_eq_true c
      omega
    rcases q with ⟨_, qe⟩ | ⟨hle2, _⟩
    · exact raise_whyC (Z.wc 2 (by decide)) (fun dx H' s h1 h2 => qe dx H' (s03.trans s) (s03.free h1) h2)
    · omega
  · have hle2 : (t.put (lkT ps)).size ≤ 200 := by
      have : ¬ (200 : Int) < ((t.put (lkT ps)).size : Nat) := fun z => c (decide_eq_true z)
      omega
    rcases q with ⟨hgt, _⟩ | ⟨_, dp2, q⟩
    · omega
    refine ⟨_, rfl, _, rfl, a, as, kvs, rfl, s03.seq hqa, hpr2 s03, fun tb2 htb2 => ?_⟩
    rw [hmk]
    have s5 := same_new htb2 (.dK kvs)
    refine ⟨v, t, tb2, kvs, lkT ps, H3, rfl, hd.mono s03, s5, ok, dp, upd_same, (htab.mono s03).val, fun x S1 H4 s6 hx hf => ?_⟩
    have s04 := s03.trans (s5.trans s6)
    have hxd : Dx K H4 x (t.put (lkT ps)).toD := Tr.dx (fun v d ⟨n, u, _, e, hdx⟩ => hdx.mono (s5.trans s6)) hx
    refine ⟨x, t.put (lkT ps), H4, rfl, hxd, same_refl, ok_put (fun n u h => (okp.2 _ (lkT_mem h)).1) t ok, dp2, fun x2 S2 H5 s7 hx2 hf2 => ?_⟩
    exact q x2 S2 H5 (s04.trans s7) hx2 fun b hb => s04.free (hf2 b hb)
end
end K21

set_option Elab.async false
set_option linter.all false
set_option maxRecDepth 100000
set_option maxHeartbeats 1000000
namespace K21
open PySem PySem.Spec L2 Wy RZ
section
variable {P : Program} {w : World} {K : PySem.W.Frag} {mg : Str → Option Value} {base : Heap}
def odd1 : List PyData := [.none, .tuple [], .list [], .dict [], .str "unknown", .int 7, .tuple [.str "unknown"], .tuple [.str "unknown", .int (0 - 1)], .tuple [.str "unknown", .bool true], .tuple [.str "unknown", .str "0"], .tuple [.str "unknown", .int 0, .int 0], .list [.str "unknown", .int 0]]
def odd2 : List PyData := [.tuple [.str "kind", .str "num"], .tuple [.str "kind", .str "num", .tuple []], .tuple [.str "kind", .str "", .list []], .tuple [.str "kind", .str "Num", .list []], .tuple [.str "kind", .str "ninesigns", .list []], .tuple [.str "kind", .str "let", .list []], .tuple [.str "kind", .int 3, .list []]]
def odd3 (d : PyData) : List PyData := [.tuple [.str "kind", .str "num", .list [], .int 0], .tuple [.str "Kind", .str "num", .list []], .tuple [.str "kind", .none, .list []], .tuple [.str "kind", .str "fun", .list (List.replicate (4 : Int).toNat [d]).flatten], .tuple [.str "kind", .str "fun", .list [d, .none]], .tuple [.str "kind", .str "fun", .tuple [d, d]]]
def odd4 (d : PyData) : List PyData := [.tuple [.str "kind", .str "list", .list [.list [.str "unknown", .int 0]]], .tuple [.none, d], .tuple [.str "kind", .str "pair", d]]
def odds (d : PyData) : List PyData := ((odd1 ++ odd2) ++ odd3 d) ++ odd4 d
/-- the odd ones, new -/
def spOdd (K : PySem.W.Frag) : Sp := fun vs H Q _ => ∃ (v : V) (d : PyData) (M : Addr → Bool), vs = [v] ∧ Occ M H ∧ Dx K (outM M H) v d ∧ ∀ (p : Addr) (xs : List V) (H' : Hp), Same H H' → H p = none → H' p = some (.lst xs) → DxAll K (outM M H') xs (odds d) → Q (.ref p) H'
theorem sc__law_odd_types : FnScope ["one", "found"] ["one"] (defScope s__law_odd_types) := ⟨rfl, rfl, rfl, by decide +kernel, rfl, by decide +kernel, by decide +kernel⟩
theorem ok__law_odd_types (F : Fs K mg) (T : Txt K mg) (Z : Exs P K mg) : FnOk P w K mg base CX0 1 F.f__law_odd_types F.fd__law_odd_types ["one"] (spOdd K) := by
  have SC := sc__law_odd_types
  refine F.d__law_odd_types.fn.ok sc__law_odd_types (fun vs H Q E h => ?_) (fun cdv A outer s H vs Q E hr h => ?_)
  · obtain ⟨v, d, M, rfl, _⟩ := h; rfl
  obtain ⟨v, d, M, rfl, o, hd, q⟩ := h
  refine ⟨_, PSs.nox (pss_cons (ps_set (i := 1) SC.nd rfl (Or.inl rfl) (pe_lst (pa_cons pe_non (pa_cons (pe_tup pa_nil) (pa_cons (pe_lst pa_nil) (pa_cons pe_dnewK (pa_cons pe_str (pa_cons pe_int (pa_cons (pe_tup (pa_cons pe_str pa_nil)) (pa_cons (pe_tup (pa_cons pe_str (pa_cons (pe_op op_sub pe_int pe_int) pa_nil))) (pa_cons (pe_tup (pa_cons pe_str (pa_cons pe_bl pa_nil))) (pa_cons (pe_tup (pa_cons pe_str (pa_cons pe_str pa_nil))) (pa_cons (pe_tup (pa_cons pe_str (pa_cons pe_int (pa_cons pe_int pa_nil)))) (pa_cons (pe_lst (pa_cons pe_str (pa_cons pe_int pa_nil))) pa_nil))))))))))))))
    (pss_cons (ps_set (i := 1) SC.nd rfl (Or.inl rfl) (pe_op op_catS (pv 1) (pe_lst (pa_cons (pe_tup (pa_cons pe_str (pa_cons pe_str pa_nil))) (pa_cons (pe_tup (pa_cons pe_str (pa_cons pe_str (pa_cons (pe_tup pa_nil) pa_nil)))) (pa_cons (pe_tup (pa_cons pe_str (pa_cons pe_str (pa_cons (pe_lst pa_nil) pa_nil)))) (pa_cons (pe_tup (pa_cons pe_str (pa_cons pe_str (pa_cons (pe_lst pa_nil) pa_nil)))) (pa_cons (pe_tup (pa_cons pe_str (pa_cons pe_str (pa_cons (pe_lst pa_nil) pa_nil)))) (pa_cons (pe_tup (pa_cons pe_str (pa_cons pe_str (pa_cons (pe_lst pa_nil) pa_nil)))) (pa_cons (pe_tup (pa_cons pe_str (pa_cons pe_int (pa_cons (pe_lst pa_nil) pa_nil)))) pa_nil))))))))))
    (pss_cons (ps_set (i := 1) SC.nd rfl (Or.inl rfl) (pe_op op_catS (pv 1) (pe_lst (pa_cons (pe_tup (pa_cons pe_str (pa_cons pe_str (pa_cons (pe_lst pa_nil) (pa_cons pe_int pa_nil))))) (pa_cons (pe_tup (pa_cons pe_str (pa_cons pe_str (pa_cons (pe_lst pa_nil) pa_nil)))) (pa_cons (pe_tup (pa_cons pe_str (pa_cons pe_non (pa_cons (pe_lst pa_nil) pa_nil)))) (pa_cons (pe_tup (pa_cons pe_str (pa_cons pe_str (pa_cons (pe_op op_rep (pe_lst (pa_cons (pv 0) pa_nil)) pe_int) pa_nil)))) (pa_cons (pe_tup (pa_cons pe_str (pa_cons pe_str (pa_cons (pe_lst (pa_cons (pv 0) (pa_cons pe_non pa_nil))) pa_nil)))) (pa_cons (pe_tup (pa_cons pe_str (pa_cons pe_str (pa_cons (pe_tup (pa_cons (pv 0) (pa_cons (pv 0) pa_nil))) pa_nil)))) pa_nil)))))))))
    (pss_one (ps_ret (pe_op op_catS (pv 1) (pe_lst (pa_cons (pe_tup (pa_cons pe_str (pa_cons pe_str (pa_cons (pe_lst (pa_cons (pe_lst (pa_cons pe_str (pa_cons pe_int pa_nil))) pa_nil)) pa_nil)))) (pa_cons (pe_tup (pa_cons pe_non (pa_cons (pv 0) pa_nil))) (pa_cons (pe_tup (pa_cons pe_str (pa_cons pe_str (pa_cons (pv 0) pa_nil)))) pa_nil)))))))))), ?_⟩
  refine dr_seq (K := K) (M := M) (F := outM M H) (dr_lst (ds := odd1) ?_ (by decide)) o same_rfl (fun v1 H1 s1 h1 => ?_)
  · unfold odd1
    repeat (first | exact dra_nil | refine dra_cons ?_ ?_ | exact dr_non | exact dr_str | exact dr_int | exact dr_bl | exact dr_sub | exact dr_dict | exact dr_tup dra_nil (by decide) | exact dr_var rfl hd | refine dr_rep (dra_cons (dr_var rfl hd) dra_nil) (Nat.le_of_ble_eq_true rfl) (by decide) (by decide) | refine dr_tup ?_ (Nat.le_of_ble_eq_true rfl) | refine dr_lst ?_ (Nat.le_of_ble_eq_true rfl))
  have hd1 := hd.mono (outM_same s1)
  refine dr_seq (K := K) (M := M) (F := outM M H1) (dr_cat (ds := odd1) (es := odd2) (dr_var rfl h1) (dr_lst ?_ (by decide)) (by decide)) (o.mono s1) same_rfl (fun v2 H2 s2 h2 => ?_)
  · unfold odd2
    repeat (first | exact dra_nil | refine dra_cons ?_ ?_ | exact dr_non | exact dr_str | exact dr_int | exact dr_bl | exact dr_sub | exact dr_dict | exact dr_tup dra_nil (by decide) | exact dr_var rfl hd1 | refine dr_rep (dra_cons (dr_var rfl hd1) dra_nil) (Nat.le_of_ble_eq_true rfl) (by decide) (by decide) | refine dr_tup ?_ (Nat.le_of_ble_eq_true rfl) | refine dr_lst ?_ (Nat.le_of_ble_eq_true rfl))
  have hd2 := hd1.mono (outM_same s2)
  refine dr_seq (K := K) (M := M) (F := outM M H2) (dr_cat (ds := odd1 ++ odd2) (es := odd3 d) (dr_var rfl h2) (dr_lst ?_ (by show 6 ≤ 100000; decide)) (by show 19 + 6 ≤ 100000; decide)) (o.mono (s1.trans s2)) same_rfl (fun v3 H3 s3 h3 => ?_)
  · unfold odd3
    repeat (first | exact dra_nil | refine dra_cons ?_ ?_ | exact dr_non | exact dr_str | exact dr_int | exact dr_bl | exact dr_sub | exact dr_dict | exact dr_tup dra_nil (by decide) | exact dr_var rfl hd2 | refine dr_rep (dra_cons (dr_var rfl hd2) dra_nil) (Nat.le_of_ble_eq_true rfl) (by decide) (by decide) | refine dr_tup ?_ (Nat.le_of_ble_eq_true rfl) | refine dr_lst ?_ (Nat.le_of_ble_eq_true rfl))
  have hd3 := hd2.mono (outM_same s3)
  refine dr_retCat (K := K) (M := M) (F := outM M H3) (ds := (odd1 ++ odd2) ++ odd3 d) (es := odd4 d) (dr_var rfl h3) (dr_lst ?_ (by show 3 ≤ 100000; decide)) (by show 25 + 3 ≤ 100000; decide) (o.mono (s1.trans (s2.trans s3))) same_rfl (fun p4 xs4 H4 s4 hp4 hp5 h4 => ?_)
  · unfold odd4
    repeat (first | exact dra_nil | refine dra_cons ?_ ?_ | exact dr_non | exact dr_str | exact dr_int | exact dr_bl | exact dr_sub | exact dr_dict | exact dr_tup dra_nil (by decide) | exact dr_var rfl hd3 | refine dr_rep (dra_cons (dr_var rfl hd3) dra_nil) (Nat.le_of_ble_eq_true rfl) (by decide) (by decide) | refine dr_tup ?_ (Nat.le_of_ble_eq_true rfl) | refine dr_lst ?_ (Nat.le_of_ble_eq_true rfl))
  exact q p4 xs4 H4 (s1.trans (s2.trans (s3.trans s4))) ((s1.trans (s2.trans s3)).free hp4) hp5 h4
end
end K21

set_option Elab.async false
set_option linter.all false
set_option maxRecDepth 100000
set_option maxHeartbeats 1000000
namespace K21
open PySem PySem.Spec L2 Wy RZ
section
variable {P : Program} {w : World} {K : PySem.W.Frag} {mg : Str → Option Value} {base : Heap}
def hws : List (Str × Nat) := [("type", 0), ("types", 1), ("many", 2)]
/-- the words told of the i-th class -/
def hw (i : Nat) : List Str := hws.filterMap fun p => if i == p.2 then some p.1 else none
def RaisesAs (Z : Exs P K mg) (sp : Sp) (args : List V) (i : Nat) (u : V) (H : Hp) : Prop := ∀ (Q : VK) (E : XK), (∀ dx H', Same H H' → H dx = none → H' dx = some (.xd [("value", u)]) → E (.ref (Z.c i)) (some dx) H') → sp args H Q E
def spHeard (Z : Exs P K mg) (K : PySem.W.Frag) (S : Addr → Sp → Prop) : Sp := fun vs H Q _ => ∃ (f b : Addr) (sp : Sp) (args : List V) (u : V) (d : PyData) (i : Nat), vs = [.ref f, .ref b] ∧ S f sp ∧ SqL K H b args ∧ (args.length = 1 ∨ args.length = 2) ∧ i < 3 ∧ Dx K H u d ∧ d.showable = true ∧ d.shown.length ≤ sizeLine ∧ d.depth ≤ 60 ∧ RaisesAs Z sp args i u H ∧
  ∀ (r : Addr) (H' : Hp), Same H H' → H r = none → H' r = some (.lst ((hw i).map V.str ++ [.str d.shown])) → Q (.ref r) H'
def lenR (K : PySem.W.Frag) : List V → Hp → VK → Prop := fun xs H Q => ∃ x n, xs = [x] ∧ LenV K x H n ∧ Q (.int n) H
def tbHeard (K : PySem.W.Frag) (S : Addr → Sp → Prop) : WX → TS := fun W => tSeq (tIfS (tTest (tOp rEq (tCB (lenR K) (tCons (tVar 1) tNil)) (tC (.int 1)))) (tDrop (tCallAX 0 S (WE W) (tCons (tOp (rIxL K) (tVar 1) (tC (.int 0))) tNil))) tNext)
  (tIfS (tTest (tOp rEq (tCB (lenR K) (tCons (tVar 1) tNil)) (tC (.int 2)))) (tDrop (tCallAX 0 S (WE W) (tCons (tOp (rIxL K) (tVar 1) (tC (.int 0))) (tCons (tOp (rIxL K) (tVar 1) (tC (.int 1))) tNil)))) tNext)
theorem heard_try (Z : Exs P K mg) {S : Addr → Sp → Prop} {f b : Addr} {sp : Sp} {args : List V} {u : V} {i : Nat} {H : Hp} {D : Ends} (hS : S f sp) (hb : SqL K H b args) (hal : args.length = 1 ∨ args.length = 2) (hi : i < 3) (hra : RaisesAs Z sp args i u H)
    (rest : ∀ (a dx : Addr) (H' : Hp), Same H H' → H' a = none → H' dx = some (.xd [("value", u)]) → D.nx [some (.ref f), some (.ref b), some (.ref a), none, none, none, none] (upd H' a (exh a (Z.c i) dx))) :
    tbHeard K S (wKp K (.ref Z.cW) 3 (fun _ => tAsg (tVar 3) (gName 2)) D) D [some (.ref f), some (.ref b), some .non, none, none, none, none] H := by
  have fin : ∀ (dx : Addr) (H' : Hp), Same H H' → H dx = none → H' dx = some (.xd [("value", u)]) → wKp K (.ref Z.cW) 3 (fun _ => tAsg (tVar 3) (gName 2)) D (.ref (Z.c i)) (some dx) [some (.ref f), some (.ref b), some .non, none, none, none, none] H' := fun dx H' s h1 h2 =>
    ⟨Z.exm i hi, Z.c i, dx, rfl, rfl, fun a ha => ⟨_, rfl, fun ha2 => rest a dx H' s ha2 h2⟩⟩
  refine ⟨_, rfl, _, _, rfl, .inl ⟨_, hb, rfl⟩, rfl, _, rfl, ?_⟩
  rcases hal with hl | hl
  · obtain ⟨v, rfl⟩ : ∃ v, args = [v] := by
      match args, hl with
      | [v], _ => exact ⟨v, rfl⟩
    refine ite2 (fun _ => ?_) (fun c => absurd rfl c)
    exact ⟨f, sp, rfl, hS, _, rfl, b, _, 0, v, rfl, rfl, hb, at_of (j := 0) rfl rfl, hra _ _ fin⟩
  · obtain ⟨v, v2, rfl⟩ : ∃ v v2, args = [v, v2] := by
      match args, hl with
      | [v, v2], _ => exact ⟨v, v2, rfl⟩
    refine ite2 (fun c => by cases c) (fun _ => ?_)
    refine ⟨_, rfl, _, _, rfl, .inl ⟨_, hb, rfl⟩, rfl, _, rfl, ?_⟩
    refine ite2 (fun _ => ?_) (fun c => absurd rfl c)
    exact ⟨f, sp, rfl, hS, _, rfl, b, _, 0, v, rfl, rfl, hb, at_of (j := 0) rfl rfl, _, rfl, b, _, 1, v2, rfl, rfl, hb, at_of (j := 1) rfl rfl, hra _ _ fin⟩
theorem hw_step (i j : Nat) (wd : Str) (ws : List (Str × Nat)) : (ws ++ [(wd, j)]).filterMap (fun p => if i == p.2 then some p.1 else none) = ws.filterMap (fun p => if i == p.2 then some p.1 else none) ++ (if i == j then [wd] else []) := by
  rw [List.filterMap_append]
  congr 1
  by_cases h : (i == j) = true
  · rw [List.filterMap_cons]
    simp only [if_pos h]
    rfl
  · rw [List.filterMap_cons]
    simp only [if_neg h]
    rfl
theorem sc_heard : FnScope ["call", "parts", "caught", "e", "kinds", "word", "held"] ["call", "parts"] (defScope s__law_heard) := ⟨rfl, rfl, rfl, by decide +kernel, rfl, by decide +kernel, by decide +kernel⟩
theorem ok_heard (smK : SmK K) (F : Fs K mg) (T : Txt K mg) (Z : Exs P K mg) {S : Addr → Sp → Prop} {k : Nat} (A0 : ∀ f sp, S f sp → HeldX P w K mg base k f sp) : FnG P w K mg base CX0 (k + 1) F.f__law_heard F.fd__law_heard ["call", "parts"] (spHeard Z K S) := by
  have SC := sc_heard
  refine FnG.ok F.d__law_heard sc_heard (fun vs H Q E h => ?_) (fun cdv A outer s H vs Q E hr hgu h => ?_)
  · obtain ⟨f, b, sp, args, u, d, i, rfl, _⟩ := h
    rfl
  have hu := hr.units
  obtain ⟨f, b, sp, args, u, d, i, rfl, hS, hb, hal, hi, hd, hsh, hlen, hdep, hra, q⟩ := h
  refine ⟨_, PSs.nox (pss_cons (ps_set (i := 2) SC.nd rfl (Or.inl rfl) pe_non)
    (pss_cons (ps_try_keep (i := 3) (tb := tbHeard K S) rfl rfl rfl SC.nd rfl rfl ⟨rfl, by decide, .inl Z.gW⟩ (fun W pn xe tk _ =>
        pss_cons (ps_if (pt_cmpR op_eq (pe_callB call_len (by rfl) T.n_len (by decide +kernel) (pa_cons (pv 1) pa_nil)) pe_int (nomark _)) (pss_one (ps_expr (pe_callAX (i := 0) (E := WE W) A0 hr (fun σ => passAt tk σ) rfl (Or.inl rfl) (pa_cons (pe_ix ix_list (pv 1) pe_int (fun _ _ => rfl)) pa_nil)))) pss_nil)
        (pss_one (ps_if (pt_cmpR op_eq (pe_callB call_len (by rfl) T.n_len (by decide +kernel) (pa_cons (pv 1) pa_nil)) pe_int (nomark _)) (pss_one (ps_expr (pe_callAX (i := 0) (E := WE W) A0 hr (fun σ => passAt tk σ) rfl (Or.inl rfl) (pa_cons (pe_ix ix_list (pv 1) pe_int (fun _ _ => rfl)) (pa_cons (pe_ix ix_list (pv 1) pe_int (fun _ _ => rfl)) pa_nil))))) pss_nil)))
      (fun a oe pn => pss_one (ps_set (i := 2) SC.nd rfl (Or.inl rfl) (pv 3))))
    (pss_cons (ps_if (pt_cmpR op_isN (pv 2) pe_non (nomark _)) (pss_one (ps_ret pe_non)) pss_nil)
    (pss_cons (ps_set (i := 4) SC.nd rfl (Or.inl rfl) (pe_lst (pa_cons (pe_tup (pa_cons pe_str (pa_cons (pe_callB call_isH (by rfl) T.n_isinstance (by decide +kernel) (pa_cons (pv 2) (pa_cons (pe_glob (v := .ref (Z.c 0)) rfl (Z.g 0 "InvalidType" rfl) rfl) pa_nil))) pa_nil))) (pa_cons (pe_tup (pa_cons pe_str (pa_cons (pe_callB call_isH (by rfl) T.n_isinstance (by decide +kernel) (pa_cons (pv 2) (pa_cons (pe_glob (v := .ref (Z.c 1)) rfl (Z.g 1 "InvalidTypes" rfl) rfl) pa_nil))) pa_nil))) (pa_cons (pe_tup (pa_cons pe_str (pa_cons (pe_callB call_isH (by rfl) T.n_isinstance (by decide +kernel) (pa_cons (pv 2) (pa_cons (pe_glob (v := .ref (Z.c 2)) rfl (Z.g 2 "TooMany" rfl) rfl) pa_nil))) pa_nil))) pa_nil)))))
    (pss_one (ps_ret (pe_op op_cat (pe_lc (own := [("word", 5), ("held", 6)]) (g := gTup K 2 (gCons (gName 5) (gCons (gName 6) gNil))) (tt := tB (tVar 6)) (by rfl) SC.nd (pi_list (pv 4)) (blkOk_by (own := [("word", 5), ("held", 6)]) (N := ["call", "parts", "caught", "e", "kinds", "word", "held"]) (sc := defScope s__law_heard) (by decide +kernel)) (fun _ _ _ _ _ => (pg_tup (by rfl) (pgs_cons (pg_name (i := 5) SC.nd rfl (Or.inl rfl)) (pgs_cons (pg_name (i := 6) SC.nd rfl (Or.inl rfl)) pgs_nil)))) (fun _ _ _ _ _ => pts_one (pt_val (pv 6))) (fun _ _ _ _ _ => (pv 5))) (pe_lst (pa_cons (pe_callB (call_repr smK hgu hu) (by rfl) T.n_repr (by decide +kernel) (pa_cons (pe_hfld (pv 2)) pa_nil)) pa_nil))))))))), ?_⟩
  refine heard_try Z hS hb hal hi hra fun a dx H' sH ha hdx => ?_
  have nadx : dx ≠ a := fun z => by
    rw [z, ha] at hdx
    cases hdx
  have xat : XAt (upd H' a (exh a (Z.c i) dx)) (Z.c i) a dx [("value", u)] := ⟨upd_same, by rw [upd_ne nadx]; exact hdx⟩
  have sG : Same H (upd H' a (exh a (Z.c i) dx)) := sH.trans (same_new ha _)
  generalize upd H' a _ = G at xat sG ⊢
  refine ⟨_, rfl, rfl, _, rfl, ?_⟩
  refine ite2 (fun c => by cases c) (fun _ => ?_)
  refine ⟨_, rfl, a, Z.c i, dx, _, .ref (Z.c 0), _, (i == 0), rfl, xat, Z.exc i hi, .own _, Z.kit i 0 hi (by decide), small _ (by show 2 ≤ 100000; decide), fun t0 ht0 => ?_⟩
  have st0 := same_new ht0 (.tup [.str "type", .bl (i == 0)])
  have hT0 : upd G t0 (.tup [.str "type", .bl (i == 0)]) t0 = some (.tup [.str "type", .bl (i == 0)]) := upd_same
  have xat1 : XAt (upd G t0 (.tup [.str "type", .bl (i == 0)])) (Z.c i) a dx [("value", u)] := ⟨st0 _ _ xat.1, st0 _ _ xat.2⟩
  replace sG := sG.trans st0
  generalize upd G t0 _ = G0 at st0 hT0 xat1 sG ht0 ⊢
  refine ⟨_, rfl, a, Z.c i, dx, _, .ref (Z.c 1), _, (i == 1), rfl, xat1, Z.exc i hi, .own _, Z.kit i 1 hi (by decide), small _ (by show 2 ≤ 100000; decide), fun t1 ht1 => ?_⟩
  have st1 := same_new ht1 (.tup [.str "types", .bl (i == 1)])
  have hT1 : upd G0 t1 (.tup [.str "types", .bl (i == 1)]) t1 = some (.tup [.str "types", .bl (i == 1)]) := upd_same
  have xat2 : XAt (upd G0 t1 (.tup [.str "types", .bl (i == 1)])) (Z.c i) a dx [("value", u)] := ⟨st1 _ _ xat1.1, st1 _ _ xat1.2⟩
  replace sG := sG.trans st1
  replace hT0 := st1 _ _ hT0
  generalize upd G0 t1 _ = G1 at st1 hT1 xat2 sG ht1 hT0 ⊢
  refine ⟨_, rfl, a, Z.c i, dx, _, .ref (Z.c 2), _, (i == 2), rfl, xat2, Z.exc i hi, .own _, Z.kit i 2 hi (by decide), small _ (by show 2 ≤ 100000; decide), fun t2 ht2 => ?_⟩
  have st2 := same_new ht2 (.tup [.str "many", .bl (i == 2)])
  have hT2 : upd G1 t2 (.tup [.str "many", .bl (i == 2)]) t2 = some (.tup [.str "many", .bl (i == 2)]) := upd_same
  have xat3 : XAt (upd G1 t2 (.tup [.str "many", .bl (i == 2)])) (Z.c i) a dx [("value", u)] := ⟨st2 _ _ xat2.1, st2 _ _ xat2.2⟩
  replace sG := sG.trans st2
  replace hT0 := st2 _ _ hT0
  replace hT1 := st2 _ _ hT1
  generalize upd G1 t2 _ = G2 at st2 hT2 xat3 sG ht2 hT0 hT1 ⊢
  refine ⟨small _ (by show 3 ≤ 100000; decide), fun kl hkl => ?_⟩
  have sk := same_new hkl (.lst [.ref t0, .ref t1, .ref t2])
  replace hT0 := sk _ _ hT0
  replace hT1 := sk _ _ hT1
  replace hT2 := sk _ _ hT2
  replace sG := sG.trans sk
  have xatk : XAt (upd G2 kl (.lst [.ref t0, .ref t1, .ref t2])) (Z.c i) a dx [("value", u)] := ⟨sk _ _ xat3.1, sk _ _ xat3.2⟩
  have hkl2 : upd G2 kl (.lst [.ref t0, .ref t1, .ref t2]) kl = some (.lst [.ref t0, .ref t1, .ref t2]) := upd_same
  generalize upd G2 kl _ = G at xatk sG hkl2 hT0 hT1 hT2 ⊢
  refine ⟨_, rfl, kl, rfl, ⟨_, SqL.of hkl2⟩, fun D hD => ?_⟩
  refine lc_list (xs := [.ref t0, .ref t1, .ref t2]) (fun j H' => Same G H' ∧ H' D = some (.lst (((hws.take j).filterMap fun p => if i == p.2 then some p.1 else none).map V.str))) ⟨same_new hD _, upd_same⟩ ?_ ?_ ?_
  · rintro j H' _ ⟨z1, _⟩
    exact SqL.of (z1 _ _ hkl2)
  · rintro j x H' hj ⟨z1, z2⟩
    have item : ∃ (t : Addr) (wd : Str) (ex : Nat), x = .ref t ∧ G t = some (.tup [.str wd, .bl (i == ex)]) ∧ hws.take (j + 1) = hws.take j ++ [(wd, ex)] ∧ j < 3 := by
      match j, hj with
      | 0, hj =>
        obtain rfl : V.ref t0 = x := Option.some.inj hj
        exact ⟨t0, "type", 0, rfl, hT0, rfl, by decide⟩
      | 1, hj =>
        obtain rfl : V.ref t1 = x := Option.some.inj hj
        exact ⟨t1, "types", 1, rfl, hT1, rfl, by decide⟩
      | 2, hj =>
        obtain rfl : V.ref t2 = x := Option.some.inj hj
        exact ⟨t2, "many", 2, rfl, hT2, rfl, by decide⟩
      | j + 3, hj => simp at hj
    obtain ⟨t, wd, ex, rfl, ht, htk, hjn⟩ := item
    refine ⟨t, _, rfl, SqT.of (z1 _ _ ht), rfl, _, _, rfl, _, _, rfl, rfl, rfl, _, rfl, _, rfl, ?_⟩
    rw [htk, hw_step]
    have hl : (((hws.take j).filterMap fun p => if i == p.2 then some p.1 else none).map V.str).length ≤ 100000 := by
      rw [List.length_map]
      exact Nat.le_trans (List.length_filterMap_le ..) (Nat.le_trans (by rw [List.length_take]; exact Nat.min_le_left ..) (show j ≤ 100000 by omega))
    refine ite2 (fun c => ?_) (fun c => ?_)
    · refine ⟨_, rfl, _, z2, Nat.lt_of_le_of_lt hl (by decide), fun p o e => ?_, ?_⟩
      · rw [upd_ne (ne_of_none e hD)]
        exact z1 _ _ e
      · rw [upd_same, if_pos c, List.map_append]
        rfl
    · rw [if_neg c, List.append_nil]
      exact ⟨z1, z2⟩
  · rintro H2 ⟨z1, z2⟩
    have hh : (hws.take 3).filterMap (fun p => if i == p.2 then some p.1 else none) = hw i := rfl
    change H2 D = some (.lst (((hws.take 3).filterMap fun p => if i == p.2 then some p.1 else none).map V.str)) at z2
    rw [hh] at z2
    have hwl : (hw i).length ≤ 3 := List.length_filterMap_le ..
    refine ⟨_, rfl, a, Z.c i, dx, _, u, rfl, ⟨z1 _ _ xatk.1, z1 _ _ xatk.2⟩, Z.xf i hi, Z.val i hi, rfl, ?_⟩
    refine ⟨u, d, rfl, hd.mono (sG.trans z1), hsh, hlen, hdep, small _ (by show 1 ≤ 100000; decide), fun l hl => ?_⟩
    have sl := same_new hl (.lst [.str d.shown])
    refine ⟨D, l, _, _, rfl, rfl, sl _ _ z2, upd_same, small _ (by rw [List.length_map]; show (hw i).length + 1 ≤ 100000; omega), fun r hr0 => ?_⟩
    have s3 := sG.trans (z1.trans sl)
    exact q r _ (s3.trans (same_new hr0 _)) (s3.free hr0) upd_same
end
end K21

set_option Elab.async false
set_option linter.all false
set_option maxRecDepth 100000
set_option maxHeartbeats 1000000
namespace K21
open PySem PySem.Spec L2 Wy RZ
section
variable {P : Program} {w : World} {K : PySem.W.Frag} {mg : Str → Option Value} {base : Heap}
theorem Kp.same {p : Addr} {H H' : Hp} (k : Kp p H H') : Same (outA H p) (outA H' p) := outA_same k
theorem Kp.refl {p : Addr} {H : Hp} : Kp p H H := fun _ _ _ e => e
theorem Kp.trans {p : Addr} {A B C : Hp} (h : Kp p A B) (k : Kp p B C) : Kp p A C := fun b o n e => k b o n (h b o n e)
theorem Kp.of_same {p : Addr} {A B : Hp} (h : Same A B) : Kp p A B := fun b o _ e => h b o e
theorem Kp.of_ne {p : Addr} {A B : Hp} (h : ∀ b, b ≠ p → B b = A b) : Kp p A B := fun b o n e => (h b n).trans e
theorem Purse.lst {H : Hp} {p l : Addr} {n : Nat} (h : Purse H p l n) : ∃ xs, H p = some (.lst xs) := by
  obtain ⟨cs, i, cur, k, seed, a1, _⟩ := h
  exact ⟨_, a1⟩
theorem Purse.kp {H H' : Hp} {p l : Addr} {n : Nat} (h : Purse H p l n) (s : Same H H') : Purse H' p l n := h.ex (fun o e => s _ _ e) fun o e => s _ _ e
def numD : PyData := .tuple [.str "kind", .str "num", .list []]
def op1 : List PyData := [.none, .tuple [], .dict [], .str "pairs", .int 0, .tuple [.tuple [.int 0, numD]], .list [.none], .list [.tuple [.int 0]], .list [.tuple [.int 0, .none]], .list [.tuple [.int 1, numD], .tuple [.int 0, numD]], .list [.tuple [.int 0, numD], .tuple [.int 0, numD]], .list [.tuple [.bool true, numD]], .list [.tuple [.int (0 - 1), numD]]]
def op2 : List PyData := [.list [.list [.int 0, numD]], .list [.tuple [.str "0", numD]], .list [.tuple [.int 0, numD, .int 0]], .list [.tuple [.int 0, .tuple [.str "kind", .str "num", .tuple []]]], .list [.tuple [.int 0, numD], .tuple [.int 1, .tuple [.str "unknown", .int (0 - 1)]]]]
def spOddP (K : PySem.W.Frag) : Sp := fun vs H Q _ => ∃ (M : Addr → Bool), vs = [] ∧ Occ M H ∧ ∀ (p : Addr) (xs : List V) (H' : Hp), Same H H' → H p = none → H' p = some (.lst xs) → DxAll K (outM M H') xs (op1 ++ op2) → Q (.ref p) H'
theorem sc__law_odd_pairs : FnScope ["num", "found"] [] (defScope s__law_odd_pairs) := ⟨rfl, rfl, rfl, by decide +kernel, rfl, by decide +kernel, by decide +kernel⟩
theorem ok__law_odd_pairs (F : Fs K mg) (T : Txt K mg) (Z : Exs P K mg) : FnOk P w K mg base CX0 1 F.f__law_odd_pairs F.fd__law_odd_pairs [] (spOddP K) := by
  have SC := sc__law_odd_pairs
  refine F.d__law_odd_pairs.fn.ok sc__law_odd_pairs (fun vs H Q E h => ?_) (fun cdv A outer s H vs Q E hr h => ?_)
  · obtain ⟨M, rfl, _⟩ := h; rfl
  obtain ⟨M, rfl, o, q⟩ := h
  refine ⟨_, PSs.nox (pss_cons (ps_set (i := 0) SC.nd rfl (Or.inl rfl) (pe_tup (pa_cons pe_str (pa_cons pe_str (pa_cons (pe_lst pa_nil) pa_nil)))))
    (pss_cons (ps_set (i := 1) SC.nd rfl (Or.inl rfl) (pe_lst (pa_cons pe_non (pa_cons (pe_tup pa_nil) (pa_cons pe_dnewK (pa_cons pe_str (pa_cons pe_int (pa_cons (pe_tup (pa_cons (pe_tup (pa_cons pe_int (pa_cons (pv 0) pa_nil))) pa_nil)) (pa_cons (pe_lst (pa_cons pe_non pa_nil)) (pa_cons (pe_lst (pa_cons (pe_tup (pa_cons pe_int pa_nil)) pa_nil)) (pa_cons (pe_lst (pa_cons (pe_tup (pa_cons pe_int (pa_cons pe_non pa_nil))) pa_nil)) (pa_cons (pe_lst (pa_cons (pe_tup (pa_cons pe_int (pa_cons (pv 0) pa_nil))) (pa_cons (pe_tup (pa_cons pe_int (pa_cons (pv 0) pa_nil))) pa_nil))) (pa_cons (pe_lst (pa_cons (pe_tup (pa_cons pe_int (pa_cons (pv 0) pa_nil))) (pa_cons (pe_tup (pa_cons pe_int (pa_cons (pv 0) pa_nil))) pa_nil))) (pa_cons (pe_lst (pa_cons (pe_tup (pa_cons pe_bl (pa_cons (pv 0) pa_nil))) pa_nil)) (pa_cons (pe_lst (pa_cons (pe_tup (pa_cons (pe_op op_sub pe_int pe_int) (pa_cons (pv 0) pa_nil))) pa_nil)) pa_nil)))))))))))))))
    (pss_one (ps_ret (pe_op op_catS (pv 1) (pe_lst (pa_cons (pe_lst (pa_cons (pe_lst (pa_cons pe_int (pa_cons (pv 0) pa_nil))) pa_nil)) (pa_cons (pe_lst (pa_cons (pe_tup (pa_cons pe_str (pa_cons (pv 0) pa_nil))) pa_nil)) (pa_cons (pe_lst (pa_cons (pe_tup (pa_cons pe_int (pa_cons (pv 0) (pa_cons pe_int pa_nil)))) pa_nil)) (pa_cons (pe_lst (pa_cons (pe_tup (pa_cons pe_int (pa_cons (pe_tup (pa_cons pe_str (pa_cons pe_str (pa_cons (pe_tup pa_nil) pa_nil)))) pa_nil))) pa_nil)) (pa_cons (pe_lst (pa_cons (pe_tup (pa_cons pe_int (pa_cons (pv 0) pa_nil))) (pa_cons (pe_tup (pa_cons pe_int (pa_cons (pe_tup (pa_cons pe_str (pa_cons (pe_op op_sub pe_int pe_int) pa_nil))) pa_nil))) pa_nil))) pa_nil))))))))))), ?_⟩
  refine dr_seq (K := K) (M := M) (F := outM M H) (d := numD) (dr_tup (dra_cons dr_str (dra_cons dr_str (dra_cons (dr_lst dra_nil (by decide)) dra_nil))) (by decide)) o same_rfl (fun v0 H0 s0 hd => ?_)
  refine dr_seq (K := K) (M := M) (F := outM M H0) (dr_lst (ds := op1) ?_ (by decide)) (o.mono s0) same_rfl (fun v1 H1 s1 h1 => ?_)
  · unfold op1
    repeat (first | exact dra_nil | refine dra_cons ?_ ?_ | exact dr_non | exact dr_str | exact dr_int | exact dr_bl | exact dr_sub | exact dr_dict | exact dr_tup dra_nil (by decide) | exact dr_var rfl hd | refine dr_tup ?_ (Nat.le_of_ble_eq_true rfl) | refine dr_lst ?_ (Nat.le_of_ble_eq_true rfl))
  have hd1 := hd.mono (outM_same s1)
  refine dr_retCat (K := K) (M := M) (F := outM M H1) (ds := op1) (es := op2) (dr_var rfl h1) (dr_lst ?_ (by decide)) (by decide) (o.mono (s0.trans s1)) same_rfl (fun p4 xs4 H4 s4 hp4 hp5 h4 => ?_)
  · unfold op2
    repeat (first | exact dra_nil | refine dra_cons ?_ ?_ | exact dr_non | exact dr_str | exact dr_int | exact dr_bl | exact dr_sub | exact dr_dict | exact dr_tup dra_nil (by decide) | exact dr_var rfl hd1 | refine dr_tup ?_ (Nat.le_of_ble_eq_true rfl) | refine dr_lst ?_ (Nat.le_of_ble_eq_true rfl))
  exact q p4 xs4 H4 (s0.trans (s1.trans s4)) ((s0.trans s1).free hp4) hp5 h4
/-- pairs as they stand: each a tuple laid anew -/
inductive PrAt (K : PySem.W.Frag) (H : Hp) : List V → List (Nat × Ty) → Prop
  | nil : PrAt K H [] []
  | cons {t : Addr} {n : Nat} {x : V} {u : Ty} {vs : List V} {ps : List (Nat × Ty)} : H t = some (.tup [.int (n : Int), x]) → Dx K H x u.toD → PrAt K H vs ps → PrAt K H (.ref t :: vs) ((n, u) :: ps)
theorem PrAt.mono {H H' : Hp} (s : Same H H') : ∀ {vs : List V} {ps : List (Nat × Ty)}, PrAt K H vs ps → PrAt K H' vs ps
  | _, _, .nil => .nil
  | _, _, .cons a b c => .cons (s _ _ a) (b.mono s) (c.mono s)
theorem PrAt.snoc {H : Hp} {t : Addr} {n : Nat} {x : V} {u : Ty} (h1 : H t = some (.tup [.int (n : Int), x])) (h2 : Dx K H x u.toD) : ∀ {vs : List V} {ps : List (Nat × Ty)}, PrAt K H vs ps → PrAt K H (vs ++ [.ref t]) (ps ++ [(n, u)])
  | _, _, .nil => .cons h1 h2 .nil
  | _, _, .cons a b c => .cons a b (c.snoc h1 h2)
theorem PrAt.dx {H : Hp} : ∀ {vs : List V} {ps : List (Nat × Ty)}, PrAt K H vs ps → DxAll K H vs (ps.map pairD)
  | _, _, .nil => .nil
  | _, _, .cons a b c => .cons (.tup (SqT.of a) (.cons (.int _) (.cons b .nil))) c.dx
theorem PrAt.length {H : Hp} : ∀ {vs : List V} {ps : List (Nat × Ty)}, PrAt K H vs ps → vs.length = ps.length
  | _, _, .nil => rfl
  | _, _, .cons _ _ c => congrArg Nat.succ c.length
/-- pairs as the law draws them -/
def goodPs (ps : List (Nat × Ty)) : Prop := (ps.map (·.1)).Pairwise (· < ·) ∧ ps.length ≤ 4 ∧ ∀ p ∈ ps, p.1 < 7 ∧ p.2.ok = true ∧ p.2.deep ≤ 3 ∧ p.2.size ≤ 7 ∧ ∀ n ∈ numT p.2, n < 4
def spPairsL (K : PySem.W.Frag) : Sp := fun vs H Q _ => ∃ (p lc : Addr) (n : Nat), vs = [.ref p, .int 4] ∧ Purse H p lc n ∧ n + 61 ≤ 50000 ∧
  ∀ (r : Addr) (acc : List V) (ps : List (Nat × Ty)) (H' : Hp), H r = none → H' r = some (.lst acc) → PrAt K (newH H H') acc ps → goodPs ps → Purse H' p lc (n + 61) → Kp p H H' → Q (.ref r) H'
def teNums : TE := tCall spDraw [] E0 (tCons (tVar 0) (tCons (tOp (rI0 fun i j => .int (i + j)) (tVar 1) (tC (.int 3))) tNil))
def tePairs (K : PySem.W.Frag) : TE := tTup (tCons (tVar 3) (tCons (tCall (spDrawn K 2) [] E0 (tCons (tVar 0) (tCons (tVar 1) (tCons (tC (.int 2)) tNil)))) tNil))
theorem sc__law_pairs : FnScope ["purse", "many", "numbers", "number", "turn"] ["purse", "many"] (defScope s__law_pairs) := ⟨rfl, rfl, rfl, by decide +kernel, rfl, by decide +kernel, by decide +kernel⟩
theorem ok__law_pairs (F : Fs K mg) (T : Txt K mg) (Z : Exs P K mg) : FnOk P w K mg base CX0 7 F.f__law_pairs F.fd__law_pairs ["purse", "many"] (spPairsL K) := by
  have SC := sc__law_pairs
  have G__law_drawn_type : FnOk P w K mg base CX0 6 F.f__law_drawn_type F.fd__law_drawn_type ["purse", "many", "deep"] (spDrawn K 2) := ok_drawn F T Z 2
  have B__law_drawn_type : Binds K F.fd__law_drawn_type ["purse", "many", "deep"] [] := F.d__law_drawn_type.fn.bindsN fun _ _ _ _ _ _ us hl => match us, hl with | [_, _, _], _ => rfl
  have G__law_draw : FnOk P w K mg base CX0 1 F.f__law_draw F.fd__law_draw ["purse", "many"] (spDraw) := ok_draw F.d__law_draw T.t0
  have B__law_draw : Binds K F.fd__law_draw ["purse", "many"] [] := F.d__law_draw.fn.bindsN fun _ _ _ _ _ _ us hl => match us, hl with | [_, _], _ => rfl
  refine F.d__law_pairs.fn.ok sc__law_pairs (fun vs H Q E h => ?_) (fun cdv A outer s H vs Q E hr h => ?_)
  · obtain ⟨p, lc, n, rfl, _⟩ := h; rfl
  obtain ⟨p, lc, n, rfl, hP, hn, q⟩ := h
  have G_law_draw := G__law_draw
  refine ⟨_, PSs.nox (pss_cons (ps_set (i := 2) SC.nd rfl (Or.inl rfl) (pe_callB (cr_sortedSet rfl) (by rfl) T.n_sorted (by decide +kernel) (pa_cons (pe_callTy (cr_setOfI rfl) (by rfl) T.n_set (by decide +kernel) (pa_cons (pe_lc (own := [("turn", 4)]) (g := (gName 4)) (te := teNums) (by rfl) SC.nd (pi_range1 rfl T.n_range (pa_cons (pe_call G__law_draw (hr.mono (by decide)) rfl F.d__law_draw.gl F.d__law_draw.fn.kp B__law_draw .nil pass0 (pa_cons (pv 0) (pa_cons pe_int pa_nil))) pa_nil)) (blkOk_by (own := [("turn", 4)]) (N := ["purse", "many", "numbers", "number", "turn"]) (sc := defScope s__law_pairs) (by decide +kernel)) (fun _ _ _ _ _ => (pg_name (i := 4) SC.nd rfl (Or.inl rfl))) (fun _ _ _ _ _ => pts_nil) (fun _ _ _ _ _ => (pe_call G__law_draw (hr.mono (by decide)) rfl F.d__law_draw.gl F.d__law_draw.fn.kp B__law_draw .nil pass0 (pa_cons (pv 0) (pa_cons (pe_op op_add (pv 1) pe_int) pa_nil))))) pa_nil)) pa_nil)))
    (pss_one (ps_ret (pe_lc (own := [("number", 3)]) (g := (gName 3)) (te := tePairs K) (by rfl) SC.nd (pi_list (pv 2)) (blkOk_by (own := [("number", 3)]) (N := ["purse", "many", "numbers", "number", "turn"]) (sc := defScope s__law_pairs) (by decide +kernel)) (fun _ _ _ _ _ => (pg_name (i := 3) SC.nd rfl (Or.inl rfl))) (fun _ _ _ _ _ => pts_nil) (fun _ _ _ _ _ => (pe_tup (pa_cons (pv 3) (pa_cons (pe_call G__law_drawn_type (hr.mono (by decide)) rfl F.d__law_drawn_type.gl F.d__law_drawn_type.fn.kp B__law_drawn_type .nil pass0 (pa_cons (pv 0) (pa_cons (pv 1) (pa_cons pe_int pa_nil)))) pa_nil)))))))), ?_⟩
  have c2 : cT 2 = 14 := rfl
  refine ⟨_, rfl, p, lc, 5, n, rfl, hP, by omega, by decide, by decide, fun r H1 hr0 hr1 hP1 hk1 => ?_⟩
  refine ⟨r, rfl, by omega, by omega, fun D hD => ?_⟩
  obtain ⟨⟨op1', hpo1⟩, ⟨oc1, hco1⟩, hcp⟩ := hP1.at_
  have hPD : p ≠ D := ne_of_none hpo1 hD
  have hcD : lc ≠ D := ne_of_none hco1 hD
  refine lc_range (fun j G => j ≤ 4 ∧ ∃ ns : List Int, G D = some (.lst (ns.map V.int)) ∧ ns.length = j ∧ (∀ k ∈ ns, 0 ≤ k ∧ k < 7) ∧ Purse G p lc (n + 1 + j) ∧ ∀ b o, b ≠ p → b ≠ D → H1 b = some o → G b = some o)
    ⟨Nat.zero_le _, [], upd_same, rfl, fun k z => (by cases z), (hP1.ex (fun o e => by rw [upd_ne hPD]; exact e) fun o e => by rw [upd_ne hcD]; exact e).mono (by omega), fun b o _ hb e => by rw [upd_ne hb]; exact e⟩ ?_ ?_
  · rintro j G hj ⟨hj4, ns, y1, y2, y3, y4, y5⟩
    have hj3 : j ≤ 3 := by omega
    refine ⟨rfl, _, rfl, _, rfl, _, _, rfl, rfl, p, lc, 7, _, rfl, y4, by omega, by decide, by decide, fun k H2 hk0 hk1' hP2 hk2 => ?_⟩
    refine ⟨ns.map V.int, (hk2 D hPD.symm).trans y1, Nat.lt_of_le_of_lt (show _ ≤ 100000 by rw [List.length_map]; omega) (by decide), by omega, ns ++ [k], by rw [upd_same, List.map_append]; rfl, by rw [List.length_append, y2]; rfl, fun x hx => ?_, ?_, fun b o hb hbD e => ?_⟩
    · rcases List.mem_append.mp hx with hx | hx
      · exact y3 x hx
      · rw [List.mem_singleton.mp hx]
        omega
    · refine (hP2.ex (fun o e => ?_) fun o e => ?_).mono (by omega)
      · rw [upd_ne hPD]
        exact e
      · rw [upd_ne hcD]
        exact e
    · rw [upd_ne hbD, hk2 b hb]
      exact y5 b o hb hbD e
  rintro G ⟨hj4, ns, y1, y2, y3, y4, y5⟩
  refine ⟨D, ns, rfl, SqL.of y1, by omega, fun q1 m hq1 hm => ?_⟩
  refine ⟨q1, _, m, rfl, upd_same, by omega, fun ks q2 hasc hmem hlen hq2 => ?_⟩
  generalize SetO _ q1 _ m = oS at hq2 ⊢
  have sG := (same_new hq1 oS).trans (same_new hq2 (.lst (ks.map V.int)))
  have hl2 : upd (upd G q1 oS) q2 (.lst (ks.map V.int)) q2 = some (.lst (ks.map V.int)) := upd_same
  have hGq2 : G q2 = none := (same_new hq1 oS).free hq2
  generalize upd (upd G q1 oS) q2 (.lst (ks.map V.int)) = G2 at sG hl2 ⊢
  have hq2p : q2 ≠ p := fun z => by
    obtain ⟨⟨o, e⟩, _, _⟩ := y4.at_
    rw [z, e] at hGq2
    cases hGq2
  have kHG : Kp p H G2 := fun b o hb e => sG _ _ (y5 b o hb (fun z => by
    have e1 := (hk1 b hb).trans e
    rw [z, hD] at e1
    cases e1) ((hk1 b hb).trans e))
  have hPG : Purse G2 p lc (n + 5) := (y4.kp sG).mono (by omega)
  have hks : ∀ k ∈ ks, 0 ≤ k ∧ k < 7 := fun k hk => y3 k (of_decide_eq_true ((hmem k).mp hk))
  have hkl : ks.length ≤ 4 := by omega
  clear y1 y2 y3 y4 y5 hmem hGq2 hq1 hq2 hP1 hk1 hP
  obtain ⟨⟨opG, hpG⟩, ⟨ocG, hcG⟩, _⟩ := hPG.at_
  refine ⟨_, rfl, q2, rfl, ⟨_, SqL.of hl2⟩, fun D2 hD2 => ?_⟩
  have hpD : p ≠ D2 := ne_of_none hpG hD2
  have hcD2 : lc ≠ D2 := ne_of_none hcG hD2
  have hqD : q2 ≠ D2 := ne_of_none hl2 hD2
  refine lc_list (xs := ks.map V.int) (fun i G => ∃ acc ps, G D2 = some (.lst acc) ∧ PrAt K (newH (upd G2 D2 (.lst [])) G) acc ps ∧ ps.map (fun p => (p.1 : Int)) = ks.take i ∧ (∀ p ∈ ps, p.1 < 7 ∧ p.2.ok = true ∧ p.2.deep ≤ 3 ∧ p.2.size ≤ 7 ∧ ∀ n ∈ numT p.2, n < 4) ∧ Purse G p lc (n + 5 + i * 14) ∧ ∀ b o, b ≠ p → b ≠ D2 → G2 b = some o → G b = some o)
    ⟨[], [], upd_same, .nil, rfl, fun p z => (by cases z), (hPG.ex (fun o e => by rw [upd_ne hpD]; exact e) fun o e => by rw [upd_ne hcD2]; exact e).mono (by omega), fun b o _ hb e => by rw [upd_ne hb]; exact e⟩ ?_ ?_ ?_
  · rintro i G' _ ⟨acc, ps, z1, z2, z3, z4, z5, z6⟩
    exact SqL.of (z6 q2 _ hq2p hqD hl2)
  · rintro i x G' hi ⟨acc, ps, z1, z2, z3, z4, z5, z6⟩
    rw [List.getElem?_map] at hi
    obtain ⟨k, hk, rfl⟩ := Option.map_eq_some_iff.mp hi
    have hkm := hks k (List.mem_of_getElem? hk)
    have hil := (List.getElem?_eq_some_iff.mp hk).1
    refine ⟨rfl, _, rfl, _, rfl, _, rfl, p, lc, 4, _, rfl, z5, by rw [c2]; omega, by decide, by decide, fun x t H3 hx hok hdeep hsize hnum hP3 hk3 => ?_⟩
    refine ⟨small _ (by show 2 ≤ 100000; decide), fun t0 ht0 => ?_⟩
    have st := same_new ht0 (.tup [V.int k, x])
    have occG : ∀ b, G' b = none → upd G2 D2 (.lst []) b = none := fun b e => by
      have nD : b ≠ D2 := fun z => by
        rw [z, z1] at e
        cases e
      have np : b ≠ p := fun z => by
        obtain ⟨⟨o, h⟩, _, _⟩ := z5.at_
        rw [z, h] at e
        cases e
      rw [upd_ne nD]
      cases q3 : G2 b with
      | none => rfl
      | some o =>
        rw [z6 b o np nD q3] at e
        cases e
    have nof : ∀ {b : Addr}, upd G2 D2 (.lst []) b = none → b ≠ D2 ∧ b ≠ p := fun {b} e => by
      refine ⟨fun z => ?_, fun z => ?_⟩
      · rw [z, upd_same] at e
        cases e
      · rw [z, upd_ne hpD, hpG] at e
        cases e
    have hG0 : G' t0 = none := hk3.occ hP3 t0 ht0
    have hD3 : H3 D2 = some (.lst acc) := hk3 _ _ hpD.symm z1
    have htD : t0 ≠ D2 := fun z => by
      rw [z, hD3] at ht0
      cases ht0
    have hal := z2.length
    have hpl : ps.length = i := by
      have := congrArg List.length z3
      rw [List.length_map, List.length_take] at this
      omega
    refine ⟨acc, st _ _ hD3, Nat.lt_of_le_of_lt (show acc.length ≤ 100 by omega) (by decide), acc ++ [.ref t0], ps ++ [(k.toNat, t)], upd_same, ?_, ?_, ?_, ?_, fun b o hb hbD e => ?_⟩
    · refine PrAt.snoc (x := x) ?_ (hx.mono (newH_mono occG fun b o e e2 => ?_)) (z2.mono (newH_mono (fun _ e => e) fun b o e e2 => ?_))
      · rw [newH_of (occG _ hG0), upd_ne htD, upd_same, Int.toNat_of_nonneg hkm.1]
      · rw [upd_ne (nof (occG b e)).1]
        exact st _ _ e2
      · rw [upd_ne (nof e).1]
        exact st _ _ (hk3 _ _ (nof e).2 e2)
    · rw [List.map_append, z3, List.take_add_one, hk]
      show ks.take i ++ [((k.toNat : Nat) : Int)] = _
      rw [Int.toNat_of_nonneg hkm.1]
      rfl
    · intro p' hp'
      rcases List.mem_append.mp hp' with hp' | hp'
      · exact z4 p' hp'
      · rw [List.mem_singleton.mp hp']
        exact ⟨by show k.toNat < 7; omega, hok, hdeep, hsize, fun n hn => by have := hnum n hn; omega⟩
    · refine ((hP3.kp st).ex (fun o e => ?_) fun o e => ?_).mono (by rw [c2, Nat.succ_mul]; omega)
      · rw [upd_ne hpD]
        exact e
      · rw [upd_ne hcD2]
        exact e
    · rw [upd_ne hbD]
      exact st _ _ (hk3 _ _ hb (z6 b o hb hbD e))
  · rintro G' ⟨acc, ps, z1, z2, z3, z4, z5, z6⟩
    rw [List.length_map] at z3 z5
    rw [List.take_length] at z3
    have hpl : ps.length = ks.length := by
      have := congrArg List.length z3
      rw [List.length_map] at this
      exact this
    refine q D2 acc ps G' (kHG.occ hPG _ hD2) z1 (z2.mono (newH_mono (fun b e => ?_) fun _ _ _ e => e)) ⟨?_, by omega, z4⟩ (z5.mono (by omega)) fun b o hb e => ?_
    · have nD : b ≠ D2 := fun z => by
        rw [z, upd_same] at e
        cases e
      rw [upd_ne nD] at e
      exact kHG.occ hPG b e
    · rw [List.pairwise_map]
      rw [← z3, List.pairwise_map] at hasc
      exact hasc.imp fun h => by exact_mod_cast h
    · have e2 := kHG b o hb e
      exact z6 b o hb (fun z => by rw [z, hD2] at e2; cases e2) e2
end
end K21

set_option Elab.async false
set_option linter.all false
set_option maxRecDepth 100000
set_option maxHeartbeats 1000000
namespace K21
open PySem PySem.Spec L2 Wy RZ
section
variable {P : Program} {w : World} {K : PySem.W.Frag} {mg : Str → Option Value} {base : Heap}
def rDictP (K : PySem.W.Frag) : List V → Hp → VK → Prop := fun xs H Q => ∃ (a : Addr) (ps : List Addr) (kvs : List (Key × V)), xs = [.ref a] ∧ SqL K H a (ps.map V.ref) ∧ Paired (fun p kv => SqT K H p [kV kv.1, kv.2]) ps kvs ∧ ∀ p, H p = none → Q (.ref p) (upd H p (.dK (mergeK [] kvs)))
section
variable {M : Addr → Bool} {σ : St} {F : Hp} {te te1 te2 : TE} {t : Ty} {ps : List (Nat × Ty)}
theorem not_no {t : Ty} (ok : t.ok = true) (sz : t.size ≤ 200) : isTyD t.toD ≠ false := by
  rw [(isTy_iff _).mpr ⟨t, rfl, ok, sz⟩]
  exact fun z => by cases z
theorem dr_unk {i : Int} : DR K M (tCall spUnkL [] E0 (tCons (tC (.int i)) tNil)) σ F (.tuple [.str "unknown", .int i]) := fun H Q o s q =>
  ⟨_, rfl, fun p hp => q (.ref p) _ (same_new hp _) (.tup (SqT.of (outM_new o hp upd_same)) (.cons (.str _) (.cons (.int _) .nil)))⟩

theorem sml_prs : ∀ ps : List (Nat × Ty), (∀ p ∈ ps, p.2.ok = true) → smlAll (ps.map pairD) = true
  | [], _ => rfl
  | p :: ps, h => by
    show (smlD (pairD p) && smlAll (ps.map pairD)) = true
    rw [sml_prs ps fun q hq => h q (List.mem_cons_of_mem _ hq), Bool.and_true]
    show (true && (smlD p.2.toD && true)) = true
    rw [sml_ty p.2 (h p List.mem_cons_self)]
    rfl
theorem len_prs {ps : List (Nat × Ty)} (h : ps.length ≤ 1000) : ∀ ds, prD ps = .list ds → ds.length ≤ 100000 := fun ds e => by
  rw [← PyData.list.inj e, List.length_map]
  omega
theorem tr_putT (Z : Exs P K mg) (h1 : DR K M te1 σ F t.toD) (h2 : DR K M te2 σ F (prD ps)) (ok : t.ok = true) (sz : t.size ≤ 200) (dp : t.deep ≤ 60) (okp : okPs ps) (hpl : ps.length ≤ 1000) (hs : (t.put (lkT ps)).size ≤ 200) (hd : (t.put (lkT ps)).deep ≤ 60) :
    TR K M (tCall (spPutT Z K) [] E0 (tCons te1 (tCons te2 tNil))) σ F (t.put (lkT ps)).toD := fun H Q o s q =>
  h1 H _ o s fun v H1 s1 hv => h2 H1 _ (o.mono s1) (s.trans (outM_same s1)) fun u H2 s2 hu => ⟨v, u, t.toD, prD ps, rfl, (hv.mono outM_sub).mono s2, sml_ty t ok, hu.mono outM_sub, sml_prs ps fun p hp => (okp.2 p hp).1, len_prs hpl, .inr (.inr ⟨t, ps, rfl, rfl, ok, sz, dp, okp, hpl, .inr ⟨hs, hd, fun x S H3 s3 hx hS => q x S H3 (s1.trans (s2.trans s3)) (hx.imp fun _ _ z => z) fun a ha => (s1.trans s2).free (hS a ha)⟩⟩)⟩
theorem tr_putTK (Z : Exs P K mg) (h1 : DR K M te1 σ F t.toD) (h2 : DR K M te2 σ F (prD ps)) (ok : t.ok = true) (sz : t.size ≤ 200) (dp : t.deep ≤ 60) (okp : okPs ps) (hpl : ps.length ≤ 1000) (hs : (t.put (lkT ps)).size ≤ 200) (hd : (t.put (lkT ps)).deep ≤ 60) :
    TR K M (tCallKg (spPutT Z K) 0 2 (fun vs zs => vs ++ zs.reverse) E0 tNil (tCons te2 (tCons te1 tNil))) σ F (t.put (lkT ps)).toD := fun H Q o s q =>
  ⟨rfl, h2 H _ o s fun u H1 s1 hu => h1 H1 _ (o.mono s1) (s.trans (outM_same s1)) fun v H2 s2 hv => ⟨rfl, v, u, t.toD, prD ps, rfl, hv.mono outM_sub, sml_ty t ok, (hu.mono outM_sub).mono s2, sml_prs ps fun p hp => (okp.2 p hp).1, len_prs hpl, .inr (.inr ⟨t, ps, rfl, rfl, ok, sz, dp, okp, hpl, .inr ⟨hs, hd, fun x S H3 s3 hx hS => q x S H3 (s1.trans (s2.trans s3)) (hx.imp fun _ _ z => z) fun a ha => (s1.trans s2).free (hS a ha)⟩⟩)⟩⟩
theorem kb_rev {K : PySem.W.Frag} {x qual : Str} {params : Arguments} {body : List Stmt} {scope : Scope} {n : Nat} {f : Addr} {fd : FuncData} {ps ks : List Str} (F : FunD K x qual params body scope [] [] f fd)
    (h : ∀ (kV doc pm : Value) (an : Option Addr) (cdv ct : Value) (us ws : List Value), us.length = n → ws.length = ks.length → bindArgs (PySem.W.fnOf x qual params body scope .none kV doc pm an cdv ct) ⟨us, ks.zip ws⟩ = pure (ps.zip (us ++ ws.reverse))) :
    KBg fd ps ks n (fun us ws => us ++ ws.reverse) (fun vs zs => vs ++ zs.reverse) := by
  refine ⟨fun s us ws h1 h2 => ?_, fun a b => a.append b.reverse⟩
  obtain ⟨oc, od, dV, kV, doc, pm, an, cdv, ct, osl, rfl, lk, hcd, hD, hK⟩ := F.ex
  rcases hD with ⟨_, rfl⟩ | ⟨e, _⟩
  · exact .of_eq (h kV doc pm an cdv ct us ws h1 h2)
  · exact absurd rfl e
/-- what the law puts in, by a dict of pairs -/
theorem dr_lput (h1 : DR K M te1 σ F t.toD) (h2 : DR K M te2 σ F (prD ps)) (ok : t.ok = true) (dp : t.deep ≤ 8) (nd : (ps.map (·.1)).Nodup) :
    DR K M (tCall (spPut K 8) [] E0 (tCons te1 (tCons (tCB (rDictP K) (tCons te2 tNil)) tNil))) σ F (t.put (lkT ps)).toD := fun H Q o s q =>
  h1 H _ o s fun v H1 s1 hv => h2 H1 _ (o.mono s1) (s.trans (outM_same s1)) fun u H2 s2 hu => by
    obtain ⟨a, xs, rfl, ha, hxs⟩ := (show Dx K (outM M H2) u (.list (ps.map pairD)) from hu).lst_inv
    obtain ⟨as, kvs, rfl, hpr, htab⟩ := dx_pairs hxs
    refine ⟨a, as, kvs, rfl, seq_outM ha, L2.Paired.mapP hpr fun _ _ z => same_seqT outM_sub z, fun tb htb => ?_⟩
    rw [htab.merge nd]
    have s3 := same_new htb (.dK kvs)
    have o3 := (o.mono (s1.trans s2)).mono s3
    refine ⟨v, t, tb, kvs, lkT ps, outM M (upd H2 tb (.dK kvs)), rfl, (hv.mono (outM_same s2)).mono (outM_same s3), outM_sub, ok, dp, upd_same, (htab.mono (outM_same s3)).val, fun x S H3 s4 hx hS => ?_⟩
    refine q x H3 (s1.trans (s2.trans (s3.trans s4))) ?_
    exact Tr.dx (fun v d ⟨n, u, _, e, hdx⟩ => hdx.mono (outM_same s4)) (Tr.outM (o3.mono s4) hx fun a ha => o3.new (hS a ha))
theorem dr_len (h : DR K M te σ F t.toD) (ok : t.ok = true) (sz : t.size ≤ 100000) {H : Hp} {Q : VK} (o : Occ M H) (s : Same F (outM M H)) (q : ∀ H', Same H H' → Q (.int (t.size : Nat)) H') : tCB (lenK K) (tCons (tCall (spAll K) [] E0 (tCons te tNil)) tNil) σ H Q :=
  h H _ o s fun v H1 s1 hv => ⟨v, t, outM M H1, rfl, hv, outM_sub, ok, sz, fun r fv H2 s2 hr0 hr1 hfv => ⟨_, _, rfl, .inl ⟨_, SqL.of hr1, rfl⟩, by
    have hl := hfv.length
    rw [toDs_map, List.length_map, parts_length] at hl
    rw [hl]
    exact q H2 (s1.trans s2)⟩⟩
theorem dt_ltlen (h : DR K M te σ F t.toD) (ok : t.ok = true) (sz : t.size ≤ 100000) {n : Nat} : DT K M (tTest (tOp (rI0 fun i j => .bl (decide (i < j))) (tCB (lenK K) (tCons (tCall (spAll K) [] E0 (tCons te tNil)) tNil)) (tC (.int (n : Int))))) σ F (decide (t.size < n)) := fun H Qb o s q =>
  dr_len h ok sz o s fun H1 s1 => ⟨_, _, rfl, rfl, _, rfl, by
    rw [show decide ((t.size : Int) < (n : Int)) = decide (t.size < n) by rw [Bool.eq_iff_iff, decide_eq_true_eq, decide_eq_true_eq]; omega]
    exact q H1 s1⟩
theorem dt_nelen (h : DR K M te σ F t.toD) (ok : t.ok = true) (sz : t.size ≤ 100000) : DT K M (tTest (tOp rNe (tCB (lenK K) (tCons (tCall (spAll K) [] E0 (tCons te tNil)) tNil)) (tC (.int (t.size : Nat))))) σ F false := fun H Qb o s q =>
  dr_len h ok sz o s fun H1 s1 => ⟨rfl, _, rfl, by
    rw [show (!decide (V.int (t.size : Nat) = V.int (t.size : Nat))) = false by simp]
    exact q H1 s1⟩
end
theorem dt_same {M : Addr → Bool} {σ : St} {F : Hp} {t1 t2 : TE} {d : PyData} {n : Nat} (h1 : DR K M t1 σ F d) (h2 : DR K M t2 σ F d) (hd : okd n d = true) : DT K M (tB (tCall (spSame K n) [] E0 (tCons t1 (tCons t2 tNil)))) σ F true := fun H Qb o s q =>
  h1 H _ o s fun v H1 s1 hv => h2 H1 _ (o.mono s1) (s.trans (outM_same s1)) fun u H2 s2 hu => ⟨v, u, d, rfl, (hv.mono outM_sub).mono s2, hu.mono outM_sub, hd, fun H' s' => ⟨true, rfl, q H' (s1.trans (s2.trans s'))⟩⟩
theorem same_ret {M : Addr → Bool} {σ : St} {F H : Hp} {t1 t2 : TE} {d : PyData} {n : Nat} {D : Ends} (h1 : DR K M t1 σ F d) (h2 : DR K M t2 σ F d) (hd : okd n d = true) (o : Occ M H) (s : Same F (outM M H)) (q : ∀ H', D.rt (.bl true) H') : tRet (tCall (spSame K n) [] E0 (tCons t1 (tCons t2 tNil))) D σ H :=
  h1 H _ o s fun v H1 s1 hv => h2 H1 _ (o.mono s1) (s.trans (outM_same s1)) fun u H2 s2 hu => ⟨v, u, d, rfl, (hv.mono outM_sub).mono s2, hu.mono outM_sub, hd, fun H' s' => q H'⟩
/-- not alike, or marked ahead: no -/
theorem if_told2 {M : Addr → Bool} {σ : St} {F1 H : Hp} {i n : Nat} {t1 : TT} {a rest : TS} {D : Ends} {v : V} {d : PyData} {S : List Addr} (h1 : DT K M t1 σ F1 true) (sF1 : Same F1 (outM M H)) (hv : σ[i]? = some (some v)) (hT : Tr K shNo H v d S) (hd : okd n d = true) (o : Occ M H)
    (q : ∀ H', Out S H H' → rest D σ H') : tSeq (tIfS (tOr (tNot t1) (tNot (tB (tCall (spMark K n) [] E0 (tCons (tVar i) tNil))))) a tNext) rest D σ H := by
  refine h1 H _ o sF1 fun H1 s1 => ?_
  show (if (!true) = true then _ else _)
  rw [if_neg (by decide)]
  refine ⟨v, hv, v, d, S, rfl, hT.mono s1, hd, fun H2 o2 => ⟨true, rfl, ?_⟩⟩
  show (if (!true) = true then _ else _)
  rw [if_neg (by decide)]
  exact q H2 fun b u nb e => o2 b u nb (s1 _ _ e)
/-- an if whose branches come together -/
theorem if_gen {tt : TT} {A rest : TS} {D : Ends} {σ : St} {H : Hp} (I : St → Hp → Prop) (h : ∀ D' : Ends, D'.rt = D.rt → (∀ σ' H', I σ' H' → D'.nx σ' H') → tIfS tt A tNext D' σ H) (q : ∀ σ' H', I σ' H' → rest D σ' H') : tSeq (tIfS tt A tNext) rest D σ H :=
  h _ rfl q
/-! ### the odd ones are no types -/
theorem runD_one (n : Nat) (x : PyData) : runD (n + 1) [x] = (headD x && runD n ([x].dropLast ++ sidesD x)) := rfl
theorem no_head {x : PyData} (h : headD x = false) : isTyD x = false := by
  show runD (199 + 1) [x] = false
  rw [runD_one, h, Bool.false_and]
theorem no_side {w : Str} {a b : PyData} (h : sideB b = false) : headD (.tuple [.str w, a, b]) = false := by
  show (!(w == "unknown") && (w == "kind" && (kindD a && sideB b))) = false
  rw [h, Bool.and_false, Bool.and_false, Bool.and_false]
theorem no_part {a : PyData} {ds : List PyData} (h : runD 199 ds = false) : isTyD (.tuple [.str "kind", a, .list ds]) = false := by
  show runD (199 + 1) [PyData.tuple [.str "kind", a, .list ds]] = false
  rw [runD_one]
  have e : ([PyData.tuple [.str "kind", a, .list ds]].dropLast ++ sidesD (.tuple [.str "kind", a, .list ds])) = ds := by
    show [] ++ (if ("kind" : Str) = "kind" then ds else []) = ds
    rw [if_pos rfl, List.nil_append]
  rw [e, h, Bool.and_false]
def OddOk (x : PyData) : Prop := isTyD x = false ∧ smlD x = true ∧ Nice 80000 20 x
theorem odd12 : ∀ x ∈ odd1 ++ odd2, OddOk x := by
  have h : ∀ x ∈ odd1 ++ odd2, isTyD x = false ∧ smlD x = true ∧ x.showable = true ∧ x.shown.length ≤ 80000 ∧ x.depth ≤ 20 := by decide +kernel
  exact fun x hx => ⟨(h x hx).1, (h x hx).2.1, (h x hx).2.2⟩
theorem odd34 {t : Ty} (ok : t.ok = true) (hn : Nice 6200 12 t.toD) : ∀ x ∈ odd3 t.toD ++ odd4 t.toD, OddOk x := by
  have hs := sml_ty t ok
  have k1 : Nice 6200 12 (.str "kind") := ⟨by decide +kernel, by decide +kernel, by decide +kernel⟩
  have k2 : Nice 6200 12 (.str "fun") := ⟨by decide +kernel, by decide +kernel, by decide +kernel⟩
  have k3 : Nice 6200 12 (.str "pair") := ⟨by decide +kernel, by decide +kernel, by decide +kernel⟩
  have k4 : Nice 6200 12 .none := ⟨by decide +kernel, by decide +kernel, by decide +kernel⟩
  have sk : smlD (.str "kind") = true := by decide +kernel
  have sf : smlD (.str "fun") = true := by decide +kernel
  have sp : smlD (.str "pair") = true := by decide +kernel
  have tri : ∀ {a b c : PyData} {n : Nat}, 6200 ≤ n → n ≤ 26000 → Nice 6200 12 a → Nice 6200 12 b → Nice n 13 c → Nice 80000 20 (.tuple [a, b, c]) := fun {a b c n} h0 h1 ha hb hc =>
    (nice_tuple (n := n) (m := 13) (c := 3) (fun d hd => by
      simp only [List.mem_cons, List.not_mem_nil, or_false] at hd
      rcases hd with rfl | rfl | rfl
      · exact ha.le h0 (by decide)
      · exact hb.le h0 (by decide)
      · exact hc) (Nat.le_refl _)).le (by omega) (by decide)
  intro x hx
  simp only [odd3, odd4, List.cons_append, List.nil_append, List.mem_cons, List.not_mem_nil, or_false] at hx
  rcases hx with rfl | rfl | rfl | rfl | rfl | rfl | rfl | rfl | rfl
  · exact ⟨by decide +kernel, by decide +kernel, by decide +kernel, by decide +kernel, by decide +kernel⟩
  · exact ⟨by decide +kernel, by decide +kernel, by decide +kernel, by decide +kernel, by decide +kernel⟩
  · exact ⟨by decide +kernel, by decide +kernel, by decide +kernel, by decide +kernel, by decide +kernel⟩
  · refine ⟨no_head (no_side rfl), ?_, tri (n := 24813) (by decide) (by decide) k1 k2 (nice_list (n := 6200) (m := 12) (c := 4) (fun d hd => ?_) (Nat.le_refl _))⟩
    · show (smlD (.str "kind") && (smlD (.str "fun") && (smlD (.list [t.toD, t.toD, t.toD, t.toD]) && true))) = true
      rw [sk, sf, show smlD (.list [t.toD, t.toD, t.toD, t.toD]) = (smlD t.toD && (smlD t.toD && (smlD t.toD && (smlD t.toD && true)))) from rfl, hs]
      rfl
    · have : d ∈ [t.toD, t.toD, t.toD, t.toD] := hd
      simp only [List.mem_cons, List.not_mem_nil, or_false] at this
      rcases this with rfl | rfl | rfl | rfl <;> exact hn
  · refine ⟨no_part ?_, ?_, tri (n := 24813) (by decide) (by decide) k1 k2 ((nice_list (n := 6200) (m := 12) (c := 2) (fun d hd => ?_) (Nat.le_refl _)).le (by decide) (by decide))⟩
    · show (headD .none && runD 198 ([t.toD, .none].dropLast ++ sidesD .none)) = false
      exact Bool.false_and _
    · show (smlD (.str "kind") && (smlD (.str "fun") && (smlD (.list [t.toD, .none]) && true))) = true
      rw [sk, sf, show smlD (.list [t.toD, .none]) = (smlD t.toD && (true && true)) from rfl, hs]
      rfl
    · simp only [List.mem_cons, List.not_mem_nil, or_false] at hd
      rcases hd with rfl | rfl
      · exact hn
      · exact k4
  · refine ⟨no_head (no_side rfl), ?_, tri (n := 24813) (by decide) (by decide) k1 k2 ((nice_tuple (n := 6200) (m := 12) (c := 2) (fun d hd => ?_) (Nat.le_refl _)).le (by decide) (by decide))⟩
    · show (smlD (.str "kind") && (smlD (.str "fun") && (smlD (.tuple [t.toD, t.toD]) && true))) = true
      rw [sk, sf, show smlD (.tuple [t.toD, t.toD]) = (smlD t.toD && (smlD t.toD && true)) from rfl, hs]
      rfl
    · simp only [List.mem_cons, List.not_mem_nil, or_false] at hd
      rcases hd with rfl | rfl <;> exact hn
  · exact ⟨by decide +kernel, by decide +kernel, by decide +kernel, by decide +kernel, by decide +kernel⟩
  · refine ⟨no_head rfl, ?_, (nice_tuple (n := 6200) (m := 12) (c := 2) (fun d hd => ?_) (Nat.le_refl _)).le (by decide) (by decide)⟩
    · show (true && (smlD t.toD && true)) = true
      rw [hs]
      rfl
    · simp only [List.mem_cons, List.not_mem_nil, or_false] at hd
      rcases hd with rfl | rfl
      · exact k4
      · exact hn
  · refine ⟨no_head (no_side ?_), ?_, tri (n := 24813) (by decide) (by decide) k1 k3 (hn.le (by decide) (by decide))⟩
    · cases t <;> rfl
    · show (smlD (.str "kind") && (smlD (.str "pair") && (smlD t.toD && true))) = true
      rw [sk, sp, hs]
      rfl
theorem odds_ok {t : Ty} (ok : t.ok = true) (hn : Nice 6200 12 t.toD) : ∀ x ∈ odds t.toD, OddOk x := fun x hx => by
  unfold odds at hx
  rw [List.append_assoc] at hx
  exact (List.mem_append.mp hx).elim (odd12 x) (odd34 ok hn x)
/-! ### what is heard -/
theorem heard_ne2 (Z : Exs P K mg) {S : Addr → Sp → Prop} {f : Addr} {sp : Sp} {wd : Str} {i : Nat} {M : Addr → Bool} {σ : St} {F H : Hp} {te tr : TE} {d1 d2 d : PyData} {n m : Nat} {Qb : Bool → Hp → Prop} (hS : S f sp) (hi : i < (exn).length) (hw1 : hw i = [wd]) (o : Occ M H) (s : Same F (outM M H))
    (hargs : DR K M te σ F (.list [d1, d2])) (hdue : DR K M tr σ F (.list [.str wd, .str d.shown])) (hn : Nice n m d) (h1 : n ≤ 16000000) (h2 : m ≤ 60) (hra : ∀ v1 v2 H', Dx K H' v1 d1 → Dx K H' v2 d2 → ∃ u, Dx K H' u d ∧ RaisesAs Z sp [v1, v2] i u H') (q : ∀ H', Same H H' → Qb false H') :
    tTest (tOp (rNeS K) (tCall (spHeard Z K S) [] E0 (tCons (tC (.ref f)) (tCons te tNil))) tr) σ H Qb := by
  refine hargs H _ o s fun x H1 s1 hx => ?_
  obtain ⟨a, xs, rfl, ha, hxs⟩ := hx.lst_inv
  cases hxs with
  | cons hv hrest =>
  cases hrest with
  | cons hv2 hrest =>
    cases hrest
    rename_i v v2
    have hv' := hv.mono outM_sub
    have hv2' := hv2.mono outM_sub
    obtain ⟨u, hu, hra⟩ := hra v v2 H1 hv' hv2'
    refine ⟨f, a, sp, [v, v2], u, d, i, rfl, hS, seq_outM ha, .inr rfl, hi, hu, hn.1, Nat.le_trans (Nat.le_trans hn.2.1 h1) (by decide), Nat.le_trans hn.2.2 h2, hra, fun r H2 s2 hr0 hr2 => ?_⟩
    rw [hw1] at hr2
    refine hdue H2 _ (o.mono (s1.trans s2)) (s.trans (outM_same (s1.trans s2))) fun y H3 s3 hy => ?_
    obtain ⟨b, ys, rfl, hb, hys⟩ := hy.lst_inv
    cases hys with
    | cons g1 hys =>
      cases hys with
      | cons g2 hys =>
        cases hys
        obtain rfl := g1.str_inv
        obtain rfl := g2.str_inv
        exact ⟨r, b, [wd, d.shown], rfl, rfl, SqL.of (s3 _ _ hr2), seq_outM hb, _, rfl, q H3 (s1.trans (s2.trans s3))⟩
theorem ra_type (Z : Exs P K mg) {d1 d2 : PyData} {v1 v2 : V} {H : Hp} (hno : isTyD d1 = false) (hs1 : smlD d1 = true) (hs2 : smlD d2 = true) (hl : ∀ ds, d2 = .list ds → ds.length ≤ 100000) (h1 : Dx K H v1 d1) (h2 : Dx K H v2 d2) : ∃ u, Dx K H u d1 ∧ RaisesAs Z (spPutT Z K) [v1, v2] 0 u H :=
  ⟨v1, h1, fun Q E h => ⟨v1, v2, d1, d2, rfl, h1, hs1, h2, hs2, hl, .inl ⟨hno, h⟩⟩⟩
theorem ra_pairs (Z : Exs P K mg) {d1 d2 : PyData} {v1 v2 : V} {H : Hp} (hy : isTyD d1 = true) (hno : arePairsD d2 = false) (hs1 : smlD d1 = true) (hs2 : smlD d2 = true) (hl : ∀ ds, d2 = .list ds → ds.length ≤ 100000) (h1 : Dx K H v1 d1) (h2 : Dx K H v2 d2) : ∃ u, Dx K H u d2 ∧ RaisesAs Z (spPutT Z K) [v1, v2] 1 u H :=
  ⟨v2, h2, fun Q E h => ⟨v1, v2, d1, d2, rfl, h1, hs1, h2, hs2, hl, .inr (.inl ⟨hy, hno, h⟩)⟩⟩
theorem ra_many (Z : Exs P K mg) {t : Ty} {ps : List (Nat × Ty)} {v1 v2 : V} {H : Hp} (ok : t.ok = true) (sz : t.size ≤ 200) (dp : t.deep ≤ 60) (okp : okPs ps) (hpl : ps.length ≤ 1000) (hs : 200 < (t.put (lkT ps)).size) (h1 : Dx K H v1 t.toD) (h2 : Dx K H v2 (prD ps)) : ∃ u, Dx K H u (.int 200) ∧ RaisesAs Z (spPutT Z K) [v1, v2] 2 u H :=
  ⟨.int 200, .int 200, fun Q E h => ⟨v1, v2, t.toD, prD ps, rfl, h1, sml_ty t ok, h2, sml_prs ps fun p hp => (okp.2 p hp).1, len_prs hpl, .inr (.inr ⟨t, ps, rfl, rfl, ok, sz, dp, okp, hpl, .inl ⟨hs, h⟩⟩)⟩⟩
/-! ### the odd pairs are no pairs -/
def OddP (x : PyData) : Prop := arePairsD x = false ∧ smlD x = true ∧ (∀ ds, x = .list ds → ds.length ≤ 100000) ∧ Nice 1000 20 x
def lenLe (x : PyData) : Bool := match x with
  | .list ds => decide (ds.length ≤ 100000)
  | _ => true
theorem oddP_ok : ∀ x ∈ op1 ++ op2, OddP x := by
  have h : ∀ x ∈ op1 ++ op2, arePairsD x = false ∧ smlD x = true ∧ lenLe x = true ∧ x.showable = true ∧ x.shown.length ≤ 1000 ∧ x.depth ≤ 20 := by decide +kernel
  exact fun x hx => ⟨(h x hx).1, (h x hx).2.1, fun ds e => by
    have z := (h x hx).2.2.1
    rw [e] at z
    exact of_decide_eq_true z, (h x hx).2.2.2⟩
/-! ### both at once -/
def keyAt (H : Hp) : V → Int
  | .ref t => match H t with
    | some (.tup (.int n :: _)) => n
    | _ => 0
  | _ => 0
theorem PrAt.key {H : Hp} : ∀ {vs : List V} {ps : List (Nat × Ty)}, PrAt K H vs ps → vs.map (keyAt H) = ps.map fun p => (p.1 : Int)
  | _, _, .nil => rfl
  | _, _, .cons (t := t) (n := n) a b c => by
    rw [List.map_cons, List.map_cons, c.key]
    congr 1
    show (match H t with | some (.tup (.int n :: _)) => n | _ => 0) = _
    rw [a]
theorem PrAt.at {H : Hp} : ∀ {vs : List V} {ps : List (Nat × Ty)}, PrAt K H vs ps → ∀ x ∈ vs, ∃ t y, x = V.ref t ∧ H t = some (.tup [.int (keyAt H x), y])
  | _, _, .nil, x, h => by cases h
  | _, _, .cons (t := t) (n := n) (x := y) a b c, x, h => by
    rcases List.mem_cons.mp h with rfl | h
    · refine ⟨t, y, rfl, ?_⟩
      rw [show keyAt H (.ref t) = (n : Int) by
        show (match H t with | some (.tup (.int n :: _)) => n | _ => 0) = _
        rw [a]]
      exact a
    · exact c.at x h
theorem inj_of {f : V → Int} : ∀ {vs : List V}, (vs.map f).Nodup → ∀ x ∈ vs, ∀ y ∈ vs, f x = f y → x = y
  | [], _, x, h, _, _, _ => by cases h
  | v :: vs, nd, x, hx, y, hy, e => by
    rw [List.map_cons, List.nodup_cons] at nd
    rcases List.mem_cons.mp hx with e1 | h1
    · rcases List.mem_cons.mp hy with e2 | h2
      · rw [e1, e2]
      · exact absurd (List.mem_map.mpr ⟨y, h2, by rw [← e, e1]⟩) nd.1
    · rcases List.mem_cons.mp hy with e2 | h2
      · exact absurd (List.mem_map.mpr ⟨x, h1, by rw [e, e2]⟩) nd.1
      · exact inj_of nd.2 x h1 y h2 e
theorem PrAt.perm {H : Hp} {ys xs : List V} (hp : ys.Perm xs) : ∀ {ps : List (Nat × Ty)}, PrAt K H xs ps → ∃ qs : List (Nat × Ty), qs.Perm ps ∧ PrAt K H ys qs := by
  induction hp with
  | nil => exact fun h => ⟨_, List.Perm.refl _, h⟩
  | cons x _ ih =>
    intro ps h
    cases h with
    | cons a b c =>
      obtain ⟨qs, h1, h2⟩ := ih c
      exact ⟨_ :: qs, h1.cons _, .cons a b h2⟩
  | swap x y l =>
    intro ps h
    cases h with
    | cons a b c =>
      cases c with
      | cons a2 b2 c2 => exact ⟨_ :: _ :: _, List.Perm.swap .., .cons a2 b2 (.cons a b c2)⟩
  | trans _ _ ih1 ih2 =>
    intro ps h
    obtain ⟨qs, h1, h2⟩ := ih2 h
    obtain ⟨rs, h3, h4⟩ := ih1 h2
    exact ⟨rs, h3.trans h1, h4⟩
theorem PrAt.append {H : Hp} : ∀ {vs us : List V} {ps qs : List (Nat × Ty)}, PrAt K H vs ps → PrAt K H us qs → PrAt K H (vs ++ us) (ps ++ qs)
  | _, _, _, _, .nil, h => h
  | _, _, _, _, .cons a b c, h => .cons a b (c.append h)
theorem PrAt.get {H : Hp} : ∀ {vs : List V} {ps : List (Nat × Ty)} {i : Nat} {x : V}, PrAt K H vs ps → vs[i]? = some x → ∃ t n y u, x = .ref t ∧ ps[i]? = some (n, u) ∧ H t = some (.tup [.int (n : Int), y]) ∧ Dx K H y u.toD
  | _, _, 0, _, .cons a b c, e => by
    cases e
    exact ⟨_, _, _, _, rfl, rfl, a, b⟩
  | _, _, i + 1, _, .cons a b c, e => c.get (i := i) e
theorem nodup_cast {ns : List (Nat × Ty)} (h : (ns.map (·.1)).Nodup) : (ns.map fun p => (p.1 : Int)).Nodup := by
  have e : (ns.map fun p => (p.1 : Int)) = (ns.map (·.1)).map fun (n : Nat) => (n : Int) := by rw [List.map_map]; rfl
  rw [e]
  generalize ns.map (·.1) = l at h
  induction l with
  | nil => exact List.nodup_nil
  | cons n l ih =>
    rw [List.nodup_cons] at h
    rw [List.map_cons, List.nodup_cons]
    refine ⟨fun z => ?_, ih h.2⟩
    obtain ⟨m, hm, e⟩ := List.mem_map.mp z
    have : m = n := by exact_mod_cast e
    exact h.1 (this ▸ hm)
theorem rising {qs : List (Nat × Ty)} (h : (qs.map fun p => (p.1 : Int)).Pairwise (· ≤ ·)) (nd : (qs.map (·.1)).Nodup) : (qs.map (·.1)).Pairwise (· < ·) := by
  induction qs with
  | nil => exact List.Pairwise.nil
  | cons q qs ih =>
    rw [List.map_cons, List.pairwise_cons] at h
    rw [List.map_cons, List.nodup_cons] at nd
    rw [List.map_cons, List.pairwise_cons]
    refine ⟨fun n hn => ?_, ih h.2 nd.2⟩
    obtain ⟨p, hp, rfl⟩ := List.mem_map.mp hn
    have h1 := h.1 (p.1 : Int) (List.mem_map.mpr ⟨p, hp, rfl⟩)
    have h2 : q.1 ≠ p.1 := fun e => nd.1 (List.mem_map.mpr ⟨p, hp, e.symm⟩)
    omega
end
end K21

set_option Elab.async false
set_option linter.all false
set_option maxRecDepth 100000
set_option maxHeartbeats 1000000
namespace K21
open PySem PySem.Spec L2 Wy RZ
section
variable {P : Program} {w : World} {K : PySem.W.Frag} {mg : Str → Option Value} {base : Heap}
def teB1 (K : PySem.W.Frag) : TE := tTup (tCons (tVar 16) (tCons (tCall (spPut K 8) [] E0 (tCons (tVar 17) (tCons (tCB (rDictP K) (tCons (tVar 8) tNil)) tNil))) tNil))
def ttB2 (K : PySem.W.Frag) : TT := tTest (tDNotIn (tOp (rIxT K) (tVar 4) (tC (.int 0))) (tCB (rDictP K) (tCons (tVar 7) tNil)))
def teBoth (K : PySem.W.Frag) : TE := tCB (rSortedPr K) (tCons (tOp (rCatS K) (tLc (iList K (tVar 7)) (gTup K 2 (gCons (gName 16) (gCons (gName 17) gNil))) tYes (teB1 K) [16, 17]) (tLc (iList K (tVar 8)) (gName 4) (ttB2 K) (tVar 4) [4])) tNil)
theorem outM_in {M : Addr → Bool} {H : Hp} {D : Addr} {o : HO} (h : M D = true) : outM M (upd H D o) = outM M H := by
  funext b
  unfold outM
  by_cases hb : M b = true
  · rw [if_pos hb, if_pos hb]
  · rw [if_neg hb, if_neg hb, upd_ne fun z => hb (by rw [z]; exact h)]
theorem outM_less {M M2 : Addr → Bool} {A : Hp} (h : ∀ b, M b = true → M2 b = true) : Same (outM M2 A) (outM M A) := fun b u e => by
  unfold outM at e ⊢
  split at e
  · cases e
  · rename_i z
    rw [if_neg fun y => z (h b y)]
    exact e
theorem both_make {M : Addr → Bool} {H : Hp} {r1 r2 : Addr} {a1 a2 : List V} {ps ls : List (Nat × Ty)} {w0 w1 w2 w3 w4 w5 w6 w9 w10 w11 w12 w13 w14 w15 w16 w17 : Option V} {Q : VK} (o : Occ M H) (e1 : outM M H r1 = some (.lst a1)) (e2 : outM M H r2 = some (.lst a2)) (p1 : PrAt K (outM M H) a1 ps) (p2 : PrAt K (outM M H) a2 ls)
    (g1 : ∀ p ∈ ps, p.2.ok = true ∧ p.2.deep ≤ 8) (n1 : (ps.map (·.1)).Nodup) (n2 : (ls.map (·.1)).Nodup) (l1 : ps.length ≤ 4) (l2 : ls.length ≤ 4)
    (q : ∀ v qs H', Same H H' → Dx K (outM M H') v (prD qs) → qs.Perm (bothL ps ls) → (qs.map (·.1)).Pairwise (· < ·) → Q v H') : teBoth K [w0, w1, w2, w3, w4, w5, w6, some (.ref r1), some (.ref r2), w9, w10, w11, w12, w13, w14, w15, w16, w17] H Q := by
  have hr1 := outM_sub _ _ e1
  have hr2 := outM_sub _ _ e2
  have hL : Dx K (outM M H) (.ref r2) (prD ls) := .lst (SqL.of e2) p2.dx
  have hal := p1.length
  have hbl := p2.length
  obtain ⟨as, kvs, eas, hpr, htab⟩ := dx_pairs p1.dx
  have hmk := htab.merge n1
  refine ⟨_, rfl, r1, rfl, ⟨a1, SqL.of hr1⟩, fun D hD => ?_⟩
  have hM2 : ∀ b, M b ≠ true → b ≠ D → (fun b => M b || decide (b = D)) b ≠ true := fun b h1 h2 z => by
    rcases Bool.or_eq_true_iff.mp z with z | z
    · exact h1 z
    · exact h2 (of_decide_eq_true z)
  obtain ⟨M2, eM2⟩ : ∃ M2 : Addr → Bool, M2 = fun b => M b || decide (b = D) := ⟨_, rfl⟩
  rw [← eM2] at hM2
  have mD : M2 D = true := by
    rw [eM2]
    simp
  have lessM : ∀ b, M b = true → M2 b = true := fun b h => by
    rw [eM2]
    show (M b || _) = true
    rw [h]
    rfl
  have oM2 : ∀ {G : Hp} {acc : List V}, Same H G → G D = some (.lst acc) → Occ M2 G := fun {G acc} s e b hb => by
    rw [eM2] at hb
    rcases Bool.or_eq_true_iff.mp hb with hb | hb
    · exact o.mono s b hb
    · rw [of_decide_eq_true hb]
      exact ⟨_, e⟩
  have sM : ∀ {G : Hp}, Same H G → Same (outM M H) (outM M2 G) := fun {G} s b u e => by
    have nb : M b ≠ true := fun z => by
      unfold outM at e
      rw [if_pos z] at e
      cases e
    have eb := outM_sub _ _ e
    unfold outM
    rw [if_neg (hM2 b nb (ne_of_none eb hD))]
    exact s _ _ eb
  refine lc_list (xs := a1) (fun i G => Same H G ∧ ∃ acc, G D = some (.lst acc) ∧ PrAt K (outM M2 G) acc ((ps.take i).map fun p => (p.1, p.2.put (lkT ls)))) ⟨same_new hD _, [], upd_same, .nil⟩ ?_ ?_ ?_
  · rintro i G _ ⟨y1, _⟩
    exact SqL.of (y1 _ _ hr1)
  · rintro i x G hi ⟨y1, acc, y2, y3⟩
    obtain ⟨t, n, y, u, rfl, hp, ht, hy⟩ := p1.get hi
    have hpm := g1 _ (List.mem_of_getElem? hp)
    have oG := oM2 y1 y2
    refine ⟨t, _, rfl, SqT.of (outM_sub _ _ (sM y1 _ _ ht)), rfl, _, _, rfl, _, _, rfl, rfl, rfl, ?_⟩
    refine ⟨_, rfl, ?_⟩
    refine dr_lput (K := K) (M := M2) (F := outM M2 G) (ps := ls) (t := u) (dr_var rfl (hy.mono (sM y1))) (dr_var rfl (hL.mono (sM y1))) hpm.1 hpm.2 n2 G _ oG same_rfl fun x H3 s3 hx => ?_
    refine ⟨small _ (by show 2 ≤ 100000; decide), fun t0 ht0 => ?_⟩
    have st := same_new ht0 (.tup [V.int (n : Int), x])
    have hacl := y3.length
    rw [List.length_map, List.length_take] at hacl
    have o3 := (oG.mono s3)
    refine ⟨acc, st _ _ (s3 _ _ y2), Nat.lt_of_le_of_lt (show acc.length ≤ 100 by omega) (by decide), fun b o e => ?_, acc ++ [.ref t0], upd_same, ?_⟩
    · rw [upd_ne (ne_of_none e hD)]
      exact st _ _ (s3 _ _ (y1 _ _ e))
    · rw [outM_in mD]
      have et : (ps.take (i + 1)).map (fun p => (p.1, p.2.put (lkT ls))) = (ps.take i).map (fun p => (p.1, p.2.put (lkT ls))) ++ [(n, u.put (lkT ls))] := by
        rw [List.take_add_one, hp, List.map_append]
        rfl
      rw [et]
      exact PrAt.snoc (outM_new o3 ht0 upd_same) (hx.mono (outM_same st)) (y3.mono (outM_same (s3.trans st)))
  rintro G1 ⟨y1, acc1, y2, y3⟩
  rw [hal, List.take_length] at y3
  refine ⟨_, rfl, r2, rfl, ⟨a2, SqL.of (y1 _ _ hr2)⟩, fun D2 hD2 => ?_⟩
  refine lc_list (xs := a2) (fun i G => Same G1 G ∧ ∃ acc, G D2 = some (.lst acc) ∧ PrAt K (outM M H) acc ((ls.take i).filter fun p => !(ps.any fun q => decide (q.1 = p.1)))) ⟨same_new hD2 _, [], upd_same, .nil⟩ ?_ ?_ ?_
  · rintro i G _ ⟨z1, _⟩
    exact SqL.of (z1 _ _ (y1 _ _ hr2))
  · rintro i x G hi ⟨z1, acc, z2, z3⟩
    obtain ⟨t, n, y, u, rfl, hp, ht, hy⟩ := p2.get hi
    have s0 := y1.trans z1
    have hfl := List.length_filter_le (fun p : Nat × Ty => !(ps.any fun q => decide (q.1 = p.1))) (ls.take i)
    have hacl := z3.length
    rw [List.length_take] at hfl
    have etk : ls.take (i + 1) = ls.take i ++ [(n, u)] := by
      rw [List.take_add_one, hp]
      rfl
    refine ⟨rfl, _, rfl, t, _, 0, _, rfl, rfl, SqT.of (s0 _ _ (outM_sub _ _ ht)), at_of (j := 0) rfl rfl, ?_⟩
    refine ⟨_, rfl, r1, as, kvs, rfl, by rw [← eas]; exact SqL.of (s0 _ _ hr1), L2.Paired.mapP hpr fun _ _ z => same_seqT (outM_sub.trans s0) z, fun tb htb => ?_⟩
    rw [hmk]
    have s3 := same_new htb (.dK kvs)
    refine ⟨tb, _, rfl, DGet.k (k := Sum.inl (n : Int)) upd_same, _, rfl, ?_⟩
    have hv := htab.val n
    rw [etk, List.filter_append]
    cases e : valV kvs (Sum.inl (n : Int)) with
    | some x =>
      rw [e] at hv
      obtain ⟨u', hu', _⟩ := hv
      have hf : (!(ps.any fun q => decide (q.1 = n))) = false := by
        rw [Bool.not_eq_false', List.any_eq_true]
        exact ⟨_, lkT_mem hu', decide_eq_true rfl⟩
      refine ⟨z1.trans s3, acc, s3 _ _ z2, ?_⟩
      rw [List.filter_cons, if_neg (by show ¬ (!(ps.any fun q => decide (q.1 = n))) = true; rw [hf]; exact Bool.false_ne_true), List.filter_nil, List.append_nil]
      exact z3
    | none =>
      rw [e] at hv
      have hf : (!(ps.any fun q => decide (q.1 = n))) = true := by
        rw [Bool.not_eq_true', Bool.eq_false_iff]
        intro z
        obtain ⟨p', hp', e'⟩ := List.any_eq_true.mp z
        exact lkT_none.mp hv (List.mem_map.mpr ⟨p', hp', of_decide_eq_true e'⟩)
      refine ⟨_, rfl, acc, s3 _ _ z2, Nat.lt_of_le_of_lt (show acc.length ≤ 100 by omega) (by decide), fun b o e => ?_, acc ++ [.ref t], upd_same, ?_⟩
      · rw [upd_ne (ne_of_none e hD2)]
        exact s3 _ _ (z1 _ _ e)
      · rw [List.filter_cons, if_pos (show (!(ps.any fun q => decide (q.1 = n))) = true from hf), List.filter_nil]
        exact z3.snoc ht hy
  rintro G2 ⟨z1, acc2, z2, z3⟩
  rw [hbl, List.take_length] at z3
  have s02 := y1.trans z1
  have hc1 := y3.length
  have hc2 := z3.length
  have hfl := List.length_filter_le (fun p : Nat × Ty => !(ps.any fun q => decide (q.1 = p.1))) ls
  rw [List.length_map] at hc1
  refine ⟨D, D2, acc1, acc2, rfl, rfl, SqL.of (z1 _ _ y2), SqL.of z2, small _ (by omega), fun pc hpc => ?_⟩
  have sC := same_new hpc (.lst (acc1 ++ acc2))
  have hpc1 : upd G2 pc (.lst (acc1 ++ acc2)) pc = some (.lst (acc1 ++ acc2)) := upd_same
  have s03 := s02.trans sC
  have s13 := z1.trans sC
  generalize upd G2 pc (.lst (acc1 ++ acc2)) = G3 at sC hpc1 s03 s13
  have s1M : Same (outM M2 G1) (outM M G3) := fun b u e => outM_same s13 _ _ (outM_less lessM _ _ e)
  have hall : PrAt K (outM M G3) (acc1 ++ acc2) (bothL ps ls) := (y3.mono s1M).append (z3.mono (outM_same s03))
  have nd := both_nodup n1 n2
  have hkey := hall.key
  refine ⟨pc, acc1 ++ acc2, keyAt (outM M G3), rfl, SqL.of hpc1, fun x hx => ?_, inj_of (by rw [hkey]; exact nodup_cast nd), fun ys pr hperm hsort hpr0 => ?_⟩
  · obtain ⟨t, y, e, h⟩ := hall.at x hx
    exact ⟨t, y, e, outM_sub _ _ h⟩
  · obtain ⟨qs, hqp, hqs⟩ := hall.perm hperm
    have sP := same_new hpr0 (.lst ys)
    refine q (.ref pr) qs _ (s03.trans sP) (.lst (SqL.of (outM_new (o.mono s03) hpr0 upd_same)) (hqs.mono (outM_same sP)).dx) hqp (rising ?_ ((hqp.map _).nodup_iff.mpr nd))
    rw [← hqs.key, List.pairwise_map]
    exact hsort
theorem new_out {H H1 H4 : Hp} {p lc : Addr} {n : Nat} (hP : Purse H p lc n) (k : Kp p H1 H4) : Same (newH H H1) (outA H4 p) := fun b o e => by
  obtain ⟨e1, e2⟩ := newH_get e
  have np : b ≠ p := fun z => by
    obtain ⟨⟨o', h⟩, _⟩ := hP.at_
    rw [z, h] at e1
    cases e1
  rw [outA_ne np]
  exact k b o np e2
theorem dt_and {M : Addr → Bool} {σ : St} {F : Hp} {tt tu : TT} {b : Bool} (h1 : DT K M tt σ F b) (h2 : b = true → DT K M tu σ F false) : DT K M (tAnd tt tu) σ F false := fun H Qb o s q =>
  h1 H _ o s fun H1 s1 => (by
    cases b with
    | true =>
      rw [if_pos rfl]
      exact h2 rfl H1 _ (o.mono s1) (s.trans (outM_same s1)) fun H2 s2 => q H2 (s1.trans s2)
    | false =>
      rw [if_neg Bool.false_ne_true]
      exact q H1 s1)
theorem dt_ltN {M : Addr → Bool} {σ : St} {F : Hp} {te : TE} {t : Ty} (h : DR K M te σ F t.toD) (ok : t.ok = true) (sz : t.size ≤ 100000) {n : Nat} {z : Int} (hz : z = (n : Int)) : DT K M (tTest (tOp (rI0 fun i j => .bl (decide (i < j))) (tCB (lenK K) (tCons (tCall (spAll K) [] E0 (tCons te tNil)) tNil)) (tC (.int z)))) σ F (decide (t.size < n)) := by
  rw [hz]
  exact dt_ltlen h ok sz
theorem dt_neN2 {M : Addr → Bool} {σ : St} {F : Hp} {te : TE} {t : Ty} (h : DR K M te σ F t.toD) (ok : t.ok = true) (sz : t.size ≤ 100000) {z : Int} (hz : z = (t.size : Int)) : DT K M (tTest (tOp rNe (tCB (lenK K) (tCons (tCall (spAll K) [] E0 (tCons te tNil)) tNil)) (tC (.int z)))) σ F false := by
  rw [hz]
  exact dt_nelen h ok sz
theorem sum_le_mul {α : Type} (f : α → Nat) {m : Nat} : ∀ l : List α, (∀ x ∈ l, f x ≤ m) → (l.map f).sum ≤ l.length * m
  | [], _ => Nat.zero_le _
  | x :: l, h => by
    rw [List.map_cons, List.sum_cons, List.length_cons, Nat.succ_mul]
    have h1 := h x List.mem_cons_self
    have h2 := sum_le_mul f l fun y hy => h y (List.mem_cons_of_mem _ hy)
    omega
theorem size_put_le {f : Nat → Option Ty} {m : Nat} (hm : 1 ≤ m) (hf : ∀ n u, f n = some u → u.size ≤ m) (t : Ty) : (t.put f).size ≤ t.size * m := by
  rw [size_put, ← parts_length]
  refine sum_le_mul _ _ fun x _ => ?_
  cases x with
  | kind k ts => exact hm
  | unk n =>
    show (match f n with | some u => u.size | none => 1) ≤ m
    cases e : f n with
    | none => exact hm
    | some u => exact hf n u e
theorem nice_prs {ps : List (Nat × Ty)} (g : goodPs ps) : Nice 11249 12 (prD ps) := by
  refine (nice_list (n := 2809) (m := 9) (c := 4) (fun d hd => ?_) (by rw [List.length_map]; exact g.2.1)).le (by decide) (by decide)
  obtain ⟨p, hp, rfl⟩ := List.mem_map.mp hd
  obtain ⟨h1, h2, h3, h4, h5⟩ := g.2.2 p hp
  refine nice_tuple (n := 1400) (m := 8) (c := 2) (fun d hd => ?_) (Nat.le_refl _)
  simp only [List.mem_cons, List.not_mem_nil, or_false] at hd
  rcases hd with rfl | rfl
  · exact (nice_int (by omega) (by omega)).le (by decide) (by decide)
  · exact nice_ty h2 (fun n hn => Nat.lt_trans (h5 n hn) (by decide)) h4 h3
theorem nice_noted {t : Ty} {ps ls : List (Nat × Ty)} (ht : Nice 6200 12 t.toD) (g1 : goodPs ps) (g2 : goodPs ls) : Nice 33758 13 (.list [t.toD, prD ps, prD ls]) :=
  nice_list (n := 11249) (m := 12) (c := 3) (fun d hd => by
    simp only [List.mem_cons, List.not_mem_nil, or_false] at hd
    rcases hd with rfl | rfl | rfl
    · exact ht.le (by decide) (by decide)
    · exact nice_prs g1
    · exact nice_prs g2) (Nat.le_refl _)
theorem good_ok {ps : List (Nat × Ty)} (g : goodPs ps) : okPs ps := ⟨g.1, fun p hp => ⟨(g.2.2 p hp).2.1, Nat.le_trans (g.2.2 p hp).2.2.2.1 (by decide)⟩⟩
theorem okd3 {n : Nat} {a b c : PyData} (ha : okd n a = true) (hb : okd n b = true) (hc : okd n c = true) (he : endStr [a, b, c] = false) : okd (n + 1) (.list [a, b, c]) = true :=
  okd_list12 (by intro d hd; simp only [List.mem_cons, List.not_mem_nil, or_false] at hd; rcases hd with rfl | rfl | rfl <;> assumption) (by show (3 : Nat) ≤ 100000; decide) he
theorem okd2 {n : Nat} {a b : PyData} (ha : okd n a = true) (hb : okd n b = true) (he : endStr [a, b] = false) : okd (n + 1) (.list [a, b]) = true :=
  okd_list12 (by intro d hd; simp only [List.mem_cons, List.not_mem_nil, or_false] at hd; rcases hd with rfl | rfl <;> assumption) (by show (2 : Nat) ≤ 100000; decide) he
theorem both_ok {ps ls qs : List (Nat × Ty)} (g1 : goodPs ps) (g2 : goodPs ls) (hp : qs.Perm (bothL ps ls)) (ha : (qs.map (·.1)).Pairwise (· < ·)) : okPs qs ∧ qs.length ≤ 8 := by
  have hl : ∀ n u, lkT ls n = some u → u.ok = true ∧ u.size ≤ 7 := fun n u h => ⟨(g2.2.2 _ (lkT_mem h)).2.1, (g2.2.2 _ (lkT_mem h)).2.2.2.1⟩
  refine ⟨⟨ha, fun q hq => ?_⟩, ?_⟩
  · rcases List.mem_append.mp (hp.mem_iff.mp hq) with h | h
    · obtain ⟨p, hp, rfl⟩ := List.mem_map.mp h
      obtain ⟨h1, h2, h3, h4, h5⟩ := g1.2.2 p hp
      refine ⟨ok_put (fun n u h => (hl n u h).1) _ h2, ?_⟩
      have := size_put_le (f := lkT ls) (m := 7) (by decide) (fun n u h => (hl n u h).2) p.2
      show (p.2.put (lkT ls)).size ≤ 200
      omega
    · obtain ⟨h1, h2, h3, h4, h5⟩ := g2.2.2 q (List.mem_filter.mp h).1
      exact ⟨h2, Nat.le_trans h4 (by decide)⟩
  · have e := hp.length_eq
    unfold bothL at e
    rw [List.length_append, List.length_map] at e
    have := List.length_filter_le (fun p : Nat × Ty => !(ps.any fun q => decide (q.1 = p.1))) ls
    have h1 := g1.2.1
    have h2 := g2.2.1
    omega
theorem both_put {ps ls qs : List (Nat × Ty)} (n1 : (ps.map (·.1)).Nodup) (n2 : (ls.map (·.1)).Nodup) (hp : qs.Perm (bothL ps ls)) (t : Ty) : t.put (lkT qs) = (t.put (lkT ps)).put (lkT ls) := by
  rw [put_both]
  exact put_congr t fun n _ => lkT_perm hp ((hp.map _).nodup_iff.mpr (both_nodup n1 n2)) n
/-- the types of the law's end -/
def pairT : Nat → Ty
  | 0 => .unk 0
  | n + 1 => .kind "pair" [pairT n, pairT n]
def lstT : Nat → Ty
  | 0 => .unk 0
  | n + 1 => .kind "list" [lstT n]
theorem lst_ok : ∀ n, (lstT n).ok = true
  | 0 => rfl
  | n + 1 => by
    show (kindD (.str "list") && (decide (1 ≤ 3) && ((lstT n).ok && true))) = true
    rw [lst_ok n]
    decide +kernel
theorem lst_size : ∀ n, (lstT n).size = n + 1
  | 0 => rfl
  | n + 1 => by
    show 1 + ((lstT n).size + 0) = n + 1 + 1
    rw [lst_size n]
    omega
theorem lst_deep : ∀ n, (lstT n).deep = n
  | 0 => rfl
  | n + 1 => by
    show 1 + max (lstT n).deep 0 = n + 1
    rw [lst_deep n]
    omega
theorem pair_ok : (pairT 2).ok = true := by decide +kernel
theorem one_ok (n : Nat) (h : n ≤ 100) : okPs [(0, lstT n)] := ⟨List.pairwise_singleton .., fun p hp => by
  rw [List.mem_singleton.mp hp]
  exact ⟨lst_ok n, by show (lstT n).size ≤ 200; rw [lst_size]; omega⟩⟩
theorem pair_put (n : Nat) : (pairT 2).put (lkT [(0, lstT n)]) = .kind "pair" [.kind "pair" [lstT n, lstT n], .kind "pair" [lstT n, lstT n]] := rfl
theorem pair_size (n : Nat) : ((pairT 2).put (lkT [(0, lstT n)])).size = 4 * n + 7 := by
  rw [pair_put]
  simp only [Ty.size, Ty.sizes, lst_size]
  omega
theorem pair_deep (n : Nat) : ((pairT 2).put (lkT [(0, lstT n)])).deep = n + 2 := by
  rw [pair_put]
  simp only [Ty.deep, Ty.deeps, lst_deep]
  omega
end
end K21

set_option Elab.async false
set_option linter.all false
set_option maxRecDepth 100000
set_option maxHeartbeats 2000000
namespace K21
open PySem PySem.Spec L2 Wy RZ
section
variable {P : Program} {w : World} {K : PySem.W.Frag} {mg : Str → Option Value} {base : Heap}
def SH (Z : Exs P K mg) (F : Fs K mg) (K' : PySem.W.Frag) : Addr → Sp → Prop := fun f sp => f = F.f_put_types ∧ sp = spPutT Z K'
theorem held (F : Fs K mg) (T : Txt K mg) (Z : Exs P K mg) : ∀ f sp, SH Z F K f sp → HeldX P w K mg base 64 f sp := by
  rintro f sp ⟨rfl, rfl⟩
  exact ⟨_, _, ok_put_types F T Z, F.d_put_types.fn.kp, F.d_put_types.fn.bindsN fun _ _ _ _ _ _ us hl => match us, hl with | [_, _], _ => rfl⟩
def ttOdd (Z : Exs P K mg) (F : Fs K mg) (K' : PySem.W.Frag) : TT := tTest (tOp (rNeS K') (tCall (spHeard Z K' (SH Z F K')) [] E0 (tCons (tC (.ref F.f_put_types)) (tCons (tLst (tCons (tVar 5) (tCons (tVar 15) tNil))) tNil))) (tLst (tCons (tC (.str "types")) (tCons (tCB (rRepr K') (tCons (tVar 15) tNil)) tNil))))
def spLaw (K : PySem.W.Frag) : Sp := fun vs H Q _ => ∃ (a : Addr) (ns : List Int), vs = [.ref a] ∧ SqL K H a (ns.map V.int) ∧ ns.length ≤ 63 ∧ ∀ H', Q (.bl true) H'
theorem dr_par {M : Addr → Bool} {σ : St} {F H : Hp} {i j : Nat} {ta : TA} {d1 d2 : PyData} {rest : TS} {D : Ends} (h : DRA K M ta σ F [d1, d2]) (o : Occ M H) (s : Same F (outM M H)) (q : ∀ v w H', Same H H' → Dx K (outM M H') v d1 → Dx K (outM M H') w d2 → rest D ((σ.set i (some v)).set j (some w)) H') : tSeq (tPar i j ta) rest D σ H :=
  h H _ o s fun vs H' s' hvs => by
    cases hvs with
    | cons g1 hvs =>
    cases hvs with
    | cons g2 hvs =>
    cases hvs
    exact ⟨_, _, rfl, q _ _ H' s' g1 g2⟩
theorem dr_asg {M : Addr → Bool} {σ : St} {F H : Hp} {i : Nat} {te : TE} {d : PyData} {D : Ends} (h : DR K M te σ F d) (o : Occ M H) (s : Same F (outM M H)) (q : ∀ v H', Same H H' → Dx K (outM M H') v d → D.nx (σ.set i (some v)) H') : tAsg te (gName i) D σ H := h H _ o s q
theorem sc_law : FnScope ["script", "purse", "turn", "long", "pair", "u", "one", "pairs", "late", "noted", "due", "told", "both", "far", "odd", "wrong", "number", "first"] ["script"] (defScope s_law) := ⟨rfl, rfl, rfl, by decide +kernel, rfl, by decide +kernel, by decide +kernel⟩
theorem ok_law (smK : SmK K) (F : Fs K mg) (T : Txt K mg) (Z : Exs P K mg) : FnG P w K mg base CX0 67 F.f_law F.fd_law ["script"] (spLaw K) := by
  have SC := sc_law
  have G__law_purse : FnOk P w K mg base CX0 1 F.f__law_purse F.fd__law_purse ["script"] (spPurse K) := ok_purse F.d__law_purse T.t0
  have B__law_purse : Binds K F.fd__law_purse ["script"] [] := F.d__law_purse.fn.bindsN fun _ _ _ _ _ _ us hl => match us, hl with | [_], _ => rfl
  have G__law_draw : FnOk P w K mg base CX0 1 F.f__law_draw F.fd__law_draw ["purse", "many"] (spDraw) := ok_draw F.d__law_draw T.t0
  have B__law_draw : Binds K F.fd__law_draw ["purse", "many"] [] := F.d__law_draw.fn.bindsN fun _ _ _ _ _ _ us hl => match us, hl with | [_, _], _ => rfl
  have G__law_pick : FnOk P w K mg base CX0 2 F.f__law_pick F.fd__law_pick ["purse", "things"] (spPick K) := ok_pick F.d__law_pick F.d__law_draw T.t0
  have B__law_pick : Binds K F.fd__law_pick ["purse", "things"] [] := F.d__law_pick.fn.bindsN fun _ _ _ _ _ _ us hl => match us, hl with | [_, _], _ => rfl
  have G__law_same : FnOk P w K mg base CX0 32 F.f__law_same F.fd__law_same ["told", "due"] (spSame K 30) := ok_same F T 30
  have B__law_same : Binds K F.fd__law_same ["told", "due"] [] := F.d__law_same.fn.bindsN fun _ _ _ _ _ _ us hl => match us, hl with | [_, _], _ => rfl
  have G__law_spoilt : FnOk P w K mg base CX0 32 F.f__law_spoilt F.fd__law_spoilt ["told"] (spMark K 30) := ok_mark F T 30
  have B__law_spoilt : Binds K F.fd__law_spoilt ["told"] [] := F.d__law_spoilt.fn.bindsN fun _ _ _ _ _ _ us hl => match us, hl with | [_], _ => rfl
  have G__law_odd_types : FnOk P w K mg base CX0 1 F.f__law_odd_types F.fd__law_odd_types ["one"] (spOdd K) := ok__law_odd_types F T Z
  have B__law_odd_types : Binds K F.fd__law_odd_types ["one"] [] := F.d__law_odd_types.fn.bindsN fun _ _ _ _ _ _ us hl => match us, hl with | [_], _ => rfl
  have G__law_odd_pairs : FnOk P w K mg base CX0 1 F.f__law_odd_pairs F.fd__law_odd_pairs [] (spOddP K) := ok__law_odd_pairs F T Z
  have B__law_odd_pairs : Binds K F.fd__law_odd_pairs [] [] := F.d__law_odd_pairs.fn.bindsN fun _ _ _ _ _ _ us hl => match us, hl with | [], _ => rfl
  have G__law_unknown : FnOk P w K mg base CX0 1 F.f__law_unknown F.fd__law_unknown ["number"] (spUnkL) := ok__law_unknown F T Z
  have B__law_unknown : Binds K F.fd__law_unknown ["number"] [] := F.d__law_unknown.fn.bindsN fun _ _ _ _ _ _ us hl => match us, hl with | [_], _ => rfl
  have G__law_parts : FnOk P w K mg base CX0 2 F.f__law_parts F.fd__law_parts ["one"] (spAll K) := ok__law_parts F T Z
  have B__law_parts : Binds K F.fd__law_parts ["one"] [] := F.d__law_parts.fn.bindsN fun _ _ _ _ _ _ us hl => match us, hl with | [_], _ => rfl
  have G__law_put : FnOk P w K mg base CX0 10 F.f__law_put F.fd__law_put ["one", "table"] (spPut K 8) := ok_law_put F T Z 8
  have B__law_put : Binds K F.fd__law_put ["one", "table"] [] := F.d__law_put.fn.bindsN fun _ _ _ _ _ _ us hl => match us, hl with | [_, _], _ => rfl
  have G__law_pairs : FnOk P w K mg base CX0 7 F.f__law_pairs F.fd__law_pairs ["purse", "many"] (spPairsL K) := ok__law_pairs F T Z
  have B__law_pairs : Binds K F.fd__law_pairs ["purse", "many"] [] := F.d__law_pairs.fn.bindsN fun _ _ _ _ _ _ us hl => match us, hl with | [_, _], _ => rfl
  have G_put_types : FnOk P w K mg base (L2.CX P w) 64 F.f_put_types F.fd_put_types ["one", "pairs"] (spPutT Z K) := ok_put_types F T Z
  have B_put_types : Binds K F.fd_put_types ["one", "pairs"] [] := F.d_put_types.fn.bindsN fun _ _ _ _ _ _ us hl => match us, hl with | [_, _], _ => rfl
  have G3 : FnOk P w K mg base CX0 7 F.f__law_drawn_type F.fd__law_drawn_type ["purse", "many", "deep"] (spDrawn K 3) := ok_drawn F T Z 3
  have B__law_drawn_type : Binds K F.fd__law_drawn_type ["purse", "many", "deep"] [] := F.d__law_drawn_type.fn.bindsN fun _ _ _ _ _ _ us hl => match us, hl with | [_, _, _], _ => rfl
  have G__law_heard : FnG P w K mg base CX0 65 F.f__law_heard F.fd__law_heard ["call", "parts"] (spHeard Z K (SH Z F K)) := ok_heard smK F T Z (held F T Z)
  have B__law_heard : Binds K F.fd__law_heard ["call", "parts"] [] := F.d__law_heard.fn.bindsN fun _ _ _ _ _ _ us hl => match us, hl with | [_, _], _ => rfl
  have KB_put_types_0_pairs_one : KBg F.fd_put_types ["one", "pairs"] ["pairs", "one"] 0 _ _ := kb_rev F.d_put_types.fn fun _ _ _ _ _ _ us ws h1 h2 => match us, ws, h1, h2 with | [], [_, _], _, _ => rfl
  refine FnG.ok F.d_law sc_law (fun vs H Q E h => ?_) (fun cdv A outer s H vs Q E hr hgu h => ?_)
  · obtain ⟨a, ns, rfl, _⟩ := h
    rfl
  have hu := hr.units
  have hu1 := hu_of hr
  obtain ⟨a, ns, rfl, hS, hlen, q⟩ := h
  refine ⟨_, PSs.nox (pss_cons (ps_set (i := 1) SC.nd rfl (Or.inl rfl) (pe_call G__law_purse (hr.mono (by omega)) rfl F.d__law_purse.gl F.d__law_purse.fn.kp B__law_purse .nil pass0 (pa_cons (pv 0) pa_nil)))
    (pss_cons (ps_for PassesOwn.never rfl (pi_range1 rfl T.n_range (pa_cons pe_int pa_nil)) (pg_name (i := 2) SC.nd rfl (Or.inl rfl)) (pss_cons (ps_asg (pe_tup (pa_cons (pe_call G3 (hr.mono (by omega)) rfl F.d__law_drawn_type.gl F.d__law_drawn_type.fn.kp B__law_drawn_type .nil pass0 (pa_cons (pv 1) (pa_cons pe_int (pa_cons pe_int pa_nil)))) (pa_cons (pe_call G__law_pairs (hr.mono (by omega)) rfl F.d__law_pairs.gl F.d__law_pairs.fn.kp B__law_pairs .nil pass0 (pa_cons (pv 1) (pa_cons pe_int pa_nil))) (pa_cons (pe_call G__law_pairs (hr.mono (by omega)) rfl F.d__law_pairs.gl F.d__law_pairs.fn.kp B__law_pairs .nil pass0 (pa_cons (pv 1) (pa_cons pe_int pa_nil))) pa_nil)))) (pg_tup (by rfl) (pgs_cons (pg_name (i := 6) SC.nd rfl (Or.inl rfl)) (pgs_cons (pg_name (i := 7) SC.nd rfl (Or.inr rfl)) (pgs_cons (pg_name (i := 8) SC.nd rfl (Or.inr rfl)) pgs_nil)))))
    (pss_cons (ps_par (i := 9) (j := 10) (by rfl) SC.nd rfl rfl (by decide) rfl rfl (pa_cons (pe_callB (call_repr smK hgu hu) (by rfl) T.n_repr (by decide +kernel) (pa_cons (pe_lst (pa_cons (pv 6) (pa_cons (pv 7) (pa_cons (pv 8) pa_nil)))) pa_nil)) (pa_cons (pe_call G__law_put (hr.mono (by omega)) rfl F.d__law_put.gl F.d__law_put.fn.kp B__law_put .nil pass0 (pa_cons (pv 6) (pa_cons (pe_callTy (call_dictP (by rfl)) (by rfl) T.n_dict (by decide +kernel) (pa_cons (pv 7) pa_nil)) pa_nil))) pa_nil)) (by rfl))
    (pss_cons (ps_if (pt_cmpR op_lt (pe_callB call_len (by rfl) T.n_len (by decide +kernel) (pa_cons (pe_call G__law_parts (hr.mono (by omega)) rfl F.d__law_parts.gl F.d__law_parts.fn.kp B__law_parts .nil pass0 (pa_cons (pv 10) pa_nil)) pa_nil)) pe_int (nomark _)) (pss_cons (ps_set (i := 11) SC.nd rfl (Or.inl rfl) (pe_lst (pa_cons (pe_call G_put_types (hr.mono (by omega)) rfl F.d_put_types.gl F.d_put_types.fn.kp B_put_types .nil passL (pa_cons (pv 6) (pa_cons (pv 7) pa_nil))) (pa_cons (pe_callK0 (hb := KB_put_types_0_pairs_one) G_put_types (hr.mono (by omega)) rfl F.d_put_types.gl F.d_put_types.fn.kp passL (pk_cons (pv 7) (pk_cons (pv 6) pk_nil))) (pa_cons (pe_call G_put_types (hr.mono (by omega)) rfl F.d_put_types.gl F.d_put_types.fn.kp B_put_types .nil passL (pa_cons (pv 6) (pa_cons (pe_lst pa_nil) pa_nil))) pa_nil)))))
    (pss_cons (ps_if (PW.pt (pw_or (pt_not (pt_val (pe_call G__law_same (hr.mono (by omega)) rfl F.d__law_same.gl F.d__law_same.fn.kp B__law_same .nil pass0 (pa_cons (pv 11) (pa_cons (pe_lst (pa_cons (pv 10) (pa_cons (pv 10) (pa_cons (pv 6) pa_nil)))) pa_nil))))) (pw_or1 (pt_not (pt_val (pe_call G__law_spoilt (hr.mono (by omega)) rfl F.d__law_spoilt.gl F.d__law_spoilt.fn.kp B__law_spoilt .nil pass0 (pa_cons (pv 11) pa_nil))))))) (pss_one (ps_ret pe_bl)) pss_nil)
    (pss_cons (ps_set (i := 12) SC.nd rfl (Or.inl rfl) (pe_callB cr_sortedPr (by rfl) T.n_sorted (by decide +kernel) (pa_cons (pe_op op_catS (pe_lc (own := [("number", 16), ("first", 17)]) (te := teB1 K) (g := gTup K 2 (gCons (gName 16) (gCons (gName 17) gNil))) (by rfl) SC.nd (pi_list (pv 7)) (blkOk_by (own := [("number", 16), ("first", 17)]) (N := ["script", "purse", "turn", "long", "pair", "u", "one", "pairs", "late", "noted", "due", "told", "both", "far", "odd", "wrong", "number", "first"]) (sc := defScope s_law) (by decide +kernel)) (fun _ _ _ _ _ => (pg_tup (by rfl) (pgs_cons (pg_name (i := 16) SC.nd rfl (Or.inl rfl)) (pgs_cons (pg_name (i := 17) SC.nd rfl (Or.inl rfl)) pgs_nil)))) (fun _ _ _ _ _ => pts_nil) (fun _ _ _ _ _ => (pe_tup (pa_cons (pv 16) (pa_cons (pe_call G__law_put (hr.mono (by omega)) rfl F.d__law_put.gl F.d__law_put.fn.kp B__law_put .nil pass0 (pa_cons (pv 17) (pa_cons (pe_callTy (call_dictP (by rfl)) (by rfl) T.n_dict (by decide +kernel) (pa_cons (pv 8) pa_nil)) pa_nil))) pa_nil))))) (pe_lc (own := [("pair", 4)]) (tt := ttB2 K) (te := tVar 4) (g := (gName 4)) (by rfl) SC.nd (pi_list (pv 8)) (blkOk_by (own := [("pair", 4)]) (N := ["script", "purse", "turn", "long", "pair", "u", "one", "pairs", "late", "noted", "due", "told", "both", "far", "odd", "wrong", "number", "first"]) (sc := defScope s_law) (by decide +kernel)) (fun _ _ _ _ _ => (pg_name (i := 4) SC.nd rfl (Or.inl rfl))) (fun _ _ _ _ _ => pts_one (pt_cmp (pc_dnotin hu1 (pe_ix ix_tup (pv 4) pe_int (fun _ _ => rfl)) (pe_callTy (call_dictP (by rfl)) (by rfl) T.n_dict (by decide +kernel) (pa_cons (pv 7) pa_nil))))) (fun _ _ _ _ _ => (pv 4)))) pa_nil)))
    (pss_cons (ps_set (i := 13) SC.nd rfl (Or.inl rfl) (pe_call G__law_put (hr.mono (by omega)) rfl F.d__law_put.gl F.d__law_put.fn.kp B__law_put .nil pass0 (pa_cons (pv 10) (pa_cons (pe_callTy (call_dictP (by rfl)) (by rfl) T.n_dict (by decide +kernel) (pa_cons (pv 8) pa_nil)) pa_nil))))
    (pss_one (ps_if (PW.pt (pw_and (pt_cmpR op_lt (pe_callB call_len (by rfl) T.n_len (by decide +kernel) (pa_cons (pe_call G__law_parts (hr.mono (by omega)) rfl F.d__law_parts.gl F.d__law_parts.fn.kp B__law_parts .nil pass0 (pa_cons (pv 13) pa_nil)) pa_nil)) pe_int (nomark _)) (pw_and1 (pt_not (pt_val (pe_call G__law_same (hr.mono (by omega)) rfl F.d__law_same.gl F.d__law_same.fn.kp B__law_same .nil pass0 (pa_cons (pe_lst (pa_cons (pe_call G_put_types (hr.mono (by omega)) rfl F.d_put_types.gl F.d_put_types.fn.kp B_put_types .nil passL (pa_cons (pv 10) (pa_cons (pv 8) pa_nil))) (pa_cons (pe_call G_put_types (hr.mono (by omega)) rfl F.d_put_types.gl F.d_put_types.fn.kp B_put_types .nil passL (pa_cons (pv 6) (pa_cons (pv 12) pa_nil))) pa_nil))) (pa_cons (pe_lst (pa_cons (pv 13) (pa_cons (pv 13) pa_nil))) pa_nil)))))))) (pss_one (ps_ret pe_bl)) pss_nil)))))) pss_nil)
    (pss_cons (ps_if (pt_cmpR op_ne (pe_callB (call_repr smK hgu hu) (by rfl) T.n_repr (by decide +kernel) (pa_cons (pe_lst (pa_cons (pv 6) (pa_cons (pv 7) (pa_cons (pv 8) pa_nil)))) pa_nil)) (pv 9) (nomark _)) (pss_one (ps_ret pe_bl)) pss_nil)
    (pss_cons (ps_par (i := 14) (j := 15) (by rfl) SC.nd rfl rfl (by decide) rfl rfl (pa_cons (pe_call G__law_pick (hr.mono (by omega)) rfl F.d__law_pick.gl F.d__law_pick.fn.kp B__law_pick .nil pass0 (pa_cons (pv 1) (pa_cons (pe_call G__law_odd_types (hr.mono (by omega)) rfl F.d__law_odd_types.gl F.d__law_odd_types.fn.kp B__law_odd_types .nil pass0 (pa_cons (pv 6) pa_nil)) pa_nil))) (pa_cons (pe_call G__law_pick (hr.mono (by omega)) rfl F.d__law_pick.gl F.d__law_pick.fn.kp B__law_pick .nil pass0 (pa_cons (pv 1) (pa_cons (pe_call0 G__law_odd_pairs (hr.mono (by omega)) rfl F.d__law_odd_pairs.gl F.d__law_odd_pairs.fn.kp B__law_odd_pairs .nil pass0) pa_nil))) pa_nil)) (by rfl))
    (pss_one (ps_if (PW.pt (pw_or (pt_cmpR (op_neS hu) (pe_callG G__law_heard (hr.mono (by omega)) hgu rfl F.d__law_heard.gl F.d__law_heard.fn.kp B__law_heard pass0 (pa_cons (pe_glob (v := .ref F.f_put_types) rfl F.d_put_types.gl rfl) (pa_cons (pe_lst (pa_cons (pv 14) (pa_cons (pv 15) pa_nil))) pa_nil))) (pe_lst (pa_cons pe_str (pa_cons (pe_callB (call_repr smK hgu hu) (by rfl) T.n_repr (by decide +kernel) (pa_cons (pv 14) pa_nil)) pa_nil))) (nomark _)) (pw_or1 (pt_cmpR (op_neS hu) (pe_callG G__law_heard (hr.mono (by omega)) hgu rfl F.d__law_heard.gl F.d__law_heard.fn.kp B__law_heard pass0 (pa_cons (pe_glob (v := .ref F.f_put_types) rfl F.d_put_types.gl rfl) (pa_cons (pe_lst (pa_cons (pv 6) (pa_cons (pv 15) pa_nil))) pa_nil))) (pe_lst (pa_cons pe_str (pa_cons (pe_callB (call_repr smK hgu hu) (by rfl) T.n_repr (by decide +kernel) (pa_cons (pv 15) pa_nil)) pa_nil))) (nomark _))))) (pss_one (ps_ret pe_bl)) pss_nil))))))))
    (pss_cons (ps_asg (pe_tup (pa_cons (pe_call G__law_unknown (hr.mono (by omega)) rfl F.d__law_unknown.gl F.d__law_unknown.fn.kp B__law_unknown .nil pass0 (pa_cons pe_int pa_nil)) (pa_cons (pe_call G__law_unknown (hr.mono (by omega)) rfl F.d__law_unknown.gl F.d__law_unknown.fn.kp B__law_unknown .nil pass0 (pa_cons pe_int pa_nil)) pa_nil))) (pg_tup (by rfl) (pgs_cons (pg_name (i := 4) SC.nd rfl (Or.inl rfl)) (pgs_cons (pg_name (i := 5) SC.nd rfl (Or.inr rfl)) pgs_nil))))
    (pss_cons (ps_for PassesOwn.never rfl (pi_range1 rfl T.n_range (pa_cons pe_int pa_nil)) (pg_name (i := 2) SC.nd rfl (Or.inl rfl)) (pss_one (ps_set (i := 4) SC.nd rfl (Or.inl rfl) (pe_tup (pa_cons pe_str (pa_cons pe_str (pa_cons (pe_lst (pa_cons (pv 4) (pa_cons (pv 4) pa_nil))) pa_nil)))))))
    (pss_cons (ps_set (i := 3) SC.nd rfl (Or.inl rfl) (pe_lst (pa_cons (pv 5) (pa_cons (pv 5) pa_nil))))
    (pss_cons (ps_for PassesOwn.never rfl (pi_range1 rfl T.n_range (pa_cons pe_int pa_nil)) (pg_name (i := 2) SC.nd rfl (Or.inl rfl)) (pss_one (ps_set (i := 3) SC.nd rfl (Or.inl rfl) (pe_lst (pa_cons (pe_ix ix_list (pv 3) pe_int (fun _ _ => rfl)) (pa_cons (pe_tup (pa_cons pe_str (pa_cons pe_str (pa_cons (pe_lst (pa_cons (pe_ix ix_list (pv 3) pe_int (fun _ _ => rfl)) pa_nil)) pa_nil)))) pa_nil))))))
    (pss_cons (ps_if (PW.pt (pw_or (pt_cmpR op_ne (pe_callB call_len (by rfl) T.n_len (by decide +kernel) (pa_cons (pe_call G__law_parts (hr.mono (by omega)) rfl F.d__law_parts.gl F.d__law_parts.fn.kp B__law_parts .nil pass0 (pa_cons (pe_call G_put_types (hr.mono (by omega)) rfl F.d_put_types.gl F.d_put_types.fn.kp B_put_types .nil passL (pa_cons (pv 4) (pa_cons (pe_lst (pa_cons (pe_tup (pa_cons pe_int (pa_cons (pe_ix ix_list (pv 3) pe_int (fun _ _ => rfl)) pa_nil))) pa_nil)) pa_nil))) pa_nil)) pa_nil)) pe_int (nomark _)) (pw_or1 (pt_cmpR (op_neS hu) (pe_callG G__law_heard (hr.mono (by omega)) hgu rfl F.d__law_heard.gl F.d__law_heard.fn.kp B__law_heard pass0 (pa_cons (pe_glob (v := .ref F.f_put_types) rfl F.d_put_types.gl rfl) (pa_cons (pe_lst (pa_cons (pv 4) (pa_cons (pe_lst (pa_cons (pe_tup (pa_cons pe_int (pa_cons (pe_ix ix_list (pv 3) pe_int (fun _ _ => rfl)) pa_nil))) pa_nil)) pa_nil))) pa_nil))) (pe_lst (pa_cons pe_str (pa_cons pe_str pa_nil))) (nomark _))))) (pss_one (ps_ret pe_bl)) pss_nil)
    (pss_one (ps_ret (pe_cmpR (op_eqD hu) (pe_lc (own := [("wrong", 15)]) (tt := ttOdd Z F K) (te := tC (.int 1)) (g := (gName 15)) (by rfl) SC.nd (pi_list (pe_call0 G__law_odd_pairs (hr.mono (by omega)) rfl F.d__law_odd_pairs.gl F.d__law_odd_pairs.fn.kp B__law_odd_pairs .nil pass0)) (blkOk_by (own := [("wrong", 15)]) (N := ["script", "purse", "turn", "long", "pair", "u", "one", "pairs", "late", "noted", "due", "told", "both", "far", "odd", "wrong", "number", "first"]) (sc := defScope s_law) (by decide +kernel)) (fun _ _ _ _ _ => (pg_name (i := 15) SC.nd rfl (Or.inl rfl))) (fun _ _ _ _ _ => pts_one (pt_cmpR (op_neS hu) (pe_callG G__law_heard (hr.mono (by omega)) hgu rfl F.d__law_heard.gl F.d__law_heard.fn.kp B__law_heard pass0 (pa_cons (pe_glob (v := .ref F.f_put_types) rfl F.d_put_types.gl rfl) (pa_cons (pe_lst (pa_cons (pv 5) (pa_cons (pv 15) pa_nil))) pa_nil))) (pe_lst (pa_cons pe_str (pa_cons (pe_callB (call_repr smK hgu hu) (by rfl) T.n_repr (by decide +kernel) (pa_cons (pv 15) pa_nil)) pa_nil))) (nomark _))) (fun _ _ _ _ _ => pe_int)) (pe_lst pa_nil) (nomark _))))))))))), ?_⟩
  have c3 : cT 3 = 30 := rfl
  have z3 : sT 3 = 15 := rfl
  refine ⟨_, rfl, a, ns, rfl, hS, hlen, fun p lc H0 hp0 hl0 hP0 s0 => ?_⟩
  refine ⟨12, rfl, by decide, by decide, for_range (fun i σ H' => (∃ w2 w3 w4 w5 w6 w7 w8 w9 wa wb wc wd we wf wg wh, σ = [some (.ref a), some (.ref p), w2, w3, w4, w5, w6, w7, w8, w9, wa, wb, wc, wd, we, wf, wg, wh]) ∧ Purse H' p lc (i * 300)) ⟨⟨_, _, _, _, _, _, _, _, _, _, _, _, _, _, _, _, rfl⟩, by rw [Nat.zero_mul]; exact hP0⟩ ?_ ?_⟩
  · rintro i σ H hi ⟨⟨w2, w3, w4, w5, w6, w7, w8, w9, wa, wb, wc, wd, we, wf, wg, wh, rfl⟩, hP⟩
    have hi12 : i < 12 := hi
    refine ⟨_, rfl, p, lc, 4, _, rfl, hP, by rw [c3]; omega, by decide, by decide, fun x t H1 hx hok hdeep hsize hnum hP1 hk1 => ?_⟩
    refine ⟨_, rfl, p, lc, _, rfl, hP1, by rw [c3]; omega, fun r1 a1 ps H2 hr1 ha1 hp1 gp hP2 hk2 => ?_⟩
    refine ⟨_, rfl, p, lc, _, rfl, hP2, by rw [c3]; omega, fun r2 a2 ls H3 hr2 ha2 hp2 gl hP3 hk3 => ?_⟩
    refine ⟨small _ (by show 3 ≤ 100000; decide), fun tp htp => ?_⟩
    have st := same_new htp (.tup [x, .ref r1, .ref r2])
    refine ⟨tp, _, rfl, SqT.of upd_same, rfl, _, _, rfl, _, _, rfl, _, _, rfl, rfl, ?_⟩
    have hP4 := (hP3.kp st).mono (show i * 300 + cT 3 + 61 + 61 ≤ i * 300 + 200 by rw [c3]; omega)
    have k34 : Kp p H3 (upd H3 tp (.tup [x, .ref r1, .ref r2])) := Kp.of_same st
    have k24 : Kp p H2 (upd H3 tp (.tup [x, .ref r1, .ref r2])) := Kp.trans (p := p) hk3 k34
    have k14 : Kp p H1 (upd H3 tp (.tup [x, .ref r1, .ref r2])) := Kp.trans (p := p) hk2 k24
    generalize upd H3 tp (.tup [x, .ref r1, .ref r2]) = H4 at hP4 k34 k24 k14
    have np1 : r1 ≠ p := fun z => by
      obtain ⟨⟨o', h⟩, _⟩ := hP1.at_
      rw [z, h] at hr1
      cases hr1
    have np2 : r2 ≠ p := fun z => by
      obtain ⟨⟨o', h⟩, _⟩ := hP2.at_
      rw [z, h] at hr2
      cases hr2
    have hx4 := hx.mono (new_out hP k14)
    have hp14 := hp1.mono (new_out hP1 k24)
    have hp24 := hp2.mono (new_out hP2 k34)
    have ha14 : outA H4 p r1 = some (.lst a1) := by
      rw [outA_ne np1]
      exact k24 _ _ np1 ha1
    have ha24 : outA H4 p r2 = some (.lst a2) := by
      rw [outA_ne np2]
      exact k34 _ _ np2 ha2
    rw [← outM_one] at hx4 hp14 hp24 ha14 ha24
    obtain ⟨M, eM⟩ : ∃ M : Addr → Bool, M = fun b => decide (b = p) := ⟨_, rfl⟩
    rw [← eM] at hx4 hp14 hp24 ha14 ha24
    have oM : ∀ {G : Hp} {n : Nat}, Purse G p lc n → Occ M G := fun h => by rw [eM]; exact occ_one h.lst
    have o4 := oM hP4
    clear hx hp1 hp2 ha1 ha2 hr1 hr2 hk1 hk2 hk3 k14 k24 k34 st htp hP1 hP2 hP3 hP
    have hps : Dx K (outM M H4) (.ref r1) (prD ps) := .lst (SqL.of ha14) hp14.dx
    have hls : Dx K (outM M H4) (.ref r2) (prD ls) := .lst (SqL.of ha24) hp24.dx
    rw [z3] at hsize
    have nOne : Nice 6200 12 t.toD := nice_ty (s := 31) (d := 5) hok (fun n hn => by have := hnum n hn; omega) (by omega) (by omega)
    have nNot := nice_noted nOne gp gl
    have okp := good_ok gp
    have okl := good_ok gl
    have dpp : ∀ n u, lkT ps n = some u → u.deep ≤ 3 := fun n u h => (gp.2.2 _ (lkT_mem h)).2.2.1
    have dpl : ∀ n u, lkT ls n = some u → u.deep ≤ 3 := fun n u h => (gl.2.2 _ (lkT_mem h)).2.2.1
    have okD : (t.put (lkT ps)).ok = true := ok_put (fun n u h => (okp.2 _ (lkT_mem h)).1) t hok
    have dpD := deep_put dpp t
    have okF : ((t.put (lkT ps)).put (lkT ls)).ok = true := ok_put (fun n u h => (okl.2 _ (lkT_mem h)).1) _ okD
    have dpF := deep_put dpl (t.put (lkT ps))
    have szD := size_put_le (f := lkT ps) (m := 7) (by decide) (fun n u h => (gp.2.2 _ (lkT_mem h)).2.2.2.1) t
    have szF := size_put_le (f := lkT ls) (m := 7) (by decide) (fun n u h => (gl.2.2 _ (lkT_mem h)).2.2.2.1) (t.put (lkT ps))
    -- noted, due
    refine dr_par (K := K) (M := M) (F := outM M H4) (dra_cons (dr_repr (dr_lst (dra_cons (dr_var rfl hx4) (dra_cons (dr_var rfl hps) (dra_cons (dr_var rfl hls) dra_nil))) (Nat.le_of_ble_eq_true rfl)) nNot (by decide) (by decide)) (dra_cons (dr_lput (dr_var rfl hx4) (dr_var rfl hps) hok (by omega) okp.nodup) dra_nil)) o4 same_rfl fun vn vd H5 s5 g1 g2 => ?_
    obtain rfl := g1.str_inv
    have hP5 := hP4.kp s5
    have s45 := outM_same (M := M) s5
    have hx5 := hx4.mono s45
    have hps5 := hps.mono s45
    have hls5 := hls.mono s45
    have hp15 := hp14.mono s45
    have hp25 := hp24.mono s45
    have ha15 := s45 _ _ ha14
    have ha25 := s45 _ _ ha24
    clear hx4 hps hls hp14 hp24 ha14 ha24 o4 hP4
    refine if_gen (fun σ' H' => ∃ wb' wc' wd', σ' = [some (.ref a), some (.ref p), some (.int (0 + (i : Int))), w3, w4, w5, some x, some (.ref r1), some (.ref r2), some (.str (PyData.list [t.toD, prD ps, prD ls]).shown), some vd, wb', wc', wd', we, wf, wg, wh] ∧ Purse H' p lc (i * 300 + 200) ∧ Same (outM M H5) (outM M H')) (fun D' er hq => ?_) ?_
    · refine dt_ltN (K := K) (M := M) (F := outM M H5) (n := 61) (dr_var rfl g2) okD (by omega) rfl H5 _ (oM hP5) same_rfl fun H6 s6 => ?_
      have hP6 := hP5.kp s6
      have s56 := outM_same (M := M) s6
      by_cases hsm : (t.put (lkT ps)).size < 61
      rotate_left
      · rw [if_neg (by rw [decide_eq_false hsm]; exact Bool.false_ne_true)]
        exact hq _ _ ⟨_, _, _, rfl, hP6, s56⟩
      rw [if_pos (decide_eq_true hsm)]
      have hx6 := hx5.mono s56
      have hps6 := hps5.mono s56
      have hls6 := hls5.mono s56
      have hd6 := g2.mono s56
      have e0 : t.put (lkT []) = t := put_none t
      refine tr_seq (K := K) (M := M) (F := outM M H6) (d := .list [(t.put (lkT ps)).toD, (t.put (lkT ps)).toD, (t.put (lkT [])).toD]) (tr_lst (tra_cons (tr_putT Z (dr_var rfl hx6) (dr_var rfl hps6) hok (by omega) (by omega) okp (by have := gp.2.1; omega) (by omega) (by omega)) (tra_cons (tr_putTK Z (dr_var rfl hx6) (dr_var rfl hps6) hok (by omega) (by omega) okp (by have := gp.2.1; omega) (by omega) (by omega)) (tra_cons (tr_putT Z (ps := []) (dr_var rfl hx6) (dr_lst dra_nil (by decide)) hok (by omega) (by omega) ⟨List.Pairwise.nil, fun p h => by cases h⟩ (by decide) (by rw [e0]; omega) (by rw [e0]; omega)) tra_nil))) (Nat.le_of_ble_eq_true rfl)) (oM hP6) same_rfl fun vt S H7 s7 ht hSn => ?_
      rw [e0] at ht
      have hP7 := hP6.kp s7
      have s67 := outM_same (M := M) s7
      have okTold : okd 30 (.list [(t.put (lkT ps)).toD, (t.put (lkT ps)).toD, t.toD]) = true :=
        okd3 (okd_mono (by omega) (okd_ty _ okD)) (okd_mono (by omega) (okd_ty _ okD)) (okd_mono (by omega) (okd_ty _ hok)) (by cases t <;> rfl)
      refine if_told2 (K := K) (M := M) (F1 := outM M H7) (v := vt) (S := S) (dt_same (dr_var rfl (Tr.data (oM hP6) s7 ht hSn)) (dr_lst (dra_cons (dr_var rfl (hd6.mono s67)) (dra_cons (dr_var rfl (hd6.mono s67)) (dra_cons (dr_var rfl (hx6.mono s67)) dra_nil))) (Nat.le_of_ble_eq_true rfl)) okTold) same_rfl rfl ht okTold (oM hP7) fun H8 o8 => ?_
      have f6 : ∀ b ∈ S, M b ≠ true ∧ outM M H6 b = none := fun b hb => ⟨(oM hP6).new (hSn b hb), by
        cases e : outM M H6 b with
        | none => rfl
        | some u =>
          have := outM_sub _ _ e
          rw [hSn b hb] at this
          cases this⟩
      have hPS : p ∉ S := fun z => (f6 p z).1 (by rw [eM]; simp)
      obtain ⟨⟨op6, hpo6⟩, ⟨oc6, hco6⟩, _⟩ := hP6.at_
      have hlS : lc ∉ S := fun z => by
        have := hSn lc z
        rw [hco6] at this
        cases this
      have hP8 : Purse H8 p lc (i * 300 + 200) := hP7.ex (fun o e => o8 _ _ hPS e) fun o e => o8 _ _ hlS e
      have s68 : Same (outM M H6) (outM M H8) := fun b u e => by
        have e1 := s67 _ _ e
        unfold outM at e1 ⊢
        split at e1
        · cases e1
        · rename_i z
          rw [if_neg z]
          exact o8 b u (fun y => by rw [(f6 b y).2] at e; cases e) e1
      have s58 := s56.trans s68
      have hx8 := hx5.mono s58
      have hd8 := g2.mono s58
      clear ht hSn f6 okTold hPS hlS hx6 hps6 hls6 hd6 hP7
      -- both
      show teBoth K _ H8 _
      refine both_make (K := K) (M := M) (ps := ps) (ls := ls) (oM hP8) (s58 _ _ ha15) (s58 _ _ ha25) (hp15.mono s58) (hp25.mono s58) (fun p hp => ⟨(okp.2 p hp).1, by have := (gp.2.2 p hp).2.2.1; omega⟩) okp.nodup okl.nodup gp.2.1 gl.2.1 fun vb qs H9 s9 hqs hperm hasc => ?_
      have hP9 := hP8.kp s9
      have s89 := outM_same (M := M) s9
      obtain ⟨okq, hql⟩ := both_ok gp gl hperm hasc
      have eF : t.put (lkT qs) = (t.put (lkT ps)).put (lkT ls) := both_put okp.nodup okl.nodup hperm t
      -- far
      refine dr_seq (K := K) (M := M) (F := outM M H9) (dr_lput (dr_var rfl (hd8.mono s89)) (dr_var rfl ((hls5.mono s58).mono s89)) okD (by omega) okl.nodup) (oM hP9) same_rfl fun vf H10 s10 hf => ?_
      have hP10 := hP9.kp s10
      have s9a := outM_same (M := M) s10
      have s8a := s89.trans s9a
      have hx10 := hx8.mono s8a
      have hd10 := hd8.mono s8a
      have hl10 := (hls5.mono s58).mono s8a
      have hq10 := hqs.mono s9a
      have okSame : okd 30 (.list [((t.put (lkT ps)).put (lkT ls)).toD, ((t.put (lkT ps)).put (lkT ls)).toD]) = true :=
        okd2 (okd_mono (by omega) (okd_ty _ okF)) (okd_mono (by omega) (okd_ty _ okF)) (by cases (t.put (lkT ps)).put (lkT ls) <;> rfl)
      refine dt_if1 (K := K) (M := M) (F := outM M H10) (dt_and (dt_ltN (n := 201) (dr_var rfl hf) okF (by omega) rfl) fun hb => ?_) (oM hP10) same_rfl fun H11 s11 => ?_
      · have hsz : ((t.put (lkT ps)).put (lkT ls)).size < 201 := of_decide_eq_true hb
        refine dt_not (dt_same (d := .list [((t.put (lkT ps)).put (lkT ls)).toD, ((t.put (lkT ps)).put (lkT ls)).toD]) (dr_lst (dra_cons (TR.dr (tr_putT Z (dr_var rfl hd10) (dr_var rfl hl10) okD (by omega) (by omega) okl (by have := gl.2.1; omega) (by omega) (by omega))) (dra_cons (by rw [← eF]; exact TR.dr (tr_putT Z (dr_var rfl hx10) (dr_var rfl hq10) hok (by omega) (by omega) okq (by omega) (by rw [eF]; omega) (by rw [eF]; omega))) dra_nil)) (Nat.le_of_ble_eq_true rfl)) (dr_lst (dra_cons (dr_var rfl hf) (dra_cons (dr_var rfl hf) dra_nil)) (Nat.le_of_ble_eq_true rfl)) okSame)
      · exact hq _ _ ⟨_, _, _, rfl, hP10.kp s11, s58.trans (s8a.trans (outM_same s11))⟩
    rintro σ' H6 ⟨wb', wc', wd', rfl, hP6, s56⟩
    have hx6 := hx5.mono s56
    have hps6 := hps5.mono s56
    have hls6 := hls5.mono s56
    clear hx5 hps5 hls5 hp15 hp25 ha15 ha25 hP5 g2
    refine dt_if (K := K) (M := M) (F := outM M H6) (dt_ne (dr_repr (dr_lst (dra_cons (dr_var rfl hx6) (dra_cons (dr_var rfl hps6) (dra_cons (dr_var rfl hls6) dra_nil))) (Nat.le_of_ble_eq_true rfl)) nNot (by decide) (by decide)) (dr_var rfl (.str _))) (oM hP6) same_rfl fun H7 s7 => ?_
    have hP7 := hP6.kp s7
    have hx7 := hx6.mono (outM_same s7)
    -- odd, wrong
    refine ⟨_, rfl, _, rfl, x, t.toD, M, rfl, oM hP7, hx7, fun po xo H8 s8 hpo0 hpo1 hodd => ?_⟩
    have hP8 := hP7.kp s8
    have npo : po ≠ p := fun z => by
      obtain ⟨⟨o', h⟩, _⟩ := hP7.at_
      rw [z, h] at hpo0
      cases hpo0
    have hol := hodd.length
    have hol2 : (odds t.toD).length = 28 := rfl
    refine ⟨p, lc, po, xo, _, rfl, hP8, by omega, SqL.of hpo1, npo, (fun z => by rw [z] at hol; rw [hol2] at hol; cases hol), by omega, fun yo H9 hyo hP9 hk9 => ?_⟩
    refine ⟨_, rfl, M, rfl, oM hP9, fun pq xq H10 s10 hpq0 hpq1 hoddp => ?_⟩
    have hP10 := hP9.kp s10
    have npq : pq ≠ p := fun z => by
      obtain ⟨⟨o', h⟩, _⟩ := hP9.at_
      rw [z, h] at hpq0
      cases hpq0
    have hql := hoddp.length
    have hql2 : (op1 ++ op2).length = 18 := rfl
    refine ⟨p, lc, pq, xq, _, rfl, hP10, by omega, SqL.of hpq1, npq, (fun z => by rw [z] at hql; rw [hql2] at hql; cases hql), by omega, fun yw H11 hyw hP11 hk11 => ?_⟩
    refine ⟨_, _, rfl, ?_⟩
    have k811 : Kp p H8 H11 := Kp.trans (p := p) (Kp.of_ne hk9) (Kp.trans (p := p) (Kp.of_same s10) (Kp.of_ne hk11))
    have s811 : Same (outM M H8) (outM M H11) := by rw [eM, outM_one, outM_one]; exact k811.same
    have k1011 : Kp p H10 H11 := Kp.of_ne hk11
    have s1011 : Same (outM M H10) (outM M H11) := by rw [eM, outM_one, outM_one]; exact k1011.same
    obtain ⟨j, hj⟩ := List.getElem?_of_mem hyo
    obtain ⟨d1, hd1, hyd1⟩ := hodd.get hj
    obtain ⟨hno, hsm1, hni⟩ := odds_ok hok nOne d1 (List.mem_of_getElem? hd1)
    obtain ⟨j2, hj2⟩ := List.getElem?_of_mem hyw
    obtain ⟨d2, hd2, hyd2⟩ := hoddp.get hj2
    obtain ⟨hno2, hsm2, hl2, hni2⟩ := oddP_ok d2 (List.mem_of_getElem? hd2)
    have hx11 := (hx7.mono (outM_same s8)).mono s811
    have hy1 := hyd1.mono s811
    have hy2 := hyd2.mono s1011
    refine dt_if1 (K := K) (M := M) (F := outM M H11) (dt_or (fun H Qb o s q => heard_ne2 Z (S := SH Z F K) (f := F.f_put_types) (sp := spPutT Z K) (wd := "type") (i := 0) ⟨rfl, rfl⟩ (by decide) rfl o s (dr_lst (dra_cons (dr_var rfl hy1) (dra_cons (dr_var rfl hy2) dra_nil)) (Nat.le_of_ble_eq_true rfl)) (dr_lst (dra_cons dr_str (dra_cons (dr_repr (dr_var rfl hy1) hni (by decide) (by decide)) dra_nil)) (Nat.le_of_ble_eq_true rfl)) hni (by decide) (by decide) (fun v1 v2 H' h1 h2 => ra_type Z hno hsm1 hsm2 hl2 h1 h2) q)
      (fun H Qb o s q => heard_ne2 Z (S := SH Z F K) (f := F.f_put_types) (sp := spPutT Z K) (wd := "types") (i := 1) ⟨rfl, rfl⟩ (by decide) rfl o s (dr_lst (dra_cons (dr_var rfl hx11) (dra_cons (dr_var rfl hy2) dra_nil)) (Nat.le_of_ble_eq_true rfl)) (dr_lst (dra_cons dr_str (dra_cons (dr_repr (dr_var rfl hy2) hni2 (by decide) (by decide)) dra_nil)) (Nat.le_of_ble_eq_true rfl)) hni2 (by decide) (by decide) (fun v1 v2 H' h1 h2 => ra_pairs Z ((isTy_iff _).mpr ⟨t, rfl, hok, by omega⟩) hno2 (sml_ty t hok) hsm2 hl2 h1 h2) q)) (oM hP11) same_rfl fun H12 s12 => ?_
    exact ⟨⟨_, _, _, _, _, _, _, _, _, _, _, _, _, _, _, _, rfl⟩, (hP11.kp s12).mono (by rw [Nat.succ_mul]; omega)⟩
  · rintro σ H ⟨⟨w2, w3, w4, w5, w6, w7, w8, w9, wa, wb, wc, wd, we, wf, wg, wh, rfl⟩, hP⟩
    have oc : ∀ {G : Hp}, Occ (fun _ => false) G := fun b hb => by cases hb
    clear hP
    refine dr_seqG (K := K) (M := fun _ => false) (F := outM (fun _ => false) H) (d := .tuple [.tuple [.str "unknown", .int 0], .tuple [.str "unknown", .int 0]]) (dr_tup (dra_cons dr_unk (dra_cons dr_unk dra_nil)) (by decide)) oc same_rfl fun v H1 s1 hv => ?_
    obtain ⟨tp, xs, rfl, hT, hxs⟩ := hv.tup_inv
    cases hxs with
    | cons g1 hxs =>
    cases hxs with
    | cons g2 hxs =>
    cases hxs
    rename_i vp vu
    refine ⟨tp, _, rfl, same_seqT outM_sub hT, rfl, _, _, rfl, _, _, rfl, rfl, ?_⟩
    refine ⟨2, rfl, by decide, by decide, for_range (fun j σ' H' => ∃ w2' vp', σ' = [some (.ref a), some (.ref p), w2', w3, some vp', some vu, w6, w7, w8, w9, wa, wb, wc, wd, we, wf, wg, wh] ∧ Dx K (outM (fun _ => false) H') vp' (pairT j).toD ∧ Dx K (outM (fun _ => false) H') vu (Ty.unk 0).toD) ⟨_, vp, rfl, g1, g2⟩ ?_ ?_⟩
    · rintro j σ' H' hj ⟨w2', vp', rfl, h1, h2⟩
      refine dr_asg (K := K) (M := fun _ => false) (F := outM (fun _ => false) H') (d := (pairT (j + 1)).toD) (dr_tup (ds := [.str "kind", .str "pair", .list [(pairT j).toD, (pairT j).toD]]) (dra_cons dr_str (dra_cons dr_str (dra_cons (dr_lst (dra_cons (dr_var rfl h1) (dra_cons (dr_var rfl h1) dra_nil)) (Nat.le_of_ble_eq_true rfl)) dra_nil))) (Nat.le_of_ble_eq_true rfl)) oc same_rfl fun v H2 s2 hv => ?_
      exact ⟨_, v, rfl, hv, h2.mono (outM_same s2)⟩
    rintro σ' H2 ⟨w2', vp', rfl, h1, h2⟩
    refine dr_seq (K := K) (M := fun _ => false) (F := outM (fun _ => false) H2) (d := .list [(lstT 0).toD, (lstT 0).toD]) (dr_lst (dra_cons (dr_var rfl h2) (dra_cons (dr_var rfl h2) dra_nil)) (Nat.le_of_ble_eq_true rfl)) oc same_rfl fun vl H3 s3 hl => ?_
    have h13 := h1.mono (outM_same s3)
    have h23 := h2.mono (outM_same s3)
    refine ⟨49, rfl, by decide, by decide, for_range (fun j σ' H' => ∃ w2'' vl', σ' = [some (.ref a), some (.ref p), w2'', some vl', some vp', some vu, w6, w7, w8, w9, wa, wb, wc, wd, we, wf, wg, wh] ∧ Dx K (outM (fun _ => false) H') vl' (.list [(lstT (j - 1)).toD, (lstT j).toD]) ∧ Dx K (outM (fun _ => false) H') vp' (pairT 2).toD ∧ Dx K (outM (fun _ => false) H') vu (Ty.unk 0).toD) ⟨_, vl, rfl, hl, h13, h23⟩ ?_ ?_⟩
    · rintro j σ' H' hj ⟨w2'', vl', rfl, y1, y2, y3⟩
      refine dr_asg (K := K) (M := fun _ => false) (F := outM (fun _ => false) H') (d := .list [(lstT j).toD, (lstT (j + 1)).toD]) (dr_lst (ds := [(lstT j).toD, (lstT (j + 1)).toD]) (dra_cons (dr_ix (k := 1) (dr_var rfl y1) rfl) (dra_cons (d := (lstT (j + 1)).toD) (dr_tup (ds := [.str "kind", .str "list", .list [(lstT j).toD]]) (dra_cons dr_str (dra_cons dr_str (dra_cons (dr_lst (dra_cons (dr_ix (k := 1) (dr_var rfl y1) rfl) dra_nil) (Nat.le_of_ble_eq_true rfl)) dra_nil))) (Nat.le_of_ble_eq_true rfl)) dra_nil)) (Nat.le_of_ble_eq_true rfl)) oc same_rfl fun v H4 s4 hv => ?_
      exact ⟨_, v, rfl, hv, y2.mono (outM_same s4), y3.mono (outM_same s4)⟩
    rintro σ' H4 ⟨w2'', vl', rfl, y1, y2, y3⟩
    have okPut : ((pairT 2).put (lkT [(0, lstT 48)])).ok = true := ok_put (fun n u h => ((one_ok 48 (by decide)).2 _ (lkT_mem h)).1) _ pair_ok
    have e200 : (PyData.int 200).shown = "200" := by decide +kernel
    refine dt_if (K := K) (M := fun _ => false) (F := outM (fun _ => false) H4) (dt_or (dt_neN2 (t := (pairT 2).put (lkT [(0, lstT 48)])) (TR.dr (tr_putT Z (t := pairT 2) (ps := [(0, lstT 48)]) (dr_var rfl y2) (dr_lst (ds := [pairD (0, lstT 48)]) (dra_cons (dr_tup (ds := [.int 0, (lstT 48).toD]) (dra_cons dr_int (dra_cons (dr_ix (k := 0) (dr_var rfl y1) rfl) dra_nil)) (Nat.le_of_ble_eq_true rfl)) dra_nil) (Nat.le_of_ble_eq_true rfl)) pair_ok (by decide) (by decide) (one_ok 48 (by decide)) (by decide) (by rw [pair_size]; decide) (by rw [pair_deep]; decide))) okPut (by rw [pair_size]; decide) (by rw [pair_size]; rfl))
      (fun H Qb o s q => heard_ne2 Z (S := SH Z F K) (f := F.f_put_types) (sp := spPutT Z K) (wd := "many") (i := 2) (d1 := (pairT 2).toD) (d2 := prD [(0, lstT 49)]) (d := .int 200) ⟨rfl, rfl⟩ (by decide) rfl o s (dr_lst (dra_cons (dr_var rfl y2) (dra_cons (dr_lst (ds := [pairD (0, lstT 49)]) (dra_cons (dr_tup (ds := [.int 0, (lstT 49).toD]) (dra_cons dr_int (dra_cons (dr_ix (k := 1) (dr_var rfl y1) rfl) dra_nil)) (Nat.le_of_ble_eq_true rfl)) dra_nil) (Nat.le_of_ble_eq_true rfl)) dra_nil)) (Nat.le_of_ble_eq_true rfl)) (by rw [e200]; exact dr_lst (dra_cons dr_str (dra_cons dr_str dra_nil)) (Nat.le_of_ble_eq_true rfl)) (nice_int (by decide) (by decide)) (by decide) (by decide) (fun v1 v2 H' h1 h2 => ra_many Z pair_ok (by decide) (by decide) (one_ok 49 (by decide)) (by decide) (by rw [pair_size]; decide) h1 h2) q)) oc same_rfl fun H5 s5 => ?_
    have y35 := y3.mono (outM_same s5)
    refine ⟨(fun _ => false), rfl, oc, fun po xo H6 s6 h0 h1 hx => ⟨po, rfl, ⟨xo, SqL.of h1⟩, fun D hD => ?_⟩⟩
    have y36 := y35.mono (outM_same s6)
    refine lc_list (xs := xo) (fun i G => Same H6 G ∧ G D = some (.lst [])) ⟨same_new hD _, upd_same⟩ ?_ ?_ ?_
    · rintro i G _ ⟨z1, _⟩
      exact SqL.of (z1 _ _ h1)
    · rintro i y G hi ⟨z1, z2⟩
      obtain ⟨d2, hd2, hy⟩ := hx.get hi
      obtain ⟨hno2, hsm2, hl2, hni2⟩ := oddP_ok d2 (List.mem_of_getElem? hd2)
      have hy' := hy.mono (outM_same z1)
      have hu' := y36.mono (outM_same z1)
      refine ⟨rfl, ?_⟩
      refine heard_ne2 (K := K) (M := fun _ => false) (F := outM (fun _ => false) G) Z (S := SH Z F K) (f := F.f_put_types) (sp := spPutT Z K) (wd := "types") (i := 1) (d1 := (Ty.unk 0).toD) (d2 := d2) (d := d2) ⟨rfl, rfl⟩ (by decide) rfl oc same_rfl (dr_lst (dra_cons (dr_var rfl hu') (dra_cons (dr_var rfl hy') dra_nil)) (Nat.le_of_ble_eq_true rfl)) (dr_lst (dra_cons dr_str (dra_cons (dr_repr (dr_var rfl hy') hni2 (by decide) (by decide)) dra_nil)) (Nat.le_of_ble_eq_true rfl)) hni2 (by decide) (by decide) (fun v1 v2 H' h1 h2 => ra_pairs Z ((isTy_iff _).mpr ⟨.unk 0, rfl, rfl, by decide⟩) hno2 (sml_ty (.unk 0) rfl) hsm2 hl2 h1 h2) fun H' s' => ?_
      rw [if_neg Bool.false_ne_true]
      exact ⟨z1.trans s', s' _ _ z2⟩
    · rintro G ⟨z1, z2⟩
      refine ⟨small _ (by show 0 ≤ 100000; decide), fun e he => ?_⟩
      have se := same_new he (.lst [])
      exact ⟨.list [], .list [], .lst (SqL.of (se _ _ z2)) .nil, .lst (SqL.of upd_same) .nil, by decide, by decide, q _⟩
end
end K21

set_option Elab.async false
set_option linter.all false
set_option maxRecDepth 100000
set_option maxHeartbeats 0
namespace K21
open PySem PySem.Spec L2 Wy PySem.W
def nms : List Str := ["InvalidType", "InvalidTypes", "TooMany"]
abbrev sW : Stmt := (clsBody (top 1)).getD 0 (.Pass ⟨0, 0, 0, 0⟩)
def c_ (K : Frag) (i : Nat) : Addr := He.ga K (nms.getD i "")
def wE_ (K : Frag) : Addr := He.ga K "WhyError"
def fW_ (K : Frag) : Addr := He.ma K (c_ K 0) "__init__"
def ch1 (K : Frag) : Bool := (List.range 3).all fun i => isB K (c_ K i) && (decide (findIn K (.ref (c_ K i)) "value" = some none) && (decide (exmOne K (.ref (c_ K i)) (.ref (wE_ K)) = some true) && (decide (subIn K (.ref (c_ K i)) (.type "BaseException") = some true) && (decide (typeIn K (.ref (c_ K i)) = some (.type "type")) && (List.range 3).all fun j => decide (PySem.W.kitOne K (.ref (c_ K i)) (.ref (c_ K j)) = some (i == j))))))
def ch2 (K : Frag) : Bool := (List.range 3).all fun i => wcB K (wE_ K) (c_ K i) && mkB K (c_ K i) (fW_ K)
def ch3 (K : Frag) : Bool := He.tupB K "CLOSED" [.str "choice", .str "show", .str "fun", .str "let", .str "rec", .str "case", .str "pair", .str "num"] && He.tupB K "HOUSE_KINDS" [.str "num", .str "flag", .str "fun", .str "pair"]
def dDef (x : Str) (i : Nat) : He.DefD := ⟨(x, none), x, x, defArgs (top i), defBody (top i), defScope (top i), [], []⟩
def fns : List He.DefD := [dDef "is_whole" 8, dDef "is_count" 9, dDef "is_word" 10, dDef "is_name" 11, dDef "is_kind_name" 16, dDef "is_head" 17, dDef "parts_in" 18, dDef "is_type" 19, dDef "check_type" 20, dDef "all_parts" 21, dDef "put_there" 22, dDef "apart" 23, dDef "put_many" 24, dDef "are_pairs" 25, dDef "put_types" 26, dDef "_law_purse" 28, dDef "_law_draw" 29, dDef "_law_pick" 30, dDef "_law_same" 31, dDef "_law_spoilt" 32, dDef "_law_kind" 33, dDef "_law_unknown" 34, dDef "_law_sides" 35, dDef "_law_parts" 36, dDef "_law_drawn_type" 37, dDef "_law_put" 38, dDef "_law_odd_types" 39, dDef "_law_heard" 40, dDef "_law_pairs" 41, dDef "_law_odd_pairs" 42, dDef "law" 43]
def fas : List He.Fa := [.glo "is_whole", .glo "is_count", .glo "is_word", .glo "is_name", .glo "is_kind_name", .glo "is_head", .glo "parts_in", .glo "is_type", .glo "check_type", .glo "all_parts", .glo "put_there", .glo "apart", .glo "put_many", .glo "are_pairs", .glo "put_types", .glo "_law_purse", .glo "_law_draw", .glo "_law_pick", .glo "_law_same", .glo "_law_spoilt", .glo "_law_kind", .glo "_law_unknown", .glo "_law_sides", .glo "_law_parts", .glo "_law_drawn_type", .glo "_law_put", .glo "_law_odd_types", .glo "_law_heard", .glo "_law_pairs", .glo "_law_odd_pairs", .glo "law", .glo "WhyError", .glo "InvalidType", .glo "InvalidTypes", .glo "TooMany", .free "isinstance", .free "int", .free "bool", .free "str", .free "list", .free "tuple", .free "dict", .free "len", .free "all", .free "range", .free "repr", .free "zip", .free "enumerate", .free "sum", .free "sorted", .free "set", .free "super", .int "MOST_LETTERS" 8, .int "MOST_PARTS" 200, .int "MOST_SIDES" 3, .glo "CLOSED", .glo "HOUSE_KINDS"]
abbrev R : PySem.W.OpenRow := PySem.W.OpenLaw.row PySem.Challenge.rw_whytypes_k21_whole_types_put_in
def file_ : Str := R.prog.main.file
abbrev AlW : Type := Bool × List He.FnW × List FnS
def obsW (K : Frag) : AlW := ((fas.all fun f => f.ok K) && ((fns.all fun d => d.ok K) && (smB K && (ch1 K && (ch2 K && (ch3 K && supB file_ K (wE_ K) (fW_ K)))))), fns.map fun d => He.fnW K d.at_, [fnS K (fW_ K)])
def valW : AlW := (true, fns.map He.DefD.val, [vS "WhyError.__init__" sW])
def kf (g : Addr → Option Obj) : Frag := He.frG g (sysModules :: cStatics :: He.asD g 4)
def hk : PySem.W.Hook where
  α := AlW
  obs := fun s => obsW (kf s.heap.get?)
  val := fun _ => valW
  says := fun _ h => ∃ K : Frag, K.In h ∧ obsW K = valW
  of := fun _ _ e => ⟨_, He.frG_in, e⟩
  keeps := fun _ _ _ ⟨K, hK, c⟩ k => ⟨K, PySem.W.Frag.In.keeps hK k, c⟩
def ob (s : PySem.W.SharedT) : AlW := obsW (kf (HandSHeadRun.getT s))
theorem ob_eq (s : PySem.W.SharedT) : ob s = hk.obs s.abs := by
  have e : HandSHeadRun.getT s = s.abs.heap.get? := funext (HandSHeadRun.getT_eq s)
  show obsW (kf (HandSHeadRun.getT s)) = obsW (kf s.abs.heap.get?)
  rw [e]
def loose : List Str := (["WhyError", "InvalidType", "InvalidTypes", "TooMany", "CLOSED", "MOST_LETTERS", "is_whole", "is_count", "is_word", "is_name", "MOST_PARTS", "MOST_SIDES", "HOUSE_KINDS", "is_kind_name", "is_head", "parts_in", "is_type", "check_type", "all_parts", "put_there", "apart", "put_many", "are_pairs", "put_types", "_law_purse"] : List Str) ++ (["_law_draw", "_law_pick", "_law_same", "_law_spoilt", "_law_kind", "_law_unknown", "_law_sides", "_law_parts", "_law_drawn_type", "_law_put", "_law_odd_types", "_law_heard", "_law_pairs", "_law_odd_pairs"] : List Str)
theorem run (w : World) : HandSHeadRun.RunEq R (PySem.W.view R.prog [43]) hk ob 6000 loose w := by
  intro os
  kernel_rfl
theorem scW : defScope sW = scSup ps2 := rfl
theorem why_of {P : Program} {K : Frag} (e : fnS K (fW_ K) = vS "WhyError.__init__" sW) (h : supB P.main.file K (wE_ K) (fW_ K) = true) (htop : (P.main.scope.names.lookup ("super" : Str)).isSome = false) :
    ∃ dW, WhyD P K (wE_ K) (fW_ K) dW ∧ (∀ (us : List Value), us.length + 1 = (["self", "value"] : List Str).length → ∀ s' u, BindsTo s' dW ⟨u :: us, []⟩ ((["self", "value"] : List Str).zip (u :: us))) := by
  obtain ⟨p0, p1, p2, p3, p4, p5, p6, p7, p8, p9, hb, hln⟩ : ∃ p0 p1 p2 p3 p4 p5 p6 p7 p8 p9 : Pos, defBody sW = [.Expr (exSup (.Name "value" p3) p0 p1 p2 p4) p5, stFld "value" "value" p6 p7 p8 p9] ∧ (p2.endLine == p4.line) = true := ⟨_, _, _, _, _, _, _, _, _, _, rfl, rfl⟩
  unfold vS at e
  rw [scW, hb] at e
  obtain ⟨cc, cda, kV, doc, pm, ct, an, S, hc⟩ := supB_ok (P := P) (ar := { arg := "self", annotation := none, pos := ((defArgs sW).args.head?.map (·.pos)).getD ⟨0, 0, 0, 0⟩ }) e h rfl htop
  refine ⟨_, ⟨⟨cc, cda, _, _, kV, doc, pm, ct, an, _, p0, p1, p2, p3, p4, p5, p6, p7, p8, p9, rfl, S, rfl, hc, hln, fun _ => rfl⟩, fun s u v => .of_eq rfl⟩, fun us hl s' u => ?_⟩
  match us, hl with
  | [v], _ => exact .of_eq rfl
theorem df_of {K : Frag} {h : Heap} {mg : Str → Option Value} (X : K.In h) (G : h.Ns mainGlobals mg) {x : Str} {i : Nat} (hg : (He.Fa.glo x).ok K = true) (e : He.fnW K (dDef x i).at_ = (dDef x i).val) (c : (dDef x i).ok K = true) : ∃ fd, Df K mg x (top i) (He.ga K x) fd := by
  obtain ⟨fd, F⟩ := He.DefD.funD e c
  exact ⟨fd, F, He.glo_ok X G hg⟩
theorem facts {P : Program} {w : World} {K : Frag} {h : Heap} {mg : Str → Option Value} {f : Addr} (hfile : P.main.file = R.prog.main.file) (htop : (P.main.scope.names.lookup ("super" : Str)).isSome = false) (X : K.In h) (G : h.Ns mainGlobals mg) (hfa : mg ("law" : Str) = some (.ref f)) (cc : obsW K = valW) :
    ∃ fd : FuncData, (∀ (s : Shared) (v : Value), BindsTo s fd ⟨[v], []⟩ [("script", v)]) ∧ ∀ base : Heap, K.In base → base.Ns mainGlobals mg → FnG P w K mg base CX0 67 f fd ["script"] (spLaw K) := by
  have cb : ((fas.all fun f => f.ok K) && ((fns.all fun d => d.ok K) && (smB K && (ch1 K && (ch2 K && (ch3 K && supB file_ K (wE_ K) (fW_ K))))))) = true := congrArg (fun z : AlW => z.1) cc
  have cf : fns.map (fun d => He.fnW K d.at_) = fns.map He.DefD.val := congrArg (fun z : AlW => z.2.1) cc
  have cs : ([fnS K (fW_ K)] : List FnS) = [vS "WhyError.__init__" sW] := congrArg (fun z : AlW => z.2.2) cc
  obtain ⟨b1, cb⟩ := ba cb
  obtain ⟨b2, cb⟩ := ba cb
  obtain ⟨b3, cb⟩ := ba cb
  obtain ⟨b4, cb⟩ := ba cb
  obtain ⟨b5, cb⟩ := ba cb
  obtain ⟨b6, b7⟩ := ba cb
  have fa : ∀ (i : Nat) {z : He.Fa}, fas[i]? = some z → z.ok K = true := fun i {z} e => List.all_eq_true.mp b1 z (List.mem_of_getElem? e)
  have dok : ∀ (i : Nat) {d : He.DefD}, fns[i]? = some d → d.ok K = true ∧ He.fnW K d.at_ = d.val := fun i {d} e => by
    refine ⟨List.all_eq_true.mp b2 d (List.mem_of_getElem? e), ?_⟩
    have e2 : (fns.map fun d => He.fnW K d.at_)[i]? = (fns.map He.DefD.val)[i]? := by rw [cf]
    rw [List.getElem?_map, List.getElem?_map, e] at e2
    exact Option.some.inj e2
  have df : ∀ (i : Nat) {x : Str} {j : Nat}, fas[i]? = some (He.Fa.glo x) → fns[i]? = some (dDef x j) → ∃ fd, Df K mg x (top j) (He.ga K x) fd := fun i {x j} e1 e2 => df_of X G (fa i e1) (dok i e2).2 (dok i e2).1
  obtain ⟨d0, D0⟩ := df 0 (x := "is_whole") (j := 8) rfl rfl
  obtain ⟨d1, D1⟩ := df 1 (x := "is_count") (j := 9) rfl rfl
  obtain ⟨d2, D2⟩ := df 2 (x := "is_word") (j := 10) rfl rfl
  obtain ⟨d3, D3⟩ := df 3 (x := "is_name") (j := 11) rfl rfl
  obtain ⟨d4, D4⟩ := df 4 (x := "is_kind_name") (j := 16) rfl rfl
  obtain ⟨d5, D5⟩ := df 5 (x := "is_head") (j := 17) rfl rfl
  obtain ⟨d6, D6⟩ := df 6 (x := "parts_in") (j := 18) rfl rfl
  obtain ⟨d7, D7⟩ := df 7 (x := "is_type") (j := 19) rfl rfl
  obtain ⟨d8, D8⟩ := df 8 (x := "check_type") (j := 20) rfl rfl
  obtain ⟨d9, D9⟩ := df 9 (x := "all_parts") (j := 21) rfl rfl
  obtain ⟨d10, D10⟩ := df 10 (x := "put_there") (j := 22) rfl rfl
  obtain ⟨d11, D11⟩ := df 11 (x := "apart") (j := 23) rfl rfl
  obtain ⟨d12, D12⟩ := df 12 (x := "put_many") (j := 24) rfl rfl
  obtain ⟨d13, D13⟩ := df 13 (x := "are_pairs") (j := 25) rfl rfl
  obtain ⟨d14, D14⟩ := df 14 (x := "put_types") (j := 26) rfl rfl
  obtain ⟨d15, D15⟩ := df 15 (x := "_law_purse") (j := 28) rfl rfl
  obtain ⟨d16, D16⟩ := df 16 (x := "_law_draw") (j := 29) rfl rfl
  obtain ⟨d17, D17⟩ := df 17 (x := "_law_pick") (j := 30) rfl rfl
  obtain ⟨d18, D18⟩ := df 18 (x := "_law_same") (j := 31) rfl rfl
  obtain ⟨d19, D19⟩ := df 19 (x := "_law_spoilt") (j := 32) rfl rfl
  obtain ⟨d20, D20⟩ := df 20 (x := "_law_kind") (j := 33) rfl rfl
  obtain ⟨d21, D21⟩ := df 21 (x := "_law_unknown") (j := 34) rfl rfl
  obtain ⟨d22, D22⟩ := df 22 (x := "_law_sides") (j := 35) rfl rfl
  obtain ⟨d23, D23⟩ := df 23 (x := "_law_parts") (j := 36) rfl rfl
  obtain ⟨d24, D24⟩ := df 24 (x := "_law_drawn_type") (j := 37) rfl rfl
  obtain ⟨d25, D25⟩ := df 25 (x := "_law_put") (j := 38) rfl rfl
  obtain ⟨d26, D26⟩ := df 26 (x := "_law_odd_types") (j := 39) rfl rfl
  obtain ⟨d27, D27⟩ := df 27 (x := "_law_heard") (j := 40) rfl rfl
  obtain ⟨d28, D28⟩ := df 28 (x := "_law_pairs") (j := 41) rfl rfl
  obtain ⟨d29, D29⟩ := df 29 (x := "_law_odd_pairs") (j := 42) rfl rfl
  obtain ⟨d30, D30⟩ := df 30 (x := "law") (j := 43) rfl rfl
  have ef := hfa.symm.trans D30.gl
  cases ef
  have n_ : ∀ (i : Nat) {x : Str}, fas[i]? = some (He.Fa.free x) → mg x = none := fun i {x} e => He.free_ok X G (fa i e)
  have g_ : ∀ (i : Nat) {x : Str}, fas[i]? = some (He.Fa.glo x) → mg x = some (.ref (He.ga K x)) := fun i {x} e => He.glo_ok X G (fa i e)
  have i_ : ∀ (i : Nat) {x : Str} {n : Int}, fas[i]? = some (He.Fa.int x n) → ∃ u, mg x = some u ∧ RelV (.int n) u := fun i {x n} e => by
    obtain ⟨t, ht⟩ := He.int_ok X G (fa i e)
    exact ⟨_, ht, ⟨t, rfl⟩⟩
  have smK : SmK K := by
    unfold smB at b3
    split at b3
    · rename_i o e
      exact ⟨o, e, of_decide_eq_true b3⟩
    · cases b3
  have hfile2 : file_ = (P.main.file : Str) := by rw [hfile]; rfl
  rw [hfile2] at b7
  have e1 : fnS K (fW_ K) = vS "WhyError.__init__" sW := (List.cons.inj cs).1
  obtain ⟨dW, W, bw⟩ := why_of (P := P) e1 b7 htop
  obtain ⟨t0, b6⟩ := ba b6
  have t1 := b6
  have T0 : Txt K mg := ⟨n_ 35 rfl, n_ 36 rfl, n_ 37 rfl, n_ 38 rfl, n_ 39 rfl, n_ 40 rfl, n_ 41 rfl, n_ 42 rfl, n_ 43 rfl, n_ 44 rfl, n_ 45 rfl, n_ 46 rfl, n_ 47 rfl, n_ 48 rfl, n_ 49 rfl, n_ 50 rfl, i_ 52 rfl, i_ 53 rfl, i_ 54 rfl, ⟨_, g_ 55 rfl, fun H => He.tupB_ok t0 H⟩, ⟨_, g_ 56 rfl, fun H => He.tupB_ok t1 H⟩⟩
  have per : ∀ i, i < 3 → isB K (c_ K i) = true ∧ findIn K (.ref (c_ K i)) "value" = some none ∧ exmOne K (.ref (c_ K i)) (.ref (wE_ K)) = some true ∧ subIn K (.ref (c_ K i)) (.type "BaseException") = some true ∧ typeIn K (.ref (c_ K i)) = some (.type "type") ∧ ∀ j, j < 3 → PySem.W.kitOne K (.ref (c_ K i)) (.ref (c_ K j)) = some (i == j) := fun i hi => by
    obtain ⟨q1, q⟩ := ba (all_range b4 hi)
    obtain ⟨q2, q⟩ := ba q
    obtain ⟨q3, q⟩ := ba q
    obtain ⟨q4, q⟩ := ba q
    obtain ⟨q5, q6⟩ := ba q
    exact ⟨q1, of_decide_eq_true q2, of_decide_eq_true q3, of_decide_eq_true q4, of_decide_eq_true q5, fun j hj => of_decide_eq_true (all_range q6 hj)⟩
  have Z0 : Exs P K mg := ⟨c_ K, wE_ K, fW_ K, dW, W, n_ 51 rfl, g_ 31 rfl, fun i x e => (by
      have e2 : c_ K i = He.ga K x := by
        unfold c_
        rw [List.getD_eq_getElem?_getD, show nms[i]? = some x from e]
        rfl
      rw [e2]
      match i, e with
      | 0, e =>
        obtain rfl : "InvalidType" = x := Option.some.inj e
        exact g_ 32 rfl
      | 1, e =>
        obtain rfl : "InvalidTypes" = x := Option.some.inj e
        exact g_ 33 rfl
      | 2, e =>
        obtain rfl : "TooMany" = x := Option.some.inj e
        exact g_ 34 rfl
      | i + 3, e => simp [exn] at e), fun i hi => mkB_ok (ba (all_range b5 hi)).2, fun i hi => wcB_ok (ba (all_range b5 hi)).1, fun i hi => (isB_ok (per i hi).1).1, fun i hi => (isB_ok (per i hi).1).2, fun i hi => (per i hi).2.1, fun i hi => (per i hi).2.2.2.1, fun i hi => (per i hi).2.2.2.2.1, fun i hi => (per i hi).2.2.1, fun i j hi hj => (per i hi).2.2.2.2.2 j hj, bw⟩
  have b := FunD.bindsA (ps := ["script"]) D30.fn fun _ _ _ _ _ _ us hl => match us, hl with | [_], _ => rfl
  exact ⟨d30, fun s v => b s [v] rfl, fun base _ _ => ok_law smK ⟨_, d0, D0, _, d1, D1, _, d2, D2, _, d3, D3, _, d4, D4, _, d5, D5, _, d6, D6, _, d7, D7, _, d8, D8, _, d9, D9, _, d10, D10, _, d11, D11, _, d12, D12, _, d13, D13, _, d14, D14, _, d15, D15, _, d16, D16, _, d17, D17, _, d18, D18, _, d19, D19, _, d20, D20, _, d21, D21, _, d22, D22, _, d23, D23, _, d24, D24, _, d25, D25, _, d26, D26, _, d27, D27, _, d28, D28, _, d29, D29, _, d30, D30⟩ T0 Z0⟩
end K21
open PySem PySem.W PySem.Calls PyProof.Rows
theorem PySem.Challenge.cw_whytypes_k21_whole_types_put_in_holds : PySem.Challenge.rw_whytypes_k21_whole_types_put_in.Holds := by
  w_on; o_law
  refine HandSHeadRun.head_any (r := OpenLaw.row PySem.Challenge.rw_whytypes_k21_whole_types_put_in) (q := view (OpenLaw.row PySem.Challenge.rw_whytypes_k21_whole_types_put_in).prog [43]) (H := K21.hk) (ob := K21.ob) (M := 6000) (loose := K21.loose) (d := HandSHeadRun.topDef (OpenLaw.row PySem.Challenge.rw_whytypes_k21_whole_types_put_in).prog 43) (kwd := []) K21.ob_eq
    (by kernel_rfl) (fun s => by kernel_rfl) K21.run (by kernel_rfl) (by kernel_rfl) (by kernel_rfl) (by rfl) (by first | assumption | decide +kernel) (by decide +kernel) ⟨rfl, rfl, rfl, rfl, rfl, by decide +kernel⟩ ?hw ?hc
  case hw => w_witness2
  case hc =>
    refine Wy.walk_ofG (l := PySem.Challenge.rw_whytypes_k21_whole_types_put_in) (n := 63) (k := 67) (x := "script") rfl (by decide) (by kernel_rfl) ⟨rfl, by decide, by decide⟩ ?F
    intro w mg fa h Y G hmg0
    obtain ⟨K, KX, c⟩ := Y
    have hmg : mg ("law" : PySem.Str) = some (.ref fa) := by
      have e : (HandSHeadRun.topDef (OpenLaw.row PySem.Challenge.rw_whytypes_k21_whole_types_put_in).prog 43).name = ("law" : PySem.Str) := by kernel_rfl
      rw [← e]
      exact hmg0
    obtain ⟨fd, hb, hF⟩ := K21.facts (P := (PySem.Challenge.rw_whytypes_k21_whole_types_put_in).prog) (w := w) rfl (by kernel_rfl) KX G hmg c
    exact ⟨K, fd, K21.spLaw K, KX, hb, fun H a ns hl hS => ⟨a, ns, rfl, hS, hl, fun _ => rfl⟩, hF⟩
