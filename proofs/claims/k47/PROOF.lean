import PyProof.Rows.All
import Wide.All
import OpenK.AllK
import Wide.FinOn
import KE.KExcSuper
import KE.KExcIs
import HandS.ForMost
import HandS.ForExc
import HandS.ExcValue
import HandS.ExcInit
import HandS.IsInst
import HandS.Evl
import HandS.Defaults
import HandS.HeadHook1
import HandS.HeadHook2
import KE.KStateDown
import HandS.Head0
import HandS.Head1
import HandS.Head2
import HandS.HeadEnd
import PySem.Challenge.RW_askfurther_k47_errors_made_by_names
import HandS.Wide
import HandS.Walk
set_option Elab.async false
set_option linter.all false
set_option maxRecDepth 100000
set_option maxHeartbeats 4000000
/-! The package's error classes: an own __init__ that says super().__init__() and stores one field. -/
namespace PySem
namespace ErX
open PySem.W PySem.Calls PyProof.Rows PySem.HandSPX
def iA (f : Str) (p1 p2 : Pos) : Arguments := { posonlyargs := [], args := [{ arg := "self", annotation := none, pos := p1 }, { arg := f, annotation := none, pos := p2 }], vararg := none, kwonlyargs := [], kw_defaults := [], kwarg := none, defaults := [] }
def iB (f : Str) (q1 q2 q3 q4 q5 r1 r2 r3 r4 : Pos) : List Stmt :=
  [.Expr (.Call (.Attribute (.Call (.Name "super" q1) [] [] q2) "__init__" q3) [] [] q4) q5, .Assign [.Attribute (.Name "self" r1) f r2] (.Name f r3) r4]
def iS (f : Str) : Scope := { kind := .function, names := [("self", .local), (f, .local), ("__class__", .free), ("super", .globalImplicit)], isGenerator := false, isCoroutine := false, more := [] }
/-- what is asked of a field's name -/
structure Fld (f : Str) : Prop where
  s1 : (f == ("self" : Str)) = false
  s2 : (("super" : Str) == f) = false
  s3 : (("__class__" : Str) == f) = false
  s4 : (("self" : Str) == f) = false
  s5 : (f == ("__debug__" : Str)) = false
theorem beq_self (f : Str) : (f == f) = true := by simp
theorem iS_super {f : Str} (h : Fld f) : (iS f).names.lookup ("super" : Str) = some .globalImplicit := by
  show List.lookup ("super" : Str) [(("self" : Str), NameKind.local), (f, .local), ("__class__", .free), ("super", .globalImplicit)] = _
  rw [List.lookup_cons, show (("super" : Str) == ("self" : Str)) = false by decide, List.lookup_cons, h.s2, List.lookup_cons, show (("super" : Str) == ("__class__" : Str)) = false by decide, List.lookup_cons, show (("super" : Str) == ("super" : Str)) = true by decide]
theorem iS_class {f : Str} (h : Fld f) : (iS f).names.lookup ("__class__" : Str) = some .free := by
  show List.lookup ("__class__" : Str) [(("self" : Str), NameKind.local), (f, .local), ("__class__", .free), ("super", .globalImplicit)] = _
  rw [List.lookup_cons, show (("__class__" : Str) == ("self" : Str)) = false by decide, List.lookup_cons, h.s3, List.lookup_cons, show (("__class__" : Str) == ("__class__" : Str)) = true by decide]
theorem iS_self {f : Str} : (iS f).names.lookup ("self" : Str) = some .local := by
  show List.lookup ("self" : Str) [(("self" : Str), NameKind.local), (f, .local), ("__class__", .free), ("super", .globalImplicit)] = _
  rw [List.lookup_cons, show (("self" : Str) == ("self" : Str)) = true by decide]
theorem iS_f {f : Str} (h : Fld f) : (iS f).names.lookup f = some .local := by
  show List.lookup f [(("self" : Str), NameKind.local), (f, .local), ("__class__", .free), ("super", .globalImplicit)] = _
  rw [List.lookup_cons, h.s1, List.lookup_cons, beq_self]
/-- what the written part says of an error's class, at C, of its __init__, at fI, and of its field f -/
structure ErrTxt (prog : Program) (K : Frag) (mg : Str → Option Value) (C fI : Addr) (f : Str) : Prop where
  cls : ∃ nm q N bs bm sn sub ab col dd k0 k1 k2 k3 k5, K.lookup C = some (excClassObj nm q C N bs bm true sn sub ab col dd k0 k1 k2 k3 k5 "ValueError.__new__") ∧ refsVE bm = true
  sa : findIn K (.ref C) "__setattr__" = some (some (.builtin "object.__setattr__"))
  ga : findIn K (.ref C) "__getattribute__" = some (some (.builtin "BaseException.__getattribute__"))
  gg : findIn K (.ref C) "__getattr__" = some none
  noN : findIn K (.ref C) f = some none
  iC : findIn K (.ref C) "__init__" = some (some (.ref fI))
  tC : typeIn K (.ref fI) = some (.type "function")
  kC : keepIn K (.ref C) = true
  exC : subIn K (.ref C) (.type "BaseException") = some true
  veC : subIn K (.ref C) (.type "ValueError") = some true
  tyC : typeIn K (.ref C) = some (.type "type")
  hdC : hasDictIn K C = true
  supI : ks_superIn K C C "__init__" = some (some (.builtin "ValueError.__init__"))
  selfM : mroIn K C (.ref C) = some true
  noSup : mg "super" = none
  opq : nsIn K cStatics "thirdparty.any" = some none
  topS : (prog.main.scope.names.lookup ("super" : Str)).isSome = false
  fld : Fld f
  fn : ∃ (oc : Value) (od : Option Addr) (kV doc pm : Value) (an : Option Addr) (ct : Value) (osl : Array (Option Value)) (p1 p2 q1 q2 q3 q4 q5 r1 r2 r3 r4 : Pos) (qual : Str) (cc cda : Addr)
      (ccl : Value) (cdd : Option Addr) (vs : Array Value) (ccs : Array (Option Value)) (file : Str) (tf : Tok) (cl : Value) (cld : Option Addr) (csl : Array (Option Value)),
    K.lookup fI = some ⟨oc, od, .func (ksFn "__init__" qual (iA f p1 p2) (iB f q1 q2 q3 q4 q5 r1 r2 r3 r4) (iS f) .none kV doc pm an (.ref cda) ct cc), osl⟩ ∧ codeIn K (.ref cda) qual = true ∧
    K.lookup cda = some ⟨ccl, cdd, .fields vs, ccs⟩ ∧ vs[2]? = some (.str file tf) ∧ ((prog.main.file : Str) == file) = true ∧ K.lookup cc = some ⟨cl, cld, .cell (some (.ref C)), csl⟩ ∧
    (q3.endLine == q4.line) = true ∧
    (∀ (s : Shared) (x v : Value), BindsTo s (ksFn "__init__" qual (iA f p1 p2) (iB f q1 q2 q3 q4 q5 r1 r2 r3 r4) (iS f) .none kV doc pm an (.ref cda) ct cc) ⟨[x, v], []⟩ [("self", x), (f, v)]) ∧
    (∀ (s : Shared) (x v : Value), BindsTo s (ksFn "__init__" qual (iA f p1 p2) (iB f q1 q2 q3 q4 q5 r1 r2 r3 r4) (iS f) .none kV doc pm an (.ref cda) ct cc) ⟨[x], [(f, v)]⟩ [("self", x), (f, v)])

theorem mc_eq {o : Expr} {q3 q4 : Pos} {env : Env} (hl : (q3.endLine == q4.line) = true) {name : Str} :
    eval (.Call (.Attribute o name q3) [] [] q4) env = (do
      let ov ← attributeBase o name env (eval o env)
      standAt q3.atName
      let (f, first) ← holding [ov] (getMethod ov name (do return (← importBound o env).getD true))
      callWith q4 f first (backTo q4 (starEach [] env)) []) := by
  have hp : methodCallPos true o env q3 q4 = pure q4 := by
    unfold methodCallPos
    rw [hl]
    rfl
  show (do
      let ov ← attributeBase o name env (eval o env)
      standAt q3.atName
      methodCall o name q3 q4 env ov 0 (backTo q4 (starEach [] env)) (backToKw q4 (keywordEach [] env))) = _
  have mc : ∀ ov : Value, methodCall o name q3 q4 env ov 0 (backTo q4 (starEach [] env)) (backToKw q4 (keywordEach [] env)) = (do
      let (f, first) ← holding [ov] (getMethod ov name (do return (← importBound o env).getD true))
      callWith q4 f first (backTo q4 (starEach [] env)) []) := fun ov => by
    unfold methodCall
    show (do
      let (f, first) ← holding [ov] (getMethod ov name (do return (← importBound o env).getD true))
      let callPos ← methodCallPos true o env q3 q4
      callWith callPos f first (backTo q4 (starEach [] env)) []) = _
    simp only [hp, pure_bind]
  simp only [mc]
/-! ### the bound ValueError.__init__ called -/
section
variable {prog : Program} {w : World} {A : Around} {E : Value → Shared → Prop} {h : Heap} {g : Array GenState} {d : Drawn} {t : Nat} {os : OsState}
variable {nm q : Str} {C N : Addr} {bs bm : List Value} {hdct : Bool} {sn : List Str} {sub : List Value} {ab : Bool} {col : Option Bool} {dd : Option Addr} {k0 k1 k2 k3 k5 : Option Value}
theorem call_mw {u e t0 : Addr} {rest : List Value} {Q : Value → Shared → Prop}
    (hC : h.get? C = some (excClassObj nm q C N bs bm hdct sn sub ab col dd k0 k1 k2 k3 k5 "ValueError.__new__")) (he : h.get? e = some (excO C t0)) (hu : h.get? u = some (kxs_mw "ValueError.__init__" e)) (hrest : rest.length ≤ sizeLine)
    (hq : ∀ h' t1, (∀ b o, b ≠ e → h.get? b = some o → h'.get? b = some o) → h'.get? e = some (excO C t1) → Q .none ⟨h', g, d, t, os⟩) :
    wpAny (model prog w) A (call (.ref u) rest) Q E ⟨h, g, d, t, os⟩ := by
  refine wpAny_call (codeAny_of_tree ?_)
  show wpAny _ A.in1 (callAny (.ref u) ⟨rest, []⟩) _ _ _
  simp only [callAny]
  refine wpAny_bind (wpAny_load hu ?_)
  simp only [kxs_mw, show (Value.type "method-wrapper" == Value.type "method" || Value.type "method-wrapper" == Value.type "builtin_function_or_method" || Value.type "method-wrapper" == Value.type "method-wrapper") = true by decide, if_true]
  refine W.KFB.if_so (by decide) ?_
  refine wpAny_bind (check_bound_init F.excBase_ValueError.toExcCallFacts hC he rfl ?_)
  refine wpAny_bind (wpAny_pure (wpAny_pure ?_))
  refine ⟨Code.quiet_builtin _ (by decide +kernel), codeAny_builtin F.excBase_ValueError.initEntry ?_⟩
  rw [Around.under_plainId F.excBase_ValueError.init.plain _]
  wp_walk
  refine hq _ h.objs.size (fun b o hb ho => ?_) ?_
  · rw [Heap.get?_update_other _ _ (Ne.symm hb)]
    exact Heap.get?_push_of_some _ ho
  · rw [Heap.get?_update_self _ (Heap.get?_push_of_some _ he) rfl]
    rfl
end
theorem kept_but {K : Frag} {h h' : Heap} {x : Addr} (X : K.In h) (hx : K.lookup x = none) (k : ∀ b o, b ≠ x → h.get? b = some o → h'.get? b = some o) : K.In h' := fun a o e =>
  k a o (fun z => by rw [z, hx] at e; cases e) (X a o e)
/-- what __init__ leaves of a fresh exception at x -/
structure InitEnd (h h' : Heap) (x C dx t1 : Addr) (f : Str) (v : Value) : Prop where
  keep : ∀ b o, b ≠ x → h.get? b = some o → h'.get? b = some o
  obj : h'.get? x = some { cls := .ref C, dict := some dx, data := .fields #[.ref t1, .none, .none, .none, .bool false, .none] }
  dbig : h.objs.size ≤ dx
  dne : dx ≠ x
  ns : h'.Ns1 dx (fun y => if y = f then some v else none)
section
variable {prog : Program} {w : World} {A : Around} {E : Value → Shared → Prop} {R : Result → Shared → Prop} {s : Shared} {K : Frag} {mg : Str → Option Value} {C fI : Addr} {f : Str}
theorem err_init (T : ErrTxt prog K mg C fI f) {base : Heap} (Md : L2.Mod K mg base) (kb : ∀ b o, base.get? b = some o → s.heap.get? b = some o) {x t0 : Addr} {v : Value} {args : Args} (hx : s.heap.get? x = some (excO C t0)) (hnx : K.lookup x = none) (hroom : A.depth < recursionLimit)
    (ha : args = ⟨[.ref x, v], []⟩ ∨ args = ⟨[.ref x], [(f, v)]⟩)
    (hq : ∀ h' tk dx t1, InitEnd s.heap h' x C dx t1 f v → R (.ok (.ret .none)) { s with heap := h', toks := tk }) :
    codeAny (model prog w) A (.call (.ref fI) args) R s := by
  have X : K.In s.heap := Md.kin.keeps kb
  have hlim : s.heap.NoLimit := Md.nolimit.keeps kb
  obtain ⟨oc, od, kV, doc, pm, an, ct, osl, p1, p2, q1, q2, q3, q4, q5, r1, r2, r3, r4, qual, cc, cda, ccl, cdd, vs, ccs, file, tf, cl, cld, csl, ho, hcd, hcode, hvs, hfile, hcell, hln, bP, bK⟩ := T.fn
  obtain ⟨nm, q, N, bs, bm, sn, sub, ab, col, dd, k0, k1, k2, k3, k5, hC, hbm⟩ := T.cls
  have hcl : clsIn K C = some { name := nm, bases := bs, mro := .ref C :: bm, ns := N, qualname := q, hasDict := true, slotNames := sn, subclasses := sub, abstract := ab, collection := col, hasDel := false } := by unfold clsIn; rw [hC] <;> rfl
  have hbind : BindsTo s (ksFn "__init__" qual (iA f p1 p2) (iB f q1 q2 q3 q4 q5 r1 r2 r3 r4) (iS f) .none kV doc pm an (.ref cda) ct cc) args [("self", .ref x), (f, v)] := by
    rcases ha with rfl | rfl
    · exact bP _ _ _
    · exact bK _ _ _
  refine ks_codeAny_call_defAt (fd := ksFn "__init__" qual (iA f p1 p2) (iB f q1 q2 q3 q4 q5 r1 r2 r3 r4) (iS f) .none kV doc pm an (.ref cda) ct cc) (body := iB f q1 q2 q3 q4 q5 r1 r2 r3 r4) (binds := [("self", .ref x), (f, v)]) hroom (X _ _ ho) rfl hlim (codeRec_of X hcd) rfl hbind ?_ ?_ (fun h₁ hns hk₁ => ?_) rfl rfl rfl
  · intro y hy
    have hy' : y ∈ [(("self" : Str), NameKind.local), (f, .local), ("__class__", .free), ("super", .globalImplicit)] := hy
    simp only [List.mem_cons, List.not_mem_nil, or_false] at hy'
    rcases hy' with rfl | rfl | rfl | rfl <;> exact fun z => nomatch z
  · intro y hy
    simp only [List.mem_cons, List.not_mem_nil, or_false] at hy
    rcases hy with rfl | rfl
    · exact iS_self
    · exact iS_f T.fld
  · show wpAt _ _ _ (execs (iB f q1 q2 q3 q4 q5 r1 r2 r3 r4) (ksEnv qual (iS f) s.heap.objs.size fI (.ref cda) cc)) _ _ _
    have X₁ : K.In h₁ := X.keeps hk₁
    have hx₁ := hk₁ _ _ hx
    have kb₁ : ∀ b o, base.get? b = some o → h₁.get? b = some o := fun b o e => hk₁ b o (kb b o e)
    obtain ⟨mb, hmb, hbt⟩ := Md.blt
    have ls : (fun y => List.lookup y ([(("self" : Str), Value.ref x), (f, v)] : List (Str × Value)).reverse) ("self" : Str) = some (Value.ref x) := by
      show List.lookup ("self" : Str) [(f, v), (("self" : Str), Value.ref x)] = _
      rw [List.lookup_cons, T.fld.s4, List.lookup_cons, show (("self" : Str) == ("self" : Str)) = true by decide]
    have lf : (fun y => List.lookup y ([(("self" : Str), Value.ref x), (f, v)] : List (Str × Value)).reverse) f = some v := by
      show List.lookup f [(f, v), (("self" : Str), Value.ref x)] = _
      rw [List.lookup_cons, beq_self]
    have I₁ : InstAt h₁ x (excO C t0) C none := ⟨hx₁, rfl, rfl, trivial⟩
    obtain ⟨oD, hD1, hD2⟩ : ∃ oD, h₁.get? C = some oD ∧ oD.data = .cls { name := nm, bases := bs, mro := .ref C :: bm, ns := N, qualname := q, hasDict := true, slotNames := sn, subclasses := sub, abstract := ab, collection := col, hasDel := false } := ⟨_, X₁ _ _ hC, rfl⟩
    refine ks_wpAt_execs_cons (ks_wpAt_Expr_any (ks_wpAt_MethodCall ?_ (mc_eq hln)))
    refine ks_wpAt_super_base (env := ksEnv qual (iS f) s.heap.objs.size fI (.ref cda) cc) (iS_super T.fld) (iS_class T.fld) (by decide) rfl (X₁ _ _ ho) rfl rfl rfl (X₁ _ _ hcode) rfl hvs hfile T.topS ?_
    refine ks_loadName_global rfl (iS_super T.fld) (loadGlobal_builtin (env := ksEnv qual (iS f) s.heap.objs.size fI (.ref cda) cc) (Md.glob.keeps kb₁) T.noSup (hmb.keeps kb₁) ((hbt _ (by decide +kernel)).trans (show bootBuiltins "super" = some (.type "super") by exact PyProof.Rows.Boot.super)) ⟨rfl, ?_⟩)
    refine wpAny_loadName_free rfl (iS_class T.fld) rfl ⟨_, X₁ _ _ hcell, rfl⟩ ?_
    refine wpAny_loadName_local rfl iS_self hns ls ?_
    refine ks_wpAny_isType_cls hD1 hD2 ⟨rfl, ?_⟩
    refine ks_wpAny_call_super hD1 hD2 I₁.at_ I₁.cls (fun c e => nomatch e) (looks_mroIn X₁ T.selfM) (fun h₂ e₂ k₂ => ?_)
    have X₂ : K.In h₂ := X₁.keeps k₂
    have I₂ : InstAt h₂ x (excO C t0) C none := ⟨k₂ _ _ hx₁, rfl, rfl, trivial⟩
    have hsup : alongIn K "__init__" (((Value.ref C :: bm).dropWhile (· != .ref C)).drop 1) = some (some (.builtin "ValueError.__init__")) := by
      have z := T.supI
      unfold ks_superIn at z
      rw [hcl] at z
      exact z
    refine kxs_getMethod kxs_ValueError e₂ (looks_opaque X₂ T.opq) (l₀ := .ref C :: bm) ((looks_clsIn X₂ hcl).andThen .now) rfl X₂ hsup (I₂.type.andThen (looks_subIn X₂ T.veC)) (ks_ne X₂ I₂ hcl) (by decide) ?_
    have k₃ : ∀ b o, h₂.get? b = some o → (h₂.push (kxs_mw "ValueError.__init__" x)).get? b = some o := fun b o e => Heap.get?_push_of_some _ e
    have hu : (h₂.push (kxs_mw "ValueError.__init__" x)).get? h₂.objs.size = some (kxs_mw "ValueError.__init__" x) := Heap.get?_push_at rfl rfl
    refine kxs_callWith (i := "ValueError.__init__") (x := x) rfl (evalArgs_empty ⟨hu, ?_⟩)
    show wpAny _ _ (call (.ref h₂.objs.size) []) _ _ _
    refine call_mw (k₃ _ _ (k₂ _ _ (X₁ _ _ hC))) (k₃ _ _ (k₂ _ _ hx₁)) hu (Nat.zero_le _) (fun h₄ t1 k₄ e₄ => ?_)
    show wpAt _ _ _ (execs [.Assign [.Attribute (.Name "self" r1) f r2] (.Name f r3) r4] (ksEnv qual (iS f) s.heap.objs.size fI (.ref cda) cc)) _ _ _
    have kx : ∀ b o, b ≠ x → h₁.get? b = some o → h₄.get? b = some o := fun b o hb e => k₄ b o hb (k₃ _ _ (k₂ _ _ e))
    have hLx : s.heap.objs.size ≠ x := Nat.ne_of_gt (Heap.lt_size hx)
    have hns₄ : h₄.Ns s.heap.objs.size (fun y => List.lookup y ([(("self" : Str), Value.ref x), (f, v)] : List (Str × Value)).reverse) := by
      obtain ⟨o, es, ep, ho', r⟩ := hns
      exact ⟨o, es, ep, kx _ _ hLx ho', r⟩
    have X₄ : K.In h₄ := kept_but X₁ hnx kx
    refine wpAt_of_wpAny (wpAny_execs_cons (plainObj_wpAny_Assign_Attribute ?_))
    refine wpAny_Name (wpAny_loadName_local rfl (iS_f T.fld) hns₄ lf ?_) T.fld.s5
    refine wpAny_Name (wpAny_loadName_local rfl iS_self hns₄ ls ?_) (by decide)
    refine set_plain X₄ (ox := excO C t1) (od := none) ⟨e₄, rfl, rfl, trivial⟩ T.sa ?_
    refine exc_osa X₄ e₄ hcl (show refsVE (.ref C :: bm) = true from hbm) rfl T.noN (fun h₅ tk₅ dx k₅ dn dne hx₅ hn₅ => ?_)
    show wpAny _ _ (execs [] _) _ _ _
    have z : s.heap.objs.size < h₄.objs.size := hns₄.lt
    exact wpAny_execs_nil (hq h₅ tk₅ dx t1 ⟨fun b o hb e => k₅ b o hb (kx b o hb (hk₁ b o e)), hx₅, Nat.le_of_lt (Nat.lt_of_lt_of_le z dn), dne, hn₅⟩)
end
end ErX
end PySem
set_option Elab.async false
set_option linter.all false
set_option maxRecDepth 100000
set_option maxHeartbeats 4000000
namespace PySem
namespace ErX
open PySem.W PySem.Calls PyProof.Rows PySem.HandSPX
section
variable {M : Model} {A : Around} {E : Value → Shared → Prop} {h : Heap} {g : Array GenState} {d : Drawn} {t : Nat} {os : OsState}
variable {nm q : Str} {C N : Addr} {bs bm : List Value} {hdct : Bool} {sn : List Str} {sub : List Value} {ab : Bool} {col : Option Bool} {dd : Option Addr} {k0 k1 k2 k3 k5 : Option Value}
theorem check_newK (hbm : refsVE bm = true) {rest : List Value} {kw : List (Str × Value)} {Q : Unit → Shared → Prop}
    (hC : h.get? C = some (excClassObj nm q C N bs bm hdct sn sub ab col dd k0 k1 k2 k3 k5 "ValueError.__new__")) (hq : Q () ⟨h, g, d, t, os⟩) : wpAny M A (checkBuiltinCall "ValueError.__new__" ⟨.ref C :: rest, kw⟩) Q E ⟨h, g, d, t, os⟩ := by
  have F := F.excBase_ValueError
  have hcont : (Value.ref C :: bm).contains (.type "ValueError") = true := by rw [List.contains_cons, refsVE_contains _ bm hbm, F.hasB, Bool.or_true]
  have hstar := F.noStar
  simp only [checkBuiltinCall, F.newKind, F.newSplit, F.newRow]
  repeat (first | refine wpAny_loadPart_at hC ?_ | (refine wpAny_isSubtype_exc hC ?_; rw [hcont]) | refine wpAny_staticBase_exc hC ?_ | refine wpAny_madeBy_exc hC ?_ | simp only [bne_self_eq_false, Bool.false_eq_true, if_false] | wp_step)
  exact hq
end
section
variable {prog : Program} {w : World} {A : Around} {E : Value → Shared → Prop} {R : Result → Shared → Prop} {h : Heap} {g : Array GenState} {d : Drawn} {t : Nat} {os : OsState}
variable {nm q : Str} {C N : Addr} {bs bm : List Value} {hdct : Bool} {sn : List Str} {sub : List Value} {ab : Bool} {col : Option Bool} {dd : Option Addr} {k0 k1 k2 k3 k5 : Option Value}
theorem newK (hbm : refsVE bm = true) {rest : List Value} {kw : List (Str × Value)}
    (hC : h.get? C = some (excClassObj nm q C N bs bm hdct sn sub ab col dd k0 k1 k2 k3 k5 "ValueError.__new__"))
    (hq : R (.ok (.ret (.ref (h.objs.size + 1)))) ⟨(h.push { cls := .type "tuple", data := .seq rest.toArray }).push
      { cls := .ref C, data := .fields #[.ref h.objs.size, .none, .none, .none, .bool false, .none] }, g, d, t, os⟩) (hrest : rest.length ≤ sizeLine) :
    codeAny (model prog w) A (.builtin "ValueError.__new__" ⟨.ref C :: rest, kw⟩) R ⟨h, g, d, t, os⟩ := by
  have F := F.excBase_ValueError
  have hT := fun X => refsVE_contains X bm hbm
  have hends := F.ends
  have hcB : (Value.ref C :: bm).contains (.type "ValueError") = true := by rw [List.contains_cons, hT, F.hasB, Bool.or_true]
  have hcA : (Value.ref C :: bm).contains (.type "AttributeError") = false := by rw [List.contains_cons, hT, F.noAttr]; rfl
  have hcN : (Value.ref C :: bm).contains (.type "NameError") = false := by rw [List.contains_cons, hT, F.noName]; rfl
  refine codeAny_builtinAt F.entry ?_
  unfold Builtin.«BaseException.__new__»
  refine wpAt_bind ?_
  show wpAt _ _ _ (stack >>= _) _ _ _
  refine wpAt_bind (wpAt_stack fun p below => wpAt_of_wpAny ?_)
  wp_walk
  refine wpAt_of_wpAny ?_
  rw [F.owner]
  repeat (first | with_reducible refine wpAny_madeHere_exc F.canon hC ?_ | with_reducible refine wpAny_loadPart_at hC ?_ | (with_reducible refine wpAny_isSubtype_exc hC ?_; first | rw [hcB] | rw [hcA] | rw [hcN]) | wp_step)
  show R _ _
  rw [Heap.size_push]
  exact hq
theorem type_callK (hbm : refsVE bm = true) {rest : List Value} {kw : List (Str × Value)} {fI : Addr} {Q : Fin → Shared → Prop}
    (hC : h.get? C = some (excClassObj nm q C N bs bm hdct sn sub ab col dd k0 k1 k2 k3 k5 "ValueError.__new__"))
    (hi : W.Looks (model prog w) h (typeLookup (.ref C) "__init__") (some (.ref fI))) (hb : ∀ self, W.Looks (model prog w) h (bindSpecial (.ref fI) self) (.ref fI, [self])) (hrest : rest.length ≤ sizeLine)
    (hq : codeAny (model prog w) A (.call (.ref fI) ⟨.ref (h.objs.size + 1) :: rest, kw⟩)
      (fun r s' => match r with | .ok (.ret v) => v = .none ∧ Q (.done (.ret (.ref (h.objs.size + 1)))) s' | .ok _ => False | .error e => E e s')
      ⟨(h.push (W.kdv_tup rest)).push (excO C h.objs.size), g, d, t, os⟩) :
    wpAny (model prog w) A (Builtin.«type.__call__» ⟨.ref C :: rest, kw⟩) Q E ⟨h, g, d, t, os⟩ := by
  have F := F.excBase_ValueError
  repeat (first | with_reducible refine wpAny_loadPart_at hC ?_ | with_reducible refine wpAny_madeBy_exc hC ?_ | wp_step)
  refine codeAny_call_builtin_code (Code.quiet_builtin _ F.quiet) (check_newK hbm hC ?_)
  refine newK hbm hC ?_ hrest
  show wpAny _ _ _ _ _ _
  have k : ∀ b o, h.get? b = some o → ((h.push (W.kdv_tup rest)).push (excO C h.objs.size)).get? b = some o := fun b o e => Heap.get?_push_of_some _ (Heap.get?_push_of_some _ e)
  have hC₁ := k _ _ hC
  have hget : ((h.push (W.kdv_tup rest)).push (excO C h.objs.size)).get? (h.objs.size + 1) = some (excO C h.objs.size) := by heap_get
  have hcC : (Value.ref C :: bm).contains (.ref C) = true := by simp
  have i1 := hi.keeps k
  have b1 := (hb (.ref (h.objs.size + 1))).keeps k
  unfold isInstance
  repeat (first | with_reducible refine wpAny_loadPart_at hget ?_ | (with_reducible refine wpAny_isSubtype_exc hC₁ ?_; rw [hcC]) | wp_step)
  show wpAny _ _ (typeLookup (.ref C) _) _ _ _
  refine i1.at ?_
  refine wpAny_holding (wpAny_bind (b1.at ?_))
  refine wpAny_bind (wpAny_call (codeAny_mono hq fun r s' z => ?_))
  rcases r with e | (v | _ | _ | _) <;> first | exact z | exact z.elim | skip
  obtain ⟨rfl, z⟩ := z
  first
    | exact wpAny_pure (wpAny_pure z)
    | (wp_walk; exact z)
theorem callK (hbm : refsVE bm = true) {rest : List Value} {kw : List (Str × Value)} {fI : Addr}
    (hC : h.get? C = some (excClassObj nm q C N bs bm hdct sn sub ab col dd k0 k1 k2 k3 k5 "ValueError.__new__"))
    (hi : W.Looks (model prog w) h (typeLookup (.ref C) "__init__") (some (.ref fI))) (hb : ∀ self, W.Looks (model prog w) h (bindSpecial (.ref fI) self) (.ref fI, [self])) (hrest : rest.length ≤ sizeLine)
    (hq : codeAny (model prog w) (A.under (.builtin "type.__call__" ⟨.ref C :: rest, kw⟩)) (.call (.ref fI) ⟨.ref (h.objs.size + 1) :: rest, kw⟩) (W.InitBack (h.objs.size + 1) R)
      ⟨(h.push (W.kdv_tup rest)).push (excO C h.objs.size), g, d, t, os⟩) :
    codeAny (model prog w) A (.call (.ref C) ⟨rest, kw⟩) R ⟨h, g, d, t, os⟩ := by
  have f1 := tc_lookup
  have f2 := tc_bind (.ref C)
  have hTy : (⟨h, g, d, t, os⟩ : Shared).TypeIs (.ref C) "type" := ⟨_, hC, rfl⟩
  refine codeAny_of_tree ?_
  show wpAny _ _ (callAny (.ref C) _) _ _ _
  repeat (any_goals (first | assumption | with_reducible refine wpAny_loadPart_at hC ?_ | wp_step))
  refine ⟨rfl, ?_⟩
  refine codeAny_call_builtin_at (Code.quiet_builtin _ (by decide +kernel)) entry_typeCall (wpAny_check_type_call_sub hC (type_callK hbm hC hi hb hrest ?_))
  refine codeAny_mono hq fun r s' z => ?_
  rcases r with e | (v | _ | _ | _) <;> exact z
end
end ErX
end PySem
set_option Elab.async false
set_option linter.all false
set_option maxRecDepth 100000
set_option maxHeartbeats 4000000
namespace PySem
namespace ErX
open PySem.W PySem.Calls PyProof.Rows PySem.HandSPX
/-- a made error -/
structure Made (h h' : Heap) (e C d : Addr) (f : Str) (v : Value) : Prop where
  keep : ∀ b o, h.get? b = some o → h'.get? b = some o
  new : h.objs.size ≤ e
  obj : ∃ t1 : Addr, h'.get? e = some { cls := .ref C, dict := some d, data := .fields #[.ref t1, .none, .none, .none, .bool false, .none] }
  dbig : h.objs.size ≤ d
  dne : d ≠ e
  ns : h'.Ns1 d (fun y => if y = f then some v else none)
section
variable {prog : Program} {w : World} {A : Around} {E : Value → Shared → Prop} {R : Result → Shared → Prop} {s : Shared} {K : Frag} {mg : Str → Option Value} {C fI : Addr} {f : Str}
theorem err_made (T : ErrTxt prog K mg C fI f) {base : Heap} (Md : L2.Mod K mg base) (kb : ∀ b o, base.get? b = some o → s.heap.get? b = some o) {v : Value} {rest : List Value} {kw : List (Str × Value)}
    (ha : (rest = [v] ∧ kw = []) ∨ (rest = [] ∧ kw = [(f, v)])) (hroom : A.depth + 1 < recursionLimit)
    (hq : ∀ h' tk e d, Made s.heap h' e C d f v → R (.ok (.ret (.ref e))) { s with heap := h', toks := tk }) :
    codeAny (model prog w) A (.call (.ref C) ⟨rest, kw⟩) R s := by
  have X : K.In s.heap := Md.kin.keeps kb
  obtain ⟨nm, q, N, bs, bm, sn, sub, ab, col, dd, k0, k1, k2, k3, k5, hC, hbm⟩ := T.cls
  have hlen : rest.length ≤ sizeLine := by
    rw [sizeLine_eq]
    rcases ha with ⟨rfl, _⟩ | ⟨rfl, _⟩
    · show 1 ≤ 16777216; decide
    · show 0 ≤ 16777216; decide
  obtain ⟨hp, g, dr, tk, os⟩ := s
  have k : ∀ b o, hp.get? b = some o → ((hp.push (kdv_tup rest)).push (excO C hp.objs.size)).get? b = some o := fun b o e => Heap.get?_push_of_some _ (Heap.get?_push_of_some _ e)
  have hget : ((hp.push (kdv_tup rest)).push (excO C hp.objs.size)).get? (hp.objs.size + 1) = some (excO C hp.objs.size) := by heap_get
  have hnx : K.lookup (hp.objs.size + 1) = none := by
    cases e : K.lookup (hp.objs.size + 1) with
    | none => rfl
    | some o =>
      have z : hp.get? (hp.objs.size + 1) = some o := X _ _ e
      exact absurd (Nat.lt_of_succ_lt (Heap.lt_size z)) (Nat.lt_irrefl _)
  refine callK hbm (X _ _ hC) (looks_findIn X T.iC) (fun self => bind_fn X self T.tC) hlen ?_
  refine err_init (s := ⟨(hp.push (kdv_tup rest)).push (excO C hp.objs.size), g, dr, tk, os⟩) T Md (fun b o e => k b o (kb b o e)) hget hnx ?_ (v := v) ?_ fun h' tk' dx t1 ⟨k', hx, dn, dne, hns⟩ => ?_
  · show A.depth + 1 < recursionLimit
    exact hroom
  · rcases ha with ⟨rfl, rfl⟩ | ⟨rfl, rfl⟩
    · exact .inl rfl
    · exact .inr rfl
  · have old : ∀ b o, hp.get? b = some o → h'.get? b = some o := fun b o e => k' b o (Nat.ne_of_lt (Nat.lt_succ_of_lt (Heap.lt_size e))) (k b o e)
    have z : hp.objs.size + 1 + 1 ≤ dx := by
      have q := dn
      simp only [Heap.size_push] at q
      exact q
    exact ⟨rfl, hq h' tk' (hp.objs.size + 1) dx ⟨old, Nat.le_succ _, ⟨_, hx⟩, Nat.le_trans (Nat.le_trans (Nat.le_succ _) (Nat.le_succ _)) z, dne, hns⟩⟩
end
end ErX
end PySem
namespace L2
open PySem PySem.Spec PyProof.Rows PySem.ErX
theorem relO_one {f : Str} {v : V} {v' : Value} (r : RelV v v') (g : Str) : RelO (List.lookup g [(f, v)]) (if g = f then some v' else none) := relO_put (fs := []) (mA := fun _ => none) r (fun _ => True.intro) g
section
variable {X : Cx} {C fI : Addr} {f : Str}
/-- the state behind the making of an error, read as a held value -/
theorem made_inv {pins : List (Addr × Obj)} {σ : St} {H1 : Hp} {s1 : Shared} {h' : Heap} {tk' : Nat} {e d : Addr} {v : V} {v' : Value} (I1 : Inv X pins σ H1 s1) (rv : RelV v v') (M : Made s1.heap h' e C d f v') :
    H1 e = none ∧ H1 d = none ∧ d ≠ e ∧ Inv X pins σ (upd (upd H1 d (exd d [(f, v)])) e (exo e C (some d))) { s1 with heap := h', toks := tk' } := by
  obtain ⟨t1, hoe⟩ := M.obj
  have hns := M.ns
  obtain ⟨G', g1, g2⟩ := restrict h' fun b => decide (b ≠ e)
  have gk : ∀ b, b ≠ e → G'.get? b = h'.get? b := fun b hb => g1 b (decide_eq_true hb)
  have ge : G'.get? e = none := g2 e (by simp)
  have old : ∀ b o, s1.heap.get? b = some o → G'.get? b = some o := fun b o q => (gk b (Nat.ne_of_lt (Nat.lt_of_lt_of_le (Heap.lt_size q) M.new))).trans (M.keep b o q)
  have ob : ObjOk X.prog X.w (upd H1 d (exd d [(f, v)])) G' d (exd d [(f, v)]) := exd_ok (hns.at (fun o q => (gk d M.dne).trans q)) fun g => relO_one rv g
  have J : Inv X pins σ (upd H1 d (exd d [(f, v)])) { s1 with heap := G', toks := tk' } := I1.laid (t' := tk') old M.dbig ob
  have he : H1 e = none := I1.hok.fresh M.new
  have hd : H1 d = none := I1.hok.fresh M.dbig
  refine ⟨he, hd, M.dne, ?_⟩
  refine J.laidN (h' := h') (t' := tk') (fun b u q => ?_) ge (by rw [upd_ne (Ne.symm M.dne)]; exact he) (exo_ok hoe)
  by_cases hb : b = e
  · have q' : G'.get? b = some u := q
    rw [hb, ge] at q'
    cases q'
  · exact (gk b hb).symm.trans q
/-- C(e): a new error as a value -/
def tErr (C : Addr) (f : Str) (ta : TA) : TE := fun σ H Q => ta σ H fun vs H1 => ∃ v, vs = [v] ∧ ∀ a d, H1 a = none → H1 d = none → d ≠ a → Q (.ref a) (upd (upd H1 d (exd d [(f, v)])) a (exo a C (some d)))
theorem pe_err {x : Str} {a : Expr} {ta : TA} {p pos : Pos} {k : Nat} (T : ErrTxt X.prog X.K X.mg C fI f) (gC : X.mg x = some (.ref C)) (hr : Room k X.A) (ha : PA X [a] ta) (hg : Gl X x := by rfl)
    (hdb : (x == ("__debug__" : Str)) = false := by decide) (he : starEach (a :: []) X.env = (false, eval a X.env) :: starEach [] X.env := by rfl) (hpl : (backTo pos (starEach [] X.env)).any (·.1) = false := by rfl) :
    PE X (.Call (.Name x p) [a] [] pos) (tErr C f ta) := by
  refine ⟨fun pins s σ H Q I h => ?_⟩
  refine wpAny_Call_Name_kw (ld_glob I hg gC ?_ hdb)
  refine PySem.W.callWith_K (h₀ := X.base) I.ok.mod.kin T.kC (thn (ha.run pos pins s σ H _ I h) fun us s1 hh => ?_) he hpl
  obtain ⟨vs, H1, I1, r1, v, ev, q1⟩ := hh
  subst ev
  refine ⟨I1.kIn, ?_⟩
  cases r1 with
  | cons rv rn =>
    rename_i v' us'
    cases rn
    refine wpAny_call (err_made T I1.ok.mod I1.bk (v := v') (.inl ⟨rfl, rfl⟩) (by have := hr.dp; omega) fun h' tk' e d M => ?_)
    obtain ⟨h1, h2, h3, J⟩ := made_inv (tk' := tk') I1 rv M
    exact ⟨.ref e, _, J, rfl, q1 e d h1 h2 h3⟩
/-- C(f = e): the same by the field's name -/
theorem pe_errK {x : Str} {kws : List Keyword} {tk : TA} {p pos : Pos} {k : Nat} (T : ErrTxt X.prog X.K X.mg C fI f) (gC : X.mg x = some (.ref C)) (hr : Room k X.A) (hkw : PK X kws tk) (hg : Gl X x := by rfl)
    (hdb : (x == ("__debug__" : Str)) = false := by decide) (hall : (backToKw pos (keywordEach kws X.env)).all (·.1.isSome) = true := by rfl) (hks : (backToKw pos (keywordEach kws X.env)).filterMap (·.1) = [f] := by rfl)
    (hpl : ((backTo pos (starEach [] X.env)).any (·.1) || (backToKw pos (keywordEach kws X.env)).any (·.1.isNone)) = false := by rfl) :
    PE X (.Call (.Name x p) [] kws pos) (tErr C f tk) := by
  refine ⟨fun pins s σ H Q I h => ?_⟩
  refine wpAny_Call_Name_kw (ld_glob I hg gC ?_ hdb)
  refine PySem.W.callWith_KW0 (h₀ := X.base) I.ok.mod.kin T.kC hall ?_ hpl
  refine thn (hkw.run pos pins s σ H _ I h) fun ws s1 ⟨vs, H1, I1, r1, v, ev, q1⟩ => ⟨I1.kIn, ?_⟩
  rw [hks]
  subst ev
  obtain ⟨v', rfl, rv⟩ := vals1 r1
  · refine wpAny_call (err_made T I1.ok.mod I1.bk (v := v') (.inr ⟨rfl, rfl⟩) (by have := hr.dp; omega) fun h' tk' e d M => ?_)
    obtain ⟨h1, h2, h3, J⟩ := made_inv (tk' := tk') I1 rv M
    exact ⟨.ref e, _, J, rfl, q1 e d h1 h2 h3⟩
/-- C() of a class without an own __init__ -/
def tErr0 (C : Addr) : TE := fun _ H Q => ∀ a, H a = none → Q (.ref a) (upd H a (exo a C none))
theorem pe_err0 {x : Str} {p pos : Pos} (q : PySem.W.excIn X.K C PySem.HandSPX.veTail "ValueError.__new__" = true) (gC : X.mg x = some (.ref C)) (kC : PySem.W.keepIn X.K (.ref C) = true) (hg : Gl X x := by rfl)
    (hdb : (x == ("__debug__" : Str)) = false := by decide) : PE X (.Call (.Name x p) [] [] pos) (tErr0 C) := by
  refine ⟨fun pins s σ H Q I h => ?_⟩
  refine wpAny_Call_Name_kw (ld_glob I hg gC ?_ hdb)
  refine PySem.W.callWith_K0 I.kIn kC ?_
  obtain ⟨bm, N, nm, qn, bs, hdct, sn, sub, ab, col, dd, k0, k1, k2, k3, k5, mN, hC, hN, hni, T⟩ := exc_obj I.kIn q
  refine wpAny_call_exc_subT F.excBase_ValueError T hC hN hni (fun h' a hm => ?_) (Nat.zero_le _)
  have hn : H a = none := I.hok.gone hm.new
  obtain ⟨t, ht, _, _⟩ := hm.there
  exact ⟨.ref a, upd H a (exo a C none), I.laidN hm.keeps hm.new hn (exo_ok ht), rfl, h a hn⟩
end
end L2
set_option Elab.async false
set_option linter.all false
set_option maxRecDepth 100000
set_option maxHeartbeats 4000000
namespace L2
open PySem PySem.Spec PyProof.Rows PySem.ErX
/-- what isinstance asks of an error's class -/
structure ErrI (K : PySem.W.Frag) (C : Addr) : Prop where
  hcl : (PySem.W.clsIn K C).isSome = true
  ga : PySem.W.findIn K (.ref C) "__getattribute__" = some (some (.builtin "BaseException.__getattribute__"))
  gg : PySem.W.findIn K (.ref C) "__getattr__" = some none
  ex : PySem.W.subIn K (.ref C) (.type "BaseException") = some true
  cl : PySem.W.findIn K (.ref C) "__class__" = some (some (.builtin "object.__class__"))
  hn : PySem.W.specialIn K (.builtin "object.__class__") "__get__" = some (some (.builtin "getset_descriptor.__get__"))
  tk : PySem.W.takesIn K (.builtin "object.__class__") = some true
  hm : PySem.W.mroIn K C (.type "object") = some true
/-- a held error of the class at C, at a -/
def ErrAt (H : Hp) (a C : Addr) : Prop := H a = some (exo a C none) ∨ ∃ d fs, H a = some (exo a C (some d)) ∧ H d = some (exd d fs)
def rIsErr (K : PySem.W.Frag) : List V → Hp → VK → Prop := fun xs H Q => ∃ (a C : Addr) (c : V) (u : Value) (b : Bool), xs = [.ref a, c] ∧ ClsV c u ∧ ErrI K C ∧ ErrAt H a C ∧ PySem.W.kitOne K (.ref C) u = some b ∧ Q (.bl b) H
theorem call_isErr {X : Cx} : CallR X (.builtin "isinstance") (rIsErr X.K) := by
  intro pins s σ H xs us Q I r h
  obtain ⟨a, C, c, u, b, rfl, k, T, hE, e, q⟩ := h
  obtain ⟨u1, u2, rfl, r1, r2⟩ := vals2 r
  have e2 := k.eq r2
  subst e2
  obtain rfl : u1 = Value.ref a := r1
  rcases hE with ha | ⟨d, fs, ha, hd⟩
  · obtain ⟨t1, ho⟩ := exo_at I.hok ha
    exact PySem.W.kia_one (PySem.W.kitx_exc (od := none) T.hcl T.ga T.gg T.ex T.cl T.hn T.tk T.hm) I.kIn (show PySem.W.InstAt s.heap a _ C none from ⟨ho, rfl, rfl, trivial⟩) e (fun z => nomatch z) fun tk => ⟨.bl b, H, I.tok tk, rfl, q⟩
  · obtain ⟨t1, ho⟩ := exo_at I.hok ha
    obtain ⟨mA, ⟨oD, es, ep, hoD, _⟩, _⟩ := exd_at I.hok hd
    exact PySem.W.kia_one (PySem.W.kitx_exc (od := some oD) T.hcl T.ga T.gg T.ex T.cl T.hn T.tk T.hm) I.kIn (show PySem.W.InstAt s.heap a _ C (some oD) from ⟨ho, rfl, rfl, hoD⟩) e (fun z => nomatch z) fun tk => ⟨.bl b, H, I.tok tk, rfl, q⟩
theorem same_new {H : Hp} {p : Addr} {o : HO} (h : H p = none) : Same H (upd H p o) := fun b u e => by
  rw [upd_ne (ne_of_none e h)]
  exact e
theorem ErrAt.mono {H H' : Hp} {a C : Addr} (s : Same H H') (h : ErrAt H a C) : ErrAt H' a C := by
  rcases h with h | ⟨d, fs, h1, h2⟩
  · exact .inl (s _ _ h)
  · exact .inr ⟨d, fs, s _ _ h1, s _ _ h2⟩
/-- a held error whose field f holds v -/
def ErrF (H : Hp) (a C : Addr) (f : Str) (v : V) : Prop := ∃ d, H a = some (exo a C (some d)) ∧ H d = some (exd d [(f, v)])
theorem ErrF.mono {H H' : Hp} {a C : Addr} {f : Str} {v : V} (s : Same H H') (h : ErrF H a C f v) : ErrF H' a C f v := by
  obtain ⟨d, h1, h2⟩ := h
  exact ⟨d, s _ _ h1, s _ _ h2⟩
theorem ErrF.at {H : Hp} {a C : Addr} {f : Str} {v : V} (h : ErrF H a C f v) : ErrAt H a C := by
  obtain ⟨d, h1, h2⟩ := h
  exact .inr ⟨d, _, h1, h2⟩
/-- C(e), told by what stands behind it -/
def tErrW (C : Addr) (f : Str) (ta : TA) : TE := fun σ H Q => ta σ H fun vs H1 => ∃ v, vs = [v] ∧ ∀ (H' : Hp) (a : Addr), Same H1 H' → H1 a = none → ErrF H' a C f v → Q (.ref a) H'
def tErr0W (C : Addr) : TE := fun _ H Q => ∀ (H' : Hp) (a : Addr), Same H H' → H a = none → ErrAt H' a C → Q (.ref a) H'
theorem errW {H1 : Hp} {C : Addr} {f : Str} {v : V} {Q : VK} (k : ∀ (H' : Hp) (a : Addr), Same H1 H' → H1 a = none → ErrF H' a C f v → Q (.ref a) H') (a d : Addr) (ha : H1 a = none) (hd : H1 d = none) (hne : d ≠ a) :
    Q (.ref a) (upd (upd H1 d (exd d [(f, v)])) a (exo a C (some d))) := by
  have ha' : upd H1 d (exd d [(f, v)]) a = none := by rw [upd_ne (Ne.symm hne)]; exact ha
  exact k _ a ((same_new hd).trans (same_new ha')) ha ⟨d, upd_same, by rw [upd_ne hne]; exact upd_same⟩
section
variable {X : Cx} {C fI : Addr} {f : Str}
theorem pe_errW {x : Str} {a : Expr} {ta : TA} {p pos : Pos} {k : Nat} (T : ErrTxt X.prog X.K X.mg C fI f) (gC : X.mg x = some (.ref C)) (hr : Room k X.A) (ha : PA X [a] ta) (hg : Gl X x := by rfl)
    (hdb : (x == ("__debug__" : Str)) = false := by decide) (he : starEach (a :: []) X.env = (false, eval a X.env) :: starEach [] X.env := by rfl) (hpl : (backTo pos (starEach [] X.env)).any (·.1) = false := by rfl) :
    PE X (.Call (.Name x p) [a] [] pos) (tErrW C f ta) := by
  refine ⟨fun pins s σ H Q I h => ?_⟩
  refine wpAny_Call_Name_kw (ld_glob I hg gC ?_ hdb)
  refine PySem.W.callWith_K (h₀ := X.base) I.ok.mod.kin T.kC (thn (ha.run pos pins s σ H _ I h) fun us s1 hh => ?_) he hpl
  obtain ⟨vs, H1, I1, r1, v, ev, q1⟩ := hh
  subst ev
  refine ⟨I1.kIn, ?_⟩
  obtain ⟨v', rfl, rv⟩ := vals1 r1
  refine wpAny_call (err_made T I1.ok.mod I1.bk (v := v') (.inl ⟨rfl, rfl⟩) (by have := hr.dp; omega) fun h' tk' e d M => ?_)
  obtain ⟨h1, h2, h3, J⟩ := made_inv (tk' := tk') I1 rv M
  exact ⟨.ref e, _, J, rfl, errW q1 e d h1 h2 h3⟩
theorem pe_errKW {x : Str} {kws : List Keyword} {tk : TA} {p pos : Pos} {k : Nat} (T : ErrTxt X.prog X.K X.mg C fI f) (gC : X.mg x = some (.ref C)) (hr : Room k X.A) (hkw : PK X kws tk) (hg : Gl X x := by rfl)
    (hdb : (x == ("__debug__" : Str)) = false := by decide) (hall : (backToKw pos (keywordEach kws X.env)).all (·.1.isSome) = true := by rfl) (hks : (backToKw pos (keywordEach kws X.env)).filterMap (·.1) = [f] := by rfl)
    (hpl : ((backTo pos (starEach [] X.env)).any (·.1) || (backToKw pos (keywordEach kws X.env)).any (·.1.isNone)) = false := by rfl) :
    PE X (.Call (.Name x p) [] kws pos) (tErrW C f tk) := by
  refine ⟨fun pins s σ H Q I h => ?_⟩
  refine wpAny_Call_Name_kw (ld_glob I hg gC ?_ hdb)
  refine PySem.W.callWith_KW0 (h₀ := X.base) I.ok.mod.kin T.kC hall ?_ hpl
  refine thn (hkw.run pos pins s σ H _ I h) fun ws s1 ⟨vs, H1, I1, r1, v, ev, q1⟩ => ⟨I1.kIn, ?_⟩
  rw [hks]
  subst ev
  obtain ⟨v', rfl, rv⟩ := vals1 r1
  refine wpAny_call (err_made T I1.ok.mod I1.bk (v := v') (.inr ⟨rfl, rfl⟩) (by have := hr.dp; omega) fun h' tk' e d M => ?_)
  obtain ⟨h1, h2, h3, J⟩ := made_inv (tk' := tk') I1 rv M
  exact ⟨.ref e, _, J, rfl, errW q1 e d h1 h2 h3⟩
theorem pe_err0W {x : Str} {p pos : Pos} (q : PySem.W.excIn X.K C PySem.HandSPX.veTail "ValueError.__new__" = true) (gC : X.mg x = some (.ref C)) (kC : PySem.W.keepIn X.K (.ref C) = true) (hg : Gl X x := by rfl)
    (hdb : (x == ("__debug__" : Str)) = false := by decide) : PE X (.Call (.Name x p) [] [] pos) (tErr0W C) :=
  ⟨fun pins s σ H Q I h => (pe_err0 q gC kC hg hdb).run pins s σ H Q I fun a ha => h _ a (same_new ha) ha (.inl upd_same)⟩
end
end L2
set_option Elab.async false
set_option linter.all false
set_option maxRecDepth 100000
set_option maxHeartbeats 4000000
/-! Rules whose readings tell the heap behind them by what stands in it. -/
namespace L2
open PySem PySem.Spec PyProof.Rows
/-- a value, then the rest, with a word between them -/
def tCutE (t : TE) : TE := fun σ H Q => ∃ R : VK, t σ H R ∧ ∀ v H', R v H' → Q v H'
theorem pe_cut {X : Cx} {e : Expr} {t : TE} (h : PE X e t) : PE X e (tCutE t) := ⟨fun pins s σ H Q I q => by
  obtain ⟨R, q1, q2⟩ := q
  refine wpAny_mono (h.run pins s σ H R I q1) (fun u s' z => ?_) fun _ _ x => x
  obtain ⟨v, H', I', r, k⟩ := z
  exact ⟨v, H', I', r, q2 v H' k⟩⟩
def NewL (xs : List V) (H : Hp) (Q : VK) : Prop := ∀ (H' : Hp) (p : Addr), Same H H' → H p = none → H' p = some (.lst xs) → Q (.ref p) H'
def NewT (xs : List V) (H : Hp) (Q : VK) : Prop := ∀ (H' : Hp) (p : Addr), Same H H' → H p = none → H' p = some (.tup xs) → Q (.ref p) H'
def NewD (kvs : List (Key × V)) (H : Hp) (Q : VK) : Prop := ∀ (H' : Hp) (p : Addr), Same H H' → H p = none → H' p = some (.dK kvs) → Q (.ref p) H'
theorem NewL.go {xs : List V} {H : Hp} {Q : VK} (k : NewL xs H Q) {p : Addr} (h : H p = none) : Q (.ref p) (upd H p (.lst xs)) := k _ p (same_new h) h upd_same
theorem NewT.go {xs : List V} {H : Hp} {Q : VK} (k : NewT xs H Q) {p : Addr} (h : H p = none) : Q (.ref p) (upd H p (.tup xs)) := k _ p (same_new h) h upd_same
theorem NewD.go {kvs : List (Key × V)} {H : Hp} {Q : VK} (k : NewD kvs H Q) {p : Addr} (h : H p = none) : Q (.ref p) (upd H p (.dK kvs)) := k _ p (same_new h) h upd_same
section
variable {X : Cx} {es : List Expr} {t : TA} {pos : Pos}
def tLstW (t : TA) : TE := fun σ H Q => t σ H fun xs H1 => xs.length ≤ sizeLine ∧ NewL xs H1 Q
def tTupW (t : TA) : TE := fun σ H Q => t σ H fun xs H1 => xs.length ≤ sizeLine ∧ NewT xs H1 Q
theorem pe_lstW (h : PA X es t) : PE X (.List es pos) (tLstW t) := by
  refine ⟨fun pins s σ H Q I hq => ?_⟩
  refine wpAny_mono ((pe_lst (pos := pos) (t := fun σ H Q => ∃ R : List V → Hp → Prop, t σ H R ∧ ∀ v H', R v H' → Q v H') ⟨fun pos pins s σ H Q I q => ?_⟩).run pins s σ H Q I ⟨_, hq, fun xs H1 z => ⟨z.1, fun p hp => z.2.go hp⟩⟩) (fun _ _ z => z) fun _ _ x => x
  obtain ⟨R, q1, q2⟩ := q
  refine wpAny_mono (h.run pos pins s σ H R I q1) (fun u s' z => ?_) fun _ _ x => x
  obtain ⟨v, H', I', r, k⟩ := z
  exact ⟨v, H', I', r, q2 v H' k⟩
theorem pe_tupW {x1 : Nat} (h : PA X es t) : PE X (.Tuple es x1 pos) (tTupW t) := by
  refine ⟨fun pins s σ H Q I hq => ?_⟩
  refine wpAny_mono ((pe_tup (pos := pos) (x1 := x1) (t := fun σ H Q => ∃ R : List V → Hp → Prop, t σ H R ∧ ∀ v H', R v H' → Q v H') ⟨fun pos pins s σ H Q I q => ?_⟩).run pins s σ H Q I ⟨_, hq, fun xs H1 z => ⟨z.1, fun p hp => z.2.go hp⟩⟩) (fun _ _ z => z) fun _ _ x => x
  obtain ⟨R, q1, q2⟩ := q
  refine wpAny_mono (h.run pos pins s σ H R I q1) (fun u s' z => ?_) fun _ _ x => x
  obtain ⟨v, H', I', r, k⟩ := z
  exact ⟨v, H', I', r, q2 v H' k⟩
theorem OpR.imp {f : Value → Value → Sem Value} {r r' : R2} (h : OpR X f r) (k : ∀ x y H Q, r' x y H Q → r x y H Q) : OpR X f r' := fun pins s σ H x y v u Q I rx ry q => h pins s σ H x y v u Q I rx ry (k x y H Q q)
theorem CallR.imp {f : Value} {r r' : List V → Hp → VK → Prop} (h : CallR X f r) (k : ∀ xs H Q, r' xs H Q → r xs H Q) : CallR X f r' := fun pins s σ H xs us Q I rx q => h pins s σ H xs us Q I rx (k xs H Q q)
theorem SlR.imp {r r' : V → Option Int → Option Int → Hp → VK → Prop} (h : SlR X r) (k : ∀ x lo hi H Q, r' x lo hi H Q → r x lo hi H Q) : SlR X r' := fun pins s σ H x v vl vu lo hi sl Q I rx hs pl pu q => h pins s σ H x v vl vu lo hi sl Q I rx hs pl pu (k x lo hi H Q q)
def rCatW : R2 := fun x y H Q => ∃ l b xs zs, x = .ref l ∧ y = .ref b ∧ H l = some (.lst xs) ∧ H b = some (.lst zs) ∧ xs.length + zs.length ≤ sizeLine ∧ NewL (xs ++ zs) H Q
theorem op_catW : OpR X (binaryOp .Add) rCatW := op_cat.imp fun x y H Q ⟨l, b, xs, zs, e1, e2, h1, h2, hz, k⟩ => ⟨l, b, xs, zs, e1, e2, h1, h2, hz, fun p hp => k.go hp⟩
def rSlLW (K : PySem.W.Frag) : V → Option Int → Option Int → Hp → VK → Prop := fun x lo hi H Q => ∃ a xs, x = .ref a ∧ SqL K H a xs ∧ NewL (cutV xs lo hi) H Q
theorem sl_listW : SlR X (rSlLW X.K) := sl_list.imp fun x lo hi H Q ⟨a, xs, e1, h1, k⟩ => ⟨a, xs, e1, h1, fun p hp => k.go hp⟩
end
end L2
set_option Elab.async false
set_option linter.all false
set_option maxRecDepth 100000
set_option maxHeartbeats 4000000
/-! The head's facts: defs, a Bool of one's own, the error classes. -/
namespace AFH
open PySem PySem.Spec PyProof.Rows L2 He PySem.ErX
def asE (g : Addr → Option Obj) : Nat → List Addr
  | 0 => [mainGlobals, cStatics]
  | n + 1 => growD g (asE g n)
/-- an error's class: its name, its field, its __init__'s text -/
structure ErrD where
  x : Str
  f : Str
  qual : Str
  params : Arguments
  body : List Stmt
  scope : Scope
abbrev FnE : Type := Option (Str × Str × Arguments × FuncBody × Scope × Addr × List Str × Value × Addr)
def fnE (K : PySem.W.Frag) (x : Str) : FnE := match K.lookup (ma K (ga K x) "__init__") with
  | some ⟨_, _, .func fd, _⟩ => some (fd.name, fd.qualname, fd.params, fd.body, fd.scope, fd.globals, fd.closure.map (·.1), fd.defaults, fd.builtins)
  | _ => none
def ErrD.val (d : ErrD) : FnE := some ("__init__", d.qual, d.params, .stmts d.body, d.scope, mainGlobals, ["__class__"], .none, builtinsNs)
def clsB (K : PySem.W.Frag) (C : Addr) : Bool := match K.lookup C with
  | some ⟨.type "type", _, .cls cd, sl⟩ => (match cd.mro, sl.toList with
    | .ref C' :: bm, [_, _, _, _, some (.builtin n), _] => C' == C && n == "ValueError.__new__" && !cd.hasDel && cd.hasDict && PySem.HandSPX.refsVE bm
    | _, _ => false)
  | _ => false
theorem clsB_ok {K : PySem.W.Frag} {C : Addr} (q : clsB K C = true) : ∃ nm q N bs bm sn sub ab col dd k0 k1 k2 k3 k5, K.lookup C = some (excClassObj nm q C N bs bm true sn sub ab col dd k0 k1 k2 k3 k5 "ValueError.__new__") ∧ PySem.HandSPX.refsVE bm = true := by
  unfold clsB at q
  split at q
  · rename_i dd cd sl ho
    split at q
    · rename_i C' bm k0 k1 k2 k3 n k5 hm hs
      simp only [Bool.and_eq_true, beq_iff_eq, Bool.not_eq_true'] at q
      obtain ⟨⟨⟨⟨rfl, rfl⟩, hdel⟩, hdi⟩, ht⟩ := q
      obtain ⟨nm, bs, mro, ns, qn, hd, sn, sub, ab, col, del⟩ := cd
      dsimp only at hm hdel hdi
      subst hm hdel hdi
      have hsl : sl = #[k0, k1, k2, k3, some (.builtin "ValueError.__new__"), k5] := by
        rw [← hs]
      subst hsl
      exact ⟨nm, qn, ns, bs, bm, sn, sub, ab, col, dd, k0, k1, k2, k3, k5, ho, ht⟩
    · cases q
  · cases q
def iniB (K : PySem.W.Frag) (file : Str) (C fI : Addr) (q : Str) : Bool := match K.lookup fI with
  | some ⟨_, _, .func fd, _⟩ => (match fd.code with
    | .ref cda => PySem.W.codeIn K (.ref cda) q && (match K.lookup cda with
      | some ⟨_, _, .fields vs, _⟩ => (match (vs[2]? : Option Value) with
        | some (Value.str z _) => file == z
        | _ => false)
      | _ => false)
    | _ => false) && (match fd.closure with
    | [(_, cc)] => (match K.lookup cc with
      | some ⟨_, _, .cell (some (.ref D)), _⟩ => D == C
      | _ => false)
    | _ => false)
  | _ => false
def errIB (K : PySem.W.Frag) (C : Addr) : Bool := (PySem.W.clsIn K C).isSome && (eqO (PySem.W.findIn K (.ref C) "__getattribute__") (some (some (.builtin "BaseException.__getattribute__"))) && (eqO (PySem.W.findIn K (.ref C) "__getattr__") (some none) &&
  (decide (PySem.W.subIn K (.ref C) (.type "BaseException") = some true) && (eqO (PySem.W.findIn K (.ref C) "__class__") (some (some (.builtin "object.__class__"))) && (eqO (PySem.W.specialIn K (.builtin "object.__class__") "__get__") (some (some (.builtin "getset_descriptor.__get__"))) &&
  (decide (PySem.W.takesIn K (.builtin "object.__class__") = some true) && decide (PySem.W.mroIn K C (.type "object") = some true)))))))
theorem errIB_ok {K : PySem.W.Frag} {C : Addr} (c : errIB K C = true) : ErrI K C := by
  obtain ⟨c1, c⟩ := ba c
  obtain ⟨c2, c⟩ := ba c
  obtain ⟨c3, c⟩ := ba c
  obtain ⟨c4, c⟩ := ba c
  obtain ⟨c5, c⟩ := ba c
  obtain ⟨c6, c⟩ := ba c
  obtain ⟨c7, c8⟩ := ba c
  exact ⟨c1, eqO_ok c2, eqO_ok c3, of_decide_eq_true c4, eqO_ok c5, eqO_ok c6, of_decide_eq_true c7, of_decide_eq_true c8⟩
def errB (K : PySem.W.Frag) (file : Str) (d : ErrD) : Bool :=
  clsB K (ga K d.x) && (eqO (PySem.W.findIn K (.ref (ga K d.x)) "__setattr__") (some (some (.builtin "object.__setattr__"))) && (eqO (PySem.W.findIn K (.ref (ga K d.x)) d.f) (some none) &&
  (eqO (PySem.W.findIn K (.ref (ga K d.x)) "__init__") (some (some (.ref (ma K (ga K d.x) "__init__")))) && (decide (PySem.W.typeIn K (.ref (ma K (ga K d.x) "__init__")) = some (.type "function")) &&
  (PySem.W.keepIn K (.ref (ga K d.x)) && (decide (PySem.W.subIn K (.ref (ga K d.x)) (.type "ValueError") = some true) && (decide (PySem.W.typeIn K (.ref (ga K d.x)) = some (.type "type")) &&
  (PySem.W.hasDictIn K (ga K d.x) && (eqO (PySem.W.ks_superIn K (ga K d.x) (ga K d.x) "__init__") (some (some (.builtin "ValueError.__init__"))) && (decide (PySem.W.mroIn K (ga K d.x) (.ref (ga K d.x)) = some true) &&
  (eqO (PySem.W.nsIn K cStatics "thirdparty.any") (some none) && (iniB K file (ga K d.x) (ma K (ga K d.x) "__init__") d.qual && errIB K (ga K d.x)))))))))))))
/-- the text of an error's __init__ -/
structure ErrD.Txt (d : ErrD) : Prop where
  pos : ∃ p1 p2 q1 q2 q3 q4 q5 r1 r2 r3 r4 : Pos, d.params = iA d.f p1 p2 ∧ d.body = iB d.f q1 q2 q3 q4 q5 r1 r2 r3 r4 ∧ d.scope = iS d.f ∧ (q3.endLine == q4.line) = true
  fld : Fld d.f
  bP : ∀ (kV doc pm : Value) (an : Option Addr) (cdv ct : Value) (cc : Addr) (v w : Value), bindArgs (PySem.W.ksFn "__init__" d.qual d.params d.body d.scope .none kV doc pm an cdv ct cc) ⟨[v, w], []⟩ = pure [(("self" : Str), v), (d.f, w)]
  bK : ∀ (kV doc pm : Value) (an : Option Addr) (cdv ct : Value) (cc : Addr) (v w : Value), bindArgs (PySem.W.ksFn "__init__" d.qual d.params d.body d.scope .none kV doc pm an cdv ct cc) ⟨[v], [(d.f, w)]⟩ = pure [(("self" : Str), v), (d.f, w)]
theorem errTxt_of {prog : Program} {K : PySem.W.Frag} {mg : Str → Option Value} {d : ErrD} (t : d.Txt) (e : fnE K d.x = d.val) (c : errB K prog.main.file d = true) (hs : mg "super" = none) (htop : (prog.main.scope.names.lookup ("super" : Str)).isSome = false) :
    ErrTxt prog K mg (ga K d.x) (ma K (ga K d.x) "__init__") d.f ∧ ErrI K (ga K d.x) := by
  obtain ⟨c1, c⟩ := ba c
  obtain ⟨c2, c⟩ := ba c
  obtain ⟨c3, c⟩ := ba c
  obtain ⟨c4, c⟩ := ba c
  obtain ⟨c5, c⟩ := ba c
  obtain ⟨c6, c⟩ := ba c
  obtain ⟨c7, c⟩ := ba c
  obtain ⟨c8, c⟩ := ba c
  obtain ⟨c9, c⟩ := ba c
  obtain ⟨c10, c⟩ := ba c
  obtain ⟨c11, c⟩ := ba c
  obtain ⟨c12, c⟩ := ba c
  obtain ⟨c13, c14⟩ := ba c
  have I := errIB_ok c14
  refine ⟨⟨clsB_ok c1, eqO_ok c2, I.ga, I.gg, eqO_ok c3, eqO_ok c4, of_decide_eq_true c5, c6, I.ex, of_decide_eq_true c7, of_decide_eq_true c8, c9, eqO_ok c10, of_decide_eq_true c11, hs, eqO_ok c12, htop, t.fld, ?_⟩, I⟩
  obtain ⟨p1, p2, q1, q2, q3, q4, q5, r1, r2, r3, r4, hp, hbd, hsc, hln⟩ := t.pos
  have bP := t.bP
  have bK := t.bK
  unfold fnE ErrD.val at e
  unfold iniB at c13
  generalize ma K (ga K d.x) "__init__" = fI at e c13 ⊢
  cases q : K.lookup fI with
  | none =>
    rw [q] at c13
    cases c13
  | some o =>
    obtain ⟨oc, od, dt, osl⟩ := o
    rw [q] at c13 e
    cases dt with
    | func fd =>
      obtain ⟨n1, n2, n3, n4, n5, n6, n7, n8, n9, n10, n11, n12, n13, n14, n15⟩ := fd
      simp only [Option.some.injEq, Prod.mk.injEq] at e
      obtain ⟨h1, h2, h3, h4, h5, h6, h7, h8, h9⟩ := e
      subst h1 h2 h3 h4 h5 h6 h8 h9
      dsimp only at c13
      obtain ⟨k1, k2⟩ := ba c13
      cases n13 with
      | ref cda =>
        dsimp only at k1
        obtain ⟨k3, k4⟩ := ba k1
        cases qq2 : K.lookup cda with
        | none =>
          rw [qq2] at k4
          cases k4
        | some o2 =>
          obtain ⟨oc2, od2, dt2, osl2⟩ := o2
          rw [qq2] at k4
          cases dt2 with
          | fields vs =>
            dsimp only at k4
            cases q3' : vs[2]? with
            | none =>
              rw [q3'] at k4
              cases k4
            | some z =>
              rw [q3'] at k4
              cases z with
              | str zz tf =>
                dsimp only at k4
                match n7, h7, k2 with
                | [(nm, cc)], h7, k2 =>
                  have en : nm = "__class__" := (List.cons.inj h7).1
                  subst en
                  dsimp only at k2
                  cases q4' : K.lookup cc with
                  | none =>
                    rw [q4'] at k2
                    cases k2
                  | some o3 =>
                    obtain ⟨oc3, od3, dt3, osl3⟩ := o3
                    rw [q4'] at k2
                    cases dt3 with
                    | cell cv =>
                      cases cv with
                      | none => cases k2
                      | some cv =>
                        cases cv with
                        | ref D =>
                          have eD : D = ga K d.x := beq_iff_eq.mp k2
                          subst eD
                          rw [hp, hbd, hsc] at bP bK
                          refine ⟨oc, od, n9, n10, n11, n12, n14, osl, p1, p2, q1, q2, q3, q4, q5, r1, r2, r3, r4, d.qual, cc, cda, oc2, od2, vs, osl2, zz, tf, oc3, od3, osl3, ?_, k3, qq2, q3', k4, q4', hln, fun s x v => .of_eq (bP n9 n10 n11 n12 (.ref cda) n14 cc x v), fun s x v => .of_eq (bK n9 n10 n11 n12 (.ref cda) n14 cc x v)⟩
                          rw [hp, hbd, hsc]
                        | _ => cases k2
                    | _ => cases k2
              | _ => cases k4
          | _ => cases k4
      | _ => cases k1
    | _ => cases c13
/-! ### the Hook -/
abbrev AlM : Type := Bool × List FnW × List FnE
def obsM (file : Str) (fn : List DefD) (er : List ErrD) (ex : PySem.W.Frag → Bool) (K : PySem.W.Frag) : AlM :=
  (ex K && ((fn.all fun d => d.ok K) && er.all fun d => errB K file d), fn.map fun d => fnW K d.at_, er.map fun d => fnE K d.x)
def valM (fn : List DefD) (er : List ErrD) : AlM := (true, fn.map DefD.val, er.map ErrD.val)
def SaysM (file : Str) (fn : List DefD) (er : List ErrD) (ex : PySem.W.Frag → Bool) (K : PySem.W.Frag) : Prop := obsM file fn er ex K = valM fn er
def obsMG (n : Nat) (file : Str) (fn : List DefD) (er : List ErrD) (ex : PySem.W.Frag → Bool) (g : Addr → Option Obj) : AlM := obsM file fn er ex (frG g (asE g n))
def hookM (n : Nat) (file : Str) (fn : List DefD) (er : List ErrD) (ex : PySem.W.Frag → Bool) : PySem.W.Hook where
  α := AlM
  obs := fun s => obsMG n file fn er ex s.heap.get?
  val := fun _ => valM fn er
  says := fun _ h => ∃ K : PySem.W.Frag, K.In h ∧ SaysM file fn er ex K
  of := fun _ _ e => ⟨_, frG_in, e⟩
  keeps := fun _ _ _ ⟨K, hK, c⟩ k => ⟨K, PySem.W.Frag.In.keeps hK k, c⟩
theorem obsMG_eq {n : Nat} {file : Str} {fn : List DefD} {er : List ErrD} {ex : PySem.W.Frag → Bool} {g : Addr → Option Obj} {s : Shared} (h : ∀ a, g a = s.heap.get? a) : obsMG n file fn er ex g = (hookM n file fn er ex).obs s := by
  have e : g = s.heap.get? := funext h
  rw [e] <;> rfl
section
variable {file : Str} {fn : List DefD} {er : List ErrD} {ex : PySem.W.Frag → Bool} {K : PySem.W.Frag}
theorem SaysM.bools (c : SaysM file fn er ex K) : ex K = true ∧ (fn.all fun d => d.ok K) = true ∧ (er.all fun d => errB K file d) = true := by
  have c1 : (ex K && ((fn.all fun d => d.ok K) && er.all fun d => errB K file d)) = true := congrArg (fun z : AlM => z.1) c
  obtain ⟨a, b⟩ := ba c1
  exact ⟨a, ba b⟩
theorem SaysM.def_ (c : SaysM file fn er ex K) (i : Nat) {d : DefD} (h : fn[i]? = some d := by rfl) : ∃ fd, FunD K d.name d.qual d.params d.body d.scope (d.dvs K) (d.kws K) (fAd K d.at_) fd := by
  have e : fn.map (fun d => fnW K d.at_) = fn.map DefD.val := congrArg (fun z : AlM => z.2.1) c
  have e2 : (fn.map fun d => fnW K d.at_)[i]? = (fn.map DefD.val)[i]? := by rw [e]
  rw [List.getElem?_map, List.getElem?_map, h] at e2
  exact DefD.funD (Option.some.inj e2) (List.all_eq_true.mp c.bools.2.1 d (List.mem_of_getElem? h))
theorem SaysM.err {prog : Program} {mg : Str → Option Value} (c : SaysM prog.main.file fn er ex K) (i : Nat) {d : ErrD} (t : d.Txt) (hs : mg "super" = none) (htop : (prog.main.scope.names.lookup ("super" : Str)).isSome = false) (h : er[i]? = some d := by rfl) :
    ErrTxt prog K mg (ga K d.x) (ma K (ga K d.x) "__init__") d.f ∧ ErrI K (ga K d.x) := by
  have e : er.map (fun d => fnE K d.x) = er.map ErrD.val := congrArg (fun z : AlM => z.2.2) c
  have e2 : (er.map fun d => fnE K d.x)[i]? = (er.map ErrD.val)[i]? := by rw [e]
  rw [List.getElem?_map, List.getElem?_map, h] at e2
  exact errTxt_of t (Option.some.inj e2) (List.all_eq_true.mp c.bools.2.2 d (List.mem_of_getElem? h)) hs htop
end
end AFH
set_option Elab.async false
set_option linter.all false
set_option maxRecDepth 100000
set_option maxHeartbeats 0
namespace K47
open PySem PySem.Spec PyProof.Rows L2 PySem.ErX
def top (i : Nat) : Stmt := PySem.Challenge.pw_askfurther_k47_errors_made_by_names.main.body.getD i (.Pass ⟨0, 0, 0, 0⟩)
abbrev s_law_source_of : Stmt := top 29
def d_law_source_of : He.DefD := ⟨("_law_source_of", none), "_law_source_of", "_law_source_of", defArgs s_law_source_of, defBody s_law_source_of, defScope s_law_source_of, [], []⟩
abbrev s_law_next : Stmt := top 30
def d_law_next : He.DefD := ⟨("_law_next", none), "_law_next", "_law_next", defArgs s_law_next, defBody s_law_next, defScope s_law_next, [], []⟩
abbrev s_law_one : Stmt := top 31
def d_law_one : He.DefD := ⟨("_law_one", none), "_law_one", "_law_one", defArgs s_law_one, defBody s_law_one, defScope s_law_one, [], []⟩
abbrev s_law_kinds : Stmt := top 32
def d_law_kinds : He.DefD := ⟨("_law_kinds", none), "_law_kinds", "_law_kinds", defArgs s_law_kinds, defBody s_law_kinds, defScope s_law_kinds, [], []⟩
abbrev s_law_by_name : Stmt := top 33
def d_law_by_name : He.DefD := ⟨("_law_by_name", none), "_law_by_name", "_law_by_name", defArgs s_law_by_name, defBody s_law_by_name, defScope s_law_by_name, [], []⟩
abbrev slaw : Stmt := top 34
def dlaw : He.DefD := ⟨("law", none), "law", "law", defArgs slaw, defBody slaw, defScope slaw, [], []⟩
def fn : List He.DefD := [d_law_source_of, d_law_next, d_law_one, d_law_kinds, d_law_by_name, dlaw]
theorem fl_answer : Fld "answer" := ⟨by decide, by decide, by decide, by decide, by decide⟩
theorem fl_asks : Fld "asks" := ⟨by decide, by decide, by decide, by decide, by decide⟩
theorem fl_function : Fld "function" := ⟨by decide, by decide, by decide, by decide, by decide⟩
theorem fl_history : Fld "history" := ⟨by decide, by decide, by decide, by decide, by decide⟩
theorem fl_index : Fld "index" := ⟨by decide, by decide, by decide, by decide, by decide⟩
theorem fl_line : Fld "line" := ⟨by decide, by decide, by decide, by decide, by decide⟩
theorem fl_many : Fld "many" := ⟨by decide, by decide, by decide, by decide, by decide⟩
theorem fl_operation : Fld "operation" := ⟨by decide, by decide, by decide, by decide, by decide⟩
theorem fl_part : Fld "part" := ⟨by decide, by decide, by decide, by decide, by decide⟩
theorem fl_place : Fld "place" := ⟨by decide, by decide, by decide, by decide, by decide⟩
theorem fl_state : Fld "state" := ⟨by decide, by decide, by decide, by decide, by decide⟩
abbrev cBadBody : Stmt := inClass (top 3) 0
def eBadBody : AFH.ErrD := ⟨"BadBody", "index", "BadBody.__init__", defArgs cBadBody, defBody cBadBody, defScope cBadBody⟩
theorem tBadBody : eBadBody.Txt := ⟨⟨_, _, _, _, _, _, _, _, _, _, _, rfl, rfl, rfl, rfl⟩, fl_index, fun _ _ _ _ _ _ _ _ _ => rfl, fun _ _ _ _ _ _ _ _ _ => rfl⟩
abbrev cBadStart : Stmt := inClass (top 4) 0
def eBadStart : AFH.ErrD := ⟨"BadStart", "index", "BadStart.__init__", defArgs cBadStart, defBody cBadStart, defScope cBadStart⟩
theorem tBadStart : eBadStart.Txt := ⟨⟨_, _, _, _, _, _, _, _, _, _, _, rfl, rfl, rfl, rfl⟩, fl_index, fun _ _ _ _ _ _ _ _ _ => rfl, fun _ _ _ _ _ _ _ _ _ => rfl⟩
abbrev cNoRow : Stmt := inClass (top 5) 0
def eNoRow : AFH.ErrD := ⟨"NoRow", "index", "NoRow.__init__", defArgs cNoRow, defBody cNoRow, defScope cNoRow⟩
theorem tNoRow : eNoRow.Txt := ⟨⟨_, _, _, _, _, _, _, _, _, _, _, rfl, rfl, rfl, rfl⟩, fl_index, fun _ _ _ _ _ _ _ _ _ => rfl, fun _ _ _ _ _ _ _ _ _ => rfl⟩
abbrev cBadHistory : Stmt := inClass (top 7) 0
def eBadHistory : AFH.ErrD := ⟨"BadHistory", "index", "BadHistory.__init__", defArgs cBadHistory, defBody cBadHistory, defScope cBadHistory⟩
theorem tBadHistory : eBadHistory.Txt := ⟨⟨_, _, _, _, _, _, _, _, _, _, _, rfl, rfl, rfl, rfl⟩, fl_index, fun _ _ _ _ _ _ _ _ _ => rfl, fun _ _ _ _ _ _ _ _ _ => rfl⟩
abbrev cBadProgram : Stmt := inClass (top 9) 0
def eBadProgram : AFH.ErrD := ⟨"BadProgram", "place", "BadProgram.__init__", defArgs cBadProgram, defBody cBadProgram, defScope cBadProgram⟩
theorem tBadProgram : eBadProgram.Txt := ⟨⟨_, _, _, _, _, _, _, _, _, _, _, rfl, rfl, rfl, rfl⟩, fl_place, fun _ _ _ _ _ _ _ _ _ => rfl, fun _ _ _ _ _ _ _ _ _ => rfl⟩
abbrev cBadHandler : Stmt := inClass (top 10) 0
def eBadHandler : AFH.ErrD := ⟨"BadHandler", "part", "BadHandler.__init__", defArgs cBadHandler, defBody cBadHandler, defScope cBadHandler⟩
theorem tBadHandler : eBadHandler.Txt := ⟨⟨_, _, _, _, _, _, _, _, _, _, _, rfl, rfl, rfl, rfl⟩, fl_part, fun _ _ _ _ _ _ _ _ _ => rfl, fun _ _ _ _ _ _ _ _ _ => rfl⟩
abbrev cMismatch : Stmt := inClass (top 11) 0
def eMismatch : AFH.ErrD := ⟨"Mismatch", "operation", "Mismatch.__init__", defArgs cMismatch, defBody cMismatch, defScope cMismatch⟩
theorem tMismatch : eMismatch.Txt := ⟨⟨_, _, _, _, _, _, _, _, _, _, _, rfl, rfl, rfl, rfl⟩, fl_operation, fun _ _ _ _ _ _ _ _ _ => rfl, fun _ _ _ _ _ _ _ _ _ => rfl⟩
abbrev cTooMany : Stmt := inClass (top 12) 0
def eTooMany : AFH.ErrD := ⟨"TooMany", "many", "TooMany.__init__", defArgs cTooMany, defBody cTooMany, defScope cTooMany⟩
theorem tTooMany : eTooMany.Txt := ⟨⟨_, _, _, _, _, _, _, _, _, _, _, rfl, rfl, rfl, rfl⟩, fl_many, fun _ _ _ _ _ _ _ _ _ => rfl, fun _ _ _ _ _ _ _ _ _ => rfl⟩
abbrev cParted : Stmt := inClass (top 13) 0
def eParted : AFH.ErrD := ⟨"Parted", "history", "Parted.__init__", defArgs cParted, defBody cParted, defScope cParted⟩
theorem tParted : eParted.Txt := ⟨⟨_, _, _, _, _, _, _, _, _, _, _, rfl, rfl, rfl, rfl⟩, fl_history, fun _ _ _ _ _ _ _ _ _ => rfl, fun _ _ _ _ _ _ _ _ _ => rfl⟩
abbrev cNoState : Stmt := inClass (top 14) 0
def eNoState : AFH.ErrD := ⟨"NoState", "state", "NoState.__init__", defArgs cNoState, defBody cNoState, defScope cNoState⟩
theorem tNoState : eNoState.Txt := ⟨⟨_, _, _, _, _, _, _, _, _, _, _, rfl, rfl, rfl, rfl⟩, fl_state, fun _ _ _ _ _ _ _ _ _ => rfl, fun _ _ _ _ _ _ _ _ _ => rfl⟩
abbrev cNoOperation : Stmt := inClass (top 15) 0
def eNoOperation : AFH.ErrD := ⟨"NoOperation", "operation", "NoOperation.__init__", defArgs cNoOperation, defBody cNoOperation, defScope cNoOperation⟩
theorem tNoOperation : eNoOperation.Txt := ⟨⟨_, _, _, _, _, _, _, _, _, _, _, rfl, rfl, rfl, rfl⟩, fl_operation, fun _ _ _ _ _ _ _ _ _ => rfl, fun _ _ _ _ _ _ _ _ _ => rfl⟩
abbrev cApart : Stmt := inClass (top 17) 0
def eApart : AFH.ErrD := ⟨"Apart", "asks", "Apart.__init__", defArgs cApart, defBody cApart, defScope cApart⟩
theorem tApart : eApart.Txt := ⟨⟨_, _, _, _, _, _, _, _, _, _, _, rfl, rfl, rfl, rfl⟩, fl_asks, fun _ _ _ _ _ _ _ _ _ => rfl, fun _ _ _ _ _ _ _ _ _ => rfl⟩
abbrev cBadAnswer : Stmt := inClass (top 18) 0
def eBadAnswer : AFH.ErrD := ⟨"BadAnswer", "answer", "BadAnswer.__init__", defArgs cBadAnswer, defBody cBadAnswer, defScope cBadAnswer⟩
theorem tBadAnswer : eBadAnswer.Txt := ⟨⟨_, _, _, _, _, _, _, _, _, _, _, rfl, rfl, rfl, rfl⟩, fl_answer, fun _ _ _ _ _ _ _ _ _ => rfl, fun _ _ _ _ _ _ _ _ _ => rfl⟩
abbrev cBadChoices : Stmt := inClass (top 19) 0
def eBadChoices : AFH.ErrD := ⟨"BadChoices", "index", "BadChoices.__init__", defArgs cBadChoices, defBody cBadChoices, defScope cBadChoices⟩
theorem tBadChoices : eBadChoices.Txt := ⟨⟨_, _, _, _, _, _, _, _, _, _, _, rfl, rfl, rfl, rfl⟩, fl_index, fun _ _ _ _ _ _ _ _ _ => rfl, fun _ _ _ _ _ _ _ _ _ => rfl⟩
abbrev cBadCount : Stmt := inClass (top 20) 0
def eBadCount : AFH.ErrD := ⟨"BadCount", "many", "BadCount.__init__", defArgs cBadCount, defBody cBadCount, defScope cBadCount⟩
theorem tBadCount : eBadCount.Txt := ⟨⟨_, _, _, _, _, _, _, _, _, _, _, rfl, rfl, rfl, rfl⟩, fl_many, fun _ _ _ _ _ _ _ _ _ => rfl, fun _ _ _ _ _ _ _ _ _ => rfl⟩
abbrev cNoIndex : Stmt := inClass (top 21) 0
def eNoIndex : AFH.ErrD := ⟨"NoIndex", "index", "NoIndex.__init__", defArgs cNoIndex, defBody cNoIndex, defScope cNoIndex⟩
theorem tNoIndex : eNoIndex.Txt := ⟨⟨_, _, _, _, _, _, _, _, _, _, _, rfl, rfl, rfl, rfl⟩, fl_index, fun _ _ _ _ _ _ _ _ _ => rfl, fun _ _ _ _ _ _ _ _ _ => rfl⟩
abbrev cBadWork : Stmt := inClass (top 24) 0
def eBadWork : AFH.ErrD := ⟨"BadWork", "place", "BadWork.__init__", defArgs cBadWork, defBody cBadWork, defScope cBadWork⟩
theorem tBadWork : eBadWork.Txt := ⟨⟨_, _, _, _, _, _, _, _, _, _, _, rfl, rfl, rfl, rfl⟩, fl_place, fun _ _ _ _ _ _ _ _ _ => rfl, fun _ _ _ _ _ _ _ _ _ => rfl⟩
abbrev cRecursive : Stmt := inClass (top 26) 0
def eRecursive : AFH.ErrD := ⟨"Recursive", "function", "Recursive.__init__", defArgs cRecursive, defBody cRecursive, defScope cRecursive⟩
theorem tRecursive : eRecursive.Txt := ⟨⟨_, _, _, _, _, _, _, _, _, _, _, rfl, rfl, rfl, rfl⟩, fl_function, fun _ _ _ _ _ _ _ _ _ => rfl, fun _ _ _ _ _ _ _ _ _ => rfl⟩
abbrev cTooLong : Stmt := inClass (top 27) 0
def eTooLong : AFH.ErrD := ⟨"TooLong", "many", "TooLong.__init__", defArgs cTooLong, defBody cTooLong, defScope cTooLong⟩
theorem tTooLong : eTooLong.Txt := ⟨⟨_, _, _, _, _, _, _, _, _, _, _, rfl, rfl, rfl, rfl⟩, fl_many, fun _ _ _ _ _ _ _ _ _ => rfl, fun _ _ _ _ _ _ _ _ _ => rfl⟩
abbrev cNoText : Stmt := inClass (top 16) 0
def eNoText : AFH.ErrD := ⟨"NoText", "line", "NoText.__init__", defArgs cNoText, defBody cNoText, defScope cNoText⟩
theorem tNoText : eNoText.Txt := ⟨⟨_, _, _, _, _, _, _, _, _, _, _, rfl, rfl, rfl, rfl⟩, fl_line, fun _ _ _ _ _ _ _ _ _ => rfl, fun _ _ _ _ _ _ _ _ _ => rfl⟩
def er : List AFH.ErrD := [eBadBody, eBadStart, eNoRow, eBadHistory, eBadProgram, eBadHandler, eMismatch, eTooMany, eParted, eNoState, eNoOperation, eApart, eBadAnswer, eBadChoices, eBadCount, eNoIndex, eBadWork, eRecursive, eTooLong, eNoText]
def allN : List Str := ["BadOperations", "BadBody", "BadStart", "NoRow", "BadOthers", "BadHistory", "BadSizes", "BadProgram", "BadHandler", "Mismatch", "TooMany", "Parted", "NoState", "NoOperation", "Apart", "BadAnswer", "BadChoices", "BadCount", "NoIndex", "Endless", "BadHandlers", "BadWork", "NoEntry", "Recursive", "TooLong", "NoText"]
def fa : List He.Fa := [.glo "_law_source_of", .glo "_law_next", .glo "_law_one", .glo "_law_kinds", .glo "_law_by_name", .glo "law", .free "len", .free "int", .free "isinstance", .free "range", .free "enumerate", .free "super", .free "ValueError", .glo "AskError"]
def woN : List Str := ["BadOperations", "BadOthers", "BadSizes", "Endless", "BadHandlers", "NoEntry"]
def ex (K : PySem.W.Frag) : Bool := (fa.all fun f => f.ok K) && ((allN.all fun n => (He.Fa.glo n).ok K) && ((woN.all fun n => (He.Fa.exc n).ok K) && ((allN.all fun x => AFH.errIB K (He.ga K x)) && ((allN.all fun x => allN.all fun y => decide (PySem.W.kitOne K (.ref (He.ga K x)) (.ref (He.ga K y)) = some (x == y))) &&
  (allN.all fun x => decide (PySem.W.kitOne K (.ref (He.ga K x)) (.ref (He.ga K "AskError")) = some true) && decide (PySem.W.kitOne K (.ref (He.ga K x)) (.type "ValueError") = some true))))))
abbrev R : PySem.W.OpenRow := PySem.W.OpenLaw.row PySem.Challenge.rw_askfurther_k47_errors_made_by_names
abbrev hk : PySem.W.Hook := AFH.hookM 6 R.prog.main.file fn er ex
def ob (s : PySem.W.SharedT) : AFH.AlM := AFH.obsMG 6 R.prog.main.file fn er ex (HandSHeadRun.getT s)
theorem ob_eq (s : PySem.W.SharedT) : ob s = hk.obs s.abs := AFH.obsMG_eq (HandSHeadRun.getT_eq s)
def loose : List Str := ["AskError", "BadOperations", "BadBody", "BadStart", "NoRow", "BadOthers", "BadHistory", "BadSizes", "BadProgram", "BadHandler", "Mismatch", "TooMany", "Parted", "NoState", "NoOperation", "NoText", "Apart", "BadAnswer", "BadChoices", "BadCount", "NoIndex", "Endless", "BadHandlers", "BadWork", "NoEntry", "Recursive", "TooLong", "_law_source_of", "_law_next", "_law_one", "_law_kinds", "_law_by_name"]
theorem run (w : World) : HandSHeadRun.RunEq R (PySem.W.view R.prog [34]) hk ob 20000 loose w := by
  intro os
  kernel_rfl
end K47
set_option Elab.async false
set_option linter.all false
set_option maxRecDepth 100000
set_option maxHeartbeats 4000000
namespace K47
open PySem PySem.Spec PyProof.Rows L2
abbrev FnP (K : PySem.W.Frag) (x : Str) (st : Stmt) (f : Addr) (fd : FuncData) : Prop := FunD K x x (defArgs st) (defBody st) (defScope st) [] [] f fd
theorem bt_int : bootBuiltins "int" = some (.type "int") := by decide +kernel
/-- three ints -/
def SrcO (o : HO) : Prop := ∃ a b c : Int, o = .lst [.int a, .int b, .int c]
def spSrc : Sp := fun vs H Q _ => ∃ n : Int, vs = [.int n] ∧ ∀ p o, H p = none → SrcO o → Q (.ref p) (upd H p o)
def spNext : Sp := fun vs H Q _ => ∃ (p : Addr) (o : HO) (many : Int), vs = [.ref p, .int many] ∧ H p = some o ∧ SrcO o ∧ 0 < many ∧ many < 2 ^ 100 ∧ ∀ o' r, SrcO o' → 0 ≤ r → r < many → Q (.int r) (upd H p o')
def spOne (K : PySem.W.Frag) : Sp := fun vs H Q _ => ∃ (p q : Addr) (o : HO) (xs : List V), vs = [.ref p, .ref q] ∧ H p = some o ∧ SrcO o ∧ SqL K H q xs ∧ 0 < xs.length ∧ xs.length < 100000 ∧ (∀ o', SqL K (upd H p o') q xs) ∧ ∀ (o' : HO) (i : Nat) (x : V), SrcO o' → xs[i]? = some x → Q x (upd H p o')
theorem mb (x : Int) : -(2 ^ 64) < x % 2147483647 ∧ x % 2147483647 < 2 ^ 64 := by
  have h1 := Int.emod_nonneg x (b := 2147483647) (by decide)
  have h2 := Int.emod_lt_of_pos x (b := 2147483647) (by decide)
  omega
section
variable {P : Program} {w : World} {K : PySem.W.Frag} {mg : Str → Option Value} {base : Heap} {f : Addr} {fd : FuncData}
theorem sc_src : FnScope ["_law_cell"] ["_law_cell"] (defScope s_law_source_of) := ⟨rfl, rfl, rfl, by decide +kernel, rfl, by decide +kernel, by decide +kernel⟩
theorem ok_src (F : FnP K "_law_source_of" s_law_source_of f fd) (mI : mg "int" = none) : FnOk P w K mg base CX0 1 f fd ["_law_cell"] spSrc := by
  refine F.ok sc_src (fun vs H Q E h => ?_) (fun cdv A outer s H vs Q E hr h => ⟨_, PSs.nox (Evl.pss_cut (ps_set (i := 0) sc_src.nd rfl (Or.inl rfl) (pe_ifExp (pt_cmpR op_ge (pv 0) pe_int (nomark _)) (pv 0) (pe_op op_sub (pe_op op_sub pe_int (pe_op op_mul pe_int (pv 0))) pe_int)))
      (pss_one (ps_ret (pe_lst (pa_cons (pe_op op_mul (pv 0) (pe_callTy call_int1 (by rfl) mI bt_int (pa_cons (pe_cmpR op_ge (pv 0) (pe_op op_pow pe_int pe_int) (nomark _)) pa_nil)))
        (pa_cons (pe_op op_mod (pe_callTy call_int1 (by rfl) mI bt_int (pa_cons (pv 0) pa_nil)) pe_int) (pa_cons pe_int pa_nil))))))), ?_⟩)
  · obtain ⟨n, rfl, _⟩ := h
    rfl
  · obtain ⟨n, rfl, k⟩ := h
    refine ⟨fun σ' H' => ∃ m : Int, σ' = [some (.int m)] ∧ H' = H, ?_, ?_⟩
    · refine ⟨_, rfl, _, _, rfl, rfl, _, rfl, ?_⟩
      refine ite2 (fun c => ?_) (fun c => ?_)
      · exact ⟨_, rfl, n, rfl, rfl⟩
      · exact ⟨_, rfl, _, _, rfl, rfl, .inl (by decide), _, _, rfl, rfl, _, _, rfl, rfl, _, rfl, rfl⟩
    · rintro σ' H' ⟨m, rfl, rfl⟩
      refine ⟨_, rfl, _, rfl, _, _, rfl, rfl, ⟨by decide, by decide, by decide⟩, _, _, rfl, rfl, .inr ⟨_, rfl, _, _, rfl, rfl, .inr ?_, ?_⟩⟩
      · split <;> decide
      · exact ⟨_, rfl, .inl ⟨_, rfl, _, _, rfl, rfl, (by show (0 : Int) < 2147483647; decide), (by show 3 ≤ sizeLine; decide), fun p hp => k p _ hp ⟨_, _, _, rfl⟩⟩⟩
theorem sc_next : FnScope ["_law_source", "_law_size", "_law_found", "_law_number"] ["_law_source", "_law_size"] (defScope s_law_next) := ⟨rfl, rfl, rfl, by decide +kernel, rfl, by decide +kernel, by decide +kernel⟩
theorem ok_next (F : FnP K "_law_next" s_law_next f fd) (mI : mg "int" = none) : FnOk P w K mg base CX0 1 f fd ["_law_source", "_law_size"] spNext := by
  refine F.ok sc_next (fun vs H Q E h => ?_) (fun cdv A outer s H vs Q E hr h => ⟨_, PSs.nox (pss_cons (ps_if (pt_cmpR op_gt (pe_ix ix_list (pv 0) pe_int (fun _ _ => rfl)) pe_int (nomark _))
      (pss_cons (ps_set (i := 2) sc_next.nd rfl (Or.inl rfl) (pe_op op_mod (pe_callTy call_int1 (by rfl) mI bt_int (pa_cons (pe_ix ix_list (pv 0) pe_int (fun _ _ => rfl)) pa_nil)) (pv 1)))
      (pss_cons (ps_asg (pe_op op_fdivW (pe_ix ix_list (pv 0) pe_int (fun _ _ => rfl)) (pv 1)) (pg_sub (pv 0) pe_int set_list))
      (pss_one (ps_ret (pv 2))))) pss_nil)
    (pss_cons (ps_asg (pe_op op_add (pe_ix ix_list (pv 0) pe_int (fun _ _ => rfl)) pe_int) (pg_sub (pv 0) pe_int set_list))
    (pss_cons (ps_set (i := 3) sc_next.nd rfl (Or.inl rfl) (pe_op op_mod (pe_callTy call_int1 (by rfl) mI bt_int (pa_cons (pe_op op_add (pe_op op_add (pe_ix ix_list (pv 0) pe_int (fun _ _ => rfl)) (pe_op op_mul pe_int (pe_ix ix_list (pv 0) pe_int (fun _ _ => rfl)))) pe_int) pa_nil)) pe_int))
    (pss_cons (ps_set (i := 3) sc_next.nd rfl (Or.inl rfl) (pe_op op_mod (pe_callTy call_int1 (by rfl) mI bt_int (pa_cons (pe_op op_mul (pv 3) pe_int) pa_nil)) pe_int))
    (pss_cons (ps_set (i := 3) sc_next.nd rfl (Or.inl rfl) (pe_op op_mod (pe_callTy call_int1 (by rfl) mI bt_int (pa_cons (pe_op op_mul (pv 3) (pe_op op_add (pe_op op_fdiv (pv 3) pe_int) pe_int)) pa_nil)) pe_int))
    (pss_cons (ps_set (i := 3) sc_next.nd rfl (Or.inl rfl) (pe_op op_mod (pe_callTy call_int1 (by rfl) mI bt_int (pa_cons (pe_op op_mul (pv 3) (pe_op op_add (pe_op op_fdiv (pv 3) pe_int) pe_int)) pa_nil)) pe_int))
    (pss_one (ps_ret (pe_op op_mod (pe_callTy call_int1 (by rfl) mI bt_int (pa_cons (pe_op op_fdiv (pv 3) pe_int) pa_nil)) (pv 1)))))))))), ?_⟩)
  · obtain ⟨p, o, many, rfl, _⟩ := h
    rfl
  · obtain ⟨p, o, many, rfl, hp, ⟨a, b, c, rfl⟩, h0, h1, k⟩ := h
    refine ⟨_, rfl, p, _, _, _, rfl, rfl, SqL.of hp, rfl, _, _, rfl, rfl, _, rfl, ?_⟩
    refine ite2 (fun _ => ?_) (fun _ => ?_)
    · refine ⟨_, rfl, p, _, _, _, rfl, rfl, SqL.of hp, rfl, .inl ⟨_, rfl, _, rfl, _, _, rfl, rfl, h0, ?_⟩⟩
      refine ⟨_, rfl, p, _, _, _, rfl, rfl, SqL.of hp, rfl, _, rfl, _, _, rfl, rfl, wide_div (b := 100) h0 (by omega) (by decide) (by decide), _, rfl, p, _, _, 0, rfl, rfl, hp, rfl, ?_⟩
      exact ⟨_, rfl, k _ _ ⟨_, _, _, rfl⟩ (Int.emod_nonneg _ (by omega)) (Int.emod_lt_of_pos _ h0)⟩
    · refine ⟨_, rfl, p, _, _, _, rfl, rfl, SqL.of hp, rfl, _, _, rfl, rfl, _, rfl, p, _, _, 2, rfl, rfl, hp, rfl, ?_⟩
      have hp' : upd H p (.lst ([V.int a, .int b, .int c].set 2 (.int (c + 1)))) p = some (.lst [.int a, .int b, .int (c + 1)]) := upd_same
      refine ⟨_, rfl, p, _, _, _, rfl, rfl, SqL.of hp', rfl, _, rfl, p, _, _, _, rfl, rfl, SqL.of hp', rfl, _, _, rfl, rfl, .inl (by decide), _, _, rfl, rfl, _, _, rfl, rfl, .inl ⟨_, rfl, _, _, rfl, rfl, (by show (0 : Int) < 2147483647; decide), ?_⟩⟩
      refine ⟨_, rfl, _, _, rfl, rfl, .inl (mb _), .inl ⟨_, rfl, _, _, rfl, rfl, (by show (0 : Int) < 2147483647; decide), ?_⟩⟩
      refine ⟨_, rfl, _, rfl, _, _, rfl, rfl, ⟨by decide, by decide⟩, _, _, rfl, rfl, _, _, rfl, rfl, .inl (mb _), .inl ⟨_, rfl, _, _, rfl, rfl, (by show (0 : Int) < 2147483647; decide), ?_⟩⟩
      refine ⟨_, rfl, _, rfl, _, _, rfl, rfl, ⟨by decide, by decide⟩, _, _, rfl, rfl, _, _, rfl, rfl, .inl (mb _), .inl ⟨_, rfl, _, _, rfl, rfl, (by show (0 : Int) < 2147483399; decide), ?_⟩⟩
      refine ⟨_, rfl, _, _, rfl, rfl, ⟨by decide, by decide⟩, .inl ⟨_, rfl, _, rfl, _, _, rfl, rfl, h0, ?_⟩⟩
      exact k _ _ ⟨_, _, _, rfl⟩ (Int.emod_nonneg _ (by omega)) (Int.emod_lt_of_pos _ h0)
theorem sc_one : FnScope ["_law_source", "_law_some"] ["_law_source", "_law_some"] (defScope s_law_one) := ⟨rfl, rfl, rfl, by decide +kernel, rfl, by decide +kernel, by decide +kernel⟩
theorem ok_one {fN : Addr} {fdN : FuncData} (F : FnP K "_law_one" s_law_one f fd) (FN : FnP K "_law_next" s_law_next fN fdN) (gN : mg "_law_next" = some (.ref fN)) (mI : mg "int" = none) (mL : mg "len" = none) : FnOk P w K mg base CX0 2 f fd ["_law_source", "_law_some"] (spOne K) := by
  have GN : FnOk P w K mg base CX0 1 fN fdN ["_law_source", "_law_size"] spNext := ok_next FN mI
  have bN : Binds K fdN ["_law_source", "_law_size"] [] := FN.bindsN fun _ _ _ _ _ _ us hl => match us, hl with | [_, _], _ => rfl
  refine F.ok sc_one (fun vs H Q E h => ?_) (fun cdv A outer s H vs Q E hr h => ⟨_, PSs.nox (pss_one (ps_ret (pe_ix ix_list (pv 1) (pe_call GN hr rfl gN FN.kp bN .nil pass0 (pa_cons (pv 0) (pa_cons (pe_callB call_len_seq (by rfl) mL PySem.boot_len (pa_cons (pv 1) pa_nil)) pa_nil))) (fun _ _ => rfl)))), ?_⟩)
  · obtain ⟨p, q, o, xs, rfl, _⟩ := h
    rfl
  · obtain ⟨p, q, o, xs, rfl, hp, ho, hq, h0, h1, hk, k⟩ := h
    refine ⟨_, rfl, _, rfl, _, rfl, q, xs, rfl, .inl hq, p, o, (xs.length : Int), rfl, hp, ho, by omega, by omega, fun o' r ho' r0 r1 => ?_⟩
    obtain ⟨j, rfl⟩ : ∃ j : Nat, r = (j : Int) := ⟨r.toNat, by omega⟩
    have hj : j < xs.length := by omega
    refine ⟨q, xs, (j : Int), xs[j], rfl, rfl, hk o', atI_nat (List.getElem?_eq_getElem hj), ?_⟩
    exact k o' j _ ho' (List.getElem?_eq_getElem hj)
end
end K47
set_option Elab.async false
set_option linter.all false
set_option maxRecDepth 100000
set_option maxHeartbeats 4000000
namespace K47
open PySem PySem.Spec PyProof.Rows L2 PySem.ErX
/-- what is known of the classes -/
structure Cl (prog : Program) (K : PySem.W.Frag) (mg : Str → Option Value) : Prop where
  g : ∀ n ∈ allN, mg n = some (.ref (He.ga K n))
  i : ∀ n ∈ allN, ErrI K (He.ga K n)
  kit : ∀ n ∈ allN, ∀ m ∈ allN, PySem.W.kitOne K (.ref (He.ga K n)) (.ref (He.ga K m)) = some (n == m)
  gA : mg "AskError" = some (.ref (He.ga K "AskError"))
  kA : ∀ n ∈ allN, PySem.W.kitOne K (.ref (He.ga K n)) (.ref (He.ga K "AskError")) = some true
  kV : ∀ n ∈ allN, PySem.W.kitOne K (.ref (He.ga K n)) (.type "ValueError") = some true
theorem in_BadOperations : ("BadOperations" : Str) ∈ allN := by decide
theorem in_BadBody : ("BadBody" : Str) ∈ allN := by decide
theorem in_BadStart : ("BadStart" : Str) ∈ allN := by decide
theorem in_NoRow : ("NoRow" : Str) ∈ allN := by decide
theorem in_BadOthers : ("BadOthers" : Str) ∈ allN := by decide
theorem in_BadHistory : ("BadHistory" : Str) ∈ allN := by decide
theorem in_BadSizes : ("BadSizes" : Str) ∈ allN := by decide
theorem in_BadProgram : ("BadProgram" : Str) ∈ allN := by decide
theorem in_BadHandler : ("BadHandler" : Str) ∈ allN := by decide
theorem in_Mismatch : ("Mismatch" : Str) ∈ allN := by decide
theorem in_TooMany : ("TooMany" : Str) ∈ allN := by decide
theorem in_Parted : ("Parted" : Str) ∈ allN := by decide
theorem in_NoState : ("NoState" : Str) ∈ allN := by decide
theorem in_NoOperation : ("NoOperation" : Str) ∈ allN := by decide
theorem in_Apart : ("Apart" : Str) ∈ allN := by decide
theorem in_BadAnswer : ("BadAnswer" : Str) ∈ allN := by decide
theorem in_BadChoices : ("BadChoices" : Str) ∈ allN := by decide
theorem in_BadCount : ("BadCount" : Str) ∈ allN := by decide
theorem in_NoIndex : ("NoIndex" : Str) ∈ allN := by decide
theorem in_Endless : ("Endless" : Str) ∈ allN := by decide
theorem in_BadHandlers : ("BadHandlers" : Str) ∈ allN := by decide
theorem in_BadWork : ("BadWork" : Str) ∈ allN := by decide
theorem in_NoEntry : ("NoEntry" : Str) ∈ allN := by decide
theorem in_Recursive : ("Recursive" : Str) ∈ allN := by decide
theorem in_TooLong : ("TooLong" : Str) ∈ allN := by decide
theorem in_NoText : ("NoText" : Str) ∈ allN := by decide
def spKinds (K : PySem.W.Frag) : Sp := fun vs H Q _ => ∃ (a : Addr) (n : Str), vs = [.ref a] ∧ n ∈ allN ∧ ErrAt H a (He.ga K n) ∧ ∀ (H' : Hp) (l : Addr), Same H H' → H l = none → H' l = some (.lst [.bl (n == "BadOperations"), .bl (n == "BadBody"), .bl (n == "BadStart"), .bl (n == "NoRow"), .bl (n == "BadOthers"), .bl (n == "BadHistory"), .bl (n == "BadSizes"), .bl (n == "BadProgram"), .bl (n == "BadHandler"), .bl (n == "Mismatch"), .bl (n == "TooMany"), .bl (n == "Parted"), .bl (n == "NoState"), .bl (n == "NoOperation"), .bl (n == "Apart"), .bl (n == "BadAnswer"), .bl (n == "BadChoices"), .bl (n == "BadCount"), .bl (n == "NoIndex"), .bl (n == "Endless"), .bl (n == "BadHandlers"), .bl (n == "BadWork"), .bl (n == "NoEntry"), .bl (n == "Recursive"), .bl (n == "TooLong"), .bl (n == "NoText")]) → Q (.ref l) H'
section
variable {P : Program} {w : World} {K : PySem.W.Frag} {mg : Str → Option Value} {base : Heap} {f : Addr} {fd : FuncData}
theorem sc_kinds : FnScope ["_law_e", "_law_found"] ["_law_e"] (defScope s_law_kinds) := ⟨rfl, rfl, rfl, by decide +kernel, rfl, by decide +kernel, by decide +kernel⟩
theorem ok_kinds (F : FnP K "_law_kinds" s_law_kinds f fd) (T : Cl P K mg) (mIs : mg "isinstance" = none) : FnOk P w K mg base CX0 1 f fd ["_law_e"] (spKinds K) := by
  refine F.ok sc_kinds (fun vs H Q E h => ?_) (fun cdv A outer s H vs Q E hr h => ⟨_, PSs.nox (Evl.pss_cut (ps_set (i := 1) sc_kinds.nd rfl (Or.inl rfl) (pe_lst (pa_cons (pe_callB call_isErr (by rfl) mIs PyProof.Rows.boot_isinstance (pa_cons (pv 0) (pa_cons (pe_glob (v := .ref _) (by rfl) (T.g _ in_BadOperations) rfl) pa_nil))) (pa_cons (pe_callB call_isErr (by rfl) mIs PyProof.Rows.boot_isinstance (pa_cons (pv 0) (pa_cons (pe_glob (v := .ref _) (by rfl) (T.g _ in_BadBody) rfl) pa_nil))) (pa_cons (pe_callB call_isErr (by rfl) mIs PyProof.Rows.boot_isinstance (pa_cons (pv 0) (pa_cons (pe_glob (v := .ref _) (by rfl) (T.g _ in_BadStart) rfl) pa_nil))) (pa_cons (pe_callB call_isErr (by rfl) mIs PyProof.Rows.boot_isinstance (pa_cons (pv 0) (pa_cons (pe_glob (v := .ref _) (by rfl) (T.g _ in_NoRow) rfl) pa_nil))) pa_nil))))))
      (Evl.pss_cut (ps_set (i := 1) sc_kinds.nd rfl (Or.inl rfl) (pe_op op_cat (pv 1) (pe_lst (pa_cons (pe_callB call_isErr (by rfl) mIs PyProof.Rows.boot_isinstance (pa_cons (pv 0) (pa_cons (pe_glob (v := .ref _) (by rfl) (T.g _ in_BadOthers) rfl) pa_nil))) (pa_cons (pe_callB call_isErr (by rfl) mIs PyProof.Rows.boot_isinstance (pa_cons (pv 0) (pa_cons (pe_glob (v := .ref _) (by rfl) (T.g _ in_BadHistory) rfl) pa_nil))) (pa_cons (pe_callB call_isErr (by rfl) mIs PyProof.Rows.boot_isinstance (pa_cons (pv 0) (pa_cons (pe_glob (v := .ref _) (by rfl) (T.g _ in_BadSizes) rfl) pa_nil))) pa_nil))))))
      (Evl.pss_cut (ps_set (i := 1) sc_kinds.nd rfl (Or.inl rfl) (pe_op op_cat (pv 1) (pe_lst (pa_cons (pe_callB call_isErr (by rfl) mIs PyProof.Rows.boot_isinstance (pa_cons (pv 0) (pa_cons (pe_glob (v := .ref _) (by rfl) (T.g _ in_BadProgram) rfl) pa_nil))) (pa_cons (pe_callB call_isErr (by rfl) mIs PyProof.Rows.boot_isinstance (pa_cons (pv 0) (pa_cons (pe_glob (v := .ref _) (by rfl) (T.g _ in_BadHandler) rfl) pa_nil))) (pa_cons (pe_callB call_isErr (by rfl) mIs PyProof.Rows.boot_isinstance (pa_cons (pv 0) (pa_cons (pe_glob (v := .ref _) (by rfl) (T.g _ in_Mismatch) rfl) pa_nil))) pa_nil))))))
      (Evl.pss_cut (ps_set (i := 1) sc_kinds.nd rfl (Or.inl rfl) (pe_op op_cat (pv 1) (pe_lst (pa_cons (pe_callB call_isErr (by rfl) mIs PyProof.Rows.boot_isinstance (pa_cons (pv 0) (pa_cons (pe_glob (v := .ref _) (by rfl) (T.g _ in_TooMany) rfl) pa_nil))) (pa_cons (pe_callB call_isErr (by rfl) mIs PyProof.Rows.boot_isinstance (pa_cons (pv 0) (pa_cons (pe_glob (v := .ref _) (by rfl) (T.g _ in_Parted) rfl) pa_nil))) (pa_cons (pe_callB call_isErr (by rfl) mIs PyProof.Rows.boot_isinstance (pa_cons (pv 0) (pa_cons (pe_glob (v := .ref _) (by rfl) (T.g _ in_NoState) rfl) pa_nil))) pa_nil))))))
      (Evl.pss_cut (ps_set (i := 1) sc_kinds.nd rfl (Or.inl rfl) (pe_op op_cat (pv 1) (pe_lst (pa_cons (pe_callB call_isErr (by rfl) mIs PyProof.Rows.boot_isinstance (pa_cons (pv 0) (pa_cons (pe_glob (v := .ref _) (by rfl) (T.g _ in_NoOperation) rfl) pa_nil))) (pa_cons (pe_callB call_isErr (by rfl) mIs PyProof.Rows.boot_isinstance (pa_cons (pv 0) (pa_cons (pe_glob (v := .ref _) (by rfl) (T.g _ in_Apart) rfl) pa_nil))) (pa_cons (pe_callB call_isErr (by rfl) mIs PyProof.Rows.boot_isinstance (pa_cons (pv 0) (pa_cons (pe_glob (v := .ref _) (by rfl) (T.g _ in_BadAnswer) rfl) pa_nil))) pa_nil))))))
      (Evl.pss_cut (ps_set (i := 1) sc_kinds.nd rfl (Or.inl rfl) (pe_op op_cat (pv 1) (pe_lst (pa_cons (pe_callB call_isErr (by rfl) mIs PyProof.Rows.boot_isinstance (pa_cons (pv 0) (pa_cons (pe_glob (v := .ref _) (by rfl) (T.g _ in_BadChoices) rfl) pa_nil))) (pa_cons (pe_callB call_isErr (by rfl) mIs PyProof.Rows.boot_isinstance (pa_cons (pv 0) (pa_cons (pe_glob (v := .ref _) (by rfl) (T.g _ in_BadCount) rfl) pa_nil))) (pa_cons (pe_callB call_isErr (by rfl) mIs PyProof.Rows.boot_isinstance (pa_cons (pv 0) (pa_cons (pe_glob (v := .ref _) (by rfl) (T.g _ in_NoIndex) rfl) pa_nil))) pa_nil))))))
      (Evl.pss_cut (ps_set (i := 1) sc_kinds.nd rfl (Or.inl rfl) (pe_op op_cat (pv 1) (pe_lst (pa_cons (pe_callB call_isErr (by rfl) mIs PyProof.Rows.boot_isinstance (pa_cons (pv 0) (pa_cons (pe_glob (v := .ref _) (by rfl) (T.g _ in_Endless) rfl) pa_nil))) (pa_cons (pe_callB call_isErr (by rfl) mIs PyProof.Rows.boot_isinstance (pa_cons (pv 0) (pa_cons (pe_glob (v := .ref _) (by rfl) (T.g _ in_BadHandlers) rfl) pa_nil))) (pa_cons (pe_callB call_isErr (by rfl) mIs PyProof.Rows.boot_isinstance (pa_cons (pv 0) (pa_cons (pe_glob (v := .ref _) (by rfl) (T.g _ in_BadWork) rfl) pa_nil))) pa_nil))))))
      (pss_one (ps_ret (pe_op op_cat (pv 1) (pe_lst (pa_cons (pe_callB call_isErr (by rfl) mIs PyProof.Rows.boot_isinstance (pa_cons (pv 0) (pa_cons (pe_glob (v := .ref _) (by rfl) (T.g _ in_NoEntry) rfl) pa_nil))) (pa_cons (pe_callB call_isErr (by rfl) mIs PyProof.Rows.boot_isinstance (pa_cons (pv 0) (pa_cons (pe_glob (v := .ref _) (by rfl) (T.g _ in_Recursive) rfl) pa_nil))) (pa_cons (pe_callB call_isErr (by rfl) mIs PyProof.Rows.boot_isinstance (pa_cons (pv 0) (pa_cons (pe_glob (v := .ref _) (by rfl) (T.g _ in_TooLong) rfl) pa_nil))) (pa_cons (pe_callB call_isErr (by rfl) mIs PyProof.Rows.boot_isinstance (pa_cons (pv 0) (pa_cons (pe_glob (v := .ref _) (by rfl) (T.g _ in_NoText) rfl) pa_nil))) pa_nil))))))))))))))), ?_⟩)
  · obtain ⟨a, n, rfl, _⟩ := h
    rfl
  · obtain ⟨a, n, rfl, hn, hE0, k⟩ := h
    have hE := hE0
    refine ⟨fun σ' H' => ∃ l, σ' = [some (.ref a), some (.ref l)] ∧ Same H H' ∧ H l = none ∧ H' l = some (.lst [.bl (n == "BadOperations"), .bl (n == "BadBody"), .bl (n == "BadStart"), .bl (n == "NoRow")]), ?_, ?_⟩
    · refine ⟨_, rfl, a, _, _, _, _, rfl, .own _, T.i n hn, hE, T.kit n hn _ in_BadOperations, _, rfl, a, _, _, _, _, rfl, .own _, T.i n hn, hE, T.kit n hn _ in_BadBody, _, rfl, a, _, _, _, _, rfl, .own _, T.i n hn, hE, T.kit n hn _ in_BadStart, _, rfl, a, _, _, _, _, rfl, .own _, T.i n hn, hE, T.kit n hn _ in_NoRow, (by show 4 ≤ sizeLine; decide), fun l hl => ?_⟩
      exact ⟨l, rfl, same_new hl, hl, upd_same⟩
    rintro σ1 H1 ⟨l1, rfl, S1, N1, L1⟩
    replace hE := ErrAt.mono S1 hE0
    refine ⟨fun σ' H' => ∃ l, σ' = [some (.ref a), some (.ref l)] ∧ Same H H' ∧ H l = none ∧ H' l = some (.lst [.bl (n == "BadOperations"), .bl (n == "BadBody"), .bl (n == "BadStart"), .bl (n == "NoRow"), .bl (n == "BadOthers"), .bl (n == "BadHistory"), .bl (n == "BadSizes")]), ?_, ?_⟩
    · refine ⟨_, rfl, _, rfl, a, _, _, _, _, rfl, .own _, T.i n hn, hE, T.kit n hn _ in_BadOthers, _, rfl, a, _, _, _, _, rfl, .own _, T.i n hn, hE, T.kit n hn _ in_BadHistory, _, rfl, a, _, _, _, _, rfl, .own _, T.i n hn, hE, T.kit n hn _ in_BadSizes, (by show 3 ≤ sizeLine; decide), fun l hl => ⟨l1, l, _, _, rfl, rfl, (same_new hl) _ _ L1, upd_same, (by show 4 + 3 ≤ sizeLine; decide), fun l' hl' => ?_⟩⟩
      exact ⟨l', rfl, S1.trans ((same_new hl).trans (same_new hl')), S1.free ((same_new hl).free hl'), upd_same⟩
    rintro σ2 H2 ⟨l2, rfl, S2, N2, L2⟩
    replace hE := ErrAt.mono S2 hE0
    refine ⟨fun σ' H' => ∃ l, σ' = [some (.ref a), some (.ref l)] ∧ Same H H' ∧ H l = none ∧ H' l = some (.lst [.bl (n == "BadOperations"), .bl (n == "BadBody"), .bl (n == "BadStart"), .bl (n == "NoRow"), .bl (n == "BadOthers"), .bl (n == "BadHistory"), .bl (n == "BadSizes"), .bl (n == "BadProgram"), .bl (n == "BadHandler"), .bl (n == "Mismatch")]), ?_, ?_⟩
    · refine ⟨_, rfl, _, rfl, a, _, _, _, _, rfl, .own _, T.i n hn, hE, T.kit n hn _ in_BadProgram, _, rfl, a, _, _, _, _, rfl, .own _, T.i n hn, hE, T.kit n hn _ in_BadHandler, _, rfl, a, _, _, _, _, rfl, .own _, T.i n hn, hE, T.kit n hn _ in_Mismatch, (by show 3 ≤ sizeLine; decide), fun l hl => ⟨l2, l, _, _, rfl, rfl, (same_new hl) _ _ L2, upd_same, (by show 7 + 3 ≤ sizeLine; decide), fun l' hl' => ?_⟩⟩
      exact ⟨l', rfl, S2.trans ((same_new hl).trans (same_new hl')), S2.free ((same_new hl).free hl'), upd_same⟩
    rintro σ3 H3 ⟨l3, rfl, S3, N3, L3⟩
    replace hE := ErrAt.mono S3 hE0
    refine ⟨fun σ' H' => ∃ l, σ' = [some (.ref a), some (.ref l)] ∧ Same H H' ∧ H l = none ∧ H' l = some (.lst [.bl (n == "BadOperations"), .bl (n == "BadBody"), .bl (n == "BadStart"), .bl (n == "NoRow"), .bl (n == "BadOthers"), .bl (n == "BadHistory"), .bl (n == "BadSizes"), .bl (n == "BadProgram"), .bl (n == "BadHandler"), .bl (n == "Mismatch"), .bl (n == "TooMany"), .bl (n == "Parted"), .bl (n == "NoState")]), ?_, ?_⟩
    · refine ⟨_, rfl, _, rfl, a, _, _, _, _, rfl, .own _, T.i n hn, hE, T.kit n hn _ in_TooMany, _, rfl, a, _, _, _, _, rfl, .own _, T.i n hn, hE, T.kit n hn _ in_Parted, _, rfl, a, _, _, _, _, rfl, .own _, T.i n hn, hE, T.kit n hn _ in_NoState, (by show 3 ≤ sizeLine; decide), fun l hl => ⟨l3, l, _, _, rfl, rfl, (same_new hl) _ _ L3, upd_same, (by show 10 + 3 ≤ sizeLine; decide), fun l' hl' => ?_⟩⟩
      exact ⟨l', rfl, S3.trans ((same_new hl).trans (same_new hl')), S3.free ((same_new hl).free hl'), upd_same⟩
    rintro σ4 H4 ⟨l4, rfl, S4, N4, L4⟩
    replace hE := ErrAt.mono S4 hE0
    refine ⟨fun σ' H' => ∃ l, σ' = [some (.ref a), some (.ref l)] ∧ Same H H' ∧ H l = none ∧ H' l = some (.lst [.bl (n == "BadOperations"), .bl (n == "BadBody"), .bl (n == "BadStart"), .bl (n == "NoRow"), .bl (n == "BadOthers"), .bl (n == "BadHistory"), .bl (n == "BadSizes"), .bl (n == "BadProgram"), .bl (n == "BadHandler"), .bl (n == "Mismatch"), .bl (n == "TooMany"), .bl (n == "Parted"), .bl (n == "NoState"), .bl (n == "NoOperation"), .bl (n == "Apart"), .bl (n == "BadAnswer")]), ?_, ?_⟩
    · refine ⟨_, rfl, _, rfl, a, _, _, _, _, rfl, .own _, T.i n hn, hE, T.kit n hn _ in_NoOperation, _, rfl, a, _, _, _, _, rfl, .own _, T.i n hn, hE, T.kit n hn _ in_Apart, _, rfl, a, _, _, _, _, rfl, .own _, T.i n hn, hE, T.kit n hn _ in_BadAnswer, (by show 3 ≤ sizeLine; decide), fun l hl => ⟨l4, l, _, _, rfl, rfl, (same_new hl) _ _ L4, upd_same, (by show 13 + 3 ≤ sizeLine; decide), fun l' hl' => ?_⟩⟩
      exact ⟨l', rfl, S4.trans ((same_new hl).trans (same_new hl')), S4.free ((same_new hl).free hl'), upd_same⟩
    rintro σ5 H5 ⟨l5, rfl, S5, N5, L5⟩
    replace hE := ErrAt.mono S5 hE0
    refine ⟨fun σ' H' => ∃ l, σ' = [some (.ref a), some (.ref l)] ∧ Same H H' ∧ H l = none ∧ H' l = some (.lst [.bl (n == "BadOperations"), .bl (n == "BadBody"), .bl (n == "BadStart"), .bl (n == "NoRow"), .bl (n == "BadOthers"), .bl (n == "BadHistory"), .bl (n == "BadSizes"), .bl (n == "BadProgram"), .bl (n == "BadHandler"), .bl (n == "Mismatch"), .bl (n == "TooMany"), .bl (n == "Parted"), .bl (n == "NoState"), .bl (n == "NoOperation"), .bl (n == "Apart"), .bl (n == "BadAnswer"), .bl (n == "BadChoices"), .bl (n == "BadCount"), .bl (n == "NoIndex")]), ?_, ?_⟩
    · refine ⟨_, rfl, _, rfl, a, _, _, _, _, rfl, .own _, T.i n hn, hE, T.kit n hn _ in_BadChoices, _, rfl, a, _, _, _, _, rfl, .own _, T.i n hn, hE, T.kit n hn _ in_BadCount, _, rfl, a, _, _, _, _, rfl, .own _, T.i n hn, hE, T.kit n hn _ in_NoIndex, (by show 3 ≤ sizeLine; decide), fun l hl => ⟨l5, l, _, _, rfl, rfl, (same_new hl) _ _ L5, upd_same, (by show 16 + 3 ≤ sizeLine; decide), fun l' hl' => ?_⟩⟩
      exact ⟨l', rfl, S5.trans ((same_new hl).trans (same_new hl')), S5.free ((same_new hl).free hl'), upd_same⟩
    rintro σ6 H6 ⟨l6, rfl, S6, N6, L6⟩
    replace hE := ErrAt.mono S6 hE0
    refine ⟨fun σ' H' => ∃ l, σ' = [some (.ref a), some (.ref l)] ∧ Same H H' ∧ H l = none ∧ H' l = some (.lst [.bl (n == "BadOperations"), .bl (n == "BadBody"), .bl (n == "BadStart"), .bl (n == "NoRow"), .bl (n == "BadOthers"), .bl (n == "BadHistory"), .bl (n == "BadSizes"), .bl (n == "BadProgram"), .bl (n == "BadHandler"), .bl (n == "Mismatch"), .bl (n == "TooMany"), .bl (n == "Parted"), .bl (n == "NoState"), .bl (n == "NoOperation"), .bl (n == "Apart"), .bl (n == "BadAnswer"), .bl (n == "BadChoices"), .bl (n == "BadCount"), .bl (n == "NoIndex"), .bl (n == "Endless"), .bl (n == "BadHandlers"), .bl (n == "BadWork")]), ?_, ?_⟩
    · refine ⟨_, rfl, _, rfl, a, _, _, _, _, rfl, .own _, T.i n hn, hE, T.kit n hn _ in_Endless, _, rfl, a, _, _, _, _, rfl, .own _, T.i n hn, hE, T.kit n hn _ in_BadHandlers, _, rfl, a, _, _, _, _, rfl, .own _, T.i n hn, hE, T.kit n hn _ in_BadWork, (by show 3 ≤ sizeLine; decide), fun l hl => ⟨l6, l, _, _, rfl, rfl, (same_new hl) _ _ L6, upd_same, (by show 19 + 3 ≤ sizeLine; decide), fun l' hl' => ?_⟩⟩
      exact ⟨l', rfl, S6.trans ((same_new hl).trans (same_new hl')), S6.free ((same_new hl).free hl'), upd_same⟩
    rintro σ7 H7 ⟨l7, rfl, S7, N7, L7⟩
    replace hE := ErrAt.mono S7 hE0
    refine ⟨_, rfl, _, rfl, a, _, _, _, _, rfl, .own _, T.i n hn, hE, T.kit n hn _ in_NoEntry, _, rfl, a, _, _, _, _, rfl, .own _, T.i n hn, hE, T.kit n hn _ in_Recursive, _, rfl, a, _, _, _, _, rfl, .own _, T.i n hn, hE, T.kit n hn _ in_TooLong, _, rfl, a, _, _, _, _, rfl, .own _, T.i n hn, hE, T.kit n hn _ in_NoText, (by show 4 ≤ sizeLine; decide), fun l hl => ⟨l7, l, _, _, rfl, rfl, (same_new hl) _ _ L7, upd_same, (by show 22 + 4 ≤ sizeLine; decide), fun l' hl' => ?_⟩⟩
    exact k _ l' (S7.trans ((same_new hl).trans (same_new hl'))) (S7.free ((same_new hl).free hl')) upd_same
end
end K47
set_option Elab.async false
set_option linter.all false
set_option maxRecDepth 100000
set_option maxHeartbeats 4000000
namespace K47
open PySem PySem.Spec PyProof.Rows L2 PySem.ErX
/-- errors of these classes, one behind another -/
def Errs (K : PySem.W.Frag) (H : Hp) : List Addr → List Str → Prop
  | [], [] => True
  | a :: as, n :: ns => ErrAt H a (He.ga K n) ∧ Errs K H as ns
  | _, _ => False
theorem Errs.mono {K : PySem.W.Frag} {H H' : Hp} (s : Same H H') : ∀ {as : List Addr} {ns : List Str}, Errs K H as ns → Errs K H' as ns
  | [], [], _ => trivial
  | [], _ :: _, h => h.elim
  | _ :: _, [], h => h.elim
  | _ :: _, _ :: _, h => ⟨ErrAt.mono s h.1, Errs.mono s h.2⟩
theorem Errs.append {K : PySem.W.Frag} {H : Hp} : ∀ {as bs : List Addr} {ns ms : List Str}, Errs K H as ns → Errs K H bs ms → Errs K H (as ++ bs) (ns ++ ms)
  | [], _, [], _, _, h => h
  | [], _, _ :: _, _, h, _ => h.elim
  | _ :: _, _, [], _, h, _ => h.elim
  | _ :: _, _, _ :: _, _, h, h2 => ⟨h.1, Errs.append h.2 h2⟩
theorem Errs.len {K : PySem.W.Frag} {H : Hp} : ∀ {as : List Addr} {ns : List Str}, Errs K H as ns → as.length = ns.length
  | [], [], _ => rfl
  | [], _ :: _, h => h.elim
  | _ :: _, [], h => h.elim
  | _ :: as, _ :: ns, h => congrArg Nat.succ (Errs.len h.2)
theorem Errs.at {K : PySem.W.Frag} {H : Hp} : ∀ {as : List Addr} {ns : List Str} {i : Nat} {a : Addr}, Errs K H as ns → as[i]? = some a → ∃ n, ns[i]? = some n ∧ ErrAt H a (He.ga K n)
  | [], [], i, a, _, e => by simp at e
  | [], _ :: _, _, _, h, _ => h.elim
  | _ :: _, [], _, _, h, _ => h.elim
  | b :: as, n :: ns, 0, a, h, e => by
    have e' : b = a := Option.some.inj e
    subst e'
    exact ⟨n, rfl, h.1⟩
  | b :: as, n :: ns, i + 1, a, h, e => Errs.at (as := as) (ns := ns) (i := i) h.2 e
structure Mks (P : Program) (K : PySem.W.Frag) (mg : Str → Option Value) : Prop where
  xBadOperations : PySem.W.excIn K (He.ga K "BadOperations") PySem.HandSPX.veTail "ValueError.__new__" = true
  kBadOperations : PySem.W.keepIn K (.ref (He.ga K "BadOperations")) = true
  tBadBody : ErrTxt P K mg (He.ga K "BadBody") (He.ma K (He.ga K "BadBody") "__init__") "index"
  tBadStart : ErrTxt P K mg (He.ga K "BadStart") (He.ma K (He.ga K "BadStart") "__init__") "index"
  tNoRow : ErrTxt P K mg (He.ga K "NoRow") (He.ma K (He.ga K "NoRow") "__init__") "index"
  xBadOthers : PySem.W.excIn K (He.ga K "BadOthers") PySem.HandSPX.veTail "ValueError.__new__" = true
  kBadOthers : PySem.W.keepIn K (.ref (He.ga K "BadOthers")) = true
  tBadHistory : ErrTxt P K mg (He.ga K "BadHistory") (He.ma K (He.ga K "BadHistory") "__init__") "index"
  xBadSizes : PySem.W.excIn K (He.ga K "BadSizes") PySem.HandSPX.veTail "ValueError.__new__" = true
  kBadSizes : PySem.W.keepIn K (.ref (He.ga K "BadSizes")) = true
  tBadProgram : ErrTxt P K mg (He.ga K "BadProgram") (He.ma K (He.ga K "BadProgram") "__init__") "place"
  tBadHandler : ErrTxt P K mg (He.ga K "BadHandler") (He.ma K (He.ga K "BadHandler") "__init__") "part"
  tMismatch : ErrTxt P K mg (He.ga K "Mismatch") (He.ma K (He.ga K "Mismatch") "__init__") "operation"
  tTooMany : ErrTxt P K mg (He.ga K "TooMany") (He.ma K (He.ga K "TooMany") "__init__") "many"
  tParted : ErrTxt P K mg (He.ga K "Parted") (He.ma K (He.ga K "Parted") "__init__") "history"
  tNoState : ErrTxt P K mg (He.ga K "NoState") (He.ma K (He.ga K "NoState") "__init__") "state"
  tNoOperation : ErrTxt P K mg (He.ga K "NoOperation") (He.ma K (He.ga K "NoOperation") "__init__") "operation"
  tApart : ErrTxt P K mg (He.ga K "Apart") (He.ma K (He.ga K "Apart") "__init__") "asks"
  tBadAnswer : ErrTxt P K mg (He.ga K "BadAnswer") (He.ma K (He.ga K "BadAnswer") "__init__") "answer"
  tBadChoices : ErrTxt P K mg (He.ga K "BadChoices") (He.ma K (He.ga K "BadChoices") "__init__") "index"
  tBadCount : ErrTxt P K mg (He.ga K "BadCount") (He.ma K (He.ga K "BadCount") "__init__") "many"
  tNoIndex : ErrTxt P K mg (He.ga K "NoIndex") (He.ma K (He.ga K "NoIndex") "__init__") "index"
  xEndless : PySem.W.excIn K (He.ga K "Endless") PySem.HandSPX.veTail "ValueError.__new__" = true
  kEndless : PySem.W.keepIn K (.ref (He.ga K "Endless")) = true
  xBadHandlers : PySem.W.excIn K (He.ga K "BadHandlers") PySem.HandSPX.veTail "ValueError.__new__" = true
  kBadHandlers : PySem.W.keepIn K (.ref (He.ga K "BadHandlers")) = true
  tBadWork : ErrTxt P K mg (He.ga K "BadWork") (He.ma K (He.ga K "BadWork") "__init__") "place"
  xNoEntry : PySem.W.excIn K (He.ga K "NoEntry") PySem.HandSPX.veTail "ValueError.__new__" = true
  kNoEntry : PySem.W.keepIn K (.ref (He.ga K "NoEntry")) = true
  tRecursive : ErrTxt P K mg (He.ga K "Recursive") (He.ma K (He.ga K "Recursive") "__init__") "function"
  tTooLong : ErrTxt P K mg (He.ga K "TooLong") (He.ma K (He.ga K "TooLong") "__init__") "many"
  tNoText : ErrTxt P K mg (He.ga K "NoText") (He.ma K (He.ga K "NoText") "__init__") "line"
def spBy (K : PySem.W.Frag) : Sp := fun vs H Q _ => ∃ v : V, vs = [v] ∧ ∀ (H' : Hp) (l : Addr) (as : List Addr), Same H H' → H l = none → H' l = some (.lst (as.map V.ref)) → Errs K H' as allN → Q (.ref l) H'
section
variable {P : Program} {w : World} {K : PySem.W.Frag} {mg : Str → Option Value} {base : Heap} {f : Addr} {fd : FuncData}
theorem sc_by : FnScope ["_law_it", "_law_found"] ["_law_it"] (defScope s_law_by_name) := ⟨rfl, rfl, rfl, by decide +kernel, rfl, by decide +kernel, by decide +kernel⟩
theorem ok_by (F : FnP K "_law_by_name" s_law_by_name f fd) (T : Cl P K mg) (M : Mks P K mg) : FnOk P w K mg base CX0 3 f fd ["_law_it"] (spBy K) := by
  refine F.ok sc_by (fun vs H Q E h => ?_) (fun cdv A outer s H vs Q E hr h => ⟨_, PSs.nox (Evl.pss_cut (ps_set (i := 1) sc_by.nd rfl (Or.inl rfl) (pe_lst (pa_cons (pe_err0W M.xBadOperations (T.g _ in_BadOperations) M.kBadOperations (by rfl)) (pa_cons (pe_errKW M.tBadBody (T.g _ in_BadBody) hr (pk_cons (pv 0) pk_nil) (by rfl)) (pa_cons (pe_errKW M.tBadStart (T.g _ in_BadStart) hr (pk_cons (pv 0) pk_nil) (by rfl)) (pa_cons (pe_errKW M.tNoRow (T.g _ in_NoRow) hr (pk_cons (pv 0) pk_nil) (by rfl)) (pa_cons (pe_err0W M.xBadOthers (T.g _ in_BadOthers) M.kBadOthers (by rfl)) pa_nil)))))))
      (Evl.pss_cut (ps_set (i := 1) sc_by.nd rfl (Or.inl rfl) (pe_op op_cat (pv 1) (pe_lst (pa_cons (pe_errKW M.tBadHistory (T.g _ in_BadHistory) hr (pk_cons (pv 0) pk_nil) (by rfl)) (pa_cons (pe_err0W M.xBadSizes (T.g _ in_BadSizes) M.kBadSizes (by rfl)) (pa_cons (pe_errKW M.tBadProgram (T.g _ in_BadProgram) hr (pk_cons (pv 0) pk_nil) (by rfl)) (pa_cons (pe_errKW M.tBadHandler (T.g _ in_BadHandler) hr (pk_cons (pv 0) pk_nil) (by rfl)) pa_nil)))))))
      (Evl.pss_cut (ps_set (i := 1) sc_by.nd rfl (Or.inl rfl) (pe_op op_cat (pv 1) (pe_lst (pa_cons (pe_errKW M.tMismatch (T.g _ in_Mismatch) hr (pk_cons (pv 0) pk_nil) (by rfl)) (pa_cons (pe_errKW M.tTooMany (T.g _ in_TooMany) hr (pk_cons (pv 0) pk_nil) (by rfl)) (pa_cons (pe_errKW M.tParted (T.g _ in_Parted) hr (pk_cons (pv 0) pk_nil) (by rfl)) (pa_cons (pe_errKW M.tNoState (T.g _ in_NoState) hr (pk_cons (pv 0) pk_nil) (by rfl)) pa_nil)))))))
      (Evl.pss_cut (ps_set (i := 1) sc_by.nd rfl (Or.inl rfl) (pe_op op_cat (pv 1) (pe_lst (pa_cons (pe_errKW M.tNoOperation (T.g _ in_NoOperation) hr (pk_cons (pv 0) pk_nil) (by rfl)) (pa_cons (pe_errKW M.tApart (T.g _ in_Apart) hr (pk_cons (pv 0) pk_nil) (by rfl)) (pa_cons (pe_errKW M.tBadAnswer (T.g _ in_BadAnswer) hr (pk_cons (pv 0) pk_nil) (by rfl)) (pa_cons (pe_errKW M.tBadChoices (T.g _ in_BadChoices) hr (pk_cons (pv 0) pk_nil) (by rfl)) pa_nil)))))))
      (Evl.pss_cut (ps_set (i := 1) sc_by.nd rfl (Or.inl rfl) (pe_op op_cat (pv 1) (pe_lst (pa_cons (pe_errKW M.tBadCount (T.g _ in_BadCount) hr (pk_cons (pv 0) pk_nil) (by rfl)) (pa_cons (pe_errKW M.tNoIndex (T.g _ in_NoIndex) hr (pk_cons (pv 0) pk_nil) (by rfl)) (pa_cons (pe_err0W M.xEndless (T.g _ in_Endless) M.kEndless (by rfl)) (pa_cons (pe_err0W M.xBadHandlers (T.g _ in_BadHandlers) M.kBadHandlers (by rfl)) (pa_cons (pe_errKW M.tBadWork (T.g _ in_BadWork) hr (pk_cons (pv 0) pk_nil) (by rfl)) (pa_cons (pe_err0W M.xNoEntry (T.g _ in_NoEntry) M.kNoEntry (by rfl)) pa_nil)))))))))
      (pss_one (ps_ret (pe_op op_cat (pv 1) (pe_lst (pa_cons (pe_errKW M.tRecursive (T.g _ in_Recursive) hr (pk_cons (pv 0) pk_nil) (by rfl)) (pa_cons (pe_errKW M.tTooLong (T.g _ in_TooLong) hr (pk_cons (pv 0) pk_nil) (by rfl)) (pa_cons (pe_errKW M.tNoText (T.g _ in_NoText) hr (pk_cons (pv 0) pk_nil) (by rfl)) pa_nil)))))))))))), ?_⟩)
  · obtain ⟨v, rfl, _⟩ := h
    rfl
  · obtain ⟨v, rfl, k⟩ := h
    refine ⟨fun σ' H' => ∃ l as, σ' = [some v, some (.ref l)] ∧ Same H H' ∧ H l = none ∧ H' l = some (.lst (as.map V.ref)) ∧ Errs K H' as ["BadOperations", "BadBody", "BadStart", "NoRow", "BadOthers"], ?_, ?_⟩
    · refine fun G0 a0 s0 n0 e0 => ?_
      refine ⟨_, rfl, _, rfl, fun G1 a1 s1 n1 e1 => ?_⟩
      refine ⟨_, rfl, _, rfl, fun G2 a2 s2 n2 e2 => ?_⟩
      refine ⟨_, rfl, _, rfl, fun G3 a3 s3 n3 e3 => ?_⟩
      refine fun G4 a4 s4 n4 e4 => ?_
      refine ⟨(by show 5 ≤ sizeLine; decide), fun l hl => ⟨l, [a0, a1, a2, a3, a4], rfl, ((((s0.trans s1).trans s2).trans s3).trans s4).trans (same_new hl), ((((s0.trans s1).trans s2).trans s3).trans s4).free hl, upd_same, Errs.mono (same_new hl) ?_⟩⟩
      exact ⟨ErrAt.mono (((s1.trans s2).trans s3).trans s4) e0, ErrAt.mono ((s2.trans s3).trans s4) e1.at, ErrAt.mono (s3.trans s4) e2.at, ErrAt.mono s4 e3.at, e4, trivial⟩
    rintro σ1 H1 ⟨l1, as1, rfl, S1, N1, L1, A1⟩
    refine ⟨fun σ' H' => ∃ l as, σ' = [some v, some (.ref l)] ∧ Same H H' ∧ H l = none ∧ H' l = some (.lst (as.map V.ref)) ∧ Errs K H' as ["BadOperations", "BadBody", "BadStart", "NoRow", "BadOthers", "BadHistory", "BadSizes", "BadProgram", "BadHandler"], ?_, ?_⟩
    · refine ⟨_, rfl, _, rfl, _, rfl, fun G0 a0 s0 n0 e0 => ?_⟩
      refine fun G1 a1 s1 n1 e1 => ?_
      refine ⟨_, rfl, _, rfl, fun G2 a2 s2 n2 e2 => ?_⟩
      refine ⟨_, rfl, _, rfl, fun G3 a3 s3 n3 e3 => ?_⟩
      refine ⟨(by show 4 ≤ sizeLine; decide), fun l hl => ⟨l1, l, _, _, rfl, rfl, (same_new hl) _ _ ((((s0.trans s1).trans s2).trans s3) _ _ L1), upd_same, (by rw [List.length_map, A1.len]; show 5 + 4 ≤ sizeLine; decide), fun l' hl' => ?_⟩⟩
      refine ⟨l', as1 ++ [a0, a1, a2, a3], rfl, (S1.trans ((((s0.trans s1).trans s2).trans s3).trans ((same_new hl).trans (same_new hl')))), (S1.free ((((s0.trans s1).trans s2).trans s3).free ((same_new hl).free hl'))), ?_, (Errs.mono ((same_new hl).trans (same_new hl')) (Errs.append (Errs.mono (((s0.trans s1).trans s2).trans s3) A1) (show Errs K G3 [a0, a1, a2, a3] ["BadHistory", "BadSizes", "BadProgram", "BadHandler"] from ⟨ErrAt.mono ((s1.trans s2).trans s3) e0.at, ErrAt.mono (s2.trans s3) e1, ErrAt.mono s3 e2.at, e3.at, trivial⟩)))⟩
      rw [upd_same, List.map_append]
      rfl
    rintro σ2 H2 ⟨l2, as2, rfl, S2, N2, L2, A2⟩
    refine ⟨fun σ' H' => ∃ l as, σ' = [some v, some (.ref l)] ∧ Same H H' ∧ H l = none ∧ H' l = some (.lst (as.map V.ref)) ∧ Errs K H' as ["BadOperations", "BadBody", "BadStart", "NoRow", "BadOthers", "BadHistory", "BadSizes", "BadProgram", "BadHandler", "Mismatch", "TooMany", "Parted", "NoState"], ?_, ?_⟩
    · refine ⟨_, rfl, _, rfl, _, rfl, fun G0 a0 s0 n0 e0 => ?_⟩
      refine ⟨_, rfl, _, rfl, fun G1 a1 s1 n1 e1 => ?_⟩
      refine ⟨_, rfl, _, rfl, fun G2 a2 s2 n2 e2 => ?_⟩
      refine ⟨_, rfl, _, rfl, fun G3 a3 s3 n3 e3 => ?_⟩
      refine ⟨(by show 4 ≤ sizeLine; decide), fun l hl => ⟨l2, l, _, _, rfl, rfl, (same_new hl) _ _ ((((s0.trans s1).trans s2).trans s3) _ _ L2), upd_same, (by rw [List.length_map, A2.len]; show 9 + 4 ≤ sizeLine; decide), fun l' hl' => ?_⟩⟩
      refine ⟨l', as2 ++ [a0, a1, a2, a3], rfl, (S2.trans ((((s0.trans s1).trans s2).trans s3).trans ((same_new hl).trans (same_new hl')))), (S2.free ((((s0.trans s1).trans s2).trans s3).free ((same_new hl).free hl'))), ?_, (Errs.mono ((same_new hl).trans (same_new hl')) (Errs.append (Errs.mono (((s0.trans s1).trans s2).trans s3) A2) (show Errs K G3 [a0, a1, a2, a3] ["Mismatch", "TooMany", "Parted", "NoState"] from ⟨ErrAt.mono ((s1.trans s2).trans s3) e0.at, ErrAt.mono (s2.trans s3) e1.at, ErrAt.mono s3 e2.at, e3.at, trivial⟩)))⟩
      rw [upd_same, List.map_append]
      rfl
    rintro σ3 H3 ⟨l3, as3, rfl, S3, N3, L3, A3⟩
    refine ⟨fun σ' H' => ∃ l as, σ' = [some v, some (.ref l)] ∧ Same H H' ∧ H l = none ∧ H' l = some (.lst (as.map V.ref)) ∧ Errs K H' as ["BadOperations", "BadBody", "BadStart", "NoRow", "BadOthers", "BadHistory", "BadSizes", "BadProgram", "BadHandler", "Mismatch", "TooMany", "Parted", "NoState", "NoOperation", "Apart", "BadAnswer", "BadChoices"], ?_, ?_⟩
    · refine ⟨_, rfl, _, rfl, _, rfl, fun G0 a0 s0 n0 e0 => ?_⟩
      refine ⟨_, rfl, _, rfl, fun G1 a1 s1 n1 e1 => ?_⟩
      refine ⟨_, rfl, _, rfl, fun G2 a2 s2 n2 e2 => ?_⟩
      refine ⟨_, rfl, _, rfl, fun G3 a3 s3 n3 e3 => ?_⟩
      refine ⟨(by show 4 ≤ sizeLine; decide), fun l hl => ⟨l3, l, _, _, rfl, rfl, (same_new hl) _ _ ((((s0.trans s1).trans s2).trans s3) _ _ L3), upd_same, (by rw [List.length_map, A3.len]; show 13 + 4 ≤ sizeLine; decide), fun l' hl' => ?_⟩⟩
      refine ⟨l', as3 ++ [a0, a1, a2, a3], rfl, (S3.trans ((((s0.trans s1).trans s2).trans s3).trans ((same_new hl).trans (same_new hl')))), (S3.free ((((s0.trans s1).trans s2).trans s3).free ((same_new hl).free hl'))), ?_, (Errs.mono ((same_new hl).trans (same_new hl')) (Errs.append (Errs.mono (((s0.trans s1).trans s2).trans s3) A3) (show Errs K G3 [a0, a1, a2, a3] ["NoOperation", "Apart", "BadAnswer", "BadChoices"] from ⟨ErrAt.mono ((s1.trans s2).trans s3) e0.at, ErrAt.mono (s2.trans s3) e1.at, ErrAt.mono s3 e2.at, e3.at, trivial⟩)))⟩
      rw [upd_same, List.map_append]
      rfl
    rintro σ4 H4 ⟨l4, as4, rfl, S4, N4, L4, A4⟩
    refine ⟨fun σ' H' => ∃ l as, σ' = [some v, some (.ref l)] ∧ Same H H' ∧ H l = none ∧ H' l = some (.lst (as.map V.ref)) ∧ Errs K H' as ["BadOperations", "BadBody", "BadStart", "NoRow", "BadOthers", "BadHistory", "BadSizes", "BadProgram", "BadHandler", "Mismatch", "TooMany", "Parted", "NoState", "NoOperation", "Apart", "BadAnswer", "BadChoices", "BadCount", "NoIndex", "Endless", "BadHandlers", "BadWork", "NoEntry"], ?_, ?_⟩
    · refine ⟨_, rfl, _, rfl, _, rfl, fun G0 a0 s0 n0 e0 => ?_⟩
      refine ⟨_, rfl, _, rfl, fun G1 a1 s1 n1 e1 => ?_⟩
      refine fun G2 a2 s2 n2 e2 => ?_
      refine fun G3 a3 s3 n3 e3 => ?_
      refine ⟨_, rfl, _, rfl, fun G4 a4 s4 n4 e4 => ?_⟩
      refine fun G5 a5 s5 n5 e5 => ?_
      refine ⟨(by show 6 ≤ sizeLine; decide), fun l hl => ⟨l4, l, _, _, rfl, rfl, (same_new hl) _ _ ((((((s0.trans s1).trans s2).trans s3).trans s4).trans s5) _ _ L4), upd_same, (by rw [List.length_map, A4.len]; show 17 + 6 ≤ sizeLine; decide), fun l' hl' => ?_⟩⟩
      refine ⟨l', as4 ++ [a0, a1, a2, a3, a4, a5], rfl, (S4.trans ((((((s0.trans s1).trans s2).trans s3).trans s4).trans s5).trans ((same_new hl).trans (same_new hl')))), (S4.free ((((((s0.trans s1).trans s2).trans s3).trans s4).trans s5).free ((same_new hl).free hl'))), ?_, (Errs.mono ((same_new hl).trans (same_new hl')) (Errs.append (Errs.mono (((((s0.trans s1).trans s2).trans s3).trans s4).trans s5) A4) (show Errs K G5 [a0, a1, a2, a3, a4, a5] ["BadCount", "NoIndex", "Endless", "BadHandlers", "BadWork", "NoEntry"] from ⟨ErrAt.mono ((((s1.trans s2).trans s3).trans s4).trans s5) e0.at, ErrAt.mono (((s2.trans s3).trans s4).trans s5) e1.at, ErrAt.mono ((s3.trans s4).trans s5) e2, ErrAt.mono (s4.trans s5) e3, ErrAt.mono s5 e4.at, e5, trivial⟩)))⟩
      rw [upd_same, List.map_append]
      rfl
    rintro σ5 H5 ⟨l5, as5, rfl, S5, N5, L5, A5⟩
    refine ⟨_, rfl, _, rfl, _, rfl, fun G0 a0 s0 n0 e0 => ?_⟩
    refine ⟨_, rfl, _, rfl, fun G1 a1 s1 n1 e1 => ?_⟩
    refine ⟨_, rfl, _, rfl, fun G2 a2 s2 n2 e2 => ?_⟩
    refine ⟨(by show 3 ≤ sizeLine; decide), fun l hl => ⟨l5, l, _, _, rfl, rfl, (same_new hl) _ _ (((s0.trans s1).trans s2) _ _ L5), upd_same, (by rw [List.length_map, A5.len]; show 23 + 3 ≤ sizeLine; decide), fun l' hl' => ?_⟩⟩
    refine k _ l' (as5 ++ [a0, a1, a2]) (S5.trans (((s0.trans s1).trans s2).trans ((same_new hl).trans (same_new hl')))) (S5.free (((s0.trans s1).trans s2).free ((same_new hl).free hl'))) ?_ (Errs.mono ((same_new hl).trans (same_new hl')) (Errs.append (Errs.mono ((s0.trans s1).trans s2) A5) (show Errs K G2 [a0, a1, a2] ["Recursive", "TooLong", "NoText"] from ⟨ErrAt.mono (s1.trans s2) e0.at, ErrAt.mono s2 e1.at, e2.at, trivial⟩)))
    rw [upd_same, List.map_append]
    rfl
end
end K47
set_option Elab.async false
set_option linter.all false
set_option maxRecDepth 100000
set_option maxHeartbeats 4000000
namespace K47
open PySem PySem.Spec PyProof.Rows L2 PySem.ErX
def dK (n : Str) : List Bool := allN.map fun m => n == m
def eK (i k : Nat) : List Bool := (List.range k).map fun j => decide (V.int ((0 : Int) + (j : Nat)) = V.int (i : Nat))
theorem eK_succ (i k : Nat) : eK i (k + 1) = eK i k ++ [decide (V.int ((0 : Int) + (k : Nat)) = V.int (i : Nat))] := by
  unfold eK
  rw [List.range_succ, List.map_append]
  rfl
theorem eK_len (i k : Nat) : (eK i k).length = k := by
  unfold eK
  rw [List.length_map, List.length_range]
theorem dK_eK : ∀ i : Fin 26, dK (allN.getD i.1 "") = eK i.1 26 := by decide +kernel
theorem dK_is {i : Nat} {n : Str} (h : allN[i]? = some n) : dK n = eK i 26 := by
  have hi : i < 26 := (List.getElem?_eq_some_iff.mp h).1
  have e := dK_eK ⟨i, hi⟩
  have e2 : allN.getD i "" = n := by
    rw [List.getD_eq_getElem?_getD, h]
    rfl
  rw [← e, e2]
theorem dpBools {K : PySem.W.Frag} {H : Hp} : ∀ bs : List Bool, DpAll K H (bs.map V.bl) (bs.map PyData.bool)
  | [] => .nil
  | b :: bs => .cons (.bl b) (dpBools bs)
theorem cl_bools : ∀ bs : List Bool, PyData.canLayAll0 (bs.map PyData.bool) = true
  | [] => rfl
  | b :: bs => by
    show ((PyData.bool b).canLay0 && PyData.canLayAll0 (bs.map PyData.bool)) = true
    rw [cl_bools bs]
    rfl
theorem eqv_bools (bs : List Bool) : PyData.eqv (.list (bs.map PyData.bool)) (.list (bs.map PyData.bool)) = true := SeqAt.eqv_refl _ (cl_bools bs)
theorem dp_bools : ∀ bs : List Bool, PyData.depthAll (bs.map PyData.bool) ≤ 1
  | [] => by simp [PyData.depthAll]
  | b :: bs => by
    have := dp_bools bs
    simp only [List.map_cons, PyData.depthAll, PyData.depth]
    omega
theorem sh_bools (bs : List Bool) : SeqAt.shaped (.list (bs.map PyData.bool)) = true := by
  have h1 := cl_bools bs
  have h2 := dp_bools bs
  unfold SeqAt.shaped
  rw [show (PyData.list (bs.map PyData.bool)).canLay0 = PyData.canLayAll0 (bs.map PyData.bool) by simp [PyData.canLay0], h1]
  rw [Bool.true_and]
  refine decide_eq_true ?_
  simp only [PyData.depth]
  omega
theorem mem_cut {xs : List V} {lo hi : Option Int} {x : V} (h : x ∈ cutV xs lo hi) : x ∈ xs := List.mem_of_mem_drop (List.mem_of_mem_take h)
def spLaw (K : PySem.W.Frag) : Sp := fun vs H Q _ => ∃ (a : Addr) (ns : List Int), vs = [.ref a] ∧ SqL K H a (ns.map V.int) ∧ ns.length ≤ 63 ∧ ∀ H', Q (.bl true) H'
abbrev nL : List Str := ["_law_script", "_law_cell", "_law_source", "_law_turn", "_law_some", "_law_at", "_law_e", "_law_k"]
theorem sc_law : FnScope nL ["_law_script"] (defScope slaw) := ⟨rfl, rfl, rfl, by decide +kernel, rfl, by decide +kernel, by decide +kernel⟩
structure Fns (K : PySem.W.Frag) (mg : Str → Option Value) : Prop where
  int : mg "int" = none
  len : mg "len" = none
  isi : mg "isinstance" = none
  rng : mg "range" = none
  enu : mg "enumerate" = none
  ve : mg "ValueError" = none
section
variable {P : Program} {w : World} {K : PySem.W.Frag} {mg : Str → Option Value} {base : Heap} {f : Addr} {fd : FuncData} {fS fN fO fK fB : Addr} {dS dN dO dKi dB : FuncData}
theorem ok_law (F : FnP K "law" slaw f fd) (U : Fns K mg) (T : Cl P K mg) (M : Mks P K mg)
    (FS : FnP K "_law_source_of" s_law_source_of fS dS) (gS : mg "_law_source_of" = some (.ref fS)) (FN : FnP K "_law_next" s_law_next fN dN) (gN : mg "_law_next" = some (.ref fN))
    (FO : FnP K "_law_one" s_law_one fO dO) (gO : mg "_law_one" = some (.ref fO)) (FK : FnP K "_law_kinds" s_law_kinds fK dKi) (gK : mg "_law_kinds" = some (.ref fK))
    (FB : FnP K "_law_by_name" s_law_by_name fB dB) (gB : mg "_law_by_name" = some (.ref fB)) : FnOk P w K mg base CX0 5 f fd ["_law_script"] (spLaw K) := by
  have GS : FnOk P w K mg base CX0 1 fS dS ["_law_cell"] spSrc := ok_src FS U.int
  have GN : FnOk P w K mg base CX0 1 fN dN ["_law_source", "_law_size"] spNext := ok_next FN U.int
  have GO : FnOk P w K mg base CX0 2 fO dO ["_law_source", "_law_some"] (spOne K) := ok_one FO FN gN U.int U.len
  have GK : FnOk P w K mg base CX0 1 fK dKi ["_law_e"] (spKinds K) := ok_kinds FK T U.isi
  have GB : FnOk P w K mg base CX0 3 fB dB ["_law_it"] (spBy K) := ok_by FB T M
  have bS : Binds K dS ["_law_cell"] [] := FS.bindsN fun _ _ _ _ _ _ us hl => match us, hl with | [_], _ => rfl
  have bN : Binds K dN ["_law_source", "_law_size"] [] := FN.bindsN fun _ _ _ _ _ _ us hl => match us, hl with | [_, _], _ => rfl
  have bO : Binds K dO ["_law_source", "_law_some"] [] := FO.bindsN fun _ _ _ _ _ _ us hl => match us, hl with | [_, _], _ => rfl
  have bK : Binds K dKi ["_law_e"] [] := FK.bindsN fun _ _ _ _ _ _ us hl => match us, hl with | [_], _ => rfl
  have bB : Binds K dB ["_law_it"] [] := FB.bindsN fun _ _ _ _ _ _ us hl => match us, hl with | [_], _ => rfl
  refine F.ok sc_law (fun vs H Q E h => ?_) (fun cdv A outer s H vs Q E hr h => ?_)
  · obtain ⟨a, ns, rfl, _⟩ := h
    rfl
  · obtain ⟨a, ns, rfl, hS, hlen, k⟩ := h
    have h1 : Room 1 _ := hr.mono (by decide)
    have h2 : Room 2 _ := hr.mono (by decide)
    have h3 : Room 3 _ := hr.mono (by decide)
    have hu : _ + 64 < cLine := hr.units
    refine ⟨_, PSs.nox (pss_cons (ps_for PassesOwn.never rfl (pi_list (pe_op op_catW (pe_slice sl_listW (pv 0) po_none (po_some pe_int)) (pe_lstW (pa_cons pe_int pa_nil)))) (pg_name (i := 1) sc_law.nd rfl (Or.inl rfl))
      (pss_cons (ps_set (i := 2) sc_law.nd rfl (Or.inl rfl) (pe_call GS h1 (by rfl) gS FS.kp bS .nil pass0 (pa_cons (pv 1) pa_nil)))
      (pss_one (ps_for PassesOwn.never rfl (pi_range1 (by rfl) U.rng (pa_cons pe_int pa_nil)) (pg_name (i := 3) sc_law.nd rfl (Or.inl rfl))
      (Evl.pss_cut (ps_set (i := 4) sc_law.nd rfl (Or.inl rfl) (pe_lstW (pa_cons pe_non (pa_cons pe_int (pa_cons pe_str (pa_cons pe_str (pa_cons (pe_tupW pa_nil) (pa_cons (pe_tupW (pa_cons pe_int (pa_cons pe_int pa_nil))) (pa_cons (pe_lstW (pa_cons pe_int pa_nil)) (pa_cons (pe_cut (pe_disp (pps_cons pe_str pe_int pps_nil) (by rfl) (by rfl) (fun z => by cases z) (by decide))) (pa_cons pe_bl (pa_cons (pe_call GN h1 (by rfl) gN FN.kp bN .nil pass0 (pa_cons (pv 2) (pa_cons (pe_op op_pow pe_int pe_int) pa_nil))) pa_nil))))))))))))
      (pss_one (ps_for PassesOwn.never rfl (pi_enum (by rfl) U.enu (pa_cons (pe_call GB h3 (by rfl) gB FB.kp bB .nil pass0 (pa_cons (pe_call GO h2 (by rfl) gO FO.kp bO .nil pass0 (pa_cons (pv 2) (pa_cons (pv 4) pa_nil))) pa_nil)) pa_nil)) (pg_tup rfl (pgs_cons (pg_name (i := 5) sc_law.nd rfl (Or.inr rfl)) (pgs_cons (pg_name (i := 6) sc_law.nd rfl (Or.inl rfl)) pgs_nil)))
      (pss_cons (ps_if (pt_cmpR (op_neD hu) (pe_call GK h1 (by rfl) gK FK.kp bK .nil pass0 (pa_cons (pv 6) pa_nil)) (pe_lc (own := [("_law_k", 7)]) (g := gName 7) (by rfl) sc_law.nd (pi_range1 (by rfl) U.rng (pa_cons pe_int pa_nil)) (blkOk_by (own := [("_law_k", 7)]) (N := nL) (sc := defScope slaw) (by decide +kernel)) (fun _ _ _ _ _ => pg_name (i := 7) sc_law.nd rfl (Or.inl rfl)) (fun _ _ _ _ _ => pts_nil) (fun _ _ _ _ _ => (pe_cmpR op_eq (pv 7) (pv 5) (nomark _)))) (nomark _))
      (pss_one (ps_ret pe_bl))
      pss_nil)
      (pss_one (ps_if (PW.pt (pw_or (pt_not (pt_val (pe_callB call_isErr (by rfl) U.isi PyProof.Rows.boot_isinstance (pa_cons (pv 6) (pa_cons (pe_glob (v := .ref _) (by rfl) T.gA rfl) pa_nil))))) (pw_or1 (pt_not (pt_val (pe_callB call_isErr (by rfl) U.isi PyProof.Rows.boot_isinstance (pa_cons (pv 6) (pa_cons (pe_bltn (v := .ty "ValueError") (by rfl) U.ve PyProof.Rows.Boot.«ValueError» rfl) pa_nil))))))))
      (pss_one (ps_ret pe_bl))
      pss_nil))))))))))
      (pss_one (ps_ret pe_bl))), ?_⟩
    refine ⟨_, rfl, _, rfl, a, _, rfl, hS, fun H1 p1 S1 N1 L1 => ?_⟩
    refine ⟨(by show 1 ≤ sizeLine; decide), fun H2 p2 S2 N2 L2' => ?_⟩
    have z1 : (cutV (ns.map V.int) none (some 4)).length ≤ 63 := Nat.le_trans (cutV_length _ _ _) (by rw [List.length_map]; exact hlen)
    refine ⟨p1, p2, _, _, rfl, rfl, S2 _ _ L1, L2', (by rw [sizeLine_eq]; show _ + 1 ≤ _; omega), fun H3 l S3 N3 L3 => ?_⟩
    refine ⟨l, rfl, ⟨_, SqL.of L3⟩, for_list (K := K) (a := l) (xs := cutV (ns.map V.int) none (some 4) ++ [V.int 0]) (fun i σ H' => ∃ v1 v2 v3 v4 v5 v6 : Option V, σ = [some (.ref a), v1, v2, v3, v4, v5, v6, none] ∧ H' l = some (.lst (cutV (ns.map V.int) none (some 4) ++ [V.int 0])))
      ⟨none, none, none, none, none, none, rfl, L3⟩ (fun i σ H' _ ⟨_, _, _, _, _, _, _, R⟩ => SqL.of R) ?_ ?_⟩
    · rintro i y σ H' hi ⟨v1, v2, v3, v4, v5, v6, rfl, R⟩
      obtain ⟨n, rfl⟩ : ∃ n, y = V.int n := by
        rcases List.mem_append.mp (List.mem_of_getElem? hi) with h | h
        · obtain ⟨n, _, e⟩ := List.mem_map.mp (mem_cut h)
          exact ⟨n, e.symm⟩
        · exact ⟨0, List.mem_singleton.mp h⟩
      generalize cutV (ns.map V.int) none (some 4) ++ [V.int 0] = xs3 at R hi ⊢
      refine ⟨_, rfl, n, rfl, fun ps o np so => ?_⟩
      have nl : l ≠ ps := ne_of_none R np
      refine ⟨4, rfl, by decide, by decide, for_range (lo := 0) (n := 4) (fun j σ H'' => ∃ v3 v4 v5 v6 : Option V, σ = [some (.ref a), some (.int n), some (.ref ps), v3, v4, v5, v6, none] ∧ H'' l = some (.lst xs3) ∧ ∃ o, H'' ps = some o ∧ SrcO o)
        ⟨v3, v4, v5, v6, rfl, by rw [upd_ne nl]; exact R, o, upd_same, so⟩ ?_ ?_⟩
      · rintro j σ G hj ⟨w3, w4, w5, w6, rfl, GL, o1, Go, so1⟩
        refine ⟨fun σ' H' => ∃ (ls : Addr) (xs : List V), σ' = [some (.ref a), some (.int n), some (.ref ps), some (.int (0 + (j : Nat))), some (.ref ls), w5, w6, none] ∧ H' l = some (.lst xs3) ∧ (∃ o, H' ps = some o ∧ SrcO o) ∧ H' ls = some (.lst xs) ∧ xs.length = 10 ∧ ls ≠ ps, ?_, ?_⟩
        · refine ⟨(by show 0 ≤ sizeLine; decide), fun G1 q1 s1 n1 l1 => ⟨(by show 2 ≤ sizeLine; decide), fun G2 q2 s2 n2 l2 => ⟨(by show 1 ≤ sizeLine; decide), fun G3 q3 s3 n3 l3 => ?_⟩⟩⟩
          refine ⟨fun v H' => ∃ d, v = .ref d ∧ Same G3 H', fun d nd => ⟨upd_same, [(Sum.inr "x", .int 1)], rfl, by decide, d, rfl, ?_⟩, ?_⟩
          · rw [upd_upd]
            exact same_new nd
          · rintro v G4 ⟨d, rfl, s4⟩
            have sA := s1.trans (s2.trans (s3.trans s4))
            refine ⟨_, rfl, _, _, rfl, rfl, ⟨by decide, by decide, by decide⟩, ps, o1, _, rfl, sA _ _ Go, so1, (by decide), (by decide), fun o' r so' r0 r1 => ?_⟩
            refine ⟨(by show 10 ≤ sizeLine; decide), fun G5 ls s5 n5 l5 => ?_⟩
            refine ⟨ls, _, rfl, s5 _ _ (by rw [upd_ne nl]; exact sA _ _ GL), ⟨o', s5 _ _ upd_same, so'⟩, l5, rfl, fun e => ?_⟩
            rw [e, upd_same] at n5
            cases n5
        · rintro σ1 J ⟨ls, xs, rfl, JL, ⟨o2, Jo, so2⟩, Jx, hx, nls⟩
          refine ⟨_, rfl, _, rfl, ps, ls, o2, xs, rfl, Jo, so2, SqL.of Jx, by omega, by omega, fun o' => SqL.of (by rw [upd_ne nls]; exact Jx), fun o' i2 x so' hx2 => ?_⟩
          refine ⟨x, rfl, fun G6 lb as s6 n6 l6 es => ?_⟩
          have L6 : G6 l = some (.lst xs3) := s6 _ _ (by rw [upd_ne nl]; exact JL)
          have P6 : G6 ps = some o' := s6 _ _ upd_same
          refine ⟨lb, _, rfl, SqL.of l6, for_it (walk_enum (K := K) (a := lb) (xs := as.map V.ref)) (fun i σ H' => ∃ v5 v6 : Option V, σ = [some (.ref a), some (.int n), some (.ref ps), some (.int (0 + (j : Nat))), some (.ref ls), v5, v6, none] ∧ Same G6 H')
            ⟨w5, w6, rfl, Same.refl _⟩ (fun i σ H' _ ⟨_, _, _, S⟩ => SqL.of (S _ _ l6)) ?_ ?_⟩
          · rintro i3 y3 σ3 H3' H4' hi3 ⟨u5, u6, rfl, S7⟩ ⟨T0, x0, y0, rfl, nT, rfl, e0, e1⟩
            cases e0
            have S8 : Same G6 (upd H3' T0 (.tup [V.int (i3 : Nat), y0])) := S7.trans (same_new nT)
            have LT : upd H3' T0 (.tup [V.int (i3 : Nat), y0]) T0 = some (.tup [V.int (i3 : Nat), y0]) := upd_same
            generalize upd H3' T0 (.tup [V.int (i3 : Nat), y0]) = J8 at S8 LT ⊢
            obtain ⟨ea, he1, rfl⟩ : ∃ ea, as[i3]? = some ea ∧ y0 = V.ref ea := by
              replace e1 : (as.map V.ref)[i3]? = some y0 := e1
              rw [List.getElem?_map] at e1
              cases h : as[i3]? with
              | none =>
                rw [h] at e1
                cases e1
              | some ea =>
                rw [h] at e1
                exact ⟨ea, rfl, (Option.some.inj e1).symm⟩
            obtain ⟨nm, hnm, hE⟩ := es.at he1
            have hmem : nm ∈ allN := List.mem_of_getElem? hnm
            have hE8 := ErrAt.mono S8 hE
            refine ⟨T0, _, rfl, SqT.of LT, rfl, _, _, rfl, _, _, rfl, rfl, ?_⟩
            refine ⟨_, rfl, ea, nm, rfl, hmem, hE8, fun J9 lk s9 n9 l9 => ?_⟩
            refine ⟨26, rfl, by decide, by decide, fun D hD => lc_it (walk_range (lo := 0) (n := 26)) (fun k H' => Same J9 H' ∧ H' D = some (.lst ((eK i3 k).map V.bl))) ⟨same_new hD, upd_same⟩ (fun _ _ _ _ => trivial) ?_ ?_⟩
            · rintro k xk Hk Hk' hk ⟨sk, lk'⟩ ⟨rfl, rfl⟩
              refine ⟨rfl, ?_⟩
              refine ⟨_, rfl, _, rfl, rfl, _, lk', (by rw [List.length_map, eK_len, sizeLine_eq]; omega), ?_, ?_⟩
              · intro b o hb
                have nb : b ≠ D := ne_of_none hb hD
                rw [upd_ne nb]
                exact sk _ _ hb
              · rw [upd_same, eK_succ, List.map_append]
                rfl
            · rintro Hf ⟨sf, lf⟩
              refine ⟨_, _, .lst (SqL.of (sf _ _ l9)) (dpBools (dK nm)), .lst (SqL.of lf) (dpBools (eK i3 26)), ?_, ?_, _, rfl, ?_⟩
              · exact sh_bools _
              · exact sh_bools _
              · rw [dK_is hnm, eqv_bools]
                refine iteF ?_
                have hE9 := ErrAt.mono (s9.trans sf) hE8
                refine ⟨_, rfl, ea, _, _, _, _, rfl, .own _, T.i nm hmem, hE9, T.kA nm hmem, true, rfl, ?_⟩
                refine iteF ?_
                refine ⟨_, rfl, ea, _, _, _, _, rfl, .ty _, T.i nm hmem, hE9, T.kV nm hmem, true, rfl, ?_⟩
                refine iteF ?_
                exact ⟨_, _, rfl, S8.trans (s9.trans sf)⟩
          · rintro σ3 H3' ⟨u5, u6, rfl, S7⟩
            exact ⟨_, _, _, _, rfl, S7 _ _ L6, o', S7 _ _ P6, so'⟩
      · rintro σ G ⟨w3, w4, w5, w6, rfl, GL, _⟩
        exact ⟨_, _, _, _, _, _, rfl, GL⟩
    · rintro σ H' ⟨v1, v2, v3, v4, v5, v6, rfl, R⟩
      exact k _
end
end K47
set_option Elab.async false
set_option linter.all false
set_option maxRecDepth 100000
set_option maxHeartbeats 0
namespace K47
open PySem PySem.Spec PyProof.Rows L2 PySem.ErX
theorem facts {w : World} {K : PySem.W.Frag} {h : Heap} {mg : Str → Option Value} {f : Addr} (X : K.In h) (G : h.Ns mainGlobals mg) (hfa : mg ("law" : Str) = some (.ref f)) (c : AFH.SaysM R.prog.main.file fn er ex K) :
    ∃ fd : FuncData, (∀ (s : Shared) (v : Value), BindsTo s fd ⟨[v], []⟩ [("_law_script", v)]) ∧ ∀ base : Heap, K.In base → base.Ns mainGlobals mg → FnOk R.prog w K mg base CX0 5 f fd ["_law_script"] (spLaw K) := by
  obtain ⟨e0, _, _⟩ := c.bools
  obtain ⟨e1, e0⟩ := He.ba e0
  obtain ⟨e2, e0⟩ := He.ba e0
  obtain ⟨e3, e0⟩ := He.ba e0
  obtain ⟨e4, e0⟩ := He.ba e0
  obtain ⟨e5, e6⟩ := He.ba e0
  have at_ : ∀ (i : Nat) (g : He.Fa), fa[i]? = some g → g.ok K = true := fun i g hi => List.all_eq_true.mp e1 g (List.mem_of_getElem? hi)
  obtain ⟨fd0, F0⟩ := c.def_ 0 (d := d_law_source_of) rfl
  obtain ⟨fd1, F1⟩ := c.def_ 1 (d := d_law_next) rfl
  obtain ⟨fd2, F2⟩ := c.def_ 2 (d := d_law_one) rfl
  obtain ⟨fd3, F3⟩ := c.def_ 3 (d := d_law_kinds) rfl
  obtain ⟨fd4, F4⟩ := c.def_ 4 (d := d_law_by_name) rfl
  obtain ⟨fd5, F5⟩ := c.def_ 5 (d := dlaw) rfl
  have hs : mg ("super" : Str) = none := (He.free_ok X G (at_ 11 (.free "super") rfl))
  have T : Cl R.prog K mg := {
    g := fun n hn => He.glo_ok X G (List.all_eq_true.mp e2 n hn)
    i := fun n hn => AFH.errIB_ok (List.all_eq_true.mp e4 n hn)
    kit := fun n hn m hm => of_decide_eq_true (List.all_eq_true.mp (List.all_eq_true.mp e5 n hn) m hm)
    gA := (He.glo_ok X G (at_ 13 (.glo "AskError") rfl))
    kA := fun n hn => of_decide_eq_true (He.ba (List.all_eq_true.mp e6 n hn)).1
    kV := fun n hn => of_decide_eq_true (He.ba (List.all_eq_true.mp e6 n hn)).2 }
  have xo : ∀ n ∈ woN, PySem.W.excIn K (He.ga K n) PySem.HandSPX.veTail "ValueError.__new__" = true ∧ PySem.W.keepIn K (.ref (He.ga K n)) = true := fun n hn => by
    have z := He.exc_ok (List.all_eq_true.mp e3 n hn)
    exact ⟨z.1, z.2.1⟩
  have M : Mks R.prog K mg := {
    xBadOperations := (xo _ (by decide)).1
    kBadOperations := (xo _ (by decide)).2
    tBadBody := (c.err 0 tBadBody hs (by rfl) (d := eBadBody) rfl).1
    tBadStart := (c.err 1 tBadStart hs (by rfl) (d := eBadStart) rfl).1
    tNoRow := (c.err 2 tNoRow hs (by rfl) (d := eNoRow) rfl).1
    xBadOthers := (xo _ (by decide)).1
    kBadOthers := (xo _ (by decide)).2
    tBadHistory := (c.err 3 tBadHistory hs (by rfl) (d := eBadHistory) rfl).1
    xBadSizes := (xo _ (by decide)).1
    kBadSizes := (xo _ (by decide)).2
    tBadProgram := (c.err 4 tBadProgram hs (by rfl) (d := eBadProgram) rfl).1
    tBadHandler := (c.err 5 tBadHandler hs (by rfl) (d := eBadHandler) rfl).1
    tMismatch := (c.err 6 tMismatch hs (by rfl) (d := eMismatch) rfl).1
    tTooMany := (c.err 7 tTooMany hs (by rfl) (d := eTooMany) rfl).1
    tParted := (c.err 8 tParted hs (by rfl) (d := eParted) rfl).1
    tNoState := (c.err 9 tNoState hs (by rfl) (d := eNoState) rfl).1
    tNoOperation := (c.err 10 tNoOperation hs (by rfl) (d := eNoOperation) rfl).1
    tApart := (c.err 11 tApart hs (by rfl) (d := eApart) rfl).1
    tBadAnswer := (c.err 12 tBadAnswer hs (by rfl) (d := eBadAnswer) rfl).1
    tBadChoices := (c.err 13 tBadChoices hs (by rfl) (d := eBadChoices) rfl).1
    tBadCount := (c.err 14 tBadCount hs (by rfl) (d := eBadCount) rfl).1
    tNoIndex := (c.err 15 tNoIndex hs (by rfl) (d := eNoIndex) rfl).1
    xEndless := (xo _ (by decide)).1
    kEndless := (xo _ (by decide)).2
    xBadHandlers := (xo _ (by decide)).1
    kBadHandlers := (xo _ (by decide)).2
    tBadWork := (c.err 16 tBadWork hs (by rfl) (d := eBadWork) rfl).1
    xNoEntry := (xo _ (by decide)).1
    kNoEntry := (xo _ (by decide)).2
    tRecursive := (c.err 17 tRecursive hs (by rfl) (d := eRecursive) rfl).1
    tTooLong := (c.err 18 tTooLong hs (by rfl) (d := eTooLong) rfl).1
    tNoText := (c.err 19 tNoText hs (by rfl) (d := eNoText) rfl).1
  }
  have U : Fns K mg := ⟨(He.free_ok X G (at_ 7 (.free "int") rfl)), (He.free_ok X G (at_ 6 (.free "len") rfl)), (He.free_ok X G (at_ 8 (.free "isinstance") rfl)), (He.free_ok X G (at_ 9 (.free "range") rfl)), (He.free_ok X G (at_ 10 (.free "enumerate") rfl)), (He.free_ok X G (at_ 12 (.free "ValueError") rfl))⟩
  have e := hfa.symm.trans (He.glo_ok X G (at_ 5 (.glo "law") rfl))
  cases e
  have b := FunD.bindsA (ps := ["_law_script"]) F5 fun _ _ _ _ _ _ us hl => match us, hl with | [_], _ => rfl
  exact ⟨fd5, fun s v => b s [v] rfl, fun base _ _ => ok_law F5 U T M F0 (He.glo_ok X G (at_ 0 (.glo "_law_source_of") rfl)) F1 (He.glo_ok X G (at_ 1 (.glo "_law_next") rfl)) F2 (He.glo_ok X G (at_ 2 (.glo "_law_one") rfl)) F3 (He.glo_ok X G (at_ 3 (.glo "_law_kinds") rfl)) F4 (He.glo_ok X G (at_ 4 (.glo "_law_by_name") rfl))⟩
end K47
open PySem PySem.W PySem.Calls PyProof.Rows
theorem PySem.Challenge.cw_askfurther_k47_errors_made_by_names_holds : PySem.Challenge.rw_askfurther_k47_errors_made_by_names.Holds := by
  w_on; o_law
  refine HandSHeadRun.head_any (r := OpenLaw.row PySem.Challenge.rw_askfurther_k47_errors_made_by_names) (q := view (OpenLaw.row PySem.Challenge.rw_askfurther_k47_errors_made_by_names).prog [34]) (H := K47.hk) (ob := K47.ob) (M := 20000) (loose := K47.loose) (d := HandSHeadRun.topDef (OpenLaw.row PySem.Challenge.rw_askfurther_k47_errors_made_by_names).prog 34) (kwd := []) K47.ob_eq
    (by kernel_rfl) (fun s => by kernel_rfl) K47.run (by kernel_rfl) (by kernel_rfl) (by kernel_rfl) (by rfl) (by first | assumption | decide +kernel) (by decide +kernel) ⟨rfl, rfl, rfl, rfl, rfl, by decide +kernel⟩ ?hw ?hc
  case hw => w_witness2
  case hc =>
    refine L2.walk_ofE (l := PySem.Challenge.rw_askfurther_k47_errors_made_by_names) (n := 63) (k := 5) (x := "_law_script") (CX := L2.CX0) rfl (by decide) (by kernel_rfl) ⟨rfl, by decide, by decide⟩ ?F (fun _ _ _ _ z => z)
    intro w mg fa h Y G hmg0
    obtain ⟨K, KX, c⟩ := Y
    have hmg : mg ("law" : PySem.Str) = some (.ref fa) := by
      have e : (HandSHeadRun.topDef (OpenLaw.row PySem.Challenge.rw_askfurther_k47_errors_made_by_names).prog 34).name = ("law" : PySem.Str) := by kernel_rfl
      rw [← e]
      exact hmg0
    obtain ⟨fd, hb, hF⟩ := K47.facts (w := w) KX G hmg c
    exact ⟨K, fd, K47.spLaw K, KX, hb, fun H a ns hl _ hS => ⟨a, ns, rfl, hS, hl, fun _ => rfl⟩, hF⟩
