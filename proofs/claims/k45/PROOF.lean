import PyProof.Rows.All
import Wide.All
import OpenK.AllK
import Wide.FinOn
import KE.KExcSuper
import KE.KExcIs
import HandS.ForMost
import HandS.ForExc
import HandS.ExcValue
import HandS.ExcInit
import HandS.IsInst
import HandS.Evl
import HandS.Defaults
import HandS.HeadHook1
import HandS.HeadHook2
import HandS.HeadEnd
import KE.KStateDown
import HandS.Head0
import HandS.Head1
import HandS.Head2
import PySem.Challenge.RW_askfurther_k45_errors_made_by_hand
import HandS.Wide
import HandS.Walk
set_option Elab.async false
set_option linter.all false
set_option maxRecDepth 100000
set_option maxHeartbeats 4000000
/-! The package's error classes: an own __init__ that says super().__init__() and stores one field. -/
namespace PySem
namespace ErX
open PySem.W PySem.Calls PyProof.Rows PySem.HandSPX
def iA (f : Str) (p1 p2 : Pos) : Arguments := { posonlyargs := [], args := [{ arg := "self", annotation := none, pos := p1 }, { arg := f, annotation := none, pos := p2 }], vararg := none, kwonlyargs := [], kw_defaults := [], kwarg := none, defaults := [] }
def iB (f : Str) (q1 q2 q3 q4 q5 r1 r2 r3 r4 : Pos) : List Stmt :=
  [.Expr (.Call (.Attribute (.Call (.Name "super" q1) [] [] q2) "__init__" q3) [] [] q4) q5, .Assign [.Attribute (.Name "self" r1) f r2] (.Name f r3) r4]
def iS (f : Str) : Scope := { kind := .function, names := [("self", .local), (f, .local), ("__class__", .free), ("super", .globalImplicit)], isGenerator := false, isCoroutine := false, more := [] }
/-- what is asked of a field's name -/
structure Fld (f : Str) : Prop where
  s1 : (f == ("self" : Str)) = false
  s2 : (("super" : Str) == f) = false
  s3 : (("__class__" : Str) == f) = false
  s4 : (("self" : Str) == f) = false
  s5 : (f == ("__debug__" : Str)) = false
theorem beq_self (f : Str) : (f == f) = true := by simp
theorem iS_super {f : Str} (h : Fld f) : (iS f).names.lookup ("super" : Str) = some .globalImplicit := by
  show List.lookup ("super" : Str) [(("self" : Str), NameKind.local), (f, .local), ("__class__", .free), ("super", .globalImplicit)] = _
  rw [List.lookup_cons, show (("super" : Str) == ("self" : Str)) = false by decide, List.lookup_cons, h.s2, List.lookup_cons, show (("super" : Str) == ("__class__" : Str)) = false by decide, List.lookup_cons, show (("super" : Str) == ("super" : Str)) = true by decide]
theorem iS_class {f : Str} (h : Fld f) : (iS f).names.lookup ("__class__" : Str) = some .free := by
  show List.lookup ("__class__" : Str) [(("self" : Str), NameKind.local), (f, .local), ("__class__", .free), ("super", .globalImplicit)] = _
  rw [List.lookup_cons, show (("__class__" : Str) == ("self" : Str)) = false by decide, List.lookup_cons, h.s3, List.lookup_cons, show (("__class__" : Str) == ("__class__" : Str)) = true by decide]
theorem iS_self {f : Str} : (iS f).names.lookup ("self" : Str) = some .local := by
  show List.lookup ("self" : Str) [(("self" : Str), NameKind.local), (f, .local), ("__class__", .free), ("super", .globalImplicit)] = _
  rw [List.lookup_cons, show (("self" : Str) == ("self" : Str)) = true by decide]
theorem iS_f {f : Str} (h : Fld f) : (iS f).names.lookup f = some .local := by
  show List.lookup f [(("self" : Str), NameKind.local), (f, .local), ("__class__", .free), ("super", .globalImplicit)] = _
  rw [List.lookup_cons, h.s1, List.lookup_cons, beq_self]
/-- what the written part says of an error's class, at C, of its __init__, at fI, and of its field f -/
structure ErrTxt (prog : Program) (K : Frag) (mg : Str → Option Value) (C fI : Addr) (f : Str) : Prop where
  cls : ∃ nm q N bs bm sn sub ab col dd k0 k1 k2 k3 k5, K.lookup C = some (excClassObj nm q C N bs bm true sn sub ab col dd k0 k1 k2 k3 k5 "ValueError.__new__") ∧ refsVE bm = true
  sa : findIn K (.ref C) "__setattr__" = some (some (.builtin "object.__setattr__"))
  ga : findIn K (.ref C) "__getattribute__" = some (some (.builtin "BaseException.__getattribute__"))
  gg : findIn K (.ref C) "__getattr__" = some none
  noN : findIn K (.ref C) f = some none
  iC : findIn K (.ref C) "__init__" = some (some (.ref fI))
  tC : typeIn K (.ref fI) = some (.type "function")
  kC : keepIn K (.ref C) = true
  exC : subIn K (.ref C) (.type "BaseException") = some true
  veC : subIn K (.ref C) (.type "ValueError") = some true
  tyC : typeIn K (.ref C) = some (.type "type")
  hdC : hasDictIn K C = true
  supI : ks_superIn K C C "__init__" = some (some (.builtin "ValueError.__init__"))
  selfM : mroIn K C (.ref C) = some true
  noSup : mg "super" = none
  opq : nsIn K cStatics "thirdparty.any" = some none
  topS : (prog.main.scope.names.lookup ("super" : Str)).isSome = false
  fld : Fld f
  fn : ∃ (oc : Value) (od : Option Addr) (kV doc pm : Value) (an : Option Addr) (ct : Value) (osl : Array (Option Value)) (p1 p2 q1 q2 q3 q4 q5 r1 r2 r3 r4 : Pos) (qual : Str) (cc cda : Addr)
      (ccl : Value) (cdd : Option Addr) (vs : Array Value) (ccs : Array (Option Value)) (file : Str) (tf : Tok) (cl : Value) (cld : Option Addr) (csl : Array (Option Value)),
    K.lookup fI = some ⟨oc, od, .func (ksFn "__init__" qual (iA f p1 p2) (iB f q1 q2 q3 q4 q5 r1 r2 r3 r4) (iS f) .none kV doc pm an (.ref cda) ct cc), osl⟩ ∧ codeIn K (.ref cda) qual = true ∧
    K.lookup cda = some ⟨ccl, cdd, .fields vs, ccs⟩ ∧ vs[2]? = some (.str file tf) ∧ ((prog.main.file : Str) == file) = true ∧ K.lookup cc = some ⟨cl, cld, .cell (some (.ref C)), csl⟩ ∧
    (q3.endLine == q4.line) = true ∧
    (∀ (s : Shared) (x v : Value), BindsTo s (ksFn "__init__" qual (iA f p1 p2) (iB f q1 q2 q3 q4 q5 r1 r2 r3 r4) (iS f) .none kV doc pm an (.ref cda) ct cc) ⟨[x, v], []⟩ [("self", x), (f, v)]) ∧
    (∀ (s : Shared) (x v : Value), BindsTo s (ksFn "__init__" qual (iA f p1 p2) (iB f q1 q2 q3 q4 q5 r1 r2 r3 r4) (iS f) .none kV doc pm an (.ref cda) ct cc) ⟨[x], [(f, v)]⟩ [("self", x), (f, v)])

theorem mc_eq {o : Expr} {q3 q4 : Pos} {env : Env} (hl : (q3.endLine == q4.line) = true) {name : Str} :
    eval (.Call (.Attribute o name q3) [] [] q4) env = (do
      let ov ← attributeBase o name env (eval o env)
      standAt q3.atName
      let (f, first) ← holding [ov] (getMethod ov name (do return (← importBound o env).getD true))
      callWith q4 f first (backTo q4 (starEach [] env)) []) := by
  have hp : methodCallPos true o env q3 q4 = pure q4 := by
    unfold methodCallPos
    rw [hl]
    rfl
  show (do
      let ov ← attributeBase o name env (eval o env)
      standAt q3.atName
      methodCall o name q3 q4 env ov 0 (backTo q4 (starEach [] env)) (backToKw q4 (keywordEach [] env))) = _
  have mc : ∀ ov : Value, methodCall o name q3 q4 env ov 0 (backTo q4 (starEach [] env)) (backToKw q4 (keywordEach [] env)) = (do
      let (f, first) ← holding [ov] (getMethod ov name (do return (← importBound o env).getD true))
      callWith q4 f first (backTo q4 (starEach [] env)) []) := fun ov => by
    unfold methodCall
    show (do
      let (f, first) ← holding [ov] (getMethod ov name (do return (← importBound o env).getD true))
      let callPos ← methodCallPos true o env q3 q4
      callWith callPos f first (backTo q4 (starEach [] env)) []) = _
    simp only [hp, pure_bind]
  simp only [mc]
/-! ### the bound ValueError.__init__ called -/
section
variable {prog : Program} {w : World} {A : Around} {E : Value → Shared → Prop} {h : Heap} {g : Array GenState} {d : Drawn} {t : Nat} {os : OsState}
variable {nm q : Str} {C N : Addr} {bs bm : List Value} {hdct : Bool} {sn : List Str} {sub : List Value} {ab : Bool} {col : Option Bool} {dd : Option Addr} {k0 k1 k2 k3 k5 : Option Value}
theorem call_mw {u e t0 : Addr} {rest : List Value} {Q : Value → Shared → Prop}
    (hC : h.get? C = some (excClassObj nm q C N bs bm hdct sn sub ab col dd k0 k1 k2 k3 k5 "ValueError.__new__")) (he : h.get? e = some (excO C t0)) (hu : h.get? u = some (kxs_mw "ValueError.__init__" e)) (hrest : rest.length ≤ sizeLine)
    (hq : ∀ h' t1, (∀ b o, b ≠ e → h.get? b = some o → h'.get? b = some o) → h'.get? e = some (excO C t1) → Q .none ⟨h', g, d, t, os⟩) :
    wpAny (model prog w) A (call (.ref u) rest) Q E ⟨h, g, d, t, os⟩ := by
  refine wpAny_call (codeAny_of_tree ?_)
  show wpAny _ A.in1 (callAny (.ref u) ⟨rest, []⟩) _ _ _
  simp only [callAny]
  refine wpAny_bind (wpAny_load hu ?_)
  simp only [kxs_mw, show (Value.type "method-wrapper" == Value.type "method" || Value.type "method-wrapper" == Value.type "builtin_function_or_method" || Value.type "method-wrapper" == Value.type "method-wrapper") = true by decide, if_true]
  refine W.KFB.if_so (by decide) ?_
  refine wpAny_bind (check_bound_init F.excBase_ValueError.toExcCallFacts hC he rfl ?_)
  refine wpAny_bind (wpAny_pure (wpAny_pure ?_))
  refine ⟨Code.quiet_builtin _ (by decide +kernel), codeAny_builtin F.excBase_ValueError.initEntry ?_⟩
  rw [Around.under_plainId F.excBase_ValueError.init.plain _]
  wp_walk
  refine hq _ h.objs.size (fun b o hb ho => ?_) ?_
  · rw [Heap.get?_update_other _ _ (Ne.symm hb)]
    exact Heap.get?_push_of_some _ ho
  · rw [Heap.get?_update_self _ (Heap.get?_push_of_some _ he) rfl]
    rfl
end
theorem kept_but {K : Frag} {h h' : Heap} {x : Addr} (X : K.In h) (hx : K.lookup x = none) (k : ∀ b o, b ≠ x → h.get? b = some o → h'.get? b = some o) : K.In h' := fun a o e =>
  k a o (fun z => by rw [z, hx] at e; cases e) (X a o e)
/-- what __init__ leaves of a fresh exception at x -/
structure InitEnd (h h' : Heap) (x C dx t1 : Addr) (f : Str) (v : Value) : Prop where
  keep : ∀ b o, b ≠ x → h.get? b = some o → h'.get? b = some o
  obj : h'.get? x = some { cls := .ref C, dict := some dx, data := .fields #[.ref t1, .none, .none, .none, .bool false, .none] }
  dbig : h.objs.size ≤ dx
  dne : dx ≠ x
  ns : h'.Ns1 dx (fun y => if y = f then some v else none)
section
variable {prog : Program} {w : World} {A : Around} {E : Value → Shared → Prop} {R : Result → Shared → Prop} {s : Shared} {K : Frag} {mg : Str → Option Value} {C fI : Addr} {f : Str}
theorem err_init (T : ErrTxt prog K mg C fI f) {base : Heap} (Md : L2.Mod K mg base) (kb : ∀ b o, base.get? b = some o → s.heap.get? b = some o) {x t0 : Addr} {v : Value} {args : Args} (hx : s.heap.get? x = some (excO C t0)) (hnx : K.lookup x = none) (hroom : A.depth < recursionLimit)
    (ha : args = ⟨[.ref x, v], []⟩ ∨ args = ⟨[.ref x], [(f, v)]⟩)
    (hq : ∀ h' tk dx t1, InitEnd s.heap h' x C dx t1 f v → R (.ok (.ret .none)) { s with heap := h', toks := tk }) :
    codeAny (model prog w) A (.call (.ref fI) args) R s := by
  have X : K.In s.heap := Md.kin.keeps kb
  have hlim : s.heap.NoLimit := Md.nolimit.keeps kb
  obtain ⟨oc, od, kV, doc, pm, an, ct, osl, p1, p2, q1, q2, q3, q4, q5, r1, r2, r3, r4, qual, cc, cda, ccl, cdd, vs, ccs, file, tf, cl, cld, csl, ho, hcd, hcode, hvs, hfile, hcell, hln, bP, bK⟩ := T.fn
  obtain ⟨nm, q, N, bs, bm, sn, sub, ab, col, dd, k0, k1, k2, k3, k5, hC, hbm⟩ := T.cls
  have hcl : clsIn K C = some { name := nm, bases := bs, mro := .ref C :: bm, ns := N, qualname := q, hasDict := true, slotNames := sn, subclasses := sub, abstract := ab, collection := col, hasDel := false } := by unfold clsIn; rw [hC] <;> rfl
  have hbind : BindsTo s (ksFn "__init__" qual (iA f p1 p2) (iB f q1 q2 q3 q4 q5 r1 r2 r3 r4) (iS f) .none kV doc pm an (.ref cda) ct cc) args [("self", .ref x), (f, v)] := by
    rcases ha with rfl | rfl
    · exact bP _ _ _
    · exact bK _ _ _
  refine ks_codeAny_call_defAt (fd := ksFn "__init__" qual (iA f p1 p2) (iB f q1 q2 q3 q4 q5 r1 r2 r3 r4) (iS f) .none kV doc pm an (.ref cda) ct cc) (body := iB f q1 q2 q3 q4 q5 r1 r2 r3 r4) (binds := [("self", .ref x), (f, v)]) hroom (X _ _ ho) rfl hlim (codeRec_of X hcd) rfl hbind ?_ ?_ (fun h₁ hns hk₁ => ?_) rfl rfl rfl
  · intro y hy
    have hy' : y ∈ [(("self" : Str), NameKind.local), (f, .local), ("__class__", .free), ("super", .globalImplicit)] := hy
    simp only [List.mem_cons, List.not_mem_nil, or_false] at hy'
    rcases hy' with rfl | rfl | rfl | rfl <;> exact fun z => nomatch z
  · intro y hy
    simp only [List.mem_cons, List.not_mem_nil, or_false] at hy
    rcases hy with rfl | rfl
    · exact iS_self
    · exact iS_f T.fld
  · show wpAt _ _ _ (execs (iB f q1 q2 q3 q4 q5 r1 r2 r3 r4) (ksEnv qual (iS f) s.heap.objs.size fI (.ref cda) cc)) _ _ _
    have X₁ : K.In h₁ := X.keeps hk₁
    have hx₁ := hk₁ _ _ hx
    have kb₁ : ∀ b o, base.get? b = some o → h₁.get? b = some o := fun b o e => hk₁ b o (kb b o e)
    obtain ⟨mb, hmb, hbt⟩ := Md.blt
    have ls : (fun y => List.lookup y ([(("self" : Str), Value.ref x), (f, v)] : List (Str × Value)).reverse) ("self" : Str) = some (Value.ref x) := by
      show List.lookup ("self" : Str) [(f, v), (("self" : Str), Value.ref x)] = _
      rw [List.lookup_cons, T.fld.s4, List.lookup_cons, show (("self" : Str) == ("self" : Str)) = true by decide]
    have lf : (fun y => List.lookup y ([(("self" : Str), Value.ref x), (f, v)] : List (Str × Value)).reverse) f = some v := by
      show List.lookup f [(f, v), (("self" : Str), Value.ref x)] = _
      rw [List.lookup_cons, beq_self]
    have I₁ : InstAt h₁ x (excO C t0) C none := ⟨hx₁, rfl, rfl, trivial⟩
    obtain ⟨oD, hD1, hD2⟩ : ∃ oD, h₁.get? C = some oD ∧ oD.data = .cls { name := nm, bases := bs, mro := .ref C :: bm, ns := N, qualname := q, hasDict := true, slotNames := sn, subclasses := sub, abstract := ab, collection := col, hasDel := false } := ⟨_, X₁ _ _ hC, rfl⟩
    refine ks_wpAt_execs_cons (ks_wpAt_Expr_any (ks_wpAt_MethodCall ?_ (mc_eq hln)))
    refine ks_wpAt_super_base (env := ksEnv qual (iS f) s.heap.objs.size fI (.ref cda) cc) (iS_super T.fld) (iS_class T.fld) (by decide) rfl (X₁ _ _ ho) rfl rfl rfl (X₁ _ _ hcode) rfl hvs hfile T.topS ?_
    refine ks_loadName_global rfl (iS_super T.fld) (loadGlobal_builtin (env := ksEnv qual (iS f) s.heap.objs.size fI (.ref cda) cc) (Md.glob.keeps kb₁) T.noSup (hmb.keeps kb₁) ((hbt _ (by decide +kernel)).trans (show bootBuiltins "super" = some (.type "super") by exact PyProof.Rows.Boot.super)) ⟨rfl, ?_⟩)
    refine wpAny_loadName_free rfl (iS_class T.fld) rfl ⟨_, X₁ _ _ hcell, rfl⟩ ?_
    refine wpAny_loadName_local rfl iS_self hns ls ?_
    refine ks_wpAny_isType_cls hD1 hD2 ⟨rfl, ?_⟩
    refine ks_wpAny_call_super hD1 hD2 I₁.at_ I₁.cls (fun c e => nomatch e) (looks_mroIn X₁ T.selfM) (fun h₂ e₂ k₂ => ?_)
    have X₂ : K.In h₂ := X₁.keeps k₂
    have I₂ : InstAt h₂ x (excO C t0) C none := ⟨k₂ _ _ hx₁, rfl, rfl, trivial⟩
    have hsup : alongIn K "__init__" (((Value.ref C :: bm).dropWhile (· != .ref C)).drop 1) = some (some (.builtin "ValueError.__init__")) := by
      have z := T.supI
      unfold ks_superIn at z
      rw [hcl] at z
      exact z
    refine kxs_getMethod kxs_ValueError e₂ (looks_opaque X₂ T.opq) (l₀ := .ref C :: bm) ((looks_clsIn X₂ hcl).andThen .now) rfl X₂ hsup (I₂.type.andThen (looks_subIn X₂ T.veC)) (ks_ne X₂ I₂ hcl) (by decide) ?_
    have k₃ : ∀ b o, h₂.get? b = some o → (h₂.push (kxs_mw "ValueError.__init__" x)).get? b = some o := fun b o e => Heap.get?_push_of_some _ e
    have hu : (h₂.push (kxs_mw "ValueError.__init__" x)).get? h₂.objs.size = some (kxs_mw "ValueError.__init__" x) := Heap.get?_push_at rfl rfl
    refine kxs_callWith (i := "ValueError.__init__") (x := x) rfl (evalArgs_empty ⟨hu, ?_⟩)
    show wpAny _ _ (call (.ref h₂.objs.size) []) _ _ _
    refine call_mw (k₃ _ _ (k₂ _ _ (X₁ _ _ hC))) (k₃ _ _ (k₂ _ _ hx₁)) hu (Nat.zero_le _) (fun h₄ t1 k₄ e₄ => ?_)
    show wpAt _ _ _ (execs [.Assign [.Attribute (.Name "self" r1) f r2] (.Name f r3) r4] (ksEnv qual (iS f) s.heap.objs.size fI (.ref cda) cc)) _ _ _
    have kx : ∀ b o, b ≠ x → h₁.get? b = some o → h₄.get? b = some o := fun b o hb e => k₄ b o hb (k₃ _ _ (k₂ _ _ e))
    have hLx : s.heap.objs.size ≠ x := Nat.ne_of_gt (Heap.lt_size hx)
    have hns₄ : h₄.Ns s.heap.objs.size (fun y => List.lookup y ([(("self" : Str), Value.ref x), (f, v)] : List (Str × Value)).reverse) := by
      obtain ⟨o, es, ep, ho', r⟩ := hns
      exact ⟨o, es, ep, kx _ _ hLx ho', r⟩
    have X₄ : K.In h₄ := kept_but X₁ hnx kx
    refine wpAt_of_wpAny (wpAny_execs_cons (plainObj_wpAny_Assign_Attribute ?_))
    refine wpAny_Name (wpAny_loadName_local rfl (iS_f T.fld) hns₄ lf ?_) T.fld.s5
    refine wpAny_Name (wpAny_loadName_local rfl iS_self hns₄ ls ?_) (by decide)
    refine set_plain X₄ (ox := excO C t1) (od := none) ⟨e₄, rfl, rfl, trivial⟩ T.sa ?_
    refine exc_osa X₄ e₄ hcl (show refsVE (.ref C :: bm) = true from hbm) rfl T.noN (fun h₅ tk₅ dx k₅ dn dne hx₅ hn₅ => ?_)
    show wpAny _ _ (execs [] _) _ _ _
    have z : s.heap.objs.size < h₄.objs.size := hns₄.lt
    exact wpAny_execs_nil (hq h₅ tk₅ dx t1 ⟨fun b o hb e => k₅ b o hb (kx b o hb (hk₁ b o e)), hx₅, Nat.le_of_lt (Nat.lt_of_lt_of_le z dn), dne, hn₅⟩)
end
end ErX
end PySem
set_option Elab.async false
set_option linter.all false
set_option maxRecDepth 100000
set_option maxHeartbeats 4000000
namespace PySem
namespace ErX
open PySem.W PySem.Calls PyProof.Rows PySem.HandSPX
section
variable {M : Model} {A : Around} {E : Value → Shared → Prop} {h : Heap} {g : Array GenState} {d : Drawn} {t : Nat} {os : OsState}
variable {nm q : Str} {C N : Addr} {bs bm : List Value} {hdct : Bool} {sn : List Str} {sub : List Value} {ab : Bool} {col : Option Bool} {dd : Option Addr} {k0 k1 k2 k3 k5 : Option Value}
theorem check_newK (hbm : refsVE bm = true) {rest : List Value} {kw : List (Str × Value)} {Q : Unit → Shared → Prop}
    (hC : h.get? C = some (excClassObj nm q C N bs bm hdct sn sub ab col dd k0 k1 k2 k3 k5 "ValueError.__new__")) (hq : Q () ⟨h, g, d, t, os⟩) : wpAny M A (checkBuiltinCall "ValueError.__new__" ⟨.ref C :: rest, kw⟩) Q E ⟨h, g, d, t, os⟩ := by
  have F := F.excBase_ValueError
  have hcont : (Value.ref C :: bm).contains (.type "ValueError") = true := by rw [List.contains_cons, refsVE_contains _ bm hbm, F.hasB, Bool.or_true]
  have hstar := F.noStar
  simp only [checkBuiltinCall, F.newKind, F.newSplit, F.newRow]
  repeat (first | refine wpAny_loadPart_at hC ?_ | (refine wpAny_isSubtype_exc hC ?_; rw [hcont]) | refine wpAny_staticBase_exc hC ?_ | refine wpAny_madeBy_exc hC ?_ | simp only [bne_self_eq_false, Bool.false_eq_true, if_false] | wp_step)
  exact hq
end
section
variable {prog : Program} {w : World} {A : Around} {E : Value → Shared → Prop} {R : Result → Shared → Prop} {h : Heap} {g : Array GenState} {d : Drawn} {t : Nat} {os : OsState}
variable {nm q : Str} {C N : Addr} {bs bm : List Value} {hdct : Bool} {sn : List Str} {sub : List Value} {ab : Bool} {col : Option Bool} {dd : Option Addr} {k0 k1 k2 k3 k5 : Option Value}
theorem newK (hbm : refsVE bm = true) {rest : List Value} {kw : List (Str × Value)}
    (hC : h.get? C = some (excClassObj nm q C N bs bm hdct sn sub ab col dd k0 k1 k2 k3 k5 "ValueError.__new__"))
    (hq : R (.ok (.ret (.ref (h.objs.size + 1)))) ⟨(h.push { cls := .type "tuple", data := .seq rest.toArray }).push
      { cls := .ref C, data := .fields #[.ref h.objs.size, .none, .none, .none, .bool false, .none] }, g, d, t, os⟩) (hrest : rest.length ≤ sizeLine) :
    codeAny (model prog w) A (.builtin "ValueError.__new__" ⟨.ref C :: rest, kw⟩) R ⟨h, g, d, t, os⟩ := by
  have F := F.excBase_ValueError
  have hT := fun X => refsVE_contains X bm hbm
  have hends := F.ends
  have hcB : (Value.ref C :: bm).contains (.type "ValueError") = true := by rw [List.contains_cons, hT, F.hasB, Bool.or_true]
  have hcA : (Value.ref C :: bm).contains (.type "AttributeError") = false := by rw [List.contains_cons, hT, F.noAttr]; rfl
  have hcN : (Value.ref C :: bm).contains (.type "NameError") = false := by rw [List.contains_cons, hT, F.noName]; rfl
  refine codeAny_builtinAt F.entry ?_
  unfold Builtin.«BaseException.__new__»
  refine wpAt_bind ?_
  show wpAt _ _ _ (stack >>= _) _ _ _
  refine wpAt_bind (wpAt_stack fun p below => wpAt_of_wpAny ?_)
  wp_walk
  refine wpAt_of_wpAny ?_
  rw [F.owner]
  repeat (first | with_reducible refine wpAny_madeHere_exc F.canon hC ?_ | with_reducible refine wpAny_loadPart_at hC ?_ | (with_reducible refine wpAny_isSubtype_exc hC ?_; first | rw [hcB] | rw [hcA] | rw [hcN]) | wp_step)
  show R _ _
  rw [Heap.size_push]
  exact hq
theorem type_callK (hbm : refsVE bm = true) {rest : List Value} {kw : List (Str × Value)} {fI : Addr} {Q : Fin → Shared → Prop}
    (hC : h.get? C = some (excClassObj nm q C N bs bm hdct sn sub ab col dd k0 k1 k2 k3 k5 "ValueError.__new__"))
    (hi : W.Looks (model prog w) h (typeLookup (.ref C) "__init__") (some (.ref fI))) (hb : ∀ self, W.Looks (model prog w) h (bindSpecial (.ref fI) self) (.ref fI, [self])) (hrest : rest.length ≤ sizeLine)
    (hq : codeAny (model prog w) A (.call (.ref fI) ⟨.ref (h.objs.size + 1) :: rest, kw⟩)
      (fun r s' => match r with | .ok (.ret v) => v = .none ∧ Q (.done (.ret (.ref (h.objs.size + 1)))) s' | .ok _ => False | .error e => E e s')
      ⟨(h.push (W.kdv_tup rest)).push (excO C h.objs.size), g, d, t, os⟩) :
    wpAny (model prog w) A (Builtin.«type.__call__» ⟨.ref C :: rest, kw⟩) Q E ⟨h, g, d, t, os⟩ := by
  have F := F.excBase_ValueError
  repeat (first | with_reducible refine wpAny_loadPart_at hC ?_ | with_reducible refine wpAny_madeBy_exc hC ?_ | wp_step)
  refine codeAny_call_builtin_code (Code.quiet_builtin _ F.quiet) (check_newK hbm hC ?_)
  refine newK hbm hC ?_ hrest
  show wpAny _ _ _ _ _ _
  have k : ∀ b o, h.get? b = some o → ((h.push (W.kdv_tup rest)).push (excO C h.objs.size)).get? b = some o := fun b o e => Heap.get?_push_of_some _ (Heap.get?_push_of_some _ e)
  have hC₁ := k _ _ hC
  have hget : ((h.push (W.kdv_tup rest)).push (excO C h.objs.size)).get? (h.objs.size + 1) = some (excO C h.objs.size) := by heap_get
  have hcC : (Value.ref C :: bm).contains (.ref C) = true := by simp
  have i1 := hi.keeps k
  have b1 := (hb (.ref (h.objs.size + 1))).keeps k
  unfold isInstance
  repeat (first | with_reducible refine wpAny_loadPart_at hget ?_ | (with_reducible refine wpAny_isSubtype_exc hC₁ ?_; rw [hcC]) | wp_step)
  show wpAny _ _ (typeLookup (.ref C) _) _ _ _
  refine i1.at ?_
  refine wpAny_holding (wpAny_bind (b1.at ?_))
  refine wpAny_bind (wpAny_call (codeAny_mono hq fun r s' z => ?_))
  rcases r with e | (v | _ | _ | _) <;> first | exact z | exact z.elim | skip
  obtain ⟨rfl, z⟩ := z
  first
    | exact wpAny_pure (wpAny_pure z)
    | (wp_walk; exact z)
theorem callK (hbm : refsVE bm = true) {rest : List Value} {kw : List (Str × Value)} {fI : Addr}
    (hC : h.get? C = some (excClassObj nm q C N bs bm hdct sn sub ab col dd k0 k1 k2 k3 k5 "ValueError.__new__"))
    (hi : W.Looks (model prog w) h (typeLookup (.ref C) "__init__") (some (.ref fI))) (hb : ∀ self, W.Looks (model prog w) h (bindSpecial (.ref fI) self) (.ref fI, [self])) (hrest : rest.length ≤ sizeLine)
    (hq : codeAny (model prog w) (A.under (.builtin "type.__call__" ⟨.ref C :: rest, kw⟩)) (.call (.ref fI) ⟨.ref (h.objs.size + 1) :: rest, kw⟩) (W.InitBack (h.objs.size + 1) R)
      ⟨(h.push (W.kdv_tup rest)).push (excO C h.objs.size), g, d, t, os⟩) :
    codeAny (model prog w) A (.call (.ref C) ⟨rest, kw⟩) R ⟨h, g, d, t, os⟩ := by
  have f1 := tc_lookup
  have f2 := tc_bind (.ref C)
  have hTy : (⟨h, g, d, t, os⟩ : Shared).TypeIs (.ref C) "type" := ⟨_, hC, rfl⟩
  refine codeAny_of_tree ?_
  show wpAny _ _ (callAny (.ref C) _) _ _ _
  repeat (any_goals (first | assumption | with_reducible refine wpAny_loadPart_at hC ?_ | wp_step))
  refine ⟨rfl, ?_⟩
  refine codeAny_call_builtin_at (Code.quiet_builtin _ (by decide +kernel)) entry_typeCall (wpAny_check_type_call_sub hC (type_callK hbm hC hi hb hrest ?_))
  refine codeAny_mono hq fun r s' z => ?_
  rcases r with e | (v | _ | _ | _) <;> exact z
end
end ErX
end PySem
set_option Elab.async false
set_option linter.all false
set_option maxRecDepth 100000
set_option maxHeartbeats 4000000
namespace PySem
namespace ErX
open PySem.W PySem.Calls PyProof.Rows PySem.HandSPX
/-- a made error -/
structure Made (h h' : Heap) (e C d : Addr) (f : Str) (v : Value) : Prop where
  keep : ∀ b o, h.get? b = some o → h'.get? b = some o
  new : h.objs.size ≤ e
  obj : ∃ t1 : Addr, h'.get? e = some { cls := .ref C, dict := some d, data := .fields #[.ref t1, .none, .none, .none, .bool false, .none] }
  dbig : h.objs.size ≤ d
  dne : d ≠ e
  ns : h'.Ns1 d (fun y => if y = f then some v else none)
section
variable {prog : Program} {w : World} {A : Around} {E : Value → Shared → Prop} {R : Result → Shared → Prop} {s : Shared} {K : Frag} {mg : Str → Option Value} {C fI : Addr} {f : Str}
theorem err_made (T : ErrTxt prog K mg C fI f) {base : Heap} (Md : L2.Mod K mg base) (kb : ∀ b o, base.get? b = some o → s.heap.get? b = some o) {v : Value} {rest : List Value} {kw : List (Str × Value)}
    (ha : (rest = [v] ∧ kw = []) ∨ (rest = [] ∧ kw = [(f, v)])) (hroom : A.depth + 1 < recursionLimit)
    (hq : ∀ h' tk e d, Made s.heap h' e C d f v → R (.ok (.ret (.ref e))) { s with heap := h', toks := tk }) :
    codeAny (model prog w) A (.call (.ref C) ⟨rest, kw⟩) R s := by
  have X : K.In s.heap := Md.kin.keeps kb
  obtain ⟨nm, q, N, bs, bm, sn, sub, ab, col, dd, k0, k1, k2, k3, k5, hC, hbm⟩ := T.cls
  have hlen : rest.length ≤ sizeLine := by
    rw [sizeLine_eq]
    rcases ha with ⟨rfl, _⟩ | ⟨rfl, _⟩
    · show 1 ≤ 16777216; decide
    · show 0 ≤ 16777216; decide
  obtain ⟨hp, g, dr, tk, os⟩ := s
  have k : ∀ b o, hp.get? b = some o → ((hp.push (kdv_tup rest)).push (excO C hp.objs.size)).get? b = some o := fun b o e => Heap.get?_push_of_some _ (Heap.get?_push_of_some _ e)
  have hget : ((hp.push (kdv_tup rest)).push (excO C hp.objs.size)).get? (hp.objs.size + 1) = some (excO C hp.objs.size) := by heap_get
  have hnx : K.lookup (hp.objs.size + 1) = none := by
    cases e : K.lookup (hp.objs.size + 1) with
    | none => rfl
    | some o =>
      have z : hp.get? (hp.objs.size + 1) = some o := X _ _ e
      exact absurd (Nat.lt_of_succ_lt (Heap.lt_size z)) (Nat.lt_irrefl _)
  refine callK hbm (X _ _ hC) (looks_findIn X T.iC) (fun self => bind_fn X self T.tC) hlen ?_
  refine err_init (s := ⟨(hp.push (kdv_tup rest)).push (excO C hp.objs.size), g, dr, tk, os⟩) T Md (fun b o e => k b o (kb b o e)) hget hnx ?_ (v := v) ?_ fun h' tk' dx t1 ⟨k', hx, dn, dne, hns⟩ => ?_
  · show A.depth + 1 < recursionLimit
    exact hroom
  · rcases ha with ⟨rfl, rfl⟩ | ⟨rfl, rfl⟩
    · exact .inl rfl
    · exact .inr rfl
  · have old : ∀ b o, hp.get? b = some o → h'.get? b = some o := fun b o e => k' b o (Nat.ne_of_lt (Nat.lt_succ_of_lt (Heap.lt_size e))) (k b o e)
    have z : hp.objs.size + 1 + 1 ≤ dx := by
      have q := dn
      simp only [Heap.size_push] at q
      exact q
    exact ⟨rfl, hq h' tk' (hp.objs.size + 1) dx ⟨old, Nat.le_succ _, ⟨_, hx⟩, Nat.le_trans (Nat.le_trans (Nat.le_succ _) (Nat.le_succ _)) z, dne, hns⟩⟩
end
end ErX
end PySem
namespace L2
open PySem PySem.Spec PyProof.Rows PySem.ErX
theorem relO_one {f : Str} {v : V} {v' : Value} (r : RelV v v') (g : Str) : RelO (List.lookup g [(f, v)]) (if g = f then some v' else none) := relO_put (fs := []) (mA := fun _ => none) r (fun _ => True.intro) g
section
variable {X : Cx} {C fI : Addr} {f : Str}
/-- the state behind the making of an error, read as a held value -/
theorem made_inv {pins : List (Addr × Obj)} {σ : St} {H1 : Hp} {s1 : Shared} {h' : Heap} {tk' : Nat} {e d : Addr} {v : V} {v' : Value} (I1 : Inv X pins σ H1 s1) (rv : RelV v v') (M : Made s1.heap h' e C d f v') :
    H1 e = none ∧ H1 d = none ∧ d ≠ e ∧ Inv X pins σ (upd (upd H1 d (exd d [(f, v)])) e (exo e C (some d))) { s1 with heap := h', toks := tk' } := by
  obtain ⟨t1, hoe⟩ := M.obj
  have hns := M.ns
  obtain ⟨G', g1, g2⟩ := restrict h' fun b => decide (b ≠ e)
  have gk : ∀ b, b ≠ e → G'.get? b = h'.get? b := fun b hb => g1 b (decide_eq_true hb)
  have ge : G'.get? e = none := g2 e (by simp)
  have old : ∀ b o, s1.heap.get? b = some o → G'.get? b = some o := fun b o q => (gk b (Nat.ne_of_lt (Nat.lt_of_lt_of_le (Heap.lt_size q) M.new))).trans (M.keep b o q)
  have ob : ObjOk X.prog X.w (upd H1 d (exd d [(f, v)])) G' d (exd d [(f, v)]) := exd_ok (hns.at (fun o q => (gk d M.dne).trans q)) fun g => relO_one rv g
  have J : Inv X pins σ (upd H1 d (exd d [(f, v)])) { s1 with heap := G', toks := tk' } := I1.laid (t' := tk') old M.dbig ob
  have he : H1 e = none := I1.hok.fresh M.new
  have hd : H1 d = none := I1.hok.fresh M.dbig
  refine ⟨he, hd, M.dne, ?_⟩
  refine J.laidN (h' := h') (t' := tk') (fun b u q => ?_) ge (by rw [upd_ne (Ne.symm M.dne)]; exact he) (exo_ok hoe)
  by_cases hb : b = e
  · have q' : G'.get? b = some u := q
    rw [hb, ge] at q'
    cases q'
  · exact (gk b hb).symm.trans q
/-- C(e): a new error as a value -/
def tErr (C : Addr) (f : Str) (ta : TA) : TE := fun σ H Q => ta σ H fun vs H1 => ∃ v, vs = [v] ∧ ∀ a d, H1 a = none → H1 d = none → d ≠ a → Q (.ref a) (upd (upd H1 d (exd d [(f, v)])) a (exo a C (some d)))
theorem pe_err {x : Str} {a : Expr} {ta : TA} {p pos : Pos} {k : Nat} (T : ErrTxt X.prog X.K X.mg C fI f) (gC : X.mg x = some (.ref C)) (hr : Room k X.A) (ha : PA X [a] ta) (hg : Gl X x := by rfl)
    (hdb : (x == ("__debug__" : Str)) = false := by decide) (he : starEach (a :: []) X.env = (false, eval a X.env) :: starEach [] X.env := by rfl) (hpl : (backTo pos (starEach [] X.env)).any (·.1) = false := by rfl) :
    PE X (.Call (.Name x p) [a] [] pos) (tErr C f ta) := by
  refine ⟨fun pins s σ H Q I h => ?_⟩
  refine wpAny_Call_Name_kw (ld_glob I hg gC ?_ hdb)
  refine PySem.W.callWith_K (h₀ := X.base) I.ok.mod.kin T.kC (thn (ha.run pos pins s σ H _ I h) fun us s1 hh => ?_) he hpl
  obtain ⟨vs, H1, I1, r1, v, ev, q1⟩ := hh
  subst ev
  refine ⟨I1.kIn, ?_⟩
  cases r1 with
  | cons rv rn =>
    rename_i v' us'
    cases rn
    refine wpAny_call (err_made T I1.ok.mod I1.bk (v := v') (.inl ⟨rfl, rfl⟩) (by have := hr.dp; omega) fun h' tk' e d M => ?_)
    obtain ⟨h1, h2, h3, J⟩ := made_inv (tk' := tk') I1 rv M
    exact ⟨.ref e, _, J, rfl, q1 e d h1 h2 h3⟩
/-- C(f = e): the same by the field's name -/
theorem pe_errK {x : Str} {kws : List Keyword} {tk : TA} {p pos : Pos} {k : Nat} (T : ErrTxt X.prog X.K X.mg C fI f) (gC : X.mg x = some (.ref C)) (hr : Room k X.A) (hkw : PK X kws tk) (hg : Gl X x := by rfl)
    (hdb : (x == ("__debug__" : Str)) = false := by decide) (hall : (backToKw pos (keywordEach kws X.env)).all (·.1.isSome) = true := by rfl) (hks : (backToKw pos (keywordEach kws X.env)).filterMap (·.1) = [f] := by rfl)
    (hpl : ((backTo pos (starEach [] X.env)).any (·.1) || (backToKw pos (keywordEach kws X.env)).any (·.1.isNone)) = false := by rfl) :
    PE X (.Call (.Name x p) [] kws pos) (tErr C f tk) := by
  refine ⟨fun pins s σ H Q I h => ?_⟩
  refine wpAny_Call_Name_kw (ld_glob I hg gC ?_ hdb)
  refine PySem.W.callWith_KW0 (h₀ := X.base) I.ok.mod.kin T.kC hall ?_ hpl
  refine thn (hkw.run pos pins s σ H _ I h) fun ws s1 ⟨vs, H1, I1, r1, v, ev, q1⟩ => ⟨I1.kIn, ?_⟩
  rw [hks]
  subst ev
  obtain ⟨v', rfl, rv⟩ := vals1 r1
  · refine wpAny_call (err_made T I1.ok.mod I1.bk (v := v') (.inr ⟨rfl, rfl⟩) (by have := hr.dp; omega) fun h' tk' e d M => ?_)
    obtain ⟨h1, h2, h3, J⟩ := made_inv (tk' := tk') I1 rv M
    exact ⟨.ref e, _, J, rfl, q1 e d h1 h2 h3⟩
/-- C() of a class without an own __init__ -/
def tErr0 (C : Addr) : TE := fun _ H Q => ∀ a, H a = none → Q (.ref a) (upd H a (exo a C none))
theorem pe_err0 {x : Str} {p pos : Pos} (q : PySem.W.excIn X.K C PySem.HandSPX.veTail "ValueError.__new__" = true) (gC : X.mg x = some (.ref C)) (kC : PySem.W.keepIn X.K (.ref C) = true) (hg : Gl X x := by rfl)
    (hdb : (x == ("__debug__" : Str)) = false := by decide) : PE X (.Call (.Name x p) [] [] pos) (tErr0 C) := by
  refine ⟨fun pins s σ H Q I h => ?_⟩
  refine wpAny_Call_Name_kw (ld_glob I hg gC ?_ hdb)
  refine PySem.W.callWith_K0 I.kIn kC ?_
  obtain ⟨bm, N, nm, qn, bs, hdct, sn, sub, ab, col, dd, k0, k1, k2, k3, k5, mN, hC, hN, hni, T⟩ := exc_obj I.kIn q
  refine wpAny_call_exc_subT F.excBase_ValueError T hC hN hni (fun h' a hm => ?_) (Nat.zero_le _)
  have hn : H a = none := I.hok.gone hm.new
  obtain ⟨t, ht, _, _⟩ := hm.there
  exact ⟨.ref a, upd H a (exo a C none), I.laidN hm.keeps hm.new hn (exo_ok ht), rfl, h a hn⟩
end
end L2
set_option Elab.async false
set_option linter.all false
set_option maxRecDepth 100000
set_option maxHeartbeats 4000000
namespace L2
open PySem PySem.Spec PyProof.Rows PySem.ErX
/-- what isinstance asks of an error's class -/
structure ErrI (K : PySem.W.Frag) (C : Addr) : Prop where
  hcl : (PySem.W.clsIn K C).isSome = true
  ga : PySem.W.findIn K (.ref C) "__getattribute__" = some (some (.builtin "BaseException.__getattribute__"))
  gg : PySem.W.findIn K (.ref C) "__getattr__" = some none
  ex : PySem.W.subIn K (.ref C) (.type "BaseException") = some true
  cl : PySem.W.findIn K (.ref C) "__class__" = some (some (.builtin "object.__class__"))
  hn : PySem.W.specialIn K (.builtin "object.__class__") "__get__" = some (some (.builtin "getset_descriptor.__get__"))
  tk : PySem.W.takesIn K (.builtin "object.__class__") = some true
  hm : PySem.W.mroIn K C (.type "object") = some true
/-- a held error of the class at C, at a -/
def ErrAt (H : Hp) (a C : Addr) : Prop := H a = some (exo a C none) ∨ ∃ d fs, H a = some (exo a C (some d)) ∧ H d = some (exd d fs)
def rIsErr (K : PySem.W.Frag) : List V → Hp → VK → Prop := fun xs H Q => ∃ (a C : Addr) (c : V) (u : Value) (b : Bool), xs = [.ref a, c] ∧ ClsV c u ∧ ErrI K C ∧ ErrAt H a C ∧ PySem.W.kitOne K (.ref C) u = some b ∧ Q (.bl b) H
theorem call_isErr {X : Cx} : CallR X (.builtin "isinstance") (rIsErr X.K) := by
  intro pins s σ H xs us Q I r h
  obtain ⟨a, C, c, u, b, rfl, k, T, hE, e, q⟩ := h
  obtain ⟨u1, u2, rfl, r1, r2⟩ := vals2 r
  have e2 := k.eq r2
  subst e2
  obtain rfl : u1 = Value.ref a := r1
  rcases hE with ha | ⟨d, fs, ha, hd⟩
  · obtain ⟨t1, ho⟩ := exo_at I.hok ha
    exact PySem.W.kia_one (PySem.W.kitx_exc (od := none) T.hcl T.ga T.gg T.ex T.cl T.hn T.tk T.hm) I.kIn (show PySem.W.InstAt s.heap a _ C none from ⟨ho, rfl, rfl, trivial⟩) e (fun z => nomatch z) fun tk => ⟨.bl b, H, I.tok tk, rfl, q⟩
  · obtain ⟨t1, ho⟩ := exo_at I.hok ha
    obtain ⟨mA, ⟨oD, es, ep, hoD, _⟩, _⟩ := exd_at I.hok hd
    exact PySem.W.kia_one (PySem.W.kitx_exc (od := some oD) T.hcl T.ga T.gg T.ex T.cl T.hn T.tk T.hm) I.kIn (show PySem.W.InstAt s.heap a _ C (some oD) from ⟨ho, rfl, rfl, hoD⟩) e (fun z => nomatch z) fun tk => ⟨.bl b, H, I.tok tk, rfl, q⟩
theorem same_new {H : Hp} {p : Addr} {o : HO} (h : H p = none) : Same H (upd H p o) := fun b u e => by
  rw [upd_ne (ne_of_none e h)]
  exact e
theorem ErrAt.mono {H H' : Hp} {a C : Addr} (s : Same H H') (h : ErrAt H a C) : ErrAt H' a C := by
  rcases h with h | ⟨d, fs, h1, h2⟩
  · exact .inl (s _ _ h)
  · exact .inr ⟨d, fs, s _ _ h1, s _ _ h2⟩
/-- a held error whose field f holds v -/
def ErrF (H : Hp) (a C : Addr) (f : Str) (v : V) : Prop := ∃ d, H a = some (exo a C (some d)) ∧ H d = some (exd d [(f, v)])
theorem ErrF.mono {H H' : Hp} {a C : Addr} {f : Str} {v : V} (s : Same H H') (h : ErrF H a C f v) : ErrF H' a C f v := by
  obtain ⟨d, h1, h2⟩ := h
  exact ⟨d, s _ _ h1, s _ _ h2⟩
theorem ErrF.at {H : Hp} {a C : Addr} {f : Str} {v : V} (h : ErrF H a C f v) : ErrAt H a C := by
  obtain ⟨d, h1, h2⟩ := h
  exact .inr ⟨d, _, h1, h2⟩
/-- C(e), told by what stands behind it -/
def tErrW (C : Addr) (f : Str) (ta : TA) : TE := fun σ H Q => ta σ H fun vs H1 => ∃ v, vs = [v] ∧ ∀ (H' : Hp) (a : Addr), Same H1 H' → H1 a = none → ErrF H' a C f v → Q (.ref a) H'
def tErr0W (C : Addr) : TE := fun _ H Q => ∀ (H' : Hp) (a : Addr), Same H H' → H a = none → ErrAt H' a C → Q (.ref a) H'
theorem errW {H1 : Hp} {C : Addr} {f : Str} {v : V} {Q : VK} (k : ∀ (H' : Hp) (a : Addr), Same H1 H' → H1 a = none → ErrF H' a C f v → Q (.ref a) H') (a d : Addr) (ha : H1 a = none) (hd : H1 d = none) (hne : d ≠ a) :
    Q (.ref a) (upd (upd H1 d (exd d [(f, v)])) a (exo a C (some d))) := by
  have ha' : upd H1 d (exd d [(f, v)]) a = none := by rw [upd_ne (Ne.symm hne)]; exact ha
  exact k _ a ((same_new hd).trans (same_new ha')) ha ⟨d, upd_same, by rw [upd_ne hne]; exact upd_same⟩
section
variable {X : Cx} {C fI : Addr} {f : Str}
theorem pe_errW {x : Str} {a : Expr} {ta : TA} {p pos : Pos} {k : Nat} (T : ErrTxt X.prog X.K X.mg C fI f) (gC : X.mg x = some (.ref C)) (hr : Room k X.A) (ha : PA X [a] ta) (hg : Gl X x := by rfl)
    (hdb : (x == ("__debug__" : Str)) = false := by decide) (he : starEach (a :: []) X.env = (false, eval a X.env) :: starEach [] X.env := by rfl) (hpl : (backTo pos (starEach [] X.env)).any (·.1) = false := by rfl) :
    PE X (.Call (.Name x p) [a] [] pos) (tErrW C f ta) := by
  refine ⟨fun pins s σ H Q I h => ?_⟩
  refine wpAny_Call_Name_kw (ld_glob I hg gC ?_ hdb)
  refine PySem.W.callWith_K (h₀ := X.base) I.ok.mod.kin T.kC (thn (ha.run pos pins s σ H _ I h) fun us s1 hh => ?_) he hpl
  obtain ⟨vs, H1, I1, r1, v, ev, q1⟩ := hh
  subst ev
  refine ⟨I1.kIn, ?_⟩
  obtain ⟨v', rfl, rv⟩ := vals1 r1
  refine wpAny_call (err_made T I1.ok.mod I1.bk (v := v') (.inl ⟨rfl, rfl⟩) (by have := hr.dp; omega) fun h' tk' e d M => ?_)
  obtain ⟨h1, h2, h3, J⟩ := made_inv (tk' := tk') I1 rv M
  exact ⟨.ref e, _, J, rfl, errW q1 e d h1 h2 h3⟩
theorem pe_errKW {x : Str} {kws : List Keyword} {tk : TA} {p pos : Pos} {k : Nat} (T : ErrTxt X.prog X.K X.mg C fI f) (gC : X.mg x = some (.ref C)) (hr : Room k X.A) (hkw : PK X kws tk) (hg : Gl X x := by rfl)
    (hdb : (x == ("__debug__" : Str)) = false := by decide) (hall : (backToKw pos (keywordEach kws X.env)).all (·.1.isSome) = true := by rfl) (hks : (backToKw pos (keywordEach kws X.env)).filterMap (·.1) = [f] := by rfl)
    (hpl : ((backTo pos (starEach [] X.env)).any (·.1) || (backToKw pos (keywordEach kws X.env)).any (·.1.isNone)) = false := by rfl) :
    PE X (.Call (.Name x p) [] kws pos) (tErrW C f tk) := by
  refine ⟨fun pins s σ H Q I h => ?_⟩
  refine wpAny_Call_Name_kw (ld_glob I hg gC ?_ hdb)
  refine PySem.W.callWith_KW0 (h₀ := X.base) I.ok.mod.kin T.kC hall ?_ hpl
  refine thn (hkw.run pos pins s σ H _ I h) fun ws s1 ⟨vs, H1, I1, r1, v, ev, q1⟩ => ⟨I1.kIn, ?_⟩
  rw [hks]
  subst ev
  obtain ⟨v', rfl, rv⟩ := vals1 r1
  refine wpAny_call (err_made T I1.ok.mod I1.bk (v := v') (.inr ⟨rfl, rfl⟩) (by have := hr.dp; omega) fun h' tk' e d M => ?_)
  obtain ⟨h1, h2, h3, J⟩ := made_inv (tk' := tk') I1 rv M
  exact ⟨.ref e, _, J, rfl, errW q1 e d h1 h2 h3⟩
theorem pe_err0W {x : Str} {p pos : Pos} (q : PySem.W.excIn X.K C PySem.HandSPX.veTail "ValueError.__new__" = true) (gC : X.mg x = some (.ref C)) (kC : PySem.W.keepIn X.K (.ref C) = true) (hg : Gl X x := by rfl)
    (hdb : (x == ("__debug__" : Str)) = false := by decide) : PE X (.Call (.Name x p) [] [] pos) (tErr0W C) :=
  ⟨fun pins s σ H Q I h => (pe_err0 q gC kC hg hdb).run pins s σ H Q I fun a ha => h _ a (same_new ha) ha (.inl upd_same)⟩
end
end L2
set_option Elab.async false
set_option linter.all false
set_option maxRecDepth 100000
set_option maxHeartbeats 4000000
/-! Rules whose readings tell the heap behind them by what stands in it. -/
namespace L2
open PySem PySem.Spec PyProof.Rows
/-- a value, then the rest, with a word between them -/
def tCutE (t : TE) : TE := fun σ H Q => ∃ R : VK, t σ H R ∧ ∀ v H', R v H' → Q v H'
theorem pe_cut {X : Cx} {e : Expr} {t : TE} (h : PE X e t) : PE X e (tCutE t) := ⟨fun pins s σ H Q I q => by
  obtain ⟨R, q1, q2⟩ := q
  refine wpAny_mono (h.run pins s σ H R I q1) (fun u s' z => ?_) fun _ _ x => x
  obtain ⟨v, H', I', r, k⟩ := z
  exact ⟨v, H', I', r, q2 v H' k⟩⟩
def NewL (xs : List V) (H : Hp) (Q : VK) : Prop := ∀ (H' : Hp) (p : Addr), Same H H' → H p = none → H' p = some (.lst xs) → Q (.ref p) H'
def NewT (xs : List V) (H : Hp) (Q : VK) : Prop := ∀ (H' : Hp) (p : Addr), Same H H' → H p = none → H' p = some (.tup xs) → Q (.ref p) H'
def NewD (kvs : List (Key × V)) (H : Hp) (Q : VK) : Prop := ∀ (H' : Hp) (p : Addr), Same H H' → H p = none → H' p = some (.dK kvs) → Q (.ref p) H'
theorem NewL.go {xs : List V} {H : Hp} {Q : VK} (k : NewL xs H Q) {p : Addr} (h : H p = none) : Q (.ref p) (upd H p (.lst xs)) := k _ p (same_new h) h upd_same
theorem NewT.go {xs : List V} {H : Hp} {Q : VK} (k : NewT xs H Q) {p : Addr} (h : H p = none) : Q (.ref p) (upd H p (.tup xs)) := k _ p (same_new h) h upd_same
theorem NewD.go {kvs : List (Key × V)} {H : Hp} {Q : VK} (k : NewD kvs H Q) {p : Addr} (h : H p = none) : Q (.ref p) (upd H p (.dK kvs)) := k _ p (same_new h) h upd_same
section
variable {X : Cx} {es : List Expr} {t : TA} {pos : Pos}
def tLstW (t : TA) : TE := fun σ H Q => t σ H fun xs H1 => xs.length ≤ sizeLine ∧ NewL xs H1 Q
def tTupW (t : TA) : TE := fun σ H Q => t σ H fun xs H1 => xs.length ≤ sizeLine ∧ NewT xs H1 Q
theorem pe_lstW (h : PA X es t) : PE X (.List es pos) (tLstW t) := by
  refine ⟨fun pins s σ H Q I hq => ?_⟩
  refine wpAny_mono ((pe_lst (pos := pos) (t := fun σ H Q => ∃ R : List V → Hp → Prop, t σ H R ∧ ∀ v H', R v H' → Q v H') ⟨fun pos pins s σ H Q I q => ?_⟩).run pins s σ H Q I ⟨_, hq, fun xs H1 z => ⟨z.1, fun p hp => z.2.go hp⟩⟩) (fun _ _ z => z) fun _ _ x => x
  obtain ⟨R, q1, q2⟩ := q
  refine wpAny_mono (h.run pos pins s σ H R I q1) (fun u s' z => ?_) fun _ _ x => x
  obtain ⟨v, H', I', r, k⟩ := z
  exact ⟨v, H', I', r, q2 v H' k⟩
theorem pe_tupW {x1 : Nat} (h : PA X es t) : PE X (.Tuple es x1 pos) (tTupW t) := by
  refine ⟨fun pins s σ H Q I hq => ?_⟩
  refine wpAny_mono ((pe_tup (pos := pos) (x1 := x1) (t := fun σ H Q => ∃ R : List V → Hp → Prop, t σ H R ∧ ∀ v H', R v H' → Q v H') ⟨fun pos pins s σ H Q I q => ?_⟩).run pins s σ H Q I ⟨_, hq, fun xs H1 z => ⟨z.1, fun p hp => z.2.go hp⟩⟩) (fun _ _ z => z) fun _ _ x => x
  obtain ⟨R, q1, q2⟩ := q
  refine wpAny_mono (h.run pos pins s σ H R I q1) (fun u s' z => ?_) fun _ _ x => x
  obtain ⟨v, H', I', r, k⟩ := z
  exact ⟨v, H', I', r, q2 v H' k⟩
theorem OpR.imp {f : Value → Value → Sem Value} {r r' : R2} (h : OpR X f r) (k : ∀ x y H Q, r' x y H Q → r x y H Q) : OpR X f r' := fun pins s σ H x y v u Q I rx ry q => h pins s σ H x y v u Q I rx ry (k x y H Q q)
theorem CallR.imp {f : Value} {r r' : List V → Hp → VK → Prop} (h : CallR X f r) (k : ∀ xs H Q, r' xs H Q → r xs H Q) : CallR X f r' := fun pins s σ H xs us Q I rx q => h pins s σ H xs us Q I rx (k xs H Q q)
theorem SlR.imp {r r' : V → Option Int → Option Int → Hp → VK → Prop} (h : SlR X r) (k : ∀ x lo hi H Q, r' x lo hi H Q → r x lo hi H Q) : SlR X r' := fun pins s σ H x v vl vu lo hi sl Q I rx hs pl pu q => h pins s σ H x v vl vu lo hi sl Q I rx hs pl pu (k x lo hi H Q q)
def rCatW : R2 := fun x y H Q => ∃ l b xs zs, x = .ref l ∧ y = .ref b ∧ H l = some (.lst xs) ∧ H b = some (.lst zs) ∧ xs.length + zs.length ≤ sizeLine ∧ NewL (xs ++ zs) H Q
theorem op_catW : OpR X (binaryOp .Add) rCatW := op_cat.imp fun x y H Q ⟨l, b, xs, zs, e1, e2, h1, h2, hz, k⟩ => ⟨l, b, xs, zs, e1, e2, h1, h2, hz, fun p hp => k.go hp⟩
def rSlLW (K : PySem.W.Frag) : V → Option Int → Option Int → Hp → VK → Prop := fun x lo hi H Q => ∃ a xs, x = .ref a ∧ SqL K H a xs ∧ NewL (cutV xs lo hi) H Q
theorem sl_listW : SlR X (rSlLW X.K) := sl_list.imp fun x lo hi H Q ⟨a, xs, e1, h1, k⟩ => ⟨a, xs, e1, h1, fun p hp => k.go hp⟩
end
end L2
set_option Elab.async false
set_option linter.all false
set_option maxRecDepth 100000
set_option maxHeartbeats 4000000
/-! The head's facts: defs, a Bool of one's own, the error classes. -/
namespace AFH
open PySem PySem.Spec PyProof.Rows L2 He PySem.ErX
def asE (g : Addr → Option Obj) : Nat → List Addr
  | 0 => [mainGlobals, cStatics]
  | n + 1 => growD g (asE g n)
/-- an error's class: its name, its field, its __init__'s text -/
structure ErrD where
  x : Str
  f : Str
  qual : Str
  params : Arguments
  body : List Stmt
  scope : Scope
abbrev FnE : Type := Option (Str × Str × Arguments × FuncBody × Scope × Addr × List Str × Value × Addr)
def fnE (K : PySem.W.Frag) (x : Str) : FnE := match K.lookup (ma K (ga K x) "__init__") with
  | some ⟨_, _, .func fd, _⟩ => some (fd.name, fd.qualname, fd.params, fd.body, fd.scope, fd.globals, fd.closure.map (·.1), fd.defaults, fd.builtins)
  | _ => none
def ErrD.val (d : ErrD) : FnE := some ("__init__", d.qual, d.params, .stmts d.body, d.scope, mainGlobals, ["__class__"], .none, builtinsNs)
def clsB (K : PySem.W.Frag) (C : Addr) : Bool := match K.lookup C with
  | some ⟨.type "type", _, .cls cd, sl⟩ => (match cd.mro, sl.toList with
    | .ref C' :: bm, [_, _, _, _, some (.builtin n), _] => C' == C && n == "ValueError.__new__" && !cd.hasDel && cd.hasDict && PySem.HandSPX.refsVE bm
    | _, _ => false)
  | _ => false
theorem clsB_ok {K : PySem.W.Frag} {C : Addr} (q : clsB K C = true) : ∃ nm q N bs bm sn sub ab col dd k0 k1 k2 k3 k5, K.lookup C = some (excClassObj nm q C N bs bm true sn sub ab col dd k0 k1 k2 k3 k5 "ValueError.__new__") ∧ PySem.HandSPX.refsVE bm = true := by
  unfold clsB at q
  split at q
  · rename_i dd cd sl ho
    split at q
    · rename_i C' bm k0 k1 k2 k3 n k5 hm hs
      simp only [Bool.and_eq_true, beq_iff_eq, Bool.not_eq_true'] at q
      obtain ⟨⟨⟨⟨rfl, rfl⟩, hdel⟩, hdi⟩, ht⟩ := q
      obtain ⟨nm, bs, mro, ns, qn, hd, sn, sub, ab, col, del⟩ := cd
      dsimp only at hm hdel hdi
      subst hm hdel hdi
      have hsl : sl = #[k0, k1, k2, k3, some (.builtin "ValueError.__new__"), k5] := by
        rw [← hs]
      subst hsl
      exact ⟨nm, qn, ns, bs, bm, sn, sub, ab, col, dd, k0, k1, k2, k3, k5, ho, ht⟩
    · cases q
  · cases q
def iniB (K : PySem.W.Frag) (file : Str) (C fI : Addr) (q : Str) : Bool := match K.lookup fI with
  | some ⟨_, _, .func fd, _⟩ => (match fd.code with
    | .ref cda => PySem.W.codeIn K (.ref cda) q && (match K.lookup cda with
      | some ⟨_, _, .fields vs, _⟩ => (match (vs[2]? : Option Value) with
        | some (Value.str z _) => file == z
        | _ => false)
      | _ => false)
    | _ => false) && (match fd.closure with
    | [(_, cc)] => (match K.lookup cc with
      | some ⟨_, _, .cell (some (.ref D)), _⟩ => D == C
      | _ => false)
    | _ => false)
  | _ => false
def errIB (K : PySem.W.Frag) (C : Addr) : Bool := (PySem.W.clsIn K C).isSome && (eqO (PySem.W.findIn K (.ref C) "__getattribute__") (some (some (.builtin "BaseException.__getattribute__"))) && (eqO (PySem.W.findIn K (.ref C) "__getattr__") (some none) &&
  (decide (PySem.W.subIn K (.ref C) (.type "BaseException") = some true) && (eqO (PySem.W.findIn K (.ref C) "__class__") (some (some (.builtin "object.__class__"))) && (eqO (PySem.W.specialIn K (.builtin "object.__class__") "__get__") (some (some (.builtin "getset_descriptor.__get__"))) &&
  (decide (PySem.W.takesIn K (.builtin "object.__class__") = some true) && decide (PySem.W.mroIn K C (.type "object") = some true)))))))
theorem errIB_ok {K : PySem.W.Frag} {C : Addr} (c : errIB K C = true) : ErrI K C := by
  obtain ⟨c1, c⟩ := ba c
  obtain ⟨c2, c⟩ := ba c
  obtain ⟨c3, c⟩ := ba c
  obtain ⟨c4, c⟩ := ba c
  obtain ⟨c5, c⟩ := ba c
  obtain ⟨c6, c⟩ := ba c
  obtain ⟨c7, c8⟩ := ba c
  exact ⟨c1, eqO_ok c2, eqO_ok c3, of_decide_eq_true c4, eqO_ok c5, eqO_ok c6, of_decide_eq_true c7, of_decide_eq_true c8⟩
def errB (K : PySem.W.Frag) (file : Str) (d : ErrD) : Bool :=
  clsB K (ga K d.x) && (eqO (PySem.W.findIn K (.ref (ga K d.x)) "__setattr__") (some (some (.builtin "object.__setattr__"))) && (eqO (PySem.W.findIn K (.ref (ga K d.x)) d.f) (some none) &&
  (eqO (PySem.W.findIn K (.ref (ga K d.x)) "__init__") (some (some (.ref (ma K (ga K d.x) "__init__")))) && (decide (PySem.W.typeIn K (.ref (ma K (ga K d.x) "__init__")) = some (.type "function")) &&
  (PySem.W.keepIn K (.ref (ga K d.x)) && (decide (PySem.W.subIn K (.ref (ga K d.x)) (.type "ValueError") = some true) && (decide (PySem.W.typeIn K (.ref (ga K d.x)) = some (.type "type")) &&
  (PySem.W.hasDictIn K (ga K d.x) && (eqO (PySem.W.ks_superIn K (ga K d.x) (ga K d.x) "__init__") (some (some (.builtin "ValueError.__init__"))) && (decide (PySem.W.mroIn K (ga K d.x) (.ref (ga K d.x)) = some true) &&
  (eqO (PySem.W.nsIn K cStatics "thirdparty.any") (some none) && (iniB K file (ga K d.x) (ma K (ga K d.x) "__init__") d.qual && errIB K (ga K d.x)))))))))))))
/-- the text of an error's __init__ -/
structure ErrD.Txt (d : ErrD) : Prop where
  pos : ∃ p1 p2 q1 q2 q3 q4 q5 r1 r2 r3 r4 : Pos, d.params = iA d.f p1 p2 ∧ d.body = iB d.f q1 q2 q3 q4 q5 r1 r2 r3 r4 ∧ d.scope = iS d.f ∧ (q3.endLine == q4.line) = true
  fld : Fld d.f
  bP : ∀ (kV doc pm : Value) (an : Option Addr) (cdv ct : Value) (cc : Addr) (v w : Value), bindArgs (PySem.W.ksFn "__init__" d.qual d.params d.body d.scope .none kV doc pm an cdv ct cc) ⟨[v, w], []⟩ = pure [(("self" : Str), v), (d.f, w)]
  bK : ∀ (kV doc pm : Value) (an : Option Addr) (cdv ct : Value) (cc : Addr) (v w : Value), bindArgs (PySem.W.ksFn "__init__" d.qual d.params d.body d.scope .none kV doc pm an cdv ct cc) ⟨[v], [(d.f, w)]⟩ = pure [(("self" : Str), v), (d.f, w)]
theorem errTxt_of {prog : Program} {K : PySem.W.Frag} {mg : Str → Option Value} {d : ErrD} (t : d.Txt) (e : fnE K d.x = d.val) (c : errB K prog.main.file d = true) (hs : mg "super" = none) (htop : (prog.main.scope.names.lookup ("super" : Str)).isSome = false) :
    ErrTxt prog K mg (ga K d.x) (ma K (ga K d.x) "__init__") d.f ∧ ErrI K (ga K d.x) := by
  obtain ⟨c1, c⟩ := ba c
  obtain ⟨c2, c⟩ := ba c
  obtain ⟨c3, c⟩ := ba c
  obtain ⟨c4, c⟩ := ba c
  obtain ⟨c5, c⟩ := ba c
  obtain ⟨c6, c⟩ := ba c
  obtain ⟨c7, c⟩ := ba c
  obtain ⟨c8, c⟩ := ba c
  obtain ⟨c9, c⟩ := ba c
  obtain ⟨c10, c⟩ := ba c
  obtain ⟨c11, c⟩ := ba c
  obtain ⟨c12, c⟩ := ba c
  obtain ⟨c13, c14⟩ := ba c
  have I := errIB_ok c14
  refine ⟨⟨clsB_ok c1, eqO_ok c2, I.ga, I.gg, eqO_ok c3, eqO_ok c4, of_decide_eq_true c5, c6, I.ex, of_decide_eq_true c7, of_decide_eq_true c8, c9, eqO_ok c10, of_decide_eq_true c11, hs, eqO_ok c12, htop, t.fld, ?_⟩, I⟩
  obtain ⟨p1, p2, q1, q2, q3, q4, q5, r1, r2, r3, r4, hp, hbd, hsc, hln⟩ := t.pos
  have bP := t.bP
  have bK := t.bK
  unfold fnE ErrD.val at e
  unfold iniB at c13
  generalize ma K (ga K d.x) "__init__" = fI at e c13 ⊢
  cases q : K.lookup fI with
  | none =>
    rw [q] at c13
    cases c13
  | some o =>
    obtain ⟨oc, od, dt, osl⟩ := o
    rw [q] at c13 e
    cases dt with
    | func fd =>
      obtain ⟨n1, n2, n3, n4, n5, n6, n7, n8, n9, n10, n11, n12, n13, n14, n15⟩ := fd
      simp only [Option.some.injEq, Prod.mk.injEq] at e
      obtain ⟨h1, h2, h3, h4, h5, h6, h7, h8, h9⟩ := e
      subst h1 h2 h3 h4 h5 h6 h8 h9
      dsimp only at c13
      obtain ⟨k1, k2⟩ := ba c13
      cases n13 with
      | ref cda =>
        dsimp only at k1
        obtain ⟨k3, k4⟩ := ba k1
        cases qq2 : K.lookup cda with
        | none =>
          rw [qq2] at k4
          cases k4
        | some o2 =>
          obtain ⟨oc2, od2, dt2, osl2⟩ := o2
          rw [qq2] at k4
          cases dt2 with
          | fields vs =>
            dsimp only at k4
            cases q3' : vs[2]? with
            | none =>
              rw [q3'] at k4
              cases k4
            | some z =>
              rw [q3'] at k4
              cases z with
              | str zz tf =>
                dsimp only at k4
                match n7, h7, k2 with
                | [(nm, cc)], h7, k2 =>
                  have en : nm = "__class__" := (List.cons.inj h7).1
                  subst en
                  dsimp only at k2
                  cases q4' : K.lookup cc with
                  | none =>
                    rw [q4'] at k2
                    cases k2
                  | some o3 =>
                    obtain ⟨oc3, od3, dt3, osl3⟩ := o3
                    rw [q4'] at k2
                    cases dt3 with
                    | cell cv =>
                      cases cv with
                      | none => cases k2
                      | some cv =>
                        cases cv with
                        | ref D =>
                          have eD : D = ga K d.x := beq_iff_eq.mp k2
                          subst eD
                          rw [hp, hbd, hsc] at bP bK
                          refine ⟨oc, od, n9, n10, n11, n12, n14, osl, p1, p2, q1, q2, q3, q4, q5, r1, r2, r3, r4, d.qual, cc, cda, oc2, od2, vs, osl2, zz, tf, oc3, od3, osl3, ?_, k3, qq2, q3', k4, q4', hln, fun s x v => .of_eq (bP n9 n10 n11 n12 (.ref cda) n14 cc x v), fun s x v => .of_eq (bK n9 n10 n11 n12 (.ref cda) n14 cc x v)⟩
                          rw [hp, hbd, hsc]
                        | _ => cases k2
                    | _ => cases k2
              | _ => cases k4
          | _ => cases k4
      | _ => cases k1
    | _ => cases c13
/-! ### the Hook -/
abbrev AlM : Type := Bool × List FnW × List FnE
def obsM (file : Str) (fn : List DefD) (er : List ErrD) (ex : PySem.W.Frag → Bool) (K : PySem.W.Frag) : AlM :=
  (ex K && ((fn.all fun d => d.ok K) && er.all fun d => errB K file d), fn.map fun d => fnW K d.at_, er.map fun d => fnE K d.x)
def valM (fn : List DefD) (er : List ErrD) : AlM := (true, fn.map DefD.val, er.map ErrD.val)
def SaysM (file : Str) (fn : List DefD) (er : List ErrD) (ex : PySem.W.Frag → Bool) (K : PySem.W.Frag) : Prop := obsM file fn er ex K = valM fn er
def obsMG (n : Nat) (file : Str) (fn : List DefD) (er : List ErrD) (ex : PySem.W.Frag → Bool) (g : Addr → Option Obj) : AlM := obsM file fn er ex (frG g (asE g n))
def hookM (n : Nat) (file : Str) (fn : List DefD) (er : List ErrD) (ex : PySem.W.Frag → Bool) : PySem.W.Hook where
  α := AlM
  obs := fun s => obsMG n file fn er ex s.heap.get?
  val := fun _ => valM fn er
  says := fun _ h => ∃ K : PySem.W.Frag, K.In h ∧ SaysM file fn er ex K
  of := fun _ _ e => ⟨_, frG_in, e⟩
  keeps := fun _ _ _ ⟨K, hK, c⟩ k => ⟨K, PySem.W.Frag.In.keeps hK k, c⟩
theorem obsMG_eq {n : Nat} {file : Str} {fn : List DefD} {er : List ErrD} {ex : PySem.W.Frag → Bool} {g : Addr → Option Obj} {s : Shared} (h : ∀ a, g a = s.heap.get? a) : obsMG n file fn er ex g = (hookM n file fn er ex).obs s := by
  have e : g = s.heap.get? := funext h
  rw [e] <;> rfl
section
variable {file : Str} {fn : List DefD} {er : List ErrD} {ex : PySem.W.Frag → Bool} {K : PySem.W.Frag}
theorem SaysM.bools (c : SaysM file fn er ex K) : ex K = true ∧ (fn.all fun d => d.ok K) = true ∧ (er.all fun d => errB K file d) = true := by
  have c1 : (ex K && ((fn.all fun d => d.ok K) && er.all fun d => errB K file d)) = true := congrArg (fun z : AlM => z.1) c
  obtain ⟨a, b⟩ := ba c1
  exact ⟨a, ba b⟩
theorem SaysM.def_ (c : SaysM file fn er ex K) (i : Nat) {d : DefD} (h : fn[i]? = some d := by rfl) : ∃ fd, FunD K d.name d.qual d.params d.body d.scope (d.dvs K) (d.kws K) (fAd K d.at_) fd := by
  have e : fn.map (fun d => fnW K d.at_) = fn.map DefD.val := congrArg (fun z : AlM => z.2.1) c
  have e2 : (fn.map fun d => fnW K d.at_)[i]? = (fn.map DefD.val)[i]? := by rw [e]
  rw [List.getElem?_map, List.getElem?_map, h] at e2
  exact DefD.funD (Option.some.inj e2) (List.all_eq_true.mp c.bools.2.1 d (List.mem_of_getElem? h))
theorem SaysM.err {prog : Program} {mg : Str → Option Value} (c : SaysM prog.main.file fn er ex K) (i : Nat) {d : ErrD} (t : d.Txt) (hs : mg "super" = none) (htop : (prog.main.scope.names.lookup ("super" : Str)).isSome = false) (h : er[i]? = some d := by rfl) :
    ErrTxt prog K mg (ga K d.x) (ma K (ga K d.x) "__init__") d.f ∧ ErrI K (ga K d.x) := by
  have e : er.map (fun d => fnE K d.x) = er.map ErrD.val := congrArg (fun z : AlM => z.2.2) c
  have e2 : (er.map fun d => fnE K d.x)[i]? = (er.map ErrD.val)[i]? := by rw [e]
  rw [List.getElem?_map, List.getElem?_map, h] at e2
  exact errTxt_of t (Option.some.inj e2) (List.all_eq_true.mp c.bools.2.2 d (List.mem_of_getElem? h)) hs htop
end
end AFH
set_option Elab.async false
set_option linter.all false
set_option maxRecDepth 100000
set_option maxHeartbeats 4000000
/-! Defs that are called where no repr runs (A.guards = some []): their promises, their calls, the law's end. -/
namespace L2
open PySem PySem.Spec PyProof.Rows
structure FnG (P : Program) (w : World) (K : PySem.W.Frag) (mg : Str → Option Value) (base : Heap) (CX : CXT) (k : Nat) (f : Addr) (fd : FuncData) (ps : List Str) (sp : Sp) : Prop where
  len : ∀ vs H Q E, sp vs H Q E → vs.length = ps.length
  run : ∀ (A : Around) (outer : List Env) (s : Shared) (H : Hp) (args : Args) (us : List Value) (vs : List V) (Q : VK) (E : XK), A.guards = some [] → Room k A → Env0 P w K mg base A outer s H → BindsTo s fd args (ps.zip us) → Vals vs us → sp vs H Q E →
    codeAny (model P w) A (.call (.ref f) args) (CR CX outer P w H s Q E) s
theorem FnOk.g {P : Program} {w : World} {K : PySem.W.Frag} {mg : Str → Option Value} {base : Heap} {CX : CXT} {k : Nat} {f : Addr} {fd : FuncData} {ps : List Str} {sp : Sp} (F : FnOk P w K mg base CX k f fd ps sp) : FnG P w K mg base CX k f fd ps sp :=
  ⟨F.len, fun A outer s H args us vs Q E _ => F.run A outer s H args us vs Q E⟩
section
variable {P : Program} {w : World} {K : PySem.W.Frag} {mg : Str → Option Value} {base : Heap} {x qual : Str} {params : Arguments} {body : List Stmt} {scope : Scope} {dvs : List V} {kws : List (Str × V)} {f : Addr} {fd : FuncData}
theorem FunD.okG {CX : CXT} {N ps : List Str} {k : Nat} {sp : Sp} (F : FunD K x qual params body scope dvs kws f fd) (S : FnScope N ps scope) (len : ∀ vs H Q E, sp vs H Q E → vs.length = ps.length)
    (hbody : ∀ (cdv : Value) (A : Around) (outer : List Env) (s : Shared) (H : Hp) (vs : List V) (Q : VK) (E : XK), A.guards = some [] → Room k (A.deeper (envOfC qual scope s.heap.objs.size f cdv)) → sp vs H Q E →
      ∃ t, PSs (cxOf CX P w K mg base N qual scope f cdv A outer s H E) body t ∧ t { nx := fun _ H' => Q .non H', rt := Q } (start N vs) H) : FnG P w K mg base CX (k + 1) f fd ps sp := by
  refine ⟨len, fun A outer s H args us vs Q E hg => ?_⟩
  -- the promise at this one place: FunD.ok asks a body for every A; at the others it is not entered
  obtain ⟨oc, od, dV, kV, doc, pm, an, cdv, ct, osl, rfl, lk, hcd, _, _⟩ := F.ex
  intro hr e0 hb r hsp
  have hl := len _ _ _ _ hsp
  have KX : K.In s.heap := e0.mod.kin.keeps fun b o e => (e0.bs b o e).1
  have hkind : ∀ y ∈ ps.zip us, scope.names.lookup y.1 = some .local ∨ (scope.names.lookup y.1 = some .cell ∧ ((cellsFrom (s.heap.objs.size + 1) scope.names []).lookup y.1).isSome = true) := fun y hy => by
    rcases S.par y.1 (List.of_mem_zip (show (y.1, y.2) ∈ ps.zip us from hy)).1 with q | q
    · exact .inl q
    · exact .inr ⟨q, PySem.W.cellsFrom_some _ _ _ (.inl q)⟩
  refine codeAny_call_function hr.depth (KX _ _ lk) rfl S.co S.gen rfl (PySem.W.codeRec_of KX hcd) (hb _ _ _ _ ?_)
  refine wpAny_newFunctionEnv_cells S.kind hkind fun env he s1 z => ?_
  subst he
  refine ⟨(e0.mod.nolimit.keeps fun b o e => (e0.bs b o e).1).keeps z.toInCall.keep, codeAny_func ?_⟩
  obtain ⟨t, ht, hq⟩ := hbody cdv A outer s H vs Q E hg (hr.deeper _) hsp
  refine wpAny_mono (ht.run [] s1 (start N vs) H _ (inv_start S hr.hd e0 hl r z) hq) (fun fl s' hs => ?_) fun e s' hs => hs
  cases fl with
  | ret u =>
    obtain ⟨v, σ', H', J, rv, q⟩ := hs
    exact ⟨v, H', J.os, J.bare, J.base, J.hok, rv, q⟩
  | next =>
    obtain ⟨σ', H', J, q⟩ := hs
    exact ⟨V.non, H', J.os, J.bare, J.base, J.hok, rfl, q⟩
  | brk =>
    obtain ⟨_, _, _, q⟩ := hs
    exact False.elim q
  | cont =>
    obtain ⟨_, _, _, q⟩ := hs
    exact False.elim q
end
section
variable {X : Cx} {CX : CXT} {k : Nat} {f : Addr} {fd : FuncData} {ps : List Str} {sp : Sp} {ds : List Value} {dvs : List V} {E : XK} {x : Str} {p pos : Pos} {e : Expr} {es : List Expr} {t : TA}
theorem pe_callG (F : FnG X.prog X.w X.K X.mg X.base CX k f fd ps sp) (hG : X.A.guards = some []) (hr : Room k X.A) (hg : Gl X x) (hm : X.mg x = some (.ref f)) (hk : PySem.W.keepIn X.K (.ref f) = true) (hb : Binds X.K fd ps ds) (hd : Vals dvs ds) (hx : Passes CX X E)
    (ha : PA X (e :: es) t) (hdb : (x == ("__debug__" : Str)) = false := by decide) (he : starEach (e :: es) X.env = (false, eval e X.env) :: starEach es X.env := by rfl) (hpl : (backTo pos (starEach es X.env)).any (·.1) = false := by rfl) :
    PE X (.Call (.Name x p) (e :: es) [] pos) (tCall sp dvs E t) := by
  refine ⟨fun pins s σ H Q I h => ?_⟩
  refine wpAny_Call_Name_kw (ld_glob I hg hm ?_ hdb)
  refine PySem.W.callWith_K (h₀ := X.base) I.ok.mod.kin hk (thn (ha.run pos pins s σ H _ I h) fun us s1 ⟨vs, H1, I1, r, q⟩ => ⟨I1.kIn, ?_⟩) he hpl
  have r2 : Vals (vs ++ dvs) (us ++ ds) := r.append hd
  have hl : (us ++ ds).length = ps.length := by rw [← r2.length]; exact F.len _ _ _ _ q
  refine wpAny_call (codeAny_mono (F.run X.A X.stack s1 H1 ⟨us, []⟩ (us ++ ds) (vs ++ dvs) Q E hG hr I1.env0 (hb s1 us I1.kIn hl) r2 q) fun r s' hq => ?_)
  cases r with
  | error e => exact hx pins σ H1 s1 e s' I1 hq
  | ok fl =>
    cases fl with
    | ret u => exact I1.after hq
    | next => exact False.elim hq
    | brk => exact False.elim hq
    | cont => exact False.elim hq
end
/-- law_call, of a promise that is kept where no repr runs -/
theorem law_callG {P : Program} {w : World} {K : PySem.W.Frag} {mg mb : Str → Option Value} {CX : CXT} {k : Nat} {fa a : Addr} {fd : FuncData} {x : Str} {sp : Sp} {s₁ : Shared} {vs : List Value} {ns : List Int}
    (KX : K.In s₁.heap) (hns : s₁.heap.Ns mainGlobals mg) (hb : s₁.heap.Ns builtinsNs mb) (hbb : ∀ x : Str, x ≠ "__name__" → mb x = bootBuiltins x) (hlim : s₁.heap.NoLimit) (hg : s₁.gens = #[])
    (ha : s₁.heap.get? a = some { cls := .type "list", data := .seq vs.toArray }) (hi : IntsAre vs ns) (hl : ns.length ≤ sizeLine) (hr : Room k callerA)
    (F : ∀ base : Heap, K.In base → base.Ns mainGlobals mg → FnG P w K mg base CX k fa fd [x] sp) (hbind : ∀ (s : Shared) (u : Value), BindsTo s fd ⟨[u], []⟩ [(x, u)])
    (hsp : ∀ H : Hp, Only H → SqL K H a (ns.map V.int) → sp [.ref a] H (fun v _ => v = .bl true) fun _ _ _ => False)
    (hCX : ∀ H e s', CX [] H s₁ (fun _ _ _ => False) e s' → False) :
    codeAny (model P w) callerA (.call (.ref fa) ⟨[.ref a], []⟩) (fun r s' => r = .ok (.ret (.bool true)) ∧ OldK s₁.heap s'.heap ∧ s'.os = s₁.os ∧ AllBare s'.gens) s₁ := by
  have rv := vals_ints hi
  have lenV := hi.length
  have core : ∀ H : Hp, Only H → SqL K H a (ns.map V.int) → HOk P w H s₁.heap → (∀ b, H b ≠ none → b = a) → (H a ≠ none → K.lookup a = none) →
      codeAny (model P w) callerA (.call (.ref fa) ⟨[.ref a], []⟩) (fun r s' => r = .ok (.ret (.bool true)) ∧ OldK s₁.heap s'.heap ∧ s'.os = s₁.os ∧ AllBare s'.gens) s₁ := by
    intro H hO hS hok hA hK
    have at_a : ∀ {b : Addr} {u : HO}, H b = some u → b = a := fun {b u} q => hA b (by rw [q]; exact fun z => nomatch z)
    have noA : ∀ {b : Addr} {o : Obj} {es : Array DictEntry} {ep : Nat}, s₁.heap.get? b = some o → o.data = .dict es ep → H b = none := fun {b o es ep} e d => by
      cases q : H b with
      | none => rfl
      | some u =>
        obtain rfl := at_a q
        rw [ha] at e
        cases e
        cases d
    have nsK : ∀ {b : Addr} {m : Str → Option Value}, s₁.heap.Ns b m → (hidT s₁.heap H).Ns b m := fun {b m} ⟨o, es, ep, e, d, r⟩ => ⟨o, es, ep, hidT_get e (noA e d), d, r⟩
    have hKb : K.In (hidT s₁.heap H) := fun b o e => hidT_get (KX b o e) (by
      cases q : H b with
      | none => rfl
      | some u =>
        obtain rfl := at_a q
        rw [hK (by rw [q]; exact fun z => nomatch z)] at e
        cases e)
    have hM : Mod K mg (hidT s₁.heap H) := ⟨hKb, nsK hns, ⟨mb, nsK hb, hbb⟩, let ⟨mc, h1, h2⟩ := hlim; ⟨mc, nsK h1, h2⟩⟩
    have e0 : Env0 P w K mg (hidT s₁.heap H) callerA [] s₁ H := ⟨rfl, hM, fun b o e => of_hidT e, Nat.le_of_eq (hidT_size _ _), trivial, fun b hb => absurd (show b ∈ ([] : List Addr) from hb) (by simp), hok, .of_eq hg⟩
    refine codeAny_mono ((F _ hKb (nsK hns)).run callerA [] s₁ H ⟨[.ref a], []⟩ [.ref a] [.ref a] _ _ rfl hr e0 (hbind s₁ (.ref a)) (.cons rfl .nil) (hsp H hO hS)) fun r s' h => ?_
    match r, h with
    | .error e, h => exact (hCX H e s' h).elim
    | .ok .next, h => exact False.elim h
    | .ok .brk, h => exact False.elim h
    | .ok .cont, h => exact False.elim h
    | .ok (.ret u), h =>
      obtain ⟨v, H', os, bare, un, hok', r', q⟩ := h
      replace q : v = .bl true := q
      subst q
      obtain rfl : u = Value.bool true := r'
      refine ⟨rfl, OldK.of_keep fun b o e => ?_, os, bare⟩
      cases q : H b with
      | none => exact un.keep b o e q (fun z => absurd (show b ∈ ([] : List Addr) from z) (by simp)) (by simp)
      | some u =>
        rcases hO b with z | ⟨ob, xs, z⟩
        · rw [q] at z
          cases z
        · obtain ⟨e1, _⟩ := hok b _ z
          obtain ⟨e2, _⟩ := hok' b _ (un.frzs b ob _ z)
          rw [e] at e1
          cases e1
          exact e2
  cases hk : K.lookup a with
  | some o =>
    have e := KX a o hk
    rw [ha] at e
    cases e
    exact core (fun _ => none) (fun _ => .inl rfl) (.inr ⟨_, vs.toArray, _, hk, rfl, rfl, rfl, by rw [List.size_toArray, lenV]; exact hl, by simpa using rv⟩) (fun b u z => nomatch (show (none : Option HO) = some u from z)) (fun b z => absurd rfl z) fun z => absurd rfl z
  | none =>
    have hH : ∀ b : Addr, (b = a → (fun b => if b = a then some (HO.frz { cls := .type "list", data := .seq vs.toArray } (.lst (ns.map V.int))) else none) b = some (HO.frz { cls := .type "list", data := .seq vs.toArray } (.lst (ns.map V.int)))) := fun b e => if_pos e
    refine core (fun b => if b = a then some (.frz { cls := .type "list", data := .seq vs.toArray } (.lst (ns.map V.int))) else none) (fun b => ?_) (.inl (.inr ⟨{ cls := .type "list", data := .seq vs.toArray }, if_pos rfl⟩)) (fun b u z => ?_) (fun b z => ?_) fun _ => hk
    · by_cases hb : b = a
      · exact .inr ⟨_, _, if_pos hb⟩
      · exact .inl (if_neg hb)
    · by_cases hb : b = a
      · have z' := (if_pos hb).symm.trans z
        cases z'
        subst hb
        exact ⟨ha, by rw [List.length_map]; exact hl, vs, _, rv, ha⟩
      · exact nomatch (if_neg hb).symm.trans z
    · by_cases hb : b = a
      · exact hb
      · exact absurd (if_neg hb) z
theorem walk_ofG {l : PySem.W.OpenLaw} {n k : Nat} {q : Program} {loose : List Str} {XP : (Str → Option Value) → Heap → Prop} {YP : World → Heap → Prop} {d : DefRec} {CX : CXT} {x : Str}
    (hn : l.most = some n) (hn2 : n ≤ sizeLine) (hdf : d.params.defaults = []) (hr : Room k callerA)
    (F : ∀ (w : World) (mg : Str → Option Value) (fa : Addr) (h : Heap), YP w h → h.Ns mainGlobals mg → mg d.name = some (.ref fa) →
      ∃ (K : PySem.W.Frag) (fd : FuncData) (sp : Sp), K.In h ∧ (∀ (s : Shared) (u : Value), BindsTo s fd ⟨[u], []⟩ [(x, u)]) ∧
        (∀ (H : Hp) (a : Addr) (ns : List Int), ns.length ≤ n → Only H → SqL K H a (ns.map V.int) → sp [.ref a] H (fun v _ => v = .bl true) fun _ _ _ => False) ∧
        ∀ base : Heap, K.In base → base.Ns mainGlobals mg → FnG l.prog w K mg base CX k fa fd [x] sp)
    (hCX : ∀ (H : Hp) (s : Shared) (e : Value) (s' : Shared), CX [] H s (fun _ _ _ => False) e s' → False) :
    PySem.W.WalkO q loose XP YP l.row.toRowW d [] (fun f vs => PySem.call f vs) := by
  refine Att.attach_call hn hdf fun w s₀ s₁ mg mb fa o pm cd doc a vs ns G Y ho hd hcd hmg hobj hints hlen hg => ?_
  obtain ⟨K, fd, sp, KX, hb, hsp, hF⟩ := F w mg fa _ Y G.T.g hmg
  exact law_callG KX G.T.g G.T.b G.T.builtins G.T.nolimit hg hobj hints (Nat.le_trans hlen hn2) hr hF hb (fun H hO hS => hsp H a ns hlen hO hS) fun H e s' => hCX H s₁ e s'
end L2
set_option Elab.async false
set_option linter.all false
set_option maxRecDepth 100000
set_option maxHeartbeats 4000000
/-! repr(x) of data, where no repr runs. -/
namespace L2
open PySem PySem.Spec PyProof.Rows
def fl : V → Bool
  | .non | .bl _ | .int _ | .str _ => true
  | _ => false
def fD : V → PyData
  | .bl b => .bool b
  | .int i => .int i
  | .str x => .str x
  | _ => .none
/-- data that repr shows: as Dp, and dicts of flat things -/
inductive Sh (K : PySem.W.Frag) (H : Hp) : V → PyData → Prop
  | dp {x : V} {d : PyData} (h : Dp K H x d) : Sh K H x d
  | dict {a : Addr} {kvs : List (Key × V)} (h : H a = some (.dK kvs)) (f : kvs.all (fun kv => fl kv.2) = true) : Sh K H (.ref a) (.dict (kvs.map fun kv => (fD (kV kv.1), fD kv.2)))
mutual
theorem Dp.noDict {K : PySem.W.Frag} {H : Hp} : ∀ (d : PyData) (v : V), Dp K H v d → d.hasDict = false
  | .none, _, _ => rfl
  | .bool _, _, _ => rfl
  | .int _, _, _ => rfl
  | .str _, _, _ => rfl
  | .list ds, _, h => by
    cases h with
    | lst hs ha => exact Dp.noDictAll ds _ ha
  | .tuple ds, _, h => by
    cases h with
    | tup hs ha => exact Dp.noDictAll ds _ ha
  | .dict _, _, h => by cases h
theorem Dp.noDictAll {K : PySem.W.Frag} {H : Hp} : ∀ (ds : List PyData) (vs : List V), DpAll K H vs ds → PyData.hasDictAll ds = false
  | [], _, _ => rfl
  | d :: ds, _, h => by
    cases h with
    | cons h1 h2 =>
      show (d.hasDict || PyData.hasDictAll ds) = false
      rw [Dp.noDict d _ h1, Dp.noDictAll ds _ h2]
      rfl
end
theorem SqT.mono {K : PySem.W.Frag} {H H' : Hp} {a : Addr} {xs : List V} (e : Same H H') (h : SqT K H a xs) : SqT K H' a xs := by
  rcases h with (h | ⟨o, h⟩) | h
  · exact .inl (.inl (e _ _ h))
  · exact .inl (.inr ⟨o, e _ _ h⟩)
  · exact .inr h
mutual
theorem Dp.mono {K : PySem.W.Frag} {H H' : Hp} (e : Same H H') : ∀ (d : PyData) (v : V), Dp K H v d → Dp K H' v d
  | .none, _, h => by cases h; exact .non
  | .bool b, _, h => by cases h; exact .bl b
  | .int i, _, h => by cases h; exact .int i
  | .str x, _, h => by cases h; exact .str x
  | .list ds, _, h => by
    cases h with
    | lst hs ha => exact .lst (e.seq hs) (Dp.monoAll e ds _ ha)
  | .tuple ds, _, h => by
    cases h with
    | tup hs ha => exact .tup (SqT.mono e hs) (Dp.monoAll e ds _ ha)
  | .dict _, _, h => by cases h
theorem Dp.monoAll {K : PySem.W.Frag} {H H' : Hp} (e : Same H H') : ∀ (ds : List PyData) (vs : List V), DpAll K H vs ds → DpAll K H' vs ds
  | [], _, h => by cases h; exact .nil
  | d :: ds, _, h => by
    cases h with
    | cons h1 h2 => exact .cons (Dp.mono e d _ h1) (Dp.monoAll e ds _ h2)
end
theorem Sh.mono {K : PySem.W.Frag} {H H' : Hp} {v : V} {d : PyData} (e : Same H H') (h : Sh K H v d) : Sh K H' v d := by
  cases h with
  | dp h => exact .dp (Dp.mono e _ _ h)
  | dict h f => exact .dict (e _ _ h) f
theorem strOk_of (z : String) : PyData.strOk (Str.ofString z) = true := by
  unfold PyData.strOk
  rw [Str.ofString_eq_toList]
  show (List.toArray (z.toList.map Char.toNat)).all (fun x => decide (x < 0x110000)) = true
  rw [List.all_toArray, List.all_map, List.all_eq_true]
  intro c _
  refine decide_eq_true ?_
  have h := c.valid
  show c.val.toNat < 0x110000
  rcases h with h | h
  · exact Nat.lt_trans h (by decide)
  · exact h.2
theorem fl_reads {h : Heap} {v : V} {u : Value} (f : fl v = true) (r : RelV v u) : Reads h u (fD v) [] := by
  cases v with
  | non => cases r; exact .none
  | bl b => cases r; exact .bool b
  | int i => obtain ⟨t, rfl⟩ := r; exact .int i t
  | str x => obtain ⟨t, rfl⟩ := r; exact .str x t
  | byt b => cases f
  | flt b => cases f
  | ref a => cases f
  | ty n => cases f
theorem key_reads {h : Heap} {k : Key} {u : Value} (e : keyIs k u = true) : Reads h u (fD (kV k)) [] := by
  rcases keyIs_shape e with ⟨i, t, rfl, rfl⟩ | ⟨x, t, rfl, rfl⟩
  · exact .int i t
  · exact .str x t
theorem dict_reads {P : Program} {w : World} {h : Heap} {es : List DictEntry} {vs : List (Key × Value)} (hp : Pairs (mixKind P w) es vs) : ∀ {kvs : List (Key × V)}, KV kvs vs → kvs.all (fun kv => fl kv.2) = true →
    ReadsAll h (es.map (·.key)) ((kvs.map fun kv => (fD (kV kv.1), fD kv.2)).map (·.1)) [] ∧ ReadsAll h (es.map (·.val)) ((kvs.map fun kv => (fD (kV kv.1), fD kv.2)).map (·.2)) [] := by
  induction hp with
  | nil =>
    intro kvs hk _
    cases hk
    exact ⟨.nil, .nil⟩
  | @cons e v es vs h1 h2 hp ih =>
    intro kvs hk f
    cases hk with
    | @cons kv _ kvs _ r rr =>
      obtain ⟨f1, f2⟩ : fl kv.2 = true ∧ kvs.all (fun kv => fl kv.2) = true := Bool.and_eq_true_iff.mp f
      obtain ⟨k1, k2⟩ := ih rr f2
      obtain ⟨e1, r2⟩ := r
      refine ⟨ReadsAll.cons (as := []) (bs := []) ?_ k1, ReadsAll.cons (as := []) (bs := []) ?_ k2⟩
      · show Reads h e.key (fD (kV kv.1)) []
        rw [e1]
        exact key_reads h1
      · show Reads h e.val (fD kv.2) []
        rw [h2]
        exact fl_reads f1 r2
section
variable {X : Cx} {pins : List (Addr × Obj)} {σ : St} {H : Hp} {s : Shared}
theorem Sh.reads {v : V} {u : Value} {d : PyData} (I : Inv X pins σ H s) (h : Sh X.K H v d) (r : RelV v u) : ∃ as, Reads s.heap u d as ∧ (d.hasDict = true → sysModules ∉ as) := by
  cases h with
  | dp h =>
    obtain ⟨as, q⟩ := Dp.reads I d v u h r
    exact ⟨as, q, fun z => by rw [Dp.noDict d v h] at z; cases z⟩
  | @dict a kvs h f =>
    cases r
    obtain ⟨_, hs, vs, hkv, o, es, ep, ho, hx, hd, _, hp, _⟩ := dk_of I.hok h
    obtain ⟨k1, k2⟩ := dict_reads (h := s.heap) hp hkv f
    refine ⟨_, Reads.dict ho hx.1 hd k1 k2, fun _ z => ?_⟩
    have z' : sysModules = a := by simpa using z
    rw [← z'] at hs
    simp at hs
/-- repr(x) -/
def rRepr (K : PySem.W.Frag) : List V → Hp → VK → Prop := fun xs H Q => ∃ (x : V) (d : PyData), xs = [x] ∧ Sh K H x d ∧ d.showable = true ∧ d.depth ≤ 60 ∧ d.shown.length ≤ sizeLine ∧ Q (.str d.shown) H
theorem call_repr (hg : X.A.guards = some []) (hu : X.A.units + 64 < cLine) : CallR X (.builtin "repr") (rRepr X.K) := by
  intro pins s σ H xs us Q I r h
  obtain ⟨x, d, rfl, sh, hs, hd, hz, q⟩ := h
  obtain ⟨u, rfl, ru⟩ := vals1 r
  obtain ⟨as, hr, hm⟩ := Sh.reads I sh ru
  cases hr with
  | none => exact PySem.P.repr_of_none ⟨.str _, H, I.tok _, ⟨_, rfl⟩, q⟩
  | bool b => exact PySem.P.repr_of_bool ⟨.str _, H, I.tok _, ⟨_, rfl⟩, q⟩
  | int i t => exact PySem.P.repr_of_int (of_decide_eq_true hs) ⟨.str _, H, I.tok _, ⟨_, rfl⟩, q⟩
  | str x t => exact PySem.P.repr_of_str ⟨.str _, H, I.tok _, ⟨_, rfl⟩, q⟩ hz
  | list h1 h2 h3 h4 => exact repr_of_reads' (Reads.list h1 h2 h3 h4) hs hm hg (by omega) (fun _ _ e => e) (fun h' u tk hk => ⟨.str _, H, I.kept hk, ⟨_, rfl⟩, q⟩) hz
  | tuple h1 h2 h3 h4 => exact repr_of_reads' (Reads.tuple h1 h2 h3 h4) hs hm hg (by omega) (fun _ _ e => e) (fun h' u tk hk => ⟨.str _, H, I.kept hk, ⟨_, rfl⟩, q⟩) hz
  | dict h1 h2 h3 h4 h5 => exact repr_of_reads' (Reads.dict h1 h2 h3 h4 h5) hs hm hg (by omega) (fun _ _ e => e) (fun h' u tk hk => ⟨.str _, H, I.kept hk, ⟨_, rfl⟩, q⟩) hz
theorem call_reprK {K : PySem.W.Frag} (hK : X.K = K) (hg : X.A.guards = some []) (hu : X.A.units + 64 < cLine) : CallR X (.builtin "repr") (rRepr K) := by
  rw [← hK]
  exact call_repr hg hu
end
end L2
set_option Elab.async false
set_option linter.all false
set_option maxRecDepth 100000
set_option maxHeartbeats 4000000
namespace L2
open PySem PySem.Spec PyProof.Rows PySem.ErX
/-- e.f, e a held error -/
def tErrF (P : Program) (K : PySem.W.Frag) (mg : Str → Option Value) (f : Str) (te : TE) : TE := fun σ H Q => te σ H fun x H1 => ∃ (a C fI : Addr) (v : V), x = .ref a ∧ ErrTxt P K mg C fI f ∧ ErrF H1 a C f v ∧ Q v H1
theorem pe_errFld {X : Cx} {e : Expr} {te : TE} {f : Str} {pos : Pos} (he : PE X e te) (hb : attributeBase e f X.env (eval e X.env) = eval e X.env := by rfl) :
    PE X (.Attribute e f pos) (tErrF X.prog X.K X.mg f te) := by
  refine ⟨fun pins s σ H Q I h => ?_⟩
  refine attr_of hb (thn (he.run pins s σ H _ I h) fun u s1 hh => ?_)
  obtain ⟨x, H1, I1, rx, a, C, fI, v, ex, T, ⟨d, ea, ed⟩, q⟩ := hh
  subst ex
  obtain rfl : u = Value.ref a := rx
  obtain ⟨t1, ho⟩ := exo_at I1.hok ea
  obtain ⟨mA, hns, hr⟩ := exd_at I1.hok ed
  obtain ⟨od, hod, hl⟩ := lookIn_ns hns
  have l : List.lookup f [(f, v)] = some v := by simp [List.lookup]
  obtain ⟨u, hu, ru⟩ := RelO.some_of (v := v) (o := mA f) (by rw [← l]; exact hr f)
  have J : PySem.W.InstAt s1.heap a _ C (some od) := ⟨ho, rfl, rfl, hod⟩
  exact HandSPX.exc_get I1.kIn J T.ga T.gg T.exC (PySem.W.findObj_own T.hdC T.noN rfl (by rw [hl, hu])) (handed_of ru) ⟨v, H1, I1.tok _, ru, q⟩
end L2
set_option Elab.async false
set_option linter.all false
set_option maxRecDepth 100000
set_option maxHeartbeats 0
namespace K45
open PySem PySem.Spec PyProof.Rows L2 PySem.ErX
def top (i : Nat) : Stmt := PySem.Challenge.pw_askfurther_k45_errors_made_by_hand.main.body.getD i (.Pass ⟨0, 0, 0, 0⟩)
abbrev s_law_source_of : Stmt := top 29
def d_law_source_of : He.DefD := ⟨("_law_source_of", none), "_law_source_of", "_law_source_of", defArgs s_law_source_of, defBody s_law_source_of, defScope s_law_source_of, [], []⟩
abbrev s_law_next : Stmt := top 30
def d_law_next : He.DefD := ⟨("_law_next", none), "_law_next", "_law_next", defArgs s_law_next, defBody s_law_next, defScope s_law_next, [], []⟩
abbrev s_law_one : Stmt := top 31
def d_law_one : He.DefD := ⟨("_law_one", none), "_law_one", "_law_one", defArgs s_law_one, defBody s_law_one, defScope s_law_one, [], []⟩
abbrev s_law_kinds : Stmt := top 32
def d_law_kinds : He.DefD := ⟨("_law_kinds", none), "_law_kinds", "_law_kinds", defArgs s_law_kinds, defBody s_law_kinds, defScope s_law_kinds, [], []⟩
abbrev s_law_by_place : Stmt := top 33
def d_law_by_place : He.DefD := ⟨("_law_by_place", none), "_law_by_place", "_law_by_place", defArgs s_law_by_place, defBody s_law_by_place, defScope s_law_by_place, [], []⟩
abbrev s_law_fields : Stmt := top 34
def d_law_fields : He.DefD := ⟨("_law_fields", none), "_law_fields", "_law_fields", defArgs s_law_fields, defBody s_law_fields, defScope s_law_fields, [], []⟩
abbrev slaw : Stmt := top 35
def dlaw : He.DefD := ⟨("law", none), "law", "law", defArgs slaw, defBody slaw, defScope slaw, [], []⟩
def fn : List He.DefD := [d_law_source_of, d_law_next, d_law_one, d_law_kinds, d_law_by_place, d_law_fields, dlaw]
theorem fl_answer : Fld "answer" := ⟨by decide, by decide, by decide, by decide, by decide⟩
theorem fl_asks : Fld "asks" := ⟨by decide, by decide, by decide, by decide, by decide⟩
theorem fl_function : Fld "function" := ⟨by decide, by decide, by decide, by decide, by decide⟩
theorem fl_history : Fld "history" := ⟨by decide, by decide, by decide, by decide, by decide⟩
theorem fl_index : Fld "index" := ⟨by decide, by decide, by decide, by decide, by decide⟩
theorem fl_line : Fld "line" := ⟨by decide, by decide, by decide, by decide, by decide⟩
theorem fl_many : Fld "many" := ⟨by decide, by decide, by decide, by decide, by decide⟩
theorem fl_operation : Fld "operation" := ⟨by decide, by decide, by decide, by decide, by decide⟩
theorem fl_part : Fld "part" := ⟨by decide, by decide, by decide, by decide, by decide⟩
theorem fl_place : Fld "place" := ⟨by decide, by decide, by decide, by decide, by decide⟩
theorem fl_state : Fld "state" := ⟨by decide, by decide, by decide, by decide, by decide⟩
abbrev cBadBody : Stmt := inClass (top 3) 0
def eBadBody : AFH.ErrD := ⟨"BadBody", "index", "BadBody.__init__", defArgs cBadBody, defBody cBadBody, defScope cBadBody⟩
theorem tBadBody : eBadBody.Txt := ⟨⟨_, _, _, _, _, _, _, _, _, _, _, rfl, rfl, rfl, rfl⟩, fl_index, fun _ _ _ _ _ _ _ _ _ => rfl, fun _ _ _ _ _ _ _ _ _ => rfl⟩
abbrev cBadStart : Stmt := inClass (top 4) 0
def eBadStart : AFH.ErrD := ⟨"BadStart", "index", "BadStart.__init__", defArgs cBadStart, defBody cBadStart, defScope cBadStart⟩
theorem tBadStart : eBadStart.Txt := ⟨⟨_, _, _, _, _, _, _, _, _, _, _, rfl, rfl, rfl, rfl⟩, fl_index, fun _ _ _ _ _ _ _ _ _ => rfl, fun _ _ _ _ _ _ _ _ _ => rfl⟩
abbrev cNoRow : Stmt := inClass (top 5) 0
def eNoRow : AFH.ErrD := ⟨"NoRow", "index", "NoRow.__init__", defArgs cNoRow, defBody cNoRow, defScope cNoRow⟩
theorem tNoRow : eNoRow.Txt := ⟨⟨_, _, _, _, _, _, _, _, _, _, _, rfl, rfl, rfl, rfl⟩, fl_index, fun _ _ _ _ _ _ _ _ _ => rfl, fun _ _ _ _ _ _ _ _ _ => rfl⟩
abbrev cBadHistory : Stmt := inClass (top 7) 0
def eBadHistory : AFH.ErrD := ⟨"BadHistory", "index", "BadHistory.__init__", defArgs cBadHistory, defBody cBadHistory, defScope cBadHistory⟩
theorem tBadHistory : eBadHistory.Txt := ⟨⟨_, _, _, _, _, _, _, _, _, _, _, rfl, rfl, rfl, rfl⟩, fl_index, fun _ _ _ _ _ _ _ _ _ => rfl, fun _ _ _ _ _ _ _ _ _ => rfl⟩
abbrev cBadProgram : Stmt := inClass (top 9) 0
def eBadProgram : AFH.ErrD := ⟨"BadProgram", "place", "BadProgram.__init__", defArgs cBadProgram, defBody cBadProgram, defScope cBadProgram⟩
theorem tBadProgram : eBadProgram.Txt := ⟨⟨_, _, _, _, _, _, _, _, _, _, _, rfl, rfl, rfl, rfl⟩, fl_place, fun _ _ _ _ _ _ _ _ _ => rfl, fun _ _ _ _ _ _ _ _ _ => rfl⟩
abbrev cBadHandler : Stmt := inClass (top 10) 0
def eBadHandler : AFH.ErrD := ⟨"BadHandler", "part", "BadHandler.__init__", defArgs cBadHandler, defBody cBadHandler, defScope cBadHandler⟩
theorem tBadHandler : eBadHandler.Txt := ⟨⟨_, _, _, _, _, _, _, _, _, _, _, rfl, rfl, rfl, rfl⟩, fl_part, fun _ _ _ _ _ _ _ _ _ => rfl, fun _ _ _ _ _ _ _ _ _ => rfl⟩
abbrev cMismatch : Stmt := inClass (top 11) 0
def eMismatch : AFH.ErrD := ⟨"Mismatch", "operation", "Mismatch.__init__", defArgs cMismatch, defBody cMismatch, defScope cMismatch⟩
theorem tMismatch : eMismatch.Txt := ⟨⟨_, _, _, _, _, _, _, _, _, _, _, rfl, rfl, rfl, rfl⟩, fl_operation, fun _ _ _ _ _ _ _ _ _ => rfl, fun _ _ _ _ _ _ _ _ _ => rfl⟩
abbrev cTooMany : Stmt := inClass (top 12) 0
def eTooMany : AFH.ErrD := ⟨"TooMany", "many", "TooMany.__init__", defArgs cTooMany, defBody cTooMany, defScope cTooMany⟩
theorem tTooMany : eTooMany.Txt := ⟨⟨_, _, _, _, _, _, _, _, _, _, _, rfl, rfl, rfl, rfl⟩, fl_many, fun _ _ _ _ _ _ _ _ _ => rfl, fun _ _ _ _ _ _ _ _ _ => rfl⟩
abbrev cParted : Stmt := inClass (top 13) 0
def eParted : AFH.ErrD := ⟨"Parted", "history", "Parted.__init__", defArgs cParted, defBody cParted, defScope cParted⟩
theorem tParted : eParted.Txt := ⟨⟨_, _, _, _, _, _, _, _, _, _, _, rfl, rfl, rfl, rfl⟩, fl_history, fun _ _ _ _ _ _ _ _ _ => rfl, fun _ _ _ _ _ _ _ _ _ => rfl⟩
abbrev cNoState : Stmt := inClass (top 14) 0
def eNoState : AFH.ErrD := ⟨"NoState", "state", "NoState.__init__", defArgs cNoState, defBody cNoState, defScope cNoState⟩
theorem tNoState : eNoState.Txt := ⟨⟨_, _, _, _, _, _, _, _, _, _, _, rfl, rfl, rfl, rfl⟩, fl_state, fun _ _ _ _ _ _ _ _ _ => rfl, fun _ _ _ _ _ _ _ _ _ => rfl⟩
abbrev cNoOperation : Stmt := inClass (top 15) 0
def eNoOperation : AFH.ErrD := ⟨"NoOperation", "operation", "NoOperation.__init__", defArgs cNoOperation, defBody cNoOperation, defScope cNoOperation⟩
theorem tNoOperation : eNoOperation.Txt := ⟨⟨_, _, _, _, _, _, _, _, _, _, _, rfl, rfl, rfl, rfl⟩, fl_operation, fun _ _ _ _ _ _ _ _ _ => rfl, fun _ _ _ _ _ _ _ _ _ => rfl⟩
abbrev cApart : Stmt := inClass (top 17) 0
def eApart : AFH.ErrD := ⟨"Apart", "asks", "Apart.__init__", defArgs cApart, defBody cApart, defScope cApart⟩
theorem tApart : eApart.Txt := ⟨⟨_, _, _, _, _, _, _, _, _, _, _, rfl, rfl, rfl, rfl⟩, fl_asks, fun _ _ _ _ _ _ _ _ _ => rfl, fun _ _ _ _ _ _ _ _ _ => rfl⟩
abbrev cBadAnswer : Stmt := inClass (top 18) 0
def eBadAnswer : AFH.ErrD := ⟨"BadAnswer", "answer", "BadAnswer.__init__", defArgs cBadAnswer, defBody cBadAnswer, defScope cBadAnswer⟩
theorem tBadAnswer : eBadAnswer.Txt := ⟨⟨_, _, _, _, _, _, _, _, _, _, _, rfl, rfl, rfl, rfl⟩, fl_answer, fun _ _ _ _ _ _ _ _ _ => rfl, fun _ _ _ _ _ _ _ _ _ => rfl⟩
abbrev cBadChoices : Stmt := inClass (top 19) 0
def eBadChoices : AFH.ErrD := ⟨"BadChoices", "index", "BadChoices.__init__", defArgs cBadChoices, defBody cBadChoices, defScope cBadChoices⟩
theorem tBadChoices : eBadChoices.Txt := ⟨⟨_, _, _, _, _, _, _, _, _, _, _, rfl, rfl, rfl, rfl⟩, fl_index, fun _ _ _ _ _ _ _ _ _ => rfl, fun _ _ _ _ _ _ _ _ _ => rfl⟩
abbrev cBadCount : Stmt := inClass (top 20) 0
def eBadCount : AFH.ErrD := ⟨"BadCount", "many", "BadCount.__init__", defArgs cBadCount, defBody cBadCount, defScope cBadCount⟩
theorem tBadCount : eBadCount.Txt := ⟨⟨_, _, _, _, _, _, _, _, _, _, _, rfl, rfl, rfl, rfl⟩, fl_many, fun _ _ _ _ _ _ _ _ _ => rfl, fun _ _ _ _ _ _ _ _ _ => rfl⟩
abbrev cNoIndex : Stmt := inClass (top 21) 0
def eNoIndex : AFH.ErrD := ⟨"NoIndex", "index", "NoIndex.__init__", defArgs cNoIndex, defBody cNoIndex, defScope cNoIndex⟩
theorem tNoIndex : eNoIndex.Txt := ⟨⟨_, _, _, _, _, _, _, _, _, _, _, rfl, rfl, rfl, rfl⟩, fl_index, fun _ _ _ _ _ _ _ _ _ => rfl, fun _ _ _ _ _ _ _ _ _ => rfl⟩
abbrev cBadWork : Stmt := inClass (top 24) 0
def eBadWork : AFH.ErrD := ⟨"BadWork", "place", "BadWork.__init__", defArgs cBadWork, defBody cBadWork, defScope cBadWork⟩
theorem tBadWork : eBadWork.Txt := ⟨⟨_, _, _, _, _, _, _, _, _, _, _, rfl, rfl, rfl, rfl⟩, fl_place, fun _ _ _ _ _ _ _ _ _ => rfl, fun _ _ _ _ _ _ _ _ _ => rfl⟩
abbrev cRecursive : Stmt := inClass (top 26) 0
def eRecursive : AFH.ErrD := ⟨"Recursive", "function", "Recursive.__init__", defArgs cRecursive, defBody cRecursive, defScope cRecursive⟩
theorem tRecursive : eRecursive.Txt := ⟨⟨_, _, _, _, _, _, _, _, _, _, _, rfl, rfl, rfl, rfl⟩, fl_function, fun _ _ _ _ _ _ _ _ _ => rfl, fun _ _ _ _ _ _ _ _ _ => rfl⟩
abbrev cTooLong : Stmt := inClass (top 27) 0
def eTooLong : AFH.ErrD := ⟨"TooLong", "many", "TooLong.__init__", defArgs cTooLong, defBody cTooLong, defScope cTooLong⟩
theorem tTooLong : eTooLong.Txt := ⟨⟨_, _, _, _, _, _, _, _, _, _, _, rfl, rfl, rfl, rfl⟩, fl_many, fun _ _ _ _ _ _ _ _ _ => rfl, fun _ _ _ _ _ _ _ _ _ => rfl⟩
abbrev cNoText : Stmt := inClass (top 16) 0
def eNoText : AFH.ErrD := ⟨"NoText", "line", "NoText.__init__", defArgs cNoText, defBody cNoText, defScope cNoText⟩
theorem tNoText : eNoText.Txt := ⟨⟨_, _, _, _, _, _, _, _, _, _, _, rfl, rfl, rfl, rfl⟩, fl_line, fun _ _ _ _ _ _ _ _ _ => rfl, fun _ _ _ _ _ _ _ _ _ => rfl⟩
def er : List AFH.ErrD := [eBadBody, eBadStart, eNoRow, eBadHistory, eBadProgram, eBadHandler, eMismatch, eTooMany, eParted, eNoState, eNoOperation, eApart, eBadAnswer, eBadChoices, eBadCount, eNoIndex, eBadWork, eRecursive, eTooLong, eNoText]
def allN : List Str := ["BadOperations", "BadBody", "BadStart", "NoRow", "BadOthers", "BadHistory", "BadSizes", "BadProgram", "BadHandler", "Mismatch", "TooMany", "Parted", "NoState", "NoOperation", "Apart", "BadAnswer", "BadChoices", "BadCount", "NoIndex", "Endless", "BadHandlers", "BadWork", "NoEntry", "Recursive", "TooLong", "NoText"]
def fa : List He.Fa := [.glo "_law_source_of", .glo "_law_next", .glo "_law_one", .glo "_law_kinds", .glo "_law_by_place", .glo "_law_fields", .glo "law", .free "len", .free "int", .free "isinstance", .free "range", .free "enumerate", .free "super", .free "ValueError", .free "repr", .glo "AskError"]
def woN : List Str := ["BadOperations", "BadOthers", "BadSizes", "Endless", "BadHandlers", "NoEntry"]
def ex (K : PySem.W.Frag) : Bool := ((fa.all fun f => f.ok K) && ((He.Fa.exc "AskError").ok K && (AFH.errIB K (He.ga K "AskError") && decide (PySem.W.kitOne K (.ref (He.ga K "AskError")) (.type "ValueError") = some true)))) && ((allN.all fun n => (He.Fa.glo n).ok K) && ((woN.all fun n => (He.Fa.exc n).ok K) && ((allN.all fun x => AFH.errIB K (He.ga K x)) && ((allN.all fun x => allN.all fun y => decide (PySem.W.kitOne K (.ref (He.ga K x)) (.ref (He.ga K y)) = some (x == y))) &&
  (allN.all fun x => decide (PySem.W.kitOne K (.ref (He.ga K x)) (.ref (He.ga K "AskError")) = some true) && decide (PySem.W.kitOne K (.ref (He.ga K x)) (.type "ValueError") = some true))))))
abbrev R : PySem.W.OpenRow := PySem.W.OpenLaw.row PySem.Challenge.rw_askfurther_k45_errors_made_by_hand
abbrev hk : PySem.W.Hook := AFH.hookM 6 R.prog.main.file fn er ex
def ob (s : PySem.W.SharedT) : AFH.AlM := AFH.obsMG 6 R.prog.main.file fn er ex (HandSHeadRun.getT s)
theorem ob_eq (s : PySem.W.SharedT) : ob s = hk.obs s.abs := AFH.obsMG_eq (HandSHeadRun.getT_eq s)
def loose0 : List Str := ["AskError", "BadOperations", "BadBody", "BadStart", "NoRow", "BadOthers", "BadHistory", "BadSizes", "BadProgram", "BadHandler", "Mismatch", "TooMany", "Parted", "NoState", "NoOperation", "NoText", "Apart", "BadAnswer", "BadChoices", "BadCount", "NoIndex", "Endless", "BadHandlers", "BadWork", "NoEntry", "Recursive", "TooLong", "_law_source_of", "_law_next", "_law_one"]
def loose1 : List Str := ["_law_kinds", "_law_by_place", "_law_fields"]
def loose : List Str := loose0 ++ loose1
theorem run (w : World) : HandSHeadRun.RunEq R (PySem.W.view R.prog [35]) hk ob 20000 loose w := by
  intro os
  kernel_rfl
end K45
set_option Elab.async false
set_option linter.all false
set_option maxRecDepth 100000
set_option maxHeartbeats 4000000
namespace K45
open PySem PySem.Spec PyProof.Rows L2
abbrev FnP (K : PySem.W.Frag) (x : Str) (st : Stmt) (f : Addr) (fd : FuncData) : Prop := FunD K x x (defArgs st) (defBody st) (defScope st) [] [] f fd
theorem bt_int : bootBuiltins "int" = some (.type "int") := by decide +kernel
/-- three ints -/
def SrcO (o : HO) : Prop := ∃ a b c : Int, o = .lst [.int a, .int b, .int c]
def spSrc : Sp := fun vs H Q _ => ∃ n : Int, vs = [.int n] ∧ ∀ p o, H p = none → SrcO o → Q (.ref p) (upd H p o)
def spNext : Sp := fun vs H Q _ => ∃ (p : Addr) (o : HO) (many : Int), vs = [.ref p, .int many] ∧ H p = some o ∧ SrcO o ∧ 0 < many ∧ many < 2 ^ 100 ∧ ∀ o' r, SrcO o' → 0 ≤ r → r < many → Q (.int r) (upd H p o')
def spOne (K : PySem.W.Frag) : Sp := fun vs H Q _ => ∃ (p q : Addr) (o : HO) (xs : List V), vs = [.ref p, .ref q] ∧ H p = some o ∧ SrcO o ∧ SqL K H q xs ∧ 0 < xs.length ∧ xs.length < 100000 ∧ (∀ o', SqL K (upd H p o') q xs) ∧ ∀ (o' : HO) (i : Nat) (x : V), SrcO o' → xs[i]? = some x → Q x (upd H p o')
theorem mb (x : Int) : -(2 ^ 64) < x % 2147483647 ∧ x % 2147483647 < 2 ^ 64 := by
  have h1 := Int.emod_nonneg x (b := 2147483647) (by decide)
  have h2 := Int.emod_lt_of_pos x (b := 2147483647) (by decide)
  omega
section
variable {P : Program} {w : World} {K : PySem.W.Frag} {mg : Str → Option Value} {base : Heap} {f : Addr} {fd : FuncData}
theorem sc_src : FnScope ["_law_cell"] ["_law_cell"] (defScope s_law_source_of) := ⟨rfl, rfl, rfl, by decide +kernel, rfl, by decide +kernel, by decide +kernel⟩
theorem ok_src (F : FnP K "_law_source_of" s_law_source_of f fd) (mI : mg "int" = none) : FnOk P w K mg base CX0 1 f fd ["_law_cell"] spSrc := by
  refine F.ok sc_src (fun vs H Q E h => ?_) (fun cdv A outer s H vs Q E hr h => ⟨_, PSs.nox (Evl.pss_cut (ps_set (i := 0) sc_src.nd rfl (Or.inl rfl) (pe_ifExp (pt_cmpR op_ge (pv 0) pe_int (nomark _)) (pv 0) (pe_op op_sub (pe_op op_sub pe_int (pe_op op_mul pe_int (pv 0))) pe_int)))
      (pss_one (ps_ret (pe_lst (pa_cons (pe_op op_mul (pv 0) (pe_callTy call_int1 (by rfl) mI bt_int (pa_cons (pe_cmpR op_ge (pv 0) (pe_op op_pow pe_int pe_int) (nomark _)) pa_nil)))
        (pa_cons (pe_op op_mod (pe_callTy call_int1 (by rfl) mI bt_int (pa_cons (pv 0) pa_nil)) pe_int) (pa_cons pe_int pa_nil))))))), ?_⟩)
  · obtain ⟨n, rfl, _⟩ := h
    rfl
  · obtain ⟨n, rfl, k⟩ := h
    refine ⟨fun σ' H' => ∃ m : Int, σ' = [some (.int m)] ∧ H' = H, ?_, ?_⟩
    · refine ⟨_, rfl, _, _, rfl, rfl, _, rfl, ?_⟩
      refine ite2 (fun c => ?_) (fun c => ?_)
      · exact ⟨_, rfl, n, rfl, rfl⟩
      · exact ⟨_, rfl, _, _, rfl, rfl, .inl (by decide), _, _, rfl, rfl, _, _, rfl, rfl, _, rfl, rfl⟩
    · rintro σ' H' ⟨m, rfl, rfl⟩
      refine ⟨_, rfl, _, rfl, _, _, rfl, rfl, ⟨by decide, by decide, by decide⟩, _, _, rfl, rfl, .inr ⟨_, rfl, _, _, rfl, rfl, .inr ?_, ?_⟩⟩
      · split <;> decide
      · exact ⟨_, rfl, .inl ⟨_, rfl, _, _, rfl, rfl, (by show (0 : Int) < 2147483647; decide), (by show 3 ≤ sizeLine; decide), fun p hp => k p _ hp ⟨_, _, _, rfl⟩⟩⟩
theorem sc_next : FnScope ["_law_source", "_law_many", "_law_found", "_law_number"] ["_law_source", "_law_many"] (defScope s_law_next) := ⟨rfl, rfl, rfl, by decide +kernel, rfl, by decide +kernel, by decide +kernel⟩
theorem ok_next (F : FnP K "_law_next" s_law_next f fd) (mI : mg "int" = none) : FnOk P w K mg base CX0 1 f fd ["_law_source", "_law_many"] spNext := by
  refine F.ok sc_next (fun vs H Q E h => ?_) (fun cdv A outer s H vs Q E hr h => ⟨_, PSs.nox (pss_cons (ps_if (pt_cmpR op_gt (pe_ix ix_list (pv 0) pe_int (fun _ _ => rfl)) pe_int (nomark _))
      (pss_cons (ps_set (i := 2) sc_next.nd rfl (Or.inl rfl) (pe_op op_mod (pe_callTy call_int1 (by rfl) mI bt_int (pa_cons (pe_ix ix_list (pv 0) pe_int (fun _ _ => rfl)) pa_nil)) (pv 1)))
      (pss_cons (ps_asg (pe_op op_fdivW (pe_ix ix_list (pv 0) pe_int (fun _ _ => rfl)) (pv 1)) (pg_sub (pv 0) pe_int set_list))
      (pss_one (ps_ret (pv 2))))) pss_nil)
    (pss_cons (ps_asg (pe_op op_add (pe_ix ix_list (pv 0) pe_int (fun _ _ => rfl)) pe_int) (pg_sub (pv 0) pe_int set_list))
    (pss_cons (ps_set (i := 3) sc_next.nd rfl (Or.inl rfl) (pe_op op_mod (pe_callTy call_int1 (by rfl) mI bt_int (pa_cons (pe_op op_add (pe_op op_add (pe_ix ix_list (pv 0) pe_int (fun _ _ => rfl)) (pe_op op_mul pe_int (pe_ix ix_list (pv 0) pe_int (fun _ _ => rfl)))) pe_int) pa_nil)) pe_int))
    (pss_cons (ps_set (i := 3) sc_next.nd rfl (Or.inl rfl) (pe_op op_mod (pe_callTy call_int1 (by rfl) mI bt_int (pa_cons (pe_op op_mul (pv 3) pe_int) pa_nil)) pe_int))
    (pss_cons (ps_set (i := 3) sc_next.nd rfl (Or.inl rfl) (pe_op op_mod (pe_callTy call_int1 (by rfl) mI bt_int (pa_cons (pe_op op_mul (pv 3) (pe_op op_add (pe_op op_fdiv (pv 3) pe_int) pe_int)) pa_nil)) pe_int))
    (pss_cons (ps_set (i := 3) sc_next.nd rfl (Or.inl rfl) (pe_op op_mod (pe_callTy call_int1 (by rfl) mI bt_int (pa_cons (pe_op op_mul (pv 3) (pe_op op_add (pe_op op_fdiv (pv 3) pe_int) pe_int)) pa_nil)) pe_int))
    (pss_one (ps_ret (pe_op op_mod (pe_callTy call_int1 (by rfl) mI bt_int (pa_cons (pe_op op_fdiv (pv 3) pe_int) pa_nil)) (pv 1)))))))))), ?_⟩)
  · obtain ⟨p, o, many, rfl, _⟩ := h
    rfl
  · obtain ⟨p, o, many, rfl, hp, ⟨a, b, c, rfl⟩, h0, h1, k⟩ := h
    refine ⟨_, rfl, p, _, _, _, rfl, rfl, SqL.of hp, rfl, _, _, rfl, rfl, _, rfl, ?_⟩
    refine ite2 (fun _ => ?_) (fun _ => ?_)
    · refine ⟨_, rfl, p, _, _, _, rfl, rfl, SqL.of hp, rfl, .inl ⟨_, rfl, _, rfl, _, _, rfl, rfl, h0, ?_⟩⟩
      refine ⟨_, rfl, p, _, _, _, rfl, rfl, SqL.of hp, rfl, _, rfl, _, _, rfl, rfl, wide_div (b := 100) h0 (by omega) (by decide) (by decide), _, rfl, p, _, _, 0, rfl, rfl, hp, rfl, ?_⟩
      exact ⟨_, rfl, k _ _ ⟨_, _, _, rfl⟩ (Int.emod_nonneg _ (by omega)) (Int.emod_lt_of_pos _ h0)⟩
    · refine ⟨_, rfl, p, _, _, _, rfl, rfl, SqL.of hp, rfl, _, _, rfl, rfl, _, rfl, p, _, _, 2, rfl, rfl, hp, rfl, ?_⟩
      have hp' : upd H p (.lst ([V.int a, .int b, .int c].set 2 (.int (c + 1)))) p = some (.lst [.int a, .int b, .int (c + 1)]) := upd_same
      refine ⟨_, rfl, p, _, _, _, rfl, rfl, SqL.of hp', rfl, _, rfl, p, _, _, _, rfl, rfl, SqL.of hp', rfl, _, _, rfl, rfl, .inl (by decide), _, _, rfl, rfl, _, _, rfl, rfl, .inl ⟨_, rfl, _, _, rfl, rfl, (by show (0 : Int) < 2147483647; decide), ?_⟩⟩
      refine ⟨_, rfl, _, _, rfl, rfl, .inl (mb _), .inl ⟨_, rfl, _, _, rfl, rfl, (by show (0 : Int) < 2147483647; decide), ?_⟩⟩
      refine ⟨_, rfl, _, rfl, _, _, rfl, rfl, ⟨by decide, by decide⟩, _, _, rfl, rfl, _, _, rfl, rfl, .inl (mb _), .inl ⟨_, rfl, _, _, rfl, rfl, (by show (0 : Int) < 2147483647; decide), ?_⟩⟩
      refine ⟨_, rfl, _, rfl, _, _, rfl, rfl, ⟨by decide, by decide⟩, _, _, rfl, rfl, _, _, rfl, rfl, .inl (mb _), .inl ⟨_, rfl, _, _, rfl, rfl, (by show (0 : Int) < 2147483399; decide), ?_⟩⟩
      refine ⟨_, rfl, _, _, rfl, rfl, ⟨by decide, by decide⟩, .inl ⟨_, rfl, _, rfl, _, _, rfl, rfl, h0, ?_⟩⟩
      exact k _ _ ⟨_, _, _, rfl⟩ (Int.emod_nonneg _ (by omega)) (Int.emod_lt_of_pos _ h0)
theorem sc_one : FnScope ["_law_source", "_law_some"] ["_law_source", "_law_some"] (defScope s_law_one) := ⟨rfl, rfl, rfl, by decide +kernel, rfl, by decide +kernel, by decide +kernel⟩
theorem ok_one {fN : Addr} {fdN : FuncData} (F : FnP K "_law_one" s_law_one f fd) (FN : FnP K "_law_next" s_law_next fN fdN) (gN : mg "_law_next" = some (.ref fN)) (mI : mg "int" = none) (mL : mg "len" = none) : FnOk P w K mg base CX0 2 f fd ["_law_source", "_law_some"] (spOne K) := by
  have GN : FnOk P w K mg base CX0 1 fN fdN ["_law_source", "_law_many"] spNext := ok_next FN mI
  have bN : Binds K fdN ["_law_source", "_law_many"] [] := FN.bindsN fun _ _ _ _ _ _ us hl => match us, hl with | [_, _], _ => rfl
  refine F.ok sc_one (fun vs H Q E h => ?_) (fun cdv A outer s H vs Q E hr h => ⟨_, PSs.nox (pss_one (ps_ret (pe_ix ix_list (pv 1) (pe_call GN hr rfl gN FN.kp bN .nil pass0 (pa_cons (pv 0) (pa_cons (pe_callB call_len_seq (by rfl) mL PySem.boot_len (pa_cons (pv 1) pa_nil)) pa_nil))) (fun _ _ => rfl)))), ?_⟩)
  · obtain ⟨p, q, o, xs, rfl, _⟩ := h
    rfl
  · obtain ⟨p, q, o, xs, rfl, hp, ho, hq, h0, h1, hk, k⟩ := h
    refine ⟨_, rfl, _, rfl, _, rfl, q, xs, rfl, .inl hq, p, o, (xs.length : Int), rfl, hp, ho, by omega, by omega, fun o' r ho' r0 r1 => ?_⟩
    obtain ⟨j, rfl⟩ : ∃ j : Nat, r = (j : Int) := ⟨r.toNat, by omega⟩
    have hj : j < xs.length := by omega
    refine ⟨q, xs, (j : Int), xs[j], rfl, rfl, hk o', atI_nat (List.getElem?_eq_getElem hj), ?_⟩
    exact k o' j _ ho' (List.getElem?_eq_getElem hj)
end
end K45
set_option Elab.async false
set_option linter.all false
set_option maxRecDepth 100000
set_option maxHeartbeats 4000000
namespace K45
open PySem PySem.Spec PyProof.Rows L2 PySem.ErX
/-- what is known of the classes -/
structure Cl (prog : Program) (K : PySem.W.Frag) (mg : Str → Option Value) : Prop where
  g : ∀ n ∈ allN, mg n = some (.ref (He.ga K n))
  i : ∀ n ∈ allN, ErrI K (He.ga K n)
  kit : ∀ n ∈ allN, ∀ m ∈ allN, PySem.W.kitOne K (.ref (He.ga K n)) (.ref (He.ga K m)) = some (n == m)
  gA : mg "AskError" = some (.ref (He.ga K "AskError"))
  kA : ∀ n ∈ allN, PySem.W.kitOne K (.ref (He.ga K n)) (.ref (He.ga K "AskError")) = some true
  kV : ∀ n ∈ allN, PySem.W.kitOne K (.ref (He.ga K n)) (.type "ValueError") = some true
theorem in_BadOperations : ("BadOperations" : Str) ∈ allN := by decide
theorem in_BadBody : ("BadBody" : Str) ∈ allN := by decide
theorem in_BadStart : ("BadStart" : Str) ∈ allN := by decide
theorem in_NoRow : ("NoRow" : Str) ∈ allN := by decide
theorem in_BadOthers : ("BadOthers" : Str) ∈ allN := by decide
theorem in_BadHistory : ("BadHistory" : Str) ∈ allN := by decide
theorem in_BadSizes : ("BadSizes" : Str) ∈ allN := by decide
theorem in_BadProgram : ("BadProgram" : Str) ∈ allN := by decide
theorem in_BadHandler : ("BadHandler" : Str) ∈ allN := by decide
theorem in_Mismatch : ("Mismatch" : Str) ∈ allN := by decide
theorem in_TooMany : ("TooMany" : Str) ∈ allN := by decide
theorem in_Parted : ("Parted" : Str) ∈ allN := by decide
theorem in_NoState : ("NoState" : Str) ∈ allN := by decide
theorem in_NoOperation : ("NoOperation" : Str) ∈ allN := by decide
theorem in_Apart : ("Apart" : Str) ∈ allN := by decide
theorem in_BadAnswer : ("BadAnswer" : Str) ∈ allN := by decide
theorem in_BadChoices : ("BadChoices" : Str) ∈ allN := by decide
theorem in_BadCount : ("BadCount" : Str) ∈ allN := by decide
theorem in_NoIndex : ("NoIndex" : Str) ∈ allN := by decide
theorem in_Endless : ("Endless" : Str) ∈ allN := by decide
theorem in_BadHandlers : ("BadHandlers" : Str) ∈ allN := by decide
theorem in_BadWork : ("BadWork" : Str) ∈ allN := by decide
theorem in_NoEntry : ("NoEntry" : Str) ∈ allN := by decide
theorem in_Recursive : ("Recursive" : Str) ∈ allN := by decide
theorem in_TooLong : ("TooLong" : Str) ∈ allN := by decide
theorem in_NoText : ("NoText" : Str) ∈ allN := by decide
def spKinds (K : PySem.W.Frag) : Sp := fun vs H Q _ => ∃ (a : Addr) (n : Str), vs = [.ref a] ∧ n ∈ allN ∧ ErrAt H a (He.ga K n) ∧ ∀ (H' : Hp) (l : Addr), Same H H' → H l = none → H' l = some (.lst [.bl (n == "BadOperations"), .bl (n == "BadBody"), .bl (n == "BadStart"), .bl (n == "NoRow"), .bl (n == "BadOthers"), .bl (n == "BadHistory"), .bl (n == "BadSizes"), .bl (n == "BadProgram"), .bl (n == "BadHandler"), .bl (n == "Mismatch"), .bl (n == "TooMany"), .bl (n == "Parted"), .bl (n == "NoState"), .bl (n == "NoOperation"), .bl (n == "Apart"), .bl (n == "BadAnswer"), .bl (n == "BadChoices"), .bl (n == "BadCount"), .bl (n == "NoIndex"), .bl (n == "Endless"), .bl (n == "BadHandlers"), .bl (n == "BadWork"), .bl (n == "NoEntry"), .bl (n == "Recursive"), .bl (n == "TooLong"), .bl (n == "NoText")]) → Q (.ref l) H'
section
variable {P : Program} {w : World} {K : PySem.W.Frag} {mg : Str → Option Value} {base : Heap} {f : Addr} {fd : FuncData}
theorem sc_kinds : FnScope ["_law_e", "_law_found"] ["_law_e"] (defScope s_law_kinds) := ⟨rfl, rfl, rfl, by decide +kernel, rfl, by decide +kernel, by decide +kernel⟩
theorem ok_kinds (F : FnP K "_law_kinds" s_law_kinds f fd) (T : Cl P K mg) (mIs : mg "isinstance" = none) : FnOk P w K mg base CX0 1 f fd ["_law_e"] (spKinds K) := by
  refine F.ok sc_kinds (fun vs H Q E h => ?_) (fun cdv A outer s H vs Q E hr h => ⟨_, PSs.nox (Evl.pss_cut (ps_set (i := 1) sc_kinds.nd rfl (Or.inl rfl) (pe_lst (pa_cons (pe_callB call_isErr (by rfl) mIs PyProof.Rows.boot_isinstance (pa_cons (pv 0) (pa_cons (pe_glob (v := .ref _) (by rfl) (T.g _ in_BadOperations) rfl) pa_nil))) (pa_cons (pe_callB call_isErr (by rfl) mIs PyProof.Rows.boot_isinstance (pa_cons (pv 0) (pa_cons (pe_glob (v := .ref _) (by rfl) (T.g _ in_BadBody) rfl) pa_nil))) (pa_cons (pe_callB call_isErr (by rfl) mIs PyProof.Rows.boot_isinstance (pa_cons (pv 0) (pa_cons (pe_glob (v := .ref _) (by rfl) (T.g _ in_BadStart) rfl) pa_nil))) (pa_cons (pe_callB call_isErr (by rfl) mIs PyProof.Rows.boot_isinstance (pa_cons (pv 0) (pa_cons (pe_glob (v := .ref _) (by rfl) (T.g _ in_NoRow) rfl) pa_nil))) pa_nil))))))
      (Evl.pss_cut (ps_set (i := 1) sc_kinds.nd rfl (Or.inl rfl) (pe_op op_cat (pv 1) (pe_lst (pa_cons (pe_callB call_isErr (by rfl) mIs PyProof.Rows.boot_isinstance (pa_cons (pv 0) (pa_cons (pe_glob (v := .ref _) (by rfl) (T.g _ in_BadOthers) rfl) pa_nil))) (pa_cons (pe_callB call_isErr (by rfl) mIs PyProof.Rows.boot_isinstance (pa_cons (pv 0) (pa_cons (pe_glob (v := .ref _) (by rfl) (T.g _ in_BadHistory) rfl) pa_nil))) (pa_cons (pe_callB call_isErr (by rfl) mIs PyProof.Rows.boot_isinstance (pa_cons (pv 0) (pa_cons (pe_glob (v := .ref _) (by rfl) (T.g _ in_BadSizes) rfl) pa_nil))) pa_nil))))))
      (Evl.pss_cut (ps_set (i := 1) sc_kinds.nd rfl (Or.inl rfl) (pe_op op_cat (pv 1) (pe_lst (pa_cons (pe_callB call_isErr (by rfl) mIs PyProof.Rows.boot_isinstance (pa_cons (pv 0) (pa_cons (pe_glob (v := .ref _) (by rfl) (T.g _ in_BadProgram) rfl) pa_nil))) (pa_cons (pe_callB call_isErr (by rfl) mIs PyProof.Rows.boot_isinstance (pa_cons (pv 0) (pa_cons (pe_glob (v := .ref _) (by rfl) (T.g _ in_BadHandler) rfl) pa_nil))) (pa_cons (pe_callB call_isErr (by rfl) mIs PyProof.Rows.boot_isinstance (pa_cons (pv 0) (pa_cons (pe_glob (v := .ref _) (by rfl) (T.g _ in_Mismatch) rfl) pa_nil))) pa_nil))))))
      (Evl.pss_cut (ps_set (i := 1) sc_kinds.nd rfl (Or.inl rfl) (pe_op op_cat (pv 1) (pe_lst (pa_cons (pe_callB call_isErr (by rfl) mIs PyProof.Rows.boot_isinstance (pa_cons (pv 0) (pa_cons (pe_glob (v := .ref _) (by rfl) (T.g _ in_TooMany) rfl) pa_nil))) (pa_cons (pe_callB call_isErr (by rfl) mIs PyProof.Rows.boot_isinstance (pa_cons (pv 0) (pa_cons (pe_glob (v := .ref _) (by rfl) (T.g _ in_Parted) rfl) pa_nil))) (pa_cons (pe_callB call_isErr (by rfl) mIs PyProof.Rows.boot_isinstance (pa_cons (pv 0) (pa_cons (pe_glob (v := .ref _) (by rfl) (T.g _ in_NoState) rfl) pa_nil))) pa_nil))))))
      (Evl.pss_cut (ps_set (i := 1) sc_kinds.nd rfl (Or.inl rfl) (pe_op op_cat (pv 1) (pe_lst (pa_cons (pe_callB call_isErr (by rfl) mIs PyProof.Rows.boot_isinstance (pa_cons (pv 0) (pa_cons (pe_glob (v := .ref _) (by rfl) (T.g _ in_NoOperation) rfl) pa_nil))) (pa_cons (pe_callB call_isErr (by rfl) mIs PyProof.Rows.boot_isinstance (pa_cons (pv 0) (pa_cons (pe_glob (v := .ref _) (by rfl) (T.g _ in_Apart) rfl) pa_nil))) (pa_cons (pe_callB call_isErr (by rfl) mIs PyProof.Rows.boot_isinstance (pa_cons (pv 0) (pa_cons (pe_glob (v := .ref _) (by rfl) (T.g _ in_BadAnswer) rfl) pa_nil))) pa_nil))))))
      (Evl.pss_cut (ps_set (i := 1) sc_kinds.nd rfl (Or.inl rfl) (pe_op op_cat (pv 1) (pe_lst (pa_cons (pe_callB call_isErr (by rfl) mIs PyProof.Rows.boot_isinstance (pa_cons (pv 0) (pa_cons (pe_glob (v := .ref _) (by rfl) (T.g _ in_BadChoices) rfl) pa_nil))) (pa_cons (pe_callB call_isErr (by rfl) mIs PyProof.Rows.boot_isinstance (pa_cons (pv 0) (pa_cons (pe_glob (v := .ref _) (by rfl) (T.g _ in_BadCount) rfl) pa_nil))) (pa_cons (pe_callB call_isErr (by rfl) mIs PyProof.Rows.boot_isinstance (pa_cons (pv 0) (pa_cons (pe_glob (v := .ref _) (by rfl) (T.g _ in_NoIndex) rfl) pa_nil))) pa_nil))))))
      (Evl.pss_cut (ps_set (i := 1) sc_kinds.nd rfl (Or.inl rfl) (pe_op op_cat (pv 1) (pe_lst (pa_cons (pe_callB call_isErr (by rfl) mIs PyProof.Rows.boot_isinstance (pa_cons (pv 0) (pa_cons (pe_glob (v := .ref _) (by rfl) (T.g _ in_Endless) rfl) pa_nil))) (pa_cons (pe_callB call_isErr (by rfl) mIs PyProof.Rows.boot_isinstance (pa_cons (pv 0) (pa_cons (pe_glob (v := .ref _) (by rfl) (T.g _ in_BadHandlers) rfl) pa_nil))) (pa_cons (pe_callB call_isErr (by rfl) mIs PyProof.Rows.boot_isinstance (pa_cons (pv 0) (pa_cons (pe_glob (v := .ref _) (by rfl) (T.g _ in_BadWork) rfl) pa_nil))) pa_nil))))))
      (pss_one (ps_ret (pe_op op_cat (pv 1) (pe_lst (pa_cons (pe_callB call_isErr (by rfl) mIs PyProof.Rows.boot_isinstance (pa_cons (pv 0) (pa_cons (pe_glob (v := .ref _) (by rfl) (T.g _ in_NoEntry) rfl) pa_nil))) (pa_cons (pe_callB call_isErr (by rfl) mIs PyProof.Rows.boot_isinstance (pa_cons (pv 0) (pa_cons (pe_glob (v := .ref _) (by rfl) (T.g _ in_Recursive) rfl) pa_nil))) (pa_cons (pe_callB call_isErr (by rfl) mIs PyProof.Rows.boot_isinstance (pa_cons (pv 0) (pa_cons (pe_glob (v := .ref _) (by rfl) (T.g _ in_TooLong) rfl) pa_nil))) (pa_cons (pe_callB call_isErr (by rfl) mIs PyProof.Rows.boot_isinstance (pa_cons (pv 0) (pa_cons (pe_glob (v := .ref _) (by rfl) (T.g _ in_NoText) rfl) pa_nil))) pa_nil))))))))))))))), ?_⟩)
  · obtain ⟨a, n, rfl, _⟩ := h
    rfl
  · obtain ⟨a, n, rfl, hn, hE0, k⟩ := h
    have hE := hE0
    refine ⟨fun σ' H' => ∃ l, σ' = [some (.ref a), some (.ref l)] ∧ Same H H' ∧ H l = none ∧ H' l = some (.lst [.bl (n == "BadOperations"), .bl (n == "BadBody"), .bl (n == "BadStart"), .bl (n == "NoRow")]), ?_, ?_⟩
    · refine ⟨_, rfl, a, _, _, _, _, rfl, .own _, T.i n hn, hE, T.kit n hn _ in_BadOperations, _, rfl, a, _, _, _, _, rfl, .own _, T.i n hn, hE, T.kit n hn _ in_BadBody, _, rfl, a, _, _, _, _, rfl, .own _, T.i n hn, hE, T.kit n hn _ in_BadStart, _, rfl, a, _, _, _, _, rfl, .own _, T.i n hn, hE, T.kit n hn _ in_NoRow, (by show 4 ≤ sizeLine; decide), fun l hl => ?_⟩
      exact ⟨l, rfl, same_new hl, hl, upd_same⟩
    rintro σ1 H1 ⟨l1, rfl, S1, N1, L1⟩
    replace hE := ErrAt.mono S1 hE0
    refine ⟨fun σ' H' => ∃ l, σ' = [some (.ref a), some (.ref l)] ∧ Same H H' ∧ H l = none ∧ H' l = some (.lst [.bl (n == "BadOperations"), .bl (n == "BadBody"), .bl (n == "BadStart"), .bl (n == "NoRow"), .bl (n == "BadOthers"), .bl (n == "BadHistory"), .bl (n == "BadSizes")]), ?_, ?_⟩
    · refine ⟨_, rfl, _, rfl, a, _, _, _, _, rfl, .own _, T.i n hn, hE, T.kit n hn _ in_BadOthers, _, rfl, a, _, _, _, _, rfl, .own _, T.i n hn, hE, T.kit n hn _ in_BadHistory, _, rfl, a, _, _, _, _, rfl, .own _, T.i n hn, hE, T.kit n hn _ in_BadSizes, (by show 3 ≤ sizeLine; decide), fun l hl => ⟨l1, l, _, _, rfl, rfl, (same_new hl) _ _ L1, upd_same, (by show 4 + 3 ≤ sizeLine; decide), fun l' hl' => ?_⟩⟩
      exact ⟨l', rfl, S1.trans ((same_new hl).trans (same_new hl')), S1.free ((same_new hl).free hl'), upd_same⟩
    rintro σ2 H2 ⟨l2, rfl, S2, N2, L2⟩
    replace hE := ErrAt.mono S2 hE0
    refine ⟨fun σ' H' => ∃ l, σ' = [some (.ref a), some (.ref l)] ∧ Same H H' ∧ H l = none ∧ H' l = some (.lst [.bl (n == "BadOperations"), .bl (n == "BadBody"), .bl (n == "BadStart"), .bl (n == "NoRow"), .bl (n == "BadOthers"), .bl (n == "BadHistory"), .bl (n == "BadSizes"), .bl (n == "BadProgram"), .bl (n == "BadHandler"), .bl (n == "Mismatch")]), ?_, ?_⟩
    · refine ⟨_, rfl, _, rfl, a, _, _, _, _, rfl, .own _, T.i n hn, hE, T.kit n hn _ in_BadProgram, _, rfl, a, _, _, _, _, rfl, .own _, T.i n hn, hE, T.kit n hn _ in_BadHandler, _, rfl, a, _, _, _, _, rfl, .own _, T.i n hn, hE, T.kit n hn _ in_Mismatch, (by show 3 ≤ sizeLine; decide), fun l hl => ⟨l2, l, _, _, rfl, rfl, (same_new hl) _ _ L2, upd_same, (by show 7 + 3 ≤ sizeLine; decide), fun l' hl' => ?_⟩⟩
      exact ⟨l', rfl, S2.trans ((same_new hl).trans (same_new hl')), S2.free ((same_new hl).free hl'), upd_same⟩
    rintro σ3 H3 ⟨l3, rfl, S3, N3, L3⟩
    replace hE := ErrAt.mono S3 hE0
    refine ⟨fun σ' H' => ∃ l, σ' = [some (.ref a), some (.ref l)] ∧ Same H H' ∧ H l = none ∧ H' l = some (.lst [.bl (n == "BadOperations"), .bl (n == "BadBody"), .bl (n == "BadStart"), .bl (n == "NoRow"), .bl (n == "BadOthers"), .bl (n == "BadHistory"), .bl (n == "BadSizes"), .bl (n == "BadProgram"), .bl (n == "BadHandler"), .bl (n == "Mismatch"), .bl (n == "TooMany"), .bl (n == "Parted"), .bl (n == "NoState")]), ?_, ?_⟩
    · refine ⟨_, rfl, _, rfl, a, _, _, _, _, rfl, .own _, T.i n hn, hE, T.kit n hn _ in_TooMany, _, rfl, a, _, _, _, _, rfl, .own _, T.i n hn, hE, T.kit n hn _ in_Parted, _, rfl, a, _, _, _, _, rfl, .own _, T.i n hn, hE, T.kit n hn _ in_NoState, (by show 3 ≤ sizeLine; decide), fun l hl => ⟨l3, l, _, _, rfl, rfl, (same_new hl) _ _ L3, upd_same, (by show 10 + 3 ≤ sizeLine; decide), fun l' hl' => ?_⟩⟩
      exact ⟨l', rfl, S3.trans ((same_new hl).trans (same_new hl')), S3.free ((same_new hl).free hl'), upd_same⟩
    rintro σ4 H4 ⟨l4, rfl, S4, N4, L4⟩
    replace hE := ErrAt.mono S4 hE0
    refine ⟨fun σ' H' => ∃ l, σ' = [some (.ref a), some (.ref l)] ∧ Same H H' ∧ H l = none ∧ H' l = some (.lst [.bl (n == "BadOperations"), .bl (n == "BadBody"), .bl (n == "BadStart"), .bl (n == "NoRow"), .bl (n == "BadOthers"), .bl (n == "BadHistory"), .bl (n == "BadSizes"), .bl (n == "BadProgram"), .bl (n == "BadHandler"), .bl (n == "Mismatch"), .bl (n == "TooMany"), .bl (n == "Parted"), .bl (n == "NoState"), .bl (n == "NoOperation"), .bl (n == "Apart"), .bl (n == "BadAnswer")]), ?_, ?_⟩
    · refine ⟨_, rfl, _, rfl, a, _, _, _, _, rfl, .own _, T.i n hn, hE, T.kit n hn _ in_NoOperation, _, rfl, a, _, _, _, _, rfl, .own _, T.i n hn, hE, T.kit n hn _ in_Apart, _, rfl, a, _, _, _, _, rfl, .own _, T.i n hn, hE, T.kit n hn _ in_BadAnswer, (by show 3 ≤ sizeLine; decide), fun l hl => ⟨l4, l, _, _, rfl, rfl, (same_new hl) _ _ L4, upd_same, (by show 13 + 3 ≤ sizeLine; decide), fun l' hl' => ?_⟩⟩
      exact ⟨l', rfl, S4.trans ((same_new hl).trans (same_new hl')), S4.free ((same_new hl).free hl'), upd_same⟩
    rintro σ5 H5 ⟨l5, rfl, S5, N5, L5⟩
    replace hE := ErrAt.mono S5 hE0
    refine ⟨fun σ' H' => ∃ l, σ' = [some (.ref a), some (.ref l)] ∧ Same H H' ∧ H l = none ∧ H' l = some (.lst [.bl (n == "BadOperations"), .bl (n == "BadBody"), .bl (n == "BadStart"), .bl (n == "NoRow"), .bl (n == "BadOthers"), .bl (n == "BadHistory"), .bl (n == "BadSizes"), .bl (n == "BadProgram"), .bl (n == "BadHandler"), .bl (n == "Mismatch"), .bl (n == "TooMany"), .bl (n == "Parted"), .bl (n == "NoState"), .bl (n == "NoOperation"), .bl (n == "Apart"), .bl (n == "BadAnswer"), .bl (n == "BadChoices"), .bl (n == "BadCount"), .bl (n == "NoIndex")]), ?_, ?_⟩
    · refine ⟨_, rfl, _, rfl, a, _, _, _, _, rfl, .own _, T.i n hn, hE, T.kit n hn _ in_BadChoices, _, rfl, a, _, _, _, _, rfl, .own _, T.i n hn, hE, T.kit n hn _ in_BadCount, _, rfl, a, _, _, _, _, rfl, .own _, T.i n hn, hE, T.kit n hn _ in_NoIndex, (by show 3 ≤ sizeLine; decide), fun l hl => ⟨l5, l, _, _, rfl, rfl, (same_new hl) _ _ L5, upd_same, (by show 16 + 3 ≤ sizeLine; decide), fun l' hl' => ?_⟩⟩
      exact ⟨l', rfl, S5.trans ((same_new hl).trans (same_new hl')), S5.free ((same_new hl).free hl'), upd_same⟩
    rintro σ6 H6 ⟨l6, rfl, S6, N6, L6⟩
    replace hE := ErrAt.mono S6 hE0
    refine ⟨fun σ' H' => ∃ l, σ' = [some (.ref a), some (.ref l)] ∧ Same H H' ∧ H l = none ∧ H' l = some (.lst [.bl (n == "BadOperations"), .bl (n == "BadBody"), .bl (n == "BadStart"), .bl (n == "NoRow"), .bl (n == "BadOthers"), .bl (n == "BadHistory"), .bl (n == "BadSizes"), .bl (n == "BadProgram"), .bl (n == "BadHandler"), .bl (n == "Mismatch"), .bl (n == "TooMany"), .bl (n == "Parted"), .bl (n == "NoState"), .bl (n == "NoOperation"), .bl (n == "Apart"), .bl (n == "BadAnswer"), .bl (n == "BadChoices"), .bl (n == "BadCount"), .bl (n == "NoIndex"), .bl (n == "Endless"), .bl (n == "BadHandlers"), .bl (n == "BadWork")]), ?_, ?_⟩
    · refine ⟨_, rfl, _, rfl, a, _, _, _, _, rfl, .own _, T.i n hn, hE, T.kit n hn _ in_Endless, _, rfl, a, _, _, _, _, rfl, .own _, T.i n hn, hE, T.kit n hn _ in_BadHandlers, _, rfl, a, _, _, _, _, rfl, .own _, T.i n hn, hE, T.kit n hn _ in_BadWork, (by show 3 ≤ sizeLine; decide), fun l hl => ⟨l6, l, _, _, rfl, rfl, (same_new hl) _ _ L6, upd_same, (by show 19 + 3 ≤ sizeLine; decide), fun l' hl' => ?_⟩⟩
      exact ⟨l', rfl, S6.trans ((same_new hl).trans (same_new hl')), S6.free ((same_new hl).free hl'), upd_same⟩
    rintro σ7 H7 ⟨l7, rfl, S7, N7, L7⟩
    replace hE := ErrAt.mono S7 hE0
    refine ⟨_, rfl, _, rfl, a, _, _, _, _, rfl, .own _, T.i n hn, hE, T.kit n hn _ in_NoEntry, _, rfl, a, _, _, _, _, rfl, .own _, T.i n hn, hE, T.kit n hn _ in_Recursive, _, rfl, a, _, _, _, _, rfl, .own _, T.i n hn, hE, T.kit n hn _ in_TooLong, _, rfl, a, _, _, _, _, rfl, .own _, T.i n hn, hE, T.kit n hn _ in_NoText, (by show 4 ≤ sizeLine; decide), fun l hl => ⟨l7, l, _, _, rfl, rfl, (same_new hl) _ _ L7, upd_same, (by show 22 + 4 ≤ sizeLine; decide), fun l' hl' => ?_⟩⟩
    exact k _ l' (S7.trans ((same_new hl).trans (same_new hl'))) (S7.free ((same_new hl).free hl')) upd_same
end
end K45
set_option Elab.async false
set_option linter.all false
set_option maxRecDepth 100000
set_option maxHeartbeats 4000000
namespace K45
open PySem PySem.Spec PyProof.Rows L2 PySem.ErX
def fieldOf (n : Str) : Option Str := ([("BadBody", "index"), ("BadStart", "index"), ("NoRow", "index"), ("BadHistory", "index"), ("BadProgram", "place"), ("BadHandler", "part"), ("Mismatch", "operation"), ("TooMany", "many"), ("Parted", "history"), ("NoState", "state"), ("NoOperation", "operation"), ("Apart", "asks"), ("BadAnswer", "answer"), ("BadChoices", "index"), ("BadCount", "many"), ("NoIndex", "index"), ("BadWork", "place"), ("Recursive", "function"), ("TooLong", "many"), ("NoText", "line")] : List (Str × Str)).lookup n
/-- an error of the class n, made of v -/
def ErrV (K : PySem.W.Frag) (v : V) (H : Hp) (a : Addr) (n : Str) : Prop := ErrAt H a (He.ga K n) ∧ ∀ f, fieldOf n = some f → ErrF H a (He.ga K n) f v
theorem ErrV.mono {K : PySem.W.Frag} {v : V} {H H' : Hp} {a : Addr} {n : Str} (s : Same H H') (h : ErrV K v H a n) : ErrV K v H' a n := ⟨ErrAt.mono s h.1, fun f e => ErrF.mono s (h.2 f e)⟩
theorem errV_of {K : PySem.W.Frag} {v : V} {H : Hp} {a : Addr} {n f : Str} (e : fieldOf n = some f) (h : ErrF H a (He.ga K n) f v) : ErrV K v H a n := ⟨h.at, fun g q => by
  rw [e] at q
  cases q
  exact h⟩
theorem errV_0 {K : PySem.W.Frag} {v : V} {H : Hp} {a : Addr} {n : Str} (e : fieldOf n = none) (h : ErrAt H a (He.ga K n)) : ErrV K v H a n := ⟨h, fun g q => by
  rw [e] at q
  cases q⟩
/-- errors of these classes, made of v, one behind another -/
def Errs (K : PySem.W.Frag) (v : V) (H : Hp) : List Addr → List Str → Prop
  | [], [] => True
  | a :: as, n :: ns => ErrV K v H a n ∧ Errs K v H as ns
  | _, _ => False
theorem Errs.mono {K : PySem.W.Frag} {v : V} {H H' : Hp} (s : Same H H') : ∀ {as : List Addr} {ns : List Str}, Errs K v H as ns → Errs K v H' as ns
  | [], [], _ => trivial
  | [], _ :: _, h => h.elim
  | _ :: _, [], h => h.elim
  | _ :: _, _ :: _, h => ⟨ErrV.mono s h.1, Errs.mono s h.2⟩
theorem Errs.append {K : PySem.W.Frag} {v : V} {H : Hp} : ∀ {as bs : List Addr} {ns ms : List Str}, Errs K v H as ns → Errs K v H bs ms → Errs K v H (as ++ bs) (ns ++ ms)
  | [], _, [], _, _, h => h
  | [], _, _ :: _, _, h, _ => h.elim
  | _ :: _, _, [], _, h, _ => h.elim
  | _ :: _, _, _ :: _, _, h, h2 => ⟨h.1, Errs.append h.2 h2⟩
theorem Errs.len {K : PySem.W.Frag} {v : V} {H : Hp} : ∀ {as : List Addr} {ns : List Str}, Errs K v H as ns → as.length = ns.length
  | [], [], _ => rfl
  | [], _ :: _, h => h.elim
  | _ :: _, [], h => h.elim
  | _ :: as, _ :: ns, h => congrArg Nat.succ (Errs.len h.2)
theorem Errs.at {K : PySem.W.Frag} {v : V} {H : Hp} : ∀ {as : List Addr} {ns : List Str} {i : Nat} {a : Addr}, Errs K v H as ns → as[i]? = some a → ∃ n, ns[i]? = some n ∧ ErrV K v H a n
  | [], [], i, a, _, e => by simp at e
  | [], _ :: _, _, _, h, _ => h.elim
  | _ :: _, [], _, _, h, _ => h.elim
  | b :: as, n :: ns, 0, a, h, e => by
    have e' : b = a := Option.some.inj e
    subst e'
    exact ⟨n, rfl, h.1⟩
  | b :: as, n :: ns, i + 1, a, h, e => Errs.at (as := as) (ns := ns) (i := i) h.2 e
/-- the i-th one, by its class -/
theorem Errs.ix {K : PySem.W.Frag} {v : V} {H : Hp} {as : List Addr} {ns : List Str} (h : Errs K v H as ns) (i : Nat) (n f : Str) (e : ns[i]? = some n) (ef : fieldOf n = some f) : ∃ a, atI (as.map V.ref) (i : Nat) = some (.ref a) ∧ ErrF H a (He.ga K n) f v := by
  have hi : i < as.length := by
    rw [h.len]
    exact (List.getElem?_eq_some_iff.mp e).1
  obtain ⟨m, hm, hv⟩ := h.at (List.getElem?_eq_getElem hi)
  rw [e] at hm
  cases hm
  exact ⟨as[i], atI_nat (by rw [List.getElem?_map, List.getElem?_eq_getElem hi]; rfl), hv.2 f ef⟩
structure Mks (P : Program) (K : PySem.W.Frag) (mg : Str → Option Value) : Prop where
  xBadOperations : PySem.W.excIn K (He.ga K "BadOperations") PySem.HandSPX.veTail "ValueError.__new__" = true
  kBadOperations : PySem.W.keepIn K (.ref (He.ga K "BadOperations")) = true
  tBadBody : ErrTxt P K mg (He.ga K "BadBody") (He.ma K (He.ga K "BadBody") "__init__") "index"
  tBadStart : ErrTxt P K mg (He.ga K "BadStart") (He.ma K (He.ga K "BadStart") "__init__") "index"
  tNoRow : ErrTxt P K mg (He.ga K "NoRow") (He.ma K (He.ga K "NoRow") "__init__") "index"
  xBadOthers : PySem.W.excIn K (He.ga K "BadOthers") PySem.HandSPX.veTail "ValueError.__new__" = true
  kBadOthers : PySem.W.keepIn K (.ref (He.ga K "BadOthers")) = true
  tBadHistory : ErrTxt P K mg (He.ga K "BadHistory") (He.ma K (He.ga K "BadHistory") "__init__") "index"
  xBadSizes : PySem.W.excIn K (He.ga K "BadSizes") PySem.HandSPX.veTail "ValueError.__new__" = true
  kBadSizes : PySem.W.keepIn K (.ref (He.ga K "BadSizes")) = true
  tBadProgram : ErrTxt P K mg (He.ga K "BadProgram") (He.ma K (He.ga K "BadProgram") "__init__") "place"
  tBadHandler : ErrTxt P K mg (He.ga K "BadHandler") (He.ma K (He.ga K "BadHandler") "__init__") "part"
  tMismatch : ErrTxt P K mg (He.ga K "Mismatch") (He.ma K (He.ga K "Mismatch") "__init__") "operation"
  tTooMany : ErrTxt P K mg (He.ga K "TooMany") (He.ma K (He.ga K "TooMany") "__init__") "many"
  tParted : ErrTxt P K mg (He.ga K "Parted") (He.ma K (He.ga K "Parted") "__init__") "history"
  tNoState : ErrTxt P K mg (He.ga K "NoState") (He.ma K (He.ga K "NoState") "__init__") "state"
  tNoOperation : ErrTxt P K mg (He.ga K "NoOperation") (He.ma K (He.ga K "NoOperation") "__init__") "operation"
  tApart : ErrTxt P K mg (He.ga K "Apart") (He.ma K (He.ga K "Apart") "__init__") "asks"
  tBadAnswer : ErrTxt P K mg (He.ga K "BadAnswer") (He.ma K (He.ga K "BadAnswer") "__init__") "answer"
  tBadChoices : ErrTxt P K mg (He.ga K "BadChoices") (He.ma K (He.ga K "BadChoices") "__init__") "index"
  tBadCount : ErrTxt P K mg (He.ga K "BadCount") (He.ma K (He.ga K "BadCount") "__init__") "many"
  tNoIndex : ErrTxt P K mg (He.ga K "NoIndex") (He.ma K (He.ga K "NoIndex") "__init__") "index"
  xEndless : PySem.W.excIn K (He.ga K "Endless") PySem.HandSPX.veTail "ValueError.__new__" = true
  kEndless : PySem.W.keepIn K (.ref (He.ga K "Endless")) = true
  xBadHandlers : PySem.W.excIn K (He.ga K "BadHandlers") PySem.HandSPX.veTail "ValueError.__new__" = true
  kBadHandlers : PySem.W.keepIn K (.ref (He.ga K "BadHandlers")) = true
  tBadWork : ErrTxt P K mg (He.ga K "BadWork") (He.ma K (He.ga K "BadWork") "__init__") "place"
  xNoEntry : PySem.W.excIn K (He.ga K "NoEntry") PySem.HandSPX.veTail "ValueError.__new__" = true
  kNoEntry : PySem.W.keepIn K (.ref (He.ga K "NoEntry")) = true
  tRecursive : ErrTxt P K mg (He.ga K "Recursive") (He.ma K (He.ga K "Recursive") "__init__") "function"
  tTooLong : ErrTxt P K mg (He.ga K "TooLong") (He.ma K (He.ga K "TooLong") "__init__") "many"
  tNoText : ErrTxt P K mg (He.ga K "NoText") (He.ma K (He.ga K "NoText") "__init__") "line"
def spBy (K : PySem.W.Frag) : Sp := fun vs H Q _ => ∃ v : V, vs = [v] ∧ ∀ (H' : Hp) (l : Addr) (as : List Addr), Same H H' → H l = none → H' l = some (.lst (as.map V.ref)) → Errs K v H' as allN → Q (.ref l) H'
section
variable {P : Program} {w : World} {K : PySem.W.Frag} {mg : Str → Option Value} {base : Heap} {f : Addr} {fd : FuncData}
theorem sc_by : FnScope ["_law_it", "_law_found"] ["_law_it"] (defScope s_law_by_place) := ⟨rfl, rfl, rfl, by decide +kernel, rfl, by decide +kernel, by decide +kernel⟩
theorem ok_by (F : FnP K "_law_by_place" s_law_by_place f fd) (T : Cl P K mg) (M : Mks P K mg) : FnOk P w K mg base CX0 3 f fd ["_law_it"] (spBy K) := by
  refine F.ok sc_by (fun vs H Q E h => ?_) (fun cdv A outer s H vs Q E hr h => ⟨_, PSs.nox (Evl.pss_cut (ps_set (i := 1) sc_by.nd rfl (Or.inl rfl) (pe_lst (pa_cons (pe_err0W M.xBadOperations (T.g _ in_BadOperations) M.kBadOperations (by rfl)) (pa_cons (pe_errW M.tBadBody (T.g _ in_BadBody) hr (pa_cons (pv 0) pa_nil) (by rfl)) (pa_cons (pe_errW M.tBadStart (T.g _ in_BadStart) hr (pa_cons (pv 0) pa_nil) (by rfl)) (pa_cons (pe_errW M.tNoRow (T.g _ in_NoRow) hr (pa_cons (pv 0) pa_nil) (by rfl)) (pa_cons (pe_err0W M.xBadOthers (T.g _ in_BadOthers) M.kBadOthers (by rfl)) (pa_cons (pe_errW M.tBadHistory (T.g _ in_BadHistory) hr (pa_cons (pv 0) pa_nil) (by rfl)) (pa_cons (pe_err0W M.xBadSizes (T.g _ in_BadSizes) M.kBadSizes (by rfl)) pa_nil)))))))))
      (Evl.pss_cut (ps_set (i := 1) sc_by.nd rfl (Or.inl rfl) (pe_op op_cat (pv 1) (pe_lst (pa_cons (pe_errW M.tBadProgram (T.g _ in_BadProgram) hr (pa_cons (pv 0) pa_nil) (by rfl)) (pa_cons (pe_errW M.tBadHandler (T.g _ in_BadHandler) hr (pa_cons (pv 0) pa_nil) (by rfl)) (pa_cons (pe_errW M.tMismatch (T.g _ in_Mismatch) hr (pa_cons (pv 0) pa_nil) (by rfl)) (pa_cons (pe_errW M.tTooMany (T.g _ in_TooMany) hr (pa_cons (pv 0) pa_nil) (by rfl)) (pa_cons (pe_errW M.tParted (T.g _ in_Parted) hr (pa_cons (pv 0) pa_nil) (by rfl)) (pa_cons (pe_errW M.tNoState (T.g _ in_NoState) hr (pa_cons (pv 0) pa_nil) (by rfl)) pa_nil)))))))))
      (Evl.pss_cut (ps_set (i := 1) sc_by.nd rfl (Or.inl rfl) (pe_op op_cat (pv 1) (pe_lst (pa_cons (pe_errW M.tNoOperation (T.g _ in_NoOperation) hr (pa_cons (pv 0) pa_nil) (by rfl)) (pa_cons (pe_errW M.tApart (T.g _ in_Apart) hr (pa_cons (pv 0) pa_nil) (by rfl)) (pa_cons (pe_errW M.tBadAnswer (T.g _ in_BadAnswer) hr (pa_cons (pv 0) pa_nil) (by rfl)) (pa_cons (pe_errW M.tBadChoices (T.g _ in_BadChoices) hr (pa_cons (pv 0) pa_nil) (by rfl)) (pa_cons (pe_errW M.tBadCount (T.g _ in_BadCount) hr (pa_cons (pv 0) pa_nil) (by rfl)) (pa_cons (pe_errW M.tNoIndex (T.g _ in_NoIndex) hr (pa_cons (pv 0) pa_nil) (by rfl)) (pa_cons (pe_err0W M.xEndless (T.g _ in_Endless) M.kEndless (by rfl)) pa_nil))))))))))
      (pss_one (ps_ret (pe_op op_cat (pv 1) (pe_lst (pa_cons (pe_err0W M.xBadHandlers (T.g _ in_BadHandlers) M.kBadHandlers (by rfl)) (pa_cons (pe_errW M.tBadWork (T.g _ in_BadWork) hr (pa_cons (pv 0) pa_nil) (by rfl)) (pa_cons (pe_err0W M.xNoEntry (T.g _ in_NoEntry) M.kNoEntry (by rfl)) (pa_cons (pe_errW M.tRecursive (T.g _ in_Recursive) hr (pa_cons (pv 0) pa_nil) (by rfl)) (pa_cons (pe_errW M.tTooLong (T.g _ in_TooLong) hr (pa_cons (pv 0) pa_nil) (by rfl)) (pa_cons (pe_errW M.tNoText (T.g _ in_NoText) hr (pa_cons (pv 0) pa_nil) (by rfl)) pa_nil))))))))))))), ?_⟩)
  · obtain ⟨v, rfl, _⟩ := h
    rfl
  · obtain ⟨v, rfl, k⟩ := h
    refine ⟨fun σ' H' => ∃ l as, σ' = [some v, some (.ref l)] ∧ Same H H' ∧ H l = none ∧ H' l = some (.lst (as.map V.ref)) ∧ Errs K v H' as ["BadOperations", "BadBody", "BadStart", "NoRow", "BadOthers", "BadHistory", "BadSizes"], ?_, ?_⟩
    · refine fun G0 a0 s0 n0 e0 => ?_
      refine ⟨_, rfl, _, rfl, fun G1 a1 s1 n1 e1 => ?_⟩
      refine ⟨_, rfl, _, rfl, fun G2 a2 s2 n2 e2 => ?_⟩
      refine ⟨_, rfl, _, rfl, fun G3 a3 s3 n3 e3 => ?_⟩
      refine fun G4 a4 s4 n4 e4 => ?_
      refine ⟨_, rfl, _, rfl, fun G5 a5 s5 n5 e5 => ?_⟩
      refine fun G6 a6 s6 n6 e6 => ?_
      refine ⟨(by show 7 ≤ sizeLine; decide), fun l hl => ⟨l, [a0, a1, a2, a3, a4, a5, a6], rfl, ((((((s0.trans s1).trans s2).trans s3).trans s4).trans s5).trans s6).trans (same_new hl), ((((((s0.trans s1).trans s2).trans s3).trans s4).trans s5).trans s6).free hl, upd_same, Errs.mono (same_new hl) ?_⟩⟩
      exact ⟨ErrV.mono (((((s1.trans s2).trans s3).trans s4).trans s5).trans s6) (errV_0 (by decide) e0), ErrV.mono ((((s2.trans s3).trans s4).trans s5).trans s6) (errV_of (by decide) e1), ErrV.mono (((s3.trans s4).trans s5).trans s6) (errV_of (by decide) e2), ErrV.mono ((s4.trans s5).trans s6) (errV_of (by decide) e3), ErrV.mono (s5.trans s6) (errV_0 (by decide) e4), ErrV.mono s6 (errV_of (by decide) e5), (errV_0 (by decide) e6), trivial⟩
    rintro σ1 H1 ⟨l1, as1, rfl, S1, N1, L1, A1⟩
    refine ⟨fun σ' H' => ∃ l as, σ' = [some v, some (.ref l)] ∧ Same H H' ∧ H l = none ∧ H' l = some (.lst (as.map V.ref)) ∧ Errs K v H' as ["BadOperations", "BadBody", "BadStart", "NoRow", "BadOthers", "BadHistory", "BadSizes", "BadProgram", "BadHandler", "Mismatch", "TooMany", "Parted", "NoState"], ?_, ?_⟩
    · refine ⟨_, rfl, _, rfl, _, rfl, fun G0 a0 s0 n0 e0 => ?_⟩
      refine ⟨_, rfl, _, rfl, fun G1 a1 s1 n1 e1 => ?_⟩
      refine ⟨_, rfl, _, rfl, fun G2 a2 s2 n2 e2 => ?_⟩
      refine ⟨_, rfl, _, rfl, fun G3 a3 s3 n3 e3 => ?_⟩
      refine ⟨_, rfl, _, rfl, fun G4 a4 s4 n4 e4 => ?_⟩
      refine ⟨_, rfl, _, rfl, fun G5 a5 s5 n5 e5 => ?_⟩
      refine ⟨(by show 6 ≤ sizeLine; decide), fun l hl => ⟨l1, l, _, _, rfl, rfl, (same_new hl) _ _ ((((((s0.trans s1).trans s2).trans s3).trans s4).trans s5) _ _ L1), upd_same, (by rw [List.length_map, A1.len]; show 7 + 6 ≤ sizeLine; decide), fun l' hl' => ?_⟩⟩
      refine ⟨l', as1 ++ [a0, a1, a2, a3, a4, a5], rfl, (S1.trans ((((((s0.trans s1).trans s2).trans s3).trans s4).trans s5).trans ((same_new hl).trans (same_new hl')))), (S1.free ((((((s0.trans s1).trans s2).trans s3).trans s4).trans s5).free ((same_new hl).free hl'))), ?_, (Errs.mono ((same_new hl).trans (same_new hl')) (Errs.append (Errs.mono (((((s0.trans s1).trans s2).trans s3).trans s4).trans s5) A1) (show Errs K v G5 [a0, a1, a2, a3, a4, a5] ["BadProgram", "BadHandler", "Mismatch", "TooMany", "Parted", "NoState"] from ⟨ErrV.mono ((((s1.trans s2).trans s3).trans s4).trans s5) (errV_of (by decide) e0), ErrV.mono (((s2.trans s3).trans s4).trans s5) (errV_of (by decide) e1), ErrV.mono ((s3.trans s4).trans s5) (errV_of (by decide) e2), ErrV.mono (s4.trans s5) (errV_of (by decide) e3), ErrV.mono s5 (errV_of (by decide) e4), (errV_of (by decide) e5), trivial⟩)))⟩
      rw [upd_same, List.map_append]
      rfl
    rintro σ2 H2 ⟨l2, as2, rfl, S2, N2, L2, A2⟩
    refine ⟨fun σ' H' => ∃ l as, σ' = [some v, some (.ref l)] ∧ Same H H' ∧ H l = none ∧ H' l = some (.lst (as.map V.ref)) ∧ Errs K v H' as ["BadOperations", "BadBody", "BadStart", "NoRow", "BadOthers", "BadHistory", "BadSizes", "BadProgram", "BadHandler", "Mismatch", "TooMany", "Parted", "NoState", "NoOperation", "Apart", "BadAnswer", "BadChoices", "BadCount", "NoIndex", "Endless"], ?_, ?_⟩
    · refine ⟨_, rfl, _, rfl, _, rfl, fun G0 a0 s0 n0 e0 => ?_⟩
      refine ⟨_, rfl, _, rfl, fun G1 a1 s1 n1 e1 => ?_⟩
      refine ⟨_, rfl, _, rfl, fun G2 a2 s2 n2 e2 => ?_⟩
      refine ⟨_, rfl, _, rfl, fun G3 a3 s3 n3 e3 => ?_⟩
      refine ⟨_, rfl, _, rfl, fun G4 a4 s4 n4 e4 => ?_⟩
      refine ⟨_, rfl, _, rfl, fun G5 a5 s5 n5 e5 => ?_⟩
      refine fun G6 a6 s6 n6 e6 => ?_
      refine ⟨(by show 7 ≤ sizeLine; decide), fun l hl => ⟨l2, l, _, _, rfl, rfl, (same_new hl) _ _ (((((((s0.trans s1).trans s2).trans s3).trans s4).trans s5).trans s6) _ _ L2), upd_same, (by rw [List.length_map, A2.len]; show 13 + 7 ≤ sizeLine; decide), fun l' hl' => ?_⟩⟩
      refine ⟨l', as2 ++ [a0, a1, a2, a3, a4, a5, a6], rfl, (S2.trans (((((((s0.trans s1).trans s2).trans s3).trans s4).trans s5).trans s6).trans ((same_new hl).trans (same_new hl')))), (S2.free (((((((s0.trans s1).trans s2).trans s3).trans s4).trans s5).trans s6).free ((same_new hl).free hl'))), ?_, (Errs.mono ((same_new hl).trans (same_new hl')) (Errs.append (Errs.mono ((((((s0.trans s1).trans s2).trans s3).trans s4).trans s5).trans s6) A2) (show Errs K v G6 [a0, a1, a2, a3, a4, a5, a6] ["NoOperation", "Apart", "BadAnswer", "BadChoices", "BadCount", "NoIndex", "Endless"] from ⟨ErrV.mono (((((s1.trans s2).trans s3).trans s4).trans s5).trans s6) (errV_of (by decide) e0), ErrV.mono ((((s2.trans s3).trans s4).trans s5).trans s6) (errV_of (by decide) e1), ErrV.mono (((s3.trans s4).trans s5).trans s6) (errV_of (by decide) e2), ErrV.mono ((s4.trans s5).trans s6) (errV_of (by decide) e3), ErrV.mono (s5.trans s6) (errV_of (by decide) e4), ErrV.mono s6 (errV_of (by decide) e5), (errV_0 (by decide) e6), trivial⟩)))⟩
      rw [upd_same, List.map_append]
      rfl
    rintro σ3 H3 ⟨l3, as3, rfl, S3, N3, L3, A3⟩
    refine ⟨_, rfl, fun G0 a0 s0 n0 e0 => ?_⟩
    refine ⟨_, rfl, _, rfl, fun G1 a1 s1 n1 e1 => ?_⟩
    refine fun G2 a2 s2 n2 e2 => ?_
    refine ⟨_, rfl, _, rfl, fun G3 a3 s3 n3 e3 => ?_⟩
    refine ⟨_, rfl, _, rfl, fun G4 a4 s4 n4 e4 => ?_⟩
    refine ⟨_, rfl, _, rfl, fun G5 a5 s5 n5 e5 => ?_⟩
    refine ⟨(by show 6 ≤ sizeLine; decide), fun l hl => ⟨l3, l, _, _, rfl, rfl, (same_new hl) _ _ ((((((s0.trans s1).trans s2).trans s3).trans s4).trans s5) _ _ L3), upd_same, (by rw [List.length_map, A3.len]; show 20 + 6 ≤ sizeLine; decide), fun l' hl' => ?_⟩⟩
    refine k _ l' (as3 ++ [a0, a1, a2, a3, a4, a5]) (S3.trans ((((((s0.trans s1).trans s2).trans s3).trans s4).trans s5).trans ((same_new hl).trans (same_new hl')))) (S3.free ((((((s0.trans s1).trans s2).trans s3).trans s4).trans s5).free ((same_new hl).free hl'))) ?_ (Errs.mono ((same_new hl).trans (same_new hl')) (Errs.append (Errs.mono (((((s0.trans s1).trans s2).trans s3).trans s4).trans s5) A3) (show Errs K v G5 [a0, a1, a2, a3, a4, a5] ["BadHandlers", "BadWork", "NoEntry", "Recursive", "TooLong", "NoText"] from ⟨ErrV.mono ((((s1.trans s2).trans s3).trans s4).trans s5) (errV_0 (by decide) e0), ErrV.mono (((s2.trans s3).trans s4).trans s5) (errV_of (by decide) e1), ErrV.mono ((s3.trans s4).trans s5) (errV_0 (by decide) e2), ErrV.mono (s4.trans s5) (errV_of (by decide) e3), ErrV.mono s5 (errV_of (by decide) e4), (errV_of (by decide) e5), trivial⟩)))
    rw [upd_same, List.map_append]
    rfl
end
def spFl (K : PySem.W.Frag) : Sp := fun vs H Q _ => ∃ (v : V) (l : Addr) (as : List Addr), vs = [.ref l] ∧ H l = some (.lst (as.map V.ref)) ∧ Errs K v H as allN ∧ NewL (List.replicate 20 v) H Q
section
variable {P : Program} {w : World} {K : PySem.W.Frag} {mg : Str → Option Value} {base : Heap} {f : Addr} {fd : FuncData}
theorem sc_fl : FnScope ["_law_some", "_law_found"] ["_law_some"] (defScope s_law_fields) := ⟨rfl, rfl, rfl, by decide +kernel, rfl, by decide +kernel, by decide +kernel⟩
theorem ok_fl (F : FnP K "_law_fields" s_law_fields f fd) (M : Mks P K mg) : FnOk P w K mg base CX0 1 f fd ["_law_some"] (spFl K) := by
  refine F.ok sc_fl (fun vs H Q E h => ?_) (fun cdv A outer s H vs Q E hr h => ⟨_, PSs.nox (Evl.pss_cut (ps_set (i := 1) sc_fl.nd rfl (Or.inl rfl) (pe_lstW (pa_cons (pe_errFld (pe_ix ix_list (pv 0) pe_int (fun _ _ => rfl)) (by rfl)) (pa_cons (pe_errFld (pe_ix ix_list (pv 0) pe_int (fun _ _ => rfl)) (by rfl)) (pa_cons (pe_errFld (pe_ix ix_list (pv 0) pe_int (fun _ _ => rfl)) (by rfl)) (pa_cons (pe_errFld (pe_ix ix_list (pv 0) pe_int (fun _ _ => rfl)) (by rfl)) (pa_cons (pe_errFld (pe_ix ix_list (pv 0) pe_int (fun _ _ => rfl)) (by rfl)) (pa_cons (pe_errFld (pe_ix ix_list (pv 0) pe_int (fun _ _ => rfl)) (by rfl)) pa_nil))))))))
      (Evl.pss_cut (ps_set (i := 1) sc_fl.nd rfl (Or.inl rfl) (pe_op op_catW (pv 1) (pe_lstW (pa_cons (pe_errFld (pe_ix ix_list (pv 0) pe_int (fun _ _ => rfl)) (by rfl)) (pa_cons (pe_errFld (pe_ix ix_list (pv 0) pe_int (fun _ _ => rfl)) (by rfl)) (pa_cons (pe_errFld (pe_ix ix_list (pv 0) pe_int (fun _ _ => rfl)) (by rfl)) (pa_cons (pe_errFld (pe_ix ix_list (pv 0) pe_int (fun _ _ => rfl)) (by rfl)) (pa_cons (pe_errFld (pe_ix ix_list (pv 0) pe_int (fun _ _ => rfl)) (by rfl)) pa_nil))))))))
      (Evl.pss_cut (ps_set (i := 1) sc_fl.nd rfl (Or.inl rfl) (pe_op op_catW (pv 1) (pe_lstW (pa_cons (pe_errFld (pe_ix ix_list (pv 0) pe_int (fun _ _ => rfl)) (by rfl)) (pa_cons (pe_errFld (pe_ix ix_list (pv 0) pe_int (fun _ _ => rfl)) (by rfl)) (pa_cons (pe_errFld (pe_ix ix_list (pv 0) pe_int (fun _ _ => rfl)) (by rfl)) (pa_cons (pe_errFld (pe_ix ix_list (pv 0) pe_int (fun _ _ => rfl)) (by rfl)) (pa_cons (pe_errFld (pe_ix ix_list (pv 0) pe_int (fun _ _ => rfl)) (by rfl)) (pa_cons (pe_errFld (pe_ix ix_list (pv 0) pe_int (fun _ _ => rfl)) (by rfl)) pa_nil)))))))))
      (pss_one (ps_ret (pe_op op_catW (pv 1) (pe_lstW (pa_cons (pe_errFld (pe_ix ix_list (pv 0) pe_int (fun _ _ => rfl)) (by rfl)) (pa_cons (pe_errFld (pe_ix ix_list (pv 0) pe_int (fun _ _ => rfl)) (by rfl)) (pa_cons (pe_errFld (pe_ix ix_list (pv 0) pe_int (fun _ _ => rfl)) (by rfl)) pa_nil)))))))))), ?_⟩)
  · obtain ⟨v, l, as, rfl, _⟩ := h
    rfl
  · obtain ⟨v, l, as, rfl, hl, hA, k⟩ := h
    obtain ⟨b1, i1, e1⟩ := hA.ix 1 "BadBody" "index" rfl (by decide)
    obtain ⟨b2, i2, e2⟩ := hA.ix 2 "BadStart" "index" rfl (by decide)
    obtain ⟨b3, i3, e3⟩ := hA.ix 3 "NoRow" "index" rfl (by decide)
    obtain ⟨b5, i5, e5⟩ := hA.ix 5 "BadHistory" "index" rfl (by decide)
    obtain ⟨b7, i7, e7⟩ := hA.ix 7 "BadProgram" "place" rfl (by decide)
    obtain ⟨b8, i8, e8⟩ := hA.ix 8 "BadHandler" "part" rfl (by decide)
    obtain ⟨b9, i9, e9⟩ := hA.ix 9 "Mismatch" "operation" rfl (by decide)
    obtain ⟨b10, i10, e10⟩ := hA.ix 10 "TooMany" "many" rfl (by decide)
    obtain ⟨b11, i11, e11⟩ := hA.ix 11 "Parted" "history" rfl (by decide)
    obtain ⟨b12, i12, e12⟩ := hA.ix 12 "NoState" "state" rfl (by decide)
    obtain ⟨b13, i13, e13⟩ := hA.ix 13 "NoOperation" "operation" rfl (by decide)
    obtain ⟨b14, i14, e14⟩ := hA.ix 14 "Apart" "asks" rfl (by decide)
    obtain ⟨b15, i15, e15⟩ := hA.ix 15 "BadAnswer" "answer" rfl (by decide)
    obtain ⟨b16, i16, e16⟩ := hA.ix 16 "BadChoices" "index" rfl (by decide)
    obtain ⟨b17, i17, e17⟩ := hA.ix 17 "BadCount" "many" rfl (by decide)
    obtain ⟨b18, i18, e18⟩ := hA.ix 18 "NoIndex" "index" rfl (by decide)
    obtain ⟨b21, i21, e21⟩ := hA.ix 21 "BadWork" "place" rfl (by decide)
    obtain ⟨b23, i23, e23⟩ := hA.ix 23 "Recursive" "function" rfl (by decide)
    obtain ⟨b24, i24, e24⟩ := hA.ix 24 "TooLong" "many" rfl (by decide)
    obtain ⟨b25, i25, e25⟩ := hA.ix 25 "NoText" "line" rfl (by decide)
    refine ⟨fun σ' H' => ∃ q, σ' = [some (.ref l), some (.ref q)] ∧ Same H H' ∧ H q = none ∧ H' q = some (.lst [v, v, v, v, v, v]), ?_, ?_⟩
    · refine ⟨_, rfl, l, _, _, _, rfl, rfl, SqL.of hl, i1, b1, _, _, v, rfl, M.tBadBody, e1, _, rfl, l, _, _, _, rfl, rfl, SqL.of hl, i2, b2, _, _, v, rfl, M.tBadStart, e2, _, rfl, l, _, _, _, rfl, rfl, SqL.of hl, i3, b3, _, _, v, rfl, M.tNoRow, e3, _, rfl, l, _, _, _, rfl, rfl, SqL.of hl, i5, b5, _, _, v, rfl, M.tBadHistory, e5, _, rfl, l, _, _, _, rfl, rfl, SqL.of hl, i7, b7, _, _, v, rfl, M.tBadProgram, e7, _, rfl, l, _, _, _, rfl, rfl, SqL.of hl, i8, b8, _, _, v, rfl, M.tBadHandler, e8, (by show 6 ≤ sizeLine; decide), fun G1 q1 s1 n1 l1 => ?_⟩
      exact ⟨q1, rfl, s1, n1, l1⟩
    rintro σ1 H1 ⟨ql1, rfl, S1, N1, L1⟩
    refine ⟨fun σ' H' => ∃ q, σ' = [some (.ref l), some (.ref q)] ∧ Same H H' ∧ H q = none ∧ H' q = some (.lst [v, v, v, v, v, v, v, v, v, v, v]), ?_, ?_⟩
    · refine ⟨_, rfl, _, rfl, l, _, _, _, rfl, rfl, SqL.of (S1 _ _ hl), i9, b9, _, _, v, rfl, M.tMismatch, (ErrF.mono S1 e9), _, rfl, l, _, _, _, rfl, rfl, SqL.of (S1 _ _ hl), i10, b10, _, _, v, rfl, M.tTooMany, (ErrF.mono S1 e10), _, rfl, l, _, _, _, rfl, rfl, SqL.of (S1 _ _ hl), i11, b11, _, _, v, rfl, M.tParted, (ErrF.mono S1 e11), _, rfl, l, _, _, _, rfl, rfl, SqL.of (S1 _ _ hl), i12, b12, _, _, v, rfl, M.tNoState, (ErrF.mono S1 e12), _, rfl, l, _, _, _, rfl, rfl, SqL.of (S1 _ _ hl), i13, b13, _, _, v, rfl, M.tNoOperation, (ErrF.mono S1 e13), (by show 5 ≤ sizeLine; decide), fun G1 q1 s1 n1 l1 => ⟨ql1, q1, _, _, rfl, rfl, s1 _ _ L1, l1, (by show 6 + 5 ≤ sizeLine; decide), fun G2 q2 s2 n2 l2 => ?_⟩⟩
      exact ⟨q2, rfl, S1.trans (s1.trans s2), S1.free (s1.free n2), l2⟩
    rintro σ2 H2 ⟨ql2, rfl, S2, N2, L2⟩
    refine ⟨fun σ' H' => ∃ q, σ' = [some (.ref l), some (.ref q)] ∧ Same H H' ∧ H q = none ∧ H' q = some (.lst [v, v, v, v, v, v, v, v, v, v, v, v, v, v, v, v, v]), ?_, ?_⟩
    · refine ⟨_, rfl, _, rfl, l, _, _, _, rfl, rfl, SqL.of (S2 _ _ hl), i14, b14, _, _, v, rfl, M.tApart, (ErrF.mono S2 e14), _, rfl, l, _, _, _, rfl, rfl, SqL.of (S2 _ _ hl), i15, b15, _, _, v, rfl, M.tBadAnswer, (ErrF.mono S2 e15), _, rfl, l, _, _, _, rfl, rfl, SqL.of (S2 _ _ hl), i16, b16, _, _, v, rfl, M.tBadChoices, (ErrF.mono S2 e16), _, rfl, l, _, _, _, rfl, rfl, SqL.of (S2 _ _ hl), i17, b17, _, _, v, rfl, M.tBadCount, (ErrF.mono S2 e17), _, rfl, l, _, _, _, rfl, rfl, SqL.of (S2 _ _ hl), i18, b18, _, _, v, rfl, M.tNoIndex, (ErrF.mono S2 e18), _, rfl, l, _, _, _, rfl, rfl, SqL.of (S2 _ _ hl), i21, b21, _, _, v, rfl, M.tBadWork, (ErrF.mono S2 e21), (by show 6 ≤ sizeLine; decide), fun G1 q1 s1 n1 l1 => ⟨ql2, q1, _, _, rfl, rfl, s1 _ _ L2, l1, (by show 11 + 6 ≤ sizeLine; decide), fun G2 q2 s2 n2 l2 => ?_⟩⟩
      exact ⟨q2, rfl, S2.trans (s1.trans s2), S2.free (s1.free n2), l2⟩
    rintro σ3 H3 ⟨ql3, rfl, S3, N3, L3⟩
    refine ⟨_, rfl, _, rfl, l, _, _, _, rfl, rfl, SqL.of (S3 _ _ hl), i23, b23, _, _, v, rfl, M.tRecursive, (ErrF.mono S3 e23), _, rfl, l, _, _, _, rfl, rfl, SqL.of (S3 _ _ hl), i24, b24, _, _, v, rfl, M.tTooLong, (ErrF.mono S3 e24), _, rfl, l, _, _, _, rfl, rfl, SqL.of (S3 _ _ hl), i25, b25, _, _, v, rfl, M.tNoText, (ErrF.mono S3 e25), (by show 3 ≤ sizeLine; decide), fun G1 q1 s1 n1 l1 => ⟨ql3, q1, _, _, rfl, rfl, s1 _ _ L3, l1, (by show 17 + 3 ≤ sizeLine; decide), fun G2 q2 s2 n2 l2 => ?_⟩⟩
    exact k _ q2 (S3.trans (s1.trans s2)) (S3.free (s1.free n2)) l2
end
end K45
set_option Elab.async false
set_option linter.all false
set_option maxRecDepth 100000
set_option maxHeartbeats 4000000
namespace K45
open PySem PySem.Spec PyProof.Rows L2 PySem.ErX
def dK (n : Str) : List Bool := allN.map fun m => n == m
def eK (i k : Nat) : List Bool := (List.range k).map fun j => decide (V.int ((0 : Int) + (j : Nat)) = V.int (i : Nat))
theorem eK_succ (i k : Nat) : eK i (k + 1) = eK i k ++ [decide (V.int ((0 : Int) + (k : Nat)) = V.int (i : Nat))] := by
  unfold eK
  rw [List.range_succ, List.map_append]
  rfl
theorem eK_len (i k : Nat) : (eK i k).length = k := by
  unfold eK
  rw [List.length_map, List.length_range]
theorem dK_eK : ∀ i : Fin 26, dK (allN.getD i.1 "") = eK i.1 26 := by decide +kernel
theorem dK_is {i : Nat} {n : Str} (h : allN[i]? = some n) : dK n = eK i 26 := by
  have hi : i < 26 := (List.getElem?_eq_some_iff.mp h).1
  have e := dK_eK ⟨i, hi⟩
  have e2 : allN.getD i "" = n := by
    rw [List.getD_eq_getElem?_getD, h]
    rfl
  rw [← e, e2]
theorem dpBools {K : PySem.W.Frag} {H : Hp} : ∀ bs : List Bool, DpAll K H (bs.map V.bl) (bs.map PyData.bool)
  | [] => .nil
  | b :: bs => .cons (.bl b) (dpBools bs)
theorem cl_bools : ∀ bs : List Bool, PyData.canLayAll0 (bs.map PyData.bool) = true
  | [] => rfl
  | b :: bs => by
    show ((PyData.bool b).canLay0 && PyData.canLayAll0 (bs.map PyData.bool)) = true
    rw [cl_bools bs]
    rfl
theorem eqv_bools (bs : List Bool) : PyData.eqv (.list (bs.map PyData.bool)) (.list (bs.map PyData.bool)) = true := SeqAt.eqv_refl _ (cl_bools bs)
theorem dp_bools : ∀ bs : List Bool, PyData.depthAll (bs.map PyData.bool) ≤ 1
  | [] => by simp [PyData.depthAll]
  | b :: bs => by
    have := dp_bools bs
    simp only [List.map_cons, PyData.depthAll, PyData.depth]
    omega
theorem sh_bools (bs : List Bool) : SeqAt.shaped (.list (bs.map PyData.bool)) = true := by
  have h1 := cl_bools bs
  have h2 := dp_bools bs
  unfold SeqAt.shaped
  rw [show (PyData.list (bs.map PyData.bool)).canLay0 = PyData.canLayAll0 (bs.map PyData.bool) by simp [PyData.canLay0], h1]
  rw [Bool.true_and]
  refine decide_eq_true ?_
  simp only [PyData.depth]
  omega
theorem mem_cut {xs : List V} {lo hi : Option Int} {x : V} (h : x ∈ cutV xs lo hi) : x ∈ xs := List.mem_of_mem_drop (List.mem_of_mem_take h)
theorem bt_repr : bootBuiltins "repr" = some (.builtin "repr") := by decide +kernel
/-- what is asked of a thing that is shown -/
structure Good (d : PyData) : Prop where
  sh : d.showable = true
  dp : d.depth ≤ 60
  sz : d.shown.length ≤ sizeLine
  ok : PyData.strOk d.shown = true
theorem small_of {n : Nat} (h : n ≤ 1000) : n ≤ sizeLine := Nat.le_trans h (by decide)
theorem dpStrs {K : PySem.W.Frag} {H : Hp} (z : Str) : ∀ n : Nat, DpAll K H (List.replicate n (V.str z)) (List.replicate n (PyData.str z))
  | 0 => .nil
  | n + 1 => .cons (.str z) (dpStrs z n)
theorem cl_strs {z : Str} (h : PyData.strOk z = true) : ∀ n : Nat, PyData.canLayAll0 (List.replicate n (PyData.str z)) = true
  | 0 => rfl
  | n + 1 => by
    show ((PyData.str z).canLay0 && PyData.canLayAll0 (List.replicate n (PyData.str z))) = true
    rw [cl_strs h n, show (PyData.str z).canLay0 = PyData.strOk z by simp [PyData.canLay0], h]
    rfl
theorem dp_strs {z : Str} : ∀ n : Nat, PyData.depthAll (List.replicate n (PyData.str z)) ≤ 1
  | 0 => by simp [PyData.depthAll]
  | n + 1 => by
    have := dp_strs (z := z) n
    simp only [List.replicate_succ, PyData.depthAll, PyData.depth]
    omega
theorem sh_strs {z : Str} (h : PyData.strOk z = true) (n : Nat) : SeqAt.shaped (.list (List.replicate n (PyData.str z))) = true := by
  have h1 := cl_strs h n
  have h2 := dp_strs (z := z) n
  unfold SeqAt.shaped
  rw [show (PyData.list (List.replicate n (PyData.str z))).canLay0 = PyData.canLayAll0 (List.replicate n (PyData.str z)) by simp [PyData.canLay0], h1]
  rw [Bool.true_and]
  refine decide_eq_true ?_
  simp only [PyData.depth]
  omega
theorem eqv_strs {z : Str} (h : PyData.strOk z = true) (n : Nat) : PyData.eqv (.list (List.replicate n (PyData.str z))) (.list (List.replicate n (PyData.str z))) = true := SeqAt.eqv_refl _ (cl_strs h n)
theorem flat_rep (v : V) (n : Nat) : (List.replicate n [v]).flatten = List.replicate n v := by
  induction n with
  | zero => rfl
  | succ n ih => rw [List.replicate_succ, List.flatten_cons, ih]; rfl
theorem log_of {r : Int} (h0 : 0 ≤ r) (h1 : r < 10 ^ 30) : r.natAbs.log2 < 1920 := by
  have : r.natAbs < 2 ^ 100 := by omega
  exact Nat.lt_of_lt_of_le (PySem.Flt.log2_lt_of (by decide) this) (by decide)
theorem good_int {r : Int} (h0 : 0 ≤ r) (h1 : r < 10 ^ 30) : Good (.int r) where
  sh := decide_eq_true (log_of h0 h1)
  dp := by simp [PyData.depth]
  sz := Nat.le_trans (PyProof.Rows.int_text_len_1921 (log_of h0 h1)) (by decide)
  ok := strOk_of _
def spLaw (K : PySem.W.Frag) : Sp := fun vs H Q _ => ∃ (a : Addr) (ns : List Int), vs = [.ref a] ∧ SqL K H a (ns.map V.int) ∧ ns.length ≤ 63 ∧ ∀ H', Q (.bl true) H'
abbrev nL : List Str := ["_law_script", "_law_cell", "_law_source", "_law_turn", "_law_some", "_law_it", "_law_made", "_law_at", "_law_e", "_law_k", "_law_one_here"]
theorem sc_law : FnScope nL ["_law_script"] (defScope slaw) := ⟨rfl, rfl, rfl, by decide +kernel, rfl, by decide +kernel, by decide +kernel⟩
structure Fns (K : PySem.W.Frag) (mg : Str → Option Value) : Prop where
  int : mg "int" = none
  len : mg "len" = none
  isi : mg "isinstance" = none
  rng : mg "range" = none
  enu : mg "enumerate" = none
  ve : mg "ValueError" = none
  rep : mg "repr" = none
  xA : PySem.W.excIn K (He.ga K "AskError") PySem.HandSPX.veTail "ValueError.__new__" = true
  kA : PySem.W.keepIn K (.ref (He.ga K "AskError")) = true
  iA : ErrI K (He.ga K "AskError")
  vA : PySem.W.kitOne K (.ref (He.ga K "AskError")) (.type "ValueError") = some true
section
variable {P : Program} {w : World} {K : PySem.W.Frag} {mg : Str → Option Value} {base : Heap} {f : Addr} {fd : FuncData} {fS fN fO fK fB fL : Addr} {dS dN dO dKi dB dL' : FuncData}
theorem ok_law (F : FnP K "law" slaw f fd) (U : Fns K mg) (T : Cl P K mg) (M : Mks P K mg)
    (FS : FnP K "_law_source_of" s_law_source_of fS dS) (gS : mg "_law_source_of" = some (.ref fS)) (FN : FnP K "_law_next" s_law_next fN dN) (gN : mg "_law_next" = some (.ref fN))
    (FO : FnP K "_law_one" s_law_one fO dO) (gO : mg "_law_one" = some (.ref fO)) (FK : FnP K "_law_kinds" s_law_kinds fK dKi) (gK : mg "_law_kinds" = some (.ref fK))
    (FB : FnP K "_law_by_place" s_law_by_place fB dB) (gB : mg "_law_by_place" = some (.ref fB)) (FL : FnP K "_law_fields" s_law_fields fL dL') (gL : mg "_law_fields" = some (.ref fL)) : FnG P w K mg base CX0 5 f fd ["_law_script"] (spLaw K) := by
  have GS : FnOk P w K mg base CX0 1 fS dS ["_law_cell"] spSrc := ok_src FS U.int
  have GN : FnOk P w K mg base CX0 1 fN dN ["_law_source", "_law_many"] spNext := ok_next FN U.int
  have GO : FnOk P w K mg base CX0 2 fO dO ["_law_source", "_law_some"] (spOne K) := ok_one FO FN gN U.int U.len
  have GK : FnOk P w K mg base CX0 1 fK dKi ["_law_e"] (spKinds K) := ok_kinds FK T U.isi
  have GB : FnOk P w K mg base CX0 3 fB dB ["_law_it"] (spBy K) := ok_by FB T M
  have GL : FnOk P w K mg base CX0 1 fL dL' ["_law_some"] (spFl K) := ok_fl FL M
  have bS : Binds K dS ["_law_cell"] [] := FS.bindsN fun _ _ _ _ _ _ us hl => match us, hl with | [_], _ => rfl
  have bN : Binds K dN ["_law_source", "_law_many"] [] := FN.bindsN fun _ _ _ _ _ _ us hl => match us, hl with | [_, _], _ => rfl
  have bO : Binds K dO ["_law_source", "_law_some"] [] := FO.bindsN fun _ _ _ _ _ _ us hl => match us, hl with | [_, _], _ => rfl
  have bK : Binds K dKi ["_law_e"] [] := FK.bindsN fun _ _ _ _ _ _ us hl => match us, hl with | [_], _ => rfl
  have bB : Binds K dB ["_law_it"] [] := FB.bindsN fun _ _ _ _ _ _ us hl => match us, hl with | [_], _ => rfl
  have bL : Binds K dL' ["_law_some"] [] := FL.bindsN fun _ _ _ _ _ _ us hl => match us, hl with | [_], _ => rfl
  refine F.okG sc_law (fun vs H Q E h => ?_) (fun cdv A outer s H vs Q E hG hr h => ?_)
  · obtain ⟨a, ns, rfl, _⟩ := h
    rfl
  · obtain ⟨a, ns, rfl, hS, hlen, k⟩ := h
    have h1 : Room 1 _ := hr.mono (by decide)
    have h2 : Room 2 _ := hr.mono (by decide)
    have h3 : Room 3 _ := hr.mono (by decide)
    have hu : _ + 64 < cLine := hr.units
    refine ⟨_, PSs.nox (pss_cons (ps_for PassesOwn.never rfl (pi_list (pe_op op_catW (pe_slice sl_listW (pv 0) po_none (po_some pe_int)) (pe_lstW (pa_cons pe_int pa_nil)))) (pg_name (i := 1) sc_law.nd rfl (Or.inl rfl))
      (pss_cons (ps_set (i := 2) sc_law.nd rfl (Or.inl rfl) (pe_call GS h1 (by rfl) gS FS.kp bS .nil pass0 (pa_cons (pv 1) pa_nil)))
      (pss_one (ps_for PassesOwn.never rfl (pi_range1 (by rfl) U.rng (pa_cons pe_int pa_nil)) (pg_name (i := 3) sc_law.nd rfl (Or.inl rfl))
      (Evl.pss_cut (ps_set (i := 4) sc_law.nd rfl (Or.inl rfl) (pe_lstW (pa_cons pe_non (pa_cons pe_int (pa_cons pe_str (pa_cons pe_str (pa_cons (pe_tupW pa_nil) (pa_cons (pe_tupW (pa_cons pe_int (pa_cons pe_int pa_nil))) (pa_cons (pe_lstW (pa_cons pe_int pa_nil)) (pa_cons (pe_cut (pe_disp (pps_cons pe_str pe_int pps_nil) (by rfl) (by rfl) (fun z => by cases z) (by decide))) (pa_cons pe_bl (pa_cons (pe_call GN h1 (by rfl) gN FN.kp bN .nil pass0 (pa_cons (pv 2) (pa_cons (pe_op op_pow pe_int pe_int) pa_nil))) (pa_cons (pe_tupW (pa_cons (pe_tupW (pa_cons pe_str (pa_cons pe_int pa_nil))) pa_nil)) pa_nil)))))))))))))
      (Evl.pss_cut (ps_set (i := 5) sc_law.nd rfl (Or.inl rfl) (pe_call GO h2 (by rfl) gO FO.kp bO .nil pass0 (pa_cons (pv 2) (pa_cons (pv 4) pa_nil))))
      (Evl.pss_cut (ps_set (i := 6) sc_law.nd rfl (Or.inl rfl) (pe_call GB h3 (by rfl) gB FB.kp bB .nil pass0 (pa_cons (pv 5) pa_nil)))
      (Evl.pss_cut (ps_for PassesOwn.never rfl (pi_enum (by rfl) U.enu (pa_cons (pv 6) pa_nil)) (pg_tup rfl (pgs_cons (pg_name (i := 7) sc_law.nd rfl (Or.inr rfl)) (pgs_cons (pg_name (i := 8) sc_law.nd rfl (Or.inl rfl)) pgs_nil)))
      (pss_cons (ps_if (pt_cmpR (op_neD hu) (pe_call GK h1 (by rfl) gK FK.kp bK .nil pass0 (pa_cons (pv 8) pa_nil)) (pe_lc (own := [("_law_k", 9)]) (g := gName 9) (by rfl) sc_law.nd (pi_range1 (by rfl) U.rng (pa_cons pe_int pa_nil)) (blkOk_by (own := [("_law_k", 9)]) (N := nL) (sc := defScope slaw) (by decide +kernel)) (fun _ _ _ _ _ => pg_name (i := 9) sc_law.nd rfl (Or.inl rfl)) (fun _ _ _ _ _ => pts_nil) (fun _ _ _ _ _ => (pe_cmpR op_eq (pv 9) (pv 7) (nomark _)))) (nomark _))
      (pss_one (ps_ret pe_bl))
      pss_nil)
      (pss_one (ps_if (PW.pt (pw_or (pt_not (pt_val (pe_callB call_isErr (by rfl) U.isi PyProof.Rows.boot_isinstance (pa_cons (pv 8) (pa_cons (pe_glob (v := .ref _) (by rfl) T.gA rfl) pa_nil))))) (pw_or1 (pt_not (pt_val (pe_callB call_isErr (by rfl) U.isi PyProof.Rows.boot_isinstance (pa_cons (pv 8) (pa_cons (pe_bltn (v := .ty "ValueError") (by rfl) U.ve PyProof.Rows.Boot.«ValueError» rfl) pa_nil))))))))
      (pss_one (ps_ret pe_bl))
      pss_nil))))
      (pss_one (ps_if (pt_cmpR (op_neD hu) (pe_lc (own := [("_law_one_here", 10)]) (g := gName 10) (by rfl) sc_law.nd (pi_list (pe_call GL h1 (by rfl) gL FL.kp bL .nil pass0 (pa_cons (pv 6) pa_nil))) (blkOk_by (own := [("_law_one_here", 10)]) (N := nL) (sc := defScope slaw) (by decide +kernel)) (fun _ _ _ _ _ => pg_name (i := 10) sc_law.nd rfl (Or.inl rfl)) (fun _ _ _ _ _ => pts_nil) (fun _ _ _ _ _ => (pe_callB (call_reprK (K := K) rfl hG hu) (by rfl) U.rep bt_repr (pa_cons (pv 10) pa_nil)))) (pe_op op_rep (pe_lstW (pa_cons (pe_callB (call_reprK (K := K) rfl hG hu) (by rfl) U.rep bt_repr (pa_cons (pv 5) pa_nil)) pa_nil)) pe_int) (nomark _))
      (pss_one (ps_ret pe_bl))
      pss_nil))))))))))
      (pss_one (ps_ret (pe_callB call_isErr (by rfl) U.isi PyProof.Rows.boot_isinstance (pa_cons (pe_err0W U.xA T.gA U.kA (by rfl)) (pa_cons (pe_bltn (v := .ty "ValueError") (by rfl) U.ve PyProof.Rows.Boot.«ValueError» rfl) pa_nil)))))), ?_⟩
    refine ⟨_, rfl, _, rfl, a, _, rfl, hS, fun H1 p1 S1 N1 L1 => ?_⟩
    refine ⟨(by show 1 ≤ sizeLine; decide), fun H2 p2 S2 N2 L2' => ?_⟩
    have z1 : (cutV (ns.map V.int) none (some 4)).length ≤ 63 := Nat.le_trans (cutV_length _ _ _) (by rw [List.length_map]; exact hlen)
    refine ⟨p1, p2, _, _, rfl, rfl, S2 _ _ L1, L2', (by rw [sizeLine_eq]; show _ + 1 ≤ _; omega), fun H3 l S3 N3 L3 => ?_⟩
    refine ⟨l, rfl, ⟨_, SqL.of L3⟩, for_list (K := K) (a := l) (xs := cutV (ns.map V.int) none (some 4) ++ [V.int 0]) (fun i σ H' => ∃ v1 v2 v3 v4 v5 v6 v7 v8 : Option V, σ = [some (.ref a), v1, v2, v3, v4, v5, v6, v7, v8, none, none] ∧ H' l = some (.lst (cutV (ns.map V.int) none (some 4) ++ [V.int 0])))
      ⟨none, none, none, none, none, none, none, none, rfl, L3⟩ (fun i σ H' _ ⟨_, _, _, _, _, _, _, _, _, R⟩ => SqL.of R) ?_ ?_⟩
    · rintro i y σ H' hi ⟨v1, v2, v3, v4, v5, v6, v7, v8, rfl, R⟩
      obtain ⟨n, rfl⟩ : ∃ n, y = V.int n := by
        rcases List.mem_append.mp (List.mem_of_getElem? hi) with h | h
        · obtain ⟨n, _, e⟩ := List.mem_map.mp (mem_cut h)
          exact ⟨n, e.symm⟩
        · exact ⟨0, List.mem_singleton.mp h⟩
      generalize cutV (ns.map V.int) none (some 4) ++ [V.int 0] = xs3 at R hi ⊢
      refine ⟨_, rfl, n, rfl, fun ps o np so => ?_⟩
      have nl : l ≠ ps := ne_of_none R np
      refine ⟨4, rfl, by decide, by decide, for_range (lo := 0) (n := 4) (fun j σ H'' => ∃ v3 v4 v5 v6 v7 v8 : Option V, σ = [some (.ref a), some (.int n), some (.ref ps), v3, v4, v5, v6, v7, v8, none, none] ∧ H'' l = some (.lst xs3) ∧ ∃ o, H'' ps = some o ∧ SrcO o)
        ⟨v3, v4, v5, v6, v7, v8, rfl, by rw [upd_ne nl]; exact R, o, upd_same, so⟩ ?_ ?_⟩
      · rintro j σ G hj ⟨w3, w4, w5, w6, w7, w8, rfl, GL', o1, Go, so1⟩
        refine ⟨fun σ' H' => ∃ (ls t1 t2 t3 d4 t5 t6 : Addr) (r : Int), σ' = [some (.ref a), some (.int n), some (.ref ps), some (.int (0 + (j : Nat))), some (.ref ls), w5, w6, w7, w8, none, none] ∧ H' l = some (.lst xs3) ∧ (∃ o, H' ps = some o ∧ SrcO o) ∧
          H' ls = some (.lst [.non, .int 5, .str "", .str "coin", .ref t1, .ref t2, .ref t3, .ref d4, .bl true, .int r, .ref t6]) ∧ H' t1 = some (.tup []) ∧ H' t2 = some (.tup [.int 1, .int 2]) ∧ H' t3 = some (.lst [.int 3]) ∧ H' d4 = some (.dK [(Sum.inr "x", .int 1)]) ∧
          H' t5 = some (.tup [.str "coin", .int 0]) ∧ H' t6 = some (.tup [.ref t5]) ∧ 0 ≤ r ∧ r < 10 ^ 30, ?_, ?_⟩
        · refine ⟨(by show 0 ≤ sizeLine; decide), fun G1 q1 s1 n1 l1 => ⟨(by show 2 ≤ sizeLine; decide), fun G2 q2 s2 n2 l2 => ⟨(by show 1 ≤ sizeLine; decide), fun G3 q3 s3 n3 l3 => ?_⟩⟩⟩
          refine ⟨fun v H' => ∃ d, v = .ref d ∧ Same G3 H' ∧ H' d = some (.dK [(Sum.inr "x", .int 1)]), fun d nd => ⟨upd_same, [(Sum.inr "x", .int 1)], rfl, by decide, d, rfl, ?_, ?_⟩, ?_⟩
          · rw [upd_upd]
            exact same_new nd
          · rw [upd_same]
            rfl
          · rintro v G4 ⟨d, rfl, s4, ld⟩
            have sA := s1.trans (s2.trans (s3.trans s4))
            refine ⟨_, rfl, _, _, rfl, rfl, ⟨by decide, by decide, by decide⟩, ps, o1, _, rfl, sA _ _ Go, so1, (by decide), (by decide), fun o' r so' r0 r1 => ?_⟩
            have gp := sA _ _ Go
            obtain ⟨oa, ob, oc, rfl⟩ := so1
            have k1 : upd G4 ps o' q1 = some (.tup []) := by rw [upd_ne (ne_of (s2.trans (s3.trans s4) _ _ l1) gp (by intro z; cases z))]; exact s2.trans (s3.trans s4) _ _ l1
            have k2 : upd G4 ps o' q2 = some (.tup [.int 1, .int 2]) := by rw [upd_ne (ne_of (s3.trans s4 _ _ l2) gp (by intro z; cases z))]; exact s3.trans s4 _ _ l2
            have k3 : upd G4 ps o' q3 = some (.lst [.int 3]) := by rw [upd_ne (ne_of (s4 _ _ l3) gp (by intro z; cases z))]; exact s4 _ _ l3
            have k4 : upd G4 ps o' d = some (.dK [(Sum.inr "x", .int 1)]) := by rw [upd_ne (ne_of ld gp (by intro z; cases z))]; exact ld
            have k5 : upd G4 ps o' l = some (.lst xs3) := by rw [upd_ne nl]; exact sA _ _ GL'
            have k6 : upd G4 ps o' ps = some o' := upd_same
            generalize upd G4 ps o' = G5 at k1 k2 k3 k4 k5 k6 ⊢
            refine ⟨(by show 2 ≤ sizeLine; decide), fun G6 q5 s6 n6 l6 => ⟨(by show 1 ≤ sizeLine; decide), fun G7 q6 s7 n7 l7 => ?_⟩⟩
            refine ⟨(by show 11 ≤ sizeLine; decide), fun G8 ls s8 n8 l8 => ?_⟩
            have sB := s6.trans (s7.trans s8)
            exact ⟨ls, q1, q2, q3, d, q5, q6, r, rfl, sB _ _ k5, ⟨o', sB _ _ k6, so'⟩, l8, sB _ _ k1, sB _ _ k2, sB _ _ k3, sB _ _ k4, s7.trans s8 _ _ l6, s8 _ _ l7, r0, r1⟩
        · rintro σ1 J ⟨ls, t1, t2, t3, d4, t5, t6, r, rfl, JL, ⟨o2, Jo, so2⟩, Jx, J1, J2, J3, J4, J5, J6, r0, r1⟩
          refine ⟨fun σ' H' => ∃ (it : V) (d : PyData), σ' = [some (.ref a), some (.int n), some (.ref ps), some (.int (0 + (j : Nat))), some (.ref ls), some it, w6, w7, w8, none, none] ∧ H' l = some (.lst xs3) ∧ (∃ o, H' ps = some o ∧ SrcO o) ∧ Sh K H' it d ∧ Good d, ?_, ?_⟩
          · have nls : ls ≠ ps := ne_of Jx Jo (by obtain ⟨_, _, _, rfl⟩ := so2; intro z; cases z)
            refine ⟨_, rfl, _, rfl, ps, ls, o2, _, rfl, Jo, so2, SqL.of Jx, (by show 0 < 11; decide), (by show 11 < 100000; decide), fun o' => SqL.of (by rw [upd_ne nls]; exact Jx), fun o' i2 x so' hx2 => ?_⟩
            obtain ⟨oa, ob, oc, rfl⟩ := so2
            have k1 : upd J ps o' t1 = some (.tup []) := by rw [upd_ne (ne_of J1 Jo (by intro z; cases z))]; exact J1
            have k2 : upd J ps o' t2 = some (.tup [.int 1, .int 2]) := by rw [upd_ne (ne_of J2 Jo (by intro z; cases z))]; exact J2
            have k3 : upd J ps o' t3 = some (.lst [.int 3]) := by rw [upd_ne (ne_of J3 Jo (by intro z; cases z))]; exact J3
            have k4 : upd J ps o' d4 = some (.dK [(Sum.inr "x", .int 1)]) := by rw [upd_ne (ne_of J4 Jo (by intro z; cases z))]; exact J4
            have k5 : upd J ps o' t5 = some (.tup [.str "coin", .int 0]) := by rw [upd_ne (ne_of J5 Jo (by intro z; cases z))]; exact J5
            have k6 : upd J ps o' t6 = some (.tup [.ref t5]) := by rw [upd_ne (ne_of J6 Jo (by intro z; cases z))]; exact J6
            have kl : upd J ps o' l = some (.lst xs3) := by rw [upd_ne nl]; exact JL
            have kp : upd J ps o' ps = some o' := upd_same
            generalize upd J ps o' = J9 at k1 k2 k3 k4 k5 k6 kl kp ⊢
            refine ⟨x, ?_⟩
            have fin : ∀ d, Sh K J9 x d → Good d → ∃ d, [some (V.ref a), some (.int n), some (.ref ps), some (.int (0 + (j : Nat))), some (.ref ls), w5, w6, w7, w8, none, none].set 5 (some x) = [some (V.ref a), some (.int n), some (.ref ps), some (.int (0 + (j : Nat))), some (.ref ls), some x, w6, w7, w8, none, none] ∧ J9 l = some (.lst xs3) ∧ (∃ o, J9 ps = some o ∧ SrcO o) ∧ Sh K J9 x d ∧ Good d := fun d h1 h2 => ⟨d, rfl, kl, ⟨o', kp, so'⟩, h1, h2⟩
            match i2, hx2 with
            | 0, hx2 => cases hx2; exact fin _ (.dp .non) ⟨by decide +kernel, by decide +kernel, small_of (by decide +kernel), by decide +kernel⟩
            | 1, hx2 => cases hx2; exact fin _ (.dp (.int 5)) ⟨by decide +kernel, by decide +kernel, small_of (by decide +kernel), by decide +kernel⟩
            | 2, hx2 => cases hx2; exact fin _ (.dp (.str _)) ⟨by decide +kernel, by decide +kernel, small_of (by decide +kernel), by decide +kernel⟩
            | 3, hx2 => cases hx2; exact fin _ (.dp (.str _)) ⟨by decide +kernel, by decide +kernel, small_of (by decide +kernel), by decide +kernel⟩
            | 4, hx2 => cases hx2; exact fin _ (.dp (.tup (SqT.of k1) .nil)) ⟨by decide +kernel, by decide +kernel, small_of (by decide +kernel), by decide +kernel⟩
            | 5, hx2 => cases hx2; exact fin _ (.dp (.tup (SqT.of k2) (.cons (.int 1) (.cons (.int 2) .nil)))) ⟨by decide +kernel, by decide +kernel, small_of (by decide +kernel), by decide +kernel⟩
            | 6, hx2 => cases hx2; exact fin _ (.dp (.lst (SqL.of k3) (.cons (.int 3) .nil))) ⟨by decide +kernel, by decide +kernel, small_of (by decide +kernel), by decide +kernel⟩
            | 7, hx2 => cases hx2; exact fin _ (.dict k4 rfl) ⟨by decide +kernel, by decide +kernel, small_of (by decide +kernel), by decide +kernel⟩
            | 8, hx2 => cases hx2; exact fin _ (.dp (.bl true)) ⟨by decide +kernel, by decide +kernel, small_of (by decide +kernel), by decide +kernel⟩
            | 9, hx2 => cases hx2; exact fin _ (.dp (.int r)) (good_int r0 r1)
            | 10, hx2 => cases hx2; exact fin _ (.dp (.tup (SqT.of k6) (.cons (.tup (SqT.of k5) (.cons (.str _) (.cons (.int 0) .nil))) .nil))) ⟨by decide +kernel, by decide +kernel, small_of (by decide +kernel), by decide +kernel⟩
            | i + 11, hx2 => simp at hx2
          · rintro σ2 Y ⟨it, d, rfl, YL, ⟨o3, Yo, so3⟩, sh, gd⟩
            refine ⟨fun σ' H' => ∃ (lb : Addr) (as : List Addr), σ' = [some (.ref a), some (.int n), some (.ref ps), some (.int (0 + (j : Nat))), some (.ref ls), some it, some (.ref lb), w7, w8, none, none] ∧ H' l = some (.lst xs3) ∧ (∃ o, H' ps = some o ∧ SrcO o) ∧ Sh K H' it d ∧ H' lb = some (.lst (as.map V.ref)) ∧ Errs K it H' as allN, ?_, ?_⟩
            · refine ⟨_, rfl, it, rfl, fun G6 lb as s6 n6 l6 es => ?_⟩
              exact ⟨lb, as, rfl, s6 _ _ YL, ⟨o3, s6 _ _ Yo, so3⟩, Sh.mono s6 sh, l6, es⟩
            · rintro σ3 G6 ⟨lb, as, rfl, L6, ⟨o6, P6, so6⟩, sh6, l6, es⟩
              refine ⟨fun σ' H' => ∃ v7 v8 : Option V, σ' = [some (.ref a), some (.int n), some (.ref ps), some (.int (0 + (j : Nat))), some (.ref ls), some it, some (.ref lb), v7, v8, none, none] ∧ Same G6 H', ?_, ?_⟩
              · refine ⟨_, rfl, lb, _, rfl, SqL.of l6, for_it (walk_enum (K := K) (a := lb) (xs := as.map V.ref)) (fun i σ H' => ∃ v7 v8 : Option V, σ = [some (.ref a), some (.int n), some (.ref ps), some (.int (0 + (j : Nat))), some (.ref ls), some it, some (.ref lb), v7, v8, none, none] ∧ Same G6 H')
                  ⟨w7, w8, rfl, Same.refl _⟩ (fun i σ H' _ ⟨_, _, _, S⟩ => SqL.of (S _ _ l6)) ?_ ?_⟩
                · rintro i3 y3 σ3 H3' H4' hi3 ⟨u7, u8, rfl, S7⟩ ⟨T0, x0, y0, rfl, nT, rfl, e0, e1⟩
                  cases e0
                  have S8 : Same G6 (upd H3' T0 (.tup [V.int (i3 : Nat), y0])) := S7.trans (same_new nT)
                  have LT : upd H3' T0 (.tup [V.int (i3 : Nat), y0]) T0 = some (.tup [V.int (i3 : Nat), y0]) := upd_same
                  generalize upd H3' T0 (.tup [V.int (i3 : Nat), y0]) = J8 at S8 LT ⊢
                  obtain ⟨ea, he1, rfl⟩ : ∃ ea, as[i3]? = some ea ∧ y0 = V.ref ea := by
                    replace e1 : (as.map V.ref)[i3]? = some y0 := e1
                    rw [List.getElem?_map] at e1
                    cases h : as[i3]? with
                    | none =>
                      rw [h] at e1
                      cases e1
                    | some ea =>
                      rw [h] at e1
                      exact ⟨ea, rfl, (Option.some.inj e1).symm⟩
                  obtain ⟨nm, hnm, hE⟩ := es.at he1
                  have hmem : nm ∈ allN := List.mem_of_getElem? hnm
                  have hE8 := ErrAt.mono S8 hE.1
                  refine ⟨T0, _, rfl, SqT.of LT, rfl, _, _, rfl, _, _, rfl, rfl, ?_⟩
                  refine ⟨_, rfl, ea, nm, rfl, hmem, hE8, fun J9 lk s9 n9 l9 => ?_⟩
                  refine ⟨26, rfl, by decide, by decide, fun D hD => lc_it (walk_range (lo := 0) (n := 26)) (fun k H' => Same J9 H' ∧ H' D = some (.lst ((eK i3 k).map V.bl))) ⟨same_new hD, upd_same⟩ (fun _ _ _ _ => trivial) ?_ ?_⟩
                  · rintro k xk Hk Hk' hk ⟨sk, lk'⟩ ⟨rfl, rfl⟩
                    refine ⟨rfl, ?_⟩
                    refine ⟨_, rfl, _, rfl, rfl, _, lk', (by rw [List.length_map, eK_len, sizeLine_eq]; omega), ?_, ?_⟩
                    · intro b o hb
                      have nb : b ≠ D := ne_of_none hb hD
                      rw [upd_ne nb]
                      exact sk _ _ hb
                    · rw [upd_same, eK_succ, List.map_append]
                      rfl
                  · rintro Hf ⟨sf, lf⟩
                    refine ⟨_, _, .lst (SqL.of (sf _ _ l9)) (dpBools (dK nm)), .lst (SqL.of lf) (dpBools (eK i3 26)), ?_, ?_, _, rfl, ?_⟩
                    · exact sh_bools _
                    · exact sh_bools _
                    · rw [dK_is hnm, eqv_bools]
                      refine iteF ?_
                      have hE9 := ErrAt.mono (s9.trans sf) hE8
                      refine ⟨_, rfl, ea, _, _, _, _, rfl, .own _, T.i nm hmem, hE9, T.kA nm hmem, true, rfl, ?_⟩
                      refine iteF ?_
                      refine ⟨_, rfl, ea, _, _, _, _, rfl, .ty _, T.i nm hmem, hE9, T.kV nm hmem, true, rfl, ?_⟩
                      refine iteF ?_
                      exact ⟨_, _, rfl, S8.trans (s9.trans sf)⟩
                · rintro σ3 H3' ⟨u7, u8, rfl, S7⟩
                  exact ⟨_, _, rfl, S7⟩
              · rintro σ4 Y4 ⟨u7, u8, rfl, S7⟩
                -- the fields, shown
                refine ⟨_, rfl, it, lb, as, rfl, S7 _ _ l6, Errs.mono S7 es, fun Y5 lf s5 n5 l5 => ?_⟩
                have sh5 := Sh.mono (S7.trans s5) sh6
                refine ⟨lf, rfl, ⟨_, SqL.of l5⟩, fun D hD => lc_it (walk_list (K := K) (a := lf) (xs := List.replicate 20 it)) (fun k H' => Same Y5 H' ∧ H' D = some (.lst (List.replicate k (V.str d.shown)))) ⟨same_new hD, upd_same⟩ (fun i H' _ p => SqL.of (p.1 _ _ l5)) ?_ ?_⟩
                · rintro k xk Hk Hk' hk ⟨sk, lk'⟩ ⟨rfl, hxk⟩
                  have exk : xk = it := List.eq_of_mem_replicate (List.mem_of_getElem? hxk)
                  subst exk
                  refine ⟨rfl, ?_⟩
                  have hk2 : k < 20 := by simpa using hk
                  refine ⟨_, rfl, _, d, rfl, Sh.mono sk sh5, gd.sh, gd.dp, gd.sz, _, lk', (by rw [List.length_replicate, sizeLine_eq]; omega), ?_, ?_⟩
                  · intro b o hb
                    have nb : b ≠ D := ne_of_none hb hD
                    rw [upd_ne nb]
                    exact sk _ _ hb
                  · rw [upd_same, List.replicate_succ']
                · rintro Hf ⟨sf, lf'⟩
                  rw [List.length_replicate] at lf'
                  refine ⟨_, rfl, it, d, rfl, Sh.mono sf sh5, gd.sh, gd.dp, gd.sz, (by show 1 ≤ sizeLine; decide), fun Y6 lr s6 n6 l6' => ?_⟩
                  refine ⟨lr, 20, _, rfl, rfl, l6', by decide, by decide, (by show 1 * 20 ≤ sizeLine; decide), fun lm hm => ?_⟩
                  refine ⟨_, _, .lst (SqL.of (same_new hm _ _ (s6 _ _ lf'))) (dpStrs d.shown 20), .lst (SqL.of (xs := List.replicate 20 (V.str d.shown)) (by rw [upd_same]; rfl)) (dpStrs d.shown 20), sh_strs gd.ok 20, sh_strs gd.ok 20, _, rfl, ?_⟩
                  rw [eqv_strs gd.ok]
                  refine iteF ?_
                  have sZ : Same G6 (upd Y6 lm (.lst (List.replicate (20 : Int).toNat [V.str d.shown]).flatten)) := (S7.trans (s5.trans (sf.trans s6))).trans (same_new hm)
                  exact ⟨_, _, _, _, _, _, rfl, sZ _ _ L6, o6, sZ _ _ P6, so6⟩
      · rintro σ G ⟨w3, w4, w5, w6, w7, w8, rfl, GL', _⟩
        exact ⟨_, _, _, _, _, _, _, _, rfl, GL'⟩
    · rintro σ H' ⟨v1, v2, v3, v4, v5, v6, v7, v8, rfl, R⟩
      refine fun G a1 s1 n1 e1 => ?_
      exact ⟨a1, _, _, _, _, rfl, .ty _, U.iA, e1, U.vA, k _⟩
end
end K45
set_option Elab.async false
set_option linter.all false
set_option maxRecDepth 100000
set_option maxHeartbeats 0
namespace K45
open PySem PySem.Spec PyProof.Rows L2 PySem.ErX
theorem facts {w : World} {K : PySem.W.Frag} {h : Heap} {mg : Str → Option Value} {f : Addr} (X : K.In h) (G : h.Ns mainGlobals mg) (hfa : mg ("law" : Str) = some (.ref f)) (c : AFH.SaysM R.prog.main.file fn er ex K) :
    ∃ fd : FuncData, (∀ (s : Shared) (v : Value), BindsTo s fd ⟨[v], []⟩ [("_law_script", v)]) ∧ ∀ base : Heap, K.In base → base.Ns mainGlobals mg → FnG R.prog w K mg base CX0 5 f fd ["_law_script"] (spLaw K) := by
  obtain ⟨e0, _, _⟩ := c.bools
  obtain ⟨ea, e0⟩ := He.ba e0
  obtain ⟨e1, ea⟩ := He.ba ea
  obtain ⟨x1, ea⟩ := He.ba ea
  obtain ⟨x2, x3⟩ := He.ba ea
  obtain ⟨e2, e0⟩ := He.ba e0
  obtain ⟨e3, e0⟩ := He.ba e0
  obtain ⟨e4, e0⟩ := He.ba e0
  obtain ⟨e5, e6⟩ := He.ba e0
  have at_ : ∀ (i : Nat) (g : He.Fa), fa[i]? = some g → g.ok K = true := fun i g hi => List.all_eq_true.mp e1 g (List.mem_of_getElem? hi)
  obtain ⟨fd0, F0⟩ := c.def_ 0 (d := d_law_source_of) rfl
  obtain ⟨fd1, F1⟩ := c.def_ 1 (d := d_law_next) rfl
  obtain ⟨fd2, F2⟩ := c.def_ 2 (d := d_law_one) rfl
  obtain ⟨fd3, F3⟩ := c.def_ 3 (d := d_law_kinds) rfl
  obtain ⟨fd4, F4⟩ := c.def_ 4 (d := d_law_by_place) rfl
  obtain ⟨fd5, F5⟩ := c.def_ 5 (d := d_law_fields) rfl
  obtain ⟨fd6, F6⟩ := c.def_ 6 (d := dlaw) rfl
  have hs : mg ("super" : Str) = none := (He.free_ok X G (at_ 12 (.free "super") rfl))
  have T : Cl R.prog K mg := {
    g := fun n hn => He.glo_ok X G (List.all_eq_true.mp e2 n hn)
    i := fun n hn => AFH.errIB_ok (List.all_eq_true.mp e4 n hn)
    kit := fun n hn m hm => of_decide_eq_true (List.all_eq_true.mp (List.all_eq_true.mp e5 n hn) m hm)
    gA := (He.glo_ok X G (at_ 15 (.glo "AskError") rfl))
    kA := fun n hn => of_decide_eq_true (He.ba (List.all_eq_true.mp e6 n hn)).1
    kV := fun n hn => of_decide_eq_true (He.ba (List.all_eq_true.mp e6 n hn)).2 }
  have xo : ∀ n ∈ woN, PySem.W.excIn K (He.ga K n) PySem.HandSPX.veTail "ValueError.__new__" = true ∧ PySem.W.keepIn K (.ref (He.ga K n)) = true := fun n hn => by
    have z := He.exc_ok (List.all_eq_true.mp e3 n hn)
    exact ⟨z.1, z.2.1⟩
  have M : Mks R.prog K mg := {
    xBadOperations := (xo _ (by decide)).1
    kBadOperations := (xo _ (by decide)).2
    tBadBody := (c.err 0 tBadBody hs (by rfl) (d := eBadBody) rfl).1
    tBadStart := (c.err 1 tBadStart hs (by rfl) (d := eBadStart) rfl).1
    tNoRow := (c.err 2 tNoRow hs (by rfl) (d := eNoRow) rfl).1
    xBadOthers := (xo _ (by decide)).1
    kBadOthers := (xo _ (by decide)).2
    tBadHistory := (c.err 3 tBadHistory hs (by rfl) (d := eBadHistory) rfl).1
    xBadSizes := (xo _ (by decide)).1
    kBadSizes := (xo _ (by decide)).2
    tBadProgram := (c.err 4 tBadProgram hs (by rfl) (d := eBadProgram) rfl).1
    tBadHandler := (c.err 5 tBadHandler hs (by rfl) (d := eBadHandler) rfl).1
    tMismatch := (c.err 6 tMismatch hs (by rfl) (d := eMismatch) rfl).1
    tTooMany := (c.err 7 tTooMany hs (by rfl) (d := eTooMany) rfl).1
    tParted := (c.err 8 tParted hs (by rfl) (d := eParted) rfl).1
    tNoState := (c.err 9 tNoState hs (by rfl) (d := eNoState) rfl).1
    tNoOperation := (c.err 10 tNoOperation hs (by rfl) (d := eNoOperation) rfl).1
    tApart := (c.err 11 tApart hs (by rfl) (d := eApart) rfl).1
    tBadAnswer := (c.err 12 tBadAnswer hs (by rfl) (d := eBadAnswer) rfl).1
    tBadChoices := (c.err 13 tBadChoices hs (by rfl) (d := eBadChoices) rfl).1
    tBadCount := (c.err 14 tBadCount hs (by rfl) (d := eBadCount) rfl).1
    tNoIndex := (c.err 15 tNoIndex hs (by rfl) (d := eNoIndex) rfl).1
    xEndless := (xo _ (by decide)).1
    kEndless := (xo _ (by decide)).2
    xBadHandlers := (xo _ (by decide)).1
    kBadHandlers := (xo _ (by decide)).2
    tBadWork := (c.err 16 tBadWork hs (by rfl) (d := eBadWork) rfl).1
    xNoEntry := (xo _ (by decide)).1
    kNoEntry := (xo _ (by decide)).2
    tRecursive := (c.err 17 tRecursive hs (by rfl) (d := eRecursive) rfl).1
    tTooLong := (c.err 18 tTooLong hs (by rfl) (d := eTooLong) rfl).1
    tNoText := (c.err 19 tNoText hs (by rfl) (d := eNoText) rfl).1
  }
  have zA := He.exc_ok x1
  have U : Fns K mg := ⟨(He.free_ok X G (at_ 8 (.free "int") rfl)), (He.free_ok X G (at_ 7 (.free "len") rfl)), (He.free_ok X G (at_ 9 (.free "isinstance") rfl)), (He.free_ok X G (at_ 10 (.free "range") rfl)), (He.free_ok X G (at_ 11 (.free "enumerate") rfl)), (He.free_ok X G (at_ 13 (.free "ValueError") rfl)), (He.free_ok X G (at_ 14 (.free "repr") rfl)), zA.1, zA.2.1, AFH.errIB_ok x2, of_decide_eq_true x3⟩
  have e := hfa.symm.trans (He.glo_ok X G (at_ 6 (.glo "law") rfl))
  cases e
  have b := FunD.bindsA (ps := ["_law_script"]) F6 fun _ _ _ _ _ _ us hl => match us, hl with | [_], _ => rfl
  exact ⟨fd6, fun s v => b s [v] rfl, fun base _ _ => ok_law F6 U T M F0 (He.glo_ok X G (at_ 0 (.glo "_law_source_of") rfl)) F1 (He.glo_ok X G (at_ 1 (.glo "_law_next") rfl)) F2 (He.glo_ok X G (at_ 2 (.glo "_law_one") rfl)) F3 (He.glo_ok X G (at_ 3 (.glo "_law_kinds") rfl)) F4 (He.glo_ok X G (at_ 4 (.glo "_law_by_place") rfl)) F5 (He.glo_ok X G (at_ 5 (.glo "_law_fields") rfl))⟩
end K45
open PySem PySem.W PySem.Calls PyProof.Rows
theorem PySem.Challenge.cw_askfurther_k45_errors_made_by_hand_holds : PySem.Challenge.rw_askfurther_k45_errors_made_by_hand.Holds := by
  w_on; o_law
  refine HandSHeadRun.head_any (r := OpenLaw.row PySem.Challenge.rw_askfurther_k45_errors_made_by_hand) (q := view (OpenLaw.row PySem.Challenge.rw_askfurther_k45_errors_made_by_hand).prog [35]) (H := K45.hk) (ob := K45.ob) (M := 20000) (loose := K45.loose) (d := HandSHeadRun.topDef (OpenLaw.row PySem.Challenge.rw_askfurther_k45_errors_made_by_hand).prog 35) (kwd := []) K45.ob_eq
    (by kernel_rfl) (fun s => by kernel_rfl) K45.run (by kernel_rfl) (by kernel_rfl) (by kernel_rfl) (by rfl) (by first | assumption | decide +kernel) (by decide +kernel) ⟨rfl, rfl, rfl, rfl, rfl, by decide +kernel⟩ ?hw ?hc
  case hw => w_witness2
  case hc =>
    refine L2.walk_ofG (l := PySem.Challenge.rw_askfurther_k45_errors_made_by_hand) (n := 63) (k := 5) (x := "_law_script") (CX := L2.CX0) rfl (by decide) (by kernel_rfl) ⟨rfl, by decide, by decide⟩ ?F (fun _ _ _ _ z => z)
    intro w mg fa h Y G hmg0
    obtain ⟨K, KX, c⟩ := Y
    have hmg : mg ("law" : PySem.Str) = some (.ref fa) := by
      have e : (HandSHeadRun.topDef (OpenLaw.row PySem.Challenge.rw_askfurther_k45_errors_made_by_hand).prog 35).name = ("law" : PySem.Str) := by kernel_rfl
      rw [← e]
      exact hmg0
    obtain ⟨fd, hb, hF⟩ := K45.facts (w := w) KX G hmg c
    exact ⟨K, fd, K45.spLaw K, KX, hb, fun H a ns hl _ hS => ⟨a, ns, rfl, hS, hl, fun _ => rfl⟩, hF⟩
