import PyProof.Rows.All
import Wide.All
import OpenK.AllK
import Wide.FinOn
import KE.KExcSuper
import HandS.ForMost
import HandS.ForExc
import HandS.ExcInit
import KE.KExcIs
import HandS.ExcField
import PyProof.ReprRoads
import HandS.Evl
import HandS.Codes
import HandS.Defaults
import HandS.Head0
import HandS.Head1
import HandS.Head2
import HandS.HeadEnd
import HandS.HeadHook1
import HandS.HeadHook2
import HandS.ExcValue
import PySem.Challenge.RW_filledrow_k01_errors_and_their_fields
set_option Elab.async false
set_option linter.all false
set_option maxRecDepth 100000
set_option maxHeartbeats 4000000
/-! own errors: the class called with positions and keywords -/
namespace MyErr
open PySem PySem.W PySem.Calls PyProof.Rows PySem.HandSPX
section
variable {M : Model} {prog : Program} {w : World} {A : Around} {E : Value → Shared → Prop} {R : Result → Shared → Prop} {h : Heap} {g : Array GenState} {d : Drawn} {t : Nat} {os : OsState}
variable {nm q : Str} {C N : Addr} {bs bm bmB : List Value} {hdct : Bool} {sn : List Str} {sub : List Value} {ab : Bool} {col : Option Bool} {dd : Option Addr} {k0 k1 k2 k3 k5 : Option Value} {B newId initId : String}
theorem ck_new (F : ExcBaseFacts B newId initId bmB) (hT : ∀ X : String, bm.contains (.type X) = bmB.contains (.type X)) {us : List Value} {kw : List (Str × Value)} {Q : Unit → Shared → Prop}
    (hC : h.get? C = some (excClassObj nm q C N bs bm hdct sn sub ab col dd k0 k1 k2 k3 k5 newId)) (hq : Q () ⟨h, g, d, t, os⟩) :
    wpAny M A (checkBuiltinCall newId ⟨.ref C :: us, kw⟩) Q E ⟨h, g, d, t, os⟩ := by
  have z1 : (Value.ref C :: bm).contains (.type B) = true := by rw [List.contains_cons, hT, F.hasB, Bool.or_true]
  have z2 := F.noStar
  simp only [checkBuiltinCall, F.newKind, F.newSplit, F.newRow]
  repeat (first
    | refine wpAny_loadPart_at hC ?_
    | (refine wpAny_isSubtype_exc hC ?_; rw [z1])
    | refine wpAny_staticBase_exc hC ?_
    | refine wpAny_madeBy_exc hC ?_
    | simp only [bne_self_eq_false, Bool.false_eq_true, if_false]
    | wp_step)
  all_goals exact hq
theorem mk_new (F : ExcBaseFacts B newId initId bmB) (hT : ∀ X : String, bm.contains (.type X) = bmB.contains (.type X)) {us : List Value} {kw : List (Str × Value)}
    (hC : h.get? C = some (excClassObj nm q C N bs bm hdct sn sub ab col dd k0 k1 k2 k3 k5 newId))
    (hq : R (.ok (.ret (.ref (h.objs.size + 1)))) ⟨(h.push (kdv_tup us)).push (excO C h.objs.size), g, d, t, os⟩) (hl : us.length ≤ sizeLine) :
    codeAny (model prog w) A (.builtin newId ⟨.ref C :: us, kw⟩) R ⟨h, g, d, t, os⟩ := by
  have z0 := F.ends
  have z1 : (Value.ref C :: bm).contains (.type B) = true := by rw [List.contains_cons, hT, F.hasB, Bool.or_true]
  have z2 : (Value.ref C :: bm).contains (.type "AttributeError") = false := by rw [List.contains_cons, hT, F.noAttr]; rfl
  have z3 : (Value.ref C :: bm).contains (.type "NameError") = false := by rw [List.contains_cons, hT, F.noName]; rfl
  refine codeAny_builtinAt F.entry ?_
  unfold Builtin.«BaseException.__new__»
  refine PySem.wpAt_bind ?_
  show PySem.wpAt _ _ _ (stack >>= _) _ _ _
  refine PySem.wpAt_bind (PySem.wpAt_stack fun p below => PySem.wpAt_of_wpAny ?_)
  wp_walk
  refine PySem.wpAt_of_wpAny ?_
  rw [F.owner]
  repeat (first
    | with_reducible refine wpAny_madeHere_exc F.canon hC ?_
    | with_reducible refine wpAny_loadPart_at hC ?_
    | (with_reducible refine wpAny_isSubtype_exc hC ?_; first | rw [z1] | rw [z2] | rw [z3])
    | wp_step)
  show R _ _
  rw [Heap.size_push]
  exact hq
theorem ty_call (F : ExcBaseFacts B newId initId bmB) (hT : ∀ X : String, bm.contains (.type X) = bmB.contains (.type X)) {us : List Value} {kw : List (Str × Value)} {fI : Addr} {Q : Fin → Shared → Prop}
    (hC : h.get? C = some (excClassObj nm q C N bs bm hdct sn sub ab col dd k0 k1 k2 k3 k5 newId))
    (hi : Looks (model prog w) h (typeLookup (.ref C) "__init__") (some (.ref fI))) (hb : ∀ self, Looks (model prog w) h (bindSpecial (.ref fI) self) (.ref fI, [self])) (hl : us.length ≤ sizeLine)
    (hq : codeAny (model prog w) A (.call (.ref fI) ⟨.ref (h.objs.size + 1) :: us, kw⟩)
      (fun r s' => match r with | .ok (.ret v) => v = .none ∧ Q (.done (.ret (.ref (h.objs.size + 1)))) s' | .ok _ => False | .error e => E e s')
      ⟨(h.push (kdv_tup us)).push (excO C h.objs.size), g, d, t, os⟩) :
    wpAny (model prog w) A (Builtin.«type.__call__» ⟨.ref C :: us, kw⟩) Q E ⟨h, g, d, t, os⟩ := by
  repeat (first | with_reducible refine wpAny_loadPart_at hC ?_ | with_reducible refine wpAny_madeBy_exc hC ?_ | wp_step)
  refine codeAny_call_builtin_code (Code.quiet_builtin _ F.quiet) (ck_new F hT hC ?_)
  refine mk_new F hT hC ?_ hl
  show wpAny _ _ _ _ _ _
  have k : ∀ b o, h.get? b = some o → ((h.push (kdv_tup us)).push (excO C h.objs.size)).get? b = some o := fun b o e => Heap.get?_push_of_some _ (Heap.get?_push_of_some _ e)
  have hC1 := k _ _ hC
  have hg : ((h.push (kdv_tup us)).push (excO C h.objs.size)).get? (h.objs.size + 1) = some (excO C h.objs.size) := by heap_get
  have zc : (Value.ref C :: bm).contains (.ref C) = true := by simp
  have i1 := hi.keeps k
  have b1 := (hb (.ref (h.objs.size + 1))).keeps k
  unfold isInstance
  repeat (first | with_reducible refine wpAny_loadPart_at hg ?_ | (with_reducible refine wpAny_isSubtype_exc hC1 ?_; rw [zc]) | wp_step)
  show wpAny _ _ (typeLookup (.ref C) _) _ _ _
  refine i1.at ?_
  refine wpAny_holding (wpAny_bind (b1.at ?_))
  refine wpAny_bind (wpAny_call (codeAny_mono hq fun r s' z => ?_))
  rcases r with e | (v | _ | _ | _) <;> first | exact z | exact z.elim | skip
  obtain ⟨rfl, z⟩ := z
  first
    | exact wpAny_pure (wpAny_pure z)
    | (wp_walk; exact z)
theorem cls_call (F : ExcBaseFacts B newId initId bmB) (hT : ∀ X : String, bm.contains (.type X) = bmB.contains (.type X)) {us : List Value} {kw : List (Str × Value)} {fI : Addr}
    (hC : h.get? C = some (excClassObj nm q C N bs bm hdct sn sub ab col dd k0 k1 k2 k3 k5 newId))
    (hi : Looks (model prog w) h (typeLookup (.ref C) "__init__") (some (.ref fI))) (hb : ∀ self, Looks (model prog w) h (bindSpecial (.ref fI) self) (.ref fI, [self])) (hl : us.length ≤ sizeLine)
    (hq : codeAny (model prog w) (A.under (.builtin "type.__call__" ⟨.ref C :: us, kw⟩)) (.call (.ref fI) ⟨.ref (h.objs.size + 1) :: us, kw⟩) (InitBack (h.objs.size + 1) R)
      ⟨(h.push (kdv_tup us)).push (excO C h.objs.size), g, d, t, os⟩) :
    codeAny (model prog w) A (.call (.ref C) ⟨us, kw⟩) R ⟨h, g, d, t, os⟩ := by
  have f1 := tc_lookup
  have f2 := tc_bind (.ref C)
  have hTy : (⟨h, g, d, t, os⟩ : Shared).TypeIs (.ref C) "type" := ⟨_, hC, rfl⟩
  refine codeAny_of_tree ?_
  show wpAny _ _ (callAny (.ref C) _) _ _ _
  repeat (any_goals (first | assumption | with_reducible refine wpAny_loadPart_at hC ?_ | wp_step))
  refine ⟨rfl, ?_⟩
  refine codeAny_call_builtin_at (Code.quiet_builtin _ (by decide +kernel)) entry_typeCall (wpAny_check_type_call_sub hC (ty_call F hT hC hi hb hl ?_))
  refine codeAny_mono hq fun r s' z => ?_
  rcases r with e | (v | _ | _ | _) <;> exact z
end
end MyErr


set_option Elab.async false
set_option linter.all false
set_option maxRecDepth 100000
set_option maxHeartbeats 4000000
/-! own errors: super().__init__(..) within __init__ -/
namespace MyErr
open PySem PySem.W PySem.Calls PyProof.Rows PySem.HandSPX
/-- what the top tells of an own error's class C and of its __init__ at f -/
structure EC (prog : Program) (K : Frag) (C f cda cc : Addr) (fd : FuncData) : Prop where
  cls : ∃ nm q N bs bm sn sub ab col dd k0 k1 k2 k3 k5, K.lookup C = some (excClassObj nm q C N bs bm true sn sub ab col dd k0 k1 k2 k3 k5 "ValueError.__new__") ∧ refsVE bm = true
  fn : ∃ oc od osl, K.lookup f = some ⟨oc, od, .func fd, osl⟩
  code : ∃ ccl cdd vs ccs file tf, K.lookup cda = some ⟨ccl, cdd, .fields vs, ccs⟩ ∧ vs[2]? = some (.str file tf) ∧ ((prog.main.file : Str) == file) = true
  cell : ∃ cl cld csl, K.lookup cc = some ⟨cl, cld, .cell (some (.ref C)), csl⟩
  sup : ks_superIn K C C "__init__" = some (some (.builtin "ValueError.__init__"))
  subV : subIn K (.ref C) (.type "ValueError") = some true
  subC : mroIn K C (.ref C) = some true
  opq : nsIn K cStatics "thirdparty.any" = some none
  top : (prog.main.scope.names.lookup ("super" : Str)).isSome = false
section
variable {prog : Program} {w : World} {A : Around} {E : Value → Shared → Prop} {s : Shared} {K : Frag} {mg : Str → Option Value} {base : Heap} {C f cda cc x t0 L : Addr} {fd : FuncData} {m : Str → Option Value} {qual : Str} {scope : Scope}
theorem sup_exec {body : List Stmt} {p0 p1 p2 p3 p4 : Pos} {e : Expr} {es : List Expr} {ar : Arg} {pl : Sem Bool} {Q : Flow → Shared → Prop} (T : EC prog K C f cda cc fd) (hsup : mg "super" = none) (M0 : L2.Mod K mg base) (kb : ∀ b o, base.get? b = some o → s.heap.get? b = some o)
    (har : (fd.params.posonlyargs ++ fd.params.args).head? = some ar) (hns : s.heap.Ns L m) (hself : m ar.arg = some (.ref x)) (hx : s.heap.get? x = some (excO C t0))
    (hks : scope.names.lookup ("super" : Str) = some .globalImplicit) (hkc : scope.names.lookup ("__class__" : Str) = some .free) (hka : scope.names.lookup ar.arg = some .local) (hk : scope.kind = .function)
    (hargs : ∀ (s1 : Shared) (Q' : List Value → Shared → Prop), s1.heap.Ns L m → (∀ us tk, us.length ≤ sizeLine → Q' us { s1 with toks := tk }) → wpAny (model prog w) A (spliced (backTo p3 (starEach (e :: es) (ksEnv qual scope L f (.ref cda) cc)))) Q' E s1)
    (hq : ∀ h' tk t1, (∀ b o, b ≠ x → s.heap.get? b = some o → h'.get? b = some o) → h'.get? x = some (excO C t1) → Q .next { s with heap := h', toks := tk })
    (he : starEach (e :: es) (ksEnv qual scope L f (.ref cda) cc) = (false, eval e (ksEnv qual scope L f (.ref cda) cc)) :: starEach es (ksEnv qual scope L f (.ref cda) cc) := by rfl)
    (hpl : (backTo p3 (starEach es (ksEnv qual scope L f (.ref cda) cc))).any (·.1) = false := by rfl)
    (hev : eval (.Call (.Attribute (.Call (.Name "super" p0) [] [] p1) "__init__" p2) (e :: es) [] p3) (ksEnv qual scope L f (.ref cda) cc) = (do
      let ov ← attributeBase (.Call (.Name "super" p0) [] [] p1) "__init__" (ksEnv qual scope L f (.ref cda) cc) (eval (.Call (.Name "super" p0) [] [] p1) (ksEnv qual scope L f (.ref cda) cc))
      standAt p2.atName
      let (f', first) ← holding [ov] (getMethod ov "__init__" pl)
      callWith p3 f' first (backTo p3 (starEach (e :: es) (ksEnv qual scope L f (.ref cda) cc))) []) := by rfl)
    (hsw : swapsWith (.Call (.Attribute (.Call (.Name "super" p0) [] [] p1) "__init__" p2) (e :: es) [] p3) none p4.line (ksEnv qual scope L f (.ref cda) cc) = pure false := by rfl)
    (hin : interactive (ksEnv qual scope L f (.ref cda) cc) = false := by rfl) :
    PySem.wpAt (model prog w) A (.func body (ksEnv qual scope L f (.ref cda) cc)) (exec (.Expr (.Call (.Attribute (.Call (.Name "super" p0) [] [] p1) "__init__" p2) (e :: es) [] p3) p4) (ksEnv qual scope L f (.ref cda) cc)) Q E s := by
  obtain ⟨nm, q, N, bs, bm, sn, sub, ab, col, dd, k0, k1, k2, k3, k5, hC, hbm⟩ := T.cls
  obtain ⟨oc, od, osl, hf⟩ := T.fn
  obtain ⟨ccl, cdd, vs, ccs, file, tf, hcode, hvs, hfile⟩ := T.code
  obtain ⟨cl, cld, csl, hcell⟩ := T.cell
  obtain ⟨mb, hb1, hb2⟩ := M0.blt
  have X : K.In s.heap := M0.kin.keeps kb
  have I : InstAt s.heap x (excO C t0) C none := ⟨hx, rfl, rfl, trivial⟩
  have hcl : clsIn K C = some { name := nm, bases := bs, mro := .ref C :: bm, ns := N, qualname := q, hasDict := true, slotNames := sn, subclasses := sub, abstract := ab, collection := col, hasDel := false } := by unfold clsIn; rw [hC] <;> rfl
  have hxC : x ≠ C := ks_ne X I hcl
  refine ks_wpAt_Expr_any (ks_wpAt_MethodCall (pl := pl) ?_ hev) hin hsw
  obtain ⟨hh, g, d, t, os⟩ := s
  refine ks_wpAt_super_base (env := ksEnv qual scope L f (.ref cda) cc) hks hkc (by decide) rfl (X _ _ hf) rfl har rfl (X _ _ hcode) rfl hvs hfile T.top ?_
  refine ks_loadName_global hk hks (loadGlobal_builtin (env := ksEnv qual scope L f (.ref cda) cc) (M0.glob.keeps kb) hsup (hb1.keeps kb) ((hb2 _ (by decide)).trans (show bootBuiltins "super" = some (.type "super") by decide +kernel)) ⟨rfl, ?_⟩)
  refine wpAny_loadName_free hk hkc rfl ⟨_, X _ _ hcell, rfl⟩ ?_
  refine wpAny_loadName_local hk hka hns hself ?_
  refine ks_wpAny_isType_cls (X _ _ hC) rfl ⟨rfl, ?_⟩
  refine ks_wpAny_call_super (X _ _ hC) rfl hx rfl (fun c z => by cases z) (looks_mroIn X T.subC) (fun h1 e1 kk => ?_)
  have X1 : K.In h1 := X.keeps kk
  have hI : Looks (model prog w) h1 (isInstance (.ref x) (.type "ValueError")) true := (show InstAt h1 x (excO C t0) C none from ⟨kk _ _ hx, rfl, rfl, trivial⟩).type.andThen (looks_subIn X1 T.subV)
  have hm := T.sup
  unfold ks_superIn at hm
  rw [hcl] at hm
  refine kxs_getMethod kxs_ValueError e1 (looks_opaque X1 T.opq) (l₀ := .ref C :: bm) ?_ rfl X1 hm hI hxC (by decide) ?_
  · exact fun A' Q' E' s' k' q' => wpAny_bind ((looks_clsIn X1 hcl) A' _ E' s' k' (wpAny_pure q'))
  · have k2' : ∀ b o, hh.get? b = some o → (h1.push (kxs_mw "ValueError.__init__" x)).get? b = some o := fun b o z => Heap.get?_push_of_some _ (kk b o z)
    have hu : (h1.push (kxs_mw "ValueError.__init__" x)).get? h1.objs.size = some (kxs_mw "ValueError.__init__" x) := Heap.get?_push_at rfl rfl
    rw [he] at hargs ⊢
    refine kxs_callWith (i := "ValueError.__init__") (x := x) (by show (false || (backTo p3 (starEach es _)).any (·.1)) = false; rw [hpl]; rfl) ?_
    refine evalArgs_plain ?_
    refine hargs _ _ (hns.keeps k2') fun us tk hl => ⟨hu, ?_⟩
    refine wpAny_call (codeAny_of_tree ?_)
    show wpAny _ A.in1 (callAny (.ref h1.objs.size) ⟨us, []⟩) _ _ _
    simp only [callAny]
    refine wpAny_bind (wpAny_load hu ?_)
    simp only [kxs_mw, show (Value.type "method-wrapper" == Value.type "method" || Value.type "method-wrapper" == Value.type "builtin_function_or_method" || Value.type "method-wrapper" == Value.type "method-wrapper") = true by decide, if_true]
    refine KFB.if_so (by decide) ?_
    refine wpAny_bind (check_bound_init F.excBase_ValueError.toExcCallFacts (k2' _ _ (X _ _ hC)) (k2' _ _ hx) rfl ?_)
    refine wpAny_bind (wpAny_pure (wpAny_pure ?_))
    refine ⟨plainId_quiet F.excBase_ValueError.init.plain _, codeAny_builtin F.excBase_ValueError.initEntry ?_⟩
    refine exc_init_tree (cls := .ref C) (t0 := t0) (dv := none) (c2 := .none) (c3 := .none) (b4 := .bool false) (k2' _ _ hx) hl (fun h' ka kx kt => ?_)
    exact hq h' _ _ (fun b o hb z => ka b o hb (k2' b o z)) kx
end
end MyErr


set_option Elab.async false
set_option linter.all false
set_option maxRecDepth 100000
set_option maxHeartbeats 4000000
/-! own errors: __init__ with none, one or two fields -/
namespace MyErr
open PySem PySem.W PySem.Calls PyProof.Rows PySem.HandSPX
/-! the texts -/
def aS (p : Pos) : Arg := { arg := "self", annotation := none, pos := p }
def aF (f : Str) (p : Pos) : Arg := { arg := f, annotation := none, pos := p }
def iA (as : List Arg) : Arguments := { posonlyargs := [], args := as, vararg := none, kwonlyargs := [], kw_defaults := [], kwarg := none, defaults := [] }
def iSup (p0 p1 p2 p3 p4 p5 : Pos) (es : List Expr) : Stmt := .Expr (.Call (.Attribute (.Call (.Name "super" p0) [] [] p1) "__init__" p2) es [] p3) p4
def iPut (f : Str) (q1 q2 q3 q4 : Pos) : Stmt := .Assign [.Attribute (.Name "self" q1) f q2] (.Name f q3) q4
def iS (fs : List Str) : Scope := { kind := .function, names := (PySem.Str.ofString "self", NameKind.local) :: (fs.map fun f => (f, NameKind.local)) ++ [(PySem.Str.ofString "__class__", NameKind.free), (PySem.Str.ofString "super", NameKind.globalImplicit)], isGenerator := false, isCoroutine := false, more := [] }
/-- how super().__init__(e, ..) is read (shown by rfl of a written text) -/
structure SupOk (qual : Str) (scope : Scope) (f cda cc : Addr) (p0 p1 p2 p3 p4 : Pos) (e : Expr) (es : List Expr) (pl : Sem Bool) : Prop where
  he : ∀ L, starEach (e :: es) (ksEnv qual scope L f (.ref cda) cc) = (false, eval e (ksEnv qual scope L f (.ref cda) cc)) :: starEach es (ksEnv qual scope L f (.ref cda) cc)
  hpl : ∀ L, (backTo p3 (starEach es (ksEnv qual scope L f (.ref cda) cc))).any (·.1) = false
  hev : ∀ L, eval (.Call (.Attribute (.Call (.Name "super" p0) [] [] p1) "__init__" p2) (e :: es) [] p3) (ksEnv qual scope L f (.ref cda) cc) = (do
      let ov ← attributeBase (.Call (.Name "super" p0) [] [] p1) "__init__" (ksEnv qual scope L f (.ref cda) cc) (eval (.Call (.Name "super" p0) [] [] p1) (ksEnv qual scope L f (.ref cda) cc))
      standAt p2.atName
      let (f', first) ← holding [ov] (getMethod ov "__init__" pl)
      callWith p3 f' first (backTo p3 (starEach (e :: es) (ksEnv qual scope L f (.ref cda) cc))) [])
  hsw : ∀ L, swapsWith (.Call (.Attribute (.Call (.Name "super" p0) [] [] p1) "__init__" p2) (e :: es) [] p3) none p4.line (ksEnv qual scope L f (.ref cda) cc) = pure false
  hin : ∀ L, interactive (ksEnv qual scope L f (.ref cda) cc) = false
/-- what __init__ leaves of a fresh error at x -/
structure IE (h h' : Heap) (x C dx t1 : Addr) (mA : Str → Option Value) : Prop where
  keep : ∀ b o, b ≠ x → h.get? b = some o → h'.get? b = some o
  obj : h'.get? x = some { cls := .ref C, dict := some dx, data := .fields #[.ref t1, .none, .none, .none, .bool false, .none] }
  dbig : h.objs.size ≤ dx
  dne : dx ≠ x
  ns : h'.Ns1 dx mA
theorem in_but {K : Frag} {h h' : Heap} {x : Addr} (X : K.In h) (hx : K.lookup x = none) (k : ∀ b o, b ≠ x → h.get? b = some o → h'.get? b = some o) : K.In h' := fun a o e => k a o (fun z => by rw [z, hx] at e; cases e) (X a o e)
theorem ns_but {h h' : Heap} {x L : Addr} {m : Str → Option Value} (n : h.Ns L m) (hx : x ≠ L) (k : ∀ b o, b ≠ x → h.get? b = some o → h'.get? b = some o) : h'.Ns L m := by
  obtain ⟨o, es, ep, ho, r⟩ := n
  exact ⟨o, es, ep, k _ _ (Ne.symm hx) ho, r⟩
section
variable {prog : Program} {w : World} {A : Around} {R : Result → Shared → Prop} {s : Shared} {K : Frag} {mg : Str → Option Value} {base : Heap} {C f cda cc x t0 : Addr} {qual : Str} {kV doc pm ct : Value} {an : Option Addr} {args : Args}
theorem ld1 {M : Model} {s : Shared} {qual : Str} {scope : Scope} {L f cc : Addr} {cd : Value} {m : Str → Option Value} {y : Str} {pos : Pos} {v : Value} {Q : Value → Shared → Prop} {A : Around} {E : Value → Shared → Prop} (hn : s.heap.Ns L m) (hv : m y = some v) (h : Q v s)
    (hk : scope.kind = .function) (hl : scope.names.lookup y = some .local) (hd : (y == ("__debug__" : Str)) = false) : wpAny M A (eval (.Name y pos) (ksEnv qual scope L f cd cc)) Q E s := wpAny_Name (wpAny_loadName_local hk hl hn hv h) hd
theorem init1 {fl : Str} {a1 a2 p0 p1 p2 p3 p4 p5 e1 q1 q2 q3 q4 : Pos} {v : Value} {pl : Sem Bool}
    (T : EC prog K C f cda cc (ksFn "__init__" qual (iA [aS a1, aF fl a2]) [iSup p0 p1 p2 p3 p4 p5 [.Name fl e1], iPut fl q1 q2 q3 q4] (iS [fl]) .none kV doc pm an (.ref cda) ct cc))
    (hcd : codeIn K (.ref cda) qual = true) (hsup : mg "super" = none) (M0 : L2.Mod K mg base) (kb : ∀ b o, base.get? b = some o → s.heap.get? b = some o) (hroom : A.depth < recursionLimit)
    (hx : s.heap.get? x = some (excO C t0)) (hnx : K.lookup x = none) (hbx : base.get? x = none)
    (sa : findIn K (.ref C) "__setattr__" = some (some (.builtin "object.__setattr__"))) (noF : findIn K (.ref C) fl = some none)
    (hf1 : (("self" : Str) == fl) = false) (hf2 : (fl == ("__class__" : Str)) = false) (hf3 : (fl == ("super" : Str)) = false) (hf4 : (fl == ("__debug__" : Str)) = false)
    (hbind : BindsTo s (ksFn "__init__" qual (iA [aS a1, aF fl a2]) [iSup p0 p1 p2 p3 p4 p5 [.Name fl e1], iPut fl q1 q2 q3 q4] (iS [fl]) .none kV doc pm an (.ref cda) ct cc) args [("self", .ref x), (fl, v)])
    (hq : ∀ h' tk dx t1, IE s.heap h' x C dx t1 (fun y => if y = fl then some v else none) → R (.ok (.ret .none)) { s with heap := h', toks := tk })
    (hsup1 : SupOk qual (iS [fl]) f cda cc p0 p1 p2 p3 p4 (.Name fl e1) [] pl)
    (hsw : ∀ L, swapsWith (.Name fl q3) (some (.Attribute (.Name "self" q1) fl q2)) q4.line (ksEnv qual (iS [fl]) L f (.ref cda) cc) = pure false) :
    codeAny (model prog w) A (.call (.ref f) args) R s := by
  obtain ⟨nm, q, N, bs, bm, sn, sub, ab, col, dd, k0, k1, k2, k3, k5, hC, hbm⟩ := T.cls
  obtain ⟨oc, od, osl, hf⟩ := T.fn
  have X : K.In s.heap := M0.kin.keeps kb
  have hcl : clsIn K C = some { name := nm, bases := bs, mro := .ref C :: bm, ns := N, qualname := q, hasDict := true, slotNames := sn, subclasses := sub, abstract := ab, collection := col, hasDel := false } := by unfold clsIn; rw [hC] <;> rfl
  have sf1 : (fl == ("self" : Str)) = false := by
    rw [beq_eq_false_iff_ne] at hf1 ⊢
    exact fun z => hf1 z.symm
  have lks : (iS [fl]).names.lookup ("self" : Str) = some .local := by rfl
  have lkf : (iS [fl]).names.lookup fl = some .local := by
    show List.lookup fl ((PySem.Str.ofString "self", NameKind.local) :: (fl, NameKind.local) :: _) = _
    rw [List.lookup_cons, sf1, List.lookup_cons, beq_self_eq_true]
  have lkc : (iS [fl]).names.lookup ("__class__" : Str) = some .free := by
    show List.lookup ("__class__" : Str) ((PySem.Str.ofString "self", NameKind.local) :: (fl, NameKind.local) :: (PySem.Str.ofString "__class__", NameKind.free) :: _) = _
    have : (("__class__" : Str) == fl) = false := by rw [beq_eq_false_iff_ne] at hf2 ⊢; exact fun z => hf2 z.symm
    rw [List.lookup_cons, show (("__class__" : Str) == PySem.Str.ofString "self") = false by decide, List.lookup_cons, this]
    rfl
  have lku : (iS [fl]).names.lookup ("super" : Str) = some .globalImplicit := by
    show List.lookup ("super" : Str) ((PySem.Str.ofString "self", NameKind.local) :: (fl, NameKind.local) :: (PySem.Str.ofString "__class__", NameKind.free) :: (PySem.Str.ofString "super", NameKind.globalImplicit) :: []) = _
    have : (("super" : Str) == fl) = false := by rw [beq_eq_false_iff_ne] at hf3 ⊢; exact fun z => hf3 z.symm
    rw [List.lookup_cons, show (("super" : Str) == PySem.Str.ofString "self") = false by decide, List.lookup_cons, this]
    rfl
  refine ks_codeAny_call_defAt (fd := ksFn "__init__" qual (iA [aS a1, aF fl a2]) [iSup p0 p1 p2 p3 p4 p5 [.Name fl e1], iPut fl q1 q2 q3 q4] (iS [fl]) .none kV doc pm an (.ref cda) ct cc) hroom (X _ _ hf) rfl (M0.nolimit.keeps kb) (codeRec_of X hcd) rfl hbind ?_ ?_ (fun h₁ hns hk₁ => ?_)
  · intro y hy
    have : y ∈ ([(PySem.Str.ofString "self", NameKind.local), (fl, NameKind.local), (PySem.Str.ofString "__class__", NameKind.free), (PySem.Str.ofString "super", NameKind.globalImplicit)] : List (Str × NameKind)) := hy
    simp only [List.mem_cons, List.not_mem_nil, or_false] at this
    rcases this with rfl | rfl | rfl | rfl <;> exact fun z => nomatch z
  · intro y hy
    simp only [List.mem_cons, List.not_mem_nil, or_false] at hy
    rcases hy with rfl | rfl
    · exact lks
    · exact lkf
  · have m1 : ([("self", Value.ref x), (fl, v)] : List (Str × Value)).reverse.lookup ("self" : Str) = some (.ref x) := by
      show List.lookup ("self" : Str) [(fl, v), (("self" : Str), Value.ref x)] = _
      rw [List.lookup_cons, hf1]
      rfl
    have m2 : ([("self", Value.ref x), (fl, v)] : List (Str × Value)).reverse.lookup fl = some v := by
      show List.lookup fl [(fl, v), (("self" : Str), Value.ref x)] = _
      rw [List.lookup_cons, beq_self_eq_true]
    have hxL : x ≠ s.heap.objs.size := Nat.ne_of_lt (Heap.lt_size hx)
    refine ks_wpAt_execs_cons ?_
    refine sup_exec (ar := aS a1) (x := x) (t0 := t0) (mg := mg) (base := base) T hsup M0 (fun b o e => hk₁ b o (kb b o e)) rfl hns m1 (hk₁ _ _ hx) lku lkc lks rfl (fun s1 Q' hn h => ?_) (fun h2 tk2 t2 k2' hx2 => ?_) (hsup1.he _) (hsup1.hpl _) (hsup1.hev _) (hsup1.hsw _) (hsup1.hin _)
    · exact Calls.spliced_cons (ld1 hn m2 (Calls.spliced_nil (h _ _ (by show 1 ≤ sizeLine; rw [sizeLine_eq]; omega))) rfl lkf hf4)
    · refine PySem.wpAt_of_wpAny ?_
      have X2 : K.In h2 := in_but (X.keeps hk₁) hnx k2'
      have n2 := ns_but hns hxL k2'
      refine wpAny_execs_cons (plainObj_wpAny_Assign_Attribute ?_ (hsw _))
      refine ld1 (v := v) n2 m2 (ld1 (v := .ref x) n2 m1 ?_ rfl lks (by decide)) rfl lkf hf4
      refine set_plain X2 (ox := excO C t2) (od := none) ⟨hx2, rfl, rfl, trivial⟩ sa ?_
      refine exc_osa X2 hx2 hcl (show refsVE (.ref C :: bm) = true from hbm) rfl noF (fun h3 tk3 dx k3' dn dne hx3 hn3 => ?_)
      have z : s.heap.objs.size < h2.objs.size := n2.lt
      exact wpAny_execs_nil (hq h3 tk3 dx t2 ⟨fun b o hb e => k3' b o hb (k2' b o hb (hk₁ b o e)), hx3, Nat.le_of_lt (Nat.lt_of_lt_of_le z dn), dne, hn3⟩)
end
end MyErr


set_option Elab.async false
set_option linter.all false
set_option maxRecDepth 100000
set_option maxHeartbeats 4000000
/-! own errors: __init__ with two fields, with none -/
namespace MyErr
open PySem PySem.W PySem.Calls PyProof.Rows PySem.HandSPX
/-- __init__ without a field leaves a fresh error at x -/
structure IE0 (h h' : Heap) (x C t1 : Addr) : Prop where
  keep : ∀ b o, b ≠ x → h.get? b = some o → h'.get? b = some o
  obj : h'.get? x = some (excO C t1)
section
variable {prog : Program} {w : World} {A : Around} {R : Result → Shared → Prop} {s : Shared} {K : Frag} {mg : Str → Option Value} {base : Heap} {C f cda cc x t0 : Addr} {qual : Str} {kV doc pm ct : Value} {an : Option Addr} {args : Args}
theorem init2 {fl fm : Str} {a1 a2 a3 p0 p1 p2 p3 p4 p5 e1 e2 q1 q2 q3 q4 r1 r2 r3 r4 : Pos} {v u : Value} {pl : Sem Bool}
    (T : EC prog K C f cda cc (ksFn "__init__" qual (iA [aS a1, aF fl a2, aF fm a3]) [iSup p0 p1 p2 p3 p4 p5 [.Name fl e1, .Name fm e2], iPut fl q1 q2 q3 q4, iPut fm r1 r2 r3 r4] (iS [fl, fm]) .none kV doc pm an (.ref cda) ct cc))
    (hcd : codeIn K (.ref cda) qual = true) (hsup : mg "super" = none) (M0 : L2.Mod K mg base) (kb : ∀ b o, base.get? b = some o → s.heap.get? b = some o) (hroom : A.depth < recursionLimit)
    (hx : s.heap.get? x = some (excO C t0)) (hnx : K.lookup x = none)
    (sa : findIn K (.ref C) "__setattr__" = some (some (.builtin "object.__setattr__"))) (noF : findIn K (.ref C) fl = some none) (noG : findIn K (.ref C) fm = some none)
    (lks : (iS [fl, fm]).names.lookup ("self" : Str) = some .local) (lkf : (iS [fl, fm]).names.lookup fl = some .local) (lkg : (iS [fl, fm]).names.lookup fm = some .local)
    (lkc : (iS [fl, fm]).names.lookup ("__class__" : Str) = some .free) (lku : (iS [fl, fm]).names.lookup ("super" : Str) = some .globalImplicit) (lno : ∀ y ∈ (iS [fl, fm]).names, y.2 ≠ .cell)
    (m1 : ([("self", Value.ref x), (fl, v), (fm, u)] : List (Str × Value)).reverse.lookup ("self" : Str) = some (.ref x)) (m2 : ([("self", Value.ref x), (fl, v), (fm, u)] : List (Str × Value)).reverse.lookup fl = some v)
    (m3 : ([("self", Value.ref x), (fl, v), (fm, u)] : List (Str × Value)).reverse.lookup fm = some u) (hf4 : (fl == ("__debug__" : Str)) = false) (hg4 : (fm == ("__debug__" : Str)) = false)
    (hbind : BindsTo s (ksFn "__init__" qual (iA [aS a1, aF fl a2, aF fm a3]) [iSup p0 p1 p2 p3 p4 p5 [.Name fl e1, .Name fm e2], iPut fl q1 q2 q3 q4, iPut fm r1 r2 r3 r4] (iS [fl, fm]) .none kV doc pm an (.ref cda) ct cc) args [("self", .ref x), (fl, v), (fm, u)])
    (hq : ∀ h' tk dx t1, IE s.heap h' x C dx t1 (fun y => if y = fm then some u else if y = fl then some v else none) → R (.ok (.ret .none)) { s with heap := h', toks := tk })
    (hsup1 : SupOk qual (iS [fl, fm]) f cda cc p0 p1 p2 p3 p4 (.Name fl e1) [.Name fm e2] pl)
    (hsw : ∀ L, swapsWith (.Name fl q3) (some (.Attribute (.Name "self" q1) fl q2)) q4.line (ksEnv qual (iS [fl, fm]) L f (.ref cda) cc) = pure false)
    (hsv : ∀ L, swapsWith (.Name fm r3) (some (.Attribute (.Name "self" r1) fm r2)) r4.line (ksEnv qual (iS [fl, fm]) L f (.ref cda) cc) = pure false) :
    codeAny (model prog w) A (.call (.ref f) args) R s := by
  obtain ⟨nm, q, N, bs, bm, sn, sub, ab, col, dd, k0, k1, k2, k3, k5, hC, hbm⟩ := T.cls
  obtain ⟨oc, od, osl, hf⟩ := T.fn
  have X : K.In s.heap := M0.kin.keeps kb
  have hcl : clsIn K C = some { name := nm, bases := bs, mro := .ref C :: bm, ns := N, qualname := q, hasDict := true, slotNames := sn, subclasses := sub, abstract := ab, collection := col, hasDel := false } := by unfold clsIn; rw [hC] <;> rfl
  refine ks_codeAny_call_defAt (fd := ksFn "__init__" qual (iA [aS a1, aF fl a2, aF fm a3]) [iSup p0 p1 p2 p3 p4 p5 [.Name fl e1, .Name fm e2], iPut fl q1 q2 q3 q4, iPut fm r1 r2 r3 r4] (iS [fl, fm]) .none kV doc pm an (.ref cda) ct cc) hroom (X _ _ hf) rfl (M0.nolimit.keeps kb) (codeRec_of X hcd) rfl hbind lno ?_ (fun h₁ hns hk₁ => ?_)
  · intro y hy
    simp only [List.mem_cons, List.not_mem_nil, or_false] at hy
    rcases hy with rfl | rfl | rfl
    · exact lks
    · exact lkf
    · exact lkg
  · have hxL : x ≠ s.heap.objs.size := Nat.ne_of_lt (Heap.lt_size hx)
    refine ks_wpAt_execs_cons ?_
    refine sup_exec (ar := aS a1) (x := x) (t0 := t0) (mg := mg) (base := base) T hsup M0 (fun b o e => hk₁ b o (kb b o e)) rfl hns m1 (hk₁ _ _ hx) lku lkc lks rfl (fun s1 Q' hn h => ?_) (fun h2 tk2 t2 k2' hx2 => ?_) (hsup1.he _) (hsup1.hpl _) (hsup1.hev _) (hsup1.hsw _) (hsup1.hin _)
    · exact Calls.spliced_cons (ld1 hn m2 (Calls.spliced_cons (ld1 hn m3 (Calls.spliced_nil (h _ _ (by show 2 ≤ sizeLine; rw [sizeLine_eq]; omega))) rfl lkg hg4)) rfl lkf hf4)
    · refine PySem.wpAt_of_wpAny ?_
      have X2 : K.In h2 := in_but (X.keeps hk₁) hnx k2'
      have n2 := ns_but hns hxL k2'
      refine wpAny_execs_cons (plainObj_wpAny_Assign_Attribute ?_ (hsw _))
      refine ld1 (v := v) n2 m2 (ld1 (v := .ref x) n2 m1 ?_ rfl lks (by decide)) rfl lkf hf4
      refine set_plain X2 (ox := excO C t2) (od := none) ⟨hx2, rfl, rfl, trivial⟩ sa ?_
      refine exc_osa X2 hx2 hcl (show refsVE (.ref C :: bm) = true from hbm) rfl noF (fun h3 tk3 dx k3' dn dne hx3 hn3 => ?_)
      have z : s.heap.objs.size < h2.objs.size := n2.lt
      have X3 : K.In h3 := in_but X2 hnx k3'
      have n3 := ns_but n2 hxL k3'
      have hw : Within (fun y => if y = fl then some v else none) [fl] := fun y hy => by
        by_cases e : y = fl
        · exact List.mem_singleton.mpr e
        · exact absurd (if_neg e) hy
      obtain ⟨oD, _, _, hoD, _, _⟩ := hn3.count hw
      refine wpAny_execs_cons (plainObj_wpAny_Assign_Attribute ?_ (hsv _))
      refine ld1 (v := u) n3 m3 (ld1 (v := .ref x) n3 m1 ?_ rfl lks (by decide)) rfl lkg hg4
      refine set_plain X3 (ox := { cls := .ref C, dict := some dx, data := .fields #[.ref t2, .none, .none, .none, .bool false, .none] }) (od := some oD) ⟨hx3, rfl, rfl, hoD⟩ sa ?_
      refine PySem.OEX.osa_old X3 hx3 hn3 hw (by show 1 ≤ 1000; decide) hcl (show refsVE (.ref C :: bm) = true from hbm) rfl noG (fun h4 tk4 k4' hn4 => ?_)
      exact wpAny_execs_nil (hq h4 tk4 dx t2 ⟨fun b o hb e => k4' b o (Nat.ne_of_lt (Nat.lt_of_lt_of_le (Heap.lt_size (k2' b o hb (hk₁ b o e))) dn)) (k3' b o hb (k2' b o hb (hk₁ b o e))), k4' _ _ dne.symm hx3, Nat.le_of_lt (Nat.lt_of_lt_of_le z dn), dne, hn4⟩)
theorem init0 {a1 p0 p1 p2 p3 p4 p5 e1 : Pos} {y : Str} {kd : Nat} {pl : Sem Bool}
    (T : EC prog K C f cda cc (ksFn "__init__" qual (iA [aS a1]) [iSup p0 p1 p2 p3 p4 p5 [.Constant (.str y) kd e1]] (iS []) .none kV doc pm an (.ref cda) ct cc))
    (hcd : codeIn K (.ref cda) qual = true) (hsup : mg "super" = none) (M0 : L2.Mod K mg base) (kb : ∀ b o, base.get? b = some o → s.heap.get? b = some o) (hroom : A.depth < recursionLimit)
    (hx : s.heap.get? x = some (excO C t0))
    (hbind : BindsTo s (ksFn "__init__" qual (iA [aS a1]) [iSup p0 p1 p2 p3 p4 p5 [.Constant (.str y) kd e1]] (iS []) .none kV doc pm an (.ref cda) ct cc) args [("self", .ref x)])
    (hq : ∀ h' tk t1, IE0 s.heap h' x C t1 → R (.ok (.ret .none)) { s with heap := h', toks := tk })
    (hsup1 : SupOk qual (iS []) f cda cc p0 p1 p2 p3 p4 (.Constant (.str y) kd e1) [] pl) :
    codeAny (model prog w) A (.call (.ref f) args) R s := by
  obtain ⟨oc, od, osl, hf⟩ := T.fn
  have X : K.In s.heap := M0.kin.keeps kb
  refine ks_codeAny_call_defAt (fd := ksFn "__init__" qual (iA [aS a1]) [iSup p0 p1 p2 p3 p4 p5 [.Constant (.str y) kd e1]] (iS []) .none kV doc pm an (.ref cda) ct cc) hroom (X _ _ hf) rfl (M0.nolimit.keeps kb) (codeRec_of X hcd) rfl hbind (show ∀ y ∈ (iS []).names, y.2 ≠ .cell by decide) ?_ (fun h₁ hns hk₁ => ?_)
  · intro y hy
    simp only [List.mem_cons, List.not_mem_nil, or_false] at hy
    subst hy
    rfl
  · refine ks_wpAt_execs_cons ?_
    refine sup_exec (ar := aS a1) (x := x) (t0 := t0) (mg := mg) (base := base) T hsup M0 (fun b o e => hk₁ b o (kb b o e)) rfl hns rfl (hk₁ _ _ hx) rfl rfl rfl rfl (fun s1 Q' hn h => ?_) (fun h2 tk2 t2 k2' hx2 => ?_) (hsup1.he _) (hsup1.hpl _) (hsup1.hev _) (hsup1.hsw _) (hsup1.hin _)
    · refine Calls.spliced_cons ?_
      show wpAny _ _ (eval (.Constant (.str y) kd e1) _) _ _ _
      exact Calls.Constant_str (Calls.spliced_nil (h _ _ (by show 1 ≤ sizeLine; rw [sizeLine_eq]; omega)))
    · exact PySem.wpAt_of_wpAny (wpAny_execs_nil (hq h2 tk2 t2 ⟨fun b o hb e => k2' b o hb (hk₁ b o e), hx2⟩))
end
end MyErr


set_option Elab.async false
set_option linter.all false
set_option maxRecDepth 100000
set_option maxHeartbeats 4000000
/-! own errors: what a call of the class makes; the rules of the layer -/
namespace MyErr
open PySem PySem.W PySem.Calls PyProof.Rows PySem.HandSPX
/-- a new error at e, its fields mA in a new dict at d -/
structure Made (h h' : Heap) (e C d : Addr) (mA : Str → Option Value) : Prop where
  keep : ∀ b o, h.get? b = some o → h'.get? b = some o
  ebig : h.objs.size ≤ e
  obj : ∃ t1 : Addr, h'.get? e = some ({ cls := .ref C, dict := some d, data := .fields #[.ref t1, .none, .none, .none, .bool false, .none] } : Obj)
  dbig : h.objs.size ≤ d
  dne : d ≠ e
  ns : h'.Ns1 d mA
/-- a new error without fields -/
structure Made0 (h h' : Heap) (e C : Addr) : Prop where
  keep : ∀ b o, h.get? b = some o → h'.get? b = some o
  ebig : h.objs.size ≤ e
  obj : ∃ t1 : Addr, h'.get? e = some ({ cls := .ref C, dict := none, data := .fields #[.ref t1, .none, .none, .none, .bool false, .none] } : Obj)
/-- the class at C, called with args that bind the parameters ps to us, makes an error with these fields -/
def ErrMk (P : Program) (w : World) (K : Frag) (mg : Str → Option Value) (base : Heap) (C : Addr) (fd : FuncData) (ps : List Str) : Prop :=
  ∀ (A : Around) (s : Shared) (pos : List Value) (kw : List (Str × Value)) (us : List Value) (R : Result → Shared → Prop), A.depth + 1 < recursionLimit → (∀ b o, base.get? b = some o → s.heap.get? b = some o) → pos.length ≤ 1000 → us.length = ps.length →
    (∀ (s' : Shared) (x : Addr), BindsTo s' fd ⟨.ref x :: pos, kw⟩ (("self", .ref x) :: ps.zip us)) →
    (∀ h' tk e d, Made s.heap h' e C d (fun y => (ps.zip us).reverse.lookup y) → R (.ok (.ret (.ref e))) { s with heap := h', toks := tk }) → codeAny (model P w) A (.call (.ref C) ⟨pos, kw⟩) R s
def ErrMk0 (P : Program) (w : World) (K : Frag) (mg : Str → Option Value) (base : Heap) (C : Addr) : Prop :=
  ∀ (A : Around) (s : Shared) (R : Result → Shared → Prop), A.depth + 1 < recursionLimit → (∀ b o, base.get? b = some o → s.heap.get? b = some o) →
    (∀ h' tk e, Made0 s.heap h' e C → R (.ok (.ret (.ref e))) { s with heap := h', toks := tk }) → codeAny (model P w) A (.call (.ref C) ⟨[], []⟩) R s
section
variable {prog : Program} {w : World} {K : Frag} {mg : Str → Option Value} {base : Heap} {C f cda cc : Addr} {qual : Str} {kV doc pm ct : Value} {an : Option Addr}
theorem fresh_K {h : Heap} {a : Addr} (X : K.In h) (ha : h.objs.size ≤ a) : K.lookup a = none := by
  cases e : K.lookup a with
  | none => rfl
  | some o => exact absurd (Nat.lt_of_lt_of_le (Heap.lt_size (X _ _ e)) ha) (Nat.lt_irrefl _)
/-- from what __init__ does to what the class's call does -/
theorem mk_by {A : Around} {s : Shared} {pos : List Value} {kw : List (Str × Value)} {mA : Str → Option Value} {R : Result → Shared → Prop} {fd : FuncData} (T : EC prog K C f cda cc fd)
    (iC : findIn K (.ref C) "__init__" = some (some (.ref f))) (tI : typeIn K (.ref f) = some (.type "function")) (X : K.In s.heap) (hp : pos.length ≤ 1000)
    (init : ∀ (s1 : Shared) (x t0 : Addr) (R1 : Result → Shared → Prop), x = s.heap.objs.size + 1 → (∀ b o, s.heap.get? b = some o → s1.heap.get? b = some o) → s1.heap.get? x = some (excO C t0) → K.lookup x = none → s1.heap.objs.size = s.heap.objs.size + 1 + 1 →
      (∀ h' tk dx t1, IE s1.heap h' x C dx t1 mA → R1 (.ok (.ret .none)) { s1 with heap := h', toks := tk }) → codeAny (model prog w) (A.under (.builtin "type.__call__" ⟨.ref C :: pos, kw⟩)) (.call (.ref f) ⟨.ref x :: pos, kw⟩) R1 s1)
    (hq : ∀ h' tk e d, Made s.heap h' e C d mA → R (.ok (.ret (.ref e))) { s with heap := h', toks := tk }) : codeAny (model prog w) A (.call (.ref C) ⟨pos, kw⟩) R s := by
  obtain ⟨nm, q, N, bs, bm, sn, sub, ab, col, dd, k0, k1, k2, k3, k5, hC, hbm⟩ := T.cls
  obtain ⟨hp1, g, dr, tk, os⟩ := s
  have k : ∀ b o, hp1.get? b = some o → ((hp1.push (kdv_tup pos)).push (excO C hp1.objs.size)).get? b = some o := fun b o e => Heap.get?_push_of_some _ (Heap.get?_push_of_some _ e)
  have hg : ((hp1.push (kdv_tup pos)).push (excO C hp1.objs.size)).get? (hp1.objs.size + 1) = some (excO C hp1.objs.size) := by heap_get
  have hl : pos.length ≤ sizeLine := by rw [sizeLine_eq]; omega
  refine cls_call F.excBase_ValueError (fun Y => refsVE_contains Y bm hbm) (X _ _ hC) (looks_findIn X iC) (fun self => bind_fn X self tI) hl ?_
  refine init ⟨(hp1.push (kdv_tup pos)).push (excO C hp1.objs.size), g, dr, tk, os⟩ (hp1.objs.size + 1) hp1.objs.size _ rfl k hg (fresh_K X (Nat.le_succ _)) (by simp only [Heap.size_push]) fun h' tk' dx t1 i => ?_
  refine ⟨rfl, hq h' tk' (hp1.objs.size + 1) dx ⟨fun b o e => i.keep b o (Nat.ne_of_lt (Nat.lt_succ_of_lt (Heap.lt_size e))) (k b o e), Nat.le_succ _, ⟨t1, i.obj⟩, ?_, i.dne, i.ns⟩⟩
  have z := i.dbig
  simp only [Heap.size_push] at z
  exact Nat.le_trans (Nat.le_trans (Nat.le_succ _) (Nat.le_succ _)) z
theorem mk1 {fl : Str} {a1 a2 p0 p1 p2 p3 p4 p5 e1 q1 q2 q3 q4 : Pos} {pl : Sem Bool}
    (T : EC prog K C f cda cc (ksFn "__init__" qual (iA [aS a1, aF fl a2]) [iSup p0 p1 p2 p3 p4 p5 [.Name fl e1], iPut fl q1 q2 q3 q4] (iS [fl]) .none kV doc pm an (.ref cda) ct cc))
    (iC : findIn K (.ref C) "__init__" = some (some (.ref f))) (tI : typeIn K (.ref f) = some (.type "function"))
    (hcd : codeIn K (.ref cda) qual = true) (hsup : mg "super" = none) (M0 : L2.Mod K mg base) (sa : findIn K (.ref C) "__setattr__" = some (some (.builtin "object.__setattr__"))) (noF : findIn K (.ref C) fl = some none)
    (hf1 : (("self" : Str) == fl) = false) (hf2 : (fl == ("__class__" : Str)) = false) (hf3 : (fl == ("super" : Str)) = false) (hf4 : (fl == ("__debug__" : Str)) = false)
    (hsup1 : SupOk qual (iS [fl]) f cda cc p0 p1 p2 p3 p4 (.Name fl e1) [] pl)
    (hsw : ∀ L, swapsWith (.Name fl q3) (some (.Attribute (.Name "self" q1) fl q2)) q4.line (ksEnv qual (iS [fl]) L f (.ref cda) cc) = pure false) :
    ErrMk prog w K mg base C (ksFn "__init__" qual (iA [aS a1, aF fl a2]) [iSup p0 p1 p2 p3 p4 p5 [.Name fl e1], iPut fl q1 q2 q3 q4] (iS [fl]) .none kV doc pm an (.ref cda) ct cc) [fl] := by
  intro A s pos kw us R hroom kb hp hl hb hq
  match us, hl with
  | [v], _ =>
    have em : (fun y => (([fl].zip [v]) : List (Str × Value)).reverse.lookup y) = fun y => if y = fl then some v else none := by
      funext y
      show List.lookup y [(fl, v)] = _
      by_cases e : y = fl
      · subst e
        simp [List.lookup]
      · have : (y == fl) = false := by simpa using e
        rw [if_neg e, List.lookup_cons, this]
        rfl
    refine mk_by T iC tI (M0.kin.keeps kb) hp (mA := fun y => if y = fl then some v else none) (fun s1 x t0 R1 ex k hx hnx hs h1 => ?_) (fun h' tk e d m => hq h' tk e d (by rw [em]; exact m))
    refine init1 (v := v) (t0 := t0) T hcd hsup M0 (fun b o e => k b o (kb b o e)) (by show A.depth + 1 < recursionLimit; exact hroom) hx hnx ?_ sa noF hf1 hf2 hf3 hf4 (hb s1 x) h1 hsup1 hsw
    cases z : base.get? x with
    | none => rfl
    | some o =>
      have z2 := Heap.lt_size (kb _ _ z)
      rw [ex] at z2
      exact absurd (Nat.lt_of_succ_lt z2) (Nat.lt_irrefl _)
theorem mk2 {fl fm : Str} {a1 a2 a3 p0 p1 p2 p3 p4 p5 e1 e2 q1 q2 q3 q4 r1 r2 r3 r4 : Pos} {pl : Sem Bool}
    (T : EC prog K C f cda cc (ksFn "__init__" qual (iA [aS a1, aF fl a2, aF fm a3]) [iSup p0 p1 p2 p3 p4 p5 [.Name fl e1, .Name fm e2], iPut fl q1 q2 q3 q4, iPut fm r1 r2 r3 r4] (iS [fl, fm]) .none kV doc pm an (.ref cda) ct cc))
    (iC : findIn K (.ref C) "__init__" = some (some (.ref f))) (tI : typeIn K (.ref f) = some (.type "function"))
    (hcd : codeIn K (.ref cda) qual = true) (hsup : mg "super" = none) (M0 : L2.Mod K mg base) (sa : findIn K (.ref C) "__setattr__" = some (some (.builtin "object.__setattr__"))) (noF : findIn K (.ref C) fl = some none) (noG : findIn K (.ref C) fm = some none)
    (lks : (iS [fl, fm]).names.lookup ("self" : Str) = some .local) (lkf : (iS [fl, fm]).names.lookup fl = some .local) (lkg : (iS [fl, fm]).names.lookup fm = some .local)
    (lkc : (iS [fl, fm]).names.lookup ("__class__" : Str) = some .free) (lku : (iS [fl, fm]).names.lookup ("super" : Str) = some .globalImplicit) (lno : ∀ y ∈ (iS [fl, fm]).names, y.2 ≠ .cell)
    (h1 : (("self" : Str) == fl) = false) (h2 : (("self" : Str) == fm) = false) (h3 : (fl == fm) = false) (hf4 : (fl == ("__debug__" : Str)) = false) (hg4 : (fm == ("__debug__" : Str)) = false)
    (hsup1 : SupOk qual (iS [fl, fm]) f cda cc p0 p1 p2 p3 p4 (.Name fl e1) [.Name fm e2] pl)
    (hsw : ∀ L, swapsWith (.Name fl q3) (some (.Attribute (.Name "self" q1) fl q2)) q4.line (ksEnv qual (iS [fl, fm]) L f (.ref cda) cc) = pure false)
    (hsv : ∀ L, swapsWith (.Name fm r3) (some (.Attribute (.Name "self" r1) fm r2)) r4.line (ksEnv qual (iS [fl, fm]) L f (.ref cda) cc) = pure false) :
    ErrMk prog w K mg base C (ksFn "__init__" qual (iA [aS a1, aF fl a2, aF fm a3]) [iSup p0 p1 p2 p3 p4 p5 [.Name fl e1, .Name fm e2], iPut fl q1 q2 q3 q4, iPut fm r1 r2 r3 r4] (iS [fl, fm]) .none kV doc pm an (.ref cda) ct cc) [fl, fm] := by
  intro A s pos kw us R hroom kb hp hl hb hq
  match us, hl with
  | [v, u], _ =>
    have em : (fun y => (([fl, fm].zip [v, u]) : List (Str × Value)).reverse.lookup y) = fun y => if y = fm then some u else if y = fl then some v else none := by
      funext y
      show List.lookup y [(fm, u), (fl, v)] = _
      by_cases e : y = fm
      · subst e
        simp [List.lookup]
      · have e1 : (y == fm) = false := by simpa using e
        rw [if_neg e, List.lookup_cons, e1]
        by_cases e2 : y = fl
        · subst e2
          simp [List.lookup]
        · have e3 : (y == fl) = false := by simpa using e2
          rw [if_neg e2, List.lookup_cons, e3]
          rfl
    refine mk_by T iC tI (M0.kin.keeps kb) hp (mA := fun y => if y = fm then some u else if y = fl then some v else none) (fun s1 x t0 R1 ex k hx hnx hs hq1 => ?_) (fun h' tk e d m => hq h' tk e d (by rw [em]; exact m))
    refine init2 (v := v) (u := u) (t0 := t0) T hcd hsup M0 (fun b o e => k b o (kb b o e)) (by show A.depth + 1 < recursionLimit; exact hroom) hx hnx sa noF noG lks lkf lkg lkc lku lno ?_ ?_ ?_ hf4 hg4 (hb s1 x) hq1 hsup1 hsw hsv
    · show List.lookup ("self" : Str) [(fm, u), (fl, v), (("self" : Str), Value.ref x)] = _
      rw [List.lookup_cons, h2, List.lookup_cons, h1]
      rfl
    · show List.lookup fl [(fm, u), (fl, v), (("self" : Str), Value.ref x)] = _
      rw [List.lookup_cons, h3, List.lookup_cons, beq_self_eq_true]
    · show List.lookup fm [(fm, u), (fl, v), (("self" : Str), Value.ref x)] = _
      rw [List.lookup_cons, beq_self_eq_true]
theorem mk0 {a1 p0 p1 p2 p3 p4 p5 e1 : Pos} {y : Str} {kd : Nat} {pl : Sem Bool}
    (T : EC prog K C f cda cc (ksFn "__init__" qual (iA [aS a1]) [iSup p0 p1 p2 p3 p4 p5 [.Constant (.str y) kd e1]] (iS []) .none kV doc pm an (.ref cda) ct cc))
    (iC : findIn K (.ref C) "__init__" = some (some (.ref f))) (tI : typeIn K (.ref f) = some (.type "function"))
    (hcd : codeIn K (.ref cda) qual = true) (hsup : mg "super" = none) (M0 : L2.Mod K mg base)
    (hb : ∀ (s' : Shared) (x : Addr), BindsTo s' (ksFn "__init__" qual (iA [aS a1]) [iSup p0 p1 p2 p3 p4 p5 [.Constant (.str y) kd e1]] (iS []) .none kV doc pm an (.ref cda) ct cc) ⟨[.ref x], []⟩ [("self", .ref x)])
    (hsup1 : SupOk qual (iS []) f cda cc p0 p1 p2 p3 p4 (.Constant (.str y) kd e1) [] pl) : ErrMk0 prog w K mg base C := by
  intro A s R hroom kb hq
  obtain ⟨nm, q, N, bs, bm, sn, sub, ab, col, dd, k0, k1, k2, k3, k5, hC, hbm⟩ := T.cls
  have X : K.In s.heap := M0.kin.keeps kb
  obtain ⟨hp1, g, dr, tk, os⟩ := s
  have k : ∀ b o, hp1.get? b = some o → ((hp1.push (kdv_tup [])).push (excO C hp1.objs.size)).get? b = some o := fun b o e => Heap.get?_push_of_some _ (Heap.get?_push_of_some _ e)
  have hg : ((hp1.push (kdv_tup [])).push (excO C hp1.objs.size)).get? (hp1.objs.size + 1) = some (excO C hp1.objs.size) := by heap_get
  refine cls_call F.excBase_ValueError (fun Y => refsVE_contains Y bm hbm) (X _ _ hC) (looks_findIn X iC) (fun self => bind_fn X self tI) (Nat.zero_le _) ?_
  refine init0 (x := hp1.objs.size + 1) (t0 := hp1.objs.size) T hcd hsup M0 (fun b o e => k b o (kb b o e)) (by show A.depth + 1 < recursionLimit; exact hroom) hg (hb _ _) (fun h' tk' t1 i => ?_) hsup1
  exact ⟨rfl, hq h' tk' (hp1.objs.size + 1) ⟨fun b o e => i.keep b o (Nat.ne_of_lt (Nat.lt_succ_of_lt (Heap.lt_size e))) (k b o e), Nat.le_succ _, ⟨t1, i.obj⟩⟩⟩
end
end MyErr


set_option Elab.async false
set_option linter.all false
set_option maxRecDepth 100000
set_option maxHeartbeats 4000000
namespace MyErr
open PySem PySem.W PySem.Calls PyProof.Rows PySem.HandSPX L2
theorem kv_zip : ∀ (ps : List Str) {vs : List V} {us : List Value}, Vals vs us → KV (ps.zip vs) (ps.zip us)
  | [], _, _, _ => .nil
  | p :: ps, _, _, .nil => .nil
  | p :: ps, _, _, .cons r t => .cons ⟨rfl, r⟩ (kv_zip ps t)
theorem kv_app : ∀ {l l' : List (Str × V)} {r r' : List (Str × Value)}, KV l r → KV l' r' → KV (l ++ l') (r ++ r')
  | _, _, _, _, .nil, h => h
  | _, _, _, _, .cons a t, h => .cons a (kv_app t h)
theorem kv_rev : ∀ {l : List (Str × V)} {r : List (Str × Value)}, KV l r → KV l.reverse r.reverse
  | _, _, .nil => .nil
  | _, _, .cons a t => by
    rw [List.reverse_cons, List.reverse_cons]
    exact kv_app (kv_rev t) (.cons a .nil)
theorem kv_look : ∀ {l : List (Str × V)} {r : List (Str × Value)}, KV l r → ∀ f, RelO (l.lookup f) (r.lookup f)
  | _, _, .nil, f => True.intro
  | (p, v) :: _, (q, u) :: _, .cons a t, f => by
    obtain ⟨e, rv⟩ := a
    dsimp only at e rv
    subst e
    rw [List.lookup_cons, List.lookup_cons]
    cases f == p with
    | true => exact rv
    | false => exact kv_look t f
section
variable {X : Cx} {pins : List (Addr × Obj)} {σ : L2.St} {H : Hp} {hp h' : Heap} {g : Array GenState} {dr : Drawn} {tk tk' : Nat} {os : OsState} {e C d : Addr} {mA : Str → Option Value} {fs : List (Str × V)}
theorem inv_made (I : Inv X pins σ H ⟨hp, g, dr, tk, os⟩) (m : Made hp h' e C d mA) (rel : ∀ f, RelO (fs.lookup f) (mA f)) :
    H e = none ∧ H d = none ∧ Inv X pins σ (upd (upd H d (exd d fs)) e (exo e C (some d))) ⟨h', g, dr, tk', os⟩ := by
  have he : H e = none := I.hok.fresh m.ebig
  have hd : H d = none := I.hok.fresh m.dbig
  obtain ⟨t1, hx⟩ := m.obj
  have ne : ∀ {b : Addr} {o : Obj}, hp.get? b = some o → b ≠ e := fun {b o} q => Nat.ne_of_lt (Nat.lt_of_lt_of_le (Heap.lt_size q) m.ebig)
  have nd : ∀ {b : Addr} {o : Obj}, hp.get? b = some o → b ≠ d := fun {b o} q => Nat.ne_of_lt (Nat.lt_of_lt_of_le (Heap.lt_size q) m.dbig)
  have up : ∀ {b : Addr} {o : HO}, H b = some o → upd (upd H d (exd d fs)) e (exo e C (some d)) b = some o := fun {b o} q => by
    rw [upd_ne (ne_of_none q he), upd_ne (ne_of_none q hd)]
    exact q
  refine ⟨he, hd, I.un (t' := tk') ({
    keep := fun b o q _ _ _ => m.keep b o q
    slot := fun b o q _ _ _ => ⟨o.slots, m.keep b o q⟩
    free := fun b o q n _ => by rw [upd_ne (ne q), upd_ne (nd q)]; exact n
    there := fun b o q _ => ⟨o, m.keep b o q⟩
    tups := fun b xs q => up q
    frzs := fun b o u q => up q
    tbls := fun b ps q => ⟨#[], by rw [up q]; simp⟩ }) fun b o q => ?_⟩
  by_cases hb : b = e
  · subst hb
    rw [upd_same] at q
    cases q
    exact exo_ok hx
  · rw [upd_ne hb] at q
    by_cases hbd : b = d
    · subst hbd
      rw [upd_same] at q
      cases q
      exact exd_ok m.ns rel
    · rw [upd_ne hbd] at q
      exact (I.hok b o q).stay (fun c v _ z => m.keep c v z) (fun c z => up z) (fun c xs z => up z)
theorem inv_made0 (I : Inv X pins σ H ⟨hp, g, dr, tk, os⟩) (m : Made0 hp h' e C) :
    H e = none ∧ Inv X pins σ (upd H e (exo e C none)) ⟨h', g, dr, tk', os⟩ := by
  have he : H e = none := I.hok.fresh m.ebig
  obtain ⟨t1, hx⟩ := m.obj
  exact ⟨he, I.laid m.keep m.ebig (exo_ok hx)⟩
end
/-- how positions us and keywords ws bind the parameters behind self -/
structure EBinds (fd : FuncData) (ps ks : List Str) (g : List Value → List Value → List Value) (gV : List V → List V → List V) (n m : Nat) : Prop where
  to : ∀ (s : Shared) (x : Addr) (us ws : List Value), us.length = n → ws.length = m → BindsTo s fd ⟨.ref x :: us, ks.zip ws⟩ (("self", .ref x) :: ps.zip (g us ws))
  rel : ∀ {vs : List V} {us : List Value} {zs : List V} {ws : List Value}, vs.length = n → zs.length = m → Vals vs us → Vals zs ws → Vals (gV vs zs) (g us ws) ∧ (gV vs zs).length = ps.length
  small : n ≤ 1000
/-- C(e, .., k = v, ..) -/
def tErr (C : Addr) (ps : List Str) (gV : List V → List V → List V) (n m : Nat) (t tk : TA) : TE := fun σ H Q => t σ H fun vs H1 => tk σ H1 fun zs H2 => vs.length = n ∧ zs.length = m ∧
  ∀ e d, H2 e = none → H2 d = none → d ≠ e → Q (.ref e) (upd (upd H2 d (exd d (ps.zip (gV vs zs)).reverse)) e (exo e C (some d)))
def tErr0 (C : Addr) : TE := fun _ H Q => ∀ e, H e = none → Q (.ref e) (upd H e (exo e C none))
section
variable {X : Cx} {x : Str} {C : Addr} {fd : FuncData} {ps ks : List Str} {g : List Value → List Value → List Value} {gV : List V → List V → List V} {n m k : Nat} {e : Expr} {es : List Expr} {kws : List Keyword} {t tk : TA} {p pos : Pos}
theorem run_err {pins : List (Addr × Obj)} {σ : L2.St} {H : Hp} {s : Shared} {Q : VK} {us ws : List Value} {vs zs : List V} (M : ErrMk X.prog X.w X.K X.mg X.base C fd ps) (B : EBinds fd ps ks g gV n m) (hr : Room (k + 1) X.A) (I : Inv X pins σ H s) (r : Vals vs us) (rz : Vals zs ws)
    (hn : vs.length = n) (hm : zs.length = m) (h : ∀ e d, H e = none → H d = none → d ≠ e → Q (.ref e) (upd (upd H d (exd d (ps.zip (gV vs zs)).reverse)) e (exo e C (some d)))) :
    wpAny (model X.prog X.w) X.A (call (.ref C) us (ks.zip ws)) (EP X pins σ Q) X.xe s := by
  obtain ⟨r2, hl⟩ := B.rel hn hm r rz
  have l1 : us.length = n := by rw [← r.length]; exact hn
  have l2 : ws.length = m := by rw [← rz.length]; exact hm
  have hd : X.A.depth + 1 < recursionLimit := by have := hr.dp; omega
  refine wpAny_call (M X.A s us (ks.zip ws) (g us ws) _ hd I.bk (by rw [l1]; exact B.small) (by rw [← r2.length]; exact hl) (fun s' y => B.to s' y us ws l1 l2) fun h' tk' e d md => ?_)
  obtain ⟨hp, g0, dr, t0, os⟩ := s
  obtain ⟨a, b, J⟩ := inv_made (tk' := tk') I md (kv_look (kv_rev (kv_zip ps r2)))
  exact ⟨.ref e, _, J, rfl, h e d a b md.dne⟩
theorem pe_err (M : ErrMk X.prog X.w X.K X.mg X.base C fd ps) (B : EBinds fd ps [] g gV n 0) (hr : Room (k + 1) X.A) (hg : Gl X x) (hm : X.mg x = some (.ref C)) (hk : keepIn X.K (.ref C) = true) (ha : PA X (e :: es) t)
    (hdb : (x == ("__debug__" : Str)) = false := by decide) (he : starEach (e :: es) X.env = (false, eval e X.env) :: starEach es X.env := by rfl) (hpl : (backTo pos (starEach es X.env)).any (·.1) = false := by rfl) :
    PE X (.Call (.Name x p) (e :: es) [] pos) (tErr C ps gV n 0 t tNil) := by
  refine ⟨fun pins s σ H Q I h => ?_⟩
  refine wpAny_Call_Name_kw (ld_glob I hg hm ?_ hdb)
  refine callWith_K (h₀ := X.base) I.ok.mod.kin hk (thn (ha.run pos pins s σ H _ I h) fun us s1 ⟨vs, H1, I1, r1, q1⟩ => ⟨I1.kIn, ?_⟩) he hpl
  obtain ⟨a, b, q⟩ := q1
  exact run_err (ks := []) (ws := []) (zs := []) M B hr I1 r1 .nil a b q
theorem pe_errK0 (M : ErrMk X.prog X.w X.K X.mg X.base C fd ps) (B : EBinds fd ps ks g gV 0 m) (hr : Room (k + 1) X.A) (hg : Gl X x) (hm : X.mg x = some (.ref C)) (hk : keepIn X.K (.ref C) = true) (hkw : PK X kws tk)
    (hall : (backToKw pos (keywordEach kws X.env)).all (·.1.isSome) = true := by rfl) (hks : (backToKw pos (keywordEach kws X.env)).filterMap (·.1) = ks := by rfl)
    (hdb : (x == ("__debug__" : Str)) = false := by decide) (hpl : ((backTo pos (starEach [] X.env)).any (·.1) || (backToKw pos (keywordEach kws X.env)).any (·.1.isNone)) = false := by rfl) :
    PE X (.Call (.Name x p) [] kws pos) (tErr C ps gV 0 m tNil tk) := by
  refine ⟨fun pins s σ H Q I h => ?_⟩
  refine wpAny_Call_Name_kw (ld_glob I hg hm ?_ hdb)
  refine callWith_KW0 (h₀ := X.base) I.ok.mod.kin hk hall (thn (hkw.run pos pins s σ H _ I h) fun ws s2 ⟨zs, H2, I2, rz, q2⟩ => ⟨I2.kIn, ?_⟩) hpl
  rw [hks]
  obtain ⟨a, b, q⟩ := q2
  exact run_err (us := []) (vs := []) M B hr I2 .nil rz a b q
theorem pe_errK (M : ErrMk X.prog X.w X.K X.mg X.base C fd ps) (B : EBinds fd ps ks g gV n m) (hr : Room (k + 1) X.A) (hg : Gl X x) (hm : X.mg x = some (.ref C)) (hk : keepIn X.K (.ref C) = true) (ha : PA X (e :: es) t) (hkw : PK X kws tk)
    (hall : (backToKw pos (keywordEach kws X.env)).all (·.1.isSome) = true := by rfl) (hks : (backToKw pos (keywordEach kws X.env)).filterMap (·.1) = ks := by rfl)
    (hdb : (x == ("__debug__" : Str)) = false := by decide) (he : starEach (e :: es) X.env = (false, eval e X.env) :: starEach es X.env := by rfl)
    (hpl : ((backTo pos (starEach (e :: es) X.env)).any (·.1) || (backToKw pos (keywordEach kws X.env)).any (·.1.isNone)) = false := by rfl) :
    PE X (.Call (.Name x p) (e :: es) kws pos) (tErr C ps gV n m t tk) := by
  refine ⟨fun pins s σ H Q I h => ?_⟩
  refine wpAny_Call_Name_kw (ld_glob I hg hm ?_ hdb)
  refine callWith_KW (h₀ := X.base) I.ok.mod.kin hk hall (thn (ha.run pos pins s σ H _ I h) fun us s1 ⟨vs, H1, I1, r, q⟩ => ?_) hpl he
  refine thn (hkw.run pos pins s1 σ H1 _ I1 q) fun ws s2 ⟨zs, H2, I2, rz, q2⟩ => ⟨I2.kIn, ?_⟩
  rw [hks]
  obtain ⟨a, b, q⟩ := q2
  exact run_err M B hr I2 r rz a b q
theorem pe_err0 (M : ErrMk0 X.prog X.w X.K X.mg X.base C) (hr : Room (k + 1) X.A) (hg : Gl X x) (hm : X.mg x = some (.ref C)) (hk : keepIn X.K (.ref C) = true) (hdb : (x == ("__debug__" : Str)) = false := by decide) :
    PE X (.Call (.Name x p) [] [] pos) (tErr0 C) := by
  refine ⟨fun pins s σ H Q I h => ?_⟩
  refine wpAny_Call_Name_kw (ld_glob I hg hm ?_ hdb)
  refine callWith_K0 I.kIn hk ?_
  have hd : X.A.depth + 1 < recursionLimit := by have := hr.dp; omega
  refine wpAny_call (M X.A s _ hd I.bk fun h' tk' e md => ?_)
  obtain ⟨hp, g0, dr, t0, os⟩ := s
  obtain ⟨a, J⟩ := inv_made0 (tk' := tk') I md
  exact ⟨.ref e, _, J, rfl, h e a⟩
end
end MyErr


set_option Elab.async false
set_option linter.all false
set_option maxRecDepth 100000
set_option maxHeartbeats 4000000
namespace MyErr
open PySem PySem.W PySem.Calls PyProof.Rows PySem.HandSPX L2
/-- what the class at C says, so that its errors can be asked -/
structure EI (K : Frag) (C : Addr) : Prop where
  cl : (clsIn K C).isSome = true
  ga : findIn K (.ref C) "__getattribute__" = some (some (.builtin "BaseException.__getattribute__"))
  gt : findIn K (.ref C) "__getattr__" = some none
  sb : subIn K (.ref C) (.type "BaseException") = some true
  ca : findIn K (.ref C) "__class__" = some (some (.builtin "object.__class__"))
  cn : specialIn K (.builtin "object.__class__") "__get__" = some (some (.builtin "getset_descriptor.__get__"))
  ct : takesIn K (.builtin "object.__class__") = some true
  ob : mroIn K C (.type "object") = some true
  hd : hasDictIn K C = true
/-- an error of the class at C stands at a: its fields fs (none: no dict) -/
def ErrAt (H : Hp) (a C : Addr) (of : Option (List (Str × V))) : Prop := match of with
  | none => H a = some (exo a C none)
  | some fs => ∃ d, H a = some (exo a C (some d)) ∧ H d = some (exd d fs)
section
variable {X : Cx}
theorem err_inst {pins : List (Addr × Obj)} {σ : L2.St} {H : Hp} {s : Shared} {a C : Addr} {of : Option (List (Str × V))} (I : Inv X pins σ H s) (h : ErrAt H a C of) : ∃ ox od, InstAt s.heap a ox C od := by
  cases of with
  | none =>
    obtain ⟨t1, e⟩ := exo_at I.hok h
    exact ⟨_, none, e, rfl, rfl, trivial⟩
  | some fs =>
    obtain ⟨d, h1, h2⟩ := h
    obtain ⟨t1, e⟩ := exo_at I.hok h1
    obtain ⟨mA, ⟨o, es, ep, ho, _⟩, _⟩ := exd_at I.hok h2
    exact ⟨_, some o, e, rfl, rfl, ho⟩
/-- isinstance(e, c) of an error -/
def rIsErr (K : Frag) : List V → Hp → VK → Prop := fun xs H Q => ∃ (a C : Addr) (of : Option (List (Str × V))) (c : V) (cv : Value) (b : Bool), xs = [.ref a, c] ∧ ErrAt H a C of ∧ EI K C ∧ (∀ u, RelV c u → u = cv) ∧ kitOne K (.ref C) cv = some b ∧ Q (.bl b) H
theorem call_isErr : CallR X (.builtin "isinstance") (rIsErr X.K) := by
  intro pins s σ H xs us Q I r h
  obtain ⟨a, C, of, c, cv, b, rfl, he, T, hcv, e, q⟩ := h
  obtain ⟨u1, u2, rfl, rx, rt⟩ := vals2 r
  obtain rfl : u1 = Value.ref a := rx
  obtain rfl := hcv _ rt
  obtain ⟨ox, od, J⟩ := err_inst I he
  exact kia_one (kitx_exc (ox := ox) (od := od) T.cl T.ga T.gt T.sb T.ca T.cn T.ct T.ob) I.kIn J e (fun z => nomatch z) fun tk => ⟨.bl b, H, I.tok _, rfl, q⟩
/-- e.f of an error -/
def tErrF (K : Frag) (f : Str) (te : TE) : TE := fun σ H Q => te σ H fun x H1 => ∃ (a C : Addr) (fs : List (Str × V)) (v : V), x = .ref a ∧ ErrAt H1 a C (some fs) ∧ EI K C ∧ findIn K (.ref C) f = some none ∧ fs.lookup f = some v ∧ Q v H1
theorem pe_errF {e : Expr} {te : TE} {pos : Pos} {f : Str} (he : PE X e te) (hb : attributeBase e f X.env (eval e X.env) = eval e X.env := by rfl) : PE X (.Attribute e f pos) (tErrF X.K f te) := by
  refine ⟨fun pins s σ H Q I h => ?_⟩
  refine attr_of hb (thn (he.run pins s σ H _ I h) fun u s1 hh => ?_)
  obtain ⟨x, H1, I1, rx, a, C, fs, v, ex, ⟨d, h1, h2⟩, T, hno, l, q⟩ := hh
  subst ex
  obtain rfl : u = Value.ref a := rx
  obtain ⟨t1, eo⟩ := exo_at I1.hok h1
  obtain ⟨mA, hns, hr⟩ := exd_at I1.hok h2
  obtain ⟨od, ho, hl⟩ := lookIn_ns hns
  obtain ⟨u, hu, ru⟩ := RelO.some_of (v := v) (o := mA f) (by rw [← l]; exact hr f)
  have J : InstAt s1.heap a _ C (some od) := ⟨eo, rfl, rfl, ho⟩
  exact HandSPX.exc_get I1.kIn J T.ga T.gt T.sb (findObj_own T.hd hno rfl (by rw [hl, hu])) (handed_of ru) ⟨v, H1, I1.tok _, ru, q⟩
end
end MyErr


set_option Elab.async false
set_option linter.all false
set_option maxRecDepth 100000
set_option maxHeartbeats 4000000
/-! repr of plain values, of flat tuples, of lists of such -/
namespace MyErr
open PySem PySem.W PySem.Calls PyProof.Rows L2
/-- a plain value and its repr -/
inductive SV : V → Str → Prop
  | non : SV .non "None"
  | bl (b : Bool) : SV (.bl b) (if b then "True" else "False")
  | int (i : Int) (h : i.natAbs.log2 < 1920) : SV (.int i) (toString i)
  | str (y : Str) (h : (reprText y).length ≤ sizeLine) : SV (.str y) (reprText y)
inductive SVs : List V → List Str → Prop
  | nil : SVs [] []
  | cons {v : V} {vs : List V} {t : Str} {ts : List Str} : SV v t → SVs vs ts → SVs (v :: vs) (t :: ts)
/-- a value of the law's menu and its repr -/
inductive RV (H : Hp) : V → Str → Prop
  | sv {v : V} {t : Str} : SV v t → RV H v t
  | tup {a : Addr} {xs : List V} {ts : List Str} : H a = some (.tup xs) → SVs xs ts → (tupleText ts).length ≤ sizeLine → RV H (.ref a) (tupleText ts)
  | nilL {a : Addr} : H a = some (.lst []) → RV H (.ref a) "[]"
  | nilD {a : Addr} : H a = some (.dK []) → RV H (.ref a) (dictText [])
inductive RVs (H : Hp) : List V → List Str → Prop
  | nil : RVs H [] []
  | cons {v : V} {vs : List V} {t : Str} {ts : List Str} : RV H v t → RVs H vs ts → RVs H (v :: vs) (t :: ts)
theorem sv_is {P : Program} {w : World} {v : V} {u : Value} {t : Str} (h : SV v t) (r : RelV v u) : ReprIs P w u t := by
  cases h with
  | non => cases r; exact ReprIs.none
  | bl b => cases r; exact ReprIs.bool b
  | int i h => obtain ⟨k, rfl⟩ := r; exact ReprIs.int k h
  | str y h => obtain ⟨k, rfl⟩ := r; exact ReprIs.str y k h
theorem svs_K {P : Program} {w : World} {h₀ : Heap} {d : Nat} : ∀ {vs : List V} {us : List Value} {ts : List Str}, SVs vs ts → Vals vs us → ReprAllK P w [] h₀ d us ts
  | _, _, _, .nil, .nil => .nil
  | _, _, _, .cons a b, .cons r q => .cons (.of_is (sv_is a r) _ _ _) (svs_K b q)
end MyErr
namespace MyErr
open PySem PySem.W PySem.Calls PyProof.Rows L2
section
variable {X : Cx} {pins : List (Addr × Obj)} {σ : L2.St} {H : Hp} {s : Shared}
/-- what stood still stands, more was laid -/
theorem inv_more {h' : Heap} {tk' : Nat} (I : Inv X pins σ H s) (k : ∀ b o, s.heap.get? b = some o → h'.get? b = some o) : Inv X pins σ H { s with heap := h', toks := tk' } :=
  I.un ({
    keep := fun b o q _ _ _ => k b o q
    slot := fun b o q _ _ _ => ⟨o.slots, k b o q⟩
    free := fun b o q n _ => n
    there := fun b o q _ => ⟨o, k b o q⟩
    tups := fun b xs q => q
    frzs := fun b o u q => q
    tbls := fun b ps q => ⟨#[], by rw [q]; simp⟩ }) fun b o q => (I.hok b o q).stay (fun c v _ z => k c v z) (fun c z => z) (fun c xs z => z)
theorem rv_K {v : V} {u : Value} {t : Str} (I : Inv X pins σ H s) (h : RV H v t) (r : RelV v u) : ∃ as : List Addr, (∀ b ∈ as, ∀ y ys, H b ≠ some (.lst (y :: ys))) ∧ ReprK X.prog X.w as s.heap 1 u t := by
  cases h with
  | sv h => exact ⟨[], (fun b hb => nomatch hb), .of_is (sv_is h r) _ _ _⟩
  | @tup a xs ts e h hl =>
    cases r
    obtain ⟨_, its, rv, hp⟩ := I.hok a _ e
    obtain ⟨o, n, h1, h2, h3⟩ : ∃ o n, s.heap.get? a = some o ∧ o.cls = .type "tuple" ∧ o.data = .seq its.toArray n := by
      obtain ⟨o, h1, h2, n, h3⟩ := hp
      exact ⟨o, n, h1, h2, h3⟩
    refine ⟨[a], fun b hb y ys => ?_, ReprK.tuple h1 h2 h3 (by simp) (svs_K h (by simpa using rv))⟩
    rw [List.mem_singleton.mp hb, e]
    exact fun z => nomatch z
  | @nilL a e =>
    cases r
    obtain ⟨_, its, n, rv, h1⟩ := I.hok a _ e
    cases rv
    exact ⟨[], (fun b hb => nomatch hb), ReprK.listEmpty h1 rfl rfl⟩
  | @nilD a e =>
    cases r
    obtain ⟨_, hs, vs, kv, o, es, ep, h1, h2, h3, _, pr, _⟩ := I.hok a _ e
    cases kv
    have he : es.toList = [] := by
      generalize es.toList = l at pr
      cases pr
      rfl
    refine ⟨[a], fun b hb y ys => ?_, ReprK.dict (as := []) (d := 0) h1 h2.1 h3 hs (by simp) (by rw [he]; exact .nil)⟩
    rw [List.mem_singleton.mp hb, e]
    exact fun z => nomatch z
end
end MyErr
namespace MyErr
open PySem PySem.W PySem.Calls PyProof.Rows L2
section
variable {X : Cx}
theorem rvs_K {pins : List (Addr × Obj)} {σ : L2.St} {H : Hp} {s : Shared} (I : Inv X pins σ H s) : ∀ {vs : List V} {us : List Value} {ts : List Str}, RVs H vs ts → Vals vs us →
    ∃ as : List Addr, (∀ b ∈ as, ∀ y ys, H b ≠ some (.lst (y :: ys))) ∧ ts.length = us.length ∧ ∀ (i : Nat) (y : Value), us[i]? = some y → ∃ t, ts[i]? = some t ∧ ReprK X.prog X.w as s.heap 1 y t
  | _, _, _, .nil, .nil => ⟨[], (fun _ hb => nomatch hb), rfl, fun i y e => by simp at e⟩
  | _, _, _, .cons a b, .cons r q => by
    obtain ⟨as, h1, h2⟩ := rv_K I a r
    obtain ⟨bs, h3, h4, h5⟩ := rvs_K I b q
    refine ⟨as ++ bs, fun b hb => ?_, by simp [h4], fun i y e => ?_⟩
    · rcases List.mem_append.mp hb with z | z
      · exact h1 b z
      · exact h3 b z
    · cases i with
      | zero =>
        obtain rfl := Option.some.inj e
        exact ⟨_, rfl, h2.more fun b hb => List.mem_append_left _ hb⟩
      | succ i =>
        obtain ⟨t, e1, e2⟩ := h5 i y e
        exact ⟨t, e1, e2.more fun b hb => List.mem_append_right _ hb⟩
/-- repr(x): a value of the menu, or a list of such -/
def rRepr : List V → Hp → VK → Prop := fun xs H Q => ∃ v, xs = [v] ∧ ((∃ t, RV H v t ∧ t.length ≤ sizeLine ∧ Q (.str t) H) ∨ ∃ a y ys ts, v = .ref a ∧ H a = some (.lst (y :: ys)) ∧ RVs H (y :: ys) ts ∧ (listText ts).length ≤ sizeLine ∧ Q (.str (listText ts)) H)
theorem call_repr (hg : X.A.guards = some []) (hu : X.A.units + 64 < cLine) : CallR X (.builtin "repr") rRepr := by
  intro pins s σ H xs us Q I r h
  obtain ⟨v, rfl, h⟩ := h
  obtain ⟨u, rfl, rv⟩ := vals1 r
  rcases h with ⟨t, hv, hl, q⟩ | ⟨a, y, ys, ts, rfl, ha, hv, hl, q⟩
  · cases hv with
    | sv hv =>
      cases hv with
      | non => cases rv; exact P.repr_of_none ⟨.str _, H, I.tok _, ⟨_, rfl⟩, q⟩
      | bl b => cases rv; exact P.repr_of_bool ⟨.str _, H, I.tok _, ⟨_, rfl⟩, q⟩
      | int i hi => obtain ⟨k, rfl⟩ := rv; exact P.repr_of_int hi ⟨.str _, H, I.tok _, ⟨_, rfl⟩, q⟩
      | str z hz => obtain ⟨k, rfl⟩ := rv; exact P.repr_of_str ⟨.str _, H, I.tok _, ⟨_, rfl⟩, q⟩ hz
    | @tup a xs ts e h hl =>
      cases rv
      obtain ⟨_, its, rv, o, h1, h2, n, h3⟩ := I.hok a _ e
      refine call_repr_slot (by omega) ⟨o, h1, h2⟩ F.slot_tuple_repr ?_
      exact call_tuple_reprK (as := []) (d := 1) (g := []) h1 h2 h3 (by simp) (svs_K h (by simpa using rv)) hg (fun b _ => Clear.nil b) (by show X.A.units + 1 + 2 < cLine; omega) (fun _ _ e => e) (fun h' u tk k => ⟨_, _, rfl, .str _, H, inv_more I k, ⟨_, rfl⟩, q⟩) hl
    | @nilL a e =>
      cases rv
      obtain ⟨_, its, n, rv, h1⟩ := I.hok a _ e
      cases rv
      refine call_repr_slot (by omega) ⟨_, h1, rfl⟩ F.slot_list_repr.toG ?_
      exact call_list_repr_empty ⟨_, h1, rfl⟩ h1 rfl ⟨_, _, rfl, .str _, H, I.tok _, ⟨_, rfl⟩, q⟩
    | @nilD a e =>
      cases rv
      obtain ⟨_, hs, vs, kv, o, es, ep, h1, h2, h3, _, pr, _⟩ := I.hok a _ e
      cases kv
      have he : es.toList = [] := by
        generalize es.toList = l at pr
        cases pr
        rfl
      refine call_repr_slot (by omega) ⟨o, h1, h2.1⟩ F.slot_dict_repr ?_
      exact call_dict_reprK (as := []) (d := 1) (g := []) h1 h2.1 h3 hs (by simp) (by rw [he]; exact .nil) hg (fun b _ => Clear.nil b) (by show X.A.units + 1 + 2 < cLine; omega) (fun _ _ e => e) (fun h' u tk k => ⟨_, _, rfl, .str _, H, inv_more I k, ⟨_, rfl⟩, q⟩) hl
  · cases rv
    obtain ⟨_, its, n, rv, h1⟩ := I.hok a _ ha
    cases rv with
    | cons r0 r1 =>
      obtain ⟨as, h2, h3, h4⟩ := rvs_K I hv (.cons r0 r1)
      refine call_repr_slot (by omega) ⟨_, h1, rfl⟩ F.slot_list_repr.toG ?_
      exact call_list_reprK (as := as) (d := 1) (g := []) h1 rfl rfl (fun hm => h2 a hm _ _ ha) (by simpa using h3) (fun i z e => h4 i z (by simpa using e)) hg (fun b _ => Clear.nil b) (by show X.A.units + 1 + 2 < cLine; omega) (fun _ _ e => e) (fun h' u tk k => ⟨_, _, rfl, .str _, H, inv_more I k, ⟨_, rfl⟩, q⟩) hl
end
end MyErr


set_option Elab.async false
set_option linter.all false
set_option maxRecDepth 100000
set_option maxHeartbeats 4000000
/-! what a reading evaluates to: a value of which P holds, nothing known is lost -/
namespace EvLib
open PySem L2 Evl
abbrev VP := V → Hp → Prop
def Mono (P : VP) : Prop := ∀ v H H', Ex H H' → P v H → P v H'
def MonoL (P : List V → Hp → Prop) : Prop := ∀ vs H H', Ex H H' → P vs H → P vs H'
def EvP (te : TE) (σ : L2.St) (H : Hp) (P : VP) : Prop := ∀ H1, Ex H H1 → ∀ Q : VK, (∀ v H2, Ex H1 H2 → P v H2 → Q v H2) → te σ H1 Q
def EvPs (ta : TA) (σ : L2.St) (H : Hp) (P : List V → Hp → Prop) : Prop := ∀ H1, Ex H H1 → ∀ Q : List V → Hp → Prop, (∀ vs H2, Ex H1 H2 → P vs H2 → Q vs H2) → ta σ H1 Q
section
variable {σ : L2.St} {H H' : Hp} {te ta tb : TE} {ts : TA} {P : VP} {Ps : List V → Hp → Prop} {v : V} {i : Nat}
theorem EvP.mono (e : Ex H H') (h : EvP te σ H P) : EvP te σ H' P := fun H1 a Q q => h H1 (e.trans a) Q q
theorem EvPs.mono (e : Ex H H') (h : EvPs ts σ H Ps) : EvPs ts σ H' Ps := fun H1 a Q q => h H1 (e.trans a) Q q
theorem EvP.imp {P' : VP} (h : EvP te σ H P) (f : ∀ v H1, Ex H H1 → P v H1 → P' v H1) : EvP te σ H P' := fun H1 a Q q => h H1 a Q fun v H2 e p => q v H2 e (f v H2 (a.trans e) p)
theorem evp_var (h : σ[i]? = some (some v)) (p : ∀ H1, Ex H H1 → P v H1) : EvP (tVar i) σ H P := fun H1 e Q q => ⟨v, h, q v H1 (Ex.refl H1) (p H1 e)⟩
theorem evp_c (p : ∀ H1, Ex H H1 → P v H1) : EvP (tC v) σ H P := fun H1 e Q q => q v H1 (Ex.refl H1) (p H1 e)
theorem evps_nil : EvPs tNil σ H (fun vs _ => vs = []) := fun H1 e Q q => q [] H1 (Ex.refl H1) rfl
theorem evps_cons (m : Mono P) (ha : EvP te σ H P) (hs : EvPs ts σ H Ps) : EvPs (tCons te ts) σ H (fun vs H1 => ∃ v r, vs = v :: r ∧ P v H1 ∧ Ps r H1) := fun H1 e Q q =>
  ha H1 e _ fun v H2 e2 p => hs H2 (e.trans e2) _ fun r H3 e3 ps => q (v :: r) H3 (e2.trans e3) ⟨v, r, rfl, m v _ _ e3 p, ps⟩
theorem evp_lst (m : MonoL Ps) (n : Nat) (hn : n ≤ 1000) (hl : ∀ vs H1, Ps vs H1 → vs.length = n) (hs : EvPs ts σ H Ps) : EvP (tLst ts) σ H (fun v H1 => ∃ p vs, v = .ref p ∧ H1 p = some (.lst vs) ∧ Ps vs H1) := fun H1 e Q q =>
  hs H1 e _ fun vs H2 e2 ps => ⟨sz_of (by have := hl vs H2 ps; omega), fun p np => q (.ref p) _ (e2.trans (Ex.new np)) ⟨p, vs, rfl, upd_same, m vs _ _ (Ex.new np) ps⟩⟩
theorem evp_tup (m : MonoL Ps) (n : Nat) (hn : n ≤ 1000) (hl : ∀ vs H1, Ps vs H1 → vs.length = n) (hs : EvPs ts σ H Ps) : EvP (tTup ts) σ H (fun v H1 => ∃ p vs, v = .ref p ∧ H1 p = some (.tup vs) ∧ Ps vs H1) := fun H1 e Q q =>
  hs H1 e _ fun vs H2 e2 ps => ⟨sz_of (by have := hl vs H2 ps; omega), fun p np => q (.ref p) _ (e2.trans (Ex.new np)) ⟨p, vs, rfl, upd_same, m vs _ _ (Ex.new np) ps⟩⟩
theorem monoL_cons (m : Mono P) (ms : MonoL Ps) : MonoL (fun vs H1 => ∃ v r, vs = v :: r ∧ P v H1 ∧ Ps r H1) := fun vs H H' e ⟨v, r, a, b, c⟩ => ⟨v, r, a, m v _ _ e b, ms r _ _ e c⟩
theorem monoL_nil : MonoL (fun vs _ => vs = []) := fun _ _ _ _ h => h
/-- lists of things -/
def All (P : Nat → VP) : Nat → List V → Hp → Prop
  | _, [], _ => True
  | k, v :: r, H => P k v H ∧ All P (k + 1) r H
theorem All.mono {P : Nat → VP} (m : ∀ k, Mono (P k)) {H H' : Hp} (e : Ex H H') : ∀ {vs : List V} {k : Nat}, All P k vs H → All P k vs H'
  | [], _, _ => True.intro
  | v :: r, k, ⟨a, b⟩ => ⟨m k v _ _ e a, All.mono m e b⟩
theorem All.append {P : Nat → VP} {H : Hp} : ∀ {vs ws : List V} {k : Nat}, All P k vs H → All P (k + vs.length) ws H → All P k (vs ++ ws) H
  | [], ws, k, _, h => by simpa using h
  | v :: r, ws, k, ⟨a, b⟩, h => ⟨a, All.append b (by rw [List.length_cons] at h; rw [Nat.add_right_comm, Nat.add_assoc]; exact h)⟩
theorem All.get {P : Nat → VP} {H : Hp} : ∀ {vs : List V} {k i : Nat} {v : V}, All P k vs H → vs[i]? = some v → P (k + i) v H
  | v :: r, k, 0, w, ⟨a, b⟩, e => by
    obtain rfl := Option.some.inj e
    exact a
  | v :: r, k, i + 1, w, ⟨a, b⟩, e => by
    have := All.get b (i := i) e
    rw [Nat.add_right_comm] at this
    exact this
end
end EvLib


set_option Elab.async false
set_option linter.all false
set_option maxRecDepth 100000
set_option maxHeartbeats 4000000
/-! the head's facts: defs, own errors, and a Bool more -/
namespace MyHead
open PySem PySem.W PySem.HandSPX L2 MyErr He
/-- an own error's class and its __init__ -/
structure ErrD where
  cname : Str
  qual : Str
  params : Arguments
  body : List Stmt
  scope : Scope
  fields : List Str
def ErrD.C (d : ErrD) (K : Frag) : Addr := ga K d.cname
def ErrD.f (d : ErrD) (K : Frag) : Addr := ma K (ga K d.cname) "__init__"
def ErrD.val (d : ErrD) : FnW := some ("__init__", d.qual, d.params, .stmts d.body, d.scope, mainGlobals, [("__class__", 0)], builtinsNs)
def ErrD.obs (d : ErrD) (K : Frag) : FnW := match K.lookup (d.f K) with
  | some ⟨_, _, .func fd, _⟩ => some (fd.name, fd.qualname, fd.params, fd.body, fd.scope, fd.globals, fd.closure.map (fun c => (c.1, 0)), fd.builtins)
  | _ => none
def exB (K : Frag) (C : Addr) : Bool := match K.lookup C with
  | some ⟨.type t, _, .cls cd, sl⟩ => (match cd.mro, sl.toList with
    | .ref C' :: bm, [_, _, _, _, some (.builtin n), _] => t == "type" && (C' == C && (n == "ValueError.__new__" && (!cd.hasDel && (cd.hasDict && refsVE bm))))
    | _, _ => false)
  | _ => false
def fileB (K : Frag) (cda : Addr) (file : Str) : Bool := match K.lookup cda with
  | some ⟨_, _, .fields vs, _⟩ => (match (vs[2]? : Option Value) with
    | some (.str z _) => file == z
    | _ => false)
  | _ => false
def cellB (K : Frag) (cc C : Addr) : Bool := match K.lookup cc with
  | some ⟨_, _, .cell (some (.ref D)), _⟩ => D == C
  | _ => false
def ErrD.fnB (d : ErrD) (K : Frag) (file : Str) : Bool := match K.lookup (d.f K) with
  | some ⟨_, _, .func fd, _⟩ => (match fd.code, fd.closure with
    | .ref cda, [(_, cc)] => decide (fd.defaults = .none) && (codeIn K (.ref cda) d.qual && (fileB K cda file && cellB K cc (d.C K)))
    | _, _ => false)
  | _ => false
def eiB (K : Frag) (C : Addr) : Bool := (clsIn K C).isSome && (eqO (findIn K (.ref C) "__getattribute__") (some (some (.builtin "BaseException.__getattribute__"))) && (eqO (findIn K (.ref C) "__getattr__") (some none) &&
  (decide (subIn K (.ref C) (.type "BaseException") = some true) && (eqO (findIn K (.ref C) "__class__") (some (some (.builtin "object.__class__"))) && (eqO (specialIn K (.builtin "object.__class__") "__get__") (some (some (.builtin "getset_descriptor.__get__"))) &&
  (decide (takesIn K (.builtin "object.__class__") = some true) && (decide (mroIn K C (.type "object") = some true) && hasDictIn K C)))))))
theorem eiB_ok {K : Frag} {C : Addr} (h : eiB K C = true) : EI K C := by
  obtain ⟨h1, h⟩ := ba h
  obtain ⟨h2, h⟩ := ba h
  obtain ⟨h3, h⟩ := ba h
  obtain ⟨h4, h⟩ := ba h
  obtain ⟨h5, h⟩ := ba h
  obtain ⟨h6, h⟩ := ba h
  obtain ⟨h7, h⟩ := ba h
  obtain ⟨h8, h9⟩ := ba h
  exact ⟨h1, eqO_ok h2, eqO_ok h3, of_decide_eq_true h4, eqO_ok h5, eqO_ok h6, of_decide_eq_true h7, of_decide_eq_true h8, h9⟩
def ErrD.ok (d : ErrD) (K : Frag) (file : Str) : Bool := exB K (d.C K) && (eqO (nsIn K mainGlobals d.cname) (some (some (.ref (d.C K)))) && (eqO (findIn K (.ref (d.C K)) "__init__") (some (some (.ref (d.f K)))) && (decide (typeIn K (.ref (d.f K)) = some (.type "function")) && (d.fnB K file &&
  (eqO (ks_superIn K (d.C K) (d.C K) "__init__") (some (some (.builtin "ValueError.__init__"))) && (decide (subIn K (.ref (d.C K)) (.type "ValueError") = some true) && (decide (mroIn K (d.C K) (.ref (d.C K)) = some true) && (eqO (nsIn K cStatics "thirdparty.any") (some none) &&
  (eqO (findIn K (.ref (d.C K)) "__setattr__") (some (some (.builtin "object.__setattr__"))) && (keepIn K (.ref (d.C K)) && (eiB K (d.C K) && d.fields.all fun f => eqO (findIn K (.ref (d.C K)) f) (some none))))))))))))
theorem exB_ok {K : Frag} {C : Addr} (h : exB K C = true) : ∃ nm q N bs bm sn sub ab col dd k0 k1 k2 k3 k5, K.lookup C = some (excClassObj nm q C N bs bm true sn sub ab col dd k0 k1 k2 k3 k5 "ValueError.__new__") ∧ refsVE bm = true := by
  unfold exB at h
  split at h
  · rename_i t dd cd sl e
    split at h
    · rename_i C' bm k0 k1 k2 k3 n k5 hm hs
      obtain ⟨h1, h⟩ := ba h
      obtain ⟨h2, h⟩ := ba h
      obtain ⟨h3, h⟩ := ba h
      obtain ⟨h4, h⟩ := ba h
      obtain ⟨h5, h6⟩ := ba h
      obtain ⟨nm, bs, mro, ns, qn, hd, sn, sb, ab, col, del⟩ := cd
      dsimp only at hm h4 h5
      have z1 := beq_iff_eq.mp h1
      have z2 := beq_iff_eq.mp h2
      have z3 := beq_iff_eq.mp h3
      subst hm z1 z2 z3 h5
      have z4 : del = false := by simpa using h4
      subst z4
      obtain ⟨sl⟩ := sl
      dsimp only at hs
      subst hs
      exact ⟨nm, qn, ns, bs, bm, sn, sb, ab, col, dd, k0, k1, k2, k3, k5, e, h6⟩
    · cases h
  · cases h
theorem fileB_ok {K : Frag} {cda : Addr} {file : Str} (h : fileB K cda file = true) : ∃ ccl cdd vs ccs z tf, K.lookup cda = some ⟨ccl, cdd, .fields vs, ccs⟩ ∧ vs[2]? = some (.str z tf) ∧ (file == z) = true := by
  unfold fileB at h
  split at h
  · rename_i ccl cdd vs ccs e
    split at h
    · rename_i z tf e2
      exact ⟨ccl, cdd, vs, ccs, z, tf, e, e2, h⟩
    · cases h
  · cases h
theorem cellB_ok {K : Frag} {cc C : Addr} (h : cellB K cc C = true) : ∃ cl cld csl, K.lookup cc = some ⟨cl, cld, .cell (some (.ref C)), csl⟩ := by
  unfold cellB at h
  split at h
  · rename_i cl cld D csl e
    obtain rfl := beq_iff_eq.mp h
    exact ⟨cl, cld, csl, e⟩
  · cases h
/-- what is known of an own error, from the head's word -/
structure ErrK (prog : Program) (K : Frag) (d : ErrD) (cda cc : Addr) (kV doc pm : Value) (an : Option Addr) (ct : Value) : Prop where
  ec : EC prog K (d.C K) (d.f K) cda cc (ksFn "__init__" d.qual d.params d.body d.scope .none kV doc pm an (.ref cda) ct cc)
  iC : findIn K (.ref (d.C K)) "__init__" = some (some (.ref (d.f K)))
  tI : typeIn K (.ref (d.f K)) = some (.type "function")
  cd : codeIn K (.ref cda) d.qual = true
  sa : findIn K (.ref (d.C K)) "__setattr__" = some (some (.builtin "object.__setattr__"))
  kp : keepIn K (.ref (d.C K)) = true
  ei : EI K (d.C K)
  no : ∀ f ∈ d.fields, findIn K (.ref (d.C K)) f = some none
  gl : nsIn K mainGlobals d.cname = some (some (.ref (d.C K)))
theorem ErrD.known {prog : Program} {K : Frag} {d : ErrD} (hs : (prog.main.scope.names.lookup ("super" : Str)).isSome = false) (e : d.obs K = d.val) (c : d.ok K prog.main.file = true) : ∃ cda cc kV doc pm an ct, ErrK prog K d cda cc kV doc pm an ct := by
  obtain ⟨c1, c⟩ := ba c
  obtain ⟨c2, c⟩ := ba c
  obtain ⟨c3, c⟩ := ba c
  obtain ⟨c4, c⟩ := ba c
  obtain ⟨c5, c⟩ := ba c
  obtain ⟨c6, c⟩ := ba c
  obtain ⟨c7, c⟩ := ba c
  obtain ⟨c8, c⟩ := ba c
  obtain ⟨c9, c⟩ := ba c
  obtain ⟨c10, c⟩ := ba c
  obtain ⟨c11, c⟩ := ba c
  obtain ⟨c12, c13⟩ := ba c
  unfold ErrD.obs at e
  unfold ErrD.fnB at c5
  cases q : K.lookup (d.f K) with
  | none =>
    rw [q] at c5
    cases c5
  | some o =>
    obtain ⟨oc, od, dt, osl⟩ := o
    rw [q] at c5 e
    cases dt with
    | func fd =>
      obtain ⟨n1, n2, n3, n4, n5, n6, n7, n8, n9, n10, n11, n12, n13, n14, n15⟩ := fd
      have e2 : (some (n1, n2, n3, n4, n5, n6, n7.map (fun c => (c.1, 0)), n15) : FnW) = (some ((("__init__" : Str)), d.qual, d.params, FuncBody.stmts d.body, d.scope, mainGlobals, [(("__class__" : Str), 0)], builtinsNs) : FnW) := e
      simp only [Option.some.injEq, Prod.mk.injEq] at e2
      obtain ⟨h1, h2, h3, h4, h5, h6, h7, h8⟩ := e2
      subst h1 h2 h3 h4 h5 h6 h8
      cases n13 with
      | ref cda =>
        cases n7 with
        | nil => cases c5
        | cons p r =>
          obtain ⟨nn, cc⟩ := p
          cases r with
          | cons _ _ => cases c5
          | nil =>
            obtain ⟨k1, k⟩ := ba c5
            obtain ⟨k2, k⟩ := ba k
            obtain ⟨k3, k4⟩ := ba k
            have z1 : n8 = Value.none := of_decide_eq_true k1
            subst z1
            have z2 : nn = ("__class__" : Str) := by
              have := congrArg (fun l : List (Str × Addr) => l.map (·.1)) h7
              simpa using this
            subst z2
            exact ⟨cda, cc, n9, n10, n11, n12, n14, ⟨exB_ok c1, ⟨oc, od, osl, q⟩, fileB_ok k3, cellB_ok k4, eqO_ok c6, of_decide_eq_true c7, of_decide_eq_true c8, eqO_ok c9, hs⟩, eqO_ok c3, of_decide_eq_true c4, k2, eqO_ok c10, c11, eiB_ok c12, fun f hf => eqO_ok (List.all_eq_true.mp c13 f hf), eqO_ok c2⟩
      | _ => cases n7 <;> cases c5
    | _ => cases c5
/-! ### the Hook -/
def kOf (g : Addr → Option Obj) (n : Nat) : Frag := frG g (cStatics :: asD g n)
abbrev AlZ : Type := Bool × List FnW
def obsZ (fa : List Fa) (fn : List DefD) (es : List ErrD) (file : Str) (ex : Frag → Bool) (K : Frag) : AlZ :=
  ((fa.all fun f => f.ok K) && ((fn.all fun d => d.ok K) && ((es.all fun d => d.ok K file) && ex K)), (fn.map fun d => fnW K d.at_) ++ es.map fun d => d.obs K)
def valZ (fn : List DefD) (es : List ErrD) : AlZ := (true, fn.map DefD.val ++ es.map ErrD.val)
def SaysZ (fa : List Fa) (fn : List DefD) (es : List ErrD) (file : Str) (ex : Frag → Bool) (K : Frag) : Prop := obsZ fa fn es file ex K = valZ fn es
def hookZ (n : Nat) (fa : List Fa) (fn : List DefD) (es : List ErrD) (file : Str) (ex : Frag → Bool) : Hook where
  α := AlZ
  obs := fun s => obsZ fa fn es file ex (kOf s.heap.get? n)
  val := fun _ => valZ fn es
  says := fun _ h => ∃ K : Frag, K.In h ∧ SaysZ fa fn es file ex K
  of := fun _ _ e => ⟨_, frG_in, e⟩
  keeps := fun _ _ _ ⟨K, hK, c⟩ k => ⟨K, Frag.In.keeps hK k, c⟩
def seeZ (n : Nat) (fa : List Fa) (fn : List DefD) (es : List ErrD) (file : Str) (ex : Frag → Bool) (s : SharedT) : AlZ := obsZ fa fn es file ex (kOf (HandSHeadRun.getT s) n)
theorem seeZ_eq {n : Nat} {fa : List Fa} {fn : List DefD} {es : List ErrD} {file : Str} {ex : Frag → Bool} (s : SharedT) : seeZ n fa fn es file ex s = (hookZ n fa fn es file ex).obs s.abs := by
  have e : HandSHeadRun.getT s = s.abs.heap.get? := funext (HandSHeadRun.getT_eq s)
  show obsZ fa fn es file ex (kOf (HandSHeadRun.getT s) n) = obsZ fa fn es file ex (kOf s.abs.heap.get? n)
  rw [e]
section
variable {fa : List Fa} {fn : List DefD} {es : List ErrD} {file : Str} {ex : Frag → Bool} {K : Frag}
theorem SaysZ.all (c : SaysZ fa fn es file ex K) : (∀ f ∈ fa, f.ok K = true) ∧ (∀ d ∈ fn, d.ok K = true) ∧ (∀ d ∈ es, d.ok K file = true) ∧ ex K = true := by
  have h : ((fa.all fun f => f.ok K) && ((fn.all fun d => d.ok K) && ((es.all fun d => d.ok K file) && ex K))) = true := congrArg (fun z : AlZ => z.1) c
  obtain ⟨h1, h⟩ := ba h
  obtain ⟨h2, h⟩ := ba h
  obtain ⟨h3, h4⟩ := ba h
  exact ⟨List.all_eq_true.mp h1, List.all_eq_true.mp h2, List.all_eq_true.mp h3, h4⟩
theorem SaysZ.two (c : SaysZ fa fn es file ex K) : (fn.map fun d => fnW K d.at_) = fn.map DefD.val ∧ (es.map fun d => d.obs K) = es.map ErrD.val := by
  have h : (fn.map fun d => fnW K d.at_) ++ (es.map fun d => d.obs K) = fn.map DefD.val ++ es.map ErrD.val := congrArg (fun z : AlZ => z.2) c
  exact List.append_inj h (by simp)
theorem map_at {α β : Type} {f g : α → β} : ∀ {l : List α}, l.map f = l.map g → ∀ x ∈ l, f x = g x
  | a :: r, h, x, hx => by
    rw [List.map_cons, List.map_cons] at h
    obtain ⟨h1, h2⟩ := List.cons.inj h
    rcases List.mem_cons.mp hx with rfl | hx
    · exact h1
    · exact map_at h2 x hx
theorem SaysZ.fact (c : SaysZ fa fn es file ex K) (i : Nat) {f : Fa} (h : fa[i]? = some f := by rfl) : f.ok K = true := c.all.1 f (List.mem_of_getElem? h)
theorem SaysZ.def_ (c : SaysZ fa fn es file ex K) (i : Nat) {d : DefD} (h : fn[i]? = some d := by rfl) : ∃ fd, FunD K d.name d.qual d.params d.body d.scope (d.dvs K) (d.kws K) (fAd K d.at_) fd :=
  DefD.funD (map_at c.two.1 d (List.mem_of_getElem? h)) (c.all.2.1 d (List.mem_of_getElem? h))
theorem SaysZ.err {prog : Program} (hs : (prog.main.scope.names.lookup ("super" : Str)).isSome = false) (c : SaysZ fa fn es prog.main.file ex K) (i : Nat) {d : ErrD} (h : es[i]? = some d := by rfl) : ∃ cda cc kV doc pm an ct, ErrK prog K d cda cc kV doc pm an ct :=
  ErrD.known hs (map_at c.two.2 d (List.mem_of_getElem? h)) (c.all.2.2.1 d (List.mem_of_getElem? h))
end
end MyHead


set_option Elab.async false
set_option linter.all false
set_option maxRecDepth 100000
set_option maxHeartbeats 0
namespace My
open PySem PySem.W L2 He MyHead
def top (i : Nat) : Stmt := PySem.Challenge.pw_filledrow_k01_errors_and_their_fields.main.body.getD i (.Pass ⟨0, 0, 0, 0⟩)
abbrev s_law_pen : Stmt := top 25
abbrev s_law_draw : Stmt := top 26
abbrev s_law_pick : Stmt := top 27
abbrev s_law_value : Stmt := top 28
abbrev s_law_made : Stmt := top 29
abbrev s_law_named : Stmt := top 30
abbrev s_law_fields : Stmt := top 31
abbrev s_law_classes : Stmt := top 32
abbrev s_law : Stmt := top 33
abbrev i_BadName : Stmt := inClass (top 2) 0
abbrev i_BadAmount : Stmt := inClass (top 3) 0
abbrev i_BadWorth : Stmt := inClass (top 4) 0
abbrev i_BadTable : Stmt := inClass (top 5) 0
abbrev i_BadSide : Stmt := inClass (top 6) 0
abbrev i_BadFilling : Stmt := inClass (top 7) 0
abbrev i_BadPair : Stmt := inClass (top 8) 0
abbrev i_BadOrder : Stmt := inClass (top 9) 0
abbrev i_BadBars : Stmt := inClass (top 10) 0
abbrev i_BadSeen : Stmt := inClass (top 11) 0
abbrev i_BadOffer : Stmt := inClass (top 12) 0
abbrev i_BadRule : Stmt := inClass (top 13) 0
abbrev i_BadDay : Stmt := inClass (top 14) 0
abbrev i_BadLedger : Stmt := inClass (top 15) 0
abbrev i_BadText : Stmt := inClass (top 16) 0
abbrev i_BadLine : Stmt := inClass (top 17) 0
abbrev i_NoName : Stmt := inClass (top 18) 0
abbrev i_NoPair : Stmt := inClass (top 19) 0
abbrev i_Lacking : Stmt := inClass (top 20) 0
abbrev i_TooMany : Stmt := inClass (top 21) 0
abbrev i_IsNested : Stmt := inClass (top 22) 0
abbrev i_NoChange : Stmt := inClass (top 23) 0
def d_law_pen : DefD := ⟨("_law_pen", none), "_law_pen", "_law_pen", defArgs s_law_pen, defBody s_law_pen, defScope s_law_pen, [], []⟩
def d_law_draw : DefD := ⟨("_law_draw", none), "_law_draw", "_law_draw", defArgs s_law_draw, defBody s_law_draw, defScope s_law_draw, [], []⟩
def d_law_pick : DefD := ⟨("_law_pick", none), "_law_pick", "_law_pick", defArgs s_law_pick, defBody s_law_pick, defScope s_law_pick, [], []⟩
def d_law_value : DefD := ⟨("_law_value", none), "_law_value", "_law_value", defArgs s_law_value, defBody s_law_value, defScope s_law_value, [], []⟩
def d_law_made : DefD := ⟨("_law_made", none), "_law_made", "_law_made", defArgs s_law_made, defBody s_law_made, defScope s_law_made, [], []⟩
def d_law_named : DefD := ⟨("_law_named", none), "_law_named", "_law_named", defArgs s_law_named, defBody s_law_named, defScope s_law_named, [], []⟩
def d_law_fields : DefD := ⟨("_law_fields", none), "_law_fields", "_law_fields", defArgs s_law_fields, defBody s_law_fields, defScope s_law_fields, [], []⟩
def d_law_classes : DefD := ⟨("_law_classes", none), "_law_classes", "_law_classes", defArgs s_law_classes, defBody s_law_classes, defScope s_law_classes, [], []⟩
def d_law : DefD := ⟨("law", none), "law", "law", defArgs s_law, defBody s_law, defScope s_law, [], []⟩
def e_BadName : ErrD := ⟨"BadName", "BadName.__init__", defArgs i_BadName, defBody i_BadName, defScope i_BadName, ["value"]⟩
def e_BadAmount : ErrD := ⟨"BadAmount", "BadAmount.__init__", defArgs i_BadAmount, defBody i_BadAmount, defScope i_BadAmount, ["value"]⟩
def e_BadWorth : ErrD := ⟨"BadWorth", "BadWorth.__init__", defArgs i_BadWorth, defBody i_BadWorth, defScope i_BadWorth, ["value"]⟩
def e_BadTable : ErrD := ⟨"BadTable", "BadTable.__init__", defArgs i_BadTable, defBody i_BadTable, defScope i_BadTable, ["part"]⟩
def e_BadSide : ErrD := ⟨"BadSide", "BadSide.__init__", defArgs i_BadSide, defBody i_BadSide, defScope i_BadSide, ["part"]⟩
def e_BadFilling : ErrD := ⟨"BadFilling", "BadFilling.__init__", defArgs i_BadFilling, defBody i_BadFilling, defScope i_BadFilling, ["part"]⟩
def e_BadPair : ErrD := ⟨"BadPair", "BadPair.__init__", defArgs i_BadPair, defBody i_BadPair, defScope i_BadPair, ["value"]⟩
def e_BadOrder : ErrD := ⟨"BadOrder", "BadOrder.__init__", defArgs i_BadOrder, defBody i_BadOrder, defScope i_BadOrder, ["part"]⟩
def e_BadBars : ErrD := ⟨"BadBars", "BadBars.__init__", defArgs i_BadBars, defBody i_BadBars, defScope i_BadBars, ["part"]⟩
def e_BadSeen : ErrD := ⟨"BadSeen", "BadSeen.__init__", defArgs i_BadSeen, defBody i_BadSeen, defScope i_BadSeen, ["part"]⟩
def e_BadOffer : ErrD := ⟨"BadOffer", "BadOffer.__init__", defArgs i_BadOffer, defBody i_BadOffer, defScope i_BadOffer, ["part"]⟩
def e_BadRule : ErrD := ⟨"BadRule", "BadRule.__init__", defArgs i_BadRule, defBody i_BadRule, defScope i_BadRule, ["part"]⟩
def e_BadDay : ErrD := ⟨"BadDay", "BadDay.__init__", defArgs i_BadDay, defBody i_BadDay, defScope i_BadDay, ["value"]⟩
def e_BadLedger : ErrD := ⟨"BadLedger", "BadLedger.__init__", defArgs i_BadLedger, defBody i_BadLedger, defScope i_BadLedger, ["part"]⟩
def e_BadText : ErrD := ⟨"BadText", "BadText.__init__", defArgs i_BadText, defBody i_BadText, defScope i_BadText, ["line", "word"]⟩
def e_BadLine : ErrD := ⟨"BadLine", "BadLine.__init__", defArgs i_BadLine, defBody i_BadLine, defScope i_BadLine, ["word"]⟩
def e_NoName : ErrD := ⟨"NoName", "NoName.__init__", defArgs i_NoName, defBody i_NoName, defScope i_NoName, ["name"]⟩
def e_NoPair : ErrD := ⟨"NoPair", "NoPair.__init__", defArgs i_NoPair, defBody i_NoPair, defScope i_NoPair, ["pair"]⟩
def e_Lacking : ErrD := ⟨"Lacking", "Lacking.__init__", defArgs i_Lacking, defBody i_Lacking, defScope i_Lacking, ["name"]⟩
def e_TooMany : ErrD := ⟨"TooMany", "TooMany.__init__", defArgs i_TooMany, defBody i_TooMany, defScope i_TooMany, ["what", "most"]⟩
def e_IsNested : ErrD := ⟨"IsNested", "IsNested.__init__", defArgs i_IsNested, defBody i_IsNested, defScope i_IsNested, []⟩
def e_NoChange : ErrD := ⟨"NoChange", "NoChange.__init__", defArgs i_NoChange, defBody i_NoChange, defScope i_NoChange, []⟩
def fn : List DefD := [d_law_pen, d_law_draw, d_law_pick, d_law_value, d_law_made, d_law_named, d_law_fields, d_law_classes, d_law]
def es : List ErrD := [e_BadName, e_BadAmount, e_BadWorth, e_BadTable, e_BadSide, e_BadFilling, e_BadPair, e_BadOrder, e_BadBars, e_BadSeen, e_BadOffer, e_BadRule, e_BadDay, e_BadLedger, e_BadText, e_BadLine, e_NoName, e_NoPair, e_Lacking, e_TooMany, e_IsNested, e_NoChange]
def fa : List Fa := [.glo "_law_pen", .glo "_law_draw", .glo "_law_pick", .glo "_law_value", .glo "_law_made", .glo "_law_named", .glo "_law_fields", .glo "_law_classes", .glo "law", .free "ArithmeticError", .free "AttributeError", .free "LookupError", .free "RuntimeError", .free "TypeError", .free "ValueError", .free "abs", .free "int", .free "isinstance", .free "len", .free "list", .free "range", .free "repr", .free "super"]
def facts : List Str := ["_law_pen", "_law_draw", "_law_pick", "_law_value", "_law_made", "_law_named", "_law_fields", "_law_classes", "law", "ArithmeticError", "AttributeError", "LookupError", "RuntimeError", "TypeError", "ValueError", "abs", "int", "isinstance", "len", "list", "range", "repr", "super"]
abbrev lawPlace : Nat := 33
def loose0 : List PySem.Str := ["FillError", "BadName", "BadAmount", "BadWorth", "BadTable", "BadSide", "BadFilling", "BadPair", "BadOrder", "BadBars", "BadSeen", "BadOffer", "BadRule", "BadDay", "BadLedger", "BadText", "BadLine", "NoName", "NoPair", "Lacking", "TooMany", "IsNested", "NoChange", "_law_pen", "_law_draw", "_law_pick", "_law_value", "_law_made", "_law_named", "_law_fields"]
def loose1 : List PySem.Str := ["_law_classes"]
def loose : List PySem.Str := loose0 ++ loose1
abbrev R : OpenRow := OpenLaw.row PySem.Challenge.rw_filledrow_k01_errors_and_their_fields
def errNames : List Str := ["BadName", "BadAmount", "BadWorth", "BadTable", "BadSide", "BadFilling", "BadPair", "BadOrder", "BadBars", "BadSeen", "BadOffer", "BadRule", "BadDay", "BadLedger", "BadText", "BadLine", "NoName", "NoPair", "Lacking", "TooMany", "IsNested", "NoChange"]
/-- isinstance among the classes, and against Python's own -/
def exIs (K : Frag) : Bool := (errNames.all fun x => errNames.all fun y => decide (kitOne K (.ref (ga K x)) (.ref (ga K y)) = some (x == y))) &&
  errNames.all fun x => decide (kitOne K (.ref (ga K x)) (.ref (ga K "FillError")) = some true) && (decide (kitOne K (.ref (ga K x)) (.type "ValueError") = some true) &&
    (["LookupError", "TypeError", "ArithmeticError", "AttributeError", "RuntimeError"] : List String).all fun t => decide (kitOne K (.ref (ga K x)) (.type t) = some false))
/-- FillError itself -/
def exF (K : Frag) : Bool := eiB K (ga K "FillError") && (decide (kitOne K (.ref (ga K "FillError")) (.ref (ga K "BadName")) = some false) && decide (kitOne K (.ref (ga K "FillError")) (.type "ValueError") = some true))
def exAll (K : Frag) : Bool := exIs K && exF K
def fa2 : List Fa := fa ++ [.glo "FillError", .exc "FillError"]
abbrev hk : Hook := hookZ 5 fa2 fn es PySem.Challenge.pw_filledrow_k01_errors_and_their_fields.main.file exAll
def ob (s : SharedT) : AlZ := seeZ 5 fa2 fn es PySem.Challenge.pw_filledrow_k01_errors_and_their_fields.main.file exAll s
theorem run (w : World) : HandSHeadRun.RunEq R (view R.prog [33]) hk ob 8000 loose w := by
  intro os
  kernel_rfl
end My


set_option Elab.async false
set_option linter.all false
set_option maxRecDepth 100000
set_option maxHeartbeats 4000000
namespace My
open PySem L2
abbrev FnP (K : PySem.W.Frag) (x : Str) (st : Stmt) (f : Addr) (fd : FuncData) : Prop := FunD K x x (defArgs st) (defBody st) (defScope st) [] [] f fd
/-- the pen at p: the cells at l, how many were drawn, what is left of a great one -/
structure PenAt (H : Hp) (p l : Addr) (ns : List Int) (spot great : Int) : Prop where
  pen : H p = some (.lst [.ref l, .int spot, .int great])
  cel : H l = some (.lst (ns.map V.int))
  len : ns.length ≤ 59
  s0 : 0 ≤ spot
  g0 : 0 ≤ great
theorem PenAt.ne {H : Hp} {p l : Addr} {ns : List Int} {spot great : Int} (h : PenAt H p l ns spot great) : p ≠ l := fun e => by
  have a := h.pen
  have b := h.cel
  rw [← e, a] at b
  cases ns with
  | nil => cases b
  | cons x xs => cases b
theorem PenAt.put {H : Hp} {p l : Addr} {ns : List Int} {spot great : Int} (h : PenAt H p l ns spot great) {s g : Int} (hs : 0 ≤ s) (hg : 0 ≤ g) : PenAt (upd H p (.lst [.ref l, .int s, .int g])) p l ns s g :=
  ⟨upd_same, by rw [upd_ne h.ne.symm]; exact h.cel, h.len, hs, hg⟩
/-- all but p stays as it was -/
def Keeps (p : Addr) (H H' : Hp) : Prop := ∀ a o, H a = some o → a ≠ p → H' a = some o
theorem Keeps.upd {p : Addr} {H : Hp} {o : HO} : Keeps p H (upd H p o) := fun a u e h => by rw [upd_ne h]; exact e
theorem Keeps.trans {p : Addr} {H H1 H2 : Hp} (a : Keeps p H H1) (b : Keeps p H1 H2) : Keeps p H H2 := fun x o h n => b x o (a x o h n) n
theorem Keeps.new {p q : Addr} {H : Hp} {o : HO} (h : H q = none) : Keeps p H (L2.upd H q o) := fun a u e _ => by rw [upd_ne (ne_of_none e h)]; exact e
structure TxtD (mg : Str → Option Value) : Prop where
  int : mg "int" = none
  len : mg "len" = none
  abs : mg "abs" = none
def spDraw : Sp := fun vs H Q _ => ∃ (p l : Addr) (ns : List Int) (spot great many : Int), vs = [.ref p, .int many] ∧ PenAt H p l ns spot great ∧ 1 ≤ many ∧ many < 1000000 ∧ spot ≤ 1000000 ∧
  ∀ (spot' great' r : Int) (H' : Hp), Keeps p H H' → PenAt H' p l ns spot' great' → spot' ≤ spot + 1 → 0 ≤ r → r < many → Q (.int r) H'
theorem fm0 {a b : Int} (h : 1 ≤ b) : 0 ≤ a.fmod b := Int.fmod_nonneg_of_pos a (by omega)
theorem fm1 {a b : Int} (h : 1 ≤ b) : a.fmod b < b := Int.fmod_lt_of_pos a (by omega)
theorem fd0 {a b : Int} (ha : 0 ≤ a) (h : 1 ≤ b) : 0 ≤ a.fdiv b := Int.fdiv_nonneg ha (by omega)
theorem dp_ints {K : PySem.W.Frag} {H : Hp} : ∀ ns : List Int, DpAll K H (ns.map V.int) (ns.map PyData.int)
  | [] => .nil
  | n :: r => .cons (.int n) (dp_ints r)
theorem lay_ints : ∀ ns : List Int, PyData.canLayAll0 (ns.map PyData.int) = true
  | [] => rfl
  | n :: r => by
    show (PyData.canLay0 (.int n) && PyData.canLayAll0 (r.map PyData.int)) = true
    rw [lay_ints r]
    rfl
theorem dep_ints : ∀ ns : List Int, PyData.depthAll (ns.map PyData.int) ≤ 1
  | [] => by decide
  | n :: r => by
    have := dep_ints r
    show max (PyData.depth (.int n)) (PyData.depthAll (r.map PyData.int)) ≤ 1
    exact Nat.max_le.mpr ⟨Nat.zero_le _, this⟩
theorem shaped_ints (ns : List Int) : SeqAt.shaped (.list (ns.map PyData.int)) = true := by
  have h1 : PyData.canLay0 (.list (ns.map PyData.int)) = true := lay_ints ns
  have h2 : PyData.depth (.list (ns.map PyData.int)) ≤ 64 := by
    have := dep_ints ns
    show PyData.depthAll (ns.map PyData.int) + 1 ≤ 64
    omega
  unfold SeqAt.shaped
  rw [h1, decide_eq_true h2]
  rfl
theorem atI_mod {ns : List Int} (hn : ns ≠ []) (z : Int) : ∃ c : Int, atI (ns.map V.int) (z.fmod ((ns.map V.int).length : Nat)) = some (.int c) := by
  have hl : 0 < ns.length := List.length_pos_iff.mpr hn
  have h1 : (1 : Int) ≤ ((ns.map V.int).length : Nat) := by rw [List.length_map]; omega
  have h0 := fm0 (a := z) h1
  have h2 := fm1 (a := z) h1
  generalize z.fmod ((ns.map V.int).length : Nat) = m at h0 h2
  obtain ⟨j, rfl⟩ : ∃ j : Nat, m = (j : Int) := ⟨m.toNat, by omega⟩
  rw [List.length_map] at h2
  have hj : j < ns.length := by omega
  exact ⟨ns[j], atI_nat (by rw [List.getElem?_map, List.getElem?_eq_getElem hj]; rfl)⟩
theorem mul_le {a b m n : Int} (ha : 0 ≤ a) (ham : a ≤ m) (hb : 0 ≤ b) (hbn : b ≤ n) : 0 ≤ a * b ∧ a * b ≤ m * n :=
  ⟨Int.mul_nonneg ha hb, Int.le_trans (Int.mul_le_mul_of_nonneg_right ham hb) (Int.mul_le_mul_of_nonneg_left hbn (by omega))⟩
section
variable {P : Program} {w : World} {K : PySem.W.Frag} {mg : Str → Option Value} {base : Heap}
theorem scD : FnScope ["_law_pen_here", "_law_many", "_law_spot", "_law_cell", "_law_mixed", "_law_digit", "_law_great"] ["_law_pen_here", "_law_many"] (defScope s_law_draw) := ⟨rfl, rfl, rfl, by decide +kernel, rfl, by decide +kernel, by decide +kernel⟩
theorem ok_draw {f : Addr} {fd : FuncData} (F : FnP K "_law_draw" s_law_draw f fd) (T : TxtD mg) : FnOk P w K mg base CX0 1 f fd ["_law_pen_here", "_law_many"] spDraw := by
  refine F.ok scD (fun vs H Q E h => ?_) (fun cdv A outer s H vs Q E hr h => ?_)
  · obtain ⟨p, l, ns, spot, great, many, rfl, _⟩ := h
    rfl
  · obtain ⟨p, l, ns, spot, great, many, rfl, hp, hm1, hm2, hs, k⟩ := h
    have hu64 := hr.units
    refine ⟨_, PSs.nox (pss_cons (ps_if (pt_cmpR op_gt (pe_ix ix_list (pv 0) pe_int (fun _ _ => rfl)) pe_int (nomark _))
    (pss_cons (ps_set (i := 5) scD.nd rfl (Or.inl rfl) (pe_op op_modN (pe_callTy call_int1 (by rfl) T.int (by decide +kernel) (pa_cons (pe_ix ix_list (pv 0) pe_int (fun _ _ => rfl)) pa_nil)) (pv 1)))
      (pss_cons (ps_asg (pe_op op_fdivN (pe_callTy call_int1 (by rfl) T.int (by decide +kernel) (pa_cons (pe_ix ix_list (pv 0) pe_int (fun _ _ => rfl)) pa_nil)) (pv 1)) (pg_sub (pv 0) pe_int set_list))
      (pss_one (ps_ret (pv 5)))))
    pss_nil)
  (pss_cons (ps_set (i := 2) scD.nd rfl (Or.inl rfl) (pe_ix ix_list (pv 0) pe_int (fun _ _ => rfl)))
  (pss_cons (ps_asg (pe_op op_add (pv 2) pe_int) (pg_sub (pv 0) pe_int set_list))
  (pss_cons (ps_set (i := 3) scD.nd rfl (Or.inl rfl) (pe_op op_add (pe_op op_mul pe_int (pv 2)) pe_int))
  (C8.pss_cut (ps_if (pt_cmpR (op_neD hu64) (pe_ix ix_list (pv 0) pe_int (fun _ _ => rfl)) (pe_lst pa_nil) (nomark _))
    (pss_one (ps_set (i := 3) scD.nd rfl (Or.inl rfl) (pe_ix ix_list (pe_ix ix_list (pv 0) pe_int (fun _ _ => rfl)) (pe_op op_modN (pe_callTy call_int1 (by rfl) T.int (by decide +kernel) (pa_cons (pv 2) pa_nil)) (pe_callB call_len_seq (by rfl) T.len (by decide +kernel) (pa_cons (pe_ix ix_list (pv 0) pe_int (fun _ _ => rfl)) pa_nil))) (fun _ _ => rfl))))
    pss_nil)
  (C8.pss_cut (ps_if (PW.pt (pw_and (pt_cmpR op_lt (pv 2) (pe_callB call_len_seq (by rfl) T.len (by decide +kernel) (pa_cons (pe_ix ix_list (pv 0) pe_int (fun _ _ => rfl)) pa_nil)) (nomark _)) (pw_and1 (pt_cmpR op_ge (pe_callB call_abs (by rfl) T.abs (by decide +kernel) (pa_cons (pv 3) pa_nil)) (pe_op op_pow pe_int pe_int) (nomark _)))))
    (pss_cons (ps_set (i := 6) scD.nd rfl (Or.inl rfl) (pe_op op_add (pe_op op_mul pe_int (pe_op op_sub (pe_callB call_abs (by rfl) T.abs (by decide +kernel) (pa_cons (pv 3) pa_nil)) (pe_op op_pow pe_int pe_int))) (pe_callTy call_int1 (by rfl) T.int (by decide +kernel) (pa_cons (pe_cmpR op_lt (pv 3) pe_int (nomark _)) pa_nil))))
      (pss_cons (ps_asg (pe_op op_fdivN (pe_callTy call_int1 (by rfl) T.int (by decide +kernel) (pa_cons (pv 6) pa_nil)) (pv 1)) (pg_sub (pv 0) pe_int set_list))
      (pss_one (ps_ret (pe_op op_modN (pe_callTy call_int1 (by rfl) T.int (by decide +kernel) (pa_cons (pv 6) pa_nil)) (pv 1))))))
    pss_nil)
  (pss_cons (ps_set (i := 4) scD.nd rfl (Or.inl rfl) (pe_op op_modN (pe_callTy call_int1 (by rfl) T.int (by decide +kernel) (pa_cons (pe_op op_pow (pe_op op_add (pe_op op_add (pe_op op_modN (pe_callTy call_int1 (by rfl) T.int (by decide +kernel) (pa_cons (pv 3) pa_nil)) pe_int) (pe_op op_mul pe_int (pv 2))) pe_int) pe_int) pa_nil)) pe_int))
  (pss_cons (ps_set (i := 4) scD.nd rfl (Or.inl rfl) (pe_op op_modN (pe_callTy call_int1 (by rfl) T.int (by decide +kernel) (pa_cons (pe_op op_pow (pe_op op_add (pe_op op_add (pe_op op_mul (pv 4) (pe_op op_add (pe_op op_mul pe_int (pv 2)) pe_int)) (pe_op op_mul (pe_op op_mul pe_int (pv 2)) (pv 2))) pe_int) pe_int) pa_nil)) pe_int))
  (pss_one (ps_ret (pe_op op_modN (pe_callTy call_int1 (by rfl) T.int (by decide +kernel) (pa_cons (pe_op op_fdivN (pv 4) pe_int) pa_nil)) (pv 1)))))))))))), ?_⟩
    have at0 : ∀ (a b c : V), atI [a, b, c] 0 = some a := fun _ _ _ => rfl
    have at1 : ∀ (a b c : V), atI [a, b, c] 1 = some b := fun _ _ _ => rfl
    have at2 : ∀ (a b c : V), atI [a, b, c] 2 = some c := fun _ _ _ => rfl
    refine ⟨_, rfl, p, _, _, _, rfl, rfl, SqL.of hp.pen, at2 _ _ _, _, _, rfl, rfl, _, rfl, ?_⟩
    refine ite2 (fun h1 => ?_) (fun h1 => ?_)
    · refine ⟨_, rfl, p, _, _, _, rfl, rfl, SqL.of hp.pen, at2 _ _ _, .inl ⟨_, rfl, _, rfl, _, _, rfl, rfl, by omega, ?_⟩⟩
      refine ⟨_, rfl, p, _, _, _, rfl, rfl, SqL.of hp.pen, at2 _ _ _, .inl ⟨_, rfl, _, rfl, _, _, rfl, rfl, ⟨by omega, by omega⟩, ?_⟩⟩
      refine ⟨_, rfl, p, _, _, 2, rfl, rfl, hp.pen, rfl, ?_⟩
      exact ⟨_, rfl, k spot _ _ _ .upd (hp.put hp.s0 (fd0 hp.g0 hm1)) (by omega) (fm0 hm1) (fm1 hm1)⟩
    · have hp1 : ∀ g : Int, 0 ≤ g → PenAt (upd H p (.lst [.ref l, .int (spot + 1), .int g])) p l ns (spot + 1) g := fun g hg => hp.put (by have := hp.s0; omega) hg
      have hp2 := hp1 great hp.g0
      have s0 := hp.s0
      refine ⟨_, rfl, p, _, _, _, rfl, rfl, SqL.of hp.pen, at1 _ _ _, ?_⟩
      refine ⟨_, rfl, _, _, rfl, rfl, _, rfl, p, _, _, 1, rfl, rfl, hp.pen, rfl, ?_⟩
      refine ⟨_, rfl, _, _, rfl, rfl, .inl ⟨by decide, by decide⟩, _, _, rfl, rfl, ?_⟩
      -- if pen[0] != []: then
      refine ⟨fun σ' H' => ∃ (c : Int), σ' = [some (.ref p), some (.int many), some (.int spot), some (.int c), none, none, none] ∧ Keeps p H H' ∧ PenAt H' p l ns (spot + 1) great, ?_, ?_⟩
      · refine ⟨_, rfl, p, _, _, _, rfl, rfl, SqL.of hp2.pen, at0 _ _ _, Nat.zero_le _, fun e ne => ?_⟩
        have nep : p ≠ e := ne_of_none hp2.pen ne
        have nel : l ≠ e := ne_of_none hp2.cel ne
        have pen1 : upd (upd H p (.lst [.ref l, .int (spot + 1), .int great])) e (.lst []) p = some (.lst [.ref l, .int (spot + 1), .int great]) := by rw [upd_ne nep]; exact hp2.pen
        have cel1 : upd (upd H p (.lst [.ref l, .int (spot + 1), .int great])) e (.lst []) l = some (.lst (ns.map V.int)) := by rw [upd_ne nel]; exact hp2.cel
        have emp1 : upd (upd H p (.lst [.ref l, .int (spot + 1), .int great])) e (.lst []) e = some (.lst []) := upd_same
        have kp1 : Keeps p H (upd (upd H p (.lst [.ref l, .int (spot + 1), .int great])) e (.lst [])) := Keeps.upd.trans (Keeps.new ne)
        have hp3 : PenAt (upd (upd H p (.lst [.ref l, .int (spot + 1), .int great])) e (.lst [])) p l ns (spot + 1) great := ⟨pen1, cel1, hp.len, hp2.s0, hp.g0⟩
        refine ⟨.list (ns.map PyData.int), .list [], .lst (SqL.of cel1) (dp_ints ns), .lst (SqL.of emp1) .nil, shaped_ints ns, rfl, _, rfl, ?_⟩
        refine ite2 (fun h2 => ?_) (fun h2 => ?_)
        · have hn : ns ≠ [] := fun z => by subst z; exact absurd h2 (by decide)
          obtain ⟨c, hc⟩ := atI_mod hn spot
          refine ⟨_, rfl, p, _, _, _, rfl, rfl, SqL.of pen1, at0 _ _ _, _, rfl, .inl ⟨_, rfl, _, rfl, p, _, _, _, rfl, rfl, SqL.of pen1, at0 _ _ _, l, _, rfl, .inl (SqL.of cel1), _, _, rfl, rfl, ?_, l, _, _, _, rfl, rfl, SqL.of cel1, hc, c, rfl, kp1, hp3⟩⟩
          have : 0 < ns.length := List.length_pos_iff.mpr hn
          rw [List.length_map]
          omega
        · exact ⟨_, rfl, kp1, hp3⟩
      · rintro σ' H' ⟨c, rfl, kp, hp'⟩
        refine ⟨fun σ' H2 => σ' = [some (.ref p), some (.int many), some (.int spot), some (.int c), none, none, none] ∧ H2 = H', ?_, ?_⟩
        · refine ⟨_, rfl, _, rfl, p, _, _, _, rfl, rfl, SqL.of hp'.pen, at0 _ _ _, l, _, rfl, .inl (SqL.of hp'.cel), _, _, rfl, rfl, _, rfl, ?_⟩
          refine ite2 (fun h3 => ?_) (fun h3 => ?_)
          · refine ⟨_, rfl, _, rfl, _, _, rfl, rfl, ⟨by decide, by decide, by decide⟩, _, _, rfl, rfl, _, rfl, ?_⟩
            refine ite2 (fun h4 => ?_) (fun h4 => ?_)
            · have hge : (10 : Int) ^ (18 : Int).toNat ≤ (if c < 0 then -c else c) := of_decide_eq_true h4
              have e18 : (10 : Int) ^ (18 : Int).toNat = 1000000000000000000 := by decide
              refine ⟨_, rfl, _, rfl, _, _, rfl, rfl, ⟨by decide, by decide, by decide⟩, _, _, rfl, rfl, _, _, rfl, rfl, .inl ⟨by decide, by decide⟩, _, rfl, _, _, rfl, rfl, .inr ⟨_, rfl, _, _, rfl, rfl, ?_⟩⟩
              refine ⟨_, rfl, .inl ⟨_, rfl, _, rfl, _, _, rfl, rfl, ⟨by omega, by omega⟩, _, rfl, p, _, _, 2, rfl, rfl, hp'.pen, rfl, ?_⟩⟩
              refine ⟨_, rfl, .inl ⟨_, rfl, _, rfl, _, _, rfl, rfl, by omega, ?_⟩⟩
              refine k (spot + 1) _ _ _ (kp.trans .upd) (hp'.put hp'.s0 (fd0 ?_ hm1)) (by omega) (fm0 hm1) (fm1 hm1)
              have : ∀ b : Bool, (0 : Int) ≤ if b = true then 1 else 0 := by decide
              have := this (decide (c < 0))
              rw [e18] at hge ⊢
              omega
            · exact ⟨rfl, rfl⟩
          · exact iteF ⟨rfl, rfl⟩
        · rintro σ' H2 ⟨rfl, rfl⟩
          have b1 := fm0 (a := c) (b := 2147483543) (by decide)
          have b2 := fm1 (a := c) (b := 2147483543) (by decide)
          have z1 : (2147483543 : Int) ≠ 0 := by decide
          have z2 : (2147483563 : Int) ≠ 0 := by decide
          have z3 : (2147483629 : Int) ≠ 0 := by decide
          refine ⟨_, rfl, .inl ⟨_, rfl, _, _, rfl, rfl, z1, _, rfl, _, _, rfl, rfl, .inl ⟨by decide, by decide⟩, _, _, rfl, rfl, _, _, rfl, rfl, _, _, rfl, rfl, ⟨by decide, by decide, ?_⟩, .inl ⟨_, rfl, _, _, rfl, rfl, z2, ?_⟩⟩⟩
          · have : (c.fmod 2147483543 + 51116 * spot + 646).natAbs < 2 ^ 64 := by omega
            exact this
          · have c1 := fm0 (a := (c.fmod 2147483543 + 51116 * spot + 646) ^ (5 : Int).toNat) (b := 2147483563) (by decide)
            have c2 := fm1 (a := (c.fmod 2147483543 + 51116 * spot + 646) ^ (5 : Int).toNat) (b := 2147483563) (by decide)
            have d1 := mul_le (a := (((c.fmod 2147483543 + 51116 * spot + 646) ^ (5 : Int).toNat).fmod 2147483563)) (b := 2 * spot + 241) (m := 2147483563) (n := 2000241) c1 (by omega) (by omega) (by omega)
            have d2 := mul_le (a := 52950 * spot) (b := spot) (m := 52950000000) (n := 1000000) (by omega) (by omega) s0 hs
            refine ⟨_, rfl, _, rfl, _, _, rfl, rfl, .inl ⟨by decide, by decide⟩, _, _, rfl, rfl, _, _, rfl, rfl, .inl ⟨?_, ?_⟩, _, rfl, _, _, rfl, rfl, .inl ⟨by decide, by decide⟩, _, rfl, _, _, rfl, rfl, .inl ⟨?_, ?_⟩, _, _, rfl, rfl, _, _, rfl, rfl, _, _, rfl, rfl, ⟨by decide, by decide, ?_⟩, .inl ⟨_, rfl, _, _, rfl, rfl, z3, ?_⟩⟩
            · omega
            · omega
            · omega
            · omega
            · have : ((((c.fmod 2147483543 + 51116 * spot + 646) ^ (5 : Int).toNat).fmod 2147483563) * (2 * spot + 241) + 52950 * spot * spot + 460).natAbs < 2 ^ 64 := by omega
              exact this
            · refine ⟨_, rfl, _, _, rfl, rfl, ⟨by decide, by decide⟩, .inl ⟨_, rfl, _, rfl, _, _, rfl, rfl, by omega, ?_⟩⟩
              exact k (spot + 1) _ _ _ kp hp' (by omega) (fm0 hm1) (fm1 hm1)
end
end My


set_option Elab.async false
set_option linter.all false
set_option maxRecDepth 100000
set_option maxHeartbeats 4000000
namespace My
open PySem L2 MyErr EvLib Evl
theorem cut_ints (ns : List Int) (n : Nat) : ∃ ms : List Int, cutV (ns.map V.int) none (some (n : Int)) = ms.map V.int ∧ ms.length ≤ n := by
  refine ⟨ns.take n, ?_, by rw [List.length_take]; omega⟩
  unfold cutV
  show ((ns.map V.int).drop 0).take (HT.sIx (ns.map V.int).length (ns.map V.int).length (some (n : Int)) - 0) = _
  rw [List.drop_zero, Nat.sub_zero, List.map_take]
  have h : HT.sIx (ns.map V.int).length (ns.map V.int).length (some (n : Int)) = min n (ns.map V.int).length := by
    simp only [HT.sIx]
    split <;> omega
  rw [h]
  by_cases hl : n ≤ (ns.map V.int).length
  · rw [Nat.min_eq_left hl]
  · rw [Nat.min_eq_right (by omega), List.take_of_length_le (Nat.le_refl _), List.take_of_length_le (by omega)]
def spPen (K : PySem.W.Frag) : Sp := fun vs H Q _ => ∃ (a : Addr) (ns : List Int), vs = [.ref a] ∧ SqL K H a (ns.map V.int) ∧ ∀ (p l : Addr) (ms : List Int) (H' : Hp), Ex H H' → H p = none → PenAt H' p l ms 0 0 → Q (.ref p) H'
def spPick (K : PySem.W.Frag) : Sp := fun vs H Q _ => ∃ (p l : Addr) (ns : List Int) (spot great : Int) (q : Addr) (xs : List V), vs = [.ref p, .ref q] ∧ PenAt H p l ns spot great ∧ H q = some (.lst xs) ∧ q ≠ p ∧ 1 ≤ xs.length ∧ xs.length < 1000 ∧ spot ≤ 1000000 ∧
  ∀ (spot' great' : Int) (v : V) (H' : Hp), Keeps p H H' → PenAt H' p l ns spot' great' → spot' ≤ spot + 1 → v ∈ xs → Q v H'
section
variable {P : Program} {w : World} {K : PySem.W.Frag} {mg : Str → Option Value} {base : Heap}
theorem scPen : FnScope ["_law_script"] ["_law_script"] (defScope s_law_pen) := ⟨rfl, rfl, rfl, by decide +kernel, rfl, by decide +kernel, by decide +kernel⟩
theorem ok_pen {f : Addr} {fd : FuncData} (F : FnP K "_law_pen" s_law_pen f fd) (hl : mg "list" = none) : FnOk P w K mg base CX0 1 f fd ["_law_script"] (spPen K) := by
  refine F.ok scPen (fun vs H Q E h => ?_) (fun cdv A outer s H vs Q E hr h => ?_)
  · obtain ⟨a, ns, rfl, _⟩ := h
    rfl
  · obtain ⟨a, ns, rfl, hS, k⟩ := h
    refine ⟨_, PSs.nox (pss_one (ps_ret (pe_lst (pa_cons (pe_callTy call_list_of (by rfl) hl (by decide +kernel) (pa_cons (pe_slice sl_list (pv 0) po_none (po_some pe_int)) pa_nil)) (pa_cons pe_int (pa_cons pe_int pa_nil)))))), ?_⟩
    obtain ⟨ms, e, hm⟩ := cut_ints ns 59
    refine ⟨_, rfl, _, rfl, a, _, rfl, hS, fun s1 n1 => ?_⟩
    refine ⟨s1, _, rfl, .inl (SqL.of upd_same), fun l nl => ⟨by show 3 ≤ sizeLine; decide, fun p np => ?_⟩⟩
    have e' : cutV (ns.map V.int) none (some (59 : Int)) = ms.map V.int := e
    have nlp : l ≠ p := ne_of_none (upd_same) np
    have x1 : Ex H (upd (upd (upd H s1 (.lst (cutV (ns.map V.int) none (some 59)))) l (.lst (cutV (ns.map V.int) none (some 59)))) p (.lst [.ref l, .int 0, .int 0])) := ((Ex.new n1).trans (Ex.new nl)).trans (Ex.new np)
    refine k p l ms _ x1 ?_ ⟨upd_same, ?_, hm, by omega, by omega⟩
    · exact fresh_back ((Ex.new n1).trans (Ex.new nl)) np
    · rw [upd_ne nlp, upd_same, e']
theorem scPick : FnScope ["_law_pen_here", "_law_some"] ["_law_pen_here", "_law_some"] (defScope s_law_pick) := ⟨rfl, rfl, rfl, by decide +kernel, rfl, by decide +kernel, by decide +kernel⟩
theorem ok_pick {f fD : Addr} {fd fdD : FuncData} (F : FnP K "_law_pick" s_law_pick f fd) (FD : FnP K "_law_draw" s_law_draw fD fdD) (T : TxtD mg) (gD : mg "_law_draw" = some (.ref fD)) : FnOk P w K mg base CX0 2 f fd ["_law_pen_here", "_law_some"] (spPick K) := by
  have GD : FnOk P w K mg base CX0 1 fD fdD _ spDraw := ok_draw FD T
  have bD : Binds K fdD ["_law_pen_here", "_law_many"] [] := FD.bindsN fun _ _ _ _ _ _ us hl => match us, hl with | [_, _], _ => rfl
  refine F.ok scPick (fun vs H Q E h => ?_) (fun cdv A outer s H vs Q E hr h => ?_)
  · obtain ⟨p, l, ns, spot, great, q, xs, rfl, _⟩ := h
    rfl
  · obtain ⟨p, l, ns, spot, great, q, xs, rfl, hp, hq, hne, h1, h2, hs, k⟩ := h
    refine ⟨_, PSs.nox (pss_one (ps_ret (pe_ix ix_list (pv 1) (pe_call GD hr rfl gD FD.kp bD .nil pass0 (pa_cons (pv 0) (pa_cons (pe_callB call_len_seq (by rfl) T.len (by decide +kernel) (pa_cons (pv 1) pa_nil)) pa_nil))) (fun _ _ => rfl)))), ?_⟩
    refine ⟨_, rfl, _, rfl, _, rfl, q, xs, rfl, .inl (SqL.of hq), p, l, ns, spot, great, _, rfl, hp, by omega, by omega, hs, fun spot' great' r H' kp hp' hs' hr0 hr1 => ?_⟩
    obtain ⟨j, rfl⟩ : ∃ j : Nat, r = (j : Int) := ⟨r.toNat, by omega⟩
    have hj : j < xs.length := by omega
    exact ⟨q, xs, _, xs[j], rfl, rfl, SqL.of (kp q _ hq hne), atI_nat (List.getElem?_eq_getElem hj), k spot' great' _ H' kp hp' hs' (List.getElem_mem hj)⟩
end
end My


set_option Elab.async false
set_option linter.all false
set_option maxRecDepth 100000
set_option maxHeartbeats 4000000
namespace My
open PySem L2 MyErr EvLib Evl
theorem rv_keeps {H H' : Hp} {p : Addr} {y : V} {ys : List V} (hp : H p = some (.lst (y :: ys))) (k : Keeps p H H') {v : V} {t : Str} (h : RV H v t) : RV H' v t := by
  have ne : ∀ {a : Addr} {o : HO}, H a = some o → o ≠ .lst (y :: ys) → a ≠ p := fun {a o} e n z => by
    rw [z, hp] at e
    exact n (Option.some.inj e).symm
  cases h with
  | sv h => exact .sv h
  | tup e h hl => exact .tup (k _ _ e (ne e (fun z => nomatch z))) h hl
  | nilL e => exact .nilL (k _ _ e (ne e (fun z => by cases z)))
  | nilD e => exact .nilD (k _ _ e (ne e (fun z => nomatch z)))
theorem rv_ex {H H' : Hp} (k : Ex H H') {v : V} {t : Str} (h : RV H v t) : RV H' v t := by
  cases h with
  | sv h => exact .sv h
  | tup e h hl => exact .tup (k _ _ e) h hl
  | nilL e => exact .nilL (k _ _ e)
  | nilD e => exact .nilD (k _ _ e)
/-- a value of the menu -/
def MV (v : V) (H : Hp) : Prop := ∃ t : Str, RV H v t ∧ t.length ≤ 60
theorem mv_mono : Mono MV := fun v H H' e ⟨t, a, b⟩ => ⟨t, rv_ex e a, b⟩
def spValue : Sp := fun vs H Q _ => ∃ (p l : Addr) (ns : List Int) (spot great : Int), vs = [.ref p] ∧ PenAt H p l ns spot great ∧ spot ≤ 1000000 ∧
  ∀ (spot' great' : Int) (v : V) (H' : Hp), Keeps p H H' → PenAt H' p l ns spot' great' → spot' ≤ spot + 1 → MV v H' → Q v H'
theorem keeps_ex {p : Addr} {H H1 H2 : Hp} (e : Ex H H1) (k : Keeps p H1 H2) : Keeps p H H2 := fun a o h n => k a o (e a o h) n
theorem pen_ex {H H' : Hp} {p l : Addr} {ns : List Int} {s g : Int} (e : Ex H H') (h : PenAt H p l ns s g) : PenAt H' p l ns s g := ⟨e _ _ h.pen, e _ _ h.cel, h.len, h.s0, h.g0⟩
section
variable {P : Program} {w : World} {K : PySem.W.Frag} {mg : Str → Option Value} {base : Heap}
theorem scVal : FnScope ["_law_pen_here"] ["_law_pen_here"] (defScope s_law_value) := ⟨rfl, rfl, rfl, by decide +kernel, rfl, by decide +kernel, by decide +kernel⟩
theorem ok_value {f fP : Addr} {fd fdP : FuncData} (F : FnP K "_law_value" s_law_value f fd) (FP : FnP K "_law_pick" s_law_pick fP fdP) (GP : FnOk P w K mg base CX0 2 fP fdP ["_law_pen_here", "_law_some"] (spPick K)) (gP : mg "_law_pick" = some (.ref fP)) : FnOk P w K mg base CX0 3 f fd ["_law_pen_here"] spValue := by
  have bP : Binds K fdP ["_law_pen_here", "_law_some"] [] := FP.bindsN fun _ _ _ _ _ _ us hl => match us, hl with | [_, _], _ => rfl
  refine F.ok scVal (fun vs H Q E h => ?_) (fun cdv A outer s H vs Q E hr h => ?_)
  · obtain ⟨p, l, ns, spot, great, rfl, _⟩ := h
    rfl
  · obtain ⟨p, l, ns, spot, great, rfl, hp, hs, k⟩ := h
    refine ⟨_, PSs.nox (pss_one (ps_ret (pe_call GP hr rfl gP FP.kp bP .nil pass0 (pa_cons (pv 0) (pa_cons (pe_lst (pa_cons pe_non (pa_cons pe_bl (pa_cons pe_int (pa_cons (pe_un un_neg pe_int) (pa_cons (pe_op op_pow pe_int pe_int) (pa_cons pe_str (pa_cons pe_str (pa_cons pe_str (pa_cons (pe_tup pa_nil) (pa_cons (pe_tup (pa_cons pe_str (pa_cons pe_int pa_nil))) (pa_cons (pe_lst pa_nil) (pa_cons pe_dnewK (pa_cons pe_bl pa_nil)))))))))))))) pa_nil))))), ?_⟩
    refine ⟨_, rfl, _, rfl, _, _, rfl, rfl, ⟨by decide, by decide, by decide⟩, Nat.zero_le _, fun t1 n1 => ⟨by show 2 ≤ sizeLine; decide, fun t2 n2 => ⟨Nat.zero_le _, fun t3 n3 => fun t4 n4 => ⟨by show 13 ≤ sizeLine; decide, fun q nq => ?_⟩⟩⟩⟩
    have x1 := Ex.new (o := .tup []) n1
    have x2 := Ex.new (o := .tup [.str "a", .int 1]) n2
    have x3 := Ex.new (o := .lst []) n3
    have x4 := Ex.new (o := .dK []) n4
    have x5 := Ex.new (o := .lst [.non, .bl true, .int 0, .int (-1), .int (10 ^ (39 : Int).toNat), .str "", .str "a", .str "two words", .ref t1, .ref t2, .ref t3, .ref t4, .bl false]) nq
    have xx := (((x1.trans x2).trans x3).trans x4).trans x5
    have hqp : q ≠ p := fun z => by
      rw [z] at nq
      have := (((x1.trans x2).trans x3).trans x4) p _ hp.pen
      rw [this] at nq
      cases nq
    refine ⟨p, l, ns, spot, great, q, _, rfl, pen_ex xx hp, upd_same, hqp, by show 1 ≤ 13; decide, by show 13 < 1000; decide, hs, fun spot' great' v H' kp hp' hs' hv => ?_⟩
    refine k spot' great' v H' (keeps_ex xx kp) hp' hs' ?_
    have nt : ∀ {a : Addr} {o : HO}, upd (upd (upd (upd (upd H t1 (.tup [])) t2 (.tup [.str "a", .int 1])) t3 (.lst [])) t4 (.dK [])) q (.lst [.non, .bl true, .int 0, .int (-1), .int (10 ^ (39 : Int).toNat), .str "", .str "a", .str "two words", .ref t1, .ref t2, .ref t3, .ref t4, .bl false]) a = some o → (∀ y ys, o ≠ .lst (y :: ys)) → H' a = some o := fun {a o} e n => kp a o e (fun z => by
      have pe := (pen_ex xx hp).pen
      rw [z] at e
      exact n _ _ (Option.some.inj (e.symm.trans pe)))
    have e1 := nt (x5 t1 _ (x4 t1 _ (x3 t1 _ (x2 t1 _ upd_same)))) (fun _ _ z => nomatch z)
    have e2 := nt (x5 t2 _ (x4 t2 _ (x3 t2 _ upd_same))) (fun _ _ z => nomatch z)
    have e3 := nt (x5 t3 _ (x4 t3 _ upd_same)) (fun _ _ z => by cases z)
    have e4 := nt (x5 t4 _ upd_same) (fun _ _ z => nomatch z)
    simp only [List.mem_cons, List.not_mem_nil, or_false] at hv
    rcases hv with rfl | rfl | rfl | rfl | rfl | rfl | rfl | rfl | rfl | rfl | rfl | rfl | rfl
    · exact ⟨_, .sv .non, by decide +kernel⟩
    · exact ⟨_, .sv (.bl true), by decide +kernel⟩
    · exact ⟨_, .sv (.int 0 (by decide +kernel)), by decide +kernel⟩
    · exact ⟨_, .sv (.int (-1) (by decide +kernel)), by decide +kernel⟩
    · exact ⟨_, .sv (.int (10 ^ (39 : Int).toNat) (by decide +kernel)), by decide +kernel⟩
    · exact ⟨_, .sv (.str "" (by decide +kernel)), by decide +kernel⟩
    · exact ⟨_, .sv (.str "a" (by decide +kernel)), by decide +kernel⟩
    · exact ⟨_, .sv (.str "two words" (by decide +kernel)), by decide +kernel⟩
    · exact ⟨_, .tup e1 .nil (by decide +kernel), by decide +kernel⟩
    · exact ⟨_, .tup e2 (.cons (.str "a" (by decide +kernel)) (.cons (.int 1 (by decide +kernel)) .nil)) (by decide +kernel), by decide +kernel⟩
    · exact ⟨_, .nilL e3, by decide +kernel⟩
    · exact ⟨_, .nilD e4, by decide +kernel⟩
    · exact ⟨_, .sv (.bl false), by decide +kernel⟩
end
end My


set_option Elab.async false
set_option linter.all false
set_option maxRecDepth 100000
set_option maxHeartbeats 4000000
namespace My
open PySem PySem.W PySem.Calls PyProof.Rows L2 MyErr MyHead EvLib
/-- an own error with one field: made by position, by keyword -/
structure E1 (P : Program) (w : World) (K : Frag) (mg : Str → Option Value) (base : Heap) (C : Addr) (cn fl : Str) (fd : FuncData) : Prop where
  made : ErrMk P w K mg base C fd [fl]
  gl : mg cn = some (.ref C)
  kp : keepIn K (.ref C) = true
  ei : EI K C
  no : findIn K (.ref C) fl = some none
  bP : EBinds fd [fl] [] (fun us _ => us) (fun vs _ => vs) 1 0
  bK : EBinds fd [fl] [fl] (fun _ ws => ws) (fun _ zs => zs) 0 1
structure E2 (P : Program) (w : World) (K : Frag) (mg : Str → Option Value) (base : Heap) (C : Addr) (cn fl fm : Str) (fd : FuncData) : Prop where
  made : ErrMk P w K mg base C fd [fl, fm]
  gl : mg cn = some (.ref C)
  kp : keepIn K (.ref C) = true
  ei : EI K C
  no : findIn K (.ref C) fl = some none
  nm : findIn K (.ref C) fm = some none
  bK : EBinds fd [fl, fm] [fm, fl] (fun _ ws => ws.reverse) (fun _ zs => zs.reverse) 0 2
  bM : EBinds fd [fl, fm] [fm] (fun us ws => us ++ ws) (fun vs zs => vs ++ zs) 1 1
structure E0 (P : Program) (w : World) (K : Frag) (mg : Str → Option Value) (base : Heap) (C : Addr) (cn : Str) : Prop where
  made : ErrMk0 P w K mg base C
  gl : mg cn = some (.ref C)
  kp : keepIn K (.ref C) = true
  ei : EI K C
theorem rel_p {vs zs : List V} {us ws : List Value} {fl : Str} (h1 : vs.length = 1) (h2 : zs.length = 0) (a : Vals vs us) (b : Vals zs ws) : Vals ((fun vs _ => vs) vs zs) ((fun us _ => us) us ws) ∧ ((fun vs _ => vs) vs zs).length = [fl].length := ⟨a, h1⟩
section
variable {P : Program} {w : World} {K : Frag} {mg : Str → Option Value} {base : Heap} {h : Heap} {cda cc : Addr} {kV doc pm ct : Value} {an : Option Addr}
theorem u_BadName (hh : K.In h) (G : h.Ns mainGlobals mg) (hsup : mg "super" = none) (M0 : Mod K mg base) (k : ErrK PySem.Challenge.pw_filledrow_k01_errors_and_their_fields K e_BadName cda cc kV doc pm an ct) : E1 PySem.Challenge.pw_filledrow_k01_errors_and_their_fields w K mg base (e_BadName.C K) "BadName" "value" (ksFn "__init__" e_BadName.qual e_BadName.params e_BadName.body e_BadName.scope .none kV doc pm an (.ref cda) ct cc) where
  made := mk1 (p5 := ⟨0, 0, 0, 0⟩) (fl := "value") k.ec k.iC k.tI k.cd hsup M0 k.sa (k.no _ (List.mem_cons_self ..)) (by decide) (by decide) (by decide) (by decide) ⟨fun _ => rfl, fun _ => rfl, fun _ => rfl, fun _ => rfl, fun _ => rfl⟩ (fun _ => rfl)
  gl := mg_of hh G k.gl
  kp := k.kp
  ei := k.ei
  no := k.no _ (List.mem_cons_self ..)
  bP := ⟨fun s x us ws h1 h2 => match us, ws, h1, h2 with | [v], [], _, _ => .of_eq rfl, fun h1 h2 a b => ⟨a, h1⟩, by decide⟩
  bK := ⟨fun s x us ws h1 h2 => match us, ws, h1, h2 with | [], [v], _, _ => .of_eq rfl, fun h1 h2 a b => ⟨b, h2⟩, by decide⟩
theorem u_BadAmount (hh : K.In h) (G : h.Ns mainGlobals mg) (hsup : mg "super" = none) (M0 : Mod K mg base) (k : ErrK PySem.Challenge.pw_filledrow_k01_errors_and_their_fields K e_BadAmount cda cc kV doc pm an ct) : E1 PySem.Challenge.pw_filledrow_k01_errors_and_their_fields w K mg base (e_BadAmount.C K) "BadAmount" "value" (ksFn "__init__" e_BadAmount.qual e_BadAmount.params e_BadAmount.body e_BadAmount.scope .none kV doc pm an (.ref cda) ct cc) where
  made := mk1 (p5 := ⟨0, 0, 0, 0⟩) (fl := "value") k.ec k.iC k.tI k.cd hsup M0 k.sa (k.no _ (List.mem_cons_self ..)) (by decide) (by decide) (by decide) (by decide) ⟨fun _ => rfl, fun _ => rfl, fun _ => rfl, fun _ => rfl, fun _ => rfl⟩ (fun _ => rfl)
  gl := mg_of hh G k.gl
  kp := k.kp
  ei := k.ei
  no := k.no _ (List.mem_cons_self ..)
  bP := ⟨fun s x us ws h1 h2 => match us, ws, h1, h2 with | [v], [], _, _ => .of_eq rfl, fun h1 h2 a b => ⟨a, h1⟩, by decide⟩
  bK := ⟨fun s x us ws h1 h2 => match us, ws, h1, h2 with | [], [v], _, _ => .of_eq rfl, fun h1 h2 a b => ⟨b, h2⟩, by decide⟩
theorem u_BadWorth (hh : K.In h) (G : h.Ns mainGlobals mg) (hsup : mg "super" = none) (M0 : Mod K mg base) (k : ErrK PySem.Challenge.pw_filledrow_k01_errors_and_their_fields K e_BadWorth cda cc kV doc pm an ct) : E1 PySem.Challenge.pw_filledrow_k01_errors_and_their_fields w K mg base (e_BadWorth.C K) "BadWorth" "value" (ksFn "__init__" e_BadWorth.qual e_BadWorth.params e_BadWorth.body e_BadWorth.scope .none kV doc pm an (.ref cda) ct cc) where
  made := mk1 (p5 := ⟨0, 0, 0, 0⟩) (fl := "value") k.ec k.iC k.tI k.cd hsup M0 k.sa (k.no _ (List.mem_cons_self ..)) (by decide) (by decide) (by decide) (by decide) ⟨fun _ => rfl, fun _ => rfl, fun _ => rfl, fun _ => rfl, fun _ => rfl⟩ (fun _ => rfl)
  gl := mg_of hh G k.gl
  kp := k.kp
  ei := k.ei
  no := k.no _ (List.mem_cons_self ..)
  bP := ⟨fun s x us ws h1 h2 => match us, ws, h1, h2 with | [v], [], _, _ => .of_eq rfl, fun h1 h2 a b => ⟨a, h1⟩, by decide⟩
  bK := ⟨fun s x us ws h1 h2 => match us, ws, h1, h2 with | [], [v], _, _ => .of_eq rfl, fun h1 h2 a b => ⟨b, h2⟩, by decide⟩
theorem u_BadTable (hh : K.In h) (G : h.Ns mainGlobals mg) (hsup : mg "super" = none) (M0 : Mod K mg base) (k : ErrK PySem.Challenge.pw_filledrow_k01_errors_and_their_fields K e_BadTable cda cc kV doc pm an ct) : E1 PySem.Challenge.pw_filledrow_k01_errors_and_their_fields w K mg base (e_BadTable.C K) "BadTable" "part" (ksFn "__init__" e_BadTable.qual e_BadTable.params e_BadTable.body e_BadTable.scope .none kV doc pm an (.ref cda) ct cc) where
  made := mk1 (p5 := ⟨0, 0, 0, 0⟩) (fl := "part") k.ec k.iC k.tI k.cd hsup M0 k.sa (k.no _ (List.mem_cons_self ..)) (by decide) (by decide) (by decide) (by decide) ⟨fun _ => rfl, fun _ => rfl, fun _ => rfl, fun _ => rfl, fun _ => rfl⟩ (fun _ => rfl)
  gl := mg_of hh G k.gl
  kp := k.kp
  ei := k.ei
  no := k.no _ (List.mem_cons_self ..)
  bP := ⟨fun s x us ws h1 h2 => match us, ws, h1, h2 with | [v], [], _, _ => .of_eq rfl, fun h1 h2 a b => ⟨a, h1⟩, by decide⟩
  bK := ⟨fun s x us ws h1 h2 => match us, ws, h1, h2 with | [], [v], _, _ => .of_eq rfl, fun h1 h2 a b => ⟨b, h2⟩, by decide⟩
theorem u_BadSide (hh : K.In h) (G : h.Ns mainGlobals mg) (hsup : mg "super" = none) (M0 : Mod K mg base) (k : ErrK PySem.Challenge.pw_filledrow_k01_errors_and_their_fields K e_BadSide cda cc kV doc pm an ct) : E1 PySem.Challenge.pw_filledrow_k01_errors_and_their_fields w K mg base (e_BadSide.C K) "BadSide" "part" (ksFn "__init__" e_BadSide.qual e_BadSide.params e_BadSide.body e_BadSide.scope .none kV doc pm an (.ref cda) ct cc) where
  made := mk1 (p5 := ⟨0, 0, 0, 0⟩) (fl := "part") k.ec k.iC k.tI k.cd hsup M0 k.sa (k.no _ (List.mem_cons_self ..)) (by decide) (by decide) (by decide) (by decide) ⟨fun _ => rfl, fun _ => rfl, fun _ => rfl, fun _ => rfl, fun _ => rfl⟩ (fun _ => rfl)
  gl := mg_of hh G k.gl
  kp := k.kp
  ei := k.ei
  no := k.no _ (List.mem_cons_self ..)
  bP := ⟨fun s x us ws h1 h2 => match us, ws, h1, h2 with | [v], [], _, _ => .of_eq rfl, fun h1 h2 a b => ⟨a, h1⟩, by decide⟩
  bK := ⟨fun s x us ws h1 h2 => match us, ws, h1, h2 with | [], [v], _, _ => .of_eq rfl, fun h1 h2 a b => ⟨b, h2⟩, by decide⟩
theorem u_BadFilling (hh : K.In h) (G : h.Ns mainGlobals mg) (hsup : mg "super" = none) (M0 : Mod K mg base) (k : ErrK PySem.Challenge.pw_filledrow_k01_errors_and_their_fields K e_BadFilling cda cc kV doc pm an ct) : E1 PySem.Challenge.pw_filledrow_k01_errors_and_their_fields w K mg base (e_BadFilling.C K) "BadFilling" "part" (ksFn "__init__" e_BadFilling.qual e_BadFilling.params e_BadFilling.body e_BadFilling.scope .none kV doc pm an (.ref cda) ct cc) where
  made := mk1 (p5 := ⟨0, 0, 0, 0⟩) (fl := "part") k.ec k.iC k.tI k.cd hsup M0 k.sa (k.no _ (List.mem_cons_self ..)) (by decide) (by decide) (by decide) (by decide) ⟨fun _ => rfl, fun _ => rfl, fun _ => rfl, fun _ => rfl, fun _ => rfl⟩ (fun _ => rfl)
  gl := mg_of hh G k.gl
  kp := k.kp
  ei := k.ei
  no := k.no _ (List.mem_cons_self ..)
  bP := ⟨fun s x us ws h1 h2 => match us, ws, h1, h2 with | [v], [], _, _ => .of_eq rfl, fun h1 h2 a b => ⟨a, h1⟩, by decide⟩
  bK := ⟨fun s x us ws h1 h2 => match us, ws, h1, h2 with | [], [v], _, _ => .of_eq rfl, fun h1 h2 a b => ⟨b, h2⟩, by decide⟩
theorem u_BadPair (hh : K.In h) (G : h.Ns mainGlobals mg) (hsup : mg "super" = none) (M0 : Mod K mg base) (k : ErrK PySem.Challenge.pw_filledrow_k01_errors_and_their_fields K e_BadPair cda cc kV doc pm an ct) : E1 PySem.Challenge.pw_filledrow_k01_errors_and_their_fields w K mg base (e_BadPair.C K) "BadPair" "value" (ksFn "__init__" e_BadPair.qual e_BadPair.params e_BadPair.body e_BadPair.scope .none kV doc pm an (.ref cda) ct cc) where
  made := mk1 (p5 := ⟨0, 0, 0, 0⟩) (fl := "value") k.ec k.iC k.tI k.cd hsup M0 k.sa (k.no _ (List.mem_cons_self ..)) (by decide) (by decide) (by decide) (by decide) ⟨fun _ => rfl, fun _ => rfl, fun _ => rfl, fun _ => rfl, fun _ => rfl⟩ (fun _ => rfl)
  gl := mg_of hh G k.gl
  kp := k.kp
  ei := k.ei
  no := k.no _ (List.mem_cons_self ..)
  bP := ⟨fun s x us ws h1 h2 => match us, ws, h1, h2 with | [v], [], _, _ => .of_eq rfl, fun h1 h2 a b => ⟨a, h1⟩, by decide⟩
  bK := ⟨fun s x us ws h1 h2 => match us, ws, h1, h2 with | [], [v], _, _ => .of_eq rfl, fun h1 h2 a b => ⟨b, h2⟩, by decide⟩
theorem u_BadOrder (hh : K.In h) (G : h.Ns mainGlobals mg) (hsup : mg "super" = none) (M0 : Mod K mg base) (k : ErrK PySem.Challenge.pw_filledrow_k01_errors_and_their_fields K e_BadOrder cda cc kV doc pm an ct) : E1 PySem.Challenge.pw_filledrow_k01_errors_and_their_fields w K mg base (e_BadOrder.C K) "BadOrder" "part" (ksFn "__init__" e_BadOrder.qual e_BadOrder.params e_BadOrder.body e_BadOrder.scope .none kV doc pm an (.ref cda) ct cc) where
  made := mk1 (p5 := ⟨0, 0, 0, 0⟩) (fl := "part") k.ec k.iC k.tI k.cd hsup M0 k.sa (k.no _ (List.mem_cons_self ..)) (by decide) (by decide) (by decide) (by decide) ⟨fun _ => rfl, fun _ => rfl, fun _ => rfl, fun _ => rfl, fun _ => rfl⟩ (fun _ => rfl)
  gl := mg_of hh G k.gl
  kp := k.kp
  ei := k.ei
  no := k.no _ (List.mem_cons_self ..)
  bP := ⟨fun s x us ws h1 h2 => match us, ws, h1, h2 with | [v], [], _, _ => .of_eq rfl, fun h1 h2 a b => ⟨a, h1⟩, by decide⟩
  bK := ⟨fun s x us ws h1 h2 => match us, ws, h1, h2 with | [], [v], _, _ => .of_eq rfl, fun h1 h2 a b => ⟨b, h2⟩, by decide⟩
theorem u_BadBars (hh : K.In h) (G : h.Ns mainGlobals mg) (hsup : mg "super" = none) (M0 : Mod K mg base) (k : ErrK PySem.Challenge.pw_filledrow_k01_errors_and_their_fields K e_BadBars cda cc kV doc pm an ct) : E1 PySem.Challenge.pw_filledrow_k01_errors_and_their_fields w K mg base (e_BadBars.C K) "BadBars" "part" (ksFn "__init__" e_BadBars.qual e_BadBars.params e_BadBars.body e_BadBars.scope .none kV doc pm an (.ref cda) ct cc) where
  made := mk1 (p5 := ⟨0, 0, 0, 0⟩) (fl := "part") k.ec k.iC k.tI k.cd hsup M0 k.sa (k.no _ (List.mem_cons_self ..)) (by decide) (by decide) (by decide) (by decide) ⟨fun _ => rfl, fun _ => rfl, fun _ => rfl, fun _ => rfl, fun _ => rfl⟩ (fun _ => rfl)
  gl := mg_of hh G k.gl
  kp := k.kp
  ei := k.ei
  no := k.no _ (List.mem_cons_self ..)
  bP := ⟨fun s x us ws h1 h2 => match us, ws, h1, h2 with | [v], [], _, _ => .of_eq rfl, fun h1 h2 a b => ⟨a, h1⟩, by decide⟩
  bK := ⟨fun s x us ws h1 h2 => match us, ws, h1, h2 with | [], [v], _, _ => .of_eq rfl, fun h1 h2 a b => ⟨b, h2⟩, by decide⟩
theorem u_BadSeen (hh : K.In h) (G : h.Ns mainGlobals mg) (hsup : mg "super" = none) (M0 : Mod K mg base) (k : ErrK PySem.Challenge.pw_filledrow_k01_errors_and_their_fields K e_BadSeen cda cc kV doc pm an ct) : E1 PySem.Challenge.pw_filledrow_k01_errors_and_their_fields w K mg base (e_BadSeen.C K) "BadSeen" "part" (ksFn "__init__" e_BadSeen.qual e_BadSeen.params e_BadSeen.body e_BadSeen.scope .none kV doc pm an (.ref cda) ct cc) where
  made := mk1 (p5 := ⟨0, 0, 0, 0⟩) (fl := "part") k.ec k.iC k.tI k.cd hsup M0 k.sa (k.no _ (List.mem_cons_self ..)) (by decide) (by decide) (by decide) (by decide) ⟨fun _ => rfl, fun _ => rfl, fun _ => rfl, fun _ => rfl, fun _ => rfl⟩ (fun _ => rfl)
  gl := mg_of hh G k.gl
  kp := k.kp
  ei := k.ei
  no := k.no _ (List.mem_cons_self ..)
  bP := ⟨fun s x us ws h1 h2 => match us, ws, h1, h2 with | [v], [], _, _ => .of_eq rfl, fun h1 h2 a b => ⟨a, h1⟩, by decide⟩
  bK := ⟨fun s x us ws h1 h2 => match us, ws, h1, h2 with | [], [v], _, _ => .of_eq rfl, fun h1 h2 a b => ⟨b, h2⟩, by decide⟩
theorem u_BadOffer (hh : K.In h) (G : h.Ns mainGlobals mg) (hsup : mg "super" = none) (M0 : Mod K mg base) (k : ErrK PySem.Challenge.pw_filledrow_k01_errors_and_their_fields K e_BadOffer cda cc kV doc pm an ct) : E1 PySem.Challenge.pw_filledrow_k01_errors_and_their_fields w K mg base (e_BadOffer.C K) "BadOffer" "part" (ksFn "__init__" e_BadOffer.qual e_BadOffer.params e_BadOffer.body e_BadOffer.scope .none kV doc pm an (.ref cda) ct cc) where
  made := mk1 (p5 := ⟨0, 0, 0, 0⟩) (fl := "part") k.ec k.iC k.tI k.cd hsup M0 k.sa (k.no _ (List.mem_cons_self ..)) (by decide) (by decide) (by decide) (by decide) ⟨fun _ => rfl, fun _ => rfl, fun _ => rfl, fun _ => rfl, fun _ => rfl⟩ (fun _ => rfl)
  gl := mg_of hh G k.gl
  kp := k.kp
  ei := k.ei
  no := k.no _ (List.mem_cons_self ..)
  bP := ⟨fun s x us ws h1 h2 => match us, ws, h1, h2 with | [v], [], _, _ => .of_eq rfl, fun h1 h2 a b => ⟨a, h1⟩, by decide⟩
  bK := ⟨fun s x us ws h1 h2 => match us, ws, h1, h2 with | [], [v], _, _ => .of_eq rfl, fun h1 h2 a b => ⟨b, h2⟩, by decide⟩
theorem u_BadRule (hh : K.In h) (G : h.Ns mainGlobals mg) (hsup : mg "super" = none) (M0 : Mod K mg base) (k : ErrK PySem.Challenge.pw_filledrow_k01_errors_and_their_fields K e_BadRule cda cc kV doc pm an ct) : E1 PySem.Challenge.pw_filledrow_k01_errors_and_their_fields w K mg base (e_BadRule.C K) "BadRule" "part" (ksFn "__init__" e_BadRule.qual e_BadRule.params e_BadRule.body e_BadRule.scope .none kV doc pm an (.ref cda) ct cc) where
  made := mk1 (p5 := ⟨0, 0, 0, 0⟩) (fl := "part") k.ec k.iC k.tI k.cd hsup M0 k.sa (k.no _ (List.mem_cons_self ..)) (by decide) (by decide) (by decide) (by decide) ⟨fun _ => rfl, fun _ => rfl, fun _ => rfl, fun _ => rfl, fun _ => rfl⟩ (fun _ => rfl)
  gl := mg_of hh G k.gl
  kp := k.kp
  ei := k.ei
  no := k.no _ (List.mem_cons_self ..)
  bP := ⟨fun s x us ws h1 h2 => match us, ws, h1, h2 with | [v], [], _, _ => .of_eq rfl, fun h1 h2 a b => ⟨a, h1⟩, by decide⟩
  bK := ⟨fun s x us ws h1 h2 => match us, ws, h1, h2 with | [], [v], _, _ => .of_eq rfl, fun h1 h2 a b => ⟨b, h2⟩, by decide⟩
theorem u_BadDay (hh : K.In h) (G : h.Ns mainGlobals mg) (hsup : mg "super" = none) (M0 : Mod K mg base) (k : ErrK PySem.Challenge.pw_filledrow_k01_errors_and_their_fields K e_BadDay cda cc kV doc pm an ct) : E1 PySem.Challenge.pw_filledrow_k01_errors_and_their_fields w K mg base (e_BadDay.C K) "BadDay" "value" (ksFn "__init__" e_BadDay.qual e_BadDay.params e_BadDay.body e_BadDay.scope .none kV doc pm an (.ref cda) ct cc) where
  made := mk1 (p5 := ⟨0, 0, 0, 0⟩) (fl := "value") k.ec k.iC k.tI k.cd hsup M0 k.sa (k.no _ (List.mem_cons_self ..)) (by decide) (by decide) (by decide) (by decide) ⟨fun _ => rfl, fun _ => rfl, fun _ => rfl, fun _ => rfl, fun _ => rfl⟩ (fun _ => rfl)
  gl := mg_of hh G k.gl
  kp := k.kp
  ei := k.ei
  no := k.no _ (List.mem_cons_self ..)
  bP := ⟨fun s x us ws h1 h2 => match us, ws, h1, h2 with | [v], [], _, _ => .of_eq rfl, fun h1 h2 a b => ⟨a, h1⟩, by decide⟩
  bK := ⟨fun s x us ws h1 h2 => match us, ws, h1, h2 with | [], [v], _, _ => .of_eq rfl, fun h1 h2 a b => ⟨b, h2⟩, by decide⟩
theorem u_BadLedger (hh : K.In h) (G : h.Ns mainGlobals mg) (hsup : mg "super" = none) (M0 : Mod K mg base) (k : ErrK PySem.Challenge.pw_filledrow_k01_errors_and_their_fields K e_BadLedger cda cc kV doc pm an ct) : E1 PySem.Challenge.pw_filledrow_k01_errors_and_their_fields w K mg base (e_BadLedger.C K) "BadLedger" "part" (ksFn "__init__" e_BadLedger.qual e_BadLedger.params e_BadLedger.body e_BadLedger.scope .none kV doc pm an (.ref cda) ct cc) where
  made := mk1 (p5 := ⟨0, 0, 0, 0⟩) (fl := "part") k.ec k.iC k.tI k.cd hsup M0 k.sa (k.no _ (List.mem_cons_self ..)) (by decide) (by decide) (by decide) (by decide) ⟨fun _ => rfl, fun _ => rfl, fun _ => rfl, fun _ => rfl, fun _ => rfl⟩ (fun _ => rfl)
  gl := mg_of hh G k.gl
  kp := k.kp
  ei := k.ei
  no := k.no _ (List.mem_cons_self ..)
  bP := ⟨fun s x us ws h1 h2 => match us, ws, h1, h2 with | [v], [], _, _ => .of_eq rfl, fun h1 h2 a b => ⟨a, h1⟩, by decide⟩
  bK := ⟨fun s x us ws h1 h2 => match us, ws, h1, h2 with | [], [v], _, _ => .of_eq rfl, fun h1 h2 a b => ⟨b, h2⟩, by decide⟩
theorem u_BadText (hh : K.In h) (G : h.Ns mainGlobals mg) (hsup : mg "super" = none) (M0 : Mod K mg base) (k : ErrK PySem.Challenge.pw_filledrow_k01_errors_and_their_fields K e_BadText cda cc kV doc pm an ct) : E2 PySem.Challenge.pw_filledrow_k01_errors_and_their_fields w K mg base (e_BadText.C K) "BadText" "line" "word" (ksFn "__init__" e_BadText.qual e_BadText.params e_BadText.body e_BadText.scope .none kV doc pm an (.ref cda) ct cc) where
  made := mk2 (p5 := ⟨0, 0, 0, 0⟩) (fl := "line") (fm := "word") k.ec k.iC k.tI k.cd hsup M0 k.sa (k.no _ (List.mem_cons_self ..)) (k.no _ (List.mem_cons_of_mem _ (List.mem_cons_self ..))) rfl rfl rfl rfl rfl (by decide) (by decide) (by decide) (by decide) (by decide) (by decide) ⟨fun _ => rfl, fun _ => rfl, fun _ => rfl, fun _ => rfl, fun _ => rfl⟩ (fun _ => rfl) (fun _ => rfl)
  gl := mg_of hh G k.gl
  kp := k.kp
  ei := k.ei
  no := k.no _ (List.mem_cons_self ..)
  nm := k.no _ (List.mem_cons_of_mem _ (List.mem_cons_self ..))
  bK := ⟨fun s x us ws h1 h2 => match us, ws, h1, h2 with | [], [v, u], _, _ => .of_eq rfl, fun {vs us zs ws} h1 h2 a b => match zs, ws, h2, b with | [_, _], _, _, .cons r (.cons q .nil) => ⟨.cons q (.cons r .nil), rfl⟩, by decide⟩
  bM := ⟨fun s x us ws h1 h2 => match us, ws, h1, h2 with | [v], [u], _, _ => .of_eq rfl, fun {vs us zs ws} h1 h2 a b => ⟨a.append b, by rw [List.length_append, h1, h2]; rfl⟩, by decide⟩
theorem u_BadLine (hh : K.In h) (G : h.Ns mainGlobals mg) (hsup : mg "super" = none) (M0 : Mod K mg base) (k : ErrK PySem.Challenge.pw_filledrow_k01_errors_and_their_fields K e_BadLine cda cc kV doc pm an ct) : E1 PySem.Challenge.pw_filledrow_k01_errors_and_their_fields w K mg base (e_BadLine.C K) "BadLine" "word" (ksFn "__init__" e_BadLine.qual e_BadLine.params e_BadLine.body e_BadLine.scope .none kV doc pm an (.ref cda) ct cc) where
  made := mk1 (p5 := ⟨0, 0, 0, 0⟩) (fl := "word") k.ec k.iC k.tI k.cd hsup M0 k.sa (k.no _ (List.mem_cons_self ..)) (by decide) (by decide) (by decide) (by decide) ⟨fun _ => rfl, fun _ => rfl, fun _ => rfl, fun _ => rfl, fun _ => rfl⟩ (fun _ => rfl)
  gl := mg_of hh G k.gl
  kp := k.kp
  ei := k.ei
  no := k.no _ (List.mem_cons_self ..)
  bP := ⟨fun s x us ws h1 h2 => match us, ws, h1, h2 with | [v], [], _, _ => .of_eq rfl, fun h1 h2 a b => ⟨a, h1⟩, by decide⟩
  bK := ⟨fun s x us ws h1 h2 => match us, ws, h1, h2 with | [], [v], _, _ => .of_eq rfl, fun h1 h2 a b => ⟨b, h2⟩, by decide⟩
theorem u_NoName (hh : K.In h) (G : h.Ns mainGlobals mg) (hsup : mg "super" = none) (M0 : Mod K mg base) (k : ErrK PySem.Challenge.pw_filledrow_k01_errors_and_their_fields K e_NoName cda cc kV doc pm an ct) : E1 PySem.Challenge.pw_filledrow_k01_errors_and_their_fields w K mg base (e_NoName.C K) "NoName" "name" (ksFn "__init__" e_NoName.qual e_NoName.params e_NoName.body e_NoName.scope .none kV doc pm an (.ref cda) ct cc) where
  made := mk1 (p5 := ⟨0, 0, 0, 0⟩) (fl := "name") k.ec k.iC k.tI k.cd hsup M0 k.sa (k.no _ (List.mem_cons_self ..)) (by decide) (by decide) (by decide) (by decide) ⟨fun _ => rfl, fun _ => rfl, fun _ => rfl, fun _ => rfl, fun _ => rfl⟩ (fun _ => rfl)
  gl := mg_of hh G k.gl
  kp := k.kp
  ei := k.ei
  no := k.no _ (List.mem_cons_self ..)
  bP := ⟨fun s x us ws h1 h2 => match us, ws, h1, h2 with | [v], [], _, _ => .of_eq rfl, fun h1 h2 a b => ⟨a, h1⟩, by decide⟩
  bK := ⟨fun s x us ws h1 h2 => match us, ws, h1, h2 with | [], [v], _, _ => .of_eq rfl, fun h1 h2 a b => ⟨b, h2⟩, by decide⟩
theorem u_NoPair (hh : K.In h) (G : h.Ns mainGlobals mg) (hsup : mg "super" = none) (M0 : Mod K mg base) (k : ErrK PySem.Challenge.pw_filledrow_k01_errors_and_their_fields K e_NoPair cda cc kV doc pm an ct) : E1 PySem.Challenge.pw_filledrow_k01_errors_and_their_fields w K mg base (e_NoPair.C K) "NoPair" "pair" (ksFn "__init__" e_NoPair.qual e_NoPair.params e_NoPair.body e_NoPair.scope .none kV doc pm an (.ref cda) ct cc) where
  made := mk1 (p5 := ⟨0, 0, 0, 0⟩) (fl := "pair") k.ec k.iC k.tI k.cd hsup M0 k.sa (k.no _ (List.mem_cons_self ..)) (by decide) (by decide) (by decide) (by decide) ⟨fun _ => rfl, fun _ => rfl, fun _ => rfl, fun _ => rfl, fun _ => rfl⟩ (fun _ => rfl)
  gl := mg_of hh G k.gl
  kp := k.kp
  ei := k.ei
  no := k.no _ (List.mem_cons_self ..)
  bP := ⟨fun s x us ws h1 h2 => match us, ws, h1, h2 with | [v], [], _, _ => .of_eq rfl, fun h1 h2 a b => ⟨a, h1⟩, by decide⟩
  bK := ⟨fun s x us ws h1 h2 => match us, ws, h1, h2 with | [], [v], _, _ => .of_eq rfl, fun h1 h2 a b => ⟨b, h2⟩, by decide⟩
theorem u_Lacking (hh : K.In h) (G : h.Ns mainGlobals mg) (hsup : mg "super" = none) (M0 : Mod K mg base) (k : ErrK PySem.Challenge.pw_filledrow_k01_errors_and_their_fields K e_Lacking cda cc kV doc pm an ct) : E1 PySem.Challenge.pw_filledrow_k01_errors_and_their_fields w K mg base (e_Lacking.C K) "Lacking" "name" (ksFn "__init__" e_Lacking.qual e_Lacking.params e_Lacking.body e_Lacking.scope .none kV doc pm an (.ref cda) ct cc) where
  made := mk1 (p5 := ⟨0, 0, 0, 0⟩) (fl := "name") k.ec k.iC k.tI k.cd hsup M0 k.sa (k.no _ (List.mem_cons_self ..)) (by decide) (by decide) (by decide) (by decide) ⟨fun _ => rfl, fun _ => rfl, fun _ => rfl, fun _ => rfl, fun _ => rfl⟩ (fun _ => rfl)
  gl := mg_of hh G k.gl
  kp := k.kp
  ei := k.ei
  no := k.no _ (List.mem_cons_self ..)
  bP := ⟨fun s x us ws h1 h2 => match us, ws, h1, h2 with | [v], [], _, _ => .of_eq rfl, fun h1 h2 a b => ⟨a, h1⟩, by decide⟩
  bK := ⟨fun s x us ws h1 h2 => match us, ws, h1, h2 with | [], [v], _, _ => .of_eq rfl, fun h1 h2 a b => ⟨b, h2⟩, by decide⟩
theorem u_TooMany (hh : K.In h) (G : h.Ns mainGlobals mg) (hsup : mg "super" = none) (M0 : Mod K mg base) (k : ErrK PySem.Challenge.pw_filledrow_k01_errors_and_their_fields K e_TooMany cda cc kV doc pm an ct) : E2 PySem.Challenge.pw_filledrow_k01_errors_and_their_fields w K mg base (e_TooMany.C K) "TooMany" "what" "most" (ksFn "__init__" e_TooMany.qual e_TooMany.params e_TooMany.body e_TooMany.scope .none kV doc pm an (.ref cda) ct cc) where
  made := mk2 (p5 := ⟨0, 0, 0, 0⟩) (fl := "what") (fm := "most") k.ec k.iC k.tI k.cd hsup M0 k.sa (k.no _ (List.mem_cons_self ..)) (k.no _ (List.mem_cons_of_mem _ (List.mem_cons_self ..))) rfl rfl rfl rfl rfl (by decide) (by decide) (by decide) (by decide) (by decide) (by decide) ⟨fun _ => rfl, fun _ => rfl, fun _ => rfl, fun _ => rfl, fun _ => rfl⟩ (fun _ => rfl) (fun _ => rfl)
  gl := mg_of hh G k.gl
  kp := k.kp
  ei := k.ei
  no := k.no _ (List.mem_cons_self ..)
  nm := k.no _ (List.mem_cons_of_mem _ (List.mem_cons_self ..))
  bK := ⟨fun s x us ws h1 h2 => match us, ws, h1, h2 with | [], [v, u], _, _ => .of_eq rfl, fun {vs us zs ws} h1 h2 a b => match zs, ws, h2, b with | [_, _], _, _, .cons r (.cons q .nil) => ⟨.cons q (.cons r .nil), rfl⟩, by decide⟩
  bM := ⟨fun s x us ws h1 h2 => match us, ws, h1, h2 with | [v], [u], _, _ => .of_eq rfl, fun {vs us zs ws} h1 h2 a b => ⟨a.append b, by rw [List.length_append, h1, h2]; rfl⟩, by decide⟩
theorem u_IsNested (hh : K.In h) (G : h.Ns mainGlobals mg) (hsup : mg "super" = none) (M0 : Mod K mg base) (k : ErrK PySem.Challenge.pw_filledrow_k01_errors_and_their_fields K e_IsNested cda cc kV doc pm an ct) : E0 PySem.Challenge.pw_filledrow_k01_errors_and_their_fields w K mg base (e_IsNested.C K) "IsNested" where
  made := mk0 (p5 := ⟨0, 0, 0, 0⟩) k.ec k.iC k.tI k.cd hsup M0 (fun _ _ => .of_eq rfl) ⟨fun _ => rfl, fun _ => rfl, fun _ => rfl, fun _ => rfl, fun _ => rfl⟩
  gl := mg_of hh G k.gl
  kp := k.kp
  ei := k.ei
theorem u_NoChange (hh : K.In h) (G : h.Ns mainGlobals mg) (hsup : mg "super" = none) (M0 : Mod K mg base) (k : ErrK PySem.Challenge.pw_filledrow_k01_errors_and_their_fields K e_NoChange cda cc kV doc pm an ct) : E0 PySem.Challenge.pw_filledrow_k01_errors_and_their_fields w K mg base (e_NoChange.C K) "NoChange" where
  made := mk0 (p5 := ⟨0, 0, 0, 0⟩) k.ec k.iC k.tI k.cd hsup M0 (fun _ _ => .of_eq rfl) ⟨fun _ => rfl, fun _ => rfl, fun _ => rfl, fun _ => rfl, fun _ => rfl⟩
  gl := mg_of hh G k.gl
  kp := k.kp
  ei := k.ei
end
end My


set_option Elab.async false
set_option linter.all false
set_option maxRecDepth 100000
set_option maxHeartbeats 4000000
namespace My
open PySem L2 MyErr MyHead EvLib Evl He
def cls (K : PySem.W.Frag) (i : Nat) : Addr := ga K (errNames.getD i "")
def fld (i : Nat) : Str := (["value", "value", "value", "part", "part", "part", "value", "part", "part", "part", "part", "part", "value", "part", "line", "word", "name", "pair", "name", "what"] : List Str).getD i ""
def nmk (i : Nat) : Str := (["value", "value", "value", "part", "part", "part", "value", "part", "part", "part", "part", "part", "value", "part", "line word", "word", "name", "pair", "name", "what most", "", ""] : List Str).getD i ""
def ofk (one two : V) (i : Nat) : Option (List (Str × V)) := if i = 14 then some [("word", two), ("line", one)] else if i = 19 then some [("most", two), ("what", one)] else if i = 20 ∨ i = 21 then none else some [(fld i, one)]
def vlk (one two : V) (i : Nat) : List V := if i = 14 ∨ i = 19 then [one, two] else if i = 20 ∨ i = 21 then [] else [one]
theorem vlk_len {one two : V} {i : Nat} : (vlk one two i).length ≤ 1000 := by
  unfold vlk
  split
  · show 2 ≤ 1000
    decide
  · split
    · show 0 ≤ 1000
      decide
    · show 1 ≤ 1000
      decide
def MadeT (C : Addr) (fs : Option (List (Str × V))) (nm : Str) (vals : List V) : VP := fun v H => ∃ t e l, v = .ref t ∧ H t = some (.tup [.ref e, .str nm, .ref l]) ∧ ErrAt H e C fs ∧ H l = some (.lst vals)
def MadeN (C : Addr) (fs : Option (List (Str × V))) (i : Int) : VP := fun v H => ∃ t e, v = .ref t ∧ H t = some (.tup [.ref e, .int i]) ∧ ErrAt H e C fs
theorem errAt_ex {H H' : Hp} {e C : Addr} {fs : Option (List (Str × V))} (x : Ex H H') (h : ErrAt H e C fs) : ErrAt H' e C fs := by
  cases fs with
  | none => exact x _ _ h
  | some fs =>
    obtain ⟨d, a, b⟩ := h
    exact ⟨d, x _ _ a, x _ _ b⟩
theorem madeT_mono {C : Addr} {fs : Option (List (Str × V))} {nm : Str} {vals : List V} : Mono (MadeT C fs nm vals) := fun v H H' x ⟨t, e, l, a, b, c, d⟩ => ⟨t, e, l, a, x _ _ b, errAt_ex x c, x _ _ d⟩
theorem madeN_mono {C : Addr} {fs : Option (List (Str × V))} {i : Int} : Mono (MadeN C fs i) := fun v H H' x ⟨t, e, a, b, c⟩ => ⟨t, e, a, x _ _ b, errAt_ex x c⟩
/-- an error as a value -/
def IsE (C : Addr) (fs : Option (List (Str × V))) : VP := fun u H => ∃ e, u = .ref e ∧ ErrAt H e C fs
theorem isE_mono {C : Addr} {fs : Option (List (Str × V))} : Mono (IsE C fs) := fun v H H' x ⟨e, a, b⟩ => ⟨e, a, errAt_ex x b⟩
section
variable {σ : L2.St} {H : Hp} {v u : V} {i j : Nat} {C : Addr} {fl fm : Str} {ta tk : TA} {te : TE}
theorem ev_one (h : σ[i]? = some (some v)) : EvPs (tCons (tVar i) tNil) σ H (fun vs _ => vs = [v]) := fun H1 e Q q => ⟨v, h, q [v] H1 (Ex.refl _) rfl⟩
theorem ev_two (h : σ[i]? = some (some v)) (h2 : σ[j]? = some (some u)) : EvPs (tCons (tVar i) (tCons (tVar j) tNil)) σ H (fun vs _ => vs = [v, u]) := fun H1 e Q q => ⟨v, h, u, h2, q [v, u] H1 (Ex.refl _) rfl⟩
theorem ex_two {H1 H2 : Hp} {e d : Addr} {o o' : HO} (x : Ex H1 H2) (he : H2 e = none) (hd : H2 d = none) (hne : d ≠ e) : Ex H1 (upd (upd H2 d o) e o') := (x.trans (Ex.new hd)).trans (Ex.new (by rw [upd_ne hne.symm]; exact he))
theorem at_two {H2 : Hp} {e d : Addr} {fs : List (Str × V)} (hne : d ≠ e) : ErrAt (upd (upd H2 d (exd d fs)) e (exo e C (some d))) e C (some fs) := ⟨d, upd_same, by rw [upd_ne hne, upd_same]⟩
theorem ev_errP (h : EvPs ta σ H (fun vs _ => vs = [v])) : EvP (tErr C [fl] (fun vs _ => vs) 1 0 ta tNil) σ H (IsE C (some [(fl, v)])) := fun H1 x Q q => by
  refine h H1 x _ fun vs H2 x2 e => ?_
  subst e
  exact ⟨rfl, rfl, fun e d he hd hne => q _ _ (ex_two x2 he hd hne) ⟨e, rfl, at_two hne⟩⟩
theorem ev_errK (h : EvPs tk σ H (fun vs _ => vs = [v])) : EvP (tErr C [fl] (fun _ zs => zs) 0 1 tNil tk) σ H (IsE C (some [(fl, v)])) := fun H1 x Q q => by
  refine h H1 x _ fun vs H2 x2 e => ?_
  subst e
  exact ⟨rfl, rfl, fun e d he hd hne => q _ _ (ex_two x2 he hd hne) ⟨e, rfl, at_two hne⟩⟩
theorem ev_errK2 (h : EvPs tk σ H (fun vs _ => vs = [v, u])) : EvP (tErr C [fl, fm] (fun _ zs => zs.reverse) 0 2 tNil tk) σ H (IsE C (some [(fm, v), (fl, u)])) := fun H1 x Q q => by
  refine h H1 x _ fun vs H2 x2 e => ?_
  subst e
  exact ⟨rfl, rfl, fun e d he hd hne => q _ _ (ex_two x2 he hd hne) ⟨e, rfl, at_two hne⟩⟩
theorem ev_errM (h : EvPs ta σ H (fun vs _ => vs = [v])) (h2 : EvPs tk σ H (fun vs _ => vs = [u])) : EvP (tErr C [fl, fm] (fun vs zs => vs ++ zs) 1 1 ta tk) σ H (IsE C (some [(fm, u), (fl, v)])) := fun H1 x Q q => by
  refine h H1 x _ fun vs H2 x2 e => ?_
  subst e
  refine h2 H2 (x.trans x2) _ fun zs H3 x3 e => ?_
  subst e
  exact ⟨rfl, rfl, fun e d he hd hne => q _ _ (ex_two (x2.trans x3) he hd hne) ⟨e, rfl, at_two hne⟩⟩
theorem ev_err0 : EvP (tErr0 C) σ H (IsE C none) := fun H1 x Q q e he => q _ _ (Ex.new he) ⟨e, rfl, upd_same⟩
theorem ev_made {fs : Option (List (Str × V))} {nm : Str} {vals : List V} (hl : vals.length ≤ 1000) (h : EvP te σ H (IsE C fs)) (h2 : EvPs ta σ H (fun vs _ => vs = vals)) :
    EvP (tTup (tCons te (tCons (tC (.str nm)) (tCons (tLst ta) tNil)))) σ H (MadeT C fs nm vals) := fun H1 x Q q => by
  refine h H1 x _ fun w H2 x2 ⟨e, ew, he⟩ => ?_
  subst ew
  refine h2 H2 (x.trans x2) _ fun vs H3 x3 ev => ?_
  subst ev
  refine ⟨sz_of (by omega), fun l nl => ⟨by show 3 ≤ sizeLine; decide, fun t nt => ?_⟩⟩
  have y := (Ex.new (o := .lst vs) nl).trans (Ex.new (o := .tup [.ref e, .str nm, .ref l]) nt)
  exact q _ _ ((x2.trans x3).trans y) ⟨t, e, l, rfl, upd_same, errAt_ex (x3.trans y) he, Ex.new nt _ _ upd_same⟩
theorem ev_named {fs : Option (List (Str × V))} {k : Int} (h : EvP te σ H (IsE C fs)) : EvP (tTup (tCons te (tCons (tC (.int k)) tNil))) σ H (MadeN C fs k) := fun H1 x Q q => by
  refine h H1 x _ fun w H2 x2 ⟨e, ew, he⟩ => ?_
  subst ew
  refine ⟨by show 2 ≤ sizeLine; decide, fun t nt => ?_⟩
  exact q _ _ (x2.trans (Ex.new nt)) ⟨t, e, rfl, upd_same, errAt_ex (Ex.new nt) he⟩
/-- lists of things, the k-th with P k -/
def LP (P : Nat → VP) (k n : Nat) : VP := fun v H => ∃ p vs, v = .ref p ∧ H p = some (.lst vs) ∧ vs.length = n ∧ All P k vs H
theorem lp_mono {P : Nat → VP} (m : ∀ k, Mono (P k)) {k n : Nat} : Mono (LP P k n) := fun v H H' x ⟨p, vs, a, b, c, d⟩ => ⟨p, vs, a, x _ _ b, c, All.mono m x d⟩
theorem ev_all_nil {P : Nat → VP} {k : Nat} : EvPs tNil σ H (fun vs H' => vs.length = 0 ∧ All P k vs H') := fun H1 x Q q => q [] H1 (Ex.refl _) ⟨rfl, trivial⟩
theorem ev_all_cons {P : Nat → VP} {k n : Nat} {ts : TA} (mP : ∀ k, Mono (P k)) (h : EvP te σ H (P k)) (hs : EvPs ts σ H (fun vs H' => vs.length = n ∧ All P (k + 1) vs H')) : EvPs (tCons te ts) σ H (fun vs H' => vs.length = n + 1 ∧ All P k vs H') := fun H1 x Q q =>
  h H1 x _ fun v H2 x2 hv => hs H2 (x.trans x2) _ fun r H3 x3 ⟨hl, ha⟩ => q (v :: r) H3 (x2.trans x3) ⟨by rw [List.length_cons, hl], mP k v _ _ x3 hv, ha⟩
theorem ev_lp {P : Nat → VP} {k n : Nat} {ts : TA} (mP : ∀ k, Mono (P k)) (hn : n ≤ 1000) (hs : EvPs ts σ H (fun vs H' => vs.length = n ∧ All P k vs H')) : EvP (tLst ts) σ H (LP P k n) := fun H1 x Q q =>
  hs H1 x _ fun vs H2 x2 ⟨hl, ha⟩ => ⟨sz_of (by omega), fun p np => q (.ref p) _ (x2.trans (Ex.new np)) ⟨p, vs, rfl, upd_same, hl, All.mono mP (Ex.new np) ha⟩⟩
/-- a + b of such lists, a in a slot -/
theorem ev_cat {P : Nat → VP} {k n m : Nat} {tb : TE} (mP : ∀ k, Mono (P k)) (hn : n + m ≤ 1000) (hv : σ[i]? = some (some v)) (ha : LP P k n v H) (hb : EvP tb σ H (LP P (k + n) m)) : EvP (tOp rCat (tVar i) tb) σ H (LP P k (n + m)) := fun H1 x Q q => by
  refine ⟨v, hv, hb H1 x _ fun w H2 x2 ⟨p2, ws, ew, e2, l2, a2⟩ => ?_⟩
  subst ew
  obtain ⟨p, vs, e0, e1, l1, a1⟩ := lp_mono mP v _ _ (x.trans x2) ha
  subst e0
  refine ⟨p, p2, vs, ws, rfl, rfl, e1, e2, sz_of (by omega), fun r nr => ?_⟩
  refine q _ _ (x2.trans (Ex.new nr)) ⟨r, _, rfl, upd_same, by rw [List.length_append]; omega, All.mono mP (Ex.new nr) (All.append a1 (by rw [l1]; exact a2))⟩
end
theorem st_set {te : TE} {u : TS} {D : Ends} {σ : L2.St} {H : Hp} {i : Nat} {P : VP} (h : EvP te σ H P) (k : ∀ v H1, Ex H H1 → P v H1 → u D (σ.set i (some v)) H1) : tSeq (tAsg te (gName i)) u D σ H := h H (Ex.refl H) _ k
theorem st_ret {te : TE} {D : Ends} {σ : L2.St} {H : Hp} {P : VP} (h : EvP te σ H P) (k : ∀ v H1, Ex H H1 → P v H1 → D.rt v H1) : tRet te D σ H := h H (Ex.refl H) _ k
/-- the k-th of what _law_made makes, of what _law_named makes -/
def PM (K : PySem.W.Frag) (one two : V) (k : Nat) : VP := MadeT (cls K k) (ofk one two k) (nmk k) (vlk one two k)
def spotN (k : Nat) : Nat := ([0, 2, 3, 5, 7, 8, 10, 11, 12, 17, 18, 19] : List Nat).getD k 0
def ofN (one two : V) (i : Nat) : Option (List (Str × V)) := if i = 19 then some [("most", one), ("what", two)] else some [(fld i, one)]
def PN (K : PySem.W.Frag) (one two : V) (k : Nat) : VP := MadeN (cls K (spotN k)) (ofN one two (spotN k)) (spotN k : Nat)
theorem pm_mono {K : PySem.W.Frag} {one two : V} : ∀ k, Mono (PM K one two k) := fun _ => madeT_mono
theorem pn_mono {K : PySem.W.Frag} {one two : V} : ∀ k, Mono (PN K one two k) := fun _ => madeN_mono
/-- all own errors of the text -/
structure Errs (w : World) (K : PySem.W.Frag) (mg : Str → Option Value) (base : Heap) (fd : Nat → FuncData) : Prop where
  BadName : E1 PySem.Challenge.pw_filledrow_k01_errors_and_their_fields w K mg base (e_BadName.C K) "BadName" "value" (fd 0)
  BadAmount : E1 PySem.Challenge.pw_filledrow_k01_errors_and_their_fields w K mg base (e_BadAmount.C K) "BadAmount" "value" (fd 1)
  BadWorth : E1 PySem.Challenge.pw_filledrow_k01_errors_and_their_fields w K mg base (e_BadWorth.C K) "BadWorth" "value" (fd 2)
  BadTable : E1 PySem.Challenge.pw_filledrow_k01_errors_and_their_fields w K mg base (e_BadTable.C K) "BadTable" "part" (fd 3)
  BadSide : E1 PySem.Challenge.pw_filledrow_k01_errors_and_their_fields w K mg base (e_BadSide.C K) "BadSide" "part" (fd 4)
  BadFilling : E1 PySem.Challenge.pw_filledrow_k01_errors_and_their_fields w K mg base (e_BadFilling.C K) "BadFilling" "part" (fd 5)
  BadPair : E1 PySem.Challenge.pw_filledrow_k01_errors_and_their_fields w K mg base (e_BadPair.C K) "BadPair" "value" (fd 6)
  BadOrder : E1 PySem.Challenge.pw_filledrow_k01_errors_and_their_fields w K mg base (e_BadOrder.C K) "BadOrder" "part" (fd 7)
  BadBars : E1 PySem.Challenge.pw_filledrow_k01_errors_and_their_fields w K mg base (e_BadBars.C K) "BadBars" "part" (fd 8)
  BadSeen : E1 PySem.Challenge.pw_filledrow_k01_errors_and_their_fields w K mg base (e_BadSeen.C K) "BadSeen" "part" (fd 9)
  BadOffer : E1 PySem.Challenge.pw_filledrow_k01_errors_and_their_fields w K mg base (e_BadOffer.C K) "BadOffer" "part" (fd 10)
  BadRule : E1 PySem.Challenge.pw_filledrow_k01_errors_and_their_fields w K mg base (e_BadRule.C K) "BadRule" "part" (fd 11)
  BadDay : E1 PySem.Challenge.pw_filledrow_k01_errors_and_their_fields w K mg base (e_BadDay.C K) "BadDay" "value" (fd 12)
  BadLedger : E1 PySem.Challenge.pw_filledrow_k01_errors_and_their_fields w K mg base (e_BadLedger.C K) "BadLedger" "part" (fd 13)
  BadText : E2 PySem.Challenge.pw_filledrow_k01_errors_and_their_fields w K mg base (e_BadText.C K) "BadText" "line" "word" (fd 14)
  BadLine : E1 PySem.Challenge.pw_filledrow_k01_errors_and_their_fields w K mg base (e_BadLine.C K) "BadLine" "word" (fd 15)
  NoName : E1 PySem.Challenge.pw_filledrow_k01_errors_and_their_fields w K mg base (e_NoName.C K) "NoName" "name" (fd 16)
  NoPair : E1 PySem.Challenge.pw_filledrow_k01_errors_and_their_fields w K mg base (e_NoPair.C K) "NoPair" "pair" (fd 17)
  Lacking : E1 PySem.Challenge.pw_filledrow_k01_errors_and_their_fields w K mg base (e_Lacking.C K) "Lacking" "name" (fd 18)
  TooMany : E2 PySem.Challenge.pw_filledrow_k01_errors_and_their_fields w K mg base (e_TooMany.C K) "TooMany" "what" "most" (fd 19)
  IsNested : E0 PySem.Challenge.pw_filledrow_k01_errors_and_their_fields w K mg base (e_IsNested.C K) "IsNested"
  NoChange : E0 PySem.Challenge.pw_filledrow_k01_errors_and_their_fields w K mg base (e_NoChange.C K) "NoChange"
def spMade (K : PySem.W.Frag) : Sp := fun vs H Q _ => ∃ one two : V, vs = [one, two] ∧ ∀ v H', Ex H H' → LP (PM K one two) 0 22 v H' → Q v H'
def spNamed (K : PySem.W.Frag) : Sp := fun vs H Q _ => ∃ one two : V, vs = [one, two] ∧ ∀ v H', Ex H H' → LP (PN K one two) 0 12 v H' → Q v H'
section
variable {w : World} {K : PySem.W.Frag} {mg : Str → Option Value} {base : Heap} {fds : Nat → FuncData}
abbrev PP : Program := PySem.Challenge.pw_filledrow_k01_errors_and_their_fields
theorem scMade : FnScope ["_law_one", "_law_two", "_law_found"] ["_law_one", "_law_two"] (defScope s_law_made) := ⟨rfl, rfl, rfl, by decide +kernel, rfl, by decide +kernel, by decide +kernel⟩
theorem ok_made {f : Addr} {fd : FuncData} (F : FnP K "_law_made" s_law_made f fd) (U : Errs w K mg base fds) : FnOk PP w K mg base CX0 2 f fd ["_law_one", "_law_two"] (spMade K) := by
  refine F.ok scMade (fun vs H Q E h => ?_) (fun cdv A outer s H vs Q E hr h => ?_)
  · obtain ⟨one, two, rfl, _⟩ := h
    rfl
  · obtain ⟨one, two, rfl, k⟩ := h
    have mP := pm_mono (K := K) (one := one) (two := two)
    refine ⟨_, PSs.nox (pss_cons (ps_set (i := 2) scMade.nd rfl (Or.inl rfl) (pe_lst (pa_cons (pe_tup (pa_cons (pe_err U.BadName.made U.BadName.bP hr rfl U.BadName.gl U.BadName.kp (pa_cons (pv 0) pa_nil)) (pa_cons pe_str (pa_cons (pe_lst (pa_cons (pv 0) pa_nil)) pa_nil)))) (pa_cons (pe_tup (pa_cons (pe_errK0 U.BadAmount.made U.BadAmount.bK hr rfl U.BadAmount.gl U.BadAmount.kp (pk_cons (pv 0) pk_nil)) (pa_cons pe_str (pa_cons (pe_lst (pa_cons (pv 0) pa_nil)) pa_nil)))) (pa_cons (pe_tup (pa_cons (pe_err U.BadWorth.made U.BadWorth.bP hr rfl U.BadWorth.gl U.BadWorth.kp (pa_cons (pv 0) pa_nil)) (pa_cons pe_str (pa_cons (pe_lst (pa_cons (pv 0) pa_nil)) pa_nil)))) pa_nil)))))
      (pss_cons (ps_set (i := 2) scMade.nd rfl (Or.inl rfl) (pe_op op_cat (pv 2) (pe_lst (pa_cons (pe_tup (pa_cons (pe_err U.BadTable.made U.BadTable.bP hr rfl U.BadTable.gl U.BadTable.kp (pa_cons (pv 0) pa_nil)) (pa_cons pe_str (pa_cons (pe_lst (pa_cons (pv 0) pa_nil)) pa_nil)))) (pa_cons (pe_tup (pa_cons (pe_errK0 U.BadSide.made U.BadSide.bK hr rfl U.BadSide.gl U.BadSide.kp (pk_cons (pv 0) pk_nil)) (pa_cons pe_str (pa_cons (pe_lst (pa_cons (pv 0) pa_nil)) pa_nil)))) (pa_cons (pe_tup (pa_cons (pe_err U.BadFilling.made U.BadFilling.bP hr rfl U.BadFilling.gl U.BadFilling.kp (pa_cons (pv 0) pa_nil)) (pa_cons pe_str (pa_cons (pe_lst (pa_cons (pv 0) pa_nil)) pa_nil)))) pa_nil))))))
      (pss_cons (ps_set (i := 2) scMade.nd rfl (Or.inl rfl) (pe_op op_cat (pv 2) (pe_lst (pa_cons (pe_tup (pa_cons (pe_errK0 U.BadPair.made U.BadPair.bK hr rfl U.BadPair.gl U.BadPair.kp (pk_cons (pv 0) pk_nil)) (pa_cons pe_str (pa_cons (pe_lst (pa_cons (pv 0) pa_nil)) pa_nil)))) (pa_cons (pe_tup (pa_cons (pe_err U.BadOrder.made U.BadOrder.bP hr rfl U.BadOrder.gl U.BadOrder.kp (pa_cons (pv 0) pa_nil)) (pa_cons pe_str (pa_cons (pe_lst (pa_cons (pv 0) pa_nil)) pa_nil)))) (pa_cons (pe_tup (pa_cons (pe_err U.BadBars.made U.BadBars.bP hr rfl U.BadBars.gl U.BadBars.kp (pa_cons (pv 0) pa_nil)) (pa_cons pe_str (pa_cons (pe_lst (pa_cons (pv 0) pa_nil)) pa_nil)))) pa_nil))))))
      (pss_cons (ps_set (i := 2) scMade.nd rfl (Or.inl rfl) (pe_op op_cat (pv 2) (pe_lst (pa_cons (pe_tup (pa_cons (pe_errK0 U.BadSeen.made U.BadSeen.bK hr rfl U.BadSeen.gl U.BadSeen.kp (pk_cons (pv 0) pk_nil)) (pa_cons pe_str (pa_cons (pe_lst (pa_cons (pv 0) pa_nil)) pa_nil)))) (pa_cons (pe_tup (pa_cons (pe_err U.BadOffer.made U.BadOffer.bP hr rfl U.BadOffer.gl U.BadOffer.kp (pa_cons (pv 0) pa_nil)) (pa_cons pe_str (pa_cons (pe_lst (pa_cons (pv 0) pa_nil)) pa_nil)))) (pa_cons (pe_tup (pa_cons (pe_err U.BadRule.made U.BadRule.bP hr rfl U.BadRule.gl U.BadRule.kp (pa_cons (pv 0) pa_nil)) (pa_cons pe_str (pa_cons (pe_lst (pa_cons (pv 0) pa_nil)) pa_nil)))) pa_nil))))))
      (pss_cons (ps_set (i := 2) scMade.nd rfl (Or.inl rfl) (pe_op op_cat (pv 2) (pe_lst (pa_cons (pe_tup (pa_cons (pe_err U.BadDay.made U.BadDay.bP hr rfl U.BadDay.gl U.BadDay.kp (pa_cons (pv 0) pa_nil)) (pa_cons pe_str (pa_cons (pe_lst (pa_cons (pv 0) pa_nil)) pa_nil)))) (pa_cons (pe_tup (pa_cons (pe_errK0 U.BadLedger.made U.BadLedger.bK hr rfl U.BadLedger.gl U.BadLedger.kp (pk_cons (pv 0) pk_nil)) (pa_cons pe_str (pa_cons (pe_lst (pa_cons (pv 0) pa_nil)) pa_nil)))) pa_nil)))))
      (pss_cons (ps_set (i := 2) scMade.nd rfl (Or.inl rfl) (pe_op op_cat (pv 2) (pe_lst (pa_cons (pe_tup (pa_cons (pe_errK0 U.BadText.made U.BadText.bK hr rfl U.BadText.gl U.BadText.kp (pk_cons (pv 1) (pk_cons (pv 0) pk_nil))) (pa_cons pe_str (pa_cons (pe_lst (pa_cons (pv 0) (pa_cons (pv 1) pa_nil))) pa_nil)))) (pa_cons (pe_tup (pa_cons (pe_errK0 U.BadLine.made U.BadLine.bK hr rfl U.BadLine.gl U.BadLine.kp (pk_cons (pv 0) pk_nil)) (pa_cons pe_str (pa_cons (pe_lst (pa_cons (pv 0) pa_nil)) pa_nil)))) pa_nil)))))
      (pss_cons (ps_set (i := 2) scMade.nd rfl (Or.inl rfl) (pe_op op_cat (pv 2) (pe_lst (pa_cons (pe_tup (pa_cons (pe_errK0 U.NoName.made U.NoName.bK hr rfl U.NoName.gl U.NoName.kp (pk_cons (pv 0) pk_nil)) (pa_cons pe_str (pa_cons (pe_lst (pa_cons (pv 0) pa_nil)) pa_nil)))) (pa_cons (pe_tup (pa_cons (pe_err U.NoPair.made U.NoPair.bP hr rfl U.NoPair.gl U.NoPair.kp (pa_cons (pv 0) pa_nil)) (pa_cons pe_str (pa_cons (pe_lst (pa_cons (pv 0) pa_nil)) pa_nil)))) (pa_cons (pe_tup (pa_cons (pe_err U.Lacking.made U.Lacking.bP hr rfl U.Lacking.gl U.Lacking.kp (pa_cons (pv 0) pa_nil)) (pa_cons pe_str (pa_cons (pe_lst (pa_cons (pv 0) pa_nil)) pa_nil)))) pa_nil))))))
      (pss_one (ps_ret (pe_op op_cat (pv 2) (pe_lst (pa_cons (pe_tup (pa_cons (pe_errK0 U.TooMany.made U.TooMany.bK hr rfl U.TooMany.gl U.TooMany.kp (pk_cons (pv 1) (pk_cons (pv 0) pk_nil))) (pa_cons pe_str (pa_cons (pe_lst (pa_cons (pv 0) (pa_cons (pv 1) pa_nil))) pa_nil)))) (pa_cons (pe_tup (pa_cons (pe_err0 U.IsNested.made hr rfl U.IsNested.gl U.IsNested.kp) (pa_cons pe_str (pa_cons (pe_lst pa_nil) pa_nil)))) (pa_cons (pe_tup (pa_cons (pe_err0 U.NoChange.made hr rfl U.NoChange.gl U.NoChange.kp) (pa_cons pe_str (pa_cons (pe_lst pa_nil) pa_nil)))) pa_nil)))))))))))))), ?_⟩
    refine st_set (ev_lp (P := PM K one two) (k := 0) mP (by decide) (ev_all_cons mP (ev_made vlk_len (ev_errP (ev_one (v := one) rfl)) (ev_one (v := one) rfl)) (ev_all_cons mP (ev_made vlk_len (ev_errK (ev_one (v := one) rfl)) (ev_one (v := one) rfl)) (ev_all_cons mP (ev_made vlk_len (ev_errP (ev_one (v := one) rfl)) (ev_one (v := one) rfl)) ev_all_nil)))) (fun v H1 x1 h1 => ?_)
    refine st_set (ev_cat mP (by decide) rfl h1 (ev_lp (P := PM K one two) (k := 3) mP (by decide) (ev_all_cons mP (ev_made vlk_len (ev_errP (ev_one (v := one) rfl)) (ev_one (v := one) rfl)) (ev_all_cons mP (ev_made vlk_len (ev_errK (ev_one (v := one) rfl)) (ev_one (v := one) rfl)) (ev_all_cons mP (ev_made vlk_len (ev_errP (ev_one (v := one) rfl)) (ev_one (v := one) rfl)) ev_all_nil))))) (fun v H2 x2 h2 => ?_)
    refine st_set (ev_cat mP (by decide) rfl h2 (ev_lp (P := PM K one two) (k := 6) mP (by decide) (ev_all_cons mP (ev_made vlk_len (ev_errK (ev_one (v := one) rfl)) (ev_one (v := one) rfl)) (ev_all_cons mP (ev_made vlk_len (ev_errP (ev_one (v := one) rfl)) (ev_one (v := one) rfl)) (ev_all_cons mP (ev_made vlk_len (ev_errP (ev_one (v := one) rfl)) (ev_one (v := one) rfl)) ev_all_nil))))) (fun v H3 x3 h3 => ?_)
    refine st_set (ev_cat mP (by decide) rfl h3 (ev_lp (P := PM K one two) (k := 9) mP (by decide) (ev_all_cons mP (ev_made vlk_len (ev_errK (ev_one (v := one) rfl)) (ev_one (v := one) rfl)) (ev_all_cons mP (ev_made vlk_len (ev_errP (ev_one (v := one) rfl)) (ev_one (v := one) rfl)) (ev_all_cons mP (ev_made vlk_len (ev_errP (ev_one (v := one) rfl)) (ev_one (v := one) rfl)) ev_all_nil))))) (fun v H4 x4 h4 => ?_)
    refine st_set (ev_cat mP (by decide) rfl h4 (ev_lp (P := PM K one two) (k := 12) mP (by decide) (ev_all_cons mP (ev_made vlk_len (ev_errP (ev_one (v := one) rfl)) (ev_one (v := one) rfl)) (ev_all_cons mP (ev_made vlk_len (ev_errK (ev_one (v := one) rfl)) (ev_one (v := one) rfl)) ev_all_nil)))) (fun v H5 x5 h5 => ?_)
    refine st_set (ev_cat mP (by decide) rfl h5 (ev_lp (P := PM K one two) (k := 14) mP (by decide) (ev_all_cons mP (ev_made vlk_len (ev_errK2 (ev_two (v := two) (u := one) rfl rfl)) (ev_two (v := one) (u := two) rfl rfl)) (ev_all_cons mP (ev_made vlk_len (ev_errK (ev_one (v := one) rfl)) (ev_one (v := one) rfl)) ev_all_nil)))) (fun v H6 x6 h6 => ?_)
    refine st_set (ev_cat mP (by decide) rfl h6 (ev_lp (P := PM K one two) (k := 16) mP (by decide) (ev_all_cons mP (ev_made vlk_len (ev_errK (ev_one (v := one) rfl)) (ev_one (v := one) rfl)) (ev_all_cons mP (ev_made vlk_len (ev_errP (ev_one (v := one) rfl)) (ev_one (v := one) rfl)) (ev_all_cons mP (ev_made vlk_len (ev_errP (ev_one (v := one) rfl)) (ev_one (v := one) rfl)) ev_all_nil))))) (fun v H7 x7 h7 => ?_)
    refine st_ret (ev_cat mP (by decide) rfl h7 (ev_lp (P := PM K one two) (k := 19) mP (by decide) (ev_all_cons mP (ev_made vlk_len (ev_errK2 (ev_two (v := two) (u := one) rfl rfl)) (ev_two (v := one) (u := two) rfl rfl)) (ev_all_cons mP (ev_made vlk_len ev_err0 evps_nil) (ev_all_cons mP (ev_made vlk_len ev_err0 evps_nil) ev_all_nil))))) (fun v H8 x8 h8 => ?_)
    exact k _ _ (((((((x1.trans x2).trans x3).trans x4).trans x5).trans x6).trans x7).trans x8) h8
theorem scNamed : FnScope ["_law_one", "_law_two", "_law_found"] ["_law_one", "_law_two"] (defScope s_law_named) := ⟨rfl, rfl, rfl, by decide +kernel, rfl, by decide +kernel, by decide +kernel⟩
theorem ok_named {f : Addr} {fd : FuncData} (F : FnP K "_law_named" s_law_named f fd) (U : Errs w K mg base fds) : FnOk PP w K mg base CX0 2 f fd ["_law_one", "_law_two"] (spNamed K) := by
  refine F.ok scNamed (fun vs H Q E h => ?_) (fun cdv A outer s H vs Q E hr h => ?_)
  · obtain ⟨one, two, rfl, _⟩ := h
    rfl
  · obtain ⟨one, two, rfl, k⟩ := h
    have mP := pn_mono (K := K) (one := one) (two := two)
    refine ⟨_, PSs.nox (pss_cons (ps_set (i := 2) scNamed.nd rfl (Or.inl rfl) (pe_lst (pa_cons (pe_tup (pa_cons (pe_errK0 U.BadName.made U.BadName.bK hr rfl U.BadName.gl U.BadName.kp (pk_cons (pv 0) pk_nil)) (pa_cons pe_int pa_nil))) (pa_cons (pe_tup (pa_cons (pe_errK0 U.BadWorth.made U.BadWorth.bK hr rfl U.BadWorth.gl U.BadWorth.kp (pk_cons (pv 0) pk_nil)) (pa_cons pe_int pa_nil))) (pa_cons (pe_tup (pa_cons (pe_errK0 U.BadTable.made U.BadTable.bK hr rfl U.BadTable.gl U.BadTable.kp (pk_cons (pv 0) pk_nil)) (pa_cons pe_int pa_nil))) (pa_cons (pe_tup (pa_cons (pe_errK0 U.BadFilling.made U.BadFilling.bK hr rfl U.BadFilling.gl U.BadFilling.kp (pk_cons (pv 0) pk_nil)) (pa_cons pe_int pa_nil))) pa_nil))))))
      (pss_cons (ps_set (i := 2) scNamed.nd rfl (Or.inl rfl) (pe_op op_cat (pv 2) (pe_lst (pa_cons (pe_tup (pa_cons (pe_errK0 U.BadOrder.made U.BadOrder.bK hr rfl U.BadOrder.gl U.BadOrder.kp (pk_cons (pv 0) pk_nil)) (pa_cons pe_int pa_nil))) (pa_cons (pe_tup (pa_cons (pe_errK0 U.BadBars.made U.BadBars.bK hr rfl U.BadBars.gl U.BadBars.kp (pk_cons (pv 0) pk_nil)) (pa_cons pe_int pa_nil))) (pa_cons (pe_tup (pa_cons (pe_errK0 U.BadOffer.made U.BadOffer.bK hr rfl U.BadOffer.gl U.BadOffer.kp (pk_cons (pv 0) pk_nil)) (pa_cons pe_int pa_nil))) (pa_cons (pe_tup (pa_cons (pe_errK0 U.BadRule.made U.BadRule.bK hr rfl U.BadRule.gl U.BadRule.kp (pk_cons (pv 0) pk_nil)) (pa_cons pe_int pa_nil))) pa_nil)))))))
      (pss_one (ps_ret (pe_op op_cat (pv 2) (pe_lst (pa_cons (pe_tup (pa_cons (pe_errK0 U.BadDay.made U.BadDay.bK hr rfl U.BadDay.gl U.BadDay.kp (pk_cons (pv 0) pk_nil)) (pa_cons pe_int pa_nil))) (pa_cons (pe_tup (pa_cons (pe_errK0 U.NoPair.made U.NoPair.bK hr rfl U.NoPair.gl U.NoPair.kp (pk_cons (pv 0) pk_nil)) (pa_cons pe_int pa_nil))) (pa_cons (pe_tup (pa_cons (pe_errK0 U.Lacking.made U.Lacking.bK hr rfl U.Lacking.gl U.Lacking.kp (pk_cons (pv 0) pk_nil)) (pa_cons pe_int pa_nil))) (pa_cons (pe_tup (pa_cons (pe_errK U.TooMany.made U.TooMany.bM hr rfl U.TooMany.gl U.TooMany.kp (pa_cons (pv 1) pa_nil) (pk_cons (pv 0) pk_nil)) (pa_cons pe_int pa_nil))) pa_nil)))))))))), ?_⟩
    refine st_set (ev_lp (P := PN K one two) (k := 0) mP (by decide) (ev_all_cons mP (ev_named (ev_errK (ev_one (v := one) rfl))) (ev_all_cons mP (ev_named (ev_errK (ev_one (v := one) rfl))) (ev_all_cons mP (ev_named (ev_errK (ev_one (v := one) rfl))) (ev_all_cons mP (ev_named (ev_errK (ev_one (v := one) rfl))) ev_all_nil))))) (fun v H1 x1 h1 => ?_)
    refine st_set (ev_cat mP (by decide) rfl h1 (ev_lp (P := PN K one two) (k := 4) mP (by decide) (ev_all_cons mP (ev_named (ev_errK (ev_one (v := one) rfl))) (ev_all_cons mP (ev_named (ev_errK (ev_one (v := one) rfl))) (ev_all_cons mP (ev_named (ev_errK (ev_one (v := one) rfl))) (ev_all_cons mP (ev_named (ev_errK (ev_one (v := one) rfl))) ev_all_nil)))))) (fun v H2 x2 h2 => ?_)
    refine st_ret (ev_cat mP (by decide) rfl h2 (ev_lp (P := PN K one two) (k := 8) mP (by decide) (ev_all_cons mP (ev_named (ev_errK (ev_one (v := one) rfl))) (ev_all_cons mP (ev_named (ev_errK (ev_one (v := one) rfl))) (ev_all_cons mP (ev_named (ev_errK (ev_one (v := one) rfl))) (ev_all_cons mP (ev_named (ev_errM (ev_one (v := two) rfl) (ev_one (v := one) rfl))) ev_all_nil)))))) (fun v H3 x3 h3 => ?_)
    exact k _ _ ((x1.trans x2).trans x3) h3
end
end My


set_option Elab.async false
set_option linter.all false
set_option maxRecDepth 100000
set_option maxHeartbeats 4000000
namespace My
open PySem L2 MyErr MyHead EvLib Evl He
/-- what _law_fields finds in an error -/
inductive FV (K : PySem.W.Frag) (C : Addr) : Str → Option (List (Str × V)) → List V → Prop
  | value {fs : List (Str × V)} {a : V} : PySem.W.findIn K (.ref C) "value" = some none → fs.lookup ("value" : Str) = some a → FV K C "value" (some fs) [a]
  | part {fs : List (Str × V)} {a : V} : PySem.W.findIn K (.ref C) "part" = some none → fs.lookup ("part" : Str) = some a → FV K C "part" (some fs) [a]
  | pair {fs : List (Str × V)} {a : V} : PySem.W.findIn K (.ref C) "pair" = some none → fs.lookup ("pair" : Str) = some a → FV K C "pair" (some fs) [a]
  | word {fs : List (Str × V)} {a : V} : PySem.W.findIn K (.ref C) "word" = some none → fs.lookup ("word" : Str) = some a → FV K C "word" (some fs) [a]
  | name {fs : List (Str × V)} {a : V} : PySem.W.findIn K (.ref C) "name" = some none → fs.lookup ("name" : Str) = some a → FV K C "name" (some fs) [a]
  | lw {fs : List (Str × V)} {a b : V} : PySem.W.findIn K (.ref C) "line" = some none → PySem.W.findIn K (.ref C) "word" = some none → fs.lookup ("line" : Str) = some a → fs.lookup ("word" : Str) = some b → FV K C "line word" (some fs) [a, b]
  | wm {fs : List (Str × V)} {a b : V} : PySem.W.findIn K (.ref C) "what" = some none → PySem.W.findIn K (.ref C) "most" = some none → fs.lookup ("what" : Str) = some a → fs.lookup ("most" : Str) = some b → FV K C "what most" (some fs) [a, b]
  | non : FV K C "" none []
theorem itB {c : Bool} {A B : Prop} (h : c = true) (a : A) : if c = true then A else B := by rw [if_pos h]; exact a
theorem itF {c : Bool} {A B : Prop} (h : c = false) (b : B) : if c = true then A else B := by rw [h]; exact b
def spFields (K : PySem.W.Frag) : Sp := fun vs H Q _ => ∃ (e C : Addr) (nm : Str) (fs : Option (List (Str × V))) (vals : List V), vs = [.ref e, .str nm] ∧ ErrAt H e C fs ∧ EI K C ∧ FV K C nm fs vals ∧ ∀ p H', Ex H H' → H' p = some (.lst vals) → Q (.ref p) H'
section
variable {w : World} {K : PySem.W.Frag} {mg : Str → Option Value} {base : Heap}
theorem scF : FnScope ["_law_error", "_law_names"] ["_law_error", "_law_names"] (defScope s_law_fields) := ⟨rfl, rfl, rfl, by decide +kernel, rfl, by decide +kernel, by decide +kernel⟩
theorem ok_fields {f : Addr} {fd : FuncData} (F : FnP K "_law_fields" s_law_fields f fd) : FnOk PP w K mg base CX0 1 f fd ["_law_error", "_law_names"] (spFields K) := by
  refine F.ok scF (fun vs H Q E h => ?_) (fun cdv A outer s H vs Q E hr h => ?_)
  · obtain ⟨e, C, nm, fs, vals, rfl, _⟩ := h
    rfl
  · obtain ⟨e, C, nm, fs, vals, rfl, he, ei, hv, k⟩ := h
    refine ⟨_, PSs.nox (pss_cons (ps_if (pt_cmpR op_eq (pv 1) pe_str (nomark _))
    (pss_one (ps_ret (pe_lst (pa_cons (pe_errF (pv 0)) (pa_cons (pe_errF (pv 0)) pa_nil)))))
    pss_nil)
  (pss_cons (ps_if (pt_cmpR op_eq (pv 1) pe_str (nomark _))
    (pss_one (ps_ret (pe_lst (pa_cons (pe_errF (pv 0)) (pa_cons (pe_errF (pv 0)) pa_nil)))))
    pss_nil)
  (pss_cons (ps_if (pt_cmpR op_in_seq (pv 1) (pe_tup (pa_cons pe_str (pa_cons pe_str pa_nil))) (by rfl))
    (pss_one (ps_ret (pe_ifExp (pt_cmpR op_eq (pv 1) pe_str (nomark _)) (pe_lst (pa_cons (pe_errF (pv 0)) pa_nil)) (pe_lst (pa_cons (pe_errF (pv 0)) pa_nil)))))
    pss_nil)
  (pss_cons (ps_if (pt_cmpR op_in_seq (pv 1) (pe_tup (pa_cons pe_str (pa_cons pe_str pa_nil))) (by rfl))
    (pss_one (ps_ret (pe_ifExp (pt_cmpR op_eq (pv 1) pe_str (nomark _)) (pe_lst (pa_cons (pe_errF (pv 0)) pa_nil)) (pe_lst (pa_cons (pe_errF (pv 0)) pa_nil)))))
    pss_nil)
  (pss_one (ps_ret (pe_ifExp (pt_cmpR op_eq (pv 1) pe_str (nomark _)) (pe_lst (pa_cons (pe_errF (pv 0)) pa_nil)) (pe_lst pa_nil)))))))), ?_⟩
    cases hv with
    | value h1 h2 =>
      refine ⟨_, rfl, rfl, _, rfl, itF (by decide +kernel) ?_⟩
      refine ⟨_, rfl, rfl, _, rfl, itF (by decide +kernel) ?_⟩
      refine ⟨_, rfl, by show 2 ≤ sizeLine; decide, fun t nt => ⟨t, _, rfl, .inr (SqT.of upd_same), rfl, rfl, _, rfl, itB (by decide +kernel) ?_⟩⟩
      refine ⟨_, rfl, rfl, _, rfl, itB (by decide +kernel) ?_⟩
      refine ⟨_, rfl, e, C, _, _, rfl, errAt_ex (Ex.new nt) he, ei, h1, h2, by show 1 ≤ sizeLine; decide, fun p np => k p _ ((Ex.new nt).trans (Ex.new np)) upd_same⟩
    | part h1 h2 =>
      refine ⟨_, rfl, rfl, _, rfl, itF (by decide +kernel) ?_⟩
      refine ⟨_, rfl, rfl, _, rfl, itF (by decide +kernel) ?_⟩
      refine ⟨_, rfl, by show 2 ≤ sizeLine; decide, fun t nt => ⟨t, _, rfl, .inr (SqT.of upd_same), rfl, rfl, _, rfl, itB (by decide +kernel) ?_⟩⟩
      refine ⟨_, rfl, rfl, _, rfl, itF (by decide +kernel) ?_⟩
      refine ⟨_, rfl, e, C, _, _, rfl, errAt_ex (Ex.new nt) he, ei, h1, h2, by show 1 ≤ sizeLine; decide, fun p np => k p _ ((Ex.new nt).trans (Ex.new np)) upd_same⟩
    | pair h1 h2 =>
      refine ⟨_, rfl, rfl, _, rfl, itF (by decide +kernel) ?_⟩
      refine ⟨_, rfl, rfl, _, rfl, itF (by decide +kernel) ?_⟩
      refine ⟨_, rfl, by show 2 ≤ sizeLine; decide, fun t nt => ⟨t, _, rfl, .inr (SqT.of upd_same), rfl, rfl, _, rfl, itF (by decide +kernel) ?_⟩⟩
      refine ⟨_, rfl, by show 2 ≤ sizeLine; decide, fun u nu => ⟨u, _, rfl, .inr (SqT.of upd_same), rfl, rfl, _, rfl, itB (by decide +kernel) ?_⟩⟩
      refine ⟨_, rfl, rfl, _, rfl, itB (by decide +kernel) ?_⟩
      refine ⟨_, rfl, e, C, _, _, rfl, errAt_ex ((Ex.new nt).trans (Ex.new nu)) he, ei, h1, h2, by show 1 ≤ sizeLine; decide, fun p np => k p _ (((Ex.new nt).trans (Ex.new nu)).trans (Ex.new np)) upd_same⟩
    | word h1 h2 =>
      refine ⟨_, rfl, rfl, _, rfl, itF (by decide +kernel) ?_⟩
      refine ⟨_, rfl, rfl, _, rfl, itF (by decide +kernel) ?_⟩
      refine ⟨_, rfl, by show 2 ≤ sizeLine; decide, fun t nt => ⟨t, _, rfl, .inr (SqT.of upd_same), rfl, rfl, _, rfl, itF (by decide +kernel) ?_⟩⟩
      refine ⟨_, rfl, by show 2 ≤ sizeLine; decide, fun u nu => ⟨u, _, rfl, .inr (SqT.of upd_same), rfl, rfl, _, rfl, itB (by decide +kernel) ?_⟩⟩
      refine ⟨_, rfl, rfl, _, rfl, itF (by decide +kernel) ?_⟩
      refine ⟨_, rfl, e, C, _, _, rfl, errAt_ex ((Ex.new nt).trans (Ex.new nu)) he, ei, h1, h2, by show 1 ≤ sizeLine; decide, fun p np => k p _ (((Ex.new nt).trans (Ex.new nu)).trans (Ex.new np)) upd_same⟩
    | name h1 h2 =>
      refine ⟨_, rfl, rfl, _, rfl, itF (by decide +kernel) ?_⟩
      refine ⟨_, rfl, rfl, _, rfl, itF (by decide +kernel) ?_⟩
      refine ⟨_, rfl, by show 2 ≤ sizeLine; decide, fun t nt => ⟨t, _, rfl, .inr (SqT.of upd_same), rfl, rfl, _, rfl, itF (by decide +kernel) ?_⟩⟩
      refine ⟨_, rfl, by show 2 ≤ sizeLine; decide, fun u nu => ⟨u, _, rfl, .inr (SqT.of upd_same), rfl, rfl, _, rfl, itF (by decide +kernel) ?_⟩⟩
      refine ⟨_, rfl, rfl, _, rfl, itB (by decide +kernel) ?_⟩
      refine ⟨_, rfl, e, C, _, _, rfl, errAt_ex ((Ex.new nt).trans (Ex.new nu)) he, ei, h1, h2, by show 1 ≤ sizeLine; decide, fun p np => k p _ (((Ex.new nt).trans (Ex.new nu)).trans (Ex.new np)) upd_same⟩
    | lw h1 h2 h3 h4 =>
      refine ⟨_, rfl, rfl, _, rfl, itB (by decide +kernel) ?_⟩
      exact ⟨_, rfl, e, C, _, _, rfl, he, ei, h1, h3, _, rfl, e, C, _, _, rfl, he, ei, h2, h4, by show 2 ≤ sizeLine; decide, fun p np => k p _ (Ex.new np) upd_same⟩
    | wm h1 h2 h3 h4 =>
      refine ⟨_, rfl, rfl, _, rfl, itF (by decide +kernel) ?_⟩
      refine ⟨_, rfl, rfl, _, rfl, itB (by decide +kernel) ?_⟩
      exact ⟨_, rfl, e, C, _, _, rfl, he, ei, h1, h3, _, rfl, e, C, _, _, rfl, he, ei, h2, h4, by show 2 ≤ sizeLine; decide, fun p np => k p _ (Ex.new np) upd_same⟩
    | non =>
      refine ⟨_, rfl, rfl, _, rfl, itF (by decide +kernel) ?_⟩
      refine ⟨_, rfl, rfl, _, rfl, itF (by decide +kernel) ?_⟩
      refine ⟨_, rfl, by show 2 ≤ sizeLine; decide, fun t nt => ⟨t, _, rfl, .inr (SqT.of upd_same), rfl, rfl, _, rfl, itF (by decide +kernel) ?_⟩⟩
      refine ⟨_, rfl, by show 2 ≤ sizeLine; decide, fun u nu => ⟨u, _, rfl, .inr (SqT.of upd_same), rfl, rfl, _, rfl, itF (by decide +kernel) ?_⟩⟩
      refine ⟨_, rfl, rfl, _, rfl, itF (by decide +kernel) ?_⟩
      exact ⟨Nat.zero_le _, fun p np => k p _ (((Ex.new nt).trans (Ex.new nu)).trans (Ex.new np)) upd_same⟩
end
end My


set_option Elab.async false
set_option linter.all false
set_option maxRecDepth 100000
set_option maxHeartbeats 4000000
namespace My
open PySem L2 MyErr MyHead EvLib Evl He
theorem relRef (a : Addr) : RelV (.ref a) (Value.ref a) := rfl
def PB (i k : Nat) : VP := fun v _ => v = .bl (decide (i = k))
theorem pb_mono {i : Nat} : ∀ k, Mono (PB i k) := fun _ _ _ _ _ h => h
theorem ev_isi {K : PySem.W.Frag} {σ : L2.St} {H : Hp} {e C : Addr} {i j n : Nat} {fs : Option (List (Str × V))} {c : Addr} (hv : σ[n]? = some (some (.ref e))) (he : ErrAt H e C fs) (ei : EI K C) (hk : PySem.W.kitOne K (.ref C) (.ref c) = some (decide (i = j))) :
    EvP (tCB (rIsErr K) (tCons (tVar n) (tCons (tC (.ref c)) tNil))) σ H (PB i j) := fun H1 x Q q => ⟨_, hv, e, C, fs, _, .ref c, _, rfl, errAt_ex x he, ei, fun u r => r, hk, q _ H1 (Ex.refl _) rfl⟩
/-- of _law_classes: the one place -/
def spCls (K : PySem.W.Frag) : Sp := fun vs H Q _ => ∃ (e : Addr) (i : Nat) (fs : Option (List (Str × V))), vs = [.ref e] ∧ i < 22 ∧ ErrAt H e (cls K i) fs ∧ ∀ p H', Ex H H' → H' p = some (.lst [.int (i : Nat)]) → Q (.ref p) H'
theorem names_apart : ∀ i < 22, ∀ j < 22, (errNames.getD i "" == errNames.getD j "") = decide (i = j) := by decide +kernel
theorem names_in : ∀ i < 22, errNames.getD i "" ∈ errNames := by decide +kernel
theorem kit_of {K : PySem.W.Frag} (h : exIs K = true) {i : Nat} (hi : i < 22) (j : Nat) (hj : j < 22) : PySem.W.kitOne K (.ref (cls K i)) (.ref (cls K j)) = some (decide (i = j)) := by
  have h1 := (ba h).1
  have h2 := List.all_eq_true.mp (List.all_eq_true.mp h1 _ (names_in i hi)) _ (names_in j hj)
  rw [← names_apart i hi j hj]
  exact of_decide_eq_true h2
section
variable {w : World} {K : PySem.W.Frag} {mg : Str → Option Value} {base : Heap} {fds : Nat → FuncData}
theorem scC : FnScope ["_law_error", "_law_told", "_law_spot"] ["_law_error"] (defScope s_law_classes) := ⟨rfl, rfl, rfl, by decide +kernel, rfl, by decide +kernel, by decide +kernel⟩
theorem ok_cls {f : Addr} {fd : FuncData} (F : FnP K "_law_classes" s_law_classes f fd) (U : Errs w K mg base fds) (hx : exIs K = true) (hei : ∀ i < 22, EI K (cls K i)) (hI : mg "isinstance" = none) (hR : mg "range" = none) : FnOk PP w K mg base CX0 1 f fd ["_law_error"] (spCls K) := by
  refine F.ok scC (fun vs H Q E h => ?_) (fun cdv A outer s H vs Q E hr h => ?_)
  · obtain ⟨e, i, fs, rfl, _⟩ := h
    rfl
  · obtain ⟨e, i, fs, rfl, hi, he, k⟩ := h
    have mP := pb_mono (i := i)
    have ei := hei i hi
    have kit : ∀ {j : Nat}, (j < 22) → PySem.W.kitOne K (.ref (cls K i)) (.ref (cls K j)) = some (decide (i = j)) := fun {j} hj => kit_of hx hi j hj
    refine ⟨_, PSs.nox (pss_cons (ps_set (i := 1) scC.nd rfl (Or.inr rfl) (pe_lst (pa_cons (pe_callB call_isErr (by rfl) hI (by decide +kernel) (pa_cons (pv 0) (pa_cons (pe_glob rfl U.BadName.gl (relRef _)) pa_nil))) (pa_cons (pe_callB call_isErr (by rfl) hI (by decide +kernel) (pa_cons (pv 0) (pa_cons (pe_glob rfl U.BadAmount.gl (relRef _)) pa_nil))) (pa_cons (pe_callB call_isErr (by rfl) hI (by decide +kernel) (pa_cons (pv 0) (pa_cons (pe_glob rfl U.BadWorth.gl (relRef _)) pa_nil))) pa_nil)))))
      (pss_cons (ps_set (i := 1) scC.nd rfl (Or.inr rfl) (pe_op op_cat (pv 1) (pe_lst (pa_cons (pe_callB call_isErr (by rfl) hI (by decide +kernel) (pa_cons (pv 0) (pa_cons (pe_glob rfl U.BadTable.gl (relRef _)) pa_nil))) (pa_cons (pe_callB call_isErr (by rfl) hI (by decide +kernel) (pa_cons (pv 0) (pa_cons (pe_glob rfl U.BadSide.gl (relRef _)) pa_nil))) (pa_cons (pe_callB call_isErr (by rfl) hI (by decide +kernel) (pa_cons (pv 0) (pa_cons (pe_glob rfl U.BadFilling.gl (relRef _)) pa_nil))) pa_nil))))))
      (pss_cons (ps_set (i := 1) scC.nd rfl (Or.inr rfl) (pe_op op_cat (pv 1) (pe_lst (pa_cons (pe_callB call_isErr (by rfl) hI (by decide +kernel) (pa_cons (pv 0) (pa_cons (pe_glob rfl U.BadPair.gl (relRef _)) pa_nil))) (pa_cons (pe_callB call_isErr (by rfl) hI (by decide +kernel) (pa_cons (pv 0) (pa_cons (pe_glob rfl U.BadOrder.gl (relRef _)) pa_nil))) (pa_cons (pe_callB call_isErr (by rfl) hI (by decide +kernel) (pa_cons (pv 0) (pa_cons (pe_glob rfl U.BadBars.gl (relRef _)) pa_nil))) pa_nil))))))
      (pss_cons (ps_set (i := 1) scC.nd rfl (Or.inr rfl) (pe_op op_cat (pv 1) (pe_lst (pa_cons (pe_callB call_isErr (by rfl) hI (by decide +kernel) (pa_cons (pv 0) (pa_cons (pe_glob rfl U.BadSeen.gl (relRef _)) pa_nil))) (pa_cons (pe_callB call_isErr (by rfl) hI (by decide +kernel) (pa_cons (pv 0) (pa_cons (pe_glob rfl U.BadOffer.gl (relRef _)) pa_nil))) (pa_cons (pe_callB call_isErr (by rfl) hI (by decide +kernel) (pa_cons (pv 0) (pa_cons (pe_glob rfl U.BadRule.gl (relRef _)) pa_nil))) pa_nil))))))
      (pss_cons (ps_set (i := 1) scC.nd rfl (Or.inr rfl) (pe_op op_cat (pv 1) (pe_lst (pa_cons (pe_callB call_isErr (by rfl) hI (by decide +kernel) (pa_cons (pv 0) (pa_cons (pe_glob rfl U.BadDay.gl (relRef _)) pa_nil))) (pa_cons (pe_callB call_isErr (by rfl) hI (by decide +kernel) (pa_cons (pv 0) (pa_cons (pe_glob rfl U.BadLedger.gl (relRef _)) pa_nil))) (pa_cons (pe_callB call_isErr (by rfl) hI (by decide +kernel) (pa_cons (pv 0) (pa_cons (pe_glob rfl U.BadText.gl (relRef _)) pa_nil))) pa_nil))))))
      (pss_cons (ps_set (i := 1) scC.nd rfl (Or.inr rfl) (pe_op op_cat (pv 1) (pe_lst (pa_cons (pe_callB call_isErr (by rfl) hI (by decide +kernel) (pa_cons (pv 0) (pa_cons (pe_glob rfl U.BadLine.gl (relRef _)) pa_nil))) (pa_cons (pe_callB call_isErr (by rfl) hI (by decide +kernel) (pa_cons (pv 0) (pa_cons (pe_glob rfl U.NoName.gl (relRef _)) pa_nil))) (pa_cons (pe_callB call_isErr (by rfl) hI (by decide +kernel) (pa_cons (pv 0) (pa_cons (pe_glob rfl U.NoPair.gl (relRef _)) pa_nil))) pa_nil))))))
      (pss_cons (ps_set (i := 1) scC.nd rfl (Or.inr rfl) (pe_op op_cat (pv 1) (pe_lst (pa_cons (pe_callB call_isErr (by rfl) hI (by decide +kernel) (pa_cons (pv 0) (pa_cons (pe_glob rfl U.Lacking.gl (relRef _)) pa_nil))) (pa_cons (pe_callB call_isErr (by rfl) hI (by decide +kernel) (pa_cons (pv 0) (pa_cons (pe_glob rfl U.TooMany.gl (relRef _)) pa_nil))) (pa_cons (pe_callB call_isErr (by rfl) hI (by decide +kernel) (pa_cons (pv 0) (pa_cons (pe_glob rfl U.IsNested.gl (relRef _)) pa_nil))) pa_nil))))))
      (pss_one (ps_ret (pe_lc (own := [("_law_spot", 2)]) (g := gName 2) (tt := tB (tOp (rIxL K) (tOp rCat (tVar 1) (tLst (tCons (tCB (rIsErr K) (tCons (tVar 0) (tCons (tC (.ref (e_NoChange.C K))) tNil))) tNil))) (tVar 2))) (te := tVar 2) (by rfl) scC.nd (pi_range1 rfl hR (pa_cons pe_int pa_nil)) (blkOk_by (own := [("_law_spot", 2)]) (N := ["_law_error", "_law_told", "_law_spot"]) (sc := defScope s_law_classes) (by decide +kernel)) (fun _ _ _ _ _ => pg_name (i := 2) scC.nd rfl (Or.inl rfl)) (fun _ _ _ _ _ => pts_one (pt_val (pe_ix ix_list (pe_op op_cat (pv 1) (pe_lst (pa_cons (pe_callB call_isErr (by rfl) hI (by decide +kernel) (pa_cons (pv 0) (pa_cons (pe_glob rfl U.NoChange.gl (relRef _)) pa_nil))) pa_nil))) (pv 2) (fun _ _ => rfl)))) (fun _ _ _ _ _ => pv 2))))))))))), ?_⟩
    refine st_set (ev_lp (P := PB i) (k := 0) mP (by decide) (ev_all_cons mP (ev_isi rfl (errAt_ex (Ex.refl H) he) ei (kit (j := 0) (by decide))) (ev_all_cons mP (ev_isi rfl (errAt_ex (Ex.refl H) he) ei (kit (j := 1) (by decide))) (ev_all_cons mP (ev_isi rfl (errAt_ex (Ex.refl H) he) ei (kit (j := 2) (by decide))) ev_all_nil)))) (fun v H1 y1 h1 => ?_)
    refine st_set (ev_cat mP (by decide) rfl h1 (ev_lp (P := PB i) (k := 3) mP (by decide) (ev_all_cons mP (ev_isi rfl (errAt_ex y1 he) ei (kit (j := 3) (by decide))) (ev_all_cons mP (ev_isi rfl (errAt_ex y1 he) ei (kit (j := 4) (by decide))) (ev_all_cons mP (ev_isi rfl (errAt_ex y1 he) ei (kit (j := 5) (by decide))) ev_all_nil))))) (fun v H2 x2 h2 => ?_)
    have y2 := y1.trans x2
    refine st_set (ev_cat mP (by decide) rfl h2 (ev_lp (P := PB i) (k := 6) mP (by decide) (ev_all_cons mP (ev_isi rfl (errAt_ex y2 he) ei (kit (j := 6) (by decide))) (ev_all_cons mP (ev_isi rfl (errAt_ex y2 he) ei (kit (j := 7) (by decide))) (ev_all_cons mP (ev_isi rfl (errAt_ex y2 he) ei (kit (j := 8) (by decide))) ev_all_nil))))) (fun v H3 x3 h3 => ?_)
    have y3 := y2.trans x3
    refine st_set (ev_cat mP (by decide) rfl h3 (ev_lp (P := PB i) (k := 9) mP (by decide) (ev_all_cons mP (ev_isi rfl (errAt_ex y3 he) ei (kit (j := 9) (by decide))) (ev_all_cons mP (ev_isi rfl (errAt_ex y3 he) ei (kit (j := 10) (by decide))) (ev_all_cons mP (ev_isi rfl (errAt_ex y3 he) ei (kit (j := 11) (by decide))) ev_all_nil))))) (fun v H4 x4 h4 => ?_)
    have y4 := y3.trans x4
    refine st_set (ev_cat mP (by decide) rfl h4 (ev_lp (P := PB i) (k := 12) mP (by decide) (ev_all_cons mP (ev_isi rfl (errAt_ex y4 he) ei (kit (j := 12) (by decide))) (ev_all_cons mP (ev_isi rfl (errAt_ex y4 he) ei (kit (j := 13) (by decide))) (ev_all_cons mP (ev_isi rfl (errAt_ex y4 he) ei (kit (j := 14) (by decide))) ev_all_nil))))) (fun v H5 x5 h5 => ?_)
    have y5 := y4.trans x5
    refine st_set (ev_cat mP (by decide) rfl h5 (ev_lp (P := PB i) (k := 15) mP (by decide) (ev_all_cons mP (ev_isi rfl (errAt_ex y5 he) ei (kit (j := 15) (by decide))) (ev_all_cons mP (ev_isi rfl (errAt_ex y5 he) ei (kit (j := 16) (by decide))) (ev_all_cons mP (ev_isi rfl (errAt_ex y5 he) ei (kit (j := 17) (by decide))) ev_all_nil))))) (fun v H6 x6 h6 => ?_)
    have y6 := y5.trans x6
    refine st_set (ev_cat mP (by decide) rfl h6 (ev_lp (P := PB i) (k := 18) mP (by decide) (ev_all_cons mP (ev_isi rfl (errAt_ex y6 he) ei (kit (j := 18) (by decide))) (ev_all_cons mP (ev_isi rfl (errAt_ex y6 he) ei (kit (j := 19) (by decide))) (ev_all_cons mP (ev_isi rfl (errAt_ex y6 he) ei (kit (j := 20) (by decide))) ev_all_nil))))) (fun v H7 x7 h7 => ?_)
    have y7 := y6.trans x7
    -- [spot for spot in range(22) if ..]
    have e7 := errAt_ex y7 he
    refine ⟨22, rfl, by decide, by decide, fun D nD => ?_⟩
    obtain ⟨p7, ts, rfl, q7, l7, a7⟩ := h7
    have nD7 : p7 ≠ D := ne_of_none q7 nD
    refine lc_range (lo := 0) (n := 22) (fun j H' => Ex H7 H' ∧ H' D = some (.lst (if i < j then [.int (i : Nat)] else []))) ⟨Ex.new nD, by rw [upd_same]; rfl⟩ ?_ ?_
    · rintro j H' hj ⟨z, hD⟩
      refine ⟨rfl, _, rfl, _, rfl, e, cls K i, fs, _, _, _, rfl, errAt_ex z e7, ei, fun u r => r, kit (j := 21) (by decide), by show 1 ≤ sizeLine; decide, fun q nq => ?_⟩
      have z1 := z.trans (Ex.new (o := .lst [.bl (decide (i = 21))]) nq)
      have lt : ts.length + 1 ≤ sizeLine := sz_of (by omega)
      refine ⟨p7, q, ts, _, rfl, rfl, z1 _ _ q7, upd_same, lt, fun r nr => ?_⟩
      have aj : ∀ (m : Nat) (hm : m < 22), (ts ++ [V.bl (decide (i = 21))])[m]? = some (.bl (decide (i = m))) := fun m hm => by
        by_cases h21 : m < 21
        · rw [List.getElem?_append_left (by omega)]
          have e1 := List.getElem?_eq_getElem (l := ts) (i := m) (by omega)
          rw [e1]
          have e2 : PB i (0 + m) ts[m] H7 := All.get a7 e1
          have e3 : ts[m] = .bl (decide (i = 0 + m)) := e2
          rw [e3, Nat.zero_add]
        · obtain rfl : m = 21 := by omega
          rw [List.getElem?_append_right (by omega), l7]
          rfl
      have z2 := z1.trans (Ex.new (o := .lst (ts ++ [.bl (decide (i = 21))])) nr)
      have hD2 : upd (upd H' q (.lst [.bl (decide (i = 21))])) r (.lst (ts ++ [.bl (decide (i = 21))])) D = some (.lst (if i < j then [.int (i : Nat)] else [])) := (Ex.new nq).trans (Ex.new nr) _ _ hD
      have eat : atI (ts ++ [V.bl (decide (i = 21))]) (0 + (j : Int)) = some (.bl (decide (i = j))) := by
        rw [Int.zero_add]
        exact atI_nat (aj j hj)
      refine ⟨_, rfl, r, _, _, _, rfl, rfl, SqL.of upd_same, eat, _, rfl, ?_⟩
      refine ite2 (fun c => ?_) (fun c => ?_)
      · have c' : i = j := of_decide_eq_true c
        subst c'
        rw [if_neg (Nat.lt_irrefl i)] at hD2
        refine ⟨_, rfl, [], hD2, by decide, Ex.mut z2 nD, ?_⟩
        rw [upd_same, if_pos (Nat.lt_succ_self i)]
        show some (HO.lst [V.int (0 + (i : Int))]) = _
        rw [Int.zero_add]
      · refine ⟨z2, ?_⟩
        have c' : ¬ i = j := fun y => c (decide_eq_true y)
        rw [hD2]
        by_cases hij : i < j
        · rw [if_pos hij, if_pos (by omega)]
        · rw [if_neg hij, if_neg (by omega)]
    · rintro H' ⟨z, hD⟩
      rw [if_pos hi] at hD
      exact k D H' (y7.trans z) hD
end
end My


set_option Elab.async false
set_option linter.all false
set_option maxRecDepth 100000
set_option maxHeartbeats 4000000
/-! a law's end where the body of law itself asks what runs around it (callerA: no guard is up) -/
namespace GEnd
open PySem PySem.Spec PyProof.Rows L2
/-- one call of a def, where it stands -/
theorem call_at {CX : CXT} {P : Program} {w : World} {K : PySem.W.Frag} {mg : Str → Option Value} {base : Heap} {k : Nat} {f : Addr} {x qual : Str} {params : Arguments} {body : List Stmt} {scope : Scope} {fd : FuncData} {N ps : List Str}
    {A : Around} {outer : List Env} {s : Shared} {H : Hp} {args : Args} {us : List Value} {vs : List V} {Q : VK} {E : XK} (F : FunD K x qual params body scope [] [] f fd) (S : FnScope N ps scope) (hr : Room (k + 1) A) (e0 : Env0 P w K mg base A outer s H) (hb : BindsTo s fd args (ps.zip us)) (r : Vals vs us) (hl : vs.length = ps.length)
    (run : ∀ cdv : Value, Room k (A.deeper (envOfC qual scope s.heap.objs.size f cdv)) → ∃ t, PSs (cxOf CX P w K mg base N qual scope f cdv A outer s H E) body t ∧ t { nx := fun _ H' => Q .non H', rt := Q } (start N vs) H) :
    codeAny (model P w) A (.call (.ref f) args) (CR CX outer P w H s Q E) s := by
  obtain ⟨oc, od, dV, kV, doc, pm, an, cdv, ct, osl, rfl, lk, hcd, _, _⟩ := F.ex
  have kb : ∀ b o, base.get? b = some o → s.heap.get? b = some o := fun b o e => (e0.bs b o e).1
  have KX : K.In s.heap := e0.mod.kin.keeps kb
  have kinds : ∀ y ∈ ps.zip us, scope.names.lookup y.1 = some .local ∨ (scope.names.lookup y.1 = some .cell ∧ ((cellsFrom (s.heap.objs.size + 1) scope.names []).lookup y.1).isSome = true) := by
    rintro ⟨z, u⟩ hy
    rcases S.par z (List.of_mem_zip hy).1 with q | q
    · exact .inl q
    · exact .inr ⟨q, PySem.W.cellsFrom_some _ _ _ (.inl q)⟩
  obtain ⟨t, ht, hq⟩ := run cdv (hr.deeper _)
  refine codeAny_call_function hr.depth (KX _ _ lk) rfl S.co S.gen rfl (PySem.W.codeRec_of KX hcd) (hb _ _ _ _ ?_)
  refine wpAny_newFunctionEnv_cells S.kind kinds fun env he s1 ic => ?_
  subst he
  refine ⟨(e0.mod.nolimit.keeps kb).keeps ic.toInCall.keep, codeAny_func ?_⟩
  have I : Inv (cxOf CX P w K mg base N qual scope f cdv A outer s H E) [] (start N vs) H s1 := inv_start S hr.hd e0 hl r ic
  refine wpAny_mono (ht.run [] s1 (start N vs) H _ I hq) (fun fl s' hs => ?_) fun e s' hs => hs
  cases fl with
  | ret u =>
    obtain ⟨v, σ', H', J, rv, q⟩ := hs
    exact ⟨v, H', J.os, J.bare, J.base, J.hok, rv, q⟩
  | next =>
    obtain ⟨σ', H', J, q⟩ := hs
    exact ⟨V.non, H', J.os, J.bare, J.base, J.hok, rfl, q⟩
  | brk => exact (hs.choose_spec.choose_spec.2 : False).elim
  | cont => exact (hs.choose_spec.choose_spec.2 : False).elim
end GEnd
namespace GEnd
open PySem PySem.Spec PyProof.Rows L2
/-- from an abstract heap that tracks at most the script, locked -/
theorem core {P : Program} {w : World} {K : PySem.W.Frag} {mg mb : Str → Option Value} {fa a : Addr} {s : Shared} {vs : List Value} {H : Hp} (KX : K.In s.heap) (hns : s.heap.Ns mainGlobals mg) (hb : s.heap.Ns builtinsNs mb) (hbb : ∀ x : Str, x ≠ "__name__" → mb x = bootBuiltins x)
    (hlim : s.heap.NoLimit) (hg : s.gens = #[]) (ha : s.heap.get? a = some { cls := .type "list", data := .seq vs.toArray }) (hO : Only H) (hok : HOk P w H s.heap) (hA : ∀ b, H b ≠ none → b = a) (hK : H a ≠ none → K.lookup a = none)
    (run : ∀ base : Heap, K.In base → base.Ns mainGlobals mg → Env0 P w K mg base callerA [] s H → codeAny (model P w) callerA (.call (.ref fa) ⟨[.ref a], []⟩) (CR CX0 [] P w H s (fun v _ => v = .bl true) (fun _ _ _ => False)) s) :
    codeAny (model P w) callerA (.call (.ref fa) ⟨[.ref a], []⟩) (fun r s' => r = .ok (.ret (.bool true)) ∧ OldK s.heap s'.heap ∧ s'.os = s.os ∧ AllBare s'.gens) s := by
  -- a dict of the heap is not the script
  have off : ∀ {b : Addr} {o : Obj} {es : Array DictEntry} {ep : Nat}, s.heap.get? b = some o → o.data = .dict es ep → H b = none := by
    intro b o es ep e d
    cases q : H b with
    | none => rfl
    | some u =>
      have z : b = a := hA b fun y => by rw [q] at y; cases y
      rw [z, ha] at e
      cases e
      exact absurd d fun y => nomatch y
  have nsK : ∀ {b : Addr} {m : Str → Option Value}, s.heap.Ns b m → (hidT s.heap H).Ns b m := by
    rintro b m ⟨o, es, ep, e, d, r⟩
    exact ⟨o, es, ep, hidT_get e (off e d), d, r⟩
  have inK : K.In (hidT s.heap H) := fun b o e => hidT_get (KX b o e) (by
    cases q : H b with
    | none => rfl
    | some u =>
      have z : b = a := hA b fun y => by rw [q] at y; cases y
      rw [z] at e q
      rw [hK fun y => by rw [q] at y; cases y] at e
      cases e)
  have M : Mod K mg (hidT s.heap H) := ⟨inK, nsK hns, ⟨mb, nsK hb, hbb⟩, hlim.imp fun mc h => ⟨nsK h.1, h.2⟩⟩
  have e0 : Env0 P w K mg (hidT s.heap H) callerA [] s H := ⟨rfl, M, fun b o e => of_hidT e, Nat.le_of_eq (hidT_size _ _), trivial, fun b z => absurd (show b ∈ ([] : List Addr) from z) (by simp), hok, .of_eq hg⟩
  refine codeAny_mono (run _ inK (nsK hns) e0) fun r s' h => ?_
  match r, h with
  | .error _, h => exact h.elim
  | .ok .next, h => exact h.elim
  | .ok .brk, h => exact h.elim
  | .ok .cont, h => exact h.elim
  | .ok (.ret u), h =>
    obtain ⟨v, H', os, bare, un, hok', rv, q⟩ := h
    obtain rfl : v = .bl true := q
    obtain rfl : u = Value.bool true := rv
    refine ⟨rfl, OldK.of_keep fun b o e => ?_, os, bare⟩
    rcases hO b with z | ⟨ob, xs, z⟩
    · exact un.keep b o e z (fun y => absurd (show b ∈ ([] : List Addr) from y) (by simp)) (by simp)
    · have z1 := (hok b _ z).1
      have z2 := (hok' b _ (un.frzs b ob _ z)).1
      rw [e] at z1
      cases z1
      exact z2
theorem law_at {P : Program} {w : World} {K : PySem.W.Frag} {mg mb : Str → Option Value} {fa a : Addr} {s : Shared} {vs : List Value} {ns : List Int} (KX : K.In s.heap) (hns : s.heap.Ns mainGlobals mg) (hb : s.heap.Ns builtinsNs mb) (hbb : ∀ x : Str, x ≠ "__name__" → mb x = bootBuiltins x)
    (hlim : s.heap.NoLimit) (hg : s.gens = #[]) (ha : s.heap.get? a = some { cls := .type "list", data := .seq vs.toArray }) (hi : IntsAre vs ns) (hl : ns.length ≤ sizeLine)
    (run : ∀ (base : Heap) (H : Hp), K.In base → base.Ns mainGlobals mg → Env0 P w K mg base callerA [] s H → SqL K H a (ns.map V.int) → codeAny (model P w) callerA (.call (.ref fa) ⟨[.ref a], []⟩) (CR CX0 [] P w H s (fun v _ => v = .bl true) (fun _ _ _ => False)) s) :
    codeAny (model P w) callerA (.call (.ref fa) ⟨[.ref a], []⟩) (fun r s' => r = .ok (.ret (.bool true)) ∧ OldK s.heap s'.heap ∧ s'.os = s.os ∧ AllBare s'.gens) s := by
  have rv := vals_ints hi
  cases hk : K.lookup a with
  | some o =>
    have e := KX a o hk
    rw [ha] at e
    cases e
    have sq : SqL K (fun _ => none) a (ns.map V.int) := .inr ⟨_, vs.toArray, _, hk, rfl, rfl, rfl, by rw [List.size_toArray, hi.length]; exact hl, by simpa using rv⟩
    exact core (H := fun _ => none) KX hns hb hbb hlim hg ha (fun _ => .inl rfl) (fun b u z => nomatch (show (none : Option HO) = some u from z)) (fun b z => absurd rfl z) (fun z => absurd rfl z) fun base k1 k2 e0 => run base _ k1 k2 e0 sq
  | none =>
    have hp : ∀ b, b = a → (if b = a then some (HO.frz { cls := .type "list", data := .seq vs.toArray } (.lst (ns.map V.int))) else none) = some (HO.frz { cls := .type "list", data := .seq vs.toArray } (.lst (ns.map V.int))) := fun b z => if_pos z
    have hn : ∀ b, ¬ b = a → (if b = a then some (HO.frz { cls := .type "list", data := .seq vs.toArray } (.lst (ns.map V.int))) else none) = none := fun b z => if_neg z
    refine core (H := fun b => if b = a then some (.frz { cls := .type "list", data := .seq vs.toArray } (.lst (ns.map V.int))) else none) KX hns hb hbb hlim hg ha (fun b => ?_) (fun b u z => ?_) (fun b z => ?_) (fun _ => hk) fun base k1 k2 e0 => run base _ k1 k2 e0 (.inl (.inr ⟨_, hp a rfl⟩))
    · by_cases h : b = a
      · exact .inr ⟨_, _, hp b h⟩
      · exact .inl (hn b h)
    · by_cases h : b = a
      · have y := (hp b h).symm.trans z
        cases y
        rw [h]
        exact ⟨ha, by rw [List.length_map]; exact hl, vs, _, rv, ha⟩
      · have y := (hn b h).symm.trans z
        cases y
    · by_cases h : b = a
      · exact h
      · exact absurd (hn b h) z
/-- the goal that the head leaves, from the law's body as it runs -/
theorem walk_at {l : PySem.W.OpenLaw} {n k : Nat} {q : Program} {loose : List Str} {XP : (Str → Option Value) → Heap → Prop} {YP : World → Heap → Prop} {d : DefRec} {x : Str} {N : List Str}
    (hn : l.most = some n) (hn2 : n ≤ sizeLine) (hdf : d.params.defaults = []) (hr : Room (k + 1) callerA)
    (F : ∀ (w : World) (mg : Str → Option Value) (fa : Addr) (h : Heap), YP w h → h.Ns mainGlobals mg → mg d.name = some (.ref fa) →
      ∃ (K : PySem.W.Frag) (fd : FuncData) (y qual : Str) (params : Arguments) (body : List Stmt) (scope : Scope), K.In h ∧ FunD K y qual params body scope [] [] fa fd ∧ FnScope N [x] scope ∧ (∀ (s : Shared) (u : Value), BindsTo s fd ⟨[u], []⟩ [(x, u)]) ∧
        ∀ (base : Heap) (s : Shared) (H : Hp) (a : Addr) (ns : List Int) (cdv : Value), K.In base → base.Ns mainGlobals mg → Mod K mg base → ns.length ≤ n → SqL K H a (ns.map V.int) → Room k (callerA.deeper (envOfC qual scope s.heap.objs.size fa cdv)) →
          ∃ t, PSs (cxOf CX0 l.prog w K mg base N qual scope fa cdv callerA [] s H (fun _ _ _ => False)) body t ∧ t { nx := fun _ _ => V.non = .bl true, rt := fun v _ => v = .bl true } (start N [.ref a]) H) :
    PySem.W.WalkO q loose XP YP l.row.toRowW d [] (fun f vs => PySem.call f vs) := by
  refine Att.attach_call hn hdf fun w s₀ s₁ mg mb fa o pm cd doc a vs ns G Y ho hd hcd hmg hobj hints hlen hg => ?_
  obtain ⟨K, fd, y, qual, params, body, scope, KX, Fd, S, hb, run⟩ := F w mg fa _ Y G.T.g hmg
  refine law_at KX G.T.g G.T.b G.T.builtins G.T.nolimit hg hobj hints (Nat.le_trans hlen hn2) fun base H k1 k2 e0 sq => ?_
  exact call_at (us := [.ref a]) (vs := [.ref a]) Fd S hr e0 (hb s₁ (.ref a)) (.cons rfl .nil) rfl fun cdv hr' => run base s₁ H a ns cdv k1 k2 e0.mod hlen sq hr'
end GEnd


set_option Elab.async false
set_option linter.all false
set_option maxRecDepth 100000
set_option maxHeartbeats 4000000
namespace My
open PySem L2 MyErr MyHead EvLib Evl He
section
variable {w : World} {K : PySem.W.Frag} {mg : Str → Option Value} {base : Heap} {fds : Nat → FuncData}
theorem fvM (U : Errs w K mg base fds) {one two : V} : ∀ i, i < 22 → FV K (cls K i) (nmk i) (ofk one two i) (vlk one two i)
  | 0, _ => .value U.BadName.no rfl
  | 1, _ => .value U.BadAmount.no rfl
  | 2, _ => .value U.BadWorth.no rfl
  | 3, _ => .part U.BadTable.no rfl
  | 4, _ => .part U.BadSide.no rfl
  | 5, _ => .part U.BadFilling.no rfl
  | 6, _ => .value U.BadPair.no rfl
  | 7, _ => .part U.BadOrder.no rfl
  | 8, _ => .part U.BadBars.no rfl
  | 9, _ => .part U.BadSeen.no rfl
  | 10, _ => .part U.BadOffer.no rfl
  | 11, _ => .part U.BadRule.no rfl
  | 12, _ => .value U.BadDay.no rfl
  | 13, _ => .part U.BadLedger.no rfl
  | 14, _ => .lw U.BadText.no U.BadText.nm rfl rfl
  | 15, _ => .word U.BadLine.no rfl
  | 16, _ => .name U.NoName.no rfl
  | 17, _ => .pair U.NoPair.no rfl
  | 18, _ => .name U.Lacking.no rfl
  | 19, _ => .wm U.TooMany.no U.TooMany.nm rfl rfl
  | 20, _ => .non
  | 21, _ => .non
  | _ + 22, h => absurd h (by omega)
theorem eiAll (U : Errs w K mg base fds) : ∀ i, i < 22 → EI K (cls K i)
  | 0, _ => U.BadName.ei
  | 1, _ => U.BadAmount.ei
  | 2, _ => U.BadWorth.ei
  | 3, _ => U.BadTable.ei
  | 4, _ => U.BadSide.ei
  | 5, _ => U.BadFilling.ei
  | 6, _ => U.BadPair.ei
  | 7, _ => U.BadOrder.ei
  | 8, _ => U.BadBars.ei
  | 9, _ => U.BadSeen.ei
  | 10, _ => U.BadOffer.ei
  | 11, _ => U.BadRule.ei
  | 12, _ => U.BadDay.ei
  | 13, _ => U.BadLedger.ei
  | 14, _ => U.BadText.ei
  | 15, _ => U.BadLine.ei
  | 16, _ => U.NoName.ei
  | 17, _ => U.NoPair.ei
  | 18, _ => U.Lacking.ei
  | 19, _ => U.TooMany.ei
  | 20, _ => U.IsNested.ei
  | 21, _ => U.NoChange.ei
  | _ + 22, h => absurd h (by omega)
theorem fvN (U : Errs w K mg base fds) {one two : V} : ∀ j, j < 12 → ∃ pre, FV K (cls K (spotN j)) (nmk (spotN j)) (ofN one two (spotN j)) (pre ++ [one])
  | 0, _ => ⟨[], .value U.BadName.no rfl⟩
  | 1, _ => ⟨[], .value U.BadWorth.no rfl⟩
  | 2, _ => ⟨[], .part U.BadTable.no rfl⟩
  | 3, _ => ⟨[], .part U.BadFilling.no rfl⟩
  | 4, _ => ⟨[], .part U.BadOrder.no rfl⟩
  | 5, _ => ⟨[], .part U.BadBars.no rfl⟩
  | 6, _ => ⟨[], .part U.BadOffer.no rfl⟩
  | 7, _ => ⟨[], .part U.BadRule.no rfl⟩
  | 8, _ => ⟨[], .value U.BadDay.no rfl⟩
  | 9, _ => ⟨[], .pair U.NoPair.no rfl⟩
  | 10, _ => ⟨[], .name U.Lacking.no rfl⟩
  | 11, _ => ⟨[two], .wm U.TooMany.no U.TooMany.nm rfl rfl⟩
  | _ + 12, h => absurd h (by omega)
end
theorem spotN_lt : ∀ j, j < 12 → spotN j < 22 := by decide +kernel
/-! sizes -/
theorem len1 (t : Str) (h : t.length ≤ 60) : (listText [t]).length ≤ sizeLine := by
  show (((("[" : Str) ++ ("" : Str)) ++ t) ++ ("]" : Str)).length ≤ sizeLine
  simp only [strLen_append]
  have a : ("[" : Str).length = 1 := by decide
  have b : ("" : Str).length = 0 := by decide
  have c : ("]" : Str).length = 1 := by decide
  rw [a, b, c, sizeLine_eq]
  omega
theorem len2 (t u : Str) (h : t.length ≤ 60) (h2 : u.length ≤ 60) : (listText [t, u]).length ≤ sizeLine := by
  show (((((("[" : Str) ++ ("" : Str)) ++ t) ++ (", " : Str)) ++ u) ++ ("]" : Str)).length ≤ sizeLine
  simp only [strLen_append]
  have a : ("[" : Str).length = 1 := by decide
  have b : ("" : Str).length = 0 := by decide
  have c : ("]" : Str).length = 1 := by decide
  have d : (", " : Str).length = 2 := by decide
  rw [a, b, c, d, sizeLine_eq]
  omega
theorem len0 (t : Str) (h : t.length ≤ 60) : t.length ≤ sizeLine := by rw [sizeLine_eq]; omega
/-- repr of the k-th list of values -/
theorem rep_list {one two : V} {H : Hp} (h1 : MV one H) (h2 : MV two H) (i : Nat) : ∃ t : Str, ∀ (a : Addr) (H' : Hp), Ex H H' → H' a = some (.lst (vlk one two i)) → ∀ Q : VK, Q (.str t) H' → rRepr [.ref a] H' Q := by
  obtain ⟨t, ht, lt⟩ := h1
  obtain ⟨u, hu, lu⟩ := h2
  unfold vlk
  split
  · exact ⟨listText [t, u], fun a H' x e Q q => ⟨_, rfl, .inr ⟨a, _, _, _, rfl, e, .cons (rv_ex x ht) (.cons (rv_ex x hu) .nil), len2 t u lt lu, q⟩⟩⟩
  · split
    · exact ⟨"[]", fun a H' x e Q q => ⟨_, rfl, .inl ⟨_, .nilL e, by decide +kernel, q⟩⟩⟩
    · exact ⟨listText [t], fun a H' x e Q q => ⟨_, rfl, .inr ⟨a, _, _, _, rfl, e, .cons (rv_ex x ht) .nil, len1 t lt, q⟩⟩⟩
/-! isinstance of FillError('a') -/
section
open PySem.W
def rIsF (K : Frag) : List V → Hp → VK → Prop := fun xs H Q => ∃ (a C : Addr) (c : V) (cv : Value) (b : Bool), xs = [.ref a, c] ∧ H a = some (ExO (.ref C) a) ∧ EI K C ∧ (∀ u, RelV c u → u = cv) ∧ kitOne K (.ref C) cv = some b ∧ Q (.bl b) H
theorem call_isF {X : Cx} : CallR X (.builtin "isinstance") (rIsF X.K) := by
  intro pins s σ H xs us Q I r h
  obtain ⟨a, C, c, cv, b, rfl, he, T, hcv, e, q⟩ := h
  obtain ⟨u1, u2, rfl, rx, rt⟩ := vals2 r
  obtain rfl : u1 = Value.ref a := rx
  obtain rfl := hcv _ rt
  obtain ⟨⟨oe, vs, h1, h2, h3, _⟩, _, _⟩ := I.hok a _ he
  have J : InstAt s.heap a oe C none := ⟨h1, h2.1, by unfold notCls; rw [h3] <;> rfl, by rw [h2.2]; trivial⟩
  exact kia_one (kitx_exc (ox := oe) (od := none) T.cl T.ga T.gt T.sb T.ca T.cn T.ct T.ob) I.kIn J e (fun z => nomatch z) fun tk => ⟨.bl b, H, I.tok _, rfl, q⟩
end
end My


set_option Elab.async false
set_option linter.all false
set_option maxRecDepth 100000
set_option maxHeartbeats 8000000
namespace My
open PySem L2 MyErr MyHead EvLib Evl He
/-- all that the law's body calls -/
structure LT (w : World) (K : PySem.W.Frag) (mg : Str → Option Value) (base : Heap) (aP aV aM aN aF aC : Addr) (fP fV fM fN fF fC : FuncData) : Prop where
  gP : FnOk PP w K mg base CX0 1 aP fP ["_law_script"] (spPen K)
  gV : FnOk PP w K mg base CX0 3 aV fV ["_law_pen_here"] spValue
  gM : FnOk PP w K mg base CX0 2 aM fM ["_law_one", "_law_two"] (spMade K)
  gN : FnOk PP w K mg base CX0 2 aN fN ["_law_one", "_law_two"] (spNamed K)
  gF : FnOk PP w K mg base CX0 1 aF fF ["_law_error", "_law_names"] (spFields K)
  gC : FnOk PP w K mg base CX0 1 aC fC ["_law_error"] (spCls K)
  mP : mg "_law_pen" = some (.ref aP)
  mV : mg "_law_value" = some (.ref aV)
  mM : mg "_law_made" = some (.ref aM)
  mN : mg "_law_named" = some (.ref aN)
  mF : mg "_law_fields" = some (.ref aF)
  mC : mg "_law_classes" = some (.ref aC)
  kP : PySem.W.keepIn K (.ref aP) = true
  kV : PySem.W.keepIn K (.ref aV) = true
  kM : PySem.W.keepIn K (.ref aM) = true
  kN : PySem.W.keepIn K (.ref aN) = true
  kF : PySem.W.keepIn K (.ref aF) = true
  kC : PySem.W.keepIn K (.ref aC) = true
  bP : Binds K fP ["_law_script"] []
  bV : Binds K fV ["_law_pen_here"] []
  bM : Binds K fM ["_law_one", "_law_two"] []
  bN : Binds K fN ["_law_one", "_law_two"] []
  bF : Binds K fF ["_law_error", "_law_names"] []
  bC : Binds K fC ["_law_error"] []
  range : mg "range" = none
  len : mg "len" = none
  repr : mg "repr" = none
  isi : mg "isinstance" = none
  vE : mg "ValueError" = none
  lE : mg "LookupError" = none
  tE : mg "TypeError" = none
  aE : mg "ArithmeticError" = none
  atE : mg "AttributeError" = none
  rE : mg "RuntimeError" = none
  fE : mg "FillError" = some (.ref (ga K "FillError"))
  fX : PySem.W.excIn K (ga K "FillError") veBase "ValueError.__new__" = true
  fK : PySem.W.keepIn K (.ref (ga K "FillError")) = true
  ex : exAll K = true
abbrev NL : List Str := ["_law_script", "_law_pen_here", "_law_turn", "_law_made_here", "_law_spot", "_law_one", "_law_two", "_law_error", "_law_names", "_law_fields_here"]
theorem scL : FnScope NL ["_law_script"] (defScope s_law) := ⟨rfl, rfl, rfl, by decide +kernel, rfl, by decide +kernel, by decide +kernel⟩
theorem kit_fill {K : PySem.W.Frag} (h : exIs K = true) {i : Nat} (hi : i < 22) : PySem.W.kitOne K (.ref (cls K i)) (.ref (ga K "FillError")) = some true ∧ PySem.W.kitOne K (.ref (cls K i)) (.type "ValueError") = some true ∧
    ∀ t ∈ (["LookupError", "TypeError", "ArithmeticError", "AttributeError", "RuntimeError"] : List String), PySem.W.kitOne K (.ref (cls K i)) (.type t) = some false := by
  obtain ⟨h1, h2⟩ := ba (List.all_eq_true.mp (ba h).2 _ (names_in i hi))
  obtain ⟨h2, h3⟩ := ba h2
  exact ⟨of_decide_eq_true h1, of_decide_eq_true h2, fun t ht => of_decide_eq_true (List.all_eq_true.mp h3 t ht)⟩
theorem ne_self (t : Str) : (!decide (V.str t = V.str t)) = false := by simp
theorem eqv_self (i : Int) : (!PyData.eqv (.list [.int i]) (.list [.int i])) = false := by
  show (!((i == i) && true)) = false
  simp
theorem law_body {w : World} {K : PySem.W.Frag} {mg : Str → Option Value} {base : Heap} {fds : Nat → FuncData} {aP aV aM aN aF aC fa : Addr} {fP fV fM fN fF fC : FuncData} (T : LT w K mg base aP aV aM aN aF aC fP fV fM fN fF fC) (U : Errs w K mg base fds)
    (s : Shared) (H : Hp) (a : Addr) (ns : List Int) (cdv : Value) (hS : SqL K H a (ns.map V.int)) (hr : Room 3 (callerA.deeper (PyProof.Rows.envOfC "law" (defScope s_law) s.heap.objs.size fa cdv))) :
    ∃ t, PSs (cxOf CX0 PP w K mg base NL "law" (defScope s_law) fa cdv callerA [] s H (fun _ _ _ => False)) (defBody s_law) t ∧ t { nx := fun _ _ => V.non = .bl true, rt := fun v _ => v = .bl true } (L2.start NL [.ref a]) H := by
  have hu64 := hr.units
  have hr1 : Room 1 _ := hr.mono (by decide)
  have hr2 : Room 2 _ := hr.mono (by decide)
  have exI := (ba T.ex).1
  have exF := (ba T.ex).2
  refine ⟨_, PSs.nox (pss_cons (ps_set (i := 1) scL.nd rfl (Or.inl rfl) (pe_call T.gP hr1 rfl T.mP T.kP T.bP .nil pass0 (pa_cons (pv 0) pa_nil)))
  (pss_cons (ps_for PassesOwn.never rfl (pi_range1 rfl T.range (pa_cons pe_int pa_nil)) (pg_name (i := 2) scL.nd rfl (Or.inl rfl))
    (pss_cons (ps_par (i := 5) (j := 6) (by rfl) scL.nd rfl rfl (by decide) rfl rfl (pa_cons (pe_call T.gV hr rfl T.mV T.kV T.bV .nil pass0 (pa_cons (pv 1) pa_nil)) (pa_cons (pe_call T.gV hr rfl T.mV T.kV T.bV .nil pass0 (pa_cons (pv 1) pa_nil)) pa_nil)) (by rfl))
      (pss_cons (ps_set (i := 3) scL.nd rfl (Or.inl rfl) (pe_call T.gM hr2 rfl T.mM T.kM T.bM .nil pass0 (pa_cons (pv 5) (pa_cons (pv 6) pa_nil))))
      (pss_cons (ps_for PassesOwn.never rfl (pi_list (pe_call T.gN hr2 rfl T.mN T.kN T.bN .nil pass0 (pa_cons (pv 5) (pa_cons (pv 6) pa_nil)))) (pg_tup rfl (pgs_cons (pg_name (i := 7) scL.nd rfl (Or.inl rfl)) (pgs_cons (pg_name (i := 4) scL.nd rfl (Or.inl rfl)) pgs_nil)))
        (pss_one (ps_if (PW.pt (pw_or (pt_cmpR (op_neD hu64) (pe_call T.gC hr1 rfl T.mC T.kC T.bC .nil pass0 (pa_cons (pv 7) pa_nil)) (pe_lst (pa_cons (pv 4) pa_nil)) (nomark _)) (pw_or1 (pt_cmpR op_ne (pe_callB (call_repr rfl hu64) (by rfl) T.repr (by decide +kernel) (pa_cons (pe_ix ix_list (pe_call T.gF hr1 rfl T.mF T.kF T.bF .nil pass0 (pa_cons (pv 7) (pa_cons (pe_ix ix_tup (pe_ix ix_list (pv 3) (pv 4) (fun _ _ => rfl)) pe_int (fun _ _ => rfl)) pa_nil))) (pe_un un_neg pe_int) (fun _ _ => rfl)) pa_nil)) (pe_callB (call_repr rfl hu64) (by rfl) T.repr (by decide +kernel) (pa_cons (pv 5) pa_nil)) (nomark _)))))
            (pss_one (ps_ret pe_bl))
            pss_nil)))
      (pss_one (ps_for PassesOwn.never rfl (pi_range1 rfl T.range (pa_cons (pe_callB call_len_seq (by rfl) T.len (by decide +kernel) (pa_cons (pv 3) pa_nil)) pa_nil)) (pg_name (i := 4) scL.nd rfl (Or.inl rfl))
        (pss_cons (ps_asg (pe_ix ix_list (pv 3) (pv 4) (fun _ _ => rfl)) (pg_tup rfl (pgs_cons (pg_name (i := 7) scL.nd rfl (Or.inl rfl)) (pgs_cons (pg_name (i := 8) scL.nd rfl (Or.inl rfl)) (pgs_cons (pg_name (i := 9) scL.nd rfl (Or.inl rfl)) pgs_nil)))))
          (pss_cons (ps_if (PW.pt (pw_or (pt_cmpR op_ne (pe_callB (call_repr rfl hu64) (by rfl) T.repr (by decide +kernel) (pa_cons (pe_call T.gF hr1 rfl T.mF T.kF T.bF .nil pass0 (pa_cons (pv 7) (pa_cons (pv 8) pa_nil))) pa_nil)) (pe_callB (call_repr rfl hu64) (by rfl) T.repr (by decide +kernel) (pa_cons (pv 9) pa_nil)) (nomark _)) (pw_or1 (pt_cmpR (op_neD hu64) (pe_call T.gC hr1 rfl T.mC T.kC T.bC .nil pass0 (pa_cons (pv 7) pa_nil)) (pe_lst (pa_cons (pv 4) pa_nil)) (nomark _)))))
            (pss_one (ps_ret pe_bl))
            pss_nil)
          (pss_cons (ps_if (PW.pt (pw_or (pt_not (pt_val (pe_callB call_isErr (by rfl) T.isi (by decide +kernel) (pa_cons (pv 7) (pa_cons (pe_glob rfl T.fE (relRef _)) pa_nil))))) (pw_or1 (pt_not (pt_val (pe_callB call_isErr (by rfl) T.isi (by decide +kernel) (pa_cons (pv 7) (pa_cons (pe_bltn (v := .ty "ValueError") (by rfl) T.vE (by decide +kernel) rfl) pa_nil))))))))
            (pss_one (ps_ret pe_bl))
            pss_nil)
          (pss_cons (ps_if (PW.pt (pw_or (pt_val (pe_callB call_isErr (by rfl) T.isi (by decide +kernel) (pa_cons (pv 7) (pa_cons (pe_bltn (v := .ty "LookupError") (by rfl) T.lE (by decide +kernel) rfl) pa_nil)))) (pw_or (pt_val (pe_callB call_isErr (by rfl) T.isi (by decide +kernel) (pa_cons (pv 7) (pa_cons (pe_bltn (v := .ty "TypeError") (by rfl) T.tE (by decide +kernel) rfl) pa_nil)))) (pw_or1 (pt_val (pe_callB call_isErr (by rfl) T.isi (by decide +kernel) (pa_cons (pv 7) (pa_cons (pe_bltn (v := .ty "ArithmeticError") (by rfl) T.aE (by decide +kernel) rfl) pa_nil))))))))
            (pss_one (ps_ret pe_bl))
            pss_nil)
          (pss_one (ps_if (PW.pt (pw_or (pt_val (pe_callB call_isErr (by rfl) T.isi (by decide +kernel) (pa_cons (pv 7) (pa_cons (pe_bltn (v := .ty "AttributeError") (by rfl) T.atE (by decide +kernel) rfl) pa_nil)))) (pw_or1 (pt_val (pe_callB call_isErr (by rfl) T.isi (by decide +kernel) (pa_cons (pv 7) (pa_cons (pe_bltn (v := .ty "RuntimeError") (by rfl) T.rE (by decide +kernel) rfl) pa_nil)))))))
            (pss_one (ps_ret pe_bl))
            pss_nil))))))))))))
  (pss_one (ps_ret (pe_and (pe_not (pe_callB call_isF (by rfl) T.isi (by decide +kernel) (pa_cons (pe_exc1 PySem.F.excBase_ValueError T.fX T.fE T.fK rfl pe_str) (pa_cons (pe_glob rfl U.BadName.gl (relRef _)) pa_nil)))) (pe_one (pe_callB call_isF (by rfl) T.isi (by decide +kernel) (pa_cons (pe_exc1 PySem.F.excBase_ValueError T.fX T.fE T.fK rfl pe_str) (pa_cons (pe_bltn (v := .ty "ValueError") (by rfl) T.vE (by decide +kernel) rfl) pa_nil))))))))), ?_⟩
  refine ⟨_, rfl, a, ns, rfl, hS, fun p l ms H1 x1 np hp => ?_⟩
  refine ⟨8, rfl, by decide, by decide, for_range (lo := 0) (n := 8) (fun j σ H' => ∃ (x2 x3 x4 x5 x6 x7 x8 x9 : Option V) (spot great : Int), σ = [some (.ref a), some (.ref p), x2, x3, x4, x5, x6, x7, x8, x9] ∧ PenAt H' p l ms spot great ∧ spot ≤ 2 * (j : Int))
    ⟨none, none, none, none, none, none, none, none, 0, 0, rfl, hp, by omega⟩ ?_ ?_⟩
  · rintro j σ H2 hj ⟨x2, x3, x4, x5, x6, x7, x8, x9, spot, great, rfl, hp2, hs2⟩
    -- one, two
    refine ⟨_, rfl, p, l, ms, spot, great, rfl, hp2, by omega, fun s1 g1 one H3 k3 hp3 hs3 mv1 => ?_⟩
    refine ⟨_, rfl, p, l, ms, s1, g1, rfl, hp3, by omega, fun s2 g2 two H4 k4 hp4 hs4 mv2 => ⟨one, two, rfl, ?_⟩⟩
    have mv1' : MV one H4 := by
      obtain ⟨t, h1, h2⟩ := mv1
      exact ⟨t, rv_keeps hp3.pen k4 h1, h2⟩
    -- made
    refine ⟨_, rfl, _, rfl, one, two, rfl, fun v H5 x5' lp => ?_⟩
    obtain ⟨pm, vs, rfl, hpm, lm, am⟩ := lp
    -- named
    refine ⟨_, rfl, _, rfl, one, two, rfl, fun v H6 x6' lpn => ?_⟩
    obtain ⟨pn, ws, rfl, hpn, ln, an⟩ := lpn
    have mo6 : MV one H6 := mv_mono _ _ _ (x5'.trans x6') mv1'
    have mt6 : MV two H6 := mv_mono _ _ _ (x5'.trans x6') mv2
    have hpm6 := x6' _ _ hpm
    refine ⟨pn, rfl, ⟨_, SqL.of hpn⟩, for_list (K := K) (a := pn) (xs := ws) (fun j' σ' H' => ∃ y4 y7, σ' = [some (.ref a), some (.ref p), some (.int (0 + (j : Int))), some (.ref pm), y4, some one, some two, y7, x8, x9] ∧ Ex H6 H')
      ⟨x4, x7, rfl, Ex.refl _⟩ (fun j' σ' H' _ ⟨_, _, _, e'⟩ => SqL.of (e' _ _ hpn)) ?_ ?_⟩
    · rintro j' y σ' H' hy ⟨y4, y7, rfl, e'⟩
      have hj' : j' < 12 := by
        have := (List.getElem?_eq_some_iff.mp hy).1
        omega
      have an' := All.get an hy
      rw [Nat.zero_add] at an'
      obtain ⟨t, e, rfl, ht, he⟩ := an'
      have hi := spotN_lt j' hj'
      obtain ⟨pre, fv⟩ := fvN U (one := one) (two := two) j' hj'
      refine ⟨t, _, rfl, SqT.of (e' _ _ ht), rfl, _, _, rfl, _, _, rfl, rfl, ?_⟩
      refine ⟨_, rfl, e, spotN j', _, rfl, hi, errAt_ex e' he, fun p1 H7 x7' hp1 => ?_⟩
      refine ⟨_, rfl, by show 1 ≤ sizeLine; decide, fun q nq => ?_⟩
      have z7 := x7'.trans (Ex.new (o := .lst [.int (spotN j' : Nat)]) nq)
      have w7 := e'.trans z7
      refine ⟨.list [.int (spotN j' : Nat)], .list [.int (spotN j' : Nat)], .lst (SqL.of (Ex.new nq _ _ hp1)) (.cons (.int _) .nil), .lst (SqL.of upd_same) (.cons (.int _) .nil), rfl, rfl, _, rfl, itF (eqv_self _) ?_⟩
      -- repr(fields[-1]) != repr(one)
      have hm : vs[spotN j']? = some vs[spotN j'] := List.getElem?_eq_getElem (by omega)
      have am' := All.get am hm
      rw [Nat.zero_add] at am'
      obtain ⟨t', e2, l', et, ht', _, _⟩ := am'
      refine ⟨_, rfl, _, rfl, _, rfl, pm, vs, _, _, rfl, rfl, SqL.of (w7 _ _ hpm6), atI_nat hm, ?_⟩
      rw [et]
      refine ⟨t', _, _, _, rfl, rfl, SqT.of (w7 _ _ (x6' _ _ ht')), rfl, ?_⟩
      refine ⟨e, cls K (spotN j'), nmk (spotN j'), _, _, rfl, errAt_ex w7 he, eiAll U _ hi, fv, fun p2 H8 x8' hp2' => ?_⟩
      have w8 := w7.trans x8'
      obtain ⟨tx, rx, lx⟩ := mo6
      refine ⟨_, rfl, p2, _, _, one, rfl, rfl, SqL.of hp2', atI_last _ _, ⟨one, rfl, .inl ⟨tx, rv_ex w8 rx, len0 _ lx, ?_⟩⟩⟩
      refine ⟨_, rfl, one, rfl, .inl ⟨tx, rv_ex w8 rx, len0 _ lx, rfl, _, rfl, itF (ne_self _) ?_⟩⟩
      exact ⟨_, _, rfl, w8⟩
    · rintro σ' H' ⟨y4, y7, rfl, e'⟩
      -- for spot in range(len(made))
      refine ⟨_, rfl, pm, vs, rfl, .inl (SqL.of (e' _ _ hpm6)), _, rfl, by rw [lm]; decide, by rw [lm]; decide, for_range (lo := 0) (n := vs.length) (fun m σ'' H'' => ∃ z4 z7 z8 z9, σ'' = [some (.ref a), some (.ref p), some (.int (0 + (j : Int))), some (.ref pm), z4, some one, some two, z7, z8, z9] ∧ Ex H6 H'')
        ⟨y4, y7, x8, x9, rfl, e'⟩ ?_ ?_⟩
      · rintro m σ'' H'' hm ⟨z4, z7, z8, z9, rfl, f'⟩
        have hi : m < 22 := by omega
        have hg : vs[m]? = some vs[m] := List.getElem?_eq_getElem hm
        have am' := All.get am hg
        rw [Nat.zero_add] at am'
        obtain ⟨t, e, lL, et, ht, he, hlL⟩ := am'
        have eat : atI vs (0 + (m : Int)) = some vs[m] := by rw [Int.zero_add]; exact atI_nat hg
        have f5 := x6'.trans f'
        refine ⟨_, rfl, _, rfl, pm, vs, _, _, rfl, rfl, SqL.of (f' _ _ hpm6), eat, ?_⟩
        rw [et]
        refine ⟨t, _, rfl, SqT.of (f5 _ _ ht), rfl, _, _, rfl, _, _, rfl, _, _, rfl, rfl, ?_⟩
        have ei := eiAll U m hi
        obtain ⟨kF, kV, kO⟩ := kit_fill exI hi
        obtain ⟨t1, r1, l1⟩ := mo6
        obtain ⟨t2, r2, l2⟩ := mt6
        refine ⟨_, rfl, _, rfl, e, cls K m, nmk m, _, _, rfl, errAt_ex f5 he, ei, fvM U m hi, fun p2 H8 x8' hp2' => ?_⟩
        have g8 := f'.trans x8'
        have hl8 := (f5.trans x8') _ _ hlL
        have cs : vlk one two m = [one, two] ∨ vlk one two m = [] ∨ vlk one two m = [one] := by
          unfold vlk
          split
          · exact .inl rfl
          · split
            · exact .inr (.inl rfl)
            · exact .inr (.inr rfl)
        rcases cs with cv | cv | cv
        all_goals rw [cv] at hp2' hl8
        · refine ⟨_, rfl, .inr ⟨p2, _, _, _, rfl, hp2', .cons (rv_ex g8 r1) (.cons (rv_ex g8 r2) .nil), len2 t1 t2 l1 l2, _, rfl, _, rfl, .inr ⟨lL, _, _, _, rfl, hl8, .cons (rv_ex g8 r1) (.cons (rv_ex g8 r2) .nil), len2 t1 t2 l1 l2, rfl, _, rfl, itF (ne_self _) ?_⟩⟩⟩
          refine ⟨_, rfl, e, m, _, rfl, hi, errAt_ex (f5.trans x8') he, fun p1 H9 x9' hp1 => ?_⟩
          refine ⟨_, rfl, by show 1 ≤ sizeLine; decide, fun q nq => ?_⟩
          have w9 := (f5.trans x8').trans (x9'.trans (Ex.new (o := .lst [.int (0 + (m : Int))]) nq))
          have w9' := (f'.trans x8').trans (x9'.trans (Ex.new (o := .lst [.int (0 + (m : Int))]) nq))
          have e9 := errAt_ex w9 he
          refine ⟨.list [.int (m : Nat)], .list [.int (0 + (m : Int))], .lst (SqL.of (Ex.new nq _ _ hp1)) (.cons (.int _) .nil), .lst (SqL.of upd_same) (.cons (.int _) .nil), rfl, rfl, _, rfl, itF (by rw [Int.zero_add]; exact eqv_self _) ?_⟩
          refine ⟨_, rfl, e, cls K m, _, _, _, true, rfl, e9, ei, fun u r => r, kF, true, rfl, itF rfl ?_⟩
          refine ⟨_, rfl, e, cls K m, _, _, _, true, rfl, e9, ei, fun u r => r, kV, true, rfl, itF rfl ?_⟩
          refine ⟨_, rfl, e, cls K m, _, _, _, false, rfl, e9, ei, fun u r => r, kO _ (by decide), false, rfl, itF rfl ?_⟩
          refine ⟨_, rfl, e, cls K m, _, _, _, false, rfl, e9, ei, fun u r => r, kO _ (by decide), false, rfl, itF rfl ?_⟩
          refine ⟨_, rfl, e, cls K m, _, _, _, false, rfl, e9, ei, fun u r => r, kO _ (by decide), false, rfl, itF rfl ?_⟩
          refine ⟨_, rfl, e, cls K m, _, _, _, false, rfl, e9, ei, fun u r => r, kO _ (by decide), false, rfl, itF rfl ?_⟩
          refine ⟨_, rfl, e, cls K m, _, _, _, false, rfl, e9, ei, fun u r => r, kO _ (by decide), false, rfl, itF rfl ?_⟩
          exact ⟨_, _, _, _, rfl, w9'⟩
        · refine ⟨_, rfl, .inl ⟨_, .nilL hp2', by decide +kernel, _, rfl, _, rfl, .inl ⟨_, .nilL hl8, by decide +kernel, rfl, _, rfl, itF (ne_self _) ?_⟩⟩⟩
          refine ⟨_, rfl, e, m, _, rfl, hi, errAt_ex (f5.trans x8') he, fun p1 H9 x9' hp1 => ?_⟩
          refine ⟨_, rfl, by show 1 ≤ sizeLine; decide, fun q nq => ?_⟩
          have w9 := (f5.trans x8').trans (x9'.trans (Ex.new (o := .lst [.int (0 + (m : Int))]) nq))
          have w9' := (f'.trans x8').trans (x9'.trans (Ex.new (o := .lst [.int (0 + (m : Int))]) nq))
          have e9 := errAt_ex w9 he
          refine ⟨.list [.int (m : Nat)], .list [.int (0 + (m : Int))], .lst (SqL.of (Ex.new nq _ _ hp1)) (.cons (.int _) .nil), .lst (SqL.of upd_same) (.cons (.int _) .nil), rfl, rfl, _, rfl, itF (by rw [Int.zero_add]; exact eqv_self _) ?_⟩
          refine ⟨_, rfl, e, cls K m, _, _, _, true, rfl, e9, ei, fun u r => r, kF, true, rfl, itF rfl ?_⟩
          refine ⟨_, rfl, e, cls K m, _, _, _, true, rfl, e9, ei, fun u r => r, kV, true, rfl, itF rfl ?_⟩
          refine ⟨_, rfl, e, cls K m, _, _, _, false, rfl, e9, ei, fun u r => r, kO _ (by decide), false, rfl, itF rfl ?_⟩
          refine ⟨_, rfl, e, cls K m, _, _, _, false, rfl, e9, ei, fun u r => r, kO _ (by decide), false, rfl, itF rfl ?_⟩
          refine ⟨_, rfl, e, cls K m, _, _, _, false, rfl, e9, ei, fun u r => r, kO _ (by decide), false, rfl, itF rfl ?_⟩
          refine ⟨_, rfl, e, cls K m, _, _, _, false, rfl, e9, ei, fun u r => r, kO _ (by decide), false, rfl, itF rfl ?_⟩
          refine ⟨_, rfl, e, cls K m, _, _, _, false, rfl, e9, ei, fun u r => r, kO _ (by decide), false, rfl, itF rfl ?_⟩
          exact ⟨_, _, _, _, rfl, w9'⟩
        · refine ⟨_, rfl, .inr ⟨p2, _, _, _, rfl, hp2', .cons (rv_ex g8 r1) .nil, len1 t1 l1, _, rfl, _, rfl, .inr ⟨lL, _, _, _, rfl, hl8, .cons (rv_ex g8 r1) .nil, len1 t1 l1, rfl, _, rfl, itF (ne_self _) ?_⟩⟩⟩
          refine ⟨_, rfl, e, m, _, rfl, hi, errAt_ex (f5.trans x8') he, fun p1 H9 x9' hp1 => ?_⟩
          refine ⟨_, rfl, by show 1 ≤ sizeLine; decide, fun q nq => ?_⟩
          have w9 := (f5.trans x8').trans (x9'.trans (Ex.new (o := .lst [.int (0 + (m : Int))]) nq))
          have w9' := (f'.trans x8').trans (x9'.trans (Ex.new (o := .lst [.int (0 + (m : Int))]) nq))
          have e9 := errAt_ex w9 he
          refine ⟨.list [.int (m : Nat)], .list [.int (0 + (m : Int))], .lst (SqL.of (Ex.new nq _ _ hp1)) (.cons (.int _) .nil), .lst (SqL.of upd_same) (.cons (.int _) .nil), rfl, rfl, _, rfl, itF (by rw [Int.zero_add]; exact eqv_self _) ?_⟩
          refine ⟨_, rfl, e, cls K m, _, _, _, true, rfl, e9, ei, fun u r => r, kF, true, rfl, itF rfl ?_⟩
          refine ⟨_, rfl, e, cls K m, _, _, _, true, rfl, e9, ei, fun u r => r, kV, true, rfl, itF rfl ?_⟩
          refine ⟨_, rfl, e, cls K m, _, _, _, false, rfl, e9, ei, fun u r => r, kO _ (by decide), false, rfl, itF rfl ?_⟩
          refine ⟨_, rfl, e, cls K m, _, _, _, false, rfl, e9, ei, fun u r => r, kO _ (by decide), false, rfl, itF rfl ?_⟩
          refine ⟨_, rfl, e, cls K m, _, _, _, false, rfl, e9, ei, fun u r => r, kO _ (by decide), false, rfl, itF rfl ?_⟩
          refine ⟨_, rfl, e, cls K m, _, _, _, false, rfl, e9, ei, fun u r => r, kO _ (by decide), false, rfl, itF rfl ?_⟩
          refine ⟨_, rfl, e, cls K m, _, _, _, false, rfl, e9, ei, fun u r => r, kO _ (by decide), false, rfl, itF rfl ?_⟩
          exact ⟨_, _, _, _, rfl, w9'⟩
      · rintro σ'' H'' ⟨z4, z7, z8, z9, rfl, f'⟩
        exact ⟨_, _, _, _, _, _, _, _, s2, g2, rfl, pen_ex ((x5'.trans x6').trans f') hp4, by omega⟩
  · rintro σ H' ⟨x2, x3, x4, x5, x6, x7, x8, x9, spot, great, rfl, hp2, hs2⟩
    obtain ⟨f1, f2⟩ := ba exF
    obtain ⟨f2, f3⟩ := ba f2
    have eiF := eiB_ok f1
    refine fun a1 n1 => ⟨a1, ga K "FillError", _, _, false, rfl, upd_same, eiF, fun u r => r, of_decide_eq_true f2, false, rfl, true, rfl, itB rfl ?_⟩
    exact fun a2 n2 => ⟨a2, ga K "FillError", _, _, true, rfl, upd_same, eiF, fun u r => r, of_decide_eq_true f3, rfl⟩
end My


set_option Elab.async false
set_option linter.all false
set_option maxRecDepth 100000
set_option maxHeartbeats 0
namespace My
open PySem L2 MyErr MyHead EvLib Evl He
abbrev RW := PySem.Challenge.rw_filledrow_k01_errors_and_their_fields
theorem errs_of {w : World} {K : PySem.W.Frag} {mg : Str → Option Value} {h : Heap} (hh : K.In h) (G : h.Ns mainGlobals mg) (hsup : mg "super" = none) (hs : (PP.main.scope.names.lookup ("super" : Str)).isSome = false) (c : SaysZ fa2 fn es PP.main.file exAll K) :
    ∃ fds : Nat → FuncData, ∀ base : Heap, Mod K mg base → Errs w K mg base fds := by
  obtain ⟨cda0, cc0, kV0, dc0, pm0, an0, ct0, k0⟩ := c.err hs 0 (d := e_BadName) rfl
  obtain ⟨cda1, cc1, kV1, dc1, pm1, an1, ct1, k1⟩ := c.err hs 1 (d := e_BadAmount) rfl
  obtain ⟨cda2, cc2, kV2, dc2, pm2, an2, ct2, k2⟩ := c.err hs 2 (d := e_BadWorth) rfl
  obtain ⟨cda3, cc3, kV3, dc3, pm3, an3, ct3, k3⟩ := c.err hs 3 (d := e_BadTable) rfl
  obtain ⟨cda4, cc4, kV4, dc4, pm4, an4, ct4, k4⟩ := c.err hs 4 (d := e_BadSide) rfl
  obtain ⟨cda5, cc5, kV5, dc5, pm5, an5, ct5, k5⟩ := c.err hs 5 (d := e_BadFilling) rfl
  obtain ⟨cda6, cc6, kV6, dc6, pm6, an6, ct6, k6⟩ := c.err hs 6 (d := e_BadPair) rfl
  obtain ⟨cda7, cc7, kV7, dc7, pm7, an7, ct7, k7⟩ := c.err hs 7 (d := e_BadOrder) rfl
  obtain ⟨cda8, cc8, kV8, dc8, pm8, an8, ct8, k8⟩ := c.err hs 8 (d := e_BadBars) rfl
  obtain ⟨cda9, cc9, kV9, dc9, pm9, an9, ct9, k9⟩ := c.err hs 9 (d := e_BadSeen) rfl
  obtain ⟨cda10, cc10, kV10, dc10, pm10, an10, ct10, k10⟩ := c.err hs 10 (d := e_BadOffer) rfl
  obtain ⟨cda11, cc11, kV11, dc11, pm11, an11, ct11, k11⟩ := c.err hs 11 (d := e_BadRule) rfl
  obtain ⟨cda12, cc12, kV12, dc12, pm12, an12, ct12, k12⟩ := c.err hs 12 (d := e_BadDay) rfl
  obtain ⟨cda13, cc13, kV13, dc13, pm13, an13, ct13, k13⟩ := c.err hs 13 (d := e_BadLedger) rfl
  obtain ⟨cda14, cc14, kV14, dc14, pm14, an14, ct14, k14⟩ := c.err hs 14 (d := e_BadText) rfl
  obtain ⟨cda15, cc15, kV15, dc15, pm15, an15, ct15, k15⟩ := c.err hs 15 (d := e_BadLine) rfl
  obtain ⟨cda16, cc16, kV16, dc16, pm16, an16, ct16, k16⟩ := c.err hs 16 (d := e_NoName) rfl
  obtain ⟨cda17, cc17, kV17, dc17, pm17, an17, ct17, k17⟩ := c.err hs 17 (d := e_NoPair) rfl
  obtain ⟨cda18, cc18, kV18, dc18, pm18, an18, ct18, k18⟩ := c.err hs 18 (d := e_Lacking) rfl
  obtain ⟨cda19, cc19, kV19, dc19, pm19, an19, ct19, k19⟩ := c.err hs 19 (d := e_TooMany) rfl
  obtain ⟨cda20, cc20, kV20, dc20, pm20, an20, ct20, k20⟩ := c.err hs 20 (d := e_IsNested) rfl
  obtain ⟨cda21, cc21, kV21, dc21, pm21, an21, ct21, k21⟩ := c.err hs 21 (d := e_NoChange) rfl
  refine ⟨fun i => match i with
    | 0 => (PySem.W.ksFn "__init__" e_BadName.qual e_BadName.params e_BadName.body e_BadName.scope .none kV0 dc0 pm0 an0 (.ref cda0) ct0 cc0)
    | 1 => (PySem.W.ksFn "__init__" e_BadAmount.qual e_BadAmount.params e_BadAmount.body e_BadAmount.scope .none kV1 dc1 pm1 an1 (.ref cda1) ct1 cc1)
    | 2 => (PySem.W.ksFn "__init__" e_BadWorth.qual e_BadWorth.params e_BadWorth.body e_BadWorth.scope .none kV2 dc2 pm2 an2 (.ref cda2) ct2 cc2)
    | 3 => (PySem.W.ksFn "__init__" e_BadTable.qual e_BadTable.params e_BadTable.body e_BadTable.scope .none kV3 dc3 pm3 an3 (.ref cda3) ct3 cc3)
    | 4 => (PySem.W.ksFn "__init__" e_BadSide.qual e_BadSide.params e_BadSide.body e_BadSide.scope .none kV4 dc4 pm4 an4 (.ref cda4) ct4 cc4)
    | 5 => (PySem.W.ksFn "__init__" e_BadFilling.qual e_BadFilling.params e_BadFilling.body e_BadFilling.scope .none kV5 dc5 pm5 an5 (.ref cda5) ct5 cc5)
    | 6 => (PySem.W.ksFn "__init__" e_BadPair.qual e_BadPair.params e_BadPair.body e_BadPair.scope .none kV6 dc6 pm6 an6 (.ref cda6) ct6 cc6)
    | 7 => (PySem.W.ksFn "__init__" e_BadOrder.qual e_BadOrder.params e_BadOrder.body e_BadOrder.scope .none kV7 dc7 pm7 an7 (.ref cda7) ct7 cc7)
    | 8 => (PySem.W.ksFn "__init__" e_BadBars.qual e_BadBars.params e_BadBars.body e_BadBars.scope .none kV8 dc8 pm8 an8 (.ref cda8) ct8 cc8)
    | 9 => (PySem.W.ksFn "__init__" e_BadSeen.qual e_BadSeen.params e_BadSeen.body e_BadSeen.scope .none kV9 dc9 pm9 an9 (.ref cda9) ct9 cc9)
    | 10 => (PySem.W.ksFn "__init__" e_BadOffer.qual e_BadOffer.params e_BadOffer.body e_BadOffer.scope .none kV10 dc10 pm10 an10 (.ref cda10) ct10 cc10)
    | 11 => (PySem.W.ksFn "__init__" e_BadRule.qual e_BadRule.params e_BadRule.body e_BadRule.scope .none kV11 dc11 pm11 an11 (.ref cda11) ct11 cc11)
    | 12 => (PySem.W.ksFn "__init__" e_BadDay.qual e_BadDay.params e_BadDay.body e_BadDay.scope .none kV12 dc12 pm12 an12 (.ref cda12) ct12 cc12)
    | 13 => (PySem.W.ksFn "__init__" e_BadLedger.qual e_BadLedger.params e_BadLedger.body e_BadLedger.scope .none kV13 dc13 pm13 an13 (.ref cda13) ct13 cc13)
    | 14 => (PySem.W.ksFn "__init__" e_BadText.qual e_BadText.params e_BadText.body e_BadText.scope .none kV14 dc14 pm14 an14 (.ref cda14) ct14 cc14)
    | 15 => (PySem.W.ksFn "__init__" e_BadLine.qual e_BadLine.params e_BadLine.body e_BadLine.scope .none kV15 dc15 pm15 an15 (.ref cda15) ct15 cc15)
    | 16 => (PySem.W.ksFn "__init__" e_NoName.qual e_NoName.params e_NoName.body e_NoName.scope .none kV16 dc16 pm16 an16 (.ref cda16) ct16 cc16)
    | 17 => (PySem.W.ksFn "__init__" e_NoPair.qual e_NoPair.params e_NoPair.body e_NoPair.scope .none kV17 dc17 pm17 an17 (.ref cda17) ct17 cc17)
    | 18 => (PySem.W.ksFn "__init__" e_Lacking.qual e_Lacking.params e_Lacking.body e_Lacking.scope .none kV18 dc18 pm18 an18 (.ref cda18) ct18 cc18)
    | 19 => (PySem.W.ksFn "__init__" e_TooMany.qual e_TooMany.params e_TooMany.body e_TooMany.scope .none kV19 dc19 pm19 an19 (.ref cda19) ct19 cc19)
    | _ => (PySem.W.ksFn "__init__" e_BadName.qual e_BadName.params e_BadName.body e_BadName.scope .none kV0 dc0 pm0 an0 (.ref cda0) ct0 cc0), fun base M0 => ?_⟩
  exact ⟨u_BadName hh G hsup M0 k0, u_BadAmount hh G hsup M0 k1, u_BadWorth hh G hsup M0 k2, u_BadTable hh G hsup M0 k3, u_BadSide hh G hsup M0 k4, u_BadFilling hh G hsup M0 k5, u_BadPair hh G hsup M0 k6, u_BadOrder hh G hsup M0 k7, u_BadBars hh G hsup M0 k8, u_BadSeen hh G hsup M0 k9, u_BadOffer hh G hsup M0 k10, u_BadRule hh G hsup M0 k11, u_BadDay hh G hsup M0 k12, u_BadLedger hh G hsup M0 k13, u_BadText hh G hsup M0 k14, u_BadLine hh G hsup M0 k15, u_NoName hh G hsup M0 k16, u_NoPair hh G hsup M0 k17, u_Lacking hh G hsup M0 k18, u_TooMany hh G hsup M0 k19, u_IsNested hh G hsup M0 k20, u_NoChange hh G hsup M0 k21⟩
theorem all_of {w : World} {K : PySem.W.Frag} {mg : Str → Option Value} {h : Heap} {f : Addr} (hh : K.In h) (G : h.Ns mainGlobals mg) (hfa : mg ("law" : Str) = some (.ref f)) (c : SaysZ fa2 fn es PP.main.file exAll K) :
    ∃ (fd : FuncData) (y qual : Str) (params : Arguments) (body : List Stmt) (scope : Scope), FunD K y qual params body scope [] [] f fd ∧ FnScope NL ["_law_script"] scope ∧ (∀ (s : Shared) (u : Value), BindsTo s fd ⟨[u], []⟩ [("_law_script", u)]) ∧
        ∀ (base : Heap) (s : Shared) (H : Hp) (a : Addr) (ns : List Int) (cdv : Value), K.In base → base.Ns mainGlobals mg → Mod K mg base → ns.length ≤ 63 → SqL K H a (ns.map V.int) → Room 3 (callerA.deeper (PyProof.Rows.envOfC qual scope s.heap.objs.size f cdv)) →
          ∃ t, PSs (cxOf CX0 PP w K mg base NL qual scope f cdv callerA [] s H (fun _ _ _ => False)) body t ∧ t { nx := fun _ _ => V.non = .bl true, rt := fun v _ => v = .bl true } (L2.start NL [.ref a]) H := by
  obtain ⟨f0, F0⟩ := c.def_ 0 (d := d_law_pen) rfl
  obtain ⟨f1, F1⟩ := c.def_ 1 (d := d_law_draw) rfl
  obtain ⟨f2, F2⟩ := c.def_ 2 (d := d_law_pick) rfl
  obtain ⟨f3, F3⟩ := c.def_ 3 (d := d_law_value) rfl
  obtain ⟨f4, F4⟩ := c.def_ 4 (d := d_law_made) rfl
  obtain ⟨f5, F5⟩ := c.def_ 5 (d := d_law_named) rfl
  obtain ⟨f6, F6⟩ := c.def_ 6 (d := d_law_fields) rfl
  obtain ⟨f7, F7⟩ := c.def_ 7 (d := d_law_classes) rfl
  obtain ⟨f8, F8⟩ := c.def_ 8 (d := d_law) rfl
  have g := fun (i : Nat) (x : Str) (e : fa2[i]? = some (.glo x)) => glo_ok hh G (c.fact i (f := .glo x) e)
  have n := fun (i : Nat) (x : Str) (e : fa2[i]? = some (.free x)) => free_ok hh G (c.fact i (f := .free x) e)
  have e := hfa.symm.trans (g 8 "law" rfl)
  cases e
  have hsup := n 22 "super" rfl
  obtain ⟨fds, hU⟩ := errs_of (w := w) hh G hsup (by decide +kernel) c
  have xF : (Fa.exc "FillError").ok K = true := c.fact 24 (f := .exc "FillError") rfl
  obtain ⟨xF1, xF2⟩ := ba xF
  have b8 := FunD.bindsA (ps := ["_law_script"]) F8 fun _ _ _ _ _ _ us hl => match us, hl with | [_], _ => rfl
  refine ⟨f8, _, _, _, _, _, F8, scL, fun s u => b8 s [u] rfl, fun base s H a ns cdv k1 k2 M0 hl hS hr => ?_⟩
  have U := hU base M0
  have TD : TxtD mg := ⟨n 16 "int" rfl, n 18 "len" rfl, n 15 "abs" rfl⟩
  have gPick : FnOk PP w K mg base CX0 2 _ f2 _ (spPick K) := ok_pick F2 F1 TD (g 1 "_law_draw" rfl)
  have b1 : Binds K f0 ["_law_script"] [] := F0.bindsN fun _ _ _ _ _ _ us hl => match us, hl with | [_], _ => rfl
  have b3 : Binds K f3 ["_law_pen_here"] [] := F3.bindsN fun _ _ _ _ _ _ us hl => match us, hl with | [_], _ => rfl
  have b4 : Binds K f4 ["_law_one", "_law_two"] [] := F4.bindsN fun _ _ _ _ _ _ us hl => match us, hl with | [_, _], _ => rfl
  have b5 : Binds K f5 ["_law_one", "_law_two"] [] := F5.bindsN fun _ _ _ _ _ _ us hl => match us, hl with | [_, _], _ => rfl
  have b6 : Binds K f6 ["_law_error", "_law_names"] [] := F6.bindsN fun _ _ _ _ _ _ us hl => match us, hl with | [_, _], _ => rfl
  have b7 : Binds K f7 ["_law_error"] [] := F7.bindsN fun _ _ _ _ _ _ us hl => match us, hl with | [_], _ => rfl
  have T : LT w K mg base _ _ _ _ _ _ f0 f3 f4 f5 f6 f7 := {
    gP := ok_pen F0 (n 19 "list" rfl)
    gV := ok_value F3 F2 gPick (g 2 "_law_pick" rfl)
    gM := ok_made F4 U
    gN := ok_named F5 U
    gF := ok_fields F6
    gC := ok_cls F7 U (ba c.all.2.2.2).1 (eiAll U) (n 17 "isinstance" rfl) (n 20 "range" rfl)
    mP := g 0 "_law_pen" rfl
    mV := g 3 "_law_value" rfl
    mM := g 4 "_law_made" rfl
    mN := g 5 "_law_named" rfl
    mF := g 6 "_law_fields" rfl
    mC := g 7 "_law_classes" rfl
    kP := F0.kp
    kV := F3.kp
    kM := F4.kp
    kN := F5.kp
    kF := F6.kp
    kC := F7.kp
    bP := b1
    bV := b3
    bM := b4
    bN := b5
    bF := b6
    bC := b7
    range := n 20 "range" rfl
    len := n 18 "len" rfl
    repr := n 21 "repr" rfl
    isi := n 17 "isinstance" rfl
    vE := n 14 "ValueError" rfl
    lE := n 11 "LookupError" rfl
    tE := n 13 "TypeError" rfl
    aE := n 9 "ArithmeticError" rfl
    atE := n 10 "AttributeError" rfl
    rE := n 12 "RuntimeError" rfl
    fE := g 23 "FillError" rfl
    fX := xF1
    fK := (ba xF2).1
    ex := c.all.2.2.2 }
  exact law_body T U s H a ns cdv hS hr
end My
open PySem PySem.W PySem.Calls PyProof.Rows
theorem PySem.Challenge.cw_filledrow_k01_errors_and_their_fields_holds : PySem.Challenge.rw_filledrow_k01_errors_and_their_fields.Holds := by
  w_on; o_law
  refine HandSHeadRun.head_any (r := OpenLaw.row My.RW) (q := view (OpenLaw.row My.RW).prog [33]) (H := My.hk) (ob := My.ob) (M := 8000) (loose := My.loose) (d := HandSHeadRun.topDef (OpenLaw.row My.RW).prog 33) (kwd := []) (fun s => MyHead.seeZ_eq s)
    (by kernel_rfl) (fun s => by kernel_rfl) My.run (by kernel_rfl) (by kernel_rfl) (by kernel_rfl) (by rfl) (by first | assumption | decide +kernel) (by decide +kernel) ⟨rfl, rfl, rfl, rfl, rfl, by decide +kernel⟩ ?hw ?hc
  case hw => w_witness2
  case hc =>
    refine GEnd.walk_at (l := My.RW) (n := 63) (k := 3) (x := "_law_script") (N := My.NL) rfl (by decide) (by kernel_rfl) ⟨rfl, by decide, by decide⟩ ?F
    intro w mg fa h Y G hmg0
    obtain ⟨K, KX, c⟩ := Y
    have hmg : mg ("law" : PySem.Str) = some (.ref fa) := by
      have e : (HandSHeadRun.topDef (OpenLaw.row My.RW).prog 33).name = ("law" : PySem.Str) := by kernel_rfl
      rw [← e]
      exact hmg0
    obtain ⟨fd, y, qual, params, body, scope, a1, a2, a3, a4⟩ := My.all_of (w := w) KX G hmg c
    exact ⟨K, fd, y, qual, params, body, scope, KX, a1, a2, a3, a4⟩
#print axioms PySem.Challenge.cw_filledrow_k01_errors_and_their_fields_holds

