import PyProof.Rows.All
import Wide.All
import OpenK.AllK
import Wide.FinOn
import KE.KFromBytes
import HandS.ForMost
import KE.KExcSuper
import HandS.ExcInit
import HandS.ExcOwn
import HandS.Walk
import HandS.Steps
import HandS.Evl
import HandS.Zip
import HandS.IsInst
import HandS.Wide
import HandS.TupAny
import HandS.SortInts
import KE.LtData
import KE.DataEq
import HandS.Codes
import KE.DataMinMax
import HandS.Strs
import HandS.SetFor
import HandS.Text
import HandS.Property
import HandS.Star
import HandS.FStr
import HandS.ClsMeth
import HandS.TryOnly
import HandS.Style
import HandS.ExcField
import HandS.HotCalls
import HandS.TryMany
import HandS.WordsExc
import HandS.CallSlots
import KE.KTryMore
import HandS.Lambda
import HandS.EndOwn
import KE.KDflt
import KE.KNestM
import KE.IntTextText
import HandS.Deep
import HandS.ExcInitHot
import PySem.Challenge.RW_eachentry_k06_texts_of_stretches
set_option Elab.async false
set_option linter.all false
set_option maxRecDepth 100000
set_option maxHeartbeats 3000000
/-! Own exceptions over ValueError: class C(..): def __init__(self, f): super().__init__("C"); self.f = f; self.code = "C". -/
namespace PySem
namespace ExN
open PyProof.Rows PySem.W PySem.HandSPX PySem.Calls
def iA (fl : Str) (p1 p2 : Pos) : Arguments := { posonlyargs := [], args := [{ arg := "self", annotation := none, pos := p1 }, { arg := fl, annotation := none, pos := p2 }], vararg := none, kwonlyargs := [], kw_defaults := [], kwarg := none, defaults := [] }
def iB (nm fl : Str) (a b c d e f g h i j k l m n : Pos) : List Stmt :=
  [.Expr (.Call (.Attribute (.Call (.Name "super" a) [] [] b) "__init__" c) [.Constant (.str nm) 0 d] [] e) f,
   .Assign [.Attribute (.Name "self" g) fl h] (.Name fl i) j,
   .Assign [.Attribute (.Name "self" k) "code" l] (.Constant (.str nm) 0 m) n]
def iS (fl : Str) : Scope := { kind := .function, names := [("self", .local), (fl, .local), ("__class__", .free), ("super", .globalImplicit)], isGenerator := false, isCoroutine := false, more := [] }
/-- a field's name that stands in no other's way -/
structure Fld (fl : Str) : Prop where
  bd : ∀ (qual : Str) (p1 p2 : Pos) (body : List Stmt) (doc pm : Value) (an : Option Addr) (cdv ct : Value) (cc : Addr) (x v : Value), bindArgs (ksFn "__init__" qual (iA fl p1 p2) body (iS fl) .none .none doc pm an cdv ct cc) ⟨[x, v], []⟩ = pure [(("self" : Str), x), (fl, v)]
  lo : (iS fl).names.lookup fl = some .local
  s0 : (iS fl).names.lookup ("self" : Str) = some .local
  s2 : (iS fl).names.lookup ("__class__" : Str) = some .free
  s3 : (iS fl).names.lookup ("super" : Str) = some .globalImplicit
  ne : fl ≠ "self" ∧ fl ≠ "code"
  db : (fl == ("__debug__" : Str)) = false
theorem fld_given : Fld "given" := ⟨fun _ _ _ _ _ _ _ _ _ _ _ _ => rfl, rfl, rfl, rfl, rfl, ⟨by decide, by decide⟩, by decide⟩
theorem fld_at : Fld "at" := ⟨fun _ _ _ _ _ _ _ _ _ _ _ _ => rfl, rfl, rfl, rfl, rfl, ⟨by decide, by decide⟩, by decide⟩
theorem fld_most : Fld "most" := ⟨fun _ _ _ _ _ _ _ _ _ _ _ _ => rfl, rfl, rfl, rfl, rfl, ⟨by decide, by decide⟩, by decide⟩
theorem fld_name : Fld "name" := ⟨fun _ _ _ _ _ _ _ _ _ _ _ _ => rfl, rfl, rfl, rfl, rfl, ⟨by decide, by decide⟩, by decide⟩
theorem fld_line : Fld "line" := ⟨fun _ _ _ _ _ _ _ _ _ _ _ _ => rfl, rfl, rfl, rfl, rfl, ⟨by decide, by decide⟩, by decide⟩
/-- what the written part tells of the class C of the name nm, of its __init__ at fI, of its field fl -/
structure Txt (P : Program) (K : Frag) (nm fl : Str) (C fI : Addr) : Prop where
  cls : ∃ cn q N bs bm sn sub ab col dd k0 k1 k2 k3 k5, K.lookup C = some (excClassObj cn q C N bs bm true sn sub ab col dd k0 k1 k2 k3 k5 "ValueError.__new__") ∧ refsVE bm = true
  sa : findIn K (.ref C) "__setattr__" = some (some (.builtin "object.__setattr__"))
  iC : findIn K (.ref C) "__init__" = some (some (.ref fI))
  tI : typeIn K (.ref fI) = some (.type "function")
  kC : keepIn K (.ref C) = true
  exC : subIn K (.ref C) (.type "BaseException") = some true
  tyC : typeIn K (.ref C) = some (.type "type")
  noF : findIn K (.ref C) fl = some none
  noC : findIn K (.ref C) "code" = some none
  sup : ks_superIn K C C "__init__" = some (some (.builtin "ValueError.__init__"))
  vB : subIn K (.ref C) (.type "ValueError") = some true
  mC : mroIn K C (.ref C) = some true
  tp : nsIn K cStatics "thirdparty.any" = some none
  fd : Fld fl
  top : (P.main.scope.names.lookup ("super" : Str)).isSome = false
  fn : ∃ (oc : Value) (od : Option Addr) (doc pm : Value) (an : Option Addr) (cda : Addr) (ct : Value) (osl : Array (Option Value)) (cc : Addr) (qual : Str) (p1 p2 a b c d e f g h i j k l m n : Pos),
    K.lookup fI = some ⟨oc, od, .func (ksFn "__init__" qual (iA fl p1 p2) (iB nm fl a b c d e f g h i j k l m n) (iS fl) .none .none doc pm an (.ref cda) ct cc), osl⟩ ∧ codeIn K (.ref cda) qual = true ∧
    (c.endLine == e.line) = true ∧ (∃ ccl cdd vs ccs file tf, K.lookup cda = some ⟨ccl, cdd, .fields vs, ccs⟩ ∧ vs[2]? = some (.str file tf) ∧ ((P.main.file : Str) == file) = true) ∧
    ∃ cl cld csl, K.lookup cc = some ⟨cl, cld, .cell (some (.ref C)), csl⟩
theorem kept_but {K : Frag} {h h' : Heap} {x : Addr} (X : K.In h) (hx : K.lookup x = none) (k : ∀ b o, b ≠ x → h.get? b = some o → h'.get? b = some o) : K.In h' := fun a o e =>
  k a o (fun z => by rw [z, hx] at e; cases e) (X a o e)
/-- what __init__ leaves of a fresh exception at x -/
structure InitEnd (h h' : Heap) (x C dx t1 : Addr) (nm fl : Str) (v : Value) : Prop where
  keep : ∀ b o, b ≠ x → h.get? b = some o → h'.get? b = some o
  obj : h'.get? x = some { cls := .ref C, dict := some dx, data := .fields #[.ref t1, .none, .none, .none, .bool false, .none] }
  dbig : h.objs.size ≤ dx
  dne : dx ≠ x
  ns : ∃ tk, h'.Ns1 dx (fun y => if y = "code" then some (.str nm tk) else if y = fl then some v else none)
/-- a made exception -/
structure Made (h h' : Heap) (e C d : Addr) (nm fl : Str) (v : Value) : Prop where
  keep : ∀ b o, h.get? b = some o → h'.get? b = some o
  new : h.objs.size ≤ e
  obj : ∃ t1, h'.get? e = some { cls := .ref C, dict := some d, data := .fields #[.ref t1, .none, .none, .none, .bool false, .none] }
  dbig : h.objs.size ≤ d
  dne : d ≠ e
  ns : ∃ tk, h'.Ns1 d (fun y => if y = "code" then some (.str nm tk) else if y = fl then some v else none)
theorem mw_init_row {M : Model} {A : Around} {E : Value → Shared → Prop} {s : Shared} {pos : Pos} {u x : Addr} {z : Str} {k : Nat} {p : Pos} {env : Env} {Q : Value → Shared → Prop} (hu : s.heap.get? u = some (kxs_mw "ValueError.__init__" x))
    (h : ∀ tk, wpAny M A (call (.ref u) [.str z tk]) Q E { s with toks := s.toks + 1 }) : wpAny M A (callWith pos (.ref u) [] (backTo pos (starEach [.Constant (.str z) k p] env)) []) Q E s := by
  refine kxs_callWith (i := "ValueError.__init__") (x := x) rfl ?_
  show wpAny M A (evalArgs (.ref u) true ((false, eval (.Constant (.str z) k p) env) :: []) []) _ E s
  exact evalArgs_plain (spliced_cons (wpAny_Constant_str (spliced_nil ⟨hu, h s.toks⟩)))
section
variable {prog : Program} {w : World} {A : Around} {E : Value → Shared → Prop} {R : Result → Shared → Prop} {s : Shared} {K : Frag} {mg mb : Str → Option Value} {nm fl : Str} {C fI : Addr}
theorem mw_call {B newId i : String} {bmB : List Value} (FB : ExcBaseFacts B newId i bmB) {cn q : Str} {N : Addr} {bs bm : List Value} {hd : Bool} {sn : List Str} {sub : List Value} {ab : Bool} {col : Option Bool} {dd : Option Addr} {k0 k1 k2 k3 k5 : Option Value}
    (hC : s.heap.get? C = some (excClassObj cn q C N bs bm hd sn sub ab col dd k0 k1 k2 k3 k5 newId)) {u x t0 : Addr} {rest : List Value} {Q : Value → Shared → Prop} (hx : s.heap.get? x = some (excO C t0)) (hu : s.heap.get? u = some (kxs_mw i x)) (hz : rest.length ≤ sizeLine)
    (h : ∀ h' t1, (∀ b o, b ≠ x → s.heap.get? b = some o → h'.get? b = some o) → h'.get? x = some (excO C t1) → Q .none { s with heap := h' }) : wpAny (model prog w) A (call (.ref u) rest) Q E s := by
  obtain ⟨hh, g, d, tk, os⟩ := s; refine wpAny_call (codeAny_of_tree ?_)
  show wpAny _ A.in1 (callAny (.ref u) ⟨rest, []⟩) _ _ _; unfold callAny
  refine wpAny_bind (wpAny_load hu ?_); dsimp only
  refine KFB.if_so (by decide) ?_; refine wpAny_bind (check_bound_init FB.toExcCallFacts hC hx rfl ?_)
  refine wpAny_bind (wpAny_pure (wpAny_pure ⟨plainId_quiet FB.init.plain _, codeAny_builtin FB.initEntry ?_⟩))
  exact exc_init_tree (cls := .ref C) (t0 := t0) (dv := none) (c2 := .none) (c3 := .none) (b4 := .bool false) hx hz fun h' kp e' _ => h h' _ kp e'
theorem eval_mc {o : Expr} {name z : Str} {k : Nat} {apos pos p : Pos} {env : Env} (hl : (apos.endLine == pos.line) = true) : eval (.Call (.Attribute o name apos) [.Constant (.str z) k p] [] pos) env = (attributeBase o name env (eval o env) >>= fun ov => do
    standAt apos.atName
    let (f, first) ← holding [ov] (getMethod ov name (do return (← importBound o env).getD true))
    callWith pos f first (backTo pos (starEach [.Constant (.str z) k p] env)) []) := by
  have e : eval (.Call (.Attribute o name apos) [.Constant (.str z) k p] [] pos) env = (attributeBase o name env (eval o env) >>= fun ov => do
    standAt apos.atName
    methodCall o name apos pos env ov 1 (backTo pos (starEach [.Constant (.str z) k p] env)) (backToKw pos (keywordEach [] env))) := rfl
  have hf : methodCallForm 1 (backTo pos (starEach [.Constant (.str z) k p] env)) (backToKw pos (keywordEach [] env)) = true := rfl
  rw [e]
  unfold methodCall methodCallPos calleeOf
  rw [hf, hl]
  rfl
theorem notCls_exc {C t0 : Addr} : notCls (excO C t0) = true := rfl
/-- __init__ of a fresh exception -/
theorem init (T : Txt prog K nm fl C fI) {x t0 : Addr} {v : Value} (X : K.In s.heap) (hlim : s.heap.NoLimit) (hg : s.heap.Ns mainGlobals mg) (gs : mg "super" = none) (hb : s.heap.Ns builtinsNs mb) (bs : mb "super" = bootBuiltins "super")
    (hx : s.heap.get? x = some (excO C t0)) (hnx : K.lookup x = none) (hroom : A.depth < recursionLimit)
    (hq : ∀ h' tk dx t1, InitEnd s.heap h' x C dx t1 nm fl v → R (.ok (.ret .none)) { s with heap := h', toks := tk }) :
    codeAny (model prog w) A (.call (.ref fI) ⟨[.ref x, v], []⟩) R s := by
  obtain ⟨oc, od, doc, pm, an, cda, ct, osl, cc, qual, p1, p2, a, b, c, d, e, f, g, i', i, j, k', l, m, n, ho, hcd, hline, ⟨ccl, cdd, vs, ccs, file, tf, hcode, hvs, hfile⟩, cl, cld, csl, hcell⟩ := T.fn
  obtain ⟨cn, q, N, bss, bm, sn, sub, ab, col, dd, k0, k1, k2, k3, k5, hC, hbm⟩ := T.cls
  have hcl : clsIn K C = some { name := cn, bases := bss, mro := .ref C :: bm, ns := N, qualname := q, hasDict := true, slotNames := sn, subclasses := sub, abstract := ab, collection := col, hasDel := false } := by unfold clsIn; rw [hC] <;> rfl
  obtain ⟨FB, Flo, Fs0, Fs2, Fs3, ⟨n0, n1⟩, ndb⟩ := T.fd
  refine ks_codeAny_call_defAt (fd := ksFn "__init__" qual (iA fl p1 p2) (iB nm fl a b c d e f g i' i j k' l m n) (iS fl) .none .none doc pm an (.ref cda) ct cc) (body := iB nm fl a b c d e f g i' i j k' l m n) (binds := [("self", .ref x), (fl, v)])
    hroom (X _ _ ho) rfl hlim (codeRec_of X hcd) rfl (BindsTo.of_eq (FB ..)) ?hce ?hlo (fun h₁ hn kk => ?_)
  case hce =>
    intro y hy
    have hy : y ∈ (iS fl).names := hy
    simp only [iS, List.mem_cons, List.not_mem_nil, or_false] at hy
    rcases hy with rfl | rfl | rfl | rfl <;> (intro z; cases z)
  case hlo =>
    intro y hy
    simp only [List.mem_cons, List.not_mem_nil, or_false] at hy
    rcases hy with rfl | rfl
    · exact Fs0
    · exact Flo
  have X₁ : K.In h₁ := X.keeps kk
  have hx₁ := kk _ _ hx
  have ms : ([("self", Value.ref x), (fl, v)] : List (Str × Value)).reverse.lookup ("self" : Str) = some (.ref x) := by
    have q1 : (("self" : Str) == fl) = false := by simpa using Ne.symm n0
    show List.lookup ("self" : Str) [(fl, v), (("self" : Str), Value.ref x)] = _
    simp [List.lookup, q1]
  have mf : ([("self", Value.ref x), (fl, v)] : List (Str × Value)).reverse.lookup fl = some v := by
    show List.lookup fl [(fl, v), (("self" : Str), Value.ref x)] = _
    simp [List.lookup]
  have I₁ : InstAt h₁ x (excO C t0) C none := ⟨hx₁, rfl, rfl, trivial⟩
  -- super().__init__(nm)
  refine ks_wpAt_execs_cons (ks_wpAt_Expr_any (ks_wpAt_MethodCall ?_ (eval_mc hline)))
  refine ks_wpAt_super_base (env := ksEnv qual (iS fl) s.heap.objs.size fI (.ref cda) cc) Fs3 Fs2 rfl rfl (X₁ _ _ ho) rfl (ar := { arg := "self", annotation := none, pos := p1 }) rfl rfl (X₁ _ _ hcode) rfl hvs hfile T.top ?_
  refine ks_loadName_global rfl Fs3 (loadGlobal_builtin (env := ksEnv qual (iS fl) s.heap.objs.size fI (.ref cda) cc) (hg.keeps kk) gs (hb.keeps kk) bs ⟨rfl, ?_⟩)
  refine wpAny_loadName_free rfl Fs2 rfl ⟨_, X₁ _ _ hcell, rfl⟩ ?_
  refine wpAny_loadName_local rfl Fs0 hn ms ?_
  refine ks_wpAny_isType_cls (X₁ _ _ hC) rfl ⟨rfl, ?_⟩
  refine ks_wpAny_call_super (X₁ _ _ hC) rfl hx₁ rfl (fun c z => by cases z) (looks_mroIn X₁ T.mC) (fun h₂ e2 k2 => ?_)
  have X₂ : K.In h₂ := X₁.keeps k2
  have hx₂ := k2 _ _ hx₁
  have I₂ : InstAt h₂ x (excO C t0) C none := ⟨hx₂, rfl, rfl, trivial⟩
  have hsup : alongIn K "__init__" (((Value.ref C :: bm).dropWhile (· != .ref C)).drop 1) = some (some (.builtin "ValueError.__init__")) := by
    have z := T.sup
    unfold ks_superIn at z
    rw [hcl] at z
    exact z
  refine kxs_getMethod kxs_ValueError e2 (looks_opaque X₂ T.tp) (l₀ := .ref C :: bm) (fun A Q E s k q => wpAny_bind ((looks_clsIn X₂ hcl) A _ E s k (wpAny_pure q))) rfl X₂ hsup (I₂.type.andThen (looks_subIn X₂ T.vB)) (ks_ne X₂ I₂ hcl) rfl ?_
  refine mw_init_row (x := x) (Heap.get?_push_size _ rfl) fun tk => ?_
  have k3 : ∀ b o, h₂.get? b = some o → (h₂.push (kxs_mw "ValueError.__init__" x)).get? b = some o := fun b o z => Heap.get?_push_of_some _ z
  refine mw_call F.excBase_ValueError (k3 _ _ (X₂ _ _ hC)) (k3 _ _ hx₂) (Heap.get?_push_size _ rfl) (by rw [sizeLine_eq]; exact (by decide : 1 ≤ 16777216)) fun h₄ t1 k4 hx₄ => ?_
  have k04 : ∀ b o, b ≠ x → s.heap.get? b = some o → h₄.get? b = some o := fun b o hb z => k4 b o hb (k3 _ _ (k2 _ _ (kk _ _ z)))
  have X₄ : K.In h₄ := kept_but X hnx k04
  have hLx : s.heap.objs.size ≠ x := Nat.ne_of_gt (Heap.lt_size hx)
  have hn₄ : h₄.Ns s.heap.objs.size fun y => ([("self", Value.ref x), (fl, v)] : List (Str × Value)).reverse.lookup y := by
    obtain ⟨o, es, ep, z, r⟩ := hn
    exact ⟨o, es, ep, k4 _ _ hLx (k3 _ _ (k2 _ _ z)), r⟩
  -- self.fl = fl
  refine wpAt_of_wpAny (wpAny_execs_cons (plainObj_wpAny_Assign_Attribute ?_))
  refine wpAny_Name (wpAny_loadName_local rfl Flo hn₄ mf ?_) ndb
  refine wpAny_Name (wpAny_loadName_local rfl Fs0 hn₄ ms ?_)
  refine set_plain X₄ (ox := excO C t1) (od := none) ⟨hx₄, rfl, rfl, trivial⟩ T.sa ?_
  refine exc_osa X₄ hx₄ hcl (show refsVE (.ref C :: bm) = true from hbm) rfl T.noF (fun h₅ tk₅ dx k5' dn dne hx₅ hn₅ => ?_)
  have k05 : ∀ b o, b ≠ x → s.heap.get? b = some o → h₅.get? b = some o := fun b o hb z => k5' b o hb (k04 b o hb z)
  have X₅ : K.In h₅ := kept_but X hnx k05
  have hn5 : h₅.Ns s.heap.objs.size fun y => ([("self", Value.ref x), (fl, v)] : List (Str × Value)).reverse.lookup y := by
    obtain ⟨o, es, ep, z, r⟩ := hn₄
    exact ⟨o, es, ep, k5' _ _ hLx z, r⟩
  have hw : Within (fun y => if y = fl then some v else none) [fl] := Within.cons fl v Within.nil
  obtain ⟨oD, _, _, hoD, _, _⟩ := hn₅.count hw
  -- self.code = nm
  show wpAny _ _ (execs _ _) _ _ _; refine wpAny_execs_cons (plainObj_wpAny_Assign_Attribute ?_)
  refine wpAny_Constant_str ?_
  refine wpAny_Name (wpAny_loadName_local rfl Fs0 hn5 ms ?_)
  refine set_plain X₅ (ox := { cls := .ref C, dict := some dx, data := .fields #[.ref t1, .none, .none, .none, .bool false, .none] }) (od := some oD) ⟨hx₅, rfl, rfl, hoD⟩ T.sa ?_
  refine PySem.OEX.osa_old X₅ hx₅ hn₅ hw (show 1 ≤ 1000 by decide) hcl (show refsVE (.ref C :: bm) = true from hbm) rfl T.noC (fun h₆ tk₆ k6 hn₆ => ?_)
  show wpAny _ _ (execs _ _) _ _ _; have hsz : s.heap.objs.size ≤ dx := Nat.le_trans (Nat.le_of_lt hn₄.lt) dn
  refine wpAny_execs_nil (hq h₆ tk₆ dx t1 ⟨fun b o hb z => k6 b o (Nat.ne_of_lt (Nat.lt_of_lt_of_le (Heap.lt_size z) hsz)) (k05 b o hb z), k6 x _ (Ne.symm dne) hx₅, hsz, dne, _, hn₆⟩)
/-- C(v) -/
theorem made (T : Txt prog K nm fl C fI) {v : Value} (X : K.In s.heap) (hlim : s.heap.NoLimit) (hg : s.heap.Ns mainGlobals mg) (gs : mg "super" = none) (hb : s.heap.Ns builtinsNs mb) (bs : mb "super" = bootBuiltins "super") (hroom : A.depth + 1 < recursionLimit)
    (hq : ∀ h' tk e d, Made s.heap h' e C d nm fl v → R (.ok (.ret (.ref e))) { s with heap := h', toks := tk }) :
    codeAny (model prog w) A (.call (.ref C) ⟨[v], []⟩) R s := by
  obtain ⟨cn, q, N, bss, bm, sn, sub, ab, col, dd, k0, k1, k2, k3, k5, hC, hbm⟩ := T.cls
  obtain ⟨hp, g, dr, tk, os⟩ := s; have kk : ∀ b o, hp.get? b = some o → ((hp.push (kdv_tup [v])).push (excO C hp.objs.size)).get? b = some o := fun b o e => Heap.get?_push_of_some _ (Heap.get?_push_of_some _ e); have hget : ((hp.push (kdv_tup [v])).push (excO C hp.objs.size)).get? (hp.objs.size + 1) = some (excO C hp.objs.size) := by heap_get
  have hnx : K.lookup (hp.objs.size + 1) = none := by
    cases e : K.lookup (hp.objs.size + 1) with
    | none => rfl
    | some o => exact absurd (Nat.lt_of_succ_lt (Heap.lt_size (X _ _ e))) (Nat.lt_irrefl _)
  refine call_own F.excBase_ValueError (fun Y => refsVE_contains Y bm hbm) (X _ _ hC) (looks_findIn X T.iC) (fun self => bind_fn X self T.tI) (by rw [sizeLine_eq]; exact (by decide : 1 ≤ 16777216)) ?_
  refine init (s := ⟨(hp.push (kdv_tup [v])).push (excO C hp.objs.size), g, dr, tk, os⟩) T (X.keeps kk) (hlim.keeps kk) (hg.keeps kk) gs (hb.keeps kk) bs hget hnx hroom fun h' tk' dx t1 E => ?_
  have old : ∀ b o, hp.get? b = some o → h'.get? b = some o := fun b o e => E.keep b o (Nat.ne_of_lt (Nat.lt_succ_of_lt (Heap.lt_size e))) (kk b o e)
  have z : hp.objs.size ≤ dx := by
    have q := E.dbig
    rw [Heap.size_push, Heap.size_push] at q
    omega
  exact ⟨rfl, hq h' tk' (hp.objs.size + 1) dx ⟨old, Nat.le_succ _, ⟨t1, E.obj⟩, z, E.dne, E.ns⟩⟩
end
end ExN
end PySem

namespace EE
open PySem PySem.Spec PyProof.Rows L2 Evl RZ
open PyProof.Rows PySem PySem.Spec L2
/-- the fields of a made exception -/
def excF (nm fl : Str) (v : V) : List (Str × V) := [("code", .str nm), (fl, v)]
theorem excF_code (nm fl : Str) (v : V) : (excF nm fl v).lookup ("code" : Str) = some (.str nm) := by simp [excF, List.lookup]
theorem excF_fl {nm fl : Str} (v : V) (h : fl ≠ "code") : (excF nm fl v).lookup fl = some v := by
  have q : (fl == ("code" : Str)) = false := by simpa using h
  simp [excF, List.lookup, q]
theorem relO_exc {nm fl : Str} {v : V} {v' : Value} {tk : Tok} (r : RelV v v') (f : Str) : RelO ((excF nm fl v).lookup f) (if f = "code" then some (.str nm tk) else if f = fl then some v' else none) := by
  by_cases h : f = "code"
  · subst h
    rw [if_pos rfl, excF_code]
    exact ⟨tk, rfl⟩
  · have q : (f == ("code" : Str)) = false := by simpa using h
    rw [if_neg h]
    by_cases h2 : f = fl
    · subst h2
      rw [if_pos rfl, excF_fl v h]
      exact r
    · have q2 : (f == fl) = false := by simpa using h2
      rw [if_neg h2]
      have e : (excF nm fl v).lookup f = none := by simp [excF, List.lookup, q, q2]
      rw [e]
      trivial
/-- C(e), an exception: told by its class and its dict -/
def tMkX (C : Addr) (nm fl : Str) (te : TE) : L2.St → Hp → XK → Prop := fun σ H Q => te σ H fun v H1 => ∀ d, H1 d = none → Q (.ref C) (some d) (upd H1 d (.xd (excF nm fl v)))
section
variable {X : Cx} {C fI : Addr} {nm fl : Str}
/-- what calling such a class by its name asks -/
structure ExcN (P : Program) (K : PySem.W.Frag) (mg : Str → Option Value) (x fl : Str) (C : Addr) : Prop where
  ex : ∃ fI, PySem.ExN.Txt P K x fl C fI
  gC : mg x = some (.ref C)
  gs : mg "super" = none
theorem pmk_exn {a : Expr} {te : TE} {p pos : Pos} {k : Nat} (T : ExcN X.prog X.K X.mg nm fl C) (hr : Room k X.A) (hk : 1 ≤ k) (he : PE X a te) (hg : Gl X nm) (hdb : (nm == ("__debug__" : Str)) = false)
    (hs : starEach (a :: []) X.env = (false, eval a X.env) :: starEach [] X.env := by rfl) (hpl : (backTo pos (starEach [] X.env)).any (·.1) = false := by rfl) :
    PMk X (.Call (.Name nm p) [a] [] pos) (tMkX C nm fl te) := by
  obtain ⟨⟨fI, T⟩, gC, gs⟩ := T
  intro pins s σ H Q I h
  refine wpAny_Call_Name_kw (ld_glob I hg gC ?_ hdb); refine PySem.W.callWith_K (h₀ := X.base) I.ok.mod.kin T.kC ?_ hs hpl
  rw [hs]
  refine Calls.spliced_cons (thn (he.run pins s σ H _ I h) fun u s1 ⟨v, H1, I1, r1, q1⟩ => Calls.spliced_nil ⟨I1.kIn, ?_⟩)
  show wpAny _ _ (call (.ref C) [u]) _ _ _; have hlim := I1.nolimit
  have glob := I1.mod.glob.keeps I1.bk
  obtain ⟨mb, hb, hbb⟩ := I1.mod.blt
  have hb := hb.keeps I1.bk
  have kIn := I1.kIn
  obtain ⟨hp, g, dr, tk, os⟩ := s1; refine wpAny_call (PySem.ExN.made T kIn hlim glob gs hb (hbb _ (by decide)) (by have := hr.dp; omega) fun h' tk' e d M => ?_)
  show MkP X pins σ Q (.ref e) ⟨h', g, dr, tk', os⟩; obtain ⟨t1, hoe⟩ := M.obj
  obtain ⟨tk2, hns⟩ := M.ns
  obtain ⟨G', g1, g2⟩ := restrict h' fun b => decide (b ≠ e); have gk : ∀ b, b ≠ e → G'.get? b = h'.get? b := fun b hb => g1 b (decide_eq_true hb); have ge : G'.get? e = none := g2 e (by simp); have old : ∀ b o, hp.get? b = some o → G'.get? b = some o := fun b o q => (gk b (Nat.ne_of_lt (Nat.lt_of_lt_of_le (Heap.lt_size q) M.new))).trans (M.keep b o q)
  have ob : ObjOk X.prog X.w (upd H1 d (.xd (excF nm fl v))) G' d (.xd (excF nm fl v)) := ⟨_, hns.at (fun o q => (gk d M.dne).trans q), relO_exc r1⟩
  have J : Inv X pins σ (upd H1 d (.xd (excF nm fl v))) ⟨G', g, dr, tk', os⟩ := I1.laid (t' := tk') old M.dbig ob
  refine ⟨e, _, _, ⟨G', g, dr, tk', os⟩, _, .ref C, some d, rfl, J, fun b o q => ?_, ge, hoe, ⟨rfl, rfl⟩, rfl, rfl, ?_, rfl, I1.bare, raises_own T.exC T.tyC, q1 d (I1.hok.fresh M.dbig)⟩
  · by_cases hb : b = e
    · have q' : G'.get? b = some o := q
      rw [hb, ge] at q'; cases q'
    · exact (gk b hb).symm.trans q
  · rw [upd_ne (Ne.symm M.dne)]
    exact I1.hok.fresh M.new
/-- raise C(e) -/
def tRaise (C : Addr) (nm fl : Str) (E : XK) (te : TE) : TS := fun _ σ H => tMkX C nm fl te σ H E
theorem ps_raiseX {a : Expr} {te : TE} {p pos pos2 : Pos} {k : Nat} {E : XK} (hc : X.calm = true) (T : ExcN X.prog X.K X.mg nm fl C) (hr : Room k X.A) (hk : 1 ≤ k) (tk : Takes X fun cls d _ H => E cls d H) (he : PE X a te) (hg : Gl X nm) (hdb : (nm == ("__debug__" : Str)) = false)
    (hs : starEach (a :: []) X.env = (false, eval a X.env) :: starEach [] X.env := by rfl) (hpl : (backTo pos (starEach [] X.env)).any (·.1) = false := by rfl) :
    PS X (.Raise (some (.Call (.Name nm p) [a] [] pos)) none pos2) (tRaise C nm fl E te) := ps_raise hc tk (pmk_exn T hr hk he hg hdb hs hpl)
end

/-! The unchanging heap G under the heap H, with a list L of the objects that may change. -/

/-- G: what stays; L: what may change; both stand in H -/
structure Stt (G H : Hp) (L : List (Addr × HO)) : Prop where
  ex : Ex G H
  has : ∀ p, p ∈ L → H p.1 = some p.2
  out : ∀ p, p ∈ L → G p.1 = none
  nd : (L.map (·.1)).Nodup

theorem Ex.upd2 {G H : Hp} {p : Addr} {o : HO} (e : Ex G H) : Ex (upd G p o) (upd H p o) := fun a u h => by
  unfold upd at h ⊢
  by_cases c : a = p
  · rw [if_pos c] at h ⊢; exact h
  · rw [if_neg c] at h ⊢; exact e a u h
section
variable {G H : Hp} {L : List (Addr × HO)} {p b : Addr} {o o' : HO}
theorem Stt.free (S : Stt G H L) (h : H p = none) : G p = none := fresh_back S.ex h
theorem Stt.ne (S : Stt G H L) (h : H p = none) : ∀ q, q ∈ L → q.1 ≠ p := fun q hq z => by
  have := S.has q hq
  rw [z, h] at this
  cases this
theorem Stt.new (S : Stt G H L) (h : H p = none) : Stt (upd G p o) (upd H p o) L :=
  ⟨Ex.upd2 S.ex, fun q hq => by rw [upd_ne (S.ne h q hq)]; exact S.has q hq, fun q hq => by rw [upd_ne (S.ne h q hq)]; exact S.out q hq, S.nd⟩
theorem Stt.newE (S : Stt G H L) (h : H p = none) : Ex G (upd G p o) := Ex.new (S.free h)
theorem Stt.mkL (S : Stt G H L) (h : H p = none) : Stt G (upd H p o) ((p, o) :: L) := by
  refine ⟨S.ex.trans (Ex.new h), fun q hq => ?_, fun q hq => ?_, ?_⟩
  · cases hq with
    | head => exact upd_same
    | tail _ hq => rw [upd_ne (S.ne h q hq)]; exact S.has q hq
  · cases hq with
    | head => exact S.free h
    | tail _ hq => exact S.out q hq
  · rw [List.map_cons, List.nodup_cons]
    refine ⟨fun hm => ?_, S.nd⟩
    obtain ⟨q, hq, e⟩ := List.mem_map.mp hm
    exact S.ne h q hq e
theorem Stt.at (S : Stt G H L) (i : Nat) (h : L[i]? = some (b, o)) : H b = some o := S.has (b, o) (List.mem_of_getElem? h)
theorem Stt.drop (S : Stt G H ((p, o) :: L)) : Stt G H L :=
  ⟨S.ex, fun q hq => S.has q (List.mem_cons_of_mem _ hq), fun q hq => S.out q (List.mem_cons_of_mem _ hq), (List.nodup_cons.mp S.nd).2⟩
/-- what changed no longer will -/
theorem Stt.frz (S : Stt G H ((p, o) :: L)) : Stt (upd G p o) H L := by
  have hp : H p = some o := S.has (p, o) (List.mem_cons_self ..)
  refine ⟨fun a u h => ?_, S.drop.has, fun q hq => ?_, S.drop.nd⟩
  · unfold upd at h
    by_cases c : a = p
    · rw [if_pos c] at h
      cases h
      rw [c]; exact hp
    · rw [if_neg c] at h; exact S.ex a u h
  · have hne : q.1 ≠ p := fun z => (List.nodup_cons.mp S.nd).1 (List.mem_map.mpr ⟨q, hq, z⟩)
    rw [upd_ne hne]
    exact S.out q (List.mem_cons_of_mem _ hq)
theorem Stt.frzE (S : Stt G H ((p, o) :: L)) : Ex G (upd G p o) := Ex.new (S.out (p, o) (List.mem_cons_self ..))
theorem Stt.wr (S : Stt G H L) (i : Nat) (h : L[i]? = some (b, o)) : Stt G (upd H b o') (L.set i (b, o')) := by
  have hi : i < L.length := (List.getElem?_eq_some_iff.mp h).1
  have hb : (b, o) ∈ L := List.mem_of_getElem? h
  have hmap : (L.set i (b, o')).map (·.1) = L.map (·.1) := by
    rw [List.map_set]
    apply List.ext_getElem?
    intro j
    rw [List.getElem?_set]
    by_cases c : i = j
    · subst c
      rw [if_pos rfl, if_pos (by rw [List.length_map]; exact hi), List.getElem?_map, h]
      rfl
    · rw [if_neg c]
  have key : ∀ q, q ∈ L.set i (b, o') → q = (b, o') ∨ (q ∈ L ∧ q.1 ≠ b) := fun q hq => by
    obtain ⟨j, hj⟩ := List.getElem?_of_mem hq
    rw [List.getElem?_set] at hj
    by_cases c : i = j
    · subst c
      rw [if_pos rfl, if_pos hi] at hj
      exact .inl (Option.some.inj hj).symm
    · rw [if_neg c] at hj
      refine .inr ⟨List.mem_of_getElem? hj, fun z => c ?_⟩
      have h1 : (L.map (·.1))[i]? = some b := by rw [List.getElem?_map, h]; rfl
      have h2 : (L.map (·.1))[j]? = some b := by rw [List.getElem?_map, hj, ← z]; rfl
      have hi' : i < (L.map (·.1)).length := by rw [List.length_map]; exact hi
      exact (List.getElem?_inj hi' S.nd).mp (h1.trans h2.symm)
  refine ⟨fun a u ha => ?_, fun q hq => ?_, fun q hq => ?_, by rw [hmap]; exact S.nd⟩
  · rw [upd_ne (ne_of_none ha (S.out (b, o) hb))]
    exact S.ex a u ha
  · rcases key q hq with rfl | ⟨hq, hne⟩
    · exact upd_same
    · rw [upd_ne hne]; exact S.has q hq
  · rcases key q hq with rfl | ⟨hq, hne⟩
    · exact S.out (b, o) hb
    · exact S.out q hq
theorem Stt.nil (H : Hp) : Stt H H [] := ⟨Ex.refl H, (fun _ h => nomatch h), (fun _ h => nomatch h), List.nodup_nil⟩
theorem Stt.out_nil {G H : Hp} (S : Stt G H []) : Stt H H [] := Stt.nil H
end

/-! ### data -/
mutual
theorem Dp.ex {K : PySem.W.Frag} {H H' : Hp} (e : Ex H H') : ∀ (d : PyData) (v : V), Dp K H v d → Dp K H' v d
  | .none, _, h => by cases h; exact .non
  | .bool b, _, h => by cases h; exact .bl b
  | .int i, _, h => by cases h; exact .int i
  | .str x, _, h => by cases h; exact .str x
  | .list ds, _, h => by
    cases h with
    | lst hs ha => exact .lst (ex_l e hs) (DpAll.ex e ds _ ha)
  | .tuple ds, _, h => by
    cases h with
    | tup hs ha => exact .tup (ex_t e hs) (DpAll.ex e ds _ ha)
  | .dict _, _, h => by cases h
theorem DpAll.ex {K : PySem.W.Frag} {H H' : Hp} (e : Ex H H') : ∀ (ds : List PyData) (vs : List V), DpAll K H vs ds → DpAll K H' vs ds
  | [], _, h => by cases h; exact .nil
  | d :: ds, _, h => by
    cases h with
    | cons h1 h2 => exact .cons (Dp.ex e d _ h1) (DpAll.ex e ds _ h2)
end
theorem DpAll.length {K : PySem.W.Frag} {H : Hp} : ∀ {vs : List V} {ds : List PyData}, DpAll K H vs ds → vs.length = ds.length
  | _, _, .nil => rfl
  | _, _, .cons _ h => by rw [List.length_cons, List.length_cons, DpAll.length h]
theorem DpAll.get {K : PySem.W.Frag} {H : Hp} : ∀ {vs : List V} {ds : List PyData} {i : Nat} {v : V}, DpAll K H vs ds → vs[i]? = some v → ∃ d, ds[i]? = some d ∧ Dp K H v d
  | _, _, _, _, .nil, h => by simp at h
  | _, _, 0, _, .cons h1 _, h => by
    cases (Option.some.inj h)
    exact ⟨_, rfl, h1⟩
  | _, _, i + 1, _, .cons _ h2, h => DpAll.get (i := i) h2 h
theorem DpAll.append {K : PySem.W.Frag} {H : Hp} : ∀ {vs ws : List V} {ds es : List PyData}, DpAll K H vs ds → DpAll K H ws es → DpAll K H (vs ++ ws) (ds ++ es)
  | _, _, _, _, .nil, h => h
  | _, _, _, _, .cons h1 h2, h => .cons h1 (DpAll.append h2 h)
theorem DpAll.snoc {K : PySem.W.Frag} {H : Hp} {vs : List V} {ds : List PyData} {v : V} {d : PyData} (h : DpAll K H vs ds) (h1 : Dp K H v d) : DpAll K H (vs ++ [v]) (ds ++ [d]) := DpAll.append h (.cons h1 .nil)
theorem DpAll.take {K : PySem.W.Frag} {H : Hp} : ∀ {vs : List V} {ds : List PyData} (n : Nat), DpAll K H vs ds → DpAll K H (vs.take n) (ds.take n)
  | _, _, 0, _ => .nil
  | _, _, _ + 1, .nil => .nil
  | _, _, n + 1, .cons h1 h2 => .cons h1 (DpAll.take n h2)
theorem DpAll.drop {K : PySem.W.Frag} {H : Hp} : ∀ {vs : List V} {ds : List PyData} (n : Nat), DpAll K H vs ds → DpAll K H (vs.drop n) (ds.drop n)
  | _, _, 0, h => h
  | _, _, _ + 1, .nil => .nil
  | _, _, n + 1, .cons _ h2 => DpAll.drop n h2
theorem DpAll.ints {K : PySem.W.Frag} {H : Hp} : ∀ (ns : List Int), DpAll K H (ns.map V.int) (ns.map PyData.int)
  | [] => .nil
  | n :: ns => .cons (.int n) (DpAll.ints ns)
theorem DpAll.bools {K : PySem.W.Frag} {H : Hp} : ∀ (ns : List Bool), DpAll K H (ns.map V.bl) (ns.map PyData.bool)
  | [] => .nil
  | n :: ns => .cons (.bl n) (DpAll.bools ns)

/-! Readings by the head of what is read; rules that serve several kinds of values. -/
section
variable {K : PySem.W.Frag} {σ : L2.St} {H : Hp} {v x y : V} {ta tb tc te : TE} {t u : TT} {Q : VK} {QT : Bool → Hp → Prop} {QA : List V → Hp → Prop} {D : Ends} {tr : TA} {t1 t2 : TS} {i : Nat}
theorem rd_var (h : σ[i]? = some (some v)) (q : Q v H) : tVar i σ H Q := ⟨v, h, q⟩
theorem rd_c (q : Q v H) : tC v σ H Q := q
theorem rd_op {r : R2} (q : ta σ H fun x H1 => tb σ H1 fun y H2 => r x y H2 Q) : tOp r ta tb σ H Q := q
theorem rd_un {r : V → Hp → VK → Prop} (q : ta σ H fun x H1 => r x H1 Q) : tUn r ta σ H Q := q
theorem rd_test (q : te σ H fun x H1 => ∃ k, x = .bl k ∧ QT k H1) : tTest te σ H QT := q
theorem rd_B (q : te σ H fun x H1 => ∃ k, x = .bl k ∧ QT k H1) : tB te σ H QT := q
theorem rd_bl {P : Bool → Prop} {k : Bool} (q : P k) : ∃ c, V.bl k = V.bl c ∧ P c := ⟨k, rfl, q⟩
theorem rd_and (q : t σ H fun c H1 => if c = true then u σ H1 QT else QT false H1) : tAnd t u σ H QT := q
theorem rd_or (q : t σ H fun c H1 => if c = true then QT true H1 else u σ H1 QT) : tOr t u σ H QT := q
theorem rd_not (q : t σ H fun c H1 => QT (!c) H1) : tNot t σ H QT := q
theorem rd_andV (q : ta σ H fun x H1 => ∃ c, x = .bl c ∧ if c = true then tb σ H1 Q else Q (.bl false) H1) : tAndV ta tb σ H Q := q
theorem rd_orV (q : ta σ H fun x H1 => ∃ c, x = .bl c ∧ if c = true then Q (.bl true) H1 else tb σ H1 Q) : tOrV ta tb σ H Q := q
theorem rd_notV (q : ta σ H fun x H1 => ∃ c, x = .bl c ∧ Q (.bl (!c)) H1) : tNotV ta σ H Q := q
theorem rd_if (q : t σ H fun c H1 => if c = true then ta σ H1 Q else tb σ H1 Q) : tIf t ta tb σ H Q := q
theorem rd_nil (q : QA [] H) : tNil σ H QA := q
theorem rd_cons (q : ta σ H fun x H1 => tr σ H1 fun xs H2 => QA (x :: xs) H2) : tCons ta tr σ H QA := q
theorem rd_cb {r : List V → Hp → VK → Prop} (q : tr σ H fun vs H1 => r vs H1 Q) : tCB r tr σ H Q := q
theorem rd_call {sp : Sp} {E : XK} (q : tr σ H fun vs H1 => sp (vs ++ []) H1 Q E) : tCall sp [] E tr σ H Q := q
theorem rd_callK {sp : Sp} {gV : List V → List V → List V} {E : XK} {tk : TA} (q : tr σ H fun vs H1 => tk σ H1 fun zs H2 => sp (gV vs zs) H2 Q E) : tCallK sp gV E tr tk σ H Q := q
theorem rd_seq (q : t1 { D with nx := t2 D } σ H) : tSeq t1 t2 D σ H := q
theorem rd_ifs (q : t σ H fun b H1 => if b = true then t1 D σ H1 else t2 D σ H1) : tIfS t t1 t2 D σ H := q
theorem rd_next (q : D.nx σ H) : tNext D σ H := q
theorem rd_ret (q : te σ H D.rt) : tRet te D σ H := q
theorem rd_drop (q : te σ H fun _ H1 => D.nx σ H1) : tDrop te D σ H := q
theorem rd_asg {g : TG} (q : te σ H fun x H1 => g x σ H1 D.nx) : tAsg te g D σ H := q
theorem rd_name {N : L2.St → Hp → Prop} (q : N (σ.set i (some v)) H) : gName i v σ H N := q
theorem rd_tup (q : tr σ H fun xs H1 => xs.length ≤ sizeLine ∧ ∀ p, H1 p = none → Q (.ref p) (upd H1 p (.tup xs))) : tTup tr σ H Q := q
theorem rd_lst (q : tr σ H fun xs H1 => xs.length ≤ sizeLine ∧ ∀ p, H1 p = none → Q (.ref p) (upd H1 p (.lst xs))) : tLst tr σ H Q := q
theorem rd_par {i j : Nat} (q : tr σ H fun vs H1 => ∃ v w, vs = [v, w] ∧ D.nx ((σ.set i (some v)).set j (some w)) H1) : tPar i j tr D σ H := q
theorem rd_two {P : V → V → Prop} {a b : V} (q : P a b) : ∃ v w, [a, b] = [v, w] ∧ P v w := ⟨a, b, rfl, q⟩
theorem rd_bm {T : String} {r : V → List V → Hp → VK → Prop} (q : te σ H fun x H1 => tyV K T x H1 ∧ tr σ H1 fun xs H2 => r x xs H2 Q) : tBM K T r te tr σ H Q := q
theorem rd_app {a : Addr} {xs : List V} (h : H a = some (.lst xs)) (z : xs.length < 1000000) (q : Q .non (upd H a (.lst (xs ++ [v])))) : rAppend (.ref a) [v] H Q := ⟨a, xs, v, rfl, rfl, h, Nat.lt_of_lt_of_le z (by decide), q⟩
theorem ty_list {a : Addr} {xs : List V} (h : SqL K H a xs) : tyV K "list" (.ref a) H := .inl ⟨rfl, _, h⟩
theorem rd_sl {r : V → Option Int → Option Int → Hp → VK → Prop} {tl th : TO} (q : te σ H fun x H1 => tl σ H1 fun l H2 => th σ H2 fun u H3 => r x l u H3 Q) : tSl r te tl th σ H Q := q
theorem rd_noPart {QO : Option Int → Hp → Prop} (q : QO none H) : tNoPart σ H QO := q
theorem rd_part {QO : Option Int → Hp → Prop} (q : te σ H fun x H1 => ∃ i, x = .int i ∧ QO (some i) H1) : tPart te σ H QO := q
theorem rd_int {P : Int → Prop} {k : Int} (q : P k) : ∃ i, V.int k = V.int i ∧ P i := ⟨k, rfl, q⟩
theorem rd_dec {A B p : Prop} [Decidable p] (h1 : p → A) (h2 : ¬ p → B) : if decide p = true then A else B := by
  by_cases h : p
  · rw [decide_eq_true h, if_pos rfl]; exact h1 h
  · rw [decide_eq_false h, if_neg Bool.false_ne_true]; exact h2 h
theorem rd_decN {A B p : Prop} [Decidable p] (h1 : p → B) (h2 : ¬ p → A) : if (!decide p) = true then A else B := by
  by_cases h : p
  · rw [decide_eq_true h, if_neg (show ¬ (!true) = true by decide)]; exact h1 h
  · rw [decide_eq_false h, if_pos (show (!false) = true by decide)]; exact h2 h
theorem rd_nT {A B : Prop} (h : B) : if (!true) = true then A else B := by rw [if_neg (show ¬ (!true) = true by decide)]; exact h
theorem rd_nF {A B : Prop} (h : A) : if (!false) = true then A else B := by rw [if_pos (show (!false) = true by decide)]; exact h
theorem rd_iT {A B : Prop} (h : A) : if true = true then A else B := h
theorem rd_iF {A B : Prop} (h : B) : if false = true then A else B := by rw [if_neg Bool.false_ne_true]; exact h
/-! operators of ints -/
theorem rd_I0 {g : Int → Int → V} {a b : Int} (q : Q (g a b) H) : rI0 g (.int a) (.int b) H Q := ⟨a, b, rfl, rfl, q⟩
theorem rd_I {C : Int → Int → Prop} {g : Int → Int → V} {a b : Int} (c : C a b) (q : Q (g a b) H) : rI C g (.int a) (.int b) H Q := ⟨a, b, rfl, rfl, c, q⟩
theorem rd_U {g : Int → V} {a : Int} (q : Q (g a) H) : rU g (.int a) H Q := ⟨a, rfl, q⟩
/-! is None -/
theorem rd_isN (q : Q (.bl (decide (x = .non))) H) : rIsN x .non H Q := ⟨rfl, q⟩
theorem rd_notN (q : Q (.bl (!decide (x = .non))) H) : rNotN x .non H Q := ⟨rfl, q⟩
theorem int_non {a : Int} : decide (V.int a = V.non) = false := decide_eq_false (fun z => nomatch z)
theorem str_non {a : Str} : decide (V.str a = V.non) = false := decide_eq_false (fun z => nomatch z)
theorem bl_non {a : Bool} : decide (V.bl a = V.non) = false := decide_eq_false (fun z => nomatch z)
theorem ref_non {a : Addr} : decide (V.ref a = V.non) = false := decide_eq_false (fun z => nomatch z)
theorem non_non : decide (V.non = V.non) = true := decide_eq_true rfl
theorem int_eq {a b : Int} : decide (V.int a = V.int b) = decide (a = b) := by
  by_cases h : a = b
  · subst h; rw [decide_eq_true rfl, decide_eq_true rfl]
  · rw [decide_eq_false h, decide_eq_false (fun z => h (V.int.inj z))]
theorem bl_eq {a b : Bool} : decide (V.bl a = V.bl b) = decide (a = b) := by
  by_cases h : a = b
  · subst h; rw [decide_eq_true rfl, decide_eq_true rfl]
  · rw [decide_eq_false h, decide_eq_false (fun z => h (V.bl.inj z))]
theorem str_eq {a b : Str} : decide (V.str a = V.str b) = decide (a = b) := by
  by_cases h : a = b
  · subst h; rw [decide_eq_true rfl, decide_eq_true rfl]
  · rw [decide_eq_false h, decide_eq_false (fun z => h (V.str.inj z))]
end

/-! ### rules of several kinds -/
/-- a + b -/
def rStrAdd : R2 := fun x y H Q => ∃ i j, x = .str i ∧ y = .str j ∧ i.length + j.length ≤ sizeLine ∧ Q (.str (i ++ j)) H
def gAdd (K : PySem.W.Frag) : R2 := fun x y H Q => rI0 (fun i j => .int (i + j)) x y H Q ∨ rStrAdd x y H Q ∨ rCat x y H Q ∨ rCatA K x y H Q
/-- a == b: scalars; data -/
def gEq (K : PySem.W.Frag) : R2 := fun x y H Q => rEq x y H Q ∨ rEqD K x y H Q
def gNe (K : PySem.W.Frag) : R2 := fun x y H Q => rNe x y H Q ∨ rNeD K x y H Q
/-- a * b: ints; a list's copies -/
def gMul : R2 := fun x y H Q => rI CMul (fun i j => .int (i * j)) x y H Q ∨ rRep x y H Q
/-- a < b -/
def rStrLt : R2 := fun x y H Q => ∃ i j, x = .str i ∧ y = .str j ∧ Q (.bl (decide (i.cps.toList < j.cps.toList))) H
/-- a < b of data that can be compared place by place -/
def rLtD (K : PySem.W.Frag) : R2 := fun x y H Q => ∃ d e, Dp K H x d ∧ Dp K H y e ∧ PySem.W.alike d e = true ∧ d ≠ .none ∧ PyData.depth d ≤ 64 ∧ Q (.bl (PySem.W.dataLt d e)) H
theorem op_ltD {X : Cx} (hu : X.A.units + 64 < cLine) : OpR X (compareOp .Lt) (rLtD X.K) := by
  rintro pins s σ H x y v u Q hI hv hu' ⟨d, e, hd, he, hal, hno, hdep, hQ⟩
  have ⟨l1, hr1⟩ := Dp.reads hI d x v hd hv
  have ⟨l2, hr2⟩ := Dp.reads hI e y u he hu'
  have room : X.A.units + min d.depth e.depth < cLine := by
    have hm := Nat.min_le_left d.depth e.depth
    omega
  exact PySem.W.rcLt_alike d e X.A s v u l1 l2 hr1 hr2 hal hno room _ _ _ _ ⟨.bl _, H, hI, rfl, hQ⟩
def gLt (K : PySem.W.Frag) : R2 := fun x y H Q => rI0 (fun i j => .bl (decide (i < j))) x y H Q ∨ rStrLt x y H Q ∨ rLtD K x y H Q
/-- x in y: a sign of a text; of a list or tuple of flat things; data in a list -/
def gIn (K : PySem.W.Frag) : R2 := fun x y H Q => rInS x y H Q ∨ rIn K false x y H Q
def gNotIn (K : PySem.W.Frag) : R2 := fun x y H Q => rNotInS x y H Q ∨ rIn K true x y H Q
def gSl (K : PySem.W.Frag) : V → Option Int → Option Int → Hp → VK → Prop := fun x lo hi H Q => rSlL K x lo hi H Q ∨ rSlS x lo hi H Q ∨ rSlT K x lo hi H Q
def rSeqOf (K : PySem.W.Frag) (x : V) (H : Hp) (xs : List V) : Prop := ∃ p, x = .ref p ∧ (SqL K H p xs ∨ SqT K H p xs)
def gLen (K : PySem.W.Frag) : List V → Hp → VK → Prop := fun xs H Q => ∃ x n, xs = [x] ∧ LenV K x H n ∧ Q (.int n) H
def gInt : List V → Hp → VK → Prop := fun xs H Q => ((∃ i, xs = [.int i] ∧ Q (.int i) H) ∨ ∃ k, xs = [.bl k] ∧ Q (.int (if k then 1 else 0)) H) ∨ (∃ a n, xs = [.str a] ∧ PySem.intText? a = some n ∧ a.length ≤ 640 ∧ Q (.int n) H)
def gBool : List V → Hp → VK → Prop := fun xs H Q => (∃ i, xs = [.int i] ∧ Q (.bl (i != 0)) H) ∨ ∃ k, xs = [.bl k] ∧ Q (.bl k) H
def gList (K : PySem.W.Frag) : List V → Hp → VK → Prop := fun xs H Q => ∃ p ys, xs = [.ref p] ∧ (SqL K H p ys ∨ SqT K H p ys) ∧ ∀ l, H l = none → Q (.ref l) (upd H l (.lst ys))
def gTuple (K : PySem.W.Frag) : List V → Hp → VK → Prop := fun xs H Q => ∃ p ys, xs = [.ref p] ∧ ((SqL K H p ys ∧ ∀ l, H l = none → Q (.ref l) (upd H l (.tup ys))) ∨ (SqT K H p ys ∧ Q (.ref p) H))
def gIsi (K : PySem.W.Frag) : List V → Hp → VK → Prop := fun xs H Q => rIsi K xs H Q ∨ rIsiT K xs H Q
def gRange1 : Nat := 0
section
variable {X : Cx}
theorem og_add : OpR X (binaryOp .Add) (gAdd X.K) := op_add.or (op_add_str.or (op_cat.or op_catA))
theorem og_sub : OpR X (binaryOp .Sub) (rI0 fun i j => .int (i - j)) := op_sub
theorem og_mul : OpR X (binaryOp .Mult) gMul := op_mul.or op_rep
theorem og_mod : OpR X (binaryOp .Mod) (rI (fun _ j => j ≠ 0) fun i j => .int (i.fmod j)) := op_modN
theorem og_fdiv : OpR X (binaryOp .FloorDiv) (rI CDivN fun i j => .int (i.fdiv j)) := op_fdivN
theorem og_pow : OpR X (binaryOp .Pow) (rI CPow fun i j => .int (i ^ j.toNat)) := op_pow
theorem og_eq (hu : X.A.units + 64 < cLine) : OpR X (compareOp .Eq) (gEq X.K) := op_eq.or (op_eqD hu)
theorem og_ne (hu : X.A.units + 64 < cLine) : OpR X (compareOp .NotEq) (gNe X.K) := op_ne.or (op_neD hu)
theorem og_lt (hu : X.A.units + 64 < cLine) : OpR X (compareOp .Lt) (gLt X.K) := op_lt.or (op_lt_str.or (op_ltD hu))
theorem og_le : OpR X (compareOp .LtE) (rI0 fun i j => .bl (decide (i ≤ j))) := op_le
theorem og_gt : OpR X (compareOp .Gt) (rI0 fun i j => .bl (decide (j < i))) := op_gt
theorem og_ge : OpR X (compareOp .GtE) (rI0 fun i j => .bl (decide (j ≤ i))) := op_ge
theorem og_in : OpR X (compareOp .In) (gIn X.K) := op_inS.or op_in_seq
theorem og_notIn : OpR X (compareOp .NotIn) (gNotIn X.K) := op_notInS.or op_notIn_seq
theorem og_sl : SlR X (gSl X.K) := sl_list.or (sl_str.or sl_tup)
theorem cg_len : CallR X (.builtin "len") (gLen X.K) := call_len
theorem cg_int : CallR X (.type "int") gInt := call_int1.or call_int_str
theorem cg_bool : CallR X (.type "bool") gBool := call_bool1
theorem cg_list : CallR X (.type "list") (gList X.K) := call_list_of
theorem cg_tuple : CallR X (.type "tuple") (gTuple X.K) := call_tuple_of
theorem cg_isi : CallR X (.builtin "isinstance") (gIsi X.K) := call_isi.or call_isiT
end
section
variable {K : PySem.W.Frag} {σ : L2.St} {H : Hp} {v x y : V} {Q : VK}
theorem rd_addI {a b : Int} (q : Q (.int (a + b)) H) : gAdd K (.int a) (.int b) H Q := .inl ⟨a, b, rfl, rfl, q⟩
theorem rd_addS {a b : Str} (h : a.length + b.length ≤ sizeLine) (q : Q (.str (a ++ b)) H) : gAdd K (.str a) (.str b) H Q := .inr (.inl ⟨a, b, rfl, rfl, h, q⟩)
theorem rd_addL {a b : Addr} {xs ys : List V} (h1 : H a = some (.lst xs)) (h2 : H b = some (.lst ys)) (h : xs.length + ys.length ≤ sizeLine) (q : ∀ p, H p = none → Q (.ref p) (upd H p (.lst (xs ++ ys)))) : gAdd K (.ref a) (.ref b) H Q := .inr (.inr (.inl ⟨a, b, xs, ys, rfl, rfl, h1, h2, h, q⟩))
theorem rd_mulI {a b : Int} (h : CMul a b) (q : Q (.int (a * b)) H) : gMul (.int a) (.int b) H Q := .inl ⟨a, b, rfl, rfl, h, q⟩
theorem rd_eqI {a b : Int} (q : Q (.bl (decide (a = b))) H) : gEq K (.int a) (.int b) H Q := .inl ⟨rfl, by rw [int_eq]; exact q⟩
theorem rd_neI {a b : Int} (q : Q (.bl (!decide (a = b))) H) : gNe K (.int a) (.int b) H Q := .inl ⟨rfl, by rw [int_eq]; exact q⟩
theorem rd_eqB {a b : Bool} (q : Q (.bl (decide (a = b))) H) : gEq K (.bl a) (.bl b) H Q := .inl ⟨rfl, by rw [bl_eq]; exact q⟩
theorem rd_neB {a b : Bool} (q : Q (.bl (!decide (a = b))) H) : gNe K (.bl a) (.bl b) H Q := .inl ⟨rfl, by rw [bl_eq]; exact q⟩
theorem rd_eqS {a b : Str} (q : Q (.bl (decide (a = b))) H) : gEq K (.str a) (.str b) H Q := .inl ⟨rfl, by rw [str_eq]; exact q⟩
theorem rd_neS {a b : Str} (q : Q (.bl (!decide (a = b))) H) : gNe K (.str a) (.str b) H Q := .inl ⟨rfl, by rw [str_eq]; exact q⟩
theorem rd_eqD {d e : PyData} (h1 : Dp K H x d) (h2 : Dp K H y e) (s1 : SeqAt.shaped d = true) (s2 : SeqAt.shaped e = true) (q : Q (.bl (PyData.eqv d e)) H) : gEq K x y H Q := .inr ⟨d, e, h1, h2, s1, s2, q⟩
theorem rd_neD {d e : PyData} (h1 : Dp K H x d) (h2 : Dp K H y e) (s1 : SeqAt.shaped d = true) (s2 : SeqAt.shaped e = true) (q : Q (.bl (!PyData.eqv d e)) H) : gNe K x y H Q := .inr ⟨d, e, h1, h2, s1, s2, q⟩
theorem rd_ltI {a b : Int} (q : Q (.bl (decide (a < b))) H) : gLt K (.int a) (.int b) H Q := .inl ⟨a, b, rfl, rfl, q⟩
theorem rd_ltD {d e : PyData} (h1 : Dp K H x d) (h2 : Dp K H y e) (a : PySem.W.alike d e = true) (n : d ≠ .none) (z : PyData.depth d ≤ 64) (q : Q (.bl (PySem.W.dataLt d e)) H) : gLt K x y H Q := .inr (.inr ⟨d, e, h1, h2, a, n, z, q⟩)
theorem rd_intI {a : Int} (q : Q (.int a) H) : gInt [.int a] H Q := .inl (.inl ⟨a, rfl, q⟩)
theorem rd_intB {k : Bool} (q : Q (.int (if k then 1 else 0)) H) : gInt [.bl k] H Q := .inl (.inr ⟨k, rfl, q⟩)
theorem rd_boolB {k : Bool} (q : Q (.bl k) H) : gBool [.bl k] H Q := .inr ⟨k, rfl, q⟩
theorem rd_boolI {k : Int} (q : Q (.bl (k != 0)) H) : gBool [.int k] H Q := .inl ⟨k, rfl, q⟩
theorem rd_lenL {a : Addr} {xs : List V} (h : SqL K H a xs) (q : Q (.int xs.length) H) : gLen K [.ref a] H Q := ⟨.ref a, xs.length, rfl, .inl ⟨xs, h, rfl⟩, q⟩
theorem rd_lenT {a : Addr} {xs : List V} (h : SqT K H a xs) (q : Q (.int xs.length) H) : gLen K [.ref a] H Q := ⟨.ref a, xs.length, rfl, .inr ⟨xs, h, rfl⟩, q⟩
theorem rd_lenS {z : Str} (h : z.length ≤ sizeLine) (q : Q (.int z.length) H) : gLen K [.str z] H Q := ⟨.str z, z.length, rfl, ⟨h, rfl⟩, q⟩
theorem rd_ixL {a : Addr} {xs : List V} {i : Int} (h : SqL K H a xs) (e : atI xs i = some v) (q : Q v H) : rIx K (.ref a) (.int i) H Q := .inl ⟨a, xs, i, v, rfl, rfl, h, e, q⟩
theorem rd_ixT {a : Addr} {xs : List V} {i : Int} (h : SqT K H a xs) (e : atI xs i = some v) (q : Q v H) : rIx K (.ref a) (.int i) H Q := .inr (.inl ⟨a, xs, i, v, rfl, rfl, h, e, q⟩)
theorem rd_ixS {z : Str} {c : Nat} {i : Int} (h : z.length ≤ sizeLine) (e : atI z.cps.toList i = some c) (q : Q (.str ⟨#[c]⟩) H) : rIx K (.str z) (.int i) H Q := .inr (.inr ⟨z, i, c, rfl, rfl, h, e, q⟩)
theorem rd_all {a : Addr} {bs : List Bool} (h : SqL K H a (bs.map V.bl)) (q : Q (.bl (bs.all id)) H) : rAll K [.ref a] H Q := ⟨a, bs, rfl, h, q⟩
theorem rd_any {a : Addr} {bs : List Bool} (h : SqL K H a (bs.map V.bl)) (q : Q (.bl (bs.any id)) H) : rAny K [.ref a] H Q := ⟨a, bs, rfl, h, q⟩
theorem rd_slL {a : Addr} {xs : List V} {lo hi : Option Int} (h : SqL K H a xs) (q : ∀ p, H p = none → Q (.ref p) (upd H p (.lst (cutV xs lo hi)))) : gSl K (.ref a) lo hi H Q := .inl ⟨a, xs, rfl, h, q⟩
end

/-! The law's bag of draws. -/
theorem rd_sub {to ti : TE} {t : TSet} {v : V} {σ : L2.St} {H : Hp} {N : L2.St → Hp → Prop} (q : to σ H fun o H1 => ti σ H1 fun i H2 => t o i v H2 fun H3 => N σ H3) : gSub to ti t v σ H N := q
theorem rd_setL {p : Addr} {xs : List V} {k : Int} {j : Nat} {v : V} {H : Hp} {Q : Hp → Prop} (h : H p = some (.lst xs)) (e : ixN xs.length k = some j) (q : Q (upd H p (.lst (xs.set j v)))) : rSetL (.ref p) (.int k) v H Q := ⟨p, xs, k, j, rfl, rfl, h, e, q⟩
local macro_rules | `(tactic| walk_at "sql") => `(tactic| first
  | exact sq_of (by assumption)
  | assumption
  | exact ex_l (Stt.ex (by assumption)) (by assumption)
  | exact sq_of upd_same)
local macro_rules | `(tactic| walk_at "sqt") => `(tactic| first
  | exact st_of (by assumption)
  | assumption
  | exact ex_t (Stt.ex (by assumption)) (by assumption)
  | exact st_of upd_same)
local macro_rules | `(tactic| walk_at "ix") => `(tactic| first
  | ((with_reducible refine' rd_ixL ?h1 ?h2 ?_); (case h1 => walk_at "sql"); (case h2 => exact rfl))
  | ((with_reducible refine' rd_ixT ?h1 ?h2 ?_); (case h1 => walk_at "sqt"); (case h2 => exact rfl)))
local macro_rules | `(tactic| walk_at "go1") => `(tactic| first
  | with_reducible refine rd_seq ?_
  | with_reducible refine rd_op ?_
  | with_reducible refine rd_c ?_
  | ((with_reducible refine' rd_var ?hv ?_); (case hv => exact rfl))
  | with_reducible refine rd_cons ?_
  | with_reducible refine rd_nil ?_
  | with_reducible refine rd_asg ?_
  | with_reducible refine rd_name ?_
  | with_reducible refine rd_ret ?_
  | with_reducible refine rd_ifs ?_
  | with_reducible refine rd_test ?_
  | with_reducible refine rd_B ?_
  | with_reducible refine rd_bl ?_
  | with_reducible refine rd_and ?_
  | with_reducible refine rd_or ?_
  | with_reducible refine rd_not ?_
  | with_reducible refine rd_andV ?_
  | with_reducible refine rd_orV ?_
  | with_reducible refine rd_notV ?_
  | with_reducible refine rd_if ?_
  | with_reducible refine rd_iT ?_
  | with_reducible refine rd_iF ?_
  | with_reducible refine rd_nT ?_
  | with_reducible refine rd_nF ?_
  | with_reducible refine rd_cb ?_
  | with_reducible refine rd_call ?_
  | with_reducible refine rd_callK ?_
  | with_reducible refine rd_next ?_
  | with_reducible refine rd_drop ?_
  | with_reducible refine rd_par ?_
  | with_reducible refine rd_two ?_
  | with_reducible refine rd_bm ?_
  | with_reducible refine rd_tup ?_
  | with_reducible refine rd_lst ?_
  | with_reducible refine rd_sl ?_
  | with_reducible refine rd_noPart ?_
  | with_reducible refine rd_part ?_
  | with_reducible refine rd_int ?_
  | with_reducible refine rd_un ?_
  | with_reducible refine rd_I0 ?_
  | with_reducible refine rd_U ?_
  | with_reducible refine rd_isN ?_
  | with_reducible refine rd_notN ?_
  | with_reducible refine rd_addI ?_
  | with_reducible refine rd_eqI ?_
  | with_reducible refine rd_neI ?_
  | with_reducible refine rd_eqB ?_
  | with_reducible refine rd_neB ?_
  | with_reducible refine rd_eqS ?_
  | with_reducible refine rd_neS ?_
  | with_reducible refine rd_ltI ?_
  | with_reducible refine rd_intI ?_
  | with_reducible refine rd_intB ?_
  | with_reducible refine rd_boolB ?_
  | with_reducible refine rd_boolI ?_
  | with_reducible refine rd_sub ?_
  | walk_at "ix")
local macro_rules | `(tactic| walk_at "go") => `(tactic| (repeat walk_at "go1"); (try dsimp only))
local macro_rules | `(tactic| walk_at "dec") => `(tactic| first
  | ((with_reducible refine rd_dec (fun e => ?_) (fun e => ?_)) <;> first | (exfalso; revert e; decide) | (exfalso; cases e; done) | exact absurd rfl e | skip)
  | ((with_reducible refine rd_decN (fun e => ?_) (fun e => ?_)) <;> first | (exfalso; revert e; decide) | (exfalso; cases e; done) | exact absurd rfl e | skip))

def bagO (c : Addr) (i r x n : Int) : HO := .lst [.ref c, .int i, .int r, .int x, .int n]
def Bag (K : PySem.W.Frag) (G H : Hp) (b : Addr) (L : List (Addr × HO)) : Prop :=
  ∃ (c : Addr) (i r x n : Int) (ns : List Int), Stt G H ((b, .lst [.ref c, .int i, .int r, .int x, .int n]) :: L) ∧ SqL K G c (ns.map V.int) ∧ 0 ≤ i ∧ 0 ≤ r ∧ 0 ≤ x ∧ x < 2147483587 ∧ 0 ≤ n
def sp_draw (K : PySem.W.Frag) : Sp := fun vs H Q _ => ∃ (b : Addr) (m : Int) (G : Hp) (L : List (Addr × HO)), vs = [.ref b, .int m] ∧ 0 < m ∧ m < 1073741824 ∧ Bag K G H b L ∧
  ∀ d H', 0 ≤ d → d < m → Bag K G H' b L → Q (.int d) H'
def t_draw_0a_3 (K : PySem.W.Frag) : TS :=
  (tAsg (tOp (rI (fun _ j => j ≠ 0) fun i j => .int (i.fmod j)) (tCB gInt (tCons (tOp (gAdd K) (tOp (gAdd K) (tOp gMul (tOp (rIx K) (tVar 0) (tC (.int 3))) (tC (.int 40039))) (tOp gMul (tOp (rI (fun _ j => j ≠ 0) fun i j => .int (i.fmod j)) (tCB gInt (tCons (tVar 2) tNil)) (tC (.int 2147483549))) (tC (.int 337)))) (tC (.int 2017))) tNil)) (tC (.int 2147483587))) (gSub (tVar 0) (tC (.int 3)) rSetL))
def t_draw_0a_2 (K : PySem.W.Frag) : TS :=
  (tSeq (tAsg (tIf (tTest (tOp (rI0 fun i j => .bl (decide (j ≤ i))) (tVar 2) (tOp (rI CPow fun i j => .int (i ^ j.toNat)) (tC (.int 10)) (tC (.int 18))))) (tVar 2) (tC (.int 0))) (gSub (tVar 0) (tC (.int 2)) rSetL))
  (t_draw_0a_3 K))
def t_draw_0a_1 (K : PySem.W.Frag) : TS :=
  (tSeq (tAsg (tOp (gAdd K) (tOp (rIx K) (tVar 0) (tC (.int 1))) (tC (.int 1))) (gSub (tVar 0) (tC (.int 1)) rSetL))
  (t_draw_0a_2 K))
def t_draw_1a_2 (K : PySem.W.Frag) : TS :=
  (tRet (tVar 3))
def t_draw_1a_1 (K : PySem.W.Frag) : TS :=
  (tSeq (tAsg (tOp (rI CDivN fun i j => .int (i.fdiv j)) (tOp (rIx K) (tVar 0) (tC (.int 2))) (tVar 1)) (gSub (tVar 0) (tC (.int 2)) rSetL))
  (t_draw_1a_2 K))
def t_draw_5 (K : PySem.W.Frag) : TS :=
  (tRet (tOp (rI (fun _ j => j ≠ 0) fun i j => .int (i.fmod j)) (tCB gInt (tCons (tOp (gAdd K) (tOp (gAdd K) (tOp (rI CDivN fun i j => .int (i.fdiv j)) (tOp (rIx K) (tVar 0) (tC (.int 3))) (tC (.int 61))) (tOp gMul (tVar 4) (tC (.int 32003)))) (tOp (rIx K) (tVar 0) (tC (.int 4)))) tNil)) (tVar 1)))
def t_draw_4 (K : PySem.W.Frag) : TS :=
  (tSeq (tAsg (tOp (rI (fun _ j => j ≠ 0) fun i j => .int (i.fmod j)) (tCB gInt (tCons (tOp (gAdd K) (tOp (gAdd K) (tOp (gAdd K) (tOp gMul (tVar 4) (tVar 4)) (tOp gMul (tC (.int 65063)) (tVar 4))) (tOp gMul (tC (.int 6679)) (tOp (rIx K) (tVar 0) (tC (.int 4))))) (tC (.int 40009))) tNil)) (tC (.int 2147483587))) (gSub (tVar 0) (tC (.int 3)) rSetL))
  (t_draw_5 K))
def t_draw_3 (K : PySem.W.Frag) : TS :=
  (tSeq (tAsg (tOp (rIx K) (tVar 0) (tC (.int 3))) (gName 4))
  (t_draw_4 K))
def t_draw_2 (K : PySem.W.Frag) : TS :=
  (tSeq (tAsg (tOp (gAdd K) (tOp (rIx K) (tVar 0) (tC (.int 4))) (tC (.int 1))) (gSub (tVar 0) (tC (.int 4)) rSetL))
  (t_draw_3 K))
def t_draw_1 (K : PySem.W.Frag) : TS :=
  (tSeq (tIfS (tTest (tOp (rI0 fun i j => .bl (decide (j < i))) (tOp (rIx K) (tVar 0) (tC (.int 2))) (tC (.int 0)))) (tSeq (tAsg (tOp (rI (fun _ j => j ≠ 0) fun i j => .int (i.fmod j)) (tCB gInt (tCons (tOp (rIx K) (tVar 0) (tC (.int 2))) tNil)) (tVar 1)) (gName 3))
  (t_draw_1a_1 K)) tNext)
  (t_draw_2 K))
def t_draw (K : PySem.W.Frag) : TS :=
  (tSeq (tIfS (tAnd (tTest (tOp (gEq K) (tOp (rIx K) (tVar 0) (tC (.int 2))) (tC (.int 0)))) (tTest (tOp (gLt K) (tOp (rIx K) (tVar 0) (tC (.int 1))) (tCB (gLen K) (tCons (tOp (rIx K) (tVar 0) (tC (.int 0))) tNil))))) (tSeq (tAsg (tOp (rIx K) (tOp (rIx K) (tVar 0) (tC (.int 0))) (tOp (rIx K) (tVar 0) (tC (.int 1)))) (gName 2))
  (t_draw_0a_1 K)) tNext)
  (t_draw_1 K))
theorem fmod_lo (a : Int) {b : Int} (h : 0 < b) : 0 ≤ a.fmod b := by rw [Int.fmod_eq_emod_of_nonneg a (by omega)]; exact Int.emod_nonneg a (by omega)
theorem fmod_hi (a : Int) {b : Int} (h : 0 < b) : a.fmod b < b := by rw [Int.fmod_eq_emod_of_nonneg a (by omega)]; exact Int.emod_lt_of_pos a h
theorem fdiv_lo {a b : Int} (ha : 0 ≤ a) (h : 0 < b) : 0 ≤ a.fdiv b := by rw [Int.fdiv_eq_ediv_of_nonneg a (by omega)]; exact Int.ediv_nonneg ha (by omega)
theorem read_draw_1 {K : PySem.W.Frag} {b c : Addr} {m i r x n : Int} {ns : List Int} {G H : Hp} {L : List (Addr × HO)} {D : Ends} {s2 s3 s4 : Option V} (m0 : 0 < m) (m1 : m < 1073741824)
    (S : Stt G H ((b, .lst [.ref c, .int i, .int r, .int x, .int n]) :: L)) (hc : SqL K G c (ns.map V.int)) (hi : 0 ≤ i) (hr : 0 ≤ r) (hx : 0 ≤ x) (hx2 : x < 2147483587) (hn : 0 ≤ n)
    (q : ∀ d H', 0 ≤ d → d < m → Bag K G H' b L → D.rt (.int d) H') : t_draw_1 K D [some (.ref b), some (.int m), s2, s3, s4] H := by
  have hb := S.at 0 rfl
  unfold t_draw_1
  walk_at "go"
  refine rd_dec (fun e => ?_) (fun e => ?_)
  · walk_at "go"
    refine rd_I (by omega) ?_
    walk_at "go"
    unfold t_draw_1a_1
    walk_at "go"
    refine rd_I ⟨by omega, by omega⟩ ?_
    walk_at "go"
    refine rd_setL hb rfl ?_
    unfold t_draw_1a_2
    walk_at "go"
    exact q _ _ (fmod_lo _ m0) (fmod_hi _ m0) ⟨c, i, r.fdiv m, x, n, ns, S.wr 0 rfl, hc, hi, fdiv_lo hr m0, hx, hx2, hn⟩
  · walk_at "go"
    unfold t_draw_2
    walk_at "go"
    refine rd_setL hb rfl ?_
    have S2 : Stt G (upd H b _) ((b, .lst [.ref c, .int i, .int r, .int x, .int (n + 1)]) :: L) := S.wr 0 rfl
    have hb2 := S2.at 0 rfl
    unfold t_draw_3
    walk_at "go"
    unfold t_draw_4
    walk_at "go"
    refine rd_mulI (.inl ⟨by omega, by omega⟩) ?_
    walk_at "go"
    refine rd_mulI (.inl ⟨by omega, by omega⟩) ?_
    walk_at "go"
    refine rd_mulI (.inl ⟨by omega, by omega⟩) ?_
    walk_at "go"
    refine rd_I (by decide) ?_
    walk_at "go"
    refine rd_setL hb2 rfl ?_
    have S3 : Stt G _ ((b, .lst [.ref c, .int i, .int r, .int ((x * x + 65063 * x + 6679 * (n + 1) + 40009).fmod 2147483587), .int (n + 1)]) :: L) := S2.wr 0 rfl
    have hb3 := S3.at 0 rfl
    unfold t_draw_5
    walk_at "go"
    refine rd_I ⟨by decide, by decide⟩ ?_
    walk_at "go"
    refine rd_mulI (.inl ⟨by omega, by omega⟩) ?_
    walk_at "go"
    refine rd_I (by omega) ?_
    exact q _ _ (fmod_lo _ m0) (fmod_hi _ m0) ⟨c, i, r, _, n + 1, ns, S3, hc, hi, hr, fmod_lo _ (by decide), fmod_hi _ (by decide), by omega⟩
theorem read_draw {K : PySem.W.Frag} {b : Addr} {m : Int} {G H : Hp} {L : List (Addr × HO)} {D : Ends} {s2 s3 s4 : Option V} (m0 : 0 < m) (m1 : m < 1073741824)
    (B : Bag K G H b L) (q : ∀ d H', 0 ≤ d → d < m → Bag K G H' b L → D.rt (.int d) H') : t_draw K D [some (.ref b), some (.int m), s2, s3, s4] H := by
  obtain ⟨c, i, r, x, n, ns, S, hc, hi, hr, hx, hx2, hn⟩ := B
  obtain ⟨j, rfl⟩ : ∃ j : Nat, i = (j : Int) := ⟨i.toNat, by omega⟩
  have hb := S.at 0 rfl
  unfold t_draw
  walk_at "go"
  refine rd_dec (fun e => ?_) (fun e => ?_)
  · walk_at "go"
    refine rd_lenL (ex_l S.ex hc) ?_
    walk_at "go"
    refine rd_dec (fun e2 => ?_) (fun e2 => ?_)
    · walk_at "go"
      rw [List.length_map] at e2
      have hi2 : j < ns.length := by omega
      refine rd_ixL (ex_l S.ex hc) (v := .int ns[j]) ?_ ?_
      · refine atI_nat ?_
        rw [List.getElem?_map, List.getElem?_eq_getElem hi2]
        rfl
      walk_at "go"
      unfold t_draw_0a_1
      walk_at "go"
      refine rd_setL hb rfl ?_
      have S2 : Stt G _ ((b, .lst [.ref c, .int ((j : Int) + 1), .int r, .int x, .int n]) :: L) := S.wr 0 rfl
      have hb2 := S2.at 0 rfl
      unfold t_draw_0a_2
      walk_at "go"
      refine rd_I ⟨by decide, by decide, by decide⟩ ?_
      walk_at "go"
      have key : ∀ r', 0 ≤ r' → t_draw_0a_3 K { D with nx := t_draw_1 K D } [some (.ref b), some (.int m), some (.int ns[j]), s3, s4] (upd (upd H b (.lst [.ref c, .int ((j : Int) + 1), .int r, .int x, .int n])) b (.lst [.ref c, .int ((j : Int) + 1), .int r', .int x, .int n])) := by
        intro r' hr'
        have S3 : Stt G _ ((b, .lst [.ref c, .int ((j : Int) + 1), .int r', .int x, .int n]) :: L) := S2.wr 0 rfl
        have hb3 := S3.at 0 rfl
        unfold t_draw_0a_3
        walk_at "go"
        refine rd_mulI (.inr ⟨by decide, by decide⟩) ?_
        walk_at "go"
        refine rd_I (by decide) ?_
        walk_at "go"
        refine rd_mulI (.inr ⟨by decide, by decide⟩) ?_
        walk_at "go"
        refine rd_I (by decide) ?_
        walk_at "go"
        refine rd_setL hb3 rfl ?_
        refine read_draw_1 m0 m1 (S3.wr 0 rfl) hc (by omega) hr' (fmod_lo _ (by decide)) (fmod_hi _ (by decide)) hn q
      refine rd_dec (fun e3 => ?_) (fun e3 => ?_)
      · walk_at "go"
        refine rd_setL hb2 rfl ?_
        exact key _ (by have e3' : (10 : Int) ^ (18 : Int).toNat ≤ ns[j] := e3; have : (0 : Int) < 10 ^ (18 : Int).toNat := by decide
                        omega)
      · walk_at "go"
        refine rd_setL hb2 rfl ?_
        exact key 0 (by decide)
    · walk_at "go"
      exact read_draw_1 m0 m1 S hc hi hr hx hx2 hn q
  · walk_at "go"
    exact read_draw_1 m0 m1 S hc hi hr hx hx2 hn q

/-! Comprehensions and loops over the unchanging heap. -/
/-- what may be said of the heaps: it stays behind a new object, a list at its head may be written -/
structure Wd (W : Hp → Hp → List (Addr × HO) → Prop) : Prop where
  ex : ∀ {G H L}, W G H L → Ex G H
  new : ∀ {G H L p o}, W G H L → H p = none → W (upd G p o) (upd H p o) L
  mk2 : ∀ {G H L p o}, W G H L → H p = none → W G (upd H p o) ((p, o) :: L)
  get : ∀ {G H L p o}, W G H ((p, o) :: L) → H p = some o
  set : ∀ {G H L p o o'}, W G H ((p, o) :: L) → W G (upd H p o') ((p, o') :: L)
  free : ∀ {G H L p}, W G H L → H p = none → G p = none
  drop : ∀ {G H L p o}, W G H ((p, o) :: L) → W G H L
  frz : ∀ {G H L p o}, W G H ((p, o) :: L) → W (upd G p o) H L ∧ Ex G (upd G p o)
theorem stt_world : Wd Stt := ⟨Stt.ex, Stt.new, Stt.mkL, fun S => S.at 0 rfl, fun S => S.wr 0 rfl, Stt.free, Stt.drop, fun S => ⟨S.frz, S.frzE⟩⟩
theorem Wd.newE {W : Hp → Hp → List (Addr × HO) → Prop} (hW : Wd W) {G H : Hp} {L : List (Addr × HO)} {p : Addr} {o : HO} (S : W G H L) (h : H p = none) : Ex G (upd G p o) := Ex.new (hW.free S h)
section
variable {W : Hp → Hp → List (Addr × HO) → Prop} {K : PySem.W.Frag} {J : It} {n : Nat} {Gw : Hp → Prop} {Y : Nat → Hp → V → Hp → Prop} {G H : Hp} {L : List (Addr × HO)} {σ : L2.St} {g : TG} {tt : TT} {te : TE} {vs : List Nat} {Q : VK}
/-- what is read of a comprehension behind its source -/
def LcG (J : It) (g : TG) (tt : TT) (te : TE) (vs : List Nat) (σ : L2.St) (H : Hp) (Q : VK) : Prop := tLc (fun _ H R => R J H) g tt te vs σ H Q
theorem rd_lc {wi : TI} (q : wi σ H fun J H1 => LcG J g tt te vs σ H1 Q) : tLc wi g tt te vs σ H Q := q
theorem rd_yes {QT : Bool → Hp → Prop} (q : QT true H) : tYes σ H QT := q
/-- a comprehension over a walk -/
theorem lc_go (hW : Wd W) (w : Walk J n Gw Y) (S : W G H L) (hn : n < 1000000) (It : Nat → V → Hp → Prop) (Inv : Nat → List V → Hp → Prop)
    (hG : ∀ H', Ex G H' → Gw H')
    (hY : ∀ i x G1 H1 H2 L1, i < n → Ex G G1 → W G1 H1 L1 → Y i H1 x H2 → ∃ G2, Ex G1 G2 ∧ W G2 H2 L1 ∧ It i x G2)
    (h0 : Inv 0 [] G) (hM : ∀ i acc G1 G2, Ex G1 G2 → Inv i acc G1 → Inv i acc G2)
    (hS : ∀ D i x acc G1 H1, i < n → acc.length ≤ i → Ex G G1 → W G1 H1 ((D, .lst acc) :: L) → Inv i acc G1 → It i x G1 → ∀ (Kp : VK) (Sk : Hp → Prop),
      (∀ v G2 H2, Ex G1 G2 → W G2 H2 ((D, .lst acc) :: L) → Inv (i + 1) (acc ++ [v]) G2 → Kp v H2) →
      (∀ G2 H2, Ex G1 G2 → W G2 H2 ((D, .lst acc) :: L) → Inv (i + 1) acc G2 → Sk H2) →
      g x (wipe σ vs) H1 fun σ2 H2 => wipe σ2 vs = wipe σ vs ∧ tt σ2 H2 fun b H3 => if b = true then te σ2 H3 Kp else Sk H3)
    (q : ∀ D acc G2 H2, Ex G G2 → W G2 H2 ((D, .lst acc) :: L) → Inv n acc G2 → acc.length ≤ n → Q (.ref D) H2) :
    LcG J g tt te vs σ H Q := by
  intro D hD
  refine lc_it w (fun i H' => ∃ G1 acc, Ex G G1 ∧ W G1 H' ((D, .lst acc) :: L) ∧ Inv i acc G1 ∧ acc.length ≤ i) ⟨G, [], Ex.refl G, hW.mk2 S hD, h0, Nat.le_refl _⟩
    (fun i H' _ ⟨G1, acc, e1, S1, _, _⟩ => hG H' (e1.trans (hW.ex S1))) (fun i x H1 H2 hi ⟨G1, acc, e1, S1, I1, l1⟩ y => ?_) (fun H' ⟨G1, acc, e1, S1, I1, l1⟩ => q D acc G1 H' e1 S1 I1 l1)
  obtain ⟨G2, e2, S2, it2⟩ := hY i x G1 H1 H2 _ hi e1 S1 y
  have hsz : sizeLine = 16777216 := sizeLine_eq
  refine hS D i x acc G2 H2 hi l1 (e1.trans e2) S2 (hM i acc G1 G2 e2 I1) it2 _ _ (fun v G3 H3 e3 S3 I3 => ?_) (fun G3 H3 e3 S3 I3 => ?_)
  · exact ⟨acc, hW.get S3, by omega, G3, acc ++ [v], e1.trans (e2.trans e3), hW.set S3, I3, by rw [List.length_append, List.length_singleton]; omega⟩
  · exact ⟨G3, acc, e1.trans (e2.trans e3), S3, I3, by omega⟩
end
/-! ### new objects -/
section
variable {W : Hp → Hp → List (Addr × HO) → Prop} {G H : Hp} {L : List (Addr × HO)} {o : HO} {Q : Addr → Prop} {xs : List V}
theorem mk_im (hW : Wd W) (S : W G H L) (q : ∀ p G', Ex G G' → W G' (upd H p o) L → G' p = some o → Q p) : ∀ p, H p = none → Q p := fun p hp =>
  q p _ (hW.newE S hp) (hW.new S hp) upd_same
theorem mk_mu (hW : Wd W) (S : W G H L) (q : ∀ p, W G (upd H p o) ((p, o) :: L) → Q p) : ∀ p, H p = none → Q p := fun p hp =>
  q p (hW.mk2 S hp)
theorem mk_lst (hW : Wd W) (S : W G H L) (hz : xs.length ≤ 100000) (q : ∀ p G', Ex G G' → W G' (upd H p (.lst xs)) L → G' p = some (.lst xs) → Q p) : xs.length ≤ sizeLine ∧ ∀ p, H p = none → Q p := ⟨sz_of hz, mk_im hW S q⟩
theorem mk_tup (hW : Wd W) (S : W G H L) (hz : xs.length ≤ 100000) (q : ∀ p G', Ex G G' → W G' (upd H p (.tup xs)) L → G' p = some (.tup xs) → Q p) : xs.length ≤ sizeLine ∧ ∀ p, H p = none → Q p := ⟨sz_of hz, mk_im hW S q⟩
theorem mk_lstM (hW : Wd W) (S : W G H L) (hz : xs.length ≤ 100000) (q : ∀ p, W G (upd H p (.lst xs)) ((p, .lst xs) :: L) → Q p) : xs.length ≤ sizeLine ∧ ∀ p, H p = none → Q p := ⟨sz_of hz, mk_mu hW S q⟩
end
/-! ### a for -/
section
variable {J : It} {n : Nat} {Gw : Hp → Prop} {Y : Nat → Hp → V → Hp → Prop} {G H : Hp} {σ : L2.St} {g : TG} {tb : TS} {D : Ends}
def ForG (J : It) (g : TG) (tb : TS) (D : Ends) (σ : L2.St) (H : Hp) : Prop := tFor (fun _ H R => R J H) g tb D σ H
theorem rd_for {wi : TI} (q : wi σ H fun J H1 => ForG J g tb D σ H1) : tFor wi g tb D σ H := q
theorem for_go (w : Walk J n Gw Y) (Inv : Nat → L2.St → Hp → Hp → Prop) (h0 : Inv 0 σ G H) (hG : ∀ i σ1 G1 H1, i ≤ n → Inv i σ1 G1 H1 → Gw H1)
    (hS : ∀ i x σ1 G1 H1 H2, i < n → Inv i σ1 G1 H1 → Y i H1 x H2 → ∀ N : L2.St → Hp → Prop, (∀ σ2 G2 H2, Inv (i + 1) σ2 G2 H2 → N σ2 H2) → g x σ1 H2 fun σ2 H3 => tb { D with nx := N, ct := N, bk := D.nx } σ2 H3)
    (hd : ∀ σ1 G1 H1, Inv n σ1 G1 H1 → D.nx σ1 H1) : ForG J g tb D σ H := by
  refine for_it w (fun i σ1 H1 => ∃ G1, Inv i σ1 G1 H1) ⟨G, h0⟩ (fun i σ1 H1 hi ⟨G1, h1⟩ => hG i σ1 G1 H1 hi h1) (fun i x σ1 H1 H2 hi ⟨G1, h1⟩ y => ?_) (fun σ1 H1 ⟨G1, h1⟩ => hd σ1 G1 H1 h1)
  exact hS i x σ1 G1 H1 H2 hi h1 y _ fun σ2 G2 H3 h2 => ⟨G2, h2⟩
end
/-! ### the sources -/
section
variable {K : PySem.W.Frag} {σ : L2.St} {H G : Hp} {a b : Addr} {xs ys : List V} {ta : TA} {te : TE} {R : It → Hp → Prop}
theorem rd_zipA (q : ta σ H fun vs H1 => ∃ a b xs ys, vs = [.ref a, .ref b] ∧ ((SqL K H1 a xs ∧ SqL K H1 b ys ∧ R (Itz K a b) H1) ∨ (SqT K H1 a xs ∧ SqT K H1 b ys ∧ R (ItzT K a b) H1))) : iZipA K ta σ H R := q
theorem rd_zipL {P : It → Prop} (h1 : SqL K H a xs) (h2 : SqL K H b ys) (q : P (Itz K a b)) : ∃ a' b' xs ys, [V.ref a, V.ref b] = [V.ref a', V.ref b'] ∧ ((SqL K H a' xs ∧ SqL K H b' ys ∧ P (Itz K a' b')) ∨ (SqT K H a' xs ∧ SqT K H b' ys ∧ P (ItzT K a' b'))) :=
  ⟨a, b, xs, ys, rfl, .inl ⟨h1, h2, q⟩⟩
theorem rd_zipT {P : It → Prop} (h1 : SqT K H a xs) (h2 : SqT K H b ys) (q : P (ItzT K a b)) : ∃ a' b' xs ys, [V.ref a, V.ref b] = [V.ref a', V.ref b'] ∧ ((SqL K H a' xs ∧ SqL K H b' ys ∧ P (Itz K a' b')) ∨ (SqT K H a' xs ∧ SqT K H b' ys ∧ P (ItzT K a' b'))) :=
  ⟨a, b, xs, ys, rfl, .inr ⟨h1, h2, q⟩⟩
theorem walk_zipT {n : Nat} (hn : n = min xs.length ys.length) : Walk (ItzT K a b) n (fun H => SqT K H a xs ∧ SqT K H b ys) (YPair (fun i => xs[i]?) (fun i => ys[i]?)) where
  goes := fun i _ hi hq =>
    have a1 : i < xs.length := by omega
    have a2 : i < ys.length := by omega
    ⟨xs, ys, _, _, hq.1, hq.2, List.getElem?_eq_getElem a1, List.getElem?_eq_getElem a2⟩
  stops := fun _ hq => ⟨xs, ys, hq.1, hq.2, by omega⟩
  yields := fun _ _ _ _ _ hq ⟨T, c, d, e1, e2, e3, e4, e5⟩ => ⟨T, c, d, e1, e2, e3, e4 xs hq.1, e5 ys hq.2⟩
def ItPair (K : PySem.W.Frag) (xs ys : Nat → Option V) (i : Nat) (x : V) (G : Hp) : Prop := ∃ T u w, x = .ref T ∧ SqT K G T [u, w] ∧ xs i = some u ∧ ys i = some w
theorem item_pair {W : Hp → Hp → List (Addr × HO) → Prop} (hW : Wd W) {xs ys : Nat → Option V} {i : Nat} {x : V} {G1 H1 H2 : Hp} {L1 : List (Addr × HO)} (S : W G1 H1 L1) (y : YPair xs ys i H1 x H2) :
    ∃ G2, Ex G1 G2 ∧ W G2 H2 L1 ∧ ItPair K xs ys i x G2 := by
  obtain ⟨T, u, z, rfl, hT, rfl, h1, h2⟩ := y
  exact ⟨_, hW.newE S hT, hW.new S hT, T, u, z, rfl, st_of upd_same, h1, h2⟩
theorem item_at {W : Hp → Hp → List (Addr × HO) → Prop} {i : Nat} {x : V} {G1 H1 H2 : Hp} {L1 : List (Addr × HO)} (S : W G1 H1 L1) (y : YAt xs i H1 x H2) :
    ∃ G2, Ex G1 G2 ∧ W G2 H2 L1 ∧ xs[i]? = some x := by
  obtain ⟨rfl, h⟩ := y
  exact ⟨G1, Ex.refl _, S, h⟩
theorem item_fn {W : Hp → Hp → List (Addr × HO) → Prop} {f : Nat → V} {i : Nat} {x : V} {G1 H1 H2 : Hp} {L1 : List (Addr × HO)} (S : W G1 H1 L1) (y : YFn f i H1 x H2) :
    ∃ G2, Ex G1 G2 ∧ W G2 H2 L1 ∧ x = f i := by
  obtain ⟨rfl, h⟩ := y
  exact ⟨G1, Ex.refl _, S, h⟩
/-- targets -/
theorem rd_gtup2 {i j : Nat} {T : Addr} {x y : V} {N : L2.St → Hp → Prop} (h : SqT K H T [x, y]) (q : N ((σ.set i (some x)).set j (some y)) H) : gTup K 2 (gCons (gName i) (gCons (gName j) gNil)) (.ref T) σ H N :=
  ⟨T, [x, y], rfl, h, rfl, x, [y], rfl, y, [], rfl, rfl, q⟩
end
section
variable {K : PySem.W.Frag} {σ : L2.St} {H : Hp} {a : Addr} {xs : List V} {te : TE} {R : It → Hp → Prop} {z : Str}
theorem rd_il (q : te σ H fun x H1 => ∃ a, x = .ref a ∧ (∃ xs, SqL K H1 a xs) ∧ R (Itl K a) H1) : iList K te σ H R := q
theorem rd_it (q : te σ H fun x H1 => ∃ a, x = .ref a ∧ (∃ xs, SqT K H1 a xs) ∧ R (Itt K a) H1) : iTup K te σ H R := q
theorem rd_is (q : te σ H fun x H1 => ∃ z, x = .str z ∧ R (Its z) H1) : iStr te σ H R := q
theorem rd_rng1 {ta : TA} (q : ta σ H fun vs H1 => ∃ j : Int, vs = [.int j] ∧ -(2 ^ 62) ≤ j ∧ j < 2 ^ 62 ∧ R (Itr 0 j.toNat) H1) : iRng1 ta σ H R := q
theorem rd_rng1i {P : It → Prop} {n : Int} (h1 : -(2 ^ 62) ≤ n) (h2 : n < 2 ^ 62) (q : P (Itr 0 n.toNat)) : ∃ j : Int, [V.int n] = [.int j] ∧ -(2 ^ 62) ≤ j ∧ j < 2 ^ 62 ∧ P (Itr 0 j.toNat) := ⟨n, rfl, h1, h2, q⟩
end

/-! The law's likeness of data. -/

mutual
def lk : PyData → PyData → Bool
  | .none, .none => true
  | .bool a, .bool b => decide (a = b)
  | .int a, .int b => decide (a = b)
  | .str a, .str b => decide (a = b)
  | .list xs, .list ys => lkAll xs ys
  | .tuple xs, .tuple ys => lkAll xs ys
  | _, _ => false
def lkAll : List PyData → List PyData → Bool
  | [], [] => true
  | x :: xs, y :: ys => lk x y && lkAll xs ys
  | _, _ => false
end
mutual
theorem lk_refl : ∀ d, PyData.plain d = true → lk d d = true
  | .none, _ => rfl
  | .bool b, _ => decide_eq_true rfl
  | .int i, _ => decide_eq_true rfl
  | .str s, _ => decide_eq_true rfl
  | .list xs, h => lkAll_refl xs h
  | .tuple xs, h => lkAll_refl xs h
  | .dict _, h => by cases h
theorem lkAll_refl : ∀ ds, PyData.plainAll ds = true → lkAll ds ds = true
  | [], _ => rfl
  | x :: xs, h => by
    have h' := Bool.and_eq_true_iff.mp (show (PyData.plain x && PyData.plainAll xs) = true from h)
    show (lk x x && lkAll xs xs) = true
    rw [lk_refl x h'.1, lkAll_refl xs h'.2]; rfl
end
mutual
theorem Dp.plain {K : PySem.W.Frag} {H : Hp} : ∀ (d : PyData) (v : V), Dp K H v d → PyData.plain d = true
  | .none, _, _ => rfl
  | .bool _, _, _ => rfl
  | .int _, _, _ => rfl
  | .str _, _, _ => rfl
  | .list ds, _, h => by cases h with | lst hs ha => exact DpAll.plain ds _ ha
  | .tuple ds, _, h => by cases h with | tup hs ha => exact DpAll.plain ds _ ha
  | .dict _, _, h => by cases h
theorem DpAll.plain {K : PySem.W.Frag} {H : Hp} : ∀ (ds : List PyData) (vs : List V), DpAll K H vs ds → PyData.plainAll ds = true
  | [], _, _ => rfl
  | d :: ds, _, h => by
    cases h with
    | cons h1 h2 =>
      show (PyData.plain d && PyData.plainAll ds) = true
      rw [Dp.plain d _ h1, DpAll.plain ds _ h2]; rfl
end
theorem lkAll_zip : ∀ (ds es : List PyData), ds.length = es.length → lkAll ds es = (List.zipWith lk ds es).all id
  | [], [], _ => rfl
  | d :: ds, e :: es, h => by
    show (lk d e && lkAll ds es) = (id (lk d e) && (List.zipWith lk ds es).all id)
    rw [lkAll_zip ds es (by simpa using h)]
    rfl
  | [], _ :: _, h => nomatch h
  | _ :: _, [], h => nomatch h
theorem lkAll_len : ∀ (ds es : List PyData), ds.length ≠ es.length → lkAll ds es = false
  | [], [], h => (h rfl).elim
  | d :: ds, e :: es, h => by
    show (lk d e && lkAll ds es) = false
    rw [lkAll_len ds es (fun z => h (by simp [z])), Bool.and_false]
  | [], _ :: _, _ => rfl
  | _ :: _, [], _ => rfl
/-! ### kinds -/
def tyN : PyData → String
  | .none => "NoneType"
  | .bool _ => "bool"
  | .int _ => "int"
  | .str _ => "str"
  | .list _ => "list"
  | .tuple _ => "tuple"
  | .dict _ => "dict"
theorem SqL.ty {K : PySem.W.Frag} {H : Hp} {a : Addr} {xs : List V} (h : SqL K H a xs) : TyX K H (.ref a) (.type "list") := by
  rcases h with (h | ⟨o, h⟩) | ⟨o, its, n, h1, h2, _⟩
  · exact .base (.lst h)
  · exact .base (.frz h)
  · exact .kList h1 h2
theorem SqT.ty {K : PySem.W.Frag} {H : Hp} {a : Addr} {xs : List V} (h : SqT K H a xs) : TyX K H (.ref a) (.type "tuple") := by
  rcases h with (h | ⟨o, h⟩) | ⟨o, its, n, h1, h2, _⟩
  · exact .base (.tup h)
  · exact .fTuple h
  · exact .kTuple h1 h2
theorem Dp.ty {K : PySem.W.Frag} {H : Hp} {v : V} {d : PyData} (h : Dp K H v d) : TyX K H v (.type (tyN d)) := by
  cases h with
  | non => exact .base .non
  | bl b => exact .base (.bl b)
  | int i => exact .base (.int i)
  | str x => exact .base (.str x)
  | lst hs _ => exact SqL.ty hs
  | tup hs _ => exact SqT.ty hs
theorem rd_isi {K : PySem.W.Frag} {H : Hp} {v : V} {d : PyData} {T : String} {b : Bool} {Q : VK} (h : Dp K H v d) (k : kitB (tyN d) T = some b) (q : Q (.bl b) H) : gIsi K [v, .ty T] H Q :=
  .inl ⟨v, .ty T, .type (tyN d), .type T, b, rfl, .ty T, Dp.ty h, kit_ty k, q⟩
theorem rd_isi2 {K : PySem.W.Frag} {H : Hp} {v : V} {d : PyData} {T U : String} {tp : Addr} {b c : Bool} {Q : VK} (ht : H tp = some (.tup [.ty T, .ty U])) (h : Dp K H v d) (k1 : kitB (tyN d) T = some b) (k2 : kitB (tyN d) U = some c) {r : Bool} (er : (b || c) = r) (q : Q (.bl r) H) : gIsi K [v, .ref tp] H Q :=
  .inr ⟨v, tp, [.ty T, .ty U], .type (tyN d), [.type T, .type U], b || c, rfl, ht, .cons (.ty T) (.cons (.ty U) .nil), Dp.ty h,
    kitAny_cons (kit_ty k1) (fun hb => by subst hb; exact kitAny_cons (kit_ty k2) (fun hc => by subst hc; exact kitAny_nil) (fun hc => by subst hc; rfl)) (fun hb => by subst hb; rfl), by rw [er]; exact q⟩
theorem Stt.less {G G' H : Hp} {L : List (Addr × HO)} (e : Ex G G') (S : Stt G' H L) : Stt G H L := ⟨e.trans S.ex, S.has, fun p hp => fresh_back e (S.out p hp), S.nd⟩
theorem kt_NoneType_bool : kitB "NoneType" "bool" = some false := by decide +kernel
theorem kt_NoneType_int : kitB "NoneType" "int" = some false := by decide +kernel
theorem kt_NoneType_str : kitB "NoneType" "str" = some false := by decide +kernel
theorem kt_NoneType_list : kitB "NoneType" "list" = some false := by decide +kernel
theorem kt_NoneType_tuple : kitB "NoneType" "tuple" = some false := by decide +kernel
theorem kt_bool_bool : kitB "bool" "bool" = some true := by decide +kernel
theorem kt_bool_int : kitB "bool" "int" = some true := by decide +kernel
theorem kt_bool_str : kitB "bool" "str" = some false := by decide +kernel
theorem kt_bool_list : kitB "bool" "list" = some false := by decide +kernel
theorem kt_bool_tuple : kitB "bool" "tuple" = some false := by decide +kernel
theorem kt_int_bool : kitB "int" "bool" = some false := by decide +kernel
theorem kt_int_int : kitB "int" "int" = some true := by decide +kernel
theorem kt_int_str : kitB "int" "str" = some false := by decide +kernel
theorem kt_int_list : kitB "int" "list" = some false := by decide +kernel
theorem kt_int_tuple : kitB "int" "tuple" = some false := by decide +kernel
theorem kt_str_bool : kitB "str" "bool" = some false := by decide +kernel
theorem kt_str_int : kitB "str" "int" = some false := by decide +kernel
theorem kt_str_str : kitB "str" "str" = some true := by decide +kernel
theorem kt_str_list : kitB "str" "list" = some false := by decide +kernel
theorem kt_str_tuple : kitB "str" "tuple" = some false := by decide +kernel
theorem kt_list_bool : kitB "list" "bool" = some false := by decide +kernel
theorem kt_list_int : kitB "list" "int" = some false := by decide +kernel
theorem kt_list_str : kitB "list" "str" = some false := by decide +kernel
theorem kt_list_list : kitB "list" "list" = some true := by decide +kernel
theorem kt_list_tuple : kitB "list" "tuple" = some false := by decide +kernel
theorem kt_tuple_bool : kitB "tuple" "bool" = some false := by decide +kernel
theorem kt_tuple_int : kitB "tuple" "int" = some false := by decide +kernel
theorem kt_tuple_str : kitB "tuple" "str" = some false := by decide +kernel
theorem kt_tuple_list : kitB "tuple" "list" = some false := by decide +kernel
theorem kt_tuple_tuple : kitB "tuple" "tuple" = some true := by decide +kernel
/-- nested less than n deep, no list of a million things -/
def fit : Nat → PyData → Prop
  | 0, _ => False
  | n + 1, .list es => es.length < 1000000 ∧ ∀ e, e ∈ es → fit n e
  | n + 1, .tuple es => es.length < 1000000 ∧ ∀ e, e ∈ es → fit n e
  | _ + 1, _ => True
def sp_like (K : PySem.W.Frag) (n : Nat) : Sp := fun vs H Q _ => ∃ (G : Hp) (L : List (Addr × HO)) (x y : V) (d e : PyData), vs = [x, y] ∧ Stt G H L ∧ Dp K G x d ∧ Dp K G y e ∧ fit n e ∧ (∀ H', Stt G H' L → Q (.bl (lk d e)) H')
def t_like_0a_1 (K : PySem.W.Frag) (n : Nat) : TS :=
  (tRet (tAndV (tOp (gEq K) (tCB (gLen K) (tCons (tVar 0) tNil)) (tCB (gLen K) (tCons (tVar 1) tNil))) (tCB (rAll K) (tCons (tLc (iZipA K (tCons (tVar 0) (tCons (tVar 1) tNil))) (gTup K 2 (gCons (gName 2) (gCons (gName 3) gNil))) tYes (tCall (sp_like K n) [] E0 (tCons (tVar 2) (tCons (tVar 3) tNil))) [2, 3]) tNil))))
def t_like_3 (K : PySem.W.Frag) (n : Nat) : TS :=
  (tRet (tAndV (tOp (gEq K) (tCB (gIsi K) (tCons (tVar 0) (tCons (tC (.ty "str")) tNil))) (tCB (gIsi K) (tCons (tVar 1) (tCons (tC (.ty "str")) tNil)))) (tOp (gEq K) (tVar 0) (tVar 1))))
def t_like_2 (K : PySem.W.Frag) (n : Nat) : TS :=
  (tSeq (tIfS (tOr (tTest (tOp (gNe K) (tCB (gIsi K) (tCons (tVar 0) (tCons (tC (.ty "bool")) tNil))) (tCB (gIsi K) (tCons (tVar 1) (tCons (tC (.ty "bool")) tNil))))) (tTest (tOp (gNe K) (tCB (gIsi K) (tCons (tVar 0) (tCons (tC (.ty "int")) tNil))) (tCB (gIsi K) (tCons (tVar 1) (tCons (tC (.ty "int")) tNil)))))) (tRet (tC (.bl false))) tNext)
  (t_like_3 K n))
def t_like_1 (K : PySem.W.Frag) (n : Nat) : TS :=
  (tSeq (tIfS (tOr (tTest (tOp rIsN (tVar 1) (tC .non))) (tTest (tOp rIsN (tVar 0) (tC .non)))) (tRet (tAndV (tOp rIsN (tVar 1) (tC .non)) (tOp rIsN (tVar 0) (tC .non)))) tNext)
  (t_like_2 K n))
def t_like (K : PySem.W.Frag) (n : Nat) : TS :=
  (tSeq (tIfS (tB (tCB (gIsi K) (tCons (tVar 1) (tCons (tTup (tCons (tC (.ty "list")) (tCons (tC (.ty "tuple")) tNil))) tNil)))) (tSeq (tIfS (tOr (tTest (tOp (gNe K) (tCB (gIsi K) (tCons (tVar 0) (tCons (tC (.ty "list")) tNil))) (tCB (gIsi K) (tCons (tVar 1) (tCons (tC (.ty "list")) tNil))))) (tTest (tOp (gNe K) (tCB (gIsi K) (tCons (tVar 0) (tCons (tC (.ty "tuple")) tNil))) (tCB (gIsi K) (tCons (tVar 1) (tCons (tC (.ty "tuple")) tNil)))))) (tRet (tC (.bl false))) tNext)
  (t_like_0a_1 K n)) tNext)
  (t_like_1 K n))
local macro_rules | `(tactic| walk_at "kt") => `(tactic| first
  | exact kt_NoneType_bool
  | exact kt_NoneType_int
  | exact kt_NoneType_str
  | exact kt_NoneType_list
  | exact kt_NoneType_tuple
  | exact kt_bool_bool
  | exact kt_bool_int
  | exact kt_bool_str
  | exact kt_bool_list
  | exact kt_bool_tuple
  | exact kt_int_bool
  | exact kt_int_int
  | exact kt_int_str
  | exact kt_int_list
  | exact kt_int_tuple
  | exact kt_str_bool
  | exact kt_str_int
  | exact kt_str_str
  | exact kt_str_list
  | exact kt_str_tuple
  | exact kt_list_bool
  | exact kt_list_int
  | exact kt_list_str
  | exact kt_list_list
  | exact kt_list_tuple
  | exact kt_tuple_bool
  | exact kt_tuple_int
  | exact kt_tuple_str
  | exact kt_tuple_list
  | exact kt_tuple_tuple)
local macro_rules | `(tactic| walk_at "dp") => `(tactic| first
  | exact Dp.non | exact Dp.bl _ | exact Dp.int _ | exact Dp.str _ | assumption | exact Dp.ex (Stt.ex (by assumption)) _ _ (by assumption))
local macro_rules | `(tactic| walk_at "isi") => `(tactic| ((with_reducible refine' rd_isi ?h ?k ?_); (case h => walk_at "dp"); (case k => walk_at "kt")))
theorem read_like_list {K : PySem.W.Frag} {n : Nat} {G H : Hp} {L : List (Addr × HO)} {x y : V} {ds : List PyData} {es : List PyData} {D : Ends} {s2 s3 : Option V} (S : Stt G H L) (hx : Dp K G x (.list ds)) (hy : Dp K G y (.list es)) (hz : es.length < 1000000) (hn : ∀ e, e ∈ es → fit n e)
    (q : ∀ H', Stt G H' L → D.rt (.bl (lkAll ds es)) H') : t_like_0a_1 K n D [some x, some y, s2, s3] H := by
  unfold t_like_0a_1
  cases hx with
  | @lst a xs _ ha hA =>
  cases hy with
  | @lst b ys _ hb hB =>
  walk_at "go"
  refine rd_lenL (ex_l S.ex ha) ?_
  walk_at "go"
  refine rd_lenL (ex_l S.ex hb) ?_
  have hl1 := DpAll.length hA
  have hl2 := DpAll.length hB
  walk_at "go"
  refine rd_dec (fun e => ?_) (fun e => ?_)
  · have hl : ds.length = es.length := by omega
    walk_at "go"
    refine rd_lc ?_
    refine rd_zipA ?_
    walk_at "go"
    refine ⟨_, _, _, _, rfl, .inl ⟨ex_l S.ex ha, ex_l S.ex hb, ?_⟩⟩
    refine lc_go stt_world (walk_zip (n := ds.length) (by omega)) S (by omega) (ItPair K (fun i => xs[i]?) (fun i => ys[i]?)) (fun i acc _ => acc = (List.zipWith (fun d e => V.bl (lk d e)) ds es).take i)
      (fun H' e' => ⟨ex_l e' ha, ex_l e' hb⟩) (fun i x G1 H1 H2 L1 _ e1 S1 y => item_pair stt_world S1 y) rfl (fun _ _ _ _ _ h => h) ?_ ?_
    · intro D i x acc G1 H1 hi hacc e1 S1 I1 it Kp Sk kp sk
      obtain ⟨T, u, w, rfl, hT, hu, hw⟩ := it
      obtain ⟨d1, hd1, dp1⟩ := DpAll.get hA hu
      obtain ⟨d2, hd2, dp2⟩ := DpAll.get hB hw
      refine rd_gtup2 (ex_t S1.ex hT) ⟨rfl, ?_⟩
      refine rd_yes (rd_iT ?_)
      walk_at "go"
      refine ⟨G1, _, u, w, d1, d2, rfl, S1, Dp.ex e1 _ _ dp1, Dp.ex e1 _ _ dp2, hn d2 (List.mem_of_getElem? hd2), fun H2 S2 => kp _ G1 H2 (Ex.refl _) S2 ?_⟩
      rw [I1, List.take_add_one, List.getElem?_zipWith, hd1, hd2]
      rfl
    · intro D acc G2 H2 e2 S2 I2 _
      have hacc : acc = (List.zipWith lk ds es).map V.bl := by
        rw [I2, List.map_zipWith, List.take_of_length_le (by rw [List.length_zipWith]; omega)]
      subst hacc
      walk_at "go"
      refine rd_all (sq_of (S2.at 0 rfl)) ?_
      have := q H2 (S2.drop.less e2)
      rw [lkAll_zip ds es hl] at this
      exact this
  · walk_at "go"
    have := q H S
    rw [lkAll_len ds es (by omega)] at this
    exact this
theorem read_like_tup {K : PySem.W.Frag} {n : Nat} {G H : Hp} {L : List (Addr × HO)} {x y : V} {ds : List PyData} {es : List PyData} {D : Ends} {s2 s3 : Option V} (S : Stt G H L) (hx : Dp K G x (.tuple ds)) (hy : Dp K G y (.tuple es)) (hz : es.length < 1000000) (hn : ∀ e, e ∈ es → fit n e)
    (q : ∀ H', Stt G H' L → D.rt (.bl (lkAll ds es)) H') : t_like_0a_1 K n D [some x, some y, s2, s3] H := by
  unfold t_like_0a_1
  cases hx with
  | @tup a xs _ ha hA =>
  cases hy with
  | @tup b ys _ hb hB =>
  walk_at "go"
  refine rd_lenT (ex_t S.ex ha) ?_
  walk_at "go"
  refine rd_lenT (ex_t S.ex hb) ?_
  have hl1 := DpAll.length hA
  have hl2 := DpAll.length hB
  walk_at "go"
  refine rd_dec (fun e => ?_) (fun e => ?_)
  · have hl : ds.length = es.length := by omega
    walk_at "go"
    refine rd_lc ?_
    refine rd_zipA ?_
    walk_at "go"
    refine ⟨_, _, _, _, rfl, .inr ⟨ex_t S.ex ha, ex_t S.ex hb, ?_⟩⟩
    refine lc_go stt_world (walk_zipT (n := ds.length) (by omega)) S (by omega) (ItPair K (fun i => xs[i]?) (fun i => ys[i]?)) (fun i acc _ => acc = (List.zipWith (fun d e => V.bl (lk d e)) ds es).take i)
      (fun H' e' => ⟨ex_t e' ha, ex_t e' hb⟩) (fun i x G1 H1 H2 L1 _ e1 S1 y => item_pair stt_world S1 y) rfl (fun _ _ _ _ _ h => h) ?_ ?_
    · intro D i x acc G1 H1 hi hacc e1 S1 I1 it Kp Sk kp sk
      obtain ⟨T, u, w, rfl, hT, hu, hw⟩ := it
      obtain ⟨d1, hd1, dp1⟩ := DpAll.get hA hu
      obtain ⟨d2, hd2, dp2⟩ := DpAll.get hB hw
      refine rd_gtup2 (ex_t S1.ex hT) ⟨rfl, ?_⟩
      refine rd_yes (rd_iT ?_)
      walk_at "go"
      refine ⟨G1, _, u, w, d1, d2, rfl, S1, Dp.ex e1 _ _ dp1, Dp.ex e1 _ _ dp2, hn d2 (List.mem_of_getElem? hd2), fun H2 S2 => kp _ G1 H2 (Ex.refl _) S2 ?_⟩
      rw [I1, List.take_add_one, List.getElem?_zipWith, hd1, hd2]
      rfl
    · intro D acc G2 H2 e2 S2 I2 _
      have hacc : acc = (List.zipWith lk ds es).map V.bl := by
        rw [I2, List.map_zipWith, List.take_of_length_le (by rw [List.length_zipWith]; omega)]
      subst hacc
      walk_at "go"
      refine rd_all (sq_of (S2.at 0 rfl)) ?_
      have := q H2 (S2.drop.less e2)
      rw [lkAll_zip ds es hl] at this
      exact this
  · walk_at "go"
    have := q H S
    rw [lkAll_len ds es (by omega)] at this
    exact this
local macro_rules | `(tactic| walk_at "gk") => `(tactic| repeat (first | walk_at "go1" | walk_at "isi" | walk_at "dec"))
theorem read_like {K : PySem.W.Frag} {n : Nat} {G H : Hp} {L : List (Addr × HO)} {x y : V} {d e : PyData} {D : Ends} {s2 s3 : Option V} (S : Stt G H L) (hx : Dp K G x d) (hy : Dp K G y e) (hn : fit (n + 1) e)
    (q : ∀ H', Stt G H' L → D.rt (.bl (lk d e)) H') : t_like K n D [some x, some y, s2, s3] H := by
  unfold t_like
  walk_at "gk"
  refine ⟨(by decide : 2 ≤ sizeLine), fun p hp => ?_⟩
  have S1 := S.new (o := .tup [.ty "list", .ty "tuple"]) hp
  have e1 := S.newE (o := .tup [.ty "list", .ty "tuple"]) hp
  have q1 : ∀ H', Stt (upd G p (.tup [.ty "list", .ty "tuple"])) H' L → D.rt (.bl (lk d e)) H' := fun H' S' => q H' (S'.less e1)
  have hx1 := Dp.ex e1 _ _ hx
  have hy1 := Dp.ex e1 _ _ hy
  have hp1 : upd H p (.tup [.ty "list", .ty "tuple"]) p = some (.tup [.ty "list", .ty "tuple"]) := upd_same
  generalize upd G p (.tup [.ty "list", .ty "tuple"]) = G1 at *
  generalize upd H p (.tup [.ty "list", .ty "tuple"]) = H1 at *
  clear hx hy q S e1 hp
  walk_at "go"
  have hy2 := Dp.ex S1.ex _ _ hy1
  cases e with
  | list es =>
    refine rd_isi2 hp1 hy2 kt_list_list kt_list_tuple (r := true) rfl ?_
    walk_at "gk"
    cases d with
    | list ds =>
      walk_at "gk"
      exact read_like_list S1 hx1 hy1 hn.1 hn.2 q1
    | dict _ => cases hx1
    | _ =>
      walk_at "gk"
      exact q1 _ S1
  | tuple es =>
    refine rd_isi2 hp1 hy2 kt_tuple_list kt_tuple_tuple (r := true) rfl ?_
    walk_at "gk"
    cases d with
    | tuple ds =>
      walk_at "gk"
      exact read_like_tup S1 hx1 hy1 hn.1 hn.2 q1
    | dict _ => cases hx1
    | _ =>
      walk_at "gk"
      exact q1 _ S1
  | dict _ => cases hy1
  | none =>
    refine rd_isi2 hp1 hy2 kt_NoneType_list kt_NoneType_tuple (r := false) rfl ?_
    walk_at "gk"
    try dsimp only
    unfold t_like_1
    have hx2 := Dp.ex S1.ex _ _ hx1
    cases hy1
    cases d with
    | dict _ => cases hx1
    | _ =>
      cases hx1
      all_goals (walk_at "gk")
      all_goals (try dsimp only)
      all_goals first
        | exact q1 _ S1
        | (unfold t_like_2; walk_at "gk"; (try dsimp only); first | exact q1 _ S1 | (unfold t_like_3; walk_at "gk"; exact q1 _ S1))
  | bool b =>
    refine rd_isi2 hp1 hy2 kt_bool_list kt_bool_tuple (r := false) rfl ?_
    walk_at "gk"
    try dsimp only
    unfold t_like_1
    have hx2 := Dp.ex S1.ex _ _ hx1
    cases hy1
    cases d with
    | dict _ => cases hx1
    | _ =>
      cases hx1
      all_goals (walk_at "gk")
      all_goals (try dsimp only)
      all_goals first
        | exact q1 _ S1
        | (unfold t_like_2; walk_at "gk"; (try dsimp only); first | exact q1 _ S1 | (unfold t_like_3; walk_at "gk"; exact q1 _ S1))
  | int b =>
    refine rd_isi2 hp1 hy2 kt_int_list kt_int_tuple (r := false) rfl ?_
    walk_at "gk"
    try dsimp only
    unfold t_like_1
    have hx2 := Dp.ex S1.ex _ _ hx1
    cases hy1
    cases d with
    | dict _ => cases hx1
    | _ =>
      cases hx1
      all_goals (walk_at "gk")
      all_goals (try dsimp only)
      all_goals first
        | exact q1 _ S1
        | (unfold t_like_2; walk_at "gk"; (try dsimp only); first | exact q1 _ S1 | (unfold t_like_3; walk_at "gk"; exact q1 _ S1))
  | str b =>
    refine rd_isi2 hp1 hy2 kt_str_list kt_str_tuple (r := false) rfl ?_
    walk_at "gk"
    try dsimp only
    unfold t_like_1
    have hx2 := Dp.ex S1.ex _ _ hx1
    cases hy1
    cases d with
    | dict _ => cases hx1
    | _ =>
      cases hx1
      all_goals (walk_at "gk")
      all_goals (try dsimp only)
      all_goals first
        | exact q1 _ S1
        | (unfold t_like_2; walk_at "gk"; (try dsimp only); first | exact q1 _ S1 | (unfold t_like_3; walk_at "gk"; exact q1 _ S1))


theorem Stt.swap {G H : Hp} {x y : Addr × HO} {L : List (Addr × HO)} (S : Stt G H (x :: y :: L)) : Stt G H (y :: x :: L) := by
  have m : ∀ p, p ∈ y :: x :: L → p ∈ x :: y :: L := fun p hp => (List.Perm.swap x y L).mem_iff.mp hp
  refine ⟨S.ex, fun p hp => S.has p (m p hp), fun p hp => S.out p (m p hp), ?_⟩
  have h := S.nd
  simp only [List.map_cons, List.nodup_cons, List.mem_cons] at h ⊢
  exact ⟨fun z => z.elim (fun z => h.1 (.inl z.symm)) h.2.1, fun z => h.1 (.inr z), h.2.2⟩
theorem Bag.ex {K : PySem.W.Frag} {G H : Hp} {b : Addr} {L : List (Addr × HO)} (B : Bag K G H b L) : Ex G H := by
  obtain ⟨_, _, _, _, _, _, S, _⟩ := B
  exact S.ex
theorem bag_world (K : PySem.W.Frag) (b : Addr) : Wd fun G H L => Bag K G H b L where
  ex := Bag.ex
  new := fun ⟨c, i, r, x, n, ns, S, hc, h⟩ hp => ⟨c, i, r, x, n, ns, S.new hp, ex_l (S.newE hp) hc, h⟩
  mk2 := fun ⟨c, i, r, x, n, ns, S, hc, h⟩ hp => ⟨c, i, r, x, n, ns, (S.mkL hp).swap, hc, h⟩
  get := fun ⟨c, i, r, x, n, ns, S, hc, h⟩ => S.at 1 rfl
  set := fun ⟨c, i, r, x, n, ns, S, hc, h⟩ => ⟨c, i, r, x, n, ns, S.wr 1 rfl, hc, h⟩
  free := fun ⟨c, i, r, x, n, ns, S, hc, h⟩ hp => S.free hp
  drop := fun ⟨c, i, r, x, n, ns, S, hc, h⟩ => ⟨c, i, r, x, n, ns, S.swap.drop, hc, h⟩
  frz := fun ⟨c, i, r, x, n, ns, S, hc, h⟩ => ⟨⟨c, i, r, x, n, ns, S.swap.frz, ex_l S.swap.frzE hc, h⟩, S.swap.frzE⟩
/-- with the bag: what leaves all that may change keeps the bag -/
theorem Bag.stt {K : PySem.W.Frag} {G H : Hp} {b : Addr} {L : List (Addr × HO)} (B : Bag K G H b L) : ∃ M, Stt G H M ∧ ∀ G' H', Ex G G' → Stt G' H' M → Bag K G' H' b L := by
  obtain ⟨c, i, r, x, n, ns, S, hc, h⟩ := B
  exact ⟨_, S, fun G' H' e S' => ⟨c, i, r, x, n, ns, S', ex_l e hc, h⟩⟩
theorem cutV_take (ns : List Int) : cutV (ns.map V.int) none (some 63) = (ns.take 63).map V.int := by
  unfold cutV
  rw [HT.sIx_none, show HT.sIx (ns.map V.int).length (ns.map V.int).length (some 63) = min 63 (ns.map V.int).length from HT.sIx_nat _ _ 63]
  rw [List.drop_zero, Nat.sub_zero, List.map_take, ← List.take_take, List.take_length]
def sp_open (K : PySem.W.Frag) : Sp := fun vs H Q _ => ∃ (a : Addr) (ns : List Int) (G : Hp) (L : List (Addr × HO)), vs = [.ref a] ∧ Stt G H L ∧ SqL K G a (ns.map V.int) ∧ (∀ b G' H', Ex G G' → Bag K G' H' b L → Q (.ref b) H')
def t_open (K : PySem.W.Frag) : TS :=
  (tRet (tLst (tCons (tCB (gList K) (tCons (tSl (gSl K) (tVar 0) tNoPart (tPart (tC (.int 63)))) tNil)) (tCons (tC (.int 0)) (tCons (tC (.int 0)) (tCons (tC (.int 120121)) (tCons (tC (.int 0)) tNil)))))))
theorem read_open {K : PySem.W.Frag} {a : Addr} {ns : List Int} {G H : Hp} {L : List (Addr × HO)} {D : Ends} (S : Stt G H L) (ha : SqL K G a (ns.map V.int)) (q : ∀ b G' H', Ex G G' → Bag K G' H' b L → D.rt (.ref b) H') : t_open K D [some (.ref a)] H := by
  unfold t_open
  walk_at "go"
  refine rd_slL (ex_l S.ex ha) fun p hp => ?_
  have S1 := S.new (o := .lst (cutV (ns.map V.int) none (some 63))) hp
  have e1 := S.newE (o := .lst (cutV (ns.map V.int) none (some 63))) hp
  have h1 : upd H p (.lst (cutV (ns.map V.int) none (some 63))) p = some (.lst ((ns.take 63).map V.int)) := by rw [upd_same, cutV_take]
  walk_at "go"
  refine ⟨p, _, rfl, .inl (sq_of h1), fun c hc => ?_⟩
  have S2 := S1.new (o := .lst ((ns.take 63).map V.int)) hc
  have e2 := S1.newE (o := .lst ((ns.take 63).map V.int)) hc
  walk_at "go"
  refine ⟨by show 5 ≤ sizeLine; decide, fun b hb => ?_⟩
  have S3 := S2.mkL (o := .lst [.ref c, .int 0, .int 0, .int 120121, .int 0]) hb
  exact q b _ _ (e1.trans e2) ⟨c, 0, 0, 120121, 0, ns.take 63, S3, sq_of upd_same, by decide, by decide, by decide, by decide, by decide⟩
/-- one of some things -/
def sp_of (K : PySem.W.Frag) : Sp := fun vs H Q _ => ∃ (b a : Addr) (xs : List V) (G : Hp) (L : List (Addr × HO)), vs = [.ref b, .ref a] ∧ Bag K G H b L ∧ (∀ H', Bag K G H' b L → SqL K H' a xs ∨ SqT K H' a xs) ∧ 0 < xs.length ∧ xs.length < 1000000 ∧
  (∀ x H', x ∈ xs → Bag K G H' b L → Q x H')
def t_of (K : PySem.W.Frag) : TS :=
  (tRet (tOp (rIx K) (tVar 1) (tCall (sp_draw K) [] E0 (tCons (tVar 0) (tCons (tCB (gLen K) (tCons (tVar 1) tNil)) tNil)))))
theorem read_of {K : PySem.W.Frag} {b a : Addr} {xs : List V} {G H : Hp} {L : List (Addr × HO)} {D : Ends} (B : Bag K G H b L) (hs : ∀ H', Bag K G H' b L → SqL K H' a xs ∨ SqT K H' a xs) (h0 : 0 < xs.length) (h1 : xs.length < 1000000)
    (q : ∀ x H', x ∈ xs → Bag K G H' b L → D.rt x H') : t_of K D [some (.ref b), some (.ref a)] H := by
  unfold t_of
  walk_at "go"
  refine ⟨.ref a, xs.length, rfl, ?_, ?_⟩
  · rcases hs H B with h | h
    · exact .inl ⟨xs, h, rfl⟩
    · exact .inr ⟨xs, h, rfl⟩
  walk_at "go"
  refine ⟨b, _, G, L, rfl, by omega, by omega, B, fun d H' d0 d1 B' => ?_⟩
  obtain ⟨j, rfl⟩ : ∃ j : Nat, d = (j : Int) := ⟨d.toNat, by omega⟩
  have hj : j < xs.length := by omega
  have hat : atI xs (j : Int) = some xs[j] := atI_nat (List.getElem?_eq_getElem hj)
  rcases hs H' B' with h | h
  · exact rd_ixL h hat (q _ _ (List.getElem_mem hj) B')
  · exact rd_ixT h hat (q _ _ (List.getElem_mem hj) B')
theorem sat_draw {K : PySem.W.Frag} {vs : List V} {H : Hp} {Q : VK} {E : XK} (h : sp_draw K vs H Q E) : vs.length = 2 ∧ t_draw K { nx := fun _ H' => Q .non H', rt := Q } (vs.map some ++ List.replicate (5 - vs.length) none) H := by
  obtain ⟨b, m, G, L, rfl, m0, m1, B, q⟩ := h
  exact ⟨rfl, read_draw m0 m1 B q⟩
theorem sat_open {K : PySem.W.Frag} {vs : List V} {H : Hp} {Q : VK} {E : XK} (h : sp_open K vs H Q E) : vs.length = 1 ∧ t_open K { nx := fun _ H' => Q .non H', rt := Q } (vs.map some ++ List.replicate (1 - vs.length) none) H := by
  obtain ⟨a, ns, G, L, rfl, S, ha, q⟩ := h
  exact ⟨rfl, read_open S ha q⟩
theorem sat_of {K : PySem.W.Frag} {vs : List V} {H : Hp} {Q : VK} {E : XK} (h : sp_of K vs H Q E) : vs.length = 2 ∧ t_of K { nx := fun _ H' => Q .non H', rt := Q } (vs.map some ++ List.replicate (2 - vs.length) none) H := by
  obtain ⟨b, a, xs, G, L, rfl, B, hs, h0, h1, q⟩ := h
  exact ⟨rfl, read_of B hs h0 h1 q⟩
theorem never_like (K : PySem.W.Frag) : ∀ vs H Q E, sp_like K 0 vs H Q E → False := fun _ _ _ _ ⟨_, _, _, _, _, _, _, _, _, _, h, _⟩ => h
theorem sat_like {K : PySem.W.Frag} {n : Nat} {vs : List V} {H : Hp} {Q : VK} {E : XK} (h : sp_like K (n + 1) vs H Q E) : vs.length = 2 ∧ t_like K n { nx := fun _ H' => Q .non H', rt := Q } (vs.map some ++ List.replicate (4 - vs.length) none) H := by
  obtain ⟨G, L, x, y, d, e, rfl, S, hx, hy, hn, q⟩ := h
  exact ⟨rfl, read_like S hx hy hn q⟩

/-! Comprehensions over lists and tuples by plain functions. -/
section
variable {W : Hp → Hp → List (Addr × HO) → Prop} {K : PySem.W.Frag} {G H : Hp} {L : List (Addr × HO)} {σ : L2.St} {te : TE} {tt : TT} {Q : VK} {a : Addr} {xs : List V} {j : Nat}
theorem lc_mapJ (hW : Wd W) {J : It} {Gw : Hp → Prop} (w : Walk J xs.length Gw (YAt xs)) (S : W G H L) (hg : ∀ H', Ex G H' → Gw H') (hz : xs.length < 1000000) (hw : ∀ x, wipe ((wipe σ [j]).set j (some x)) [j] = wipe σ [j]) (f : V → V)
    (hS : ∀ x acc D G1 H1, x ∈ xs → Ex G G1 → W G1 H1 ((D, .lst acc) :: L) → ∀ Kp : VK, (∀ H2, W G1 H2 ((D, .lst acc) :: L) → Kp (f x) H2) → te ((wipe σ [j]).set j (some x)) H1 Kp)
    (q : ∀ D G2 H2, Ex G G2 → W G2 H2 ((D, .lst (xs.map f)) :: L) → Q (.ref D) H2) : LcG J (gName j) tYes te [j] σ H Q := by
  refine lc_go hW w S hz (fun i v _ => xs[i]? = some v) (fun i acc _ => acc = (xs.take i).map f) hg
    (fun i x G1 H1 H2 L1 _ e1 S1 y => item_at S1 y) rfl (fun _ _ _ _ _ h => h) ?_ ?_
  · intro D i x acc G1 H1 hi _ e1 S1 I1 it Kp Sk kp sk
    refine rd_name ⟨hw x, rd_yes (rd_iT ?_)⟩
    refine hS x acc D G1 H1 (List.mem_of_getElem? it) e1 S1 _ fun H2 S2 => kp _ G1 H2 (Ex.refl _) S2 ?_
    rw [I1, List.take_add_one, it, List.map_append]
    rfl
  · intro D acc G2 H2 e2 S2 I2 _
    rw [List.take_length] at I2
    subst I2
    exact q D G2 H2 e2 S2
theorem lc_filterJ (hW : Wd W) {J : It} {Gw : Hp → Prop} (w : Walk J xs.length Gw (YAt xs)) (S : W G H L) (hg : ∀ H', Ex G H' → Gw H') (hz : xs.length < 1000000) (hw : ∀ x, wipe ((wipe σ [j]).set j (some x)) [j] = wipe σ [j]) (f : V → V) (p : V → Bool)
    (hT : ∀ x acc D G1 H1, x ∈ xs → Ex G G1 → W G1 H1 ((D, .lst acc) :: L) → ∀ Kt : Bool → Hp → Prop, (∀ H2, W G1 H2 ((D, .lst acc) :: L) → Kt (p x) H2) → tt ((wipe σ [j]).set j (some x)) H1 Kt)
    (hS : ∀ x acc D G1 H1, x ∈ xs → p x = true → Ex G G1 → W G1 H1 ((D, .lst acc) :: L) → ∀ Kp : VK, (∀ H2, W G1 H2 ((D, .lst acc) :: L) → Kp (f x) H2) → te ((wipe σ [j]).set j (some x)) H1 Kp)
    (q : ∀ D G2 H2, Ex G G2 → W G2 H2 ((D, .lst ((xs.filter p).map f)) :: L) → Q (.ref D) H2) : LcG J (gName j) tt te [j] σ H Q := by
  refine lc_go hW w S hz (fun i v _ => xs[i]? = some v) (fun i acc _ => acc = ((xs.take i).filter p).map f) hg
    (fun i x G1 H1 H2 L1 _ e1 S1 y => item_at S1 y) rfl (fun _ _ _ _ _ h => h) ?_ ?_
  · intro D i x acc G1 H1 hi _ e1 S1 I1 it Kp Sk kp sk
    refine rd_name ⟨hw x, ?_⟩
    have e : (xs.take (i + 1)).filter p = (xs.take i).filter p ++ (if p x = true then [x] else []) := by
      rw [List.take_add_one, it, List.filter_append, show (some x).toList = [x] from rfl, List.filter_cons, List.filter_nil]
    refine hT x acc D G1 H1 (List.mem_of_getElem? it) e1 S1 _ fun H2 S2 => ?_
    by_cases hp : p x = true
    · rw [if_pos hp]
      rw [if_pos hp] at e
      refine hS x acc D G1 H2 (List.mem_of_getElem? it) hp e1 S2 _ fun H3 S3 => kp _ G1 H3 (Ex.refl _) S3 ?_
      rw [I1, e, List.map_append]
      rfl
    · rw [if_neg hp]
      rw [if_neg hp] at e
      refine sk G1 H2 (Ex.refl _) S2 ?_
      rw [I1, e, List.append_nil]
  · intro D acc G2 H2 e2 S2 I2 _
    rw [List.take_length] at I2
    subst I2
    exact q D G2 H2 e2 S2
/-- n values told by a world that draws -/
theorem lc_draws (hW : Wd W) {n : Nat} {lo : Int} (S : W G H L) (hz : n < 1000000) (hw : ∀ x, wipe ((wipe σ [j]).set j (some x)) [j] = wipe σ [j]) (P : V → Prop)
    (hS : ∀ i acc D G1 H1, i < n → Ex G G1 → W G1 H1 ((D, .lst acc) :: L) → ∀ Kp : VK, (∀ v G2 H2, Ex G1 G2 → W G2 H2 ((D, .lst acc) :: L) → P v → Kp v H2) → te ((wipe σ [j]).set j (some (.int (lo + (i : Nat))))) H1 Kp)
    (q : ∀ D vs G2 H2, Ex G G2 → W G2 H2 ((D, .lst vs) :: L) → vs.length = n → (∀ v, v ∈ vs → P v) → Q (.ref D) H2) : LcG (Itr lo n) (gName j) tYes te [j] σ H Q := by
  refine lc_go hW walk_range S hz (fun i v _ => v = .int (lo + (i : Nat))) (fun i acc _ => acc.length = i ∧ ∀ v, v ∈ acc → P v) (fun _ _ => True.intro)
    (fun i x G1 H1 H2 L1 _ e1 S1 y => item_fn S1 y) ⟨rfl, fun _ h => by cases h⟩ (fun _ _ _ _ _ h => h) ?_ ?_
  · intro D i x acc G1 H1 hi _ e1 S1 I1 it Kp Sk kp sk
    subst it
    refine rd_name ⟨hw _, rd_yes (rd_iT ?_)⟩
    refine hS i acc D G1 H1 hi e1 S1 _ fun v G2 H2 e2 S2 hv => kp v G2 H2 e2 S2 ⟨by rw [List.length_append, I1.1]; rfl, fun u hu => ?_⟩
    cases List.mem_append.mp hu with
    | inl h => exact I1.2 u h
    | inr h => rw [List.mem_singleton.mp h]; exact hv
  · intro D acc G2 H2 e2 S2 I2 _
    exact q D acc G2 H2 e2 S2 I2.1 I2.2
end
theorem len_snoc {α : Type} (l : List α) (a : α) : (l ++ [a]).length = l.length + 1 := List.length_append
theorem in_two {α : Type} {x a : α} {l : List α} (h : x ∈ a :: l) : x = a ∨ x ∈ l := List.mem_cons.mp h
theorem dec_iff {p q : Prop} [Decidable p] [Decidable q] (h : p ↔ q) : decide p = decide q := decide_eq_decide.mpr h
/-! ### scalars -/
/-- a value: a number or None -/
def oV : Option Int → V
  | none => .non
  | some i => .int i
def oD : Option Int → PyData
  | none => .none
  | some i => .int i
theorem oDp {K : PySem.W.Frag} {H : Hp} : ∀ a : Option Int, Dp K H (oV a) (oD a)
  | none => .non
  | some i => .int i
theorem oDps {K : PySem.W.Frag} {H : Hp} : ∀ l : List (Option Int), DpAll K H (l.map oV) (l.map oD)
  | [] => .nil
  | a :: l => .cons (oDp a) (oDps l)
theorem o_eqv (a b : Option Int) : PyData.eqv (oD a) (oD b) = decide (a = b) := by
  cases a <;> cases b
  · rfl
  · rfl
  · rfl
  · rename_i x y
    show (x == y) = decide (some x = some y)
    by_cases h : x = y
    · subst h; rw [beq_self_eq_true, decide_eq_true rfl]
    · rw [decide_eq_false (fun z => h (Option.some.inj z))]; exact beq_eq_false_iff_ne.mpr h
theorem o_shaped (a : Option Int) : SeqAt.shaped (oD a) = true := by cases a <;> rfl
theorem o_canLay : ∀ l : List (Option Int), PyData.canLayAll0 (l.map oD) = true
  | [] => rfl
  | a :: l => by
    show (PyData.canLay0 (oD a) && PyData.canLayAll0 (l.map oD)) = true
    rw [o_canLay l]
    cases a <;> rfl
theorem o_depth : ∀ l : List (Option Int), PyData.depthAll (l.map oD) = 0
  | [] => rfl
  | a :: l => by
    show max (PyData.depth (oD a)) (PyData.depthAll (l.map oD)) = 0
    rw [o_depth l]
    cases a <;> rfl
theorem os_shaped (l : List (Option Int)) : SeqAt.shaped (.list (l.map oD)) = true := by
  unfold SeqAt.shaped
  rw [show PyData.canLay0 (.list (l.map oD)) = PyData.canLayAll0 (l.map oD) from rfl, o_canLay, show PyData.depth (.list (l.map oD)) = PyData.depthAll (l.map oD) + 1 from rfl, o_depth]
  rfl
theorem os_eqv : ∀ l m : List (Option Int), PyData.eqv (.list (l.map oD)) (.list (m.map oD)) = decide (l = m)
  | [], [] => rfl
  | [], _ :: _ => rfl
  | _ :: _, [] => rfl
  | a :: l, b :: m => by
    show (PyData.eqv (oD a) (oD b) && PyData.eqv (.list (l.map oD)) (.list (m.map oD))) = _
    rw [o_eqv, os_eqv l m]
    by_cases h : a = b
    · by_cases h2 : l = m
      · subst h h2; simp
      · rw [decide_eq_false h2, decide_eq_false (fun z => h2 (List.cons.inj z).2), Bool.and_false]
    · rw [decide_eq_false h, decide_eq_false (fun z => h (List.cons.inj z).1), Bool.false_and]
theorem fit_scal {n : Nat} {d : PyData} (h : ∀ es, d ≠ .list es ∧ d ≠ .tuple es) : fit (n + 1) d := by
  cases d with
  | list es => exact ((h es).1 rfl).elim
  | tuple es => exact ((h es).2 rfl).elim
  | _ => exact True.intro
theorem fit_os (n : Nat) (l : List (Option Int)) (h : l.length < 1000000) : fit (n + 2) (.list (l.map oD)) := ⟨by rw [List.length_map]; exact h, fun e he => by
  obtain ⟨a, _, rfl⟩ := List.mem_map.mp he
  cases a <;> exact True.intro⟩
theorem fit_bools (n : Nat) (l : List Bool) (h : l.length < 1000000) : fit (n + 2) (.list (l.map PyData.bool)) := ⟨by rw [List.length_map]; exact h, fun e he => by
  obtain ⟨a, _, rfl⟩ := List.mem_map.mp he
  exact True.intro⟩

/-! Calls with keywords alone; defs made callable. -/
/-- n keyword values, put in the parameters' order -/
def gPV {α : Type} (n : Nat) (perm : List Nat) (vs zs : List α) : List α := if vs.length = 0 ∧ zs.length = n then perm.filterMap fun i => zs[i]? else []
theorem gPV_rel {n : Nat} {perm : List Nat} {vs zs : List V} {us ws : List Value} (r : Vals vs us) (q : Vals zs ws) : Vals (gPV n perm vs zs) (gPV n perm us ws) := by
  have h1 := r.length
  have h2 := q.length
  unfold gPV
  by_cases h : vs.length = 0 ∧ zs.length = n
  · rw [if_pos h, if_pos ⟨by rw [← h1]; exact h.1, by rw [← h2]; exact h.2⟩]
    induction perm with
    | nil => exact .nil
    | cons i perm ih =>
      rw [List.filterMap_cons, List.filterMap_cons]
      cases e : zs[i]? with
      | none =>
        rw [Vals.none_of q e]
        exact ih
      | some x =>
        obtain ⟨u, hu, ru⟩ := Vals.get q e
        rw [hu]
        exact .cons ru ih
  · rw [if_neg h, if_neg (fun z => h ⟨by rw [h1]; exact z.1, by rw [h2]; exact z.2⟩)]
    exact .nil
structure CalK (P : Program) (w : World) (K : PySem.W.Frag) (mg : Str → Option Value) (base : Heap) (k : Nat) (x : Str) (sp : Sp) (ks : List Str) (perm : List Nat) : Prop where
  ex : ∃ (f : Addr) (fd : FuncData) (ps : List Str), FnOk P w K mg base CX0 k f fd ps sp ∧ mg x = some (.ref f) ∧ PySem.W.keepIn K (.ref f) = true ∧ KBinds K fd ps ks (gPV ks.length perm) (gPV ks.length perm)
theorem calK_mk {P : Program} {w : World} {K : PySem.W.Frag} {mg : Str → Option Value} {base : Heap} {k : Nat} {x qual : Str} {st : Stmt} {f : Addr} {fd : FuncData} {ps ks : List Str} {perm : List Nat} {sp : Sp} (F : Fun K x qual st f fd) (G : FnOk P w K mg base CX0 k f fd ps sp) (g : mg x = some (.ref f)) (h0 : 0 < ps.length)
    (h : ∀ (kV doc pm : Value) (an : Option Addr) (cdv ct : Value) (ws : List Value), ws.length = ks.length → bindArgs (PySem.W.fnOf x qual (defArgs st) (defBody st) (defScope st) .none kV doc pm an cdv ct) ⟨[], ks.zip ws⟩ = pure (ps.zip (gPV ks.length perm [] ws))) : CalK P w K mg base k x sp ks perm := by
  have ⟨_, _, kV, doc, pm, an, cdv, ct, _, hfd, _, _⟩ := F.ex
  subst hfd
  refine ⟨f, _, ps, G, g, F.kp, ⟨fun s us ws _ hl => ?_, gPV_rel⟩⟩
  by_cases c : us.length = 0 ∧ ws.length = ks.length
  · have hu : us = [] := List.length_eq_zero_iff.mp c.1
    subst hu
    exact .of_eq (h kV doc pm an cdv ct ws c.2)
  · unfold gPV at hl
    rw [if_neg c] at hl
    exact absurd hl (by simp; omega)
section
variable {X : Cx} {k j : Nat} {x : Str} {sp : Sp} {ks : List Str} {perm : List Nat} {p pos : Pos} {kws : List Keyword} {tk : TA}
/-- a call by its name, all its values by keyword -/
theorem pe_cK (c : CalK X.prog X.w X.K X.mg X.base k x sp ks perm) (hr : Room j X.A) (hk : k ≤ j) (hg : Gl X x) (hkw : PK X kws tk)
    (named : (backToKw pos (keywordEach kws X.env)).all (·.1.isSome) = true := by rfl)
    (names : (backToKw pos (keywordEach kws X.env)).filterMap (·.1) = ks := by rfl)
    (nodb : (x == ("__debug__" : Str)) = false := by decide)
    (noStar : ((backTo pos (starEach [] X.env)).any (·.1)
      || (backToKw pos (keywordEach kws X.env)).any (·.1.isNone)) = false := by rfl) :
    PE X (.Call (.Name x p) [] kws pos) (tCallK sp (gPV ks.length perm) E0 tNil tk) := by
  have ⟨f, fd, ps, ok, hmg, hkeep, hbinds⟩ := c.ex
  constructor
  intro pins s σ H Q hI hQ
  apply wpAny_Call_Name_kw (ld_glob hI hg hmg ?_ nodb)
  apply PySem.W.callWith_KW0 (h₀ := X.base) hI.ok.mod.kin hkeep named ?_ noStar
  apply thn (hkw.run pos pins s σ H _ hI hQ)
  rintro ws s2 ⟨zs, H2, hI2, hz, hQ2⟩
  constructor
  · exact hI2.kIn
  · rw [names]
    exact run_fnk ok (hr.mono hk) hbinds pass0 hI2 .nil hz hQ2
end
/-- a def that keeps its promise, made callable -/
theorem cal_mk {P : Program} {w : World} {K : PySem.W.Frag} {mg : Str → Option Value} {base : Heap} {k : Nat} {x qual : Str} {st : Stmt} {f : Addr} {fd : FuncData} {ps : List Str} {sp : Sp} (F : Fun K x qual st f fd) (G : FnOk P w K mg base CX0 k f fd ps sp) (g : mg x = some (.ref f))
    (h : ∀ (kV doc pm : Value) (an : Option Addr) (cdv ct : Value) (us : List Value), us.length = ps.length → bindArgs (PySem.W.fnOf x qual (defArgs st) (defBody st) (defScope st) .none kV doc pm an cdv ct) ⟨us, []⟩ = pure (ps.zip us)) : C8.Cal P w K mg base k x sp [] :=
  ⟨f, fd, ps, [], G, g, F.kp, F.binds h, .nil⟩
theorem fnOk_never {P : Program} {w : World} {K : PySem.W.Frag} {mg : Str → Option Value} {base : Heap} {k : Nat} {f : Addr} {fd : FuncData} {ps : List Str} {sp : Sp} (h : ∀ vs H Q E, sp vs H Q E → False) : FnOk P w K mg base CX0 k f fd ps sp :=
  ⟨fun vs H Q E z => (h vs H Q E z).elim, fun _ _ _ _ _ _ _ _ _ _ _ _ _ z => (h _ _ _ _ z).elim⟩

/-! Built-ins with one keyword; max and min of numbers with a default. -/
def CallKR (X : Cx) (f : Value) (kn : Str) (r : V → V → Hp → VK → Prop) : Prop :=
  ∀ (pins : List (Addr × Obj)) (s : Shared) (σ : L2.St) (H : Hp) (x d : V) (v w : Value) (Q : VK), Inv X pins σ H s → RelV x v → RelV d w → r x d H Q →
    wpAny (model X.prog X.w) X.A (call f [v] [(kn, w)]) (EP X pins σ Q) X.xe s
def tBK (r : V → V → Hp → VK → Prop) (t tk : TA) : TE := fun σ H Q => t σ H fun vs H1 => tk σ H1 fun zs H2 => ∃ a d, vs = [a] ∧ zs = [d] ∧ r a d H2 Q
theorem rd_bk {r : V → V → Hp → VK → Prop} {t tk : TA} {σ : L2.St} {H : Hp} {Q : VK} (q : t σ H fun vs H1 => tk σ H1 fun zs H2 => ∃ a d, vs = [a] ∧ zs = [d] ∧ r a d H2 Q) : tBK r t tk σ H Q := q
theorem rd_bk1 {P : V → V → Prop} {a d : V} (q : P a d) : ∃ a' d', [a] = [a'] ∧ [d] = [d'] ∧ P a' d' := ⟨a, d, rfl, rfl, q⟩
theorem pe_bK {X : Cx} {id : String} {kn x : Str} {p pos : Pos} {e : Expr} {kws : List Keyword} {t tk : TA} {r : V → V → Hp → VK → Prop} (hc : CallKR X (.builtin id) kn r) (hg : Gl X x) (hm : X.mg x = none) (hv : bootBuiltins x = some (.builtin id))
    (ha : PA X [e] t) (hk : PK X kws tk)
    (hks : (backToKw pos (keywordEach kws X.env)).filterMap (·.1) = [kn] := by rfl)
    (hn : x ≠ "__name__" := by decide) (hdb : (x == ("__debug__" : Str)) = false := by decide)
    (he : backTo pos (starEach [e] X.env) = (false, eval e X.env) :: backTo pos (starEach [] X.env) := by rfl) (hpl : (backTo pos (starEach [e] X.env)).any (·.1) = false := by rfl)
    (hall : (backToKw pos (keywordEach kws X.env)).all (·.1.isSome) = true := by rfl) (hno : (backToKw pos (keywordEach kws X.env)).any (·.1.isNone) = false := by rfl) :
    PE X (.Call (.Name x p) [e] kws pos) (tBK r t tk) := by
  constructor
  intro pins s σ H Q hI hQ
  apply wpAny_Call_Name_kw (ld_blt hI hg hm hv ?_ hn hdb)
  apply PyProof.Rows.callWith_kw ?_ he hpl hall hno
  apply thn (ha.run pos pins s σ H _ hI hQ)
  rintro us s1 ⟨vs, H1, hI1, r1, q1⟩
  apply thn (hk.run pos pins s1 σ H1 _ hI1 q1)
  rintro ws s2 ⟨zs, H2, hI2, r2, a, d, rfl, rfl, q⟩
  rw [hks]
  match r1, r2 with
  | .cons ra .nil, .cons rd .nil => exact hc pins s2 σ H2 a d _ _ Q hI2 ra rd q
def foldMax : List Int → Option Int
  | [] => none
  | n :: r => some (r.foldl max n)
def foldMin : List Int → Option Int
  | [] => none
  | n :: r => some (r.foldl min n)
def rMaxD (K : PySem.W.Frag) : V → V → Hp → VK → Prop := fun x d H Q => ∃ (a : Addr) (ns : List Int), x = .ref a ∧ SqL K H a (ns.map V.int) ∧ Q ((foldMax ns).elim d V.int) H
def rMinD (K : PySem.W.Frag) : V → V → Hp → VK → Prop := fun x d H Q => ∃ (a : Addr) (ns : List Int), x = .ref a ∧ SqL K H a (ns.map V.int) ∧ Q ((foldMin ns).elim d V.int) H
theorem depth_ints : ∀ ns : List Int, PyData.depthAll (ns.map PyData.int) = 0
  | [] => rfl
  | n :: ns => by
    show max 0 (PyData.depthAll (ns.map PyData.int)) = 0
    rw [depth_ints ns]; rfl
theorem alike_ints (ns : List Int) : PySem.W.AlikeAll (ns.map PyData.int) := by
  refine ⟨fun x hx y hy => ?_, fun x hx => ?_⟩
  · have ⟨_, _, h1⟩ := List.mem_map.mp hx
    have ⟨_, _, h2⟩ := List.mem_map.mp hy
    subst h1; subst h2; rfl
  · have ⟨_, _, h1⟩ := List.mem_map.mp hx
    subst h1
    exact fun z => nomatch z
theorem ck_max {X : Cx} (hc : X.calm = true) (hu : X.A.units + 64 < cLine) : CallKR X (.builtin "max") "default" (rMaxD X.K) := by
  rintro pins s σ H x d v w Q hI rx rd ⟨a, ns, rfl, hs, q⟩
  have ⟨its, rv, hl, _⟩ := hI.list hs
  cases rx
  have ⟨as, hr⟩ := Dp.readsAll hI _ _ its (DpAll.ints (K := X.K) (H := H) ns) rv
  have room : PyData.depthAll (ns.map PyData.int) = 0 := depth_ints ns
  apply PySem.W.max_list_default (hI.ok.hd hc) hl.isList hr (alike_ints ns) (by omega)
  · intro e h' tk hk
    cases List.map_eq_nil_iff.mp e
    exact ⟨_, H, hI.kept hk, rd, q⟩
  · intro y ys i v h' tk bs e hi r hk
    match ns, e with
    | n :: r2, e =>
      have ⟨e1, e2⟩ := List.cons.inj e
      subst e1 e2
      rw [PySem.W.maxD_ints] at r
      cases r
      exact ⟨.int (r2.foldl max n), H, hI.kept hk, ⟨_, rfl⟩, q⟩
theorem ck_min {X : Cx} (hc : X.calm = true) (hu : X.A.units + 64 < cLine) : CallKR X (.builtin "min") "default" (rMinD X.K) := by
  rintro pins s σ H x d v w Q hI rx rd ⟨a, ns, rfl, hs, q⟩
  have ⟨its, rv, hl, _⟩ := hI.list hs
  cases rx
  have ⟨as, hr⟩ := Dp.readsAll hI _ _ its (DpAll.ints (K := X.K) (H := H) ns) rv
  have room : PyData.depthAll (ns.map PyData.int) = 0 := depth_ints ns
  apply PySem.W.min_list_default (hI.ok.hd hc) hl.isList hr (alike_ints ns) (by omega)
  · intro e h' tk hk
    cases List.map_eq_nil_iff.mp e
    exact ⟨_, H, hI.kept hk, rd, q⟩
  · intro y ys i v h' tk bs e hi r hk
    match ns, e with
    | n :: r2, e =>
      have ⟨e1, e2⟩ := List.cons.inj e
      subst e1 e2
      rw [PySem.W.minD_ints] at r
      cases r
      exact ⟨.int (r2.foldl min n), H, hI.kept hk, ⟨_, rfl⟩, q⟩
def rMin2 : List V → Hp → VK → Prop := fun xs H Q => ∃ i j, xs = [.int i, .int j] ∧ Q (.int (if j < i then j else i)) H
theorem cg_max2 {X : Cx} (hc : X.calm = true) : CallR X (.builtin "max") Evl.rMax2 := call_max2 hc
theorem cg_min2 {X : Cx} (hc : X.calm = true) : CallR X (.builtin "min") rMin2 := call_min2 hc

/-! Numbers, values, stretches. -/

local macro_rules | `(tactic| walk_at "kt") => `(tactic| first
  | exact kt_NoneType_bool
  | exact kt_NoneType_int
  | exact kt_NoneType_str
  | exact kt_NoneType_list
  | exact kt_NoneType_tuple
  | exact kt_bool_bool
  | exact kt_bool_int
  | exact kt_bool_str
  | exact kt_bool_list
  | exact kt_bool_tuple
  | exact kt_int_bool
  | exact kt_int_int
  | exact kt_int_str
  | exact kt_int_list
  | exact kt_int_tuple
  | exact kt_str_bool
  | exact kt_str_int
  | exact kt_str_str
  | exact kt_str_list
  | exact kt_str_tuple
  | exact kt_list_bool
  | exact kt_list_int
  | exact kt_list_str
  | exact kt_list_list
  | exact kt_list_tuple
  | exact kt_tuple_bool
  | exact kt_tuple_int
  | exact kt_tuple_str
  | exact kt_tuple_list
  | exact kt_tuple_tuple)
local macro_rules | `(tactic| walk_at "dp") => `(tactic| first
  | exact Dp.non | exact Dp.bl _ | exact Dp.int _ | exact Dp.str _ | assumption | exact Dp.ex (Stt.ex (by assumption)) _ _ (by assumption))
local macro_rules | `(tactic| walk_at "isi") => `(tactic| ((with_reducible refine' rd_isi ?h ?k ?_); (case h => walk_at "dp"); (case k => walk_at "kt")))
local macro_rules | `(tactic| walk_at "gk") => `(tactic| repeat (first | walk_at "go1" | walk_at "isi" | walk_at "dec"))
local macro_rules | `(tactic| walk_at "dc") => `(tactic| first
  | ((with_reducible refine rd_dec (fun e => ?aa) (fun e => ?bb)); (case aa => first | (exfalso; revert e; decide) | (exfalso; cases e; done) | exact absurd rfl e))
  | ((with_reducible refine rd_dec (fun e => ?aa) (fun e => ?bb)); (case bb => first | (exfalso; revert e; decide) | (exfalso; cases e; done) | exact absurd rfl e))
  | ((with_reducible refine rd_decN (fun e => ?aa) (fun e => ?bb)); (case aa => first | (exfalso; revert e; decide) | (exfalso; cases e; done) | exact absurd rfl e))
  | ((with_reducible refine rd_decN (fun e => ?aa) (fun e => ?bb)); (case bb => first | (exfalso; revert e; decide) | (exfalso; cases e; done) | exact absurd rfl e)))
local macro_rules | `(tactic| walk_at "gc") => `(tactic| (repeat (first | walk_at "go1" | walk_at "isi" | walk_at "dc")); (try dsimp only))

def isNum : PyData → Bool
  | .int _ => true
  | _ => false
def isVal : PyData → Bool
  | .none => true
  | .int _ => true
  | _ => false
def sp_is_number (K : PySem.W.Frag) : Sp := fun vs H Q _ => ∃ (x : V) (d : PyData), vs = [x] ∧ Dp K H x d ∧ Q (.bl (isNum d)) H
def t_is_number (K : PySem.W.Frag) : TS :=
  (tRet (tAndV (tCB (gIsi K) (tCons (tVar 0) (tCons (tC (.ty "int")) tNil))) (tNotV (tCB (gIsi K) (tCons (tVar 0) (tCons (tC (.ty "bool")) tNil))))))
theorem read_is_number {K : PySem.W.Frag} {x : V} {d : PyData} {H : Hp} {D : Ends} (hx : Dp K H x d) (q : D.rt (.bl (isNum d)) H) : t_is_number K D [some x] H := by
  unfold t_is_number
  cases d with
  | dict _ => cases hx
  | _ =>
    walk_at "gk"
    exact q
theorem sat_is_number {K : PySem.W.Frag} {vs : List V} {H : Hp} {Q : VK} {E : XK} (h : sp_is_number K vs H Q E) : vs.length = 1 ∧ t_is_number K { nx := fun _ H' => Q .non H', rt := Q } (vs.map some ++ List.replicate (1 - vs.length) none) H := by
  obtain ⟨x, d, rfl, hx, q⟩ := h
  exact ⟨rfl, read_is_number hx q⟩
def sp_is_value (K : PySem.W.Frag) : Sp := fun vs H Q _ => ∃ (x : V) (d : PyData), vs = [x] ∧ Dp K H x d ∧ Q (.bl (isVal d)) H
def t_is_value (K : PySem.W.Frag) : TS :=
  (tRet (tOrV (tOp rIsN (tVar 0) (tC .non)) (tCall (sp_is_number K) [] E0 (tCons (tVar 0) tNil))))
theorem read_is_value {K : PySem.W.Frag} {x : V} {d : PyData} {H : Hp} {D : Ends} (hx : Dp K H x d) (q : D.rt (.bl (isVal d)) H) : t_is_value K D [some x] H := by
  unfold t_is_value
  cases d with
  | dict _ => cases hx
  | none =>
    cases hx
    walk_at "gk"
    exact q
  | _ =>
    have hx' := hx
    cases hx
    walk_at "gk"
    exact ⟨_, _, rfl, hx', q⟩
theorem sat_is_value {K : PySem.W.Frag} {vs : List V} {H : Hp} {Q : VK} {E : XK} (h : sp_is_value K vs H Q E) : vs.length = 1 ∧ t_is_value K { nx := fun _ H' => Q .non H', rt := Q } (vs.map some ++ List.replicate (1 - vs.length) none) H := by
  obtain ⟨x, d, rfl, hx, q⟩ := h
  exact ⟨rfl, read_is_value hx q⟩

/-! Numbers, values, stretches. -/


/-- low may stand below high -/
def leV : PyData → PyData → Bool
  | .int a, .int b => decide (a ≤ b)
  | _, _ => true
def isSt : PyData → Bool
  | .none => true
  | .tuple [a, b] => isVal a && isVal b && leV a b
  | _ => false
def sp_is_stretch (K : PySem.W.Frag) : Sp := fun vs H Q _ => ∃ (x : V) (d : PyData), vs = [x] ∧ Dp K H x d ∧ Q (.bl (isSt d)) H
def t_is_stretch_4 (K : PySem.W.Frag) : TS :=
  (tRet (tOrV (tOp rIsN (tVar 1) (tC .non)) (tOrV (tOp rIsN (tVar 2) (tC .non)) (tCB gBool (tCons (tOp (rI0 fun i j => .bl (decide (i ≤ j))) (tVar 1) (tVar 2)) tNil)))))
def t_is_stretch_3 (K : PySem.W.Frag) : TS :=
  (tSeq (tIfS (tOr (tNot (tB (tCall (sp_is_value K) [] E0 (tCons (tVar 1) tNil)))) (tNot (tB (tCall (sp_is_value K) [] E0 (tCons (tVar 2) tNil))))) (tRet (tC (.bl false))) tNext)
  (t_is_stretch_4 K))
def t_is_stretch_2 (K : PySem.W.Frag) : TS :=
  (tSeq (tAsg (tVar 0) (gTup K 2 (gCons (gName 1) (gCons (gName 2) gNil))))
  (t_is_stretch_3 K))
def t_is_stretch_1 (K : PySem.W.Frag) : TS :=
  (tSeq (tIfS (tOr (tNot (tB (tCB (gIsi K) (tCons (tVar 0) (tCons (tC (.ty "tuple")) tNil))))) (tTest (tOp (gNe K) (tCB (gLen K) (tCons (tVar 0) tNil)) (tC (.int 2))))) (tRet (tC (.bl false))) tNext)
  (t_is_stretch_2 K))
def t_is_stretch (K : PySem.W.Frag) : TS :=
  (tSeq (tIfS (tTest (tOp rIsN (tVar 0) (tC .non))) (tRet (tC (.bl true))) tNext)
  (t_is_stretch_1 K))
theorem rd_gtup {K : PySem.W.Frag} {i j : Nat} {T : Addr} {x y : V} {σ : L2.St} {H : Hp} {N : L2.St → Hp → Prop} (h : SqT K H T [x, y]) (q : N ((σ.set i (some x)).set j (some y)) H) : gTup K 2 (gCons (gName i) (gCons (gName j) gNil)) (.ref T) σ H N := rd_gtup2 h q
theorem read_is_stretch {K : PySem.W.Frag} {x : V} {d : PyData} {H : Hp} {D : Ends} {a1 a2 : Option V} (hx : Dp K H x d) (q : D.rt (.bl (isSt d)) H) : t_is_stretch K D [some x, a1, a2] H := by
  unfold t_is_stretch
  cases d with
  | dict _ => cases hx
  | none =>
    cases hx
    walk_at "gk"
    exact q
  | tuple ds =>
    have hx' := hx
    cases hx with
    | @tup p xs _ hp hA =>
    have hl := DpAll.length hA
    walk_at "gk"
    try dsimp only
    unfold t_is_stretch_1
    walk_at "gk"
    refine rd_lenT hp ?_
    walk_at "go"
    refine rd_decN (fun e => ?_) (fun e => ?_)
    · have h2 : ds.length = 2 := by omega
      match ds, h2 with
      | [d1, d2], _ =>
      cases hA with
      | @cons v1 _ _ _ h1 hA =>
      cases hA with
      | @cons v2 _ _ _ h2 hA =>
      cases hA
      walk_at "go"
      unfold t_is_stretch_2
      walk_at "go"
      refine rd_gtup2 hp ?_
      unfold t_is_stretch_3
      walk_at "go"
      refine ⟨_, d1, rfl, h1, ?_⟩
      walk_at "go"
      cases e1 : isVal d1 with
      | false =>
        walk_at "gk"
        rw [show isSt (.tuple [d1, d2]) = (isVal d1 && isVal d2 && leV d1 d2) from rfl, e1] at q
        exact q
      | true =>
        walk_at "gk"
        refine ⟨_, d2, rfl, h2, ?_⟩
        walk_at "go"
        cases e2 : isVal d2 with
        | false =>
          walk_at "gk"
          rw [show isSt (.tuple [d1, d2]) = (isVal d1 && isVal d2 && leV d1 d2) from rfl, e1, e2] at q
          exact q
        | true =>
          walk_at "gk"
          try dsimp only
          unfold t_is_stretch_4
          rw [show isSt (.tuple [d1, d2]) = (isVal d1 && isVal d2 && leV d1 d2) from rfl, e1, e2] at q
          cases d1 with
          | none =>
            cases h1
            walk_at "gk"
            cases d2 with
            | none => exact q
            | int _ => exact q
            | _ => cases e2
          | int a =>
            cases h1
            cases d2 with
            | none =>
              cases h2
              walk_at "gk"
              exact q
            | int b =>
              cases h2
              walk_at "gk"
              exact q
            | _ => cases e2
          | _ => cases e1
    · walk_at "go"
      have : isSt (.tuple ds) = false := by
        match ds, hl with
        | [], _ => rfl
        | [_], _ => rfl
        | [_, _], h => exact absurd (by rw [h]; rfl) e
        | _ :: _ :: _ :: _, _ => rfl
      rw [this] at q
      exact q
  | _ =>
    have hx' := hx
    cases hx
    walk_at "gk"
    try dsimp only
    unfold t_is_stretch_1
    walk_at "gk"
    exact q
theorem sat_is_stretch {K : PySem.W.Frag} {vs : List V} {H : Hp} {Q : VK} {E : XK} (h : sp_is_stretch K vs H Q E) : vs.length = 1 ∧ t_is_stretch K { nx := fun _ H' => Q .non H', rt := Q } (vs.map some ++ List.replicate (3 - vs.length) none) H := by
  obtain ⟨x, d, rfl, hx, q⟩ := h
  exact ⟨rfl, read_is_stretch hx q⟩

/-! enumerate of a tuple; zip of a list and a tuple. -/
section
variable {s : Shared} {P : Program} {w : World} {A : Around} {E : Value → Shared → Prop}
/-- one more pair of a place and an item -/
theorem enumT_step {e it l : Addr} {i : Nat} {vs : Array Value} {x old : Value} {Q : Value → Shared → Prop} (en : IsEnum s.heap e it i old) (ti : s.heap.IsTupleIter it l i) (tu : s.heap.IsTuple l vs) (vx : vs[i]? = some x) (ne : e ≠ it)
    (q : ∀ h2, IsEnumOut h2 e it ((i : Int) + 1) x s.heap.objs.size → h2.IsTupleIter it l (i + 1) → h2.get? s.heap.objs.size = some { cls := .type "tuple", data := .seq #[.int i s.toks, x] } → h2.objs.size = s.heap.objs.size + 1 →
      (∀ b o, b ≠ e → b ≠ it → s.heap.get? b = some o → h2.get? b = some o) → Q (.ref s.heap.objs.size) { s with heap := h2, toks := s.toks + 1 }) :
    wpAny (model P w) A (Builtin.«enumerate.__next__» ⟨[.ref e], []⟩) (fun fin s2 => ∃ v, fin = .done (.ret v) ∧ Q v s2) E s := by
  obtain ⟨hp, ge, dr, tk, os⟩ := s
  have low : e < hp.objs.size := Heap.lt_size en
  show wpAny _ _ (field (.ref e) 2 >>= _) _ _ (⟨hp, ge, dr, tk, os⟩ : Shared)
  refine wpAny_bind (wpAny_field en rfl (x := .ref it) rfl ?_)
  refine wpAny_bind (nextOf_tuple_item ti tu vx fun a1 i1 k1 => ?_)
  replace k1 : Heap.SameBut it hp a1 := k1
  have e1 : IsEnum a1 e it i old := (k1.2 e ne).trans en
  show wpAny _ _ (field (.ref e) 3 >>= _) _ _ (⟨a1, ge, dr, tk, os⟩ : Shared)
  refine wpAny_bind (wpAny_field e1 rfl (x := rawInt i) rfl ?_)
  show wpAny _ _ (field (.ref e) 4 >>= _) _ _ (⟨a1, ge, dr, tk, os⟩ : Shared)
  refine wpAny_bind (wpAny_field e1 rfl (x := .none) rfl ?_)
  show wpAny _ _ (mkInt i >>= _) _ _ (⟨a1, ge, dr, tk, os⟩ : Shared)
  refine wpAny_bind (wpAny_mkInt ?_); show wpAny _ _ (setField (.ref e) 3 (rawInt ((i : Int) + 1)) >>= _) _ _ (⟨a1, ge, dr, tk + 1, os⟩ : Shared)
  refine wpAny_bind (wpAny_setField_rec e1 (by simp) fun a2 e2 k2 => ?_)
  replace k2 : Heap.SameBut e a1 a2 := k2
  replace e2 : IsEnum a2 e it ((i : Int) + 1) old := e2
  show wpAny _ _ (setField (.ref e) 4 .none >>= _) _ _ (⟨a2, ge, dr, tk + 1, os⟩ : Shared)
  refine wpAny_bind (wpAny_setField_rec e2 (by simp) fun a3 e3 k3 => ?_)
  replace k3 : Heap.SameBut e a2 a3 := k3
  replace e3 : IsEnum a3 e it ((i : Int) + 1) old := e3
  show wpAny _ _ (newTuple [.int i tk, x] >>= _) _ _ (⟨a3, ge, dr, tk + 1, os⟩ : Shared)
  refine wpAny_bind (wpAny_newTuple ?_); have z3 : a3.objs.size = hp.objs.size := k3.1.trans (k2.1.trans k1.1)
  have e4 : IsEnum (a3.push { cls := .type "tuple", data := .seq #[.int i tk, x] }) e it ((i : Int) + 1) old := Heap.get?_push_of_some _ e3
  have t4 := Heap.get?_push_size a3 (o := { cls := .type "tuple", data := .seq #[.int i tk, x] }) rfl
  have i3 : a3.IsTupleIter it l (i + 1) := (i1.extBut k2.extBut (Ne.symm ne)).extBut k3.extBut (Ne.symm ne)
  have i4 : (a3.push { cls := .type "tuple", data := .seq #[.int i tk, x] }).IsTupleIter it l (i + 1) := have ⟨o, ho, r⟩ := i3; ⟨o, Heap.get?_push_of_some _ ho, r⟩
  have z4 : (a3.push { cls := .type "tuple", data := .seq #[.int i tk, x] }).objs.size = hp.objs.size + 1 := by rw [Heap.size_push, z3]
  have s4 : ∀ b o, b ≠ e → b ≠ it → hp.get? b = some o → (a3.push { cls := .type "tuple", data := .seq #[.int i tk, x] }).get? b = some o := fun b o b1 b2 z =>
    Heap.get?_push_of_some _ (k3.extBut b o b1 (k2.extBut b o b1 (k1.extBut b o b2 z)))
  rw [z3] at t4
  rw [z3]
  generalize a3.push { cls := .type "tuple", data := .seq #[.int i tk, x] } = a4 at e4 t4 i4 z4 s4
  show wpAny _ _ (Builtin.SmallTypes.ownedTupleIsFree (.ref e) >>= _) _ _ (⟨a4, ge, dr, tk + 1, os⟩ : Shared)
  unfold Builtin.SmallTypes.ownedTupleIsFree; refine wpAny_bind (wpAny_bind (wpAny_field e4 rfl (x := .none) rfl (wpAny_pure ?_)))
  simp only [if_true]
  refine wpAny_bind (wpAny_rule ?_); refine wpAny_bind (wpAny_field e4 rfl (x := old) rfl ?_)
  refine wpAny_bind (wpAny_setField_rec e4 (by simp) fun a5 e5 k5 => ?_)
  replace k5 : Heap.SameBut e a4 a5 := k5
  replace e5 : IsEnum a5 e it ((i : Int) + 1) x := e5
  show wpAny _ _ (Builtin.SmallTypes.ownedTupleHandOut (.ref e) (.ref hp.objs.size) >>= _) _ _ (⟨a5, ge, dr, tk + 1, os⟩ : Shared)
  unfold Builtin.SmallTypes.ownedTupleHandOut; refine wpAny_bind (wpAny_bind (wpAny_setField_rec e5 (by simp) fun a6 e6 k6 => ?_))
  replace k6 : Heap.SameBut e a5 a6 := k6
  replace e6 : IsEnumOut a6 e it ((i : Int) + 1) x hp.objs.size := e6
  refine wpAny_setField_rec e6 (by simp) fun a7 e7 k7 => ?_
  replace k7 : Heap.SameBut e a6 a7 := k7
  replace e7 : IsEnumOut a7 e it ((i : Int) + 1) x hp.objs.size := e7
  have up : ∀ b o, b ≠ e → a4.get? b = some o → a7.get? b = some o := fun b o b1 z => k7.extBut b o b1 (k6.extBut b o b1 (k5.extBut b o b1 z))
  refine wpAny_bind (wpAny_letGo (wpAny_pure ⟨_, rfl, q a7 e7 ?_ (up _ _ (Nat.ne_of_gt low) t4) ?_ fun b o b1 b2 z => up b o b1 (s4 b o b1 b2 z)⟩))
  · exact have ⟨o, ho, r⟩ := i4; ⟨o, up it o (Ne.symm ne) ho, r⟩
  · rw [k7.1, k6.1, k5.1, z4]
theorem enumT_item {e it l : Addr} {i : Nat} {vs : Array Value} {x old : Value} {Q : Option Value → Shared → Prop} (en : IsEnum s.heap e it i old) (ti : s.heap.IsTupleIter it l i) (tu : s.heap.IsTuple l vs) (vx : vs[i]? = some x) (ne : e ≠ it)
    (q : ∀ h2, IsEnumOut h2 e it ((i : Int) + 1) x s.heap.objs.size → h2.IsTupleIter it l (i + 1) → h2.get? s.heap.objs.size = some { cls := .type "tuple", data := .seq #[.int i s.toks, x] } → h2.objs.size = s.heap.objs.size + 1 →
      (∀ b o, b ≠ e → b ≠ it → s.heap.get? b = some o → h2.get? b = some o) → Q (some (.ref s.heap.objs.size)) { s with heap := h2, toks := s.toks + 1 }) : wpAny (model P w) A (pyNext (.ref e)) Q E s := by
  have ty : s.TypeIs (.ref e) "enumerate" := ⟨_, en, rfl⟩
  unfold pyNext
  refine wpAny_bind (wpAny_attempt (wpAny_callSpecial?_slot (name := Str.ofString "__next__") ty PySem.F.slot_enumerate_next (wpAny_call_entry PySem.F.slot_enumerate_next ty PySem.F.entry_enumerate_next (enumT_step en ti tu vx ne fun h2 x1 x2 x3 x4 x5 => wpAny_pure (q h2 x1 x2 x3 x4 x5)) (PySem.F.args_enumerate_next_1 _))))
theorem enumT_end {e it l : Addr} {i : Nat} {vs : Array Value} {old : Value} {Q : Option Value → Shared → Prop} (calm : A.handled = none) (en : IsEnum s.heap e it i old) (ti : s.heap.IsTupleIter it l i) (tu : s.heap.IsTuple l vs) (vx : vs[i]? = none)
    (q : ∀ h2, Heap.ExtBut it s.heap h2 → Q none { s with heap := h2 }) : wpAny (model P w) A (pyNext (.ref e)) Q E s := by
  have ty : s.TypeIs (.ref e) "enumerate" := ⟨_, en, rfl⟩
  unfold pyNext
  refine wpAny_bind (wpAny_attempt (wpAny_callSpecial?_slot (name := Str.ofString "__next__") ty PySem.F.slot_enumerate_next (wpAny_call_entry PySem.F.slot_enumerate_next ty PySem.F.entry_enumerate_next ?_ (PySem.F.args_enumerate_next_1 _))))
  show wpAny _ _ (field (.ref e) 2 >>= _) _ _ s
  refine wpAny_bind (wpAny_field en rfl (x := .ref it) rfl ?_)
  refine wpAny_bind (nextOf_tuple_end calm ti tu vx fun h2 y k2 ⟨o, ho, hc⟩ => ?_)
  exact wpAny_bind (wpAny_isInstance (T := "StopIteration") (b := true) ⟨o, ho, hc⟩ isSubtype_stop (wpAny_pure (q _ k2)))
end
/-- enumerate(t) -/
theorem newEnumT (l : Addr) (vs : Array Value) : Meets (Builtin.«enumerate.__new__» ⟨[.type "enumerate", .ref l], []⟩) (fun _ R s => s.heap.IsTuple l vs ∧
    R (.ok (.ret (.ref (s.heap.push { cls := .type "tuple_iterator", data := .fields #[.ref l, .int 0 0] }).objs.size)))
      { s with heap := (s.heap.push { cls := .type "tuple_iterator", data := .fields #[.ref l, .int 0 0] }).push { cls := .type "enumerate", data := .fields #[.none, .bool false, .ref s.heap.objs.size, rawInt 0, .none, .none] } }) :=
  .of_wp fun P w A R s h => by
    obtain ⟨hp, ge, dr, tk, os⟩ := s
    obtain ⟨tu, h⟩ := h
    have sb := sub_enumerate
    have tu : Heap.IsTuple (Shared.heap ⟨hp, ge, dr, tk, os⟩) l vs := tu
    obtain ⟨o, ho, hc, n, hd⟩ := id tu
    have ho' : (Shared.heap ⟨hp, ge, dr, tk, os⟩).get? l = some o := ho
    wp_walk using AutoSeq1.wpAny_loadPart' ho'
    refine wpAny_stack_any fun st => wpAny_pure ?_; split
    · rename_i c _ _ _ _ _
      cases c == Value.type "enumerate" <;> (wp_walk using wpAny_pyIter_tuple tu) <;> exact ⟨_, rfl, h⟩
    · wp_walk using wpAny_pyIter_tuple tu
      exact ⟨_, rfl, h⟩
section
variable {s : Shared} {P : Program} {w : World} {A : Around} {E : Value → Shared → Prop}
theorem call_enumT {l : Addr} {vs : Array Value} {Q : Value → Shared → Prop} (tu : s.heap.IsTuple l vs)
    (q : ∀ h2, IsEnum h2 (s.heap.objs.size + 1) s.heap.objs.size 0 .none → h2.IsTupleIter s.heap.objs.size l 0 → h2.objs.size = s.heap.objs.size + 2 → (∀ b o, s.heap.get? b = some o → h2.get? b = some o) → Q (.ref (s.heap.objs.size + 1)) { s with heap := h2 }) :
    wpAny (model P w) A (call (.type "enumerate") [.ref l]) Q E s := by
  have z : (s.heap.push { cls := .type "tuple_iterator", data := .fields #[.ref l, .int 0 0] }).objs.size = s.heap.objs.size + 1 := Heap.size_push ..
  have en := Heap.get?_push_size (s.heap.push { cls := .type "tuple_iterator", data := .fields #[.ref l, .int 0 0] }) (o := { cls := .type "enumerate", data := .fields #[.none, .bool false, .ref s.heap.objs.size, rawInt 0, .none, .none] }) rfl
  rw [z] at en
  refine callType_new PySem.F.called_enumerate (by decide) (PySem.F.typeCall_enumerate_1 _) (PySem.F.newCall_enumerate_1 _) (fun ob => PySem.F.args_object_init_2 ob _) PySem.F.entry_enumerate_new (newEnumT l vs) ⟨tu, ?_⟩
  show _ ∧ _
  rw [z]
  exact ⟨⟨_, en, rfl⟩, q _ en ⟨_, Heap.get?_push_of_some _ (Heap.get?_push_size _ rfl), rfl, rfl⟩ (by rw [Heap.size_push, z]) fun b o x => Heap.get?_push_of_some _ (Heap.get?_push_of_some _ x)⟩
end
/-! ### the walks -/
/-- the tuple at a, its items with their places -/
def IteT (K : PySem.W.Frag) (a : Addr) : It :=
  ⟨fun i H => ∃ (xs : List V) (x : V), SqT K H a xs ∧ xs[i]? = some x, fun i H v H' => ∃ T x, v = .ref T ∧ H T = none ∧ H' = upd H T (.tup [.int (i : Nat), x]) ∧ ∀ xs, SqT K H a xs → xs[i]? = some x, fun i H => ∃ xs : List V, SqT K H a xs ∧ xs.length ≤ i⟩
theorem turn_enumT {P : Program} {w : World} {K : PySem.W.Frag} {elts : List Expr} {kk : Nat} {tpos : Pos} (a e it : Addr) : Turn P w K (.Tuple elts kk tpos) (IteT K a) [e, it] e (fun i h => (∃ old, IsEnum h e it ((i : Nat) : Int) old) ∧ h.IsTupleIter it a i ∧ e ≠ it) where
  mem := by simp
  obj := fun i h ⟨⟨old, en⟩, ⟨o, ho, hc, hd⟩, _⟩ b hb => by
    rcases (List.mem_cons.mp hb : _ ∨ _) with rfl | hb
    · exact ⟨_, en, fun v z => nomatch z⟩
    · rw [show b = _ from List.mem_singleton.mp hb]
      exact ⟨o, ho, fun v z => by rw [hd] at z; cases z⟩
  keep := fun i h h2 ⟨⟨old, en⟩, ⟨o, ho, r⟩, ne⟩ k => ⟨⟨old, k e (by simp) _ en⟩, ⟨o, k it (by simp) _ ho, r⟩, ne⟩
  item := by
    rintro X rfl rfl rfl calm i pins s σ H E I free ⟨⟨old, en⟩, ti, ne⟩ ⟨xs, x, hq, hx⟩
    obtain ⟨its, rv, p, _⟩ := I.tuple hq
    obtain ⟨u, hu, ru⟩ := rv.get hx; have le : e < s.heap.objs.size := Heap.lt_size en
    have li : it < s.heap.objs.size := have ⟨_, z, _⟩ := ti; Heap.lt_size z
    refine enumT_item en ti p (x := u) (by simpa using hu) ne fun h2 en2 ti2 T2 sz k2 => ⟨_, rfl, wpAny_letOwnedTupleGo_enum (s := { s with heap := h2, toks := s.toks + 1 }) en2 fun h3 en3 sb => ?_⟩
    have T3 : h3.get? s.heap.objs.size = some { cls := .type "tuple", data := .seq #[.int i s.toks, u] } := (sb.2 _ (Nat.ne_of_gt le)).trans T2
    have ok : ObjOk X.prog X.w (upd H s.heap.objs.size (.tup [.int (i : Nat), x])) h3 s.heap.objs.size (.tup [.int (i : Nat), x]) := ⟨by show 2 ≤ sizeLine; decide, [.int i s.toks, u], .cons ⟨_, rfl⟩ (.cons ru .nil), ⟨_, T3, rfl, _, rfl⟩⟩
    have I3 : Inv X pins σ (upd H s.heap.objs.size (.tup [.int (i : Nat), x])) { s with heap := h3, toks := s.toks + 1 } :=
      I.turnedNew (ch := [e, it]) (fun b o hb z => (sb.2 b (fun y => hb (by simp [y]))).trans (k2 b o (fun y => hb (by simp [y])) (fun y => hb (by simp [y])) z)) free (Nat.le_refl _) ok
    refine ⟨.ref s.heap.objs.size, _, I3, rfl, ⟨_, x, rfl, I.hok.fresh (Nat.le_refl _), rfl, fun ys hy => by rw [I.tuple_inj hy hq]; exact hx⟩, ⟨⟨u, ?_⟩, ?_, ne⟩, fun b hb => ?_⟩
    · rw [show ((i + 1 : Nat) : Int) = (i : Int) + 1 by omega]
      exact en3
    · obtain ⟨o, ho, r⟩ := ti2
      exact ⟨o, (sb.2 it (Ne.symm ne)).trans ho, r⟩
    · have lb : b < s.heap.objs.size := by
        rcases (List.mem_cons.mp hb : _ ∨ _) with z | z
        · rw [z]; exact le
        · rw [List.mem_singleton.mp z]; exact li
      rw [upd_ne (Nat.ne_of_lt lb)]
      exact (free b hb).1
  done := by
    rintro X rfl rfl rfl calm i pins s σ H E I free ⟨⟨old, en⟩, ti, ne⟩ ⟨xs, hq, hx⟩
    obtain ⟨its, rv, p, _⟩ := I.tuple hq
    obtain ⟨f0, f1, f2, f3, f4, f5⟩ := free it (by simp)
    have hl := rv.length
    exact enumT_end (I.ok.hd calm) en ti p (by simp; omega) fun h2 eb => ⟨rfl, I.turned (t' := s.toks) (fun b o hb z => eb b o hb z) f0 f1 f3 f4 f5⟩
  self := fun A i s Q E ⟨⟨_, en⟩, _⟩ h => wpAny_pyIter_enum en h
/-- enumerate(e), e a tuple -/
def iEnumT (K : PySem.W.Frag) (ta : TA) : TI := fun σ H R => ta σ H fun vs H1 => ∃ a xs, vs = [.ref a] ∧ SqT K H1 a xs ∧ R (IteT K a) H1
theorem pi_enumT {X : Cx} {e : Expr} {ta : TA} {p pos tpos : Pos} {elts : List Expr} {kk : Nat} (hg : Gl X "enumerate") (hm : X.mg "enumerate" = none) (ha : PA X [e] ta) (hs : starEach [e] X.env = [(false, eval e X.env)] := by rfl) :
    PI X (.Tuple elts kk tpos) (.Call (.Name "enumerate" p) [e] [] pos) (iEnumT X.K ta) := by
  refine ⟨fun pins s σ H R I h => Call_ (ld_blt I hg hm boot_enumerate (PyProof.Rows.callWith_type1 (thn (ha.run pos pins s σ H _ I h) fun us s1 ⟨vs, H1, I1, r1, a, xs, ex, hq, q⟩ => ?_) hs rfl))⟩
  subst ex
  rw [Vals.ref1 r1]
  obtain ⟨its, rv, p1, _⟩ := I1.tuple hq
  refine call_enumT p1 fun h2 en ti sz k2 => wpAny_pyIter_enum en ?_
  have I2 : Inv X pins σ H1 { s1 with heap := h2 } := I1.kept (t' := s1.toks) k2
  refine ⟨s1.heap.objs.size + 1, [s1.heap.objs.size + 1, s1.heap.objs.size], _, _, H1, rfl, I2, turn_enumT a (s1.heap.objs.size + 1) s1.heap.objs.size, ⟨⟨.none, en⟩, ti, Nat.succ_ne_self _⟩, fun b hb => ?_, q⟩
  have le : s1.heap.objs.size ≤ b := by
    rcases (List.mem_cons.mp hb : _ ∨ _) with z | z
    · rw [z]; exact Nat.le_succ _
    · rw [List.mem_singleton.mp z]; exact Nat.le_refl _
  exact I1.fpOk le (I1.hok.fresh le)
theorem walk_enumT {K : PySem.W.Frag} {a : Addr} {xs : List V} : Walk (IteT K a) xs.length (fun H => SqT K H a xs) (YPair (fun i => some (.int (i : Nat))) (fun i => xs[i]?)) where
  goes := fun i _ hi hq => ⟨xs, _, hq, List.getElem?_eq_getElem hi⟩
  stops := fun _ hq => ⟨xs, hq, Nat.le_refl _⟩
  yields := fun i _ _ _ hi hq ⟨T, x, e1, e2, e3, e4⟩ => ⟨T, _, x, e1, e2, e3, rfl, e4 xs hq⟩

/-! zip of a list and a tuple. -/
section
variable {s : Shared} {P : Program} {w : World} {A : Around} {E : Value → Shared → Prop}
/-- what a zip object over the iterators i1 (of the list l1), i2 (of the tuple l2) looks like, k items taken -/
structure ZipM (h : Heap) (z TI TO i1 i2 l1 l2 : Addr) (k : Nat) : Prop where
  ap : ZipApart z TI TO i1 i2 l1 l2
  zip : IsZip h z TI TO .none
  ti : IsPair h TI (.ref i1) (.ref i2)
  to_ : ∃ a b, IsPair h TO a b
  it1 : h.IsListIter i1 l1 k
  it2 : h.IsTupleIter i2 l2 k
theorem zipM_step {z TI TO i1 i2 l1 l2 : Addr} {k : Nat} {xs ys : Array Value} {x y : Value} {Q : Value → Shared → Prop} (Z : ZipM s.heap z TI TO i1 i2 l1 l2 k) (li : s.heap.IsList l1 xs) (tu : s.heap.IsTuple l2 ys) (hx : xs[k]? = some x) (hy : ys[k]? = some y)
    (q : ∀ h2, IsZip h2 z TI TO (rawInt s.heap.objs.size) → IsPair h2 TO x y → h2.IsListIter i1 l1 (k + 1) → h2.IsTupleIter i2 l2 (k + 1) → IsPair h2 s.heap.objs.size x y → h2.objs.size = s.heap.objs.size + 1 →
      (∀ c o, c ≠ z → c ≠ TO → c ≠ i1 → c ≠ i2 → s.heap.get? c = some o → h2.get? c = some o) → Q (.ref s.heap.objs.size) { s with heap := h2 }) :
    wpAny (model P w) A (Builtin.«zip.__next__» ⟨[.ref z], []⟩) (fun fin s2 => ∃ v, fin = .done (.ret v) ∧ Q v s2) E s := by
  obtain ⟨D, iz, iti, ⟨a0, b0, ito⟩, n1, n2⟩ := Z
  obtain ⟨hp, ge, dr, tk, os⟩ := s
  show wpAny _ _ (field (.ref z) 2 >>= _) _ _ (⟨hp, ge, dr, tk, os⟩ : Shared)
  refine wpAny_bind (wpAny_field iz rfl (x := .bool false) rfl ?_)
  show wpAny _ _ (field (.ref z) 3 >>= _) _ _ (⟨hp, ge, dr, tk, os⟩ : Shared)
  refine wpAny_bind (wpAny_field iz rfl (x := .ref TI) rfl ?_)
  refine wpAny_bind (wpAny_seqItems iti rfl ?_)
  show wpAny _ _ (Builtin.SmallTypes.ownedTupleIsFree (.ref z) >>= _) _ _ (⟨hp, ge, dr, tk, os⟩ : Shared)
  unfold Builtin.SmallTypes.ownedTupleIsFree; refine wpAny_bind (wpAny_bind (wpAny_field iz rfl (x := .none) rfl (wpAny_pure ?_)))
  simp only [if_true]
  refine wpAny_bind (wpAny_rule ?_); refine wpAny_bind (wpAny_field iz rfl (x := .ref TO) rfl ?_)
  refine wpAny_bind (wpAny_setField_rec iz (by simp) fun g1 iz1 k1 => ?_)
  replace k1 : Heap.SameBut z hp g1 := k1
  replace iz1 : IsZip g1 z TI TO .ellipsis := iz1
  refine wpAny_bind ?_
  simp only [List.zipIdx_cons, List.zipIdx_nil, List.forIn_cons, List.forIn_nil]; refine wpAny_bind (wpAny_bind (wpAny_onRaise ?_))
  show wpAny _ _ (Builtin.SmallTypes.nextOf (.ref i1) >>= _) _ _ (⟨g1, ge, dr, tk, os⟩ : Shared)
  have e1 := k1.extBut
  refine wpAny_bind (wpAny_nextOf_list_item (Heap.IsListIter.extBut n1 e1 D.i1z) (Heap.IsList.extBut li e1 D.l1z) hx fun g2 m1 k2 => wpAny_pure ?_)
  replace k2 : Heap.SameBut i1 g1 g2 := k2
  have e2 := k2.extBut
  have ito2 : IsPair g2 TO a0 b0 := e2 _ _ D.TOi1 (e1 _ _ D.TOz ito)
  refine wpAny_bind (wpAny_seqItems ito2 rfl ?_)
  refine wpAny_bind (wpAny_updateSeq_pair ito2 fun g3 ito3 k3 => ?_)
  replace k3 : Heap.SameBut TO g2 g3 := k3
  have e3 := k3.extBut
  replace ito3 : IsPair g3 TO x b0 := ito3
  refine wpAny_bind (wpAny_letGo (wpAny_pure ?_)); refine wpAny_bind (wpAny_bind (wpAny_onRaise ?_))
  show wpAny _ _ (Builtin.SmallTypes.nextOf (.ref i2) >>= _) _ _ (⟨g3, ge, dr, tk, os⟩ : Shared)
  have n23 : g3.IsTupleIter i2 l2 k := ((n2.extBut e1 D.i2z).extBut e2 D.i12.symm).extBut e3 D.TOi2.symm
  have tu3 : g3.IsTuple l2 ys := ((Heap.IsTuple.extBut tu e1 D.l2z).extBut e2 D.l2i1).extBut e3 D.l2TO
  refine wpAny_bind (nextOf_tuple_item n23 tu3 hy fun g4 m2 k4 => wpAny_pure ?_)
  replace k4 : Heap.SameBut i2 g3 g4 := k4
  have e4 := k4.extBut
  have ito4 : IsPair g4 TO x b0 := e4 _ _ D.TOi2 ito3
  refine wpAny_bind (wpAny_seqItems ito4 rfl ?_)
  refine wpAny_bind (wpAny_updateSeq_pair ito4 fun g5 ito5 k5 => ?_)
  replace k5 : Heap.SameBut TO g4 g5 := k5
  have e5 := k5.extBut
  replace ito5 : IsPair g5 TO x y := ito5
  refine wpAny_bind (wpAny_letGo (wpAny_pure (wpAny_pure ?_))); refine wpAny_bind (wpAny_seqItems ito5 rfl ?_)
  refine wpAny_bind (wpAny_newTuple ?_); have sz5 : g5.objs.size = hp.objs.size := k5.1.trans (k4.1.trans (k3.1.trans (k2.1.trans k1.1)))
  have iz5 : IsZip g5 z TI TO .ellipsis := e5 _ _ D.TOz.symm (e4 _ _ D.i2z.symm (e3 _ _ D.TOz.symm (e2 _ _ D.i1z.symm iz1)))
  have all5 : ∀ c o, c ≠ z → c ≠ TO → c ≠ i1 → c ≠ i2 → hp.get? c = some o → g5.get? c = some o := fun c o c1 c2 c3 c4 v => e5 _ _ c2 (e4 _ _ c4 (e3 _ _ c2 (e2 _ _ c3 (e1 _ _ c1 v))))
  have m15 : g5.IsListIter i1 l1 (k + 1) := ((Heap.IsListIter.extBut m1 e3 D.TOi1.symm).extBut e4 D.i12).extBut e5 D.TOi1.symm
  have m25 : g5.IsTupleIter i2 l2 (k + 1) := Heap.IsTupleIter.extBut m2 e5 D.TOi2.symm
  have ltz : z < g5.objs.size := Heap.lt_size iz5
  have ltTO : TO < g5.objs.size := Heap.lt_size ito5
  show wpAny _ _ (Builtin.SmallTypes.ownedTupleHandOut (.ref z) (.ref g5.objs.size) >>= _) _ _ _
  unfold Builtin.SmallTypes.ownedTupleHandOut; have iz6 : IsZip (g5.push { cls := .type "tuple", data := .seq #[x, y] }) z TI TO .ellipsis := Heap.get?_push_of_some _ iz5
  refine wpAny_bind (wpAny_bind (wpAny_setField_rec iz6 (by simp) fun g7 iz7 k7 => ?_))
  replace iz7 : IsZip g7 z TI TO (rawInt g5.objs.size) := iz7
  refine wpAny_setField_rec iz7 (by simp) fun g8 iz8 k8 => ?_
  replace iz8 : IsZip g8 z TI TO (rawInt g5.objs.size) := iz8
  have up : ∀ c o, c ≠ z → g5.get? c = some o → g8.get? c = some o := fun c o c1 v => k8.extBut _ _ c1 (k7.extBut _ _ c1 (Heap.get?_push_of_some _ v))
  have T8 : IsPair g8 g5.objs.size x y := k8.extBut _ _ (Nat.ne_of_gt ltz) (k7.extBut _ _ (Nat.ne_of_gt ltz) (Heap.get?_push_size _ rfl))
  have sz8 : g8.objs.size = g5.objs.size + 1 := by rw [k8.1, k7.1, Heap.size_push]
  rw [sz5] at iz8 T8 sz8
  refine wpAny_pure ⟨_, rfl, ?_⟩; show Q (.ref g5.objs.size) _
  rw [sz5]
  exact q g8 iz8 (up _ _ D.TOz ito5) (have ⟨o, ho, r⟩ := m15; ⟨o, up _ _ D.i1z ho, r⟩) (have ⟨o, ho, r⟩ := m25; ⟨o, up _ _ D.i2z ho, r⟩) T8 sz8 fun c o c1 c2 c3 c4 v => up c o c1 (all5 c o c1 c2 c3 c4 v)
theorem zipM_over {z TI TO i1 i2 l1 l2 : Addr} {k : Nat} {xs ys : Array Value} {Q : PySem.Fin → Shared → Prop} (calm : A.handled = none) (Z : ZipM s.heap z TI TO i1 i2 l1 l2 k) (li : s.heap.IsList l1 xs) (tu : s.heap.IsTuple l2 ys) (over : xs[k]? = none ∨ ys[k]? = none)
    (q : ∀ h2 e, (∀ c o, c ≠ z → c ≠ TO → c ≠ i1 → c ≠ i2 → s.heap.get? c = some o → h2.get? c = some o) → (∃ o, h2.get? e = some o ∧ o.cls = .type "StopIteration") → E (.ref e) { s with heap := h2 }) :
    wpAny (model P w) A (Builtin.«zip.__next__» ⟨[.ref z], []⟩) Q E s := by
  obtain ⟨D, iz, iti, ⟨a0, b0, ito⟩, n1, n2⟩ := Z
  obtain ⟨hp, ge, dr, tk, os⟩ := s
  show wpAny _ _ (field (.ref z) 2 >>= _) _ _ (⟨hp, ge, dr, tk, os⟩ : Shared)
  refine wpAny_bind (wpAny_field iz rfl (x := .bool false) rfl ?_)
  show wpAny _ _ (field (.ref z) 3 >>= _) _ _ (⟨hp, ge, dr, tk, os⟩ : Shared)
  refine wpAny_bind (wpAny_field iz rfl (x := .ref TI) rfl ?_)
  refine wpAny_bind (wpAny_seqItems iti rfl ?_)
  show wpAny _ _ (Builtin.SmallTypes.ownedTupleIsFree (.ref z) >>= _) _ _ (⟨hp, ge, dr, tk, os⟩ : Shared)
  unfold Builtin.SmallTypes.ownedTupleIsFree; refine wpAny_bind (wpAny_bind (wpAny_field iz rfl (x := .none) rfl (wpAny_pure ?_)))
  simp only [if_true]
  refine wpAny_bind (wpAny_rule ?_); refine wpAny_bind (wpAny_field iz rfl (x := .ref TO) rfl ?_)
  refine wpAny_bind (wpAny_setField_rec iz (by simp) fun g1 iz1 k1 => ?_)
  replace k1 : Heap.SameBut z hp g1 := k1
  have e1 := k1.extBut
  replace iz1 : IsZip g1 z TI TO .ellipsis := iz1
  refine wpAny_bind ?_
  simp only [List.zipIdx_cons, List.zipIdx_nil, List.forIn_cons, List.forIn_nil]; refine wpAny_bind (wpAny_bind (wpAny_onRaise ?_))
  show wpAny _ _ (Builtin.SmallTypes.nextOf (.ref i1) >>= _) _ _ (⟨g1, ge, dr, tk, os⟩ : Shared)
  have n11 : g1.IsListIter i1 l1 k := Heap.IsListIter.extBut n1 e1 D.i1z
  have li1 : g1.IsList l1 xs := Heap.IsList.extBut li e1 D.l1z
  cases hx : xs[k]? with
  | none =>
    refine wpAny_bind (wpAny_nextOf_list_end calm n11 li1 hx fun g2 e k2 ⟨oe, he, hc⟩ => ?_)
    have iz2 : IsZip g2 z TI TO .ellipsis := k2 _ _ D.i1z.symm iz1
    have ez : e ≠ z := fun v => by
      rw [v, iz2] at he
      cases he
      simp at hc
    exact wpAny_setField_rec iz2 (by simp) fun g3 _ k3 => q g3 e (fun c o c1 _ c3 _ v => k3.extBut _ _ c1 (k2 _ _ c3 (e1 _ _ c1 v))) ⟨oe, k3.extBut _ _ ez he, hc⟩
  | some x =>
    have hy : ys[k]? = none := over.elim (fun v => by rw [hx] at v; cases v) id
    refine wpAny_bind (wpAny_nextOf_list_item n11 li1 hx fun g2 m1 k2 => wpAny_pure ?_)
    replace k2 : Heap.SameBut i1 g1 g2 := k2
    have e2 := k2.extBut
    have ito2 : IsPair g2 TO a0 b0 := e2 _ _ D.TOi1 (e1 _ _ D.TOz ito)
    refine wpAny_bind (wpAny_seqItems ito2 rfl ?_)
    refine wpAny_bind (wpAny_updateSeq_pair ito2 fun g3 ito3 k3 => ?_)
    replace k3 : Heap.SameBut TO g2 g3 := k3
    have e3 := k3.extBut
    refine wpAny_bind (wpAny_letGo (wpAny_pure ?_)); refine wpAny_bind (wpAny_bind (wpAny_onRaise ?_))
    show wpAny _ _ (Builtin.SmallTypes.nextOf (.ref i2) >>= _) _ _ (⟨g3, ge, dr, tk, os⟩ : Shared)
    have n23 : g3.IsTupleIter i2 l2 k := ((n2.extBut e1 D.i2z).extBut e2 D.i12.symm).extBut e3 D.TOi2.symm
    have tu3 : g3.IsTuple l2 ys := ((Heap.IsTuple.extBut tu e1 D.l2z).extBut e2 D.l2i1).extBut e3 D.l2TO
    refine wpAny_bind (nextOf_tuple_end calm n23 tu3 hy fun g4 e k4 ⟨oe, he, hc⟩ => ?_)
    have iz4 : IsZip g4 z TI TO .ellipsis := k4 _ _ D.i2z.symm (e3 _ _ D.TOz.symm (e2 _ _ D.i1z.symm iz1))
    have ez : e ≠ z := fun v => by
      rw [v, iz4] at he
      cases he
      simp at hc
    exact wpAny_setField_rec iz4 (by simp) fun g5 _ k5 => q g5 e (fun c o c1 c2 c3 c4 v => k5.extBut _ _ c1 (k4 _ _ c4 (e3 _ _ c2 (e2 _ _ c3 (e1 _ _ c1 v))))) ⟨oe, k5.extBut _ _ ez he, hc⟩
theorem zipM_item {z TI TO i1 i2 l1 l2 : Addr} {k : Nat} {xs ys : Array Value} {x y : Value} {Q : Option Value → Shared → Prop} (Z : ZipM s.heap z TI TO i1 i2 l1 l2 k) (li : s.heap.IsList l1 xs) (tu : s.heap.IsTuple l2 ys) (hx : xs[k]? = some x) (hy : ys[k]? = some y)
    (q : ∀ h2, IsZip h2 z TI TO (rawInt s.heap.objs.size) → IsPair h2 TO x y → h2.IsListIter i1 l1 (k + 1) → h2.IsTupleIter i2 l2 (k + 1) → IsPair h2 s.heap.objs.size x y → h2.objs.size = s.heap.objs.size + 1 →
      (∀ c o, c ≠ z → c ≠ TO → c ≠ i1 → c ≠ i2 → s.heap.get? c = some o → h2.get? c = some o) → Q (some (.ref s.heap.objs.size)) { s with heap := h2 }) : wpAny (model P w) A (pyNext (.ref z)) Q E s := by
  have ty : s.TypeIs (.ref z) "zip" := ⟨_, Z.zip, rfl⟩
  unfold pyNext
  refine wpAny_bind (wpAny_attempt (wpAny_callSpecial?_slot (name := Str.ofString "__next__") ty PySem.F.slot_zip_next (wpAny_call_entry PySem.F.slot_zip_next ty PySem.F.entry_zip_next ?_ (PySem.F.args_zip_next_1 _))))
  exact zipM_step Z li tu hx hy fun h2 x1 x2 x3 x4 x5 x6 x7 => wpAny_pure (q h2 x1 x2 x3 x4 x5 x6 x7)
theorem zipM_end {z TI TO i1 i2 l1 l2 : Addr} {k : Nat} {xs ys : Array Value} {Q : Option Value → Shared → Prop} (calm : A.handled = none) (Z : ZipM s.heap z TI TO i1 i2 l1 l2 k) (li : s.heap.IsList l1 xs) (tu : s.heap.IsTuple l2 ys) (over : xs[k]? = none ∨ ys[k]? = none)
    (q : ∀ h2, (∀ c o, c ≠ z → c ≠ TO → c ≠ i1 → c ≠ i2 → s.heap.get? c = some o → h2.get? c = some o) → Q none { s with heap := h2 }) : wpAny (model P w) A (pyNext (.ref z)) Q E s := by
  have ty : s.TypeIs (.ref z) "zip" := ⟨_, Z.zip, rfl⟩
  unfold pyNext
  refine wpAny_bind (wpAny_attempt (wpAny_callSpecial?_slot (name := Str.ofString "__next__") ty PySem.F.slot_zip_next (wpAny_call_entry PySem.F.slot_zip_next ty PySem.F.entry_zip_next ?_ (PySem.F.args_zip_next_1 _))))
  refine zipM_over calm Z li tu over fun h2 e k2 ⟨o, ho, hc⟩ => ?_
  exact wpAny_bind (wpAny_isInstance (T := "StopIteration") (b := true) ⟨o, ho, hc⟩ isSubtype_stop (wpAny_pure (q _ k2)))
end
abbrev zm1 (h : Heap) (l1 : Addr) : Heap := h.push { cls := .type "list_iterator", data := .fields #[.ref l1, .int 0 0] }
abbrev zm2 (h : Heap) (l1 l2 : Addr) : Heap := (zm1 h l1).push { cls := .type "tuple_iterator", data := .fields #[.ref l2, .int 0 0] }
abbrev zm3 (h : Heap) (l1 l2 : Addr) : Heap := (zm2 h l1 l2).push { cls := .type "tuple", data := .seq #[.ref h.objs.size, .ref (zm1 h l1).objs.size] }
abbrev zm4 (h : Heap) (l1 l2 : Addr) : Heap := (zm3 h l1 l2).push { cls := .type "tuple", data := .seq #[.none, .none] }
abbrev zm5 (h : Heap) (l1 l2 : Addr) : Heap := (zm4 h l1 l2).push { cls := .type "zip", data := .fields #[.none, .bool false, .bool false, .ref (zm2 h l1 l2).objs.size, .ref (zm3 h l1 l2).objs.size] }
theorem newZipM (l1 l2 : Addr) (xs ys : Array Value) : Meets (Builtin.«zip.__new__» ⟨[.type "zip", .ref l1, .ref l2], []⟩) (fun _ R s => s.heap.IsList l1 xs ∧ s.heap.IsTuple l2 ys ∧
    R (.ok (.ret (.ref (zm4 s.heap l1 l2).objs.size))) { s with heap := zm5 s.heap l1 l2 }) :=
  .of_wp fun P w A R s ⟨li, tu, h⟩ => by
    obtain ⟨hp, ge, dr, tk, os⟩ := s
    have sb := sub_zip
    have L1 : Heap.IsList (Shared.heap ⟨hp, ge, dr, tk, os⟩) l1 xs := li
    have L2 : Heap.IsTuple (Shared.heap ⟨zm1 hp l1, ge, dr, tk, os⟩) l2 ys := Heap.IsTuple.push tu _
    wp_walk using wpAny_pyIter_list L1, wpAny_pyIter_tuple L2
    exact ⟨_, rfl, h⟩
section
variable {s : Shared} {P : Program} {w : World} {A : Around} {E : Value → Shared → Prop}
theorem call_zipM {l1 l2 : Addr} {xs ys : Array Value} {Q : Value → Shared → Prop} (li : s.heap.IsList l1 xs) (tu : s.heap.IsTuple l2 ys) (low1 : l1 < s.heap.objs.size) (low2 : l2 < s.heap.objs.size)
    (q : ∀ h2, ZipM h2 (s.heap.objs.size + 4) (s.heap.objs.size + 2) (s.heap.objs.size + 3) s.heap.objs.size (s.heap.objs.size + 1) l1 l2 0 → (∀ c o, s.heap.get? c = some o → h2.get? c = some o) → Q (.ref (s.heap.objs.size + 4)) { s with heap := h2 }) :
    wpAny (model P w) A (call (.type "zip") [.ref l1, .ref l2]) Q E s := by
  refine callType_new PySem.F.called_zip (by decide) (PySem.F.typeCall_zip_2 _ _) (PySem.F.newCall_zip_2 _ _) (fun ob => PySem.F.args_object_init_3 ob _ _) PySem.F.entry_zip_new (newZipM l1 l2 xs ys) ⟨li, tu, ?_⟩
  have n1 : (zm1 s.heap l1).objs.size = s.heap.objs.size + 1 := Heap.size_push ..
  have n2 : (zm2 s.heap l1 l2).objs.size = s.heap.objs.size + 2 := by rw [Heap.size_push, n1]
  have n3 : (zm3 s.heap l1 l2).objs.size = s.heap.objs.size + 3 := by rw [Heap.size_push, n2]
  have n4 : (zm4 s.heap l1 l2).objs.size = s.heap.objs.size + 4 := by rw [Heap.size_push, n3]
  have stay : ∀ (h : Heap) (o : Obj) c u, h.get? c = some u → (h.push o).get? c = some u := fun h o c u z => Heap.get?_push_of_some _ z
  have p5 : (zm5 s.heap l1 l2).get? (zm4 s.heap l1 l2).objs.size = some _ := Heap.get?_push_size _ rfl
  have p4 : (zm5 s.heap l1 l2).get? (zm3 s.heap l1 l2).objs.size = some _ := stay _ _ _ _ (Heap.get?_push_size _ rfl)
  have p3 : (zm5 s.heap l1 l2).get? (zm2 s.heap l1 l2).objs.size = some _ := stay _ _ _ _ (stay _ _ _ _ (Heap.get?_push_size _ rfl))
  have p2 : (zm5 s.heap l1 l2).get? (zm1 s.heap l1).objs.size = some _ := stay _ _ _ _ (stay _ _ _ _ (stay _ _ _ _ (Heap.get?_push_size _ rfl)))
  have p1 : (zm5 s.heap l1 l2).get? s.heap.objs.size = some _ := stay _ _ _ _ (stay _ _ _ _ (stay _ _ _ _ (stay _ _ _ _ (Heap.get?_push_size _ rfl))))
  rw [n2, n3, n4] at p5
  rw [n1, n2] at p3
  rw [n3] at p4
  rw [n1] at p2
  show _ ∧ _
  rw [n4]
  refine ⟨⟨_, p5, rfl⟩, q _ ⟨PySem.W.ktu_apart s.heap.objs.size l1 l2 low1 low2, p5, p3, ⟨_, _, p4⟩, ⟨_, p1, rfl, rfl⟩, ⟨_, p2, rfl, rfl⟩⟩ fun c o z => ?_⟩
  exact stay _ _ _ _ (stay _ _ _ _ (stay _ _ _ _ (stay _ _ _ _ (stay _ _ _ _ z))))
end
/-- the list at a beside the tuple at b -/
def ItzM (K : PySem.W.Frag) (a b : Addr) : It :=
  ⟨fun i H => ∃ (xs ys : List V) (x y : V), SqL K H a xs ∧ SqT K H b ys ∧ xs[i]? = some x ∧ ys[i]? = some y,
    fun i H v H' => ∃ T x y, v = .ref T ∧ H T = none ∧ H' = upd H T (.tup [x, y]) ∧ (∀ xs, SqL K H a xs → xs[i]? = some x) ∧ ∀ ys, SqT K H b ys → ys[i]? = some y,
    fun i H => ∃ xs ys : List V, SqL K H a xs ∧ SqT K H b ys ∧ (xs.length ≤ i ∨ ys.length ≤ i)⟩
theorem in5 {c a1 a2 a3 a4 a5 : Addr} (h : c ∈ [a1, a2, a3, a4, a5]) : c = a1 ∨ c = a2 ∨ c = a3 ∨ c = a4 ∨ c = a5 := by simpa using h
theorem turn_zipM {P : Program} {w : World} {K : PySem.W.Frag} {elts : List Expr} {kk : Nat} {tpos : Pos} {a b z TI TO i1 i2 : Addr} : Turn P w K (.Tuple elts kk tpos) (ItzM K a b) [z, TI, TO, i1, i2] z (fun i h => ZipM h z TI TO i1 i2 a b i) where
  mem := by simp
  obj := fun i h Z c hc => by
    obtain ⟨x, y, ito⟩ := Z.to_
    obtain ⟨o1, v1, _, d1⟩ := Z.it1
    obtain ⟨o2, v2, _, d2⟩ := Z.it2
    rcases in5 hc with rfl | rfl | rfl | rfl | rfl
    · exact ⟨_, Z.zip, fun v n => nomatch n⟩
    · exact ⟨_, Z.ti, fun v n => nomatch n⟩
    · exact ⟨_, ito, fun v n => nomatch n⟩
    · exact ⟨o1, v1, fun v n => by rw [d1] at n; cases n⟩
    · exact ⟨o2, v2, fun v n => by rw [d2] at n; cases n⟩
  keep := fun i h h2 Z k => ⟨Z.ap, k z (by simp) _ Z.zip, k TI (by simp) _ Z.ti, have ⟨x, y, v⟩ := Z.to_; ⟨x, y, k TO (by simp) _ v⟩, have ⟨o, ho, r⟩ := Z.it1; ⟨o, k i1 (by simp) _ ho, r⟩, have ⟨o, ho, r⟩ := Z.it2; ⟨o, k i2 (by simp) _ ho, r⟩⟩
  item := by
    rintro X rfl rfl rfl calm i pins s σ H E I free Z ⟨xs, ys, x, y, qx, qy, hx, hy⟩
    obtain ⟨its, rv, p, _⟩ := I.list qx
    obtain ⟨its2, rv2, p2, _⟩ := I.tuple qy
    obtain ⟨u, hu, ru⟩ := rv.get hx; obtain ⟨u2, hu2, ru2⟩ := rv2.get hy
    have D := Z.ap
    have lz : z < s.heap.objs.size := Heap.lt_size Z.zip
    refine zipM_item Z p.isList p2 (x := u) (y := u2) (by simpa using hu) (by simpa using hu2) fun h2 z2 TO2 n1 n2 T2 sz k2 => ⟨_, rfl, wpAny_letOwnedTupleGo_zip (s := { s with heap := h2 }) z2 fun h3 z3 sb => ?_⟩
    have T3 : h3.get? s.heap.objs.size = some { cls := .type "tuple", data := .seq #[u, u2] } := (sb.2 _ (Nat.ne_of_gt lz)).trans T2
    have ok : ObjOk X.prog X.w (upd H s.heap.objs.size (.tup [x, y])) h3 s.heap.objs.size (.tup [x, y]) := ⟨by show 2 ≤ sizeLine; decide, [u, u2], .cons ru (.cons ru2 .nil), ⟨_, T3, rfl, _, rfl⟩⟩
    have I3 : Inv X pins σ (upd H s.heap.objs.size (.tup [x, y])) { s with heap := h3 } :=
      I.turnedNew (t' := s.toks) (ch := [z, TI, TO, i1, i2]) (fun c o hb v => (sb.2 c (fun n => hb (by simp [n]))).trans (k2 c o (fun n => hb (by simp [n])) (fun n => hb (by simp [n])) (fun n => hb (by simp [n])) (fun n => hb (by simp [n])) v)) free (Nat.le_refl _) ok
    refine ⟨.ref s.heap.objs.size, _, I3, rfl, ⟨_, x, y, rfl, I.hok.fresh (Nat.le_refl _), rfl, fun l hl => by rw [I.list_inj hl qx]; exact hx, fun l hl => by rw [I.tuple_inj hl qy]; exact hy⟩, ⟨D, z3, ?_, ⟨u, u2, (sb.2 _ D.TOz).trans TO2⟩, ?_, ?_⟩, fun c hc => ?_⟩
    · exact (sb.2 _ D.TIz).trans (k2 _ _ D.TIz D.TITO D.TIi1 D.TIi2 Z.ti)
    · exact have ⟨o, ho, r⟩ := n1; ⟨o, (sb.2 _ D.i1z).trans ho, r⟩
    · exact have ⟨o, ho, r⟩ := n2; ⟨o, (sb.2 _ D.i2z).trans ho, r⟩
    · have lc : c < s.heap.objs.size := by
        obtain ⟨_, _, v⟩ := Z.to_
        obtain ⟨_, v1, _⟩ := Z.it1
        obtain ⟨_, v2, _⟩ := Z.it2
        rcases in5 hc with rfl | rfl | rfl | rfl | rfl
        · exact lz
        · exact Heap.lt_size Z.ti
        · exact Heap.lt_size v
        · exact Heap.lt_size v1
        · exact Heap.lt_size v2
      rw [upd_ne (Nat.ne_of_lt lc)]
      exact (free c hc).1
  done := by
    rintro X rfl rfl rfl calm i pins s σ H E I free Z ⟨xs, ys, qx, qy, over⟩
    obtain ⟨its, rv, p, _⟩ := I.list qx
    obtain ⟨its2, rv2, p2, _⟩ := I.tuple qy
    have n1 := rv.length
    have n2 := rv2.length
    refine zipM_end (I.ok.hd calm) Z p.isList p2 (over.imp (fun v => by simp; omega) (fun v => by simp; omega)) fun h2 k2 => ⟨rfl, I.turnedL (t' := s.toks) (ch := [z, TI, TO, i1, i2]) (fun c o hb v => ?_) free⟩
    exact k2 c o (fun n => hb (by simp [n])) (fun n => hb (by simp [n])) (fun n => hb (by simp [n])) (fun n => hb (by simp [n])) v
  self := fun A i s Q E Z h => wpAny_pyIter_zip Z.zip h
/-- zip(e, e2), a list and a tuple -/
def iZipM (K : PySem.W.Frag) (ta : TA) : TI := fun σ H R => ta σ H fun vs H1 => ∃ a b xs ys, vs = [.ref a, .ref b] ∧ SqL K H1 a xs ∧ SqT K H1 b ys ∧ R (ItzM K a b) H1
theorem pi_zipM {X : Cx} {e e2 : Expr} {ta : TA} {p pos tpos : Pos} {elts : List Expr} {kk : Nat} (hg : Gl X "zip") (hm : X.mg "zip" = none) (ha : PA X [e, e2] ta)
    (hs : starEach [e, e2] X.env = (false, eval e X.env) :: starEach [e2] X.env := by rfl) (hp : (backTo pos (starEach [e2] X.env)).any (·.1) = false := by rfl) : PI X (.Tuple elts kk tpos) (.Call (.Name "zip" p) [e, e2] [] pos) (iZipM X.K ta) := by
  refine ⟨fun pins s σ H R I h => Call_ (ld_blt I hg hm PyProof.Rows.boot_zip (PyProof.Rows.callWith_type1 (thn (ha.run pos pins s σ H _ I h) fun us s1 ⟨vs, H1, I1, r1, a, b, xs, ys, ex, qx, qy, q⟩ => ?_) hs hp))⟩
  subst ex
  obtain ⟨u1, u2, rfl, r1, r2⟩ := vals2 r1
  cases (show u1 = Value.ref a from r1); cases (show u2 = Value.ref b from r2)
  obtain ⟨its, rv, p1, _⟩ := I1.list qx
  obtain ⟨its2, rv2, p2, _⟩ := I1.tuple qy
  have low2 : b < s1.heap.objs.size := have ⟨_, v, _⟩ := id p2; Heap.lt_size v
  refine call_zipM p1.isList p2 p1.lt low2 fun h2 Z k2 => wpAny_pyIter_zip Z.zip ?_
  have I2 : Inv X pins σ H1 { s1 with heap := h2 } := I1.kept (t' := s1.toks) k2
  refine ⟨s1.heap.objs.size + 4, [s1.heap.objs.size + 4, s1.heap.objs.size + 2, s1.heap.objs.size + 3, s1.heap.objs.size, s1.heap.objs.size + 1], _, _, H1, rfl, I2, turn_zipM, Z, fun c hc => ?_, q⟩
  have le : s1.heap.objs.size ≤ c := by
    rcases in5 hc with rfl | rfl | rfl | rfl | rfl
    all_goals first | exact Nat.le_refl _ | exact Nat.le_add_right _ _
  exact I1.fpOk le (I1.hok.fresh le)
theorem walk_zipM {K : PySem.W.Frag} {a b : Addr} {xs ys : List V} {n : Nat} (hn : n = min xs.length ys.length) : Walk (ItzM K a b) n (fun H => SqL K H a xs ∧ SqT K H b ys) (YPair (fun i => xs[i]?) (fun i => ys[i]?)) where
  goes := fun i _ hi hq => ⟨xs, ys, _, _, hq.1, hq.2, List.getElem?_eq_getElem (show i < xs.length by omega), List.getElem?_eq_getElem (show i < ys.length by omega)⟩
  stops := fun _ hq => ⟨xs, ys, hq.1, hq.2, by omega⟩
  yields := fun _ _ _ _ _ hq ⟨T, c, d, e1, e2, e3, e4, e5⟩ => ⟨T, c, d, e1, e2, e3, e4 xs hq.1, e5 ys hq.2⟩

/-! len(set(texts)); list(text). -/
/-- each text once -/
def onceS : List Str → List Str → List Str
  | acc, [] => acc
  | acc, x :: xs => onceS (if x ∈ acc then acc else acc ++ [x]) xs
def dcount (xs : List Str) : Nat := (onceS [] xs).length
theorem onceS_snoc (x : Str) : ∀ (xs acc : List Str), onceS acc (xs ++ [x]) = (if x ∈ onceS acc xs then onceS acc xs else onceS acc xs ++ [x])
  | [], _ => rfl
  | y :: ys, acc => onceS_snoc x ys _
theorem mem_onceS (x : Str) : ∀ (xs acc : List Str), x ∈ onceS acc xs ↔ x ∈ acc ∨ x ∈ xs
  | [], acc => by simp [onceS]
  | y :: ys, acc => by
    show x ∈ onceS (if y ∈ acc then acc else acc ++ [y]) ys ↔ _
    rw [mem_onceS x ys]
    by_cases h : y ∈ acc
    · rw [if_pos h, List.mem_cons]
      exact ⟨fun z => z.imp_right .inr, fun z => z.elim .inl fun z => z.elim (fun e => .inl (e ▸ h)) .inr⟩
    · rw [if_neg h, List.mem_append, List.mem_singleton, List.mem_cons, or_assoc]
theorem dcount_snoc (xs : List Str) (x : Str) : dcount (xs ++ [x]) = if x ∈ xs then dcount xs else dcount xs + 1 := by
  unfold dcount
  rw [onceS_snoc]
  have m : x ∈ onceS [] xs ↔ x ∈ xs := (mem_onceS x xs []).trans ⟨fun z => z.elim (fun y => nomatch y) id, .inr⟩
  by_cases h : x ∈ xs
  · rw [if_pos h, if_pos (m.mpr h)]
  · rw [if_neg h, if_neg fun z => h (m.mp z), List.length_append]
    rfl
theorem onceS_le : ∀ xs acc : List Str, (onceS acc xs).length ≤ acc.length + xs.length
  | [], _ => Nat.le_refl _
  | y :: ys, acc => by
    refine Nat.le_trans (onceS_le ys _) ?_
    rw [List.length_cons]
    split
    · omega
    · rw [List.length_append]; rw [List.length_singleton]; omega
theorem dcount_le (xs : List Str) : dcount xs ≤ xs.length := Nat.le_trans (onceS_le xs []) (by simp)
theorem onceS_nodup : ∀ xs acc : List Str, (acc ++ xs).Nodup → onceS acc xs = acc ++ xs
  | [], acc, _ => (List.append_nil acc).symm
  | y :: ys, acc, h => by
    have h2 : y ∉ acc := fun z => (List.nodup_append.mp h).2.2 y z y (List.mem_cons_self ..) rfl
    show onceS (if y ∈ acc then acc else acc ++ [y]) ys = _
    rw [if_neg h2, onceS_nodup ys (acc ++ [y]) (by rw [List.append_assoc]; exact h), List.append_assoc]
    rfl
theorem dcount_nodup {xs : List Str} (h : xs.Nodup) : dcount xs = xs.length := by
  unfold dcount
  rw [onceS_nodup xs [] h]
  rfl
section
variable {P : Program} {w : World} {A : Around} {R : Result → Shared → Prop} {I : Addr} {fp wr : List Addr} {G : Array GenState → Array GenState → Prop} {n : Nat} {Pv : Nat → Value → Prop} {St : Nat → Shared → Prop}
/-- the set at S has the texts xs -/
abbrev HasS (P : Program) (w : World) (h : Heap) (S : Addr) (xs : List Str) : Prop := h.SetOf (PySem.strKind P w) S (fun y => decide (y ∈ xs)) (dcount xs)
theorem HasS.at {h h2 : Heap} {S : Addr} {xs : List Str} (x : HasS P w h S xs) (k : ∀ o, h.get? S = some o → h2.get? S = some o) : HasS P w h2 S xs := have ⟨o, es, ep, t, ho, r⟩ := x; ⟨o, es, ep, t, k o ho, r⟩
theorem fill_strs (W : WalksS P w A.in1 I fp wr G n Pv St) (S : Addr) (out : S ∉ fp) (xs : List Str) (hn : xs.length = n) (few : n + 1 < scanBound) (val : ∀ i v, i < n → Pv i v → ∃ t x, xs[i]? = some x ∧ v = .str x t) :
    ∀ (k i : Nat) (s : Shared), n - i = k → i ≤ n → St i s → HasS P w s.heap S (xs.take i) → (∀ s2, Moved (S :: wr) G s s2 → HasS P w s2.heap S xs → R (.ok (.ret .none)) s2) → codeAny (model P w) A (.builtin "set.update.loop" ⟨[.ref S, .ref I], []⟩) R s := by
  have out2 : S ∉ wr := fun h => out (W.sub _ h)
  have more : ∀ b ∈ wr, b ∈ S :: wr := fun b hb => List.mem_cons_of_mem _ hb
  intro k
  induction k with
  | zero =>
    intro i s hk hi st has q
    obtain rfl : i = n := by omega
    apply codeAny_builtin PyProof.Rows.F.entry_set_update_loop
    rw [Around.under_plainId PyProof.Rows.F.plain_set_update_loop _]; refine wpAny_bind (W.done s _ _ st fun s2 hm => wpAny_pure (q s2 (hm.mono more) ?_))
    rw [← hn, List.take_length] at has
    exact has.at fun o ho => hm.heap S o out2 ho
  | succ k ih =>
    intro i s hk hi st has q
    have lt : i < n := by omega
    apply codeAny_builtin PyProof.Rows.F.entry_set_update_loop
    rw [Around.under_plainId PyProof.Rows.F.plain_set_update_loop _]; refine wpAny_bind (W.item i s _ _ lt st fun v s2 hv st2 hm => ?_)
    obtain ⟨t, x, hx, rfl⟩ := val i v lt hv
    have has2 : HasS P w s2.heap S (xs.take i) := has.at fun o ho => hm.heap S o out2 ho
    show wpAny _ A.in1 (holding [Value.str x t] (setAdd S (.str x t)) >>= _) _ _ s2
    unfold setAdd
    refine wpAny_bind (wpAny_holding (wpAny_holding (wpAny_bind ((PySem.strKind P w).pyHash (k := x) (strKind_is _ _ _ _) ?_))))
    have room : dcount (xs.take i) + 1 < scanBound := by
      have := dcount_le (xs.take i)
      rw [List.length_take] at this
      omega
    refine wpAny_setAddHashed_of (knd := PySem.strKind P w) (s := { s2 with toks := s2.toks + 1 }) (strKind_is _ _ _ _) rfl has2 room fun h3 sb has3 => ?_
    have tk : xs.take (i + 1) = xs.take i ++ [x] := by rw [List.take_add_one, hx]; rfl
    have has4 : HasS P w h3 S (xs.take (i + 1)) := by
      refine SetOf_congr has3 (fun y => ?_) ?_
      · rw [tk, ← Bool.decide_or]
        exact decide_eq_decide.mpr (by rw [List.mem_append, List.mem_singleton])
      · rw [tk, dcount_snoc]
        by_cases h : x ∈ xs.take i
        · rw [if_pos h, if_pos (decide_eq_true h)]
        · rw [if_neg h, if_neg (by simp [h])]
    have ne : ∀ b, b ∈ fp → b ≠ S := fun b hb h => out (h ▸ hb)
    refine wpAny_pure ⟨plainId_quiet PyProof.Rows.F.plain_set_update_loop _, ih (i + 1) _ (by omega) lt (W.frame _ s2 _ _ st2 (Nat.le_succ _) fun b hb o e => ?_) has4 fun s5 hm5 has5 => q s5 ?_ has5⟩
    · rw [sb.2 b (ne b hb)]; exact e
    · refine Moved.trans W.gtrans ((hm.mono more).then_heap (Nat.le_succ _) fun b o hb e => ?_) hm5
      rw [sb.2 b fun h => hb (by rw [h]; exact List.mem_cons_self ..)]
      exact e
end
section
variable {s : Shared} {w : World} {P : Program} {A : Around} {E : Value → Shared → Prop}
abbrev bareL (led : Bool) : Obj := { cls := .type "set", dict := none, data := .set #[] 0 (.fresh 0 0 led) }
/-- the heap and the tokens alone changed, all that stood stays -/
def GrownS (s s2 : Shared) (R : Heap → Prop) : Prop := ∃ h2 t2, s2 = { s with heap := h2, toks := t2 } ∧ R h2 ∧ ∀ b o, s.heap.get? b = some o → h2.get? b = some o
theorem sub_tup_set : isSubtype (.type "tuple") (.type "set") = pure false := by rw [isSubtype_type]; kernel_rfl
theorem sub_tup_fset : isSubtype (.type "tuple") (.type "frozenset") = pure false := by rw [isSubtype_type]; kernel_rfl
theorem init_strs {l : Addr} {vs : Array Value} {led : Bool} (xs : List Str) (calm : A.handled = none) (seq : s.heap.IsList l vs ∨ s.heap.IsTuple l vs) (isS : StrsAre vs.toList xs) (few : xs.length + 1 < scanBound) :
    codeAny (model P w) A (.call (.builtin "set.__init__") ⟨[.ref s.heap.objs.size, .ref l], []⟩) (wants (fun r s2 => r = .none ∧ GrownS s s2 fun h2 => HasS P w h2 s.heap.objs.size xs) E) { s with heap := s.heap.push (bareL led) } := by
  have size : xs.length = vs.size := by rw [← StrsAre.len_eq isS, Array.length_toList]
  have stands : (s.heap.push (bareL led)).get? s.heap.objs.size = some (bareL led) := Heap.get?_push_size _ rfl
  have typed : Shared.TypeIs { s with heap := s.heap.push (bareL led) } (.ref s.heap.objs.size) "set" := ⟨_, stands, rfl⟩
  apply codeAny_call_builtin F.called_set.init.plain F.entry_set_init (check_set_init_1 typed ?_)
  have low : l < s.heap.objs.size := seq.elim (fun ⟨_, e, _⟩ => Heap.lt_size e) fun ⟨_, e, _⟩ => Heap.lt_size e
  have new : (s.heap.push (bareL led)).objs.size = s.heap.objs.size + 1 := Heap.size_push ..
  have ne : l ≠ (s.heap.push (bareL led)).objs.size := by rw [new]; exact Nat.ne_of_lt (Nat.lt_succ_of_lt low)
  have two : ∀ {b : Addr}, b < s.heap.objs.size → b ∉ [s.heap.objs.size, (s.heap.push (bareL led)).objs.size] := fun hb z => by
    rw [new] at z; rcases List.mem_cons.mp z with z | z
    · exact absurd z (Nat.ne_of_lt hb)
    · exact absurd (List.mem_singleton.mp z) (Nat.ne_of_lt (Nat.lt_succ_of_lt hb))
  have apart : s.heap.objs.size ∉ [(s.heap.push (bareL led)).objs.size, l] := fun z => by
    rw [new] at z; rcases List.mem_cons.mp z with z | z
    · exact absurd z (Nat.ne_of_lt (Nat.lt_succ_self _))
    · exact absurd (List.mem_singleton.mp z) (Nat.ne_of_gt low)
  have val : ∀ (i : Nat) (v : Value), i < vs.size → vs[i]? = some v → ∃ t x, xs[i]? = some x ∧ v = .str x t := fun i v hi hv => by
    obtain ⟨t, e⟩ := SS.strs_at isS i v (by rw [Array.getElem?_toList]; exact hv)
    have hl : i < xs.length := by omega
    refine ⟨t, xs[i], List.getElem?_eq_getElem hl, ?_⟩
    rw [e, List.getD_eq_getElem?_getD, List.getElem?_eq_getElem hl]
    rfl
  have hasZ : ∀ o : Obj, HasS P w ((s.heap.push (bareL led)).push o) s.heap.objs.size (xs.take 0) := fun o =>
    SetOf_congr ((setObjOf_fresh (knd := PySem.strKind P w) led).setOf (Heap.get?_push_of_some _ stands) (by unfold scanBound; omega)) (fun _ => rfl) rfl
  have done : ∀ {wr : List Addr} {G : Array GenState → Array GenState → Prop} (o : Obj) (s3 : Shared), (∀ b, b < s.heap.objs.size → b ∉ s.heap.objs.size :: wr) → (∀ a b, G a b → b = a) → Moved (s.heap.objs.size :: wr) (fun a b => b = a) { s with heap := (s.heap.push (bareL led)).push o } s3 → HasS P w s3.heap s.heap.objs.size xs →
      GrownS s s3 fun h2 => HasS P w h2 s.heap.objs.size xs := fun {wr G} o s3 hw _ hm has => by
    obtain ⟨h3, g3, d3, t3, o3⟩ := s3
    cases (hm.gens : g3 = s.gens)
    cases (hm.drawn : d3 = s.drawn)
    cases (hm.os : o3 = s.os)
    exact ⟨h3, t3, rfl, has, fun b u e => hm.heap b u (hw b (Heap.lt_size e)) (Heap.get?_push_of_some _ (Heap.get?_push_of_some _ e))⟩
  unfold Builtin.«set.__init__»
  unfold noKeywords
  unfold Builtin.Frozenset.updateFrom
  generalize gen : pyIter = PI
  rcases seq with hl | hl
  · have hl1 := hl.push (bareL led)
    have ⟨ob, e0, e1, n0, e2⟩ := hl1
    obtain ⟨k1, k2, k3, k4⟩ := ob
    simp only at e1 e2
    subst e1 e2
    have t1 := F.sub_list_set
    have t2 := F.sub_list_frozenset
    have t3 : (Value.type "list" == Value.type "dict") = false := rfl
    wp_walk
    subst gen
    apply wpAny_pyIter_list hl1
    apply wpAny_bind
    apply wpAny_runValue
    apply fill_strs (Walks.list (by simp [calm]) _ l ne vs).toS s.heap.objs.size apart xs size (by omega) val (vs.size - 0) 0 _ (by omega) (Nat.zero_le _) ⟨⟨_, Heap.get?_push_size _ rfl, rfl, rfl⟩, hl1.push _⟩ (hasZ _)
    intro s3 hm has
    apply wpAny_pure
    apply wpAny_pure
    exact ⟨rfl, done (G := fun a b => b = a) _ s3 (fun b hb => two hb) (fun _ _ z => z) hm has⟩
  · have hl1 := hl.push (bareL led)
    have ⟨ob, e0, e1, n0, e2⟩ := hl1
    obtain ⟨k1, k2, k3, k4⟩ := ob
    simp only at e1 e2
    subst e1 e2
    have t1 := sub_tup_set
    have t2 := sub_tup_fset
    have t3 : (Value.type "tuple" == Value.type "dict") = false := rfl
    wp_walk
    subst gen
    apply wpAny_pyIter_tuple hl1
    apply wpAny_bind
    apply wpAny_runValue
    apply fill_strs (Walks.tuple (by simp [calm]) _ l ne vs).toS s.heap.objs.size apart xs size (by omega) val (vs.size - 0) 0 _ (by omega) (Nat.zero_le _) ⟨⟨_, Heap.get?_push_size _ rfl, rfl, rfl⟩, hl1.push _⟩ (hasZ _)
    intro s3 hm has
    apply wpAny_pure
    apply wpAny_pure
    exact ⟨rfl, done (G := fun a b => b = a) _ s3 (fun b hb => two hb) (fun _ _ z => z) hm has⟩
/-- set(xs), xs texts -/
theorem set_of_strs {l : Addr} {vs : Array Value} (xs : List Str) {Q : Value → Shared → Prop} (calm : A.handled = none) (seq : s.heap.IsList l vs ∨ s.heap.IsTuple l vs) (isS : StrsAre vs.toList xs) (few : xs.length + 1 < scanBound)
    (q : ∀ (h2 : Heap) (t2 : Nat), HasS P w h2 s.heap.objs.size xs → (∀ b o, s.heap.get? b = some o → h2.get? b = some o) → Q (.ref s.heap.objs.size) { s with heap := h2, toks := t2 }) : wpAny (model P w) A (call (.type "set") [.ref l]) Q E s := by
  have ⟨_, _, line⟩ := F.called_set.mro
  have b1 := F.called_set.made
  have b2 := F.called_set.sub
  have b3 := F.called_set.notType
  have b4 := F.called_set.canCreate
  have b5 := F.typeCall_set_1 (.ref l)
  apply wpAny_call
  apply codeAny_of_tree
  change wpAny _ _ (callAny (.type "set") _) _ _ _
  apply wpAny_pure
  refine ⟨Code.quiet_builtin _ (by decide +kernel), ?_⟩
  apply codeAny_builtin F.entry_type_call
  rewrite [Around.under_plain (weight_type_call_type "set" [.ref l] []) rfl]
  repeat any_goals first | assumption | wp_step
  apply codeAny_mono (code_set_new_1 (.ref l) (E := E) (Q₁ := fun ob s2 => ∃ led, ob = .ref s.heap.objs.size ∧ s2 = { s with heap := s.heap.push (bareL led) }) fun led => ⟨led, rfl, rfl⟩)
  intro r s2 hr
  match r, hr with
  | .error _, hr => exact hr
  | .ok (.ret ob), hr =>
    obtain ⟨led, e1, e2⟩ := hr
    subst e1 e2
    have stands : (s.heap.push (bareL led)).get? s.heap.objs.size = some (bareL led) := Heap.get?_push_size _ rfl
    have typed : Shared.TypeIs { s with heap := s.heap.push (bareL led) } (.ref s.heap.objs.size) "set" := ⟨_, stands, rfl⟩
    have c1 := F.called_set.init.lookup
    have c2 := F.called_set.init.bind (.ref s.heap.objs.size)
    repeat any_goals first | assumption | wp_step
    apply codeAny_mono (init_strs xs (E := E) (by simp [calm]) seq isS few)
    intro r2 s3 hr2
    match r2, hr2 with
    | .error _, hr2 => exact hr2
    | .ok (.ret ob2), hr2 =>
      obtain ⟨e3, h2, t2, e4, has, hk⟩ := hr2
      subst e3 e4
      repeat any_goals first | assumption | wp_step
      exact q h2 t2 has hk
end
section
variable {X : Cx}
/-- len(set(e)), e texts -/
def tLenSetS (K : PySem.W.Frag) (ta : TE) : TE := fun σ H Q => ta σ H fun x H1 => ∃ l, ∃ xs : List Str, x = .ref l ∧ (SqL K H1 l (xs.map V.str) ∨ SqT K H1 l (xs.map V.str)) ∧ xs.length < 60 ∧ Q (.int (dcount xs)) H1
theorem few60 {n : Nat} (h : n < 60) : n + 1 < scanBound := by unfold scanBound; omega
theorem pe_lenSetS {a : Expr} {ta : TE} {p p2 q pos : Pos} (hc : X.calm = true) (hg : Gl X "len") (hm : X.mg "len" = none) (hg2 : Gl X "set") (hm2 : X.mg "set" = none) (ha : PE X a ta)
    (na : starEach [a] X.env = (false, eval a X.env) :: starEach [] X.env := by rfl) : PE X (.Call (.Name "len" p) [.Call (.Name "set" p2) [a] [] q] [] pos) (tLenSetS X.K ta) := by
  refine ⟨fun pins s σ H Q I h => Call_ (ld_blt I hg hm boot_len (PyProof.Rows.callWith_builtin1 (PyProof.Rows.args_cons ?_ rfl) rfl rfl))⟩
  refine Call_ (ld_blt I hg2 hm2 boot_set (PyProof.Rows.callWith_type1 (PyProof.Rows.args_cons (thn (ha.run pins s σ H _ I h) fun v s1 ⟨x, H1, I1, r1, l, xs, ex, hq, few, q1⟩ => PyProof.Rows.args_nil ?_) na) na rfl))
  subst ex; cases (show v = Value.ref l from r1)
  have fin : ∀ (h2 : Heap) (tk : Nat), HasS X.prog X.w h2 s1.heap.objs.size xs → (∀ b o, s1.heap.get? b = some o → h2.get? b = some o) →
      wpAny (model X.prog X.w) X.A (spliced (backTo pos (starEach [] X.env))) (fun vs s2 => wpAny (model X.prog X.w) X.A (call (.builtin "len") (Value.ref s1.heap.objs.size :: vs)) (EP X pins σ Q) X.xe s2) X.xe { s1 with heap := h2, toks := tk } := fun h2 tk has hk => by
    obtain ⟨o, es, ep, t, ho, hex, hd, _, _, _, hf, hn⟩ := has
    have I2 : Inv X pins σ H1 { s1 with heap := h2, toks := tk } := I1.kept hk
    have small := dcount_le xs
    refine PyProof.Rows.args_nil (call_len_set ho hex hd hf (by rw [hn]; have : sizeLine = 16777216 := sizeLine_eq; omega) ⟨.int (dcount xs), H1, I2.tok _, ⟨_, by rw [hn]⟩, q1⟩)
  rcases hq with hq | hq
  · obtain ⟨its, r, pl, _⟩ := I1.list hq
    exact set_of_strs xs (I1.ok.hd hc) (.inl pl.isList) (by simpa using strsAre_of r) (few60 few) fin
  · obtain ⟨its, r, pl, _⟩ := I1.tuple hq
    exact set_of_strs xs (I1.ok.hd hc) (.inr pl) (by simpa using strsAre_of r) (few60 few) fin
theorem vals_at : ∀ (xs : List V) (us : List Value), xs.length = us.length → (∀ (i : Nat) (x : V) (u : Value), xs[i]? = some x → us[i]? = some u → RelV x u) → Vals xs us
  | [], [], _, _ => .nil
  | x :: xs, u :: us, h, r => .cons (r 0 x u rfl rfl) (vals_at xs us (Nat.succ.inj h) fun i y v hy hv => r (i + 1) y v hy hv)
/-- list(z), z a text -/
def gListS : List V → Hp → VK → Prop := fun xs H Q => ∃ z : Str, xs = [.str z] ∧ z.length ≤ sizeLine ∧ ∀ p, H p = none → Q (.ref p) (upd H p (.lst (z.cps.toList.map fun c => .str ⟨#[c]⟩)))
theorem cg_listS (hc : X.calm = true) : CallR X (.type "list") gListS := by
  rintro pins s σ H xs us Q I r ⟨z, rfl, hz, q⟩
  obtain ⟨u, rfl, t, rfl⟩ := vals1 r; refine call_list_str (I.ok.hd hc) z t (fun h2 tk acc c kp stands items => ?_) hz
  have r2 : Vals (z.cps.toList.map fun c => V.str ⟨#[c]⟩) acc.toList := by
    refine vals_at _ _ (by rw [List.length_map, Array.length_toList, Array.length_toList, items.1]) fun i x v hx hv => ?_
    rw [Array.getElem?_toList] at hv
    obtain ⟨c, tk2, hc2, rfl⟩ := items.2 i v hv
    rw [List.getElem?_map, Array.getElem?_toList, hc2] at hx
    cases hx
    exact ⟨tk2, rfl⟩
  have len : (z.cps.toList.map fun c => V.str ⟨#[c]⟩).length ≤ sizeLine := by rw [List.length_map, Array.length_toList]; exact hz
  exact ⟨.ref s.heap.objs.size, _, I.laid (t' := tk) kp (Nat.le_refl _) (show ObjOk X.prog X.w _ h2 _ (.lst _) from ⟨len, acc.toList, c, r2, stands⟩), rfl, q _ (I.hok.fresh (Nat.le_refl _))⟩
end

/-! Readings with a stronger promise behind them; the empty text's join. -/
section
variable {X : Cx}
/-- with a stronger promise behind it -/
def tUp (te : TE) : TE := fun σ H Q => ∃ Q2 : VK, te σ H Q2 ∧ ∀ x H1, Q2 x H1 → Q x H1
theorem pe_up {e : Expr} {te : TE} (h : PE X e te) : PE X e (tUp te) := by
  constructor
  rintro pins s σ H Q hI ⟨Q2, hq, imp⟩
  exact thn (h.run pins s σ H Q2 hI hq) fun v s1 ⟨x, H1, hI1, hr, q⟩ => ⟨x, H1, hI1, hr, imp x H1 q⟩
theorem pe_weak {e : Expr} {t t2 : TE} (h : PE X e t) (imp : ∀ σ H Q, t2 σ H Q → t σ H Q) : PE X e t2 := ⟨fun pins s σ H Q hI hq => h.run pins s σ H Q hI (imp σ H Q hq)⟩
/-- "".join(xs) -/
def JoinG (K : PySem.W.Frag) (x : V) (H : Hp) (Q : VK) : Prop := ∃ (p : Addr) (ys : List Str), x = .ref p ∧ SqL K H p (ys.map V.str) ∧ (ys.map (·.length)).sum ≤ 1000000 ∧ Q (.str (Txt.join "" ys)) H
def tJoin0 (K : PySem.W.Frag) (te : TE) : TE := fun σ H Q => te σ H fun x H1 => JoinG K x H1 Q
theorem rd_join {K : PySem.W.Frag} {te : TE} {σ : L2.St} {H : Hp} {Q : VK} (q : te σ H fun x H1 => JoinG K x H1 Q) : tJoin0 K te σ H Q := q
theorem pe_join0 {e : Expr} {te : TE} {k : Nat} {p0 apos pos : Pos} (he : PE X e te)
    (hs : starEach [e] X.env = [(false, eval e X.env)] := by rfl)
    (hbase : attributeBase (.Constant (.str "") k p0) "join" X.env (eval (.Constant (.str "") k p0) X.env) = eval (.Constant (.str "") k p0) X.env := by rfl)
    (hline : (apos.endLine == pos.line) = true := by rfl) :
    PE X (.Call (.Attribute (.Constant (.str "") k p0) "join" apos) [e] [] pos) (tJoin0 X.K te) := by
  refine pe_weak (pe_join pe_str (pe_up he) hs hbase hline) fun σ H Q h => ⟨⟨_, rfl⟩, _, h, ?_⟩
  rintro x H1 ⟨p, ys, rfl, hs, hl, q⟩
  refine ⟨"", p, ys, rfl, rfl, .inl hs, ?_, q⟩
  rw [show ("" : Str).length = 0 from rfl, Nat.mul_zero]
  omega
end

/-! Classes of the program: their addresses, calls of methods, properties, staticmethods; what is never reached. -/
/-- a statement that is never reached -/
def tNo : TS := fun _ _ _ => False
theorem ps_no {X : Cx} {st : Stmt} : PS X st tNo := ⟨fun _ _ _ _ _ _ h => h.elim⟩
theorem pss_no {X : Cx} {st : List Stmt} : PSs X st tNo := ⟨fun _ _ _ _ _ _ h => h.elim⟩
/-- what a name of the module holds -/
def cls_at (K : PySem.W.Frag) (x : Str) : Addr := match PySem.W.nsIn K mainGlobals x with
  | some (some (.ref a)) => a
  | _ => 0
theorem cls_at_of {K : PySem.W.Frag} {x : Str} {a : Addr} (h : PySem.W.nsIn K mainGlobals x = some (some (.ref a))) : cls_at K x = a := by
  unfold cls_at
  rw [h]
/-- a method that is a property -/
structure Prp (P : Program) (w : World) (K : PySem.W.Frag) (mg : Str → Option Value) (base : Heap) (k : Nat) (C : Addr) (f : Str) (sp : Sp) : Prop where
  ex : ∃ (p g : Addr) (fd : FuncData) (ps : List Str), Cls K C ∧ PropOf K C f p g ∧ FnOk P w K mg base C8.CX0 k g fd ps sp ∧ Binds K fd ps []
/-- a class that may be made by its name, sp being what its __init__ keeps -/
structure MakR (P : Program) (w : World) (K : PySem.W.Frag) (mg : Str → Option Value) (base : Heap) (k : Nat) (x : Str) (C : Addr) (sp : Sp) : Prop where
  ex : ∃ f : Addr, Mk K C f ∧ FnR P w K mg base C8.CX0 k f sp ∧ mg x = some (.ref C)
/-- a staticmethod of the class at C -/
structure Sta (P : Program) (w : World) (K : PySem.W.Frag) (mg : Str → Option Value) (base : Heap) (k : Nat) (C : Addr) (m : Str) (sp : Sp) : Prop where
  ex : ∃ (mc : Value) (p g : Addr), ClX.CRead K C mc ∧ PySem.W.findCls K (.ref C) mc m = some (.get (.builtin "staticmethod.__get__") (.ref p) .none (.ref C)) ∧ (∃ rest, PySem.W.recIn K p "staticmethod" = some (.ref g :: rest)) ∧ PySem.W.keepIn K (.ref g) = true ∧ FnR P w K mg base C8.CX0 k g sp
section
variable {X : Cx} {k j : Nat} {C : Addr} {x m f : Str} {sp : Sp} {p pos apos : Pos} {e o : Expr} {es : List Expr} {ta : TE} {t : TA}
/-- o.f, a property -/
theorem pe_pr (c : Prp X.prog X.w X.K X.mg X.base k C f sp) (hr : Room j X.A) (hk : k + 1 ≤ j) (he : PE X e ta) (hb : attributeBase e f X.env (eval e X.env) = eval e X.env) : PE X (.Attribute e f pos) (tProp C sp [] C8.E0 ta) := by
  obtain ⟨p, g, fd, ps, hc, hp, F, b⟩ := c.ex
  exact pe_prop he hc hp F (hr.mono hk) b .nil C8.pass0 hb
/-- C(e, ..) -/
theorem pe_mkR (c : MakR X.prog X.w X.K X.mg X.base k x C sp) (hr : Room j X.A) (hk : k + 1 ≤ j) (hg : Gl X x) (ha : PA X (e :: es) t) (hdb : (x == ("__debug__" : Str)) = false := by decide)
    (he : starEach (e :: es) X.env = (false, eval e X.env) :: starEach es X.env := by rfl) (hpl : (backTo pos (starEach es X.env)).any (·.1) = false := by rfl) : PE X (.Call (.Name x p) (e :: es) [] pos) (StX.tMakeR C sp C8.E0 t) := by
  obtain ⟨f, M, F, hm⟩ := c.ex
  exact StX.pe_makeR M F (hr.mono hk) hg hm C8.pass0 ha hdb he hpl
/-- C(e, .., *es) -/
theorem pe_mkS (c : MakR X.prog X.w X.K X.mg X.base k x C sp) (hr : Room j X.A) (hk : k + 1 ≤ j) (hg : Gl X x) (ha : PA X (e :: es) t) (hdb : (x == ("__debug__" : Str)) = false := by decide)
    (he : starEach (e :: es) X.env = (false, eval e X.env) :: starEach es X.env := by rfl) (hst : (backTo pos (starEach es X.env)).any (·.1) = true := by rfl) : PE X (.Call (.Name x p) (e :: es) [] pos) (StX.tMakeR C sp C8.E0 t) := by
  obtain ⟨f, M, F, hm⟩ := c.ex
  refine ⟨fun pins s σ H Q I h => wpAny_Call_Name_kw (ld_glob I hg hm ?_ hdb)⟩
  exact PySem.W.callWith_S2 (h₀ := X.base) I.ok.mod.kin M.kp (thn (ha.run pos pins s σ H _ I h) fun us s1 ⟨vs, H1, I1, r, q⟩ => ⟨I1.kIn, StX.run_makeR M F (hr.mono hk) C8.pass0 I1 r q⟩) he hst
/-- C.m(e, ..), m a staticmethod -/
def tStc (C : Addr) (sp : Sp) (ta : TE) (t : TA) : TE := fun σ H Q => ta σ H fun x H1 => x = .ref C ∧ t σ H1 fun vs H2 => sp vs H2 Q C8.E0
theorem pe_st {pl : Sem Bool} (c : Sta X.prog X.w X.K X.mg X.base k C m sp) (hr : Room j X.A) (hk : k ≤ j) (he : PE X o ta) (ha : PA X (e :: es) t) (hst : starEach (e :: es) X.env = (false, eval e X.env) :: starEach es X.env := by rfl) (hpl : (backTo pos (starEach es X.env)).any (·.1) = false := by rfl)
    (ht : eval (.Call (.Attribute o m apos) (e :: es) [] pos) X.env = (do let ov ← eval o X.env; standAt apos.atName; let (f, first) ← holding [ov] (getMethod ov m pl); callWith pos f first (backTo pos (starEach (e :: es) X.env)) (backToKw pos (keywordEach [] X.env))) := by rfl) :
    PE X (.Call (.Attribute o m apos) (e :: es) [] pos) (tStc C sp ta t) := by
  obtain ⟨mc, p, g, r, at_, ⟨rest, hp⟩, kp, F⟩ := c.ex
  refine ⟨fun pins s σ H Q I h => PySem.W.methodCall_KW (pl := pl) (thn (he.run pins s σ H _ I h) fun u s1 ⟨x, H1, I1, rx, ex, q⟩ => ?_) ht⟩
  subst ex
  cases (show u = Value.ref C from rx)
  have I2 := I1.tok (s1.toks + 1)
  refine PySem.W.method_cls I1.kIn r.ga (PySem.W.cls_bind I1.kIn r.rd at_ (wpAny_call (PySem.W.sm_get (s := { s1 with toks := s1.toks + 1 }) I1.kIn hp (PySem.W.handed_on rfl ?_))))
  refine PySem.W.callWith_K (h₀ := X.base) I2.ok.mod.kin kp (thn (ha.run pos pins _ σ H1 _ I2 q) fun us s2 ⟨vs, H2, I3, rv, q2⟩ => ⟨I3.kIn, ?_⟩) hst hpl
  exact wpAny_call (run_fnR F (hr.mono hk) C8.pass0 I3 rv q2)
end
/-! ### short readings -/
def tFs (ts : List TE) : TE := fun σ H Q => tJs ts Str.empty σ H fun out H1 => Q (.str out) H1
def rPart : V → List V → Hp → VK → Prop := fun x xs H Q => ∃ a b, x = .str a ∧ xs = [.str b] ∧ (b.length == 0) = false ∧ a.length ≤ sizeLine ∧ ∀ p, H p = none → Q (.ref p) (upd H p (.tup [.str (Txt.partition a b).1, .str (Txt.partition a b).2.1, .str (Txt.partition a b).2.2]))
def rSplit : V → List V → Hp → VK → Prop := fun x xs H Q => ∃ a b, x = .str a ∧ xs = [.str b] ∧ (b.length == 0) = false ∧ a.length + 2 ≤ sizeLine ∧ rNewStrs (Txt.split a b) H Q
def rTupIx (K : PySem.W.Frag) : V → List V → Hp → VK → Prop := fun x xs H Q => ∃ p, ∃ ys : List Str, ∃ z j, x = .ref p ∧ xs = [.str z] ∧ SqT K H p (ys.map V.str) ∧ ys[j]? = some z ∧ (∀ m, m < j → ys[m]? ≠ some z) ∧ Q (.int (j : Nat)) H
/-- a class whose instances are read -/
structure InsK (K : PySem.W.Frag) (C : Addr) : Prop where
  cl : Cls K C
  (ha : PySem.W.findIn K (.ref C) "__class__" = some (some (.builtin "object.__class__"))) (hn : PySem.W.specialIn K (.builtin "object.__class__") "__get__" = some (some (.builtin "getset_descriptor.__get__")))
  (ht : PySem.W.takesIn K (.builtin "object.__class__") = some true) (hm : PySem.W.mroIn K C (.type "object") = some true)
class SchK (K : PySem.W.Frag) : Prop where
  ins : InsK K (cls_at K "Schema")
  nF : NoAttr K (cls_at K "Schema") "fields"
  nL : NoAttr K (cls_at K "Schema") "_lists"
/-- "..".join(xs) -/
def JoinS (K : PySem.W.Frag) (z : Str) (x : V) (H : Hp) (Q : VK) : Prop := ∃ (p : Addr) (ys : List Str), x = .ref p ∧ SqL K H p (ys.map V.str) ∧ (ys.map (·.length)).sum + ys.length * z.length ≤ 1000000 ∧ Q (.str (Txt.join z ys)) H
def tJoinS (K : PySem.W.Frag) (z : Str) (te : TE) : TE := fun σ H Q => te σ H fun x H1 => JoinS K z x H1 Q
theorem rd_joinS {K : PySem.W.Frag} {z : Str} {te : TE} {σ : L2.St} {H : Hp} {Q : VK} (q : te σ H fun x H1 => JoinS K z x H1 Q) : tJoinS K z te σ H Q := q
theorem pe_joinS {X : Cx} {z : Str} {e : Expr} {te : TE} {k : Nat} {p0 apos pos : Pos} (he : PE X e te)
    (hs : starEach [e] X.env = [(false, eval e X.env)] := by rfl)
    (hbase : attributeBase (.Constant (.str z) k p0) "join" X.env (eval (.Constant (.str z) k p0) X.env) = eval (.Constant (.str z) k p0) X.env := by rfl)
    (hline : (apos.endLine == pos.line) = true := by rfl) : PE X (.Call (.Attribute (.Constant (.str z) k p0) "join" apos) [e] [] pos) (tJoinS X.K z te) := by
  refine pe_weak (pe_join pe_str (pe_up he) hs hbase hline) fun σ H Q h => ⟨⟨_, rfl⟩, _, h, ?_⟩
  rintro x H1 ⟨p, ys, rfl, hs, hl, q⟩
  exact ⟨z, p, ys, rfl, rfl, .inl hs, Nat.le_trans hl (by decide), q⟩
/-- what is walked is a list or a tuple -/
def iSeq (K : PySem.W.Frag) (te : TE) : TI := fun σ H R => te σ H fun x H1 => ∃ a, x = .ref a ∧ (((∃ xs, SqL K H1 a xs) ∧ R (Itl K a) H1) ∨ ((∃ xs, SqT K H1 a xs) ∧ R (Itt K a) H1))
theorem pi_seq {X : Cx} {tg l : Expr} {te : TE} (hl : PE X l te) : PI X tg l (iSeq X.K te) := by
  refine ⟨fun pins s σ H R I h => thn (hl.run pins s σ H _ I h) fun v s1 ⟨x, H1, I1, rx, a, ex, q⟩ => ?_⟩
  subst ex; cases (show v = Value.ref a from rx)
  have fr : ∀ b, b ∈ [s1.heap.objs.size] → FpOk X pins H1 b := fun b hb => by
    rw [List.mem_singleton.mp hb]; exact I1.fpOk (Nat.le_refl _) (I1.hok.fresh (Nat.le_refl _))
  rcases q with ⟨⟨xs, hq⟩, q⟩ | ⟨⟨xs, hq⟩, q⟩
  · obtain ⟨its, rv, pl, _⟩ := I1.list hq
    exact wpAny_pyIter_list pl.isList ⟨s1.heap.objs.size, _, _, _, H1, rfl, I1.kept (t' := s1.toks) fun b o e => Heap.get?_push_of_some _ e, turn_list a _, ⟨_, Heap.get?_push_size _ rfl, rfl, rfl⟩, fr, q⟩
  · obtain ⟨its, rv, pl, _⟩ := I1.tuple hq
    exact wpAny_pyIter_tuple (show s1.heap.IsTuple a its.toArray from pl) ⟨s1.heap.objs.size, _, _, _, H1, rfl, I1.kept (t' := s1.toks) fun b o e => Heap.get?_push_of_some _ e, turn_tuple a _, ⟨_, Heap.get?_push_size _ rfl, rfl, rfl⟩, fr, q⟩
/-! ### readings by the head -/
section
variable {K : PySem.W.Frag} {σ : L2.St} {H : Hp} {Q : VK} {D : Ends} {x y v : V} {te tv : TE} {ta tk : TA} {i j l : Nat} {C : Addr} {f m : Str} {sp : Sp} {E : XK} {R : It → Hp → Prop}
theorem rd_fld (q : te σ H fun x H1 => ∃ a C dx fs v, x = .ref a ∧ H1 a = some (.ins C dx fs) ∧ Cls K C ∧ NoAttr K C f ∧ fs.lookup f = some v ∧ Q v H1) : tFld K te f σ H Q := q
theorem rd_sfld (q : tv σ H fun y H1 => te σ H1 fun x H2 => ∃ a C dx fs, x = .ref a ∧ H2 a = some (.ins C dx fs) ∧ Cls K C ∧ NoAttr K C f ∧ fs.length < 1000 ∧ D.nx σ (upd H2 a (.ins C dx (putF f y fs)))) : sFld K te tv f D σ H := q
theorem rd_meth (q : te σ H fun x H1 => ∃ a dx fs, x = .ref a ∧ H1 a = some (.ins C dx fs) ∧ fs.lookup m = none ∧ ta σ H1 fun vs H2 => sp (x :: (vs ++ [])) H2 Q E) : tMeth C m sp [] E te ta σ H Q := q
theorem rd_prop (q : te σ H fun x H1 => ∃ a dx fs, x = .ref a ∧ H1 a = some (.ins C dx fs) ∧ sp (.ref a :: []) H1 Q E) : tProp C sp [] E te σ H Q := q
theorem rd_mkR (q : ta σ H fun vs H1 => ∀ x dx, H1 x = none → H1 dx = none → dx ≠ x → sp (.ref x :: vs) (upd (upd H1 dx (.own x)) x (.ins C dx [])) (fun v H2 => v = .non ∧ Q (.ref x) H2) E) : StX.tMakeR C sp E ta σ H Q := q
theorem rd_stc (q : te σ H fun x H1 => x = .ref C ∧ ta σ H1 fun vs H2 => sp vs H2 Q C8.E0) : tStc C sp te ta σ H Q := q
theorem rd_star {QA : List V → Hp → Prop} (q : te σ H fun x H1 => ∃ p xs, x = V.ref p ∧ (SqT K H1 p xs ∨ SqL K H1 p xs) ∧ ta σ H1 fun ys H2 => QA (xs ++ ys) H2) : StX.tStar K te ta σ H QA := q
theorem rd_lenSetS (q : te σ H fun x H1 => ∃ l, ∃ xs : List Str, x = .ref l ∧ (SqL K H1 l (xs.map V.str) ∨ SqT K H1 l (xs.map V.str)) ∧ xs.length < 60 ∧ Q (.int (dcount xs)) H1) : tLenSetS K te σ H Q := q
theorem rd_sq (q : te σ H fun x H1 => ∃ a, x = .ref a ∧ (((∃ xs, SqL K H1 a xs) ∧ R (Itl K a) H1) ∨ ((∃ xs, SqT K H1 a xs) ∧ R (Itt K a) H1))) : iSeq K te σ H R := q
theorem rd_enumT (q : ta σ H fun vs H1 => ∃ a xs, vs = [.ref a] ∧ SqT K H1 a xs ∧ R (IteT K a) H1) : iEnumT K ta σ H R := q
theorem rd_zipMx (q : ta σ H fun vs H1 => ∃ a b xs ys, vs = [.ref a, .ref b] ∧ SqL K H1 a xs ∧ SqT K H1 b ys ∧ R (ItzM K a b) H1) : iZipM K ta σ H R := q
theorem rd_fs {ts : List TE} (q : tJs ts Str.empty σ H fun out H1 => Q (.str out) H1) : tFs ts σ H Q := q
theorem rd_js {t : TE} {ts : List TE} {acc : Str} {QS : Str → Hp → Prop} (q : t σ H fun x H1 => ∃ y : Str, x = .str y ∧ (acc ++ y).length ≤ sizeLine ∧ tJs ts (acc ++ y) σ H1 QS) : tJs (t :: ts) acc σ H QS := q
theorem rd_js0 {acc : Str} {QS : Str → Hp → Prop} (q : QS acc H) : tJs [] acc σ H QS := q
theorem rd_fmt (q : te σ H fun x H1 => (∃ y : Str, x = .str y ∧ y.length ≤ sizeLine ∧ Q (.str y) H1) ∨ ∃ i : Int, x = .int i ∧ i.natAbs.log2 < 1920 ∧ Q (.str (toString i)) H1) : tFmt te σ H Q := q
end

/-! try: .. except (A, B, C) as n: ..; what an except suite reads of the error; a def called there. -/
/-- e.n, e the error that is handled: at a, of the class cls, its dict at d -/
def tXfA (K : PySem.W.Frag) (a : Addr) (cls : Value) (d : Option Addr) (n : Str) (te : TE) : TE := fun σ H Q => te σ H fun x H1 => x = .ref a ∧
  ∃ (C dd : Addr) (fs : List (Str × V)) (v : V), cls = .ref C ∧ XfC K C ∧ PySem.W.findIn K (.ref C) n = some none ∧ d = some dd ∧ H1 dd = some (.xd fs) ∧ fs.lookup n = some v ∧ Q v H1
section
variable {X : Cx} {a : Addr} {oe : Obj} {cls : Value} {d : Option Addr} {e : Expr} {te : TE} {pos : Pos} {n : Str}
theorem pe_xfA (hp : (a, oe) ∈ X.pn) (hz : Zc cls d oe) (hf : ∃ vs, oe.data = .fields vs) (he : PE X e te) (hb : attributeBase e n X.env (eval e X.env) = eval e X.env := by rfl) : PE X (.Attribute e n pos) (tXfA X.K a cls d n te) := by
  refine ⟨fun pins s σ H Q I h => attr_of hb (thn (he.run pins s σ H _ I h) fun u s1 ⟨x, H1, I1, rx, ex, C, dd, fs, v, ec, T, hno, ed, ea, l, q⟩ => ?_)⟩
  subst ex ec ed; obtain rfl : u = Value.ref a := rx
  have ha := (I1.pin (a, oe) (List.mem_append_left _ hp)).1
  obtain ⟨vs, hd⟩ := hf; obtain ⟨mA, hns, hr⟩ := (show ObjOk X.prog X.w H1 s1.heap dd (.xd fs) from I1.hok dd _ ea)
  obtain ⟨od, ho, hl⟩ := lookIn_ns hns; obtain ⟨u, hu, ru⟩ := RelO.some_of (v := v) (o := mA n) (by rw [← l]; exact hr n); have J : PySem.W.InstAt s1.heap a oe C (some od) := ⟨ha, hz.1, by unfold PySem.W.notCls; rw [hd] <;> rfl, by rw [hz.2]; exact ho⟩; exact HandSPX.exc_get I1.kIn J T.ga T.gg T.exC (PySem.W.findObj_own T.hdC hno rfl (by rw [hl, hu])) (handed_of ru) ⟨v, H1, I1.tok _, ru, q⟩
end
/-! ### a def called while an error is handled -/
structure FnE (P : Program) (w : World) (K : PySem.W.Frag) (mg : Str → Option Value) (base : Heap) (k : Nat) (f : Addr) (fd : FuncData) (ps : List Str) (sp : Addr → Value → Option Addr → Sp) : Prop where
  len : ∀ a cls d vs H Q E, sp a cls d vs H Q E → vs.length = ps.length
  run : ∀ (A : Around) (outer : List Env) (s : Shared) (H : Hp) (args : Args) (us : List Value) (vs : List V) (Q : VK) (p : Addr × Obj) (cls : Value) (d : Option Addr), L2H.RoomH k A → L2H.PinOk outer H s p → Zc cls d p.2 → (∃ vs, p.2.data = .fields vs) → Env0 P w K mg base A outer s H → BindsTo s fd args (ps.zip us) → Vals vs us →
    sp p.1 cls d vs H Q C8.E0 → codeAny (model P w) A (.call (.ref f) args) (CR C8.CX0 outer P w H s Q C8.E0) s
theorem fnE_of {P : Program} {w : World} {K : PySem.W.Frag} {mg : Str → Option Value} {base : Heap} {k : Nat} {f : Addr} {name qual : Str} {params : Arguments} {body : List Stmt} {scope : Scope} {dV kV doc pm cdv ct oc : Value} {an od : Option Addr} {osl : Array (Option Value)} {N ps : List Str} {sp : Addr → Value → Option Addr → Sp}
    (lk : K.lookup f = some ⟨oc, od, .func (PySem.W.fnOf name qual params body scope dV kV doc pm an cdv ct), osl⟩) (hcd : PySem.W.codeIn K cdv qual = true) (S : FnScope N ps scope) (len : ∀ a cls d vs H Q E, sp a cls d vs H Q E → vs.length = ps.length)
    (hbody : ∀ (A : Around) (outer : List Env) (s : Shared) (H : Hp) (vs : List V) (Q : VK) (p : Addr × Obj) (cls : Value) (d : Option Addr), (A.deeper (envOfC qual scope s.heap.objs.size f cdv)).units + 64 < cLine → Zc cls d p.2 → (∃ vs, p.2.data = .fields vs) → sp p.1 cls d vs H Q C8.E0 →
      ∃ t, PSs (L2H.cxH C8.CX0 P w K mg base N qual scope f cdv A outer s H C8.E0 p).nox body t ∧ t { nx := fun _ H' => Q .non H', rt := Q } (L2.start N vs) H) :
    FnE P w K mg base (k + 1) f (PySem.W.fnOf name qual params body scope dV kV doc pm an cdv ct) ps sp := by
  refine ⟨len, fun A outer s H args us vs Q p cls d hr hpin hz hf e0 hb r hsp => ?_⟩
  have hl := len _ _ _ _ _ _ _ hsp; have kin : K.In s.heap := e0.mod.kin.keeps fun b o e => (e0.bs b o e).1
  have nol : s.heap.NoLimit := e0.mod.nolimit.keeps fun b o e => (e0.bs b o e).1
  have kinds : ∀ y ∈ ps.zip us, scope.names.lookup y.1 = some .local ∨ (scope.names.lookup y.1 = some .cell ∧ ((cellsFrom (s.heap.objs.size + 1) scope.names []).lookup y.1).isSome = true) := fun ⟨n, v⟩ hy =>
    (S.par n (List.of_mem_zip hy).1).imp id fun q => ⟨q, PySem.W.cellsFrom_some _ _ _ (.inl q)⟩
  refine codeAny_call_function hr.depth (kin _ _ lk) rfl S.co S.gen rfl (PySem.W.codeRec_of kin hcd) (hb _ _ _ _ (wpAny_newFunctionEnv_cells S.kind kinds fun env he s1 x => ?_))
  subst he
  refine ⟨nol.keeps x.toInCall.keep, codeAny_func ?_⟩
  obtain ⟨t, ht, hq⟩ := hbody A outer s H vs Q p cls d (by have := (hr.deeper (envOfC qual scope s.heap.objs.size f cdv)).un; omega) hz hf hsp
  have I : Inv (L2H.cxH C8.CX0 P w K mg base N qual scope f cdv A outer s H C8.E0 p) [] (L2.start N vs) H s1 := L2H.inv_startH S hpin e0 hl r x
  refine wpAny_mono (ht.nox.run [] s1 (L2.start N vs) H _ I hq) (fun fl s' hs => ?_) fun e s' hs => hs
  cases fl with
  | ret u => obtain ⟨v, σ', H', J, rv, q⟩ := hs; exact ⟨v, H', J.os, J.bare, J.base, J.hok, rv, q⟩
  | next => obtain ⟨σ', H', J, q⟩ := hs; exact ⟨V.non, H', J.os, J.bare, J.base, J.hok, rfl, q⟩
  | brk => exact hs.choose_spec.choose_spec.2.elim
  | cont => exact hs.choose_spec.choose_spec.2.elim
/-- x(e), in an except suite: the def reads the error -/
def tCallE (sp : Sp) (ta : TA) : TE := fun σ H Q => ta σ H fun vs H1 => sp vs H1 Q C8.E0
theorem pe_callE {X : Cx} {a : Addr} {oe : Obj} {cls : Value} {d : Option Addr} {k : Nat} {f : Addr} {fd : FuncData} {ps : List Str} {sp : Addr → Value → Option Addr → Sp} {x : Str} {q pos : Pos} {e : Expr} {es : List Expr} {t : TA} (F : FnE X.prog X.w X.K X.mg X.base k f fd ps sp) (hr : L2H.RoomH k X.A)
    (hp : (a, oe) ∈ X.pn) (hz : Zc cls d oe) (hf : ∃ vs, oe.data = .fields vs) (hg : Gl X x) (hm : X.mg x = some (.ref f)) (hk : PySem.W.keepIn X.K (.ref f) = true) (hb : Binds X.K fd ps []) (ha : PA X (e :: es) t) (hdb : (x == ("__debug__" : Str)) = false := by decide)
    (he : starEach (e :: es) X.env = (false, eval e X.env) :: starEach es X.env := by rfl) (hpl : (backTo pos (starEach es X.env)).any (·.1) = false := by rfl) : PE X (.Call (.Name x q) (e :: es) [] pos) (tCallE (sp a cls d) t) := by
  refine ⟨fun pins s σ H Q I h => wpAny_Call_Name_kw (ld_glob I hg hm ?_ hdb)⟩
  refine PySem.W.callWith_K (h₀ := X.base) I.ok.mod.kin hk (thn (ha.run pos pins s σ H _ I h) fun us s1 ⟨vs, H1, I1, r, q⟩ => ⟨I1.kIn, ?_⟩) he hpl; have hl : us.length = ps.length := by rw [← r.length]; exact F.len _ _ _ _ _ _ _ q
  have b := hb s1 us I1.kIn (by rw [List.append_nil]; exact hl); rw [List.append_nil] at b
  have P1 := I1.pin (a, oe) (List.mem_append_left _ hp)
  have hpin : L2H.PinOk X.stack H1 s1 (a, oe) := ⟨P1.1, P1.2.1, fun hm => (List.mem_cons.mp (I1.stkSub a hm)).elim P1.2.2.1 P1.2.2.2.1, P1.2.2.2.2⟩
  refine wpAny_call (codeAny_mono (F.run X.A X.stack s1 H1 ⟨us, []⟩ us vs Q (a, oe) cls d hr hpin hz hf I1.env0 b r q) fun r s' hq => ?_)
  cases r with
  | error _ => exact False.elim hq
  | ok fl => cases fl <;> first | exact I1.after hq | exact False.elim hq
/-! ### except (x1, x2, x3) as n -/
theorem flyZ_keeps {B h h' : Heap} {l : List Env} {e : Addr} {Z : Obj → Prop} (R : HandSPX.FlyingZ B l e Z h) (k : ∀ b o, h.get? b = some o → h'.get? b = some o) : HandSPX.FlyingZ B l e Z h' := by
  obtain ⟨f1, f2, f3, oe, vs, T, oT, ts, he, hz, hd, h1, hn, hne, hT, hdT, h3⟩ := R
  exact ⟨fun b o q => k b o (f1 b o q), f2, f3.of_keeps fun b o q _ => ⟨o, k b o q, rfl⟩, oe, vs, T, oT, ts, k _ _ he, hz, hd, h1, hn, hne, k _ _ hT, hdT, h3⟩
/-- what the clause wishes: slot i is n's -/
def wAsT (K : PySem.W.Frag) (cs : List Value) (i : Nat) (ts : Addr → Value → Option Addr → TS) (D : Ends) : WX := fun cls d σ H =>
  PySem.W.exmAny K cls cs = some true ∧ ∀ a, H a = none → ts a cls d { nx := fun σ' H' => D.nx (σ'.set i none) H', rt := D.rt, bk := fun σ' H' => D.bk (σ'.set i none) H', ct := fun σ' H' => D.ct (σ'.set i none) H' } (σ.set i (some (.ref a))) H
section
variable {X : Cx} {x1 x2 x3 n : Str} {c1 c2 c3 : Value} {i kk : Nat} {body suite : List Stmt} {b₀ : Stmt} {p1 p2 p3 tpos pos pos' : Pos} {tb : WX → TS} {ts : Addr → Value → Option Addr → TS}
theorem ps_try_asT (hs : X.stack = X.env :: X.outer) (hf : X.env.frame = some X.env.locals) (hN : X.N.Nodup) (hi : X.N[i]? = some n) (hln : X.env.kindOf n = some .local) (hc1 : Names X x1 c1) (hc2 : Names X x2 c2) (hc3 : Names X x3 c3)
    (hb : ∀ (W : WX) (pn : List (Addr × Obj)) (xe : Value → Shared → Prop), Takes (X.tr pn xe) W → PSs (X.tr pn xe) body (tb W))
    (hsu : ∀ (a : Addr) (oe : Obj) (cls : Value) (d : Option Addr) (more : List (Addr × Obj)), Zc cls d oe → (∃ vs, oe.data = .fields vs) → PSs (X.suite a ((a, oe) :: more)) (b₀ :: suite) (ts a cls d)) :
    PS X (.Try body [.ExceptHandler (some (.Tuple [.Name x1 p1, .Name x2 p2, .Name x3 p3] kk tpos)) (some n) (b₀ :: suite) pos'] [] [] pos) (fun D σ H => tb (wAsT X.K [c1, c2, c3] i ts D) D σ H) := by
  refine ⟨fun pins s σ H D I h => wpAny_Try_except ?_⟩
  have ok := I.ok; have hfr : X.A.frames = some (X.env :: X.outer) := by rw [ok.frames, hs]
  refine wpAny_mono ((hb (wAsT X.K [c1, c2, c3] i ts D) (X.pn ++ pins) (fun e s₁ => wpAny (model X.prog X.w) X.A (noteFrame e X.env) (fun _ s₂ => wpAny (model X.prog X.w) X.A (setFlight e none) (fun _ s₃ =>
    wpAny (model X.prog X.w) X.A (handleBy e X.env [.ExceptHandler (some (.Tuple [.Name x1 p1, .Name x2 p2, .Name x3 p3] kk tpos)) (some n) (b₀ :: suite) pos']) (SP X pins D) X.xe s₃) X.xe s₂) X.xe s₁) (fun u s' xx => ?_)).run [] s σ H D (I.toTry _) h) (fun f s1 hsp => ?_) (fun e s1 he => he)
  · obtain ⟨a, B, sI, pins', σ', H', cls, d, rfl, J', nb, up, sky, na, os, ag, hit, yes⟩ := xx
    have J : Inv X pins σ' H' sI := J'.ofTry ok; have sky' : Sky B (X.env :: X.outer) a (Zc cls d) X.env.locals s'.heap := by rw [← hs]; exact sky
    refine Sky.land Zc.steady hfr hf sky' fun h3 fl3 up3 => ?_; have J3 : Inv X pins σ' H' { s' with heap := h3 } := J.landed nb fl3.1 (up.trans up3) os ag; obtain ⟨oe3, vs3, he3, hz3, hd3⟩ := fl3.there
    have nfr : a ∉ frs (X.env :: X.outer) := fun hm => by obtain ⟨_, o', e', hnf⟩ := fl3.2.2.1.mem hm; rw [he3] at e'; cases e'; exact hnf _ hd3
    obtain ⟨nL, nF⟩ : a ≠ X.env.locals ∧ a ∉ X.fs := ⟨fun z => nfr (List.mem_filterMap.mpr ⟨X.env, List.mem_cons_self, by rw [hf, z]⟩), fun hm => by obtain ⟨e, he, q⟩ := List.mem_filterMap.mp hm; exact nfr (List.mem_filterMap.mpr ⟨e, List.mem_cons_of_mem _ he, q⟩)⟩
    have S3 := J3.suite he3 hd3 na nL nF; refine wpAny_handleBy_cons (codeAny_handlers_test ?_) (fun q => nomatch q)
    have name : ∀ {x : Str} {c : Value} {p : Pos} {Q : Value → Shared → Prop} {E : Value → Shared → Prop}, Names X x c → Q c { s' with heap := h3 } → wpAny (model X.prog X.w) (X.A.mark (some (.ref a))) (eval (.Name x p) X.env) Q E { s' with heap := h3 } := fun hc q => by
      rcases hc.2.2 with own | ⟨none', boot, other⟩
      · exact ld_glob S3 hc.1 own q hc.2.1
      · exact ld_blt S3 hc.1 none' boot q other hc.2.1
    refine wpAny_Tuple (wpAny_items_cons (name hc1 (wpAny_items_cons (name hc2 (wpAny_items_cons (name hc3 (wpAny_items_nil ⟨by size_fits, ?_⟩)))))))
    have kp : ∀ q o, h3.get? q = some o → (h3.push { cls := .type "tuple", data := .seq [c1, c2, c3].toArray }).get? q = some o := fun _ _ z => Heap.get?_push_of_some _ z
    have LT : PySem.W.Looks (model X.prog X.w) (h3.push { cls := .type "tuple", data := .seq [c1, c2, c3].toArray }) (typeOf (.ref a)) cls := fun A Q E s k q => wpAny_typeOf_ref (k _ _ (kp _ _ he3)) (by rw [hz3.1]; exact q)
    refine (PySem.W.exm_tup3 (J3.kIn.keeps kp) LT (Heap.get?_push_size h3 rfl) hit).here ?_
    refine codeAny_handlers_suite_as (HandSPX.lands_againZ (flyZ_keeps fl3 kp) fun h4 fl4 up4 => ?_)
    have J4 : Inv X pins σ' H' { s' with heap := h4 } := J.landed nb fl4.1 (((up.trans up3).trans (Heap.UpToSlots.of_keeps kp)).trans up4) os ag
    obtain ⟨oe4, vs4, he4, hz4, hd4⟩ := fl4.there; refine store_ok (X := X.suite a ((a, oe4) :: (X.pn ++ pins))) (v := .ref a) (J4.suite he4 hd4 na nL nF) hN hi (.inl hln) rfl (fun s5 S5 => ?_) (.inr hln)
    refine wpAny_mono ((hsu a oe4 cls d (X.pn ++ pins) hz4 ⟨_, hd4⟩).run [] s5 _ H' _ S5 (yes a na)) (fun f s6 hsp => ?_) (fun _ _ z => False.elim z)
    have gone : ∀ {σ6 : L2.St} {H6 : Hp} {Q : Shared → Prop}, Inv (X.suite a ((a, oe4) :: (X.pn ++ pins))) [] σ6 H6 s6 → (∀ s7, Inv X pins (σ6.set i none) H6 s7 → Q s7) → wpAny (model X.prog X.w) X.A (do bindName X.env n .none; unbindBehindTheSuite X.env n pos') (fun _ s7 => Q s7) X.xe s6 :=
      fun {σ6 H6 Q} S6 hq => gone_ok (S6.unsuite ok) hN hi hln hq
    cases f with
    | ret u => obtain ⟨v6, σ6, H6, S6, r6, q6⟩ := hsp; exact gone S6 fun s7 J7 => ⟨_, _, _, J7, r6, q6⟩
    | next => obtain ⟨σ6, H6, S6, q6⟩ := hsp; exact gone S6 fun s7 J7 => ⟨_, _, J7, q6⟩
    | brk => obtain ⟨σ6, H6, S6, q6⟩ := hsp; exact gone S6 fun s7 J7 => ⟨_, _, J7, q6⟩
    | cont => obtain ⟨σ6, H6, S6, q6⟩ := hsp; exact gone S6 fun s7 J7 => ⟨_, _, J7, q6⟩
  · cases f with
    | ret u => obtain ⟨v, σ', H', J', r, q⟩ := hsp; exact ⟨v, σ', H', J'.ofTry ok, r, q⟩
    | next => obtain ⟨σ', H', J', q⟩ := hsp; exact wpAny_execs_nil ⟨σ', H', J'.ofTry ok, q⟩
    | brk => obtain ⟨σ', H', J', q⟩ := hsp; exact ⟨σ', H', J'.ofTry ok, q⟩
    | cont => obtain ⟨σ', H', J', q⟩ := hsp; exact ⟨σ', H', J'.ofTry ok, q⟩
end

/-! lambda: e and lambda a=0: e as values; what calling one asks; a def that calls what it got in a try. -/
/-- a lambda's text: no parameter (dflt = false), or one with the default 0 -/
structure LamTx where
  params : Arguments
  body : Expr
  scope : Scope
  dflt : Bool
/-- its names, within a def of the names N and the scope sc -/
structure LamN (N : List Str) (sc : Scope) (T : LamTx) : Prop where
  kind : T.scope.kind = .function
  co : T.scope.isCoroutine = false
  gen : T.scope.isGenerator = false
  nocell : ∀ y ∈ T.scope.names, y.2 ≠ .cell
  own : ∀ y ∈ T.scope.names, y.2 = .local → y.1 ∉ N
  free : ∀ y ∈ T.scope.names, y.2 = .free → sc.names.lookup y.1 = some .cell ∨ sc.names.lookup y.1 = some .free
  kwo : T.params.kwonlyargs = []
  d0 : T.dflt = false → (∀ env, defaultsOf T.params env = ([], [])) ∧ ∀ (q : Str) (cl : List (Str × Addr)) (doc pm cv ctv : Value), bindArgs (PySem.W.kdv_fn "<lambda>" q T.params (.expr T.body) T.scope cl .none doc pm cv ctv) ⟨[], []⟩ = pure []
  d1 : T.dflt = true → (∃ (k : Nat) (p : Pos), ∀ env, defaultsOf T.params env = ([eval (.Constant (.int 0) k p) env], [])) ∧ ∃ nm, T.scope.names.lookup nm = some .local ∧ ∀ (D : Addr) (q : Str) (cl : List (Str × Addr)) (doc pm cv ctv : Value) (tk : Tok),
    ∃ k, bindArgs (PySem.W.kdv_fn "<lambda>" q T.params (.expr T.body) T.scope cl (.ref D) doc pm cv ctv) ⟨[], []⟩ = seqItems? (.ref D) >>= k ∧ k (some #[.int 0 tk]) = pure [(nm, .int 0 tk)]
def lamNB (N : List Str) (sc : Scope) (T : LamTx) : Bool :=
  decide (T.scope.kind = .function) && !T.scope.isCoroutine && !T.scope.isGenerator && T.scope.names.all fun y => !decide (y.2 = .cell) && (!decide (y.2 = .local) || decide (y.1 ∉ N)) && (!decide (y.2 = .free) || decide (sc.names.lookup y.1 = some .cell) || decide (sc.names.lookup y.1 = some .free))
/-- the function object, its code at c, the tuple of its defaults at D -/
def lamO (X : Cx) (T : LamTx) (f c D : Addr) : HO := .ext fun h => ∃ doc pm ctv, h.get? f = some (PySem.W.kdv_obj "<lambda>" (X.env.qual ++ "<lambda>") T.params (.expr T.body) T.scope (cloFrom X.env.cells T.scope.names []) (if T.dflt then .ref D else .none) doc pm c ctv)
/-- what readings know of a def's lambdas: the table of its code objects at P, their name q, the objects, which have a default -/
structure LamW where
  P : Addr
  q : Str
  o : Nat → Addr → Addr → Addr → HO
  d : Nat → Bool
def LamW.codes (lw : LamW) (H : Hp) (ps : Array Value) : Prop := TriplesOk ps.toList ∧ ∀ (pos : Pos) (cv : Value), codeAmong pos ps.toList = some cv → ∃ c, cv = .ref c ∧ H c = some (LamX.CodeO c lw.q)
/-- the i-th lambda stands at f -/
def LamAt (lw : LamW) (i : Nat) (H : Hp) (f : Addr) : Prop := ∃ c D, H f = some (lw.o i f c D) ∧ H c = some (LamX.CodeO c lw.q) ∧ (lw.d i = true → H D = some (.tup [.int 0]))
theorem LamAt.ex {lw : LamW} {i : Nat} {H H' : Hp} {f : Addr} (e : Ex H H') (h : LamAt lw i H f) : LamAt lw i H' f := have ⟨c, D, h1, h2, h3⟩ := h; ⟨c, D, e _ _ h1, e _ _ h2, fun z => e _ _ (h3 z)⟩
/-- behind the making of the i-th lambda, at f -/
structure LamNew (lw : LamW) (i : Nat) (H : Hp) (ps : Array Value) (f : Addr) (H1 : Hp) : Prop where
  ex : ∃ (H0 H2 : Hp) (ps' : Array Value) (c D : Addr), ((lw.d i = false ∧ H0 = H) ∨ (lw.d i = true ∧ H D = none ∧ H0 = upd H D (.tup [.int 0]))) ∧
    ((H2 = H0 ∧ ps' = ps ∧ ∃ pos, codeAmong pos ps.toList = some (.ref c)) ∨ (H0 c = none ∧ H2 = upd (upd H0 lw.P (.tbl ps')) c (LamX.CodeO c lw.q) ∧ TriplesOk ps'.toList ∧ ∀ (pos : Pos) (cv : Value), codeAmong pos ps'.toList = some cv → codeAmong pos ps.toList = some cv ∨ cv = .ref c)) ∧
    H2 f = none ∧ H1 = upd H2 f (lw.o i f c D)
def tLamE (lw : LamW) (i : Nat) : TE := fun _ H Q => ∃ ps, H lw.P = some (.tbl ps) ∧ lw.codes H ps ∧ ∀ f H1, LamNew lw i H ps f H1 → Q (.ref f) H1
/-- such a making, over what stays -/
theorem LamNew.stt {lw : LamW} {i j : Nat} {G H H1 : Hp} {L : List (Addr × HO)} {ps : Array Value} {f : Addr} (S : Stt G H L) (hj : L[j]? = some (lw.P, .tbl ps)) (hc : lw.codes G ps) (n : LamNew lw i H ps f H1) :
    ∃ (G1 : Hp) (ps' : Array Value), Ex G G1 ∧ Stt G1 H1 (L.set j (lw.P, .tbl ps')) ∧ lw.codes G1 ps' ∧ LamAt lw i G1 f := by
  obtain ⟨H0, H2, ps', c, D, a1, a2, hf, rfl⟩ := n.ex
  obtain ⟨G0, e0, S0, hD⟩ : ∃ G0, Ex G G0 ∧ Stt G0 H0 L ∧ (lw.d i = true → G0 D = some (.tup [.int 0])) := by
    rcases a1 with ⟨d, rfl⟩ | ⟨d, hn, rfl⟩
    · exact ⟨G, Ex.refl G, S, fun z => by rw [d] at z; cases z⟩
    · exact ⟨_, S.newE hn, S.new hn, fun _ => upd_same⟩
  have hPin : H0 lw.P = some (.tbl ps) := S0.at j hj
  have hPg : G0 lw.P = none := S0.out _ (List.mem_of_getElem? hj)
  obtain ⟨G2, e2, S2, hcc, hcs⟩ : ∃ G2, Ex G0 G2 ∧ Stt G2 H2 (L.set j (lw.P, .tbl ps')) ∧ G2 c = some (LamX.CodeO c lw.q) ∧ lw.codes G2 ps' := by
    have hc0 : lw.codes G0 ps := ⟨hc.1, fun pos cv z => have ⟨c, h1, h2⟩ := hc.2 pos cv z; ⟨c, h1, e0 _ _ h2⟩⟩
    rcases a2 with ⟨rfl, rfl, pos, hcc⟩ | ⟨hn, rfl, ht, hca⟩
    · have es : L.set j (lw.P, .tbl ps') = L := by
        apply List.ext_getElem?
        intro m
        rw [List.getElem?_set]
        by_cases hm : j = m
        · subst hm; rw [if_pos rfl, hj, if_pos (List.getElem?_eq_some_iff.mp hj).1]
        · rw [if_neg hm]
      rw [es]
      obtain ⟨c2, h1, h2⟩ := hc0.2 pos _ hcc
      cases h1
      exact ⟨G0, Ex.refl G0, S0, h2, hc0⟩
    · have S1 : Stt G0 (upd H0 lw.P (.tbl ps')) (L.set j (lw.P, .tbl ps')) := S0.wr j hj
      have hcP : c ≠ lw.P := fun z => by rw [z, hPin] at hn; cases hn
      have hn1 : upd H0 lw.P (.tbl ps') c = none := by rw [upd_ne hcP]; exact hn
      have e2 := S1.newE (o := LamX.CodeO c lw.q) hn1
      refine ⟨_, e2, S1.new (o := LamX.CodeO c lw.q) hn1, upd_same, ht, fun pos cv z => ?_⟩
      rcases hca pos cv z with z | rfl
      · obtain ⟨c2, h1, h2⟩ := hc0.2 pos cv z
        exact ⟨c2, h1, e2 _ _ h2⟩
      · exact ⟨c, rfl, upd_same⟩
  have e3 := S2.newE (o := lw.o i f c D) hf
  refine ⟨_, ps', e0.trans (e2.trans e3), S2.new (o := lw.o i f c D) hf, ⟨hcs.1, fun pos cv z => have ⟨c2, h1, h2⟩ := hcs.2 pos cv z; ⟨c2, h1, e3 _ _ h2⟩⟩, c, D, upd_same, e3 _ _ hcc, fun z => e3 _ _ (e2 _ _ (hD z))⟩
/-! ### the making -/
section
variable {X : Cx} {lw : LamW} {i : Nat} {T : LamTx} {cl : Addr} {pos : Pos}
/-- what is known of a def's code object, at cl, and of the readings' words -/
structure LamX1 (X : Cx) (lw : LamW) (cl : Addr) : Prop where
  tb : LamX.TabB X.base X.mg cl lw.P
  code : X.env.code = .ref cl
  q : lw.q = X.env.qual ++ "<lambda>"
theorem LamN.has (L : LamN X.N X.env.scope T) (ok : X.Ok) : ∀ y ∈ T.scope.names, y.2 = .free → ∃ c, X.env.cells.lookup y.1 = some c := fun y hy e => ok.has _ (L.free y hy e)
theorem lamO_ok {P : Program} {w : World} {H : Hp} {h : Heap} {f c D : Addr} {doc pm ctv : Value} (e : h.get? f = some (PySem.W.kdv_obj "<lambda>" (X.env.qual ++ "<lambda>") T.params (.expr T.body) T.scope (cloFrom X.env.cells T.scope.names []) (if T.dflt then .ref D else .none) doc pm c ctv)) : ObjOk P w H h f (lamO X T f c D) :=
  ⟨⟨doc, pm, ctv, e⟩, ⟨_, e⟩, fun h1 h2 ⟨doc, pm, ctv, e⟩ k => ⟨doc, pm, ctv, k _ e⟩⟩
theorem pe_lam (LX : LamX1 X lw cl) (L : LamN X.N X.env.scope T) (ho : lw.o i = lamO X T) (hd : lw.d i = T.dflt) : PE X (.Lambda T.params T.body T.scope pos) (tLamE lw i) := by
  refine ⟨fun pins s σ H Q I ⟨ps, hP, hc, q⟩ => ?_⟩
  rw [arm_eval_Lambda]
  -- behind the defaults
  have tail : ∀ (dV : Value) (D : Addr) (H0 : Hp) (s0 : Shared), Inv X pins σ H0 s0 → dV = (if T.dflt then .ref D else .none) → ((lw.d i = false ∧ H0 = H) ∨ (lw.d i = true ∧ H D = none ∧ H0 = upd H D (.tup [.int 0]))) →
      wpAny (model X.prog X.w) X.A (makeTail "<lambda>" (X.env.qual ++ "<lambda>") T.params (.expr T.body) T.scope X.env dV .none none pos pos.line) (EP X pins σ Q) X.xe s0 := by
    intro dV D H0 s0 I0 edV hH0
    have hP0 : H0 lw.P = some (.tbl ps) := by
      rcases hH0 with ⟨_, rfl⟩ | ⟨_, hn, rfl⟩
      · exact hP
      · rw [upd_ne (ne_of_none hP hn)]; exact hP
    have hc0 : lw.codes H0 ps := by
      rcases hH0 with ⟨_, rfl⟩ | ⟨_, hn, rfl⟩
      · exact hc
      · exact ⟨hc.1, fun pos cv z => have ⟨c, h1, h2⟩ := hc.2 pos cv z; ⟨c, h1, by rw [upd_ne (ne_of_none h2 hn)]; exact h2⟩⟩
    have bP : s0.heap.BuiltinsAt X.mg lw.P := LX.tb.bm.keeps I0.bk
    have gP : s0.heap.get? lw.P = some { cls := .none, data := .fields ps } := I0.hok lw.P _ hP0
    have fin : ∀ (h' : Heap) (c : Addr) (doc pm ctv : Value) (tk : Nat) (H2 : Hp) (ps' : Array Value), Inv X pins σ H2 { s0 with heap := h', toks := tk } → s0.heap.objs.size ≤ h'.objs.size →
        ((H2 = H0 ∧ ps' = ps ∧ ∃ pos, codeAmong pos ps.toList = some (.ref c)) ∨ (H0 c = none ∧ H2 = upd (upd H0 lw.P (.tbl ps')) c (LamX.CodeO c lw.q) ∧ TriplesOk ps'.toList ∧ ∀ (pos : Pos) (cv : Value), codeAmong pos ps'.toList = some cv → codeAmong pos ps.toList = some cv ∨ cv = .ref c)) →
        EP X pins σ Q (.ref h'.objs.size) { s0 with heap := h'.push (PySem.W.kdv_obj "<lambda>" (X.env.qual ++ "<lambda>") T.params (.expr T.body) T.scope (cloFrom X.env.cells T.scope.names []) dV doc pm c ctv), toks := tk } := by
      intro h' c doc pm ctv tk H2 ps' I2 hsz a2
      have hf : H2 h'.objs.size = none := I2.hok.fresh (Nat.le_refl _)
      have I3 : Inv X pins σ (upd H2 h'.objs.size (lw.o i h'.objs.size c D)) { s0 with heap := h'.push (PySem.W.kdv_obj "<lambda>" (X.env.qual ++ "<lambda>") T.params (.expr T.body) T.scope (cloFrom X.env.cells T.scope.names []) dV doc pm c ctv), toks := tk } :=
        I2.laid (t' := tk) (fun b o e => Heap.get?_push_of_some _ e) (Nat.le_refl _) (by rw [ho]; exact lamO_ok (by rw [← edV]; exact Heap.get?_push_size _ rfl))
      exact ⟨.ref h'.objs.size, _, I3, rfl, q _ _ ⟨H0, H2, ps', c, D, hH0, a2, hf, rfl⟩⟩
    cases hca : codeAmong pos ps.toList with
    | none =>
      refine PySem.W.kdv_makeTail (mg := X.mg) (c := cl) (P := lw.P) (ps := ps) (closure_ok (L.has I0.ok)) I0.ok.glob (I0.mod.glob.keeps I0.bk) LX.code (LX.tb.code.keeps I0.bk) gP hc0.1 hca LX.tb.gP bP fun c ctv doc h' tk hx hge hlt hrec htb => ?_
      obtain ⟨c2, oc, vs, t, e2, hoc, hdc, hv⟩ := hrec
      cases e2
      have hsz : s0.heap.objs.size ≤ h'.objs.size := Nat.le_trans hge (Nat.le_of_lt hlt)
      have nC : H0 c = none := I0.hok.fresh hge
      have I1 := LamX.inv_table (t' := tk) (more := #[rawInt pos.line, rawInt pos.col, .ref c]) (h' := h') I0 hP0 (fun b o hb e => hx b o hb e) htb hge ⟨oc, vs, t, hoc, hdc, hv⟩
      rw [← LX.q] at I1
      refine fin h' c doc _ ctv tk _ (ps ++ #[rawInt pos.line, rawInt pos.col, .ref c]) I1 hsz (.inr ⟨nC, rfl, ?_, fun p' cv hcv => ?_⟩)
      · rw [Array.toList_append]
        exact PySem.TriplesOk_snoc _ _ _ _ hc0.1
      · rw [Array.toList_append] at hcv
        exact LamX.among_app _ hc0.1 hcv
    | some cv =>
      obtain ⟨c, rfl, hco⟩ := hc0.2 pos cv hca
      refine PySem.W.kdv_makeTailHit (mg := X.mg) (c := cl) (P := lw.P) (ps := ps) (closure_ok (L.has I0.ok)) I0.ok.glob (I0.mod.glob.keeps I0.bk) LX.code (LX.tb.code.keeps I0.bk) gP hc0.1 hca bP fun ctv doc h' tk hx hsz => ?_
      exact fin h' c doc _ ctv tk H0 ps (I0.kept (t' := tk) hx) hsz (.inl ⟨rfl, rfl, pos, hca⟩)
  cases hdf : T.dflt with
  | false =>
    rw [(L.d0 hdf).1]
    refine wpAny_bind (wpAny_pure (wpAny_bind (wpAny_holding (wpAny_pure ?_))))
    rw [makeFunction_eq]
    simp only [L.kwo, List.zip_nil_left, List.zip_nil_right, List.filterMap_nil, List.isEmpty_nil, if_true, pure_bind]
    exact tail .none 0 H s I (by rw [hdf]; rfl) (.inl ⟨by rw [hd, hdf], rfl⟩)
  | true =>
    obtain ⟨⟨k, p, e1⟩, _⟩ := L.d1 hdf
    rw [e1]
    show wpAny _ _ (evalAll [eval (.Constant (.int 0) k p) X.env] >>= _) _ _ _
    unfold evalAll
    refine wpAny_bind (wpAny_bind (wpAny_Constant_int (wpAny_bind (wpAny_holding (wpAny_pure (wpAny_pure (wpAny_bind (wpAny_holding (wpAny_pure ?_)))))))))
    rw [makeFunction_eq]
    simp only [L.kwo, List.zip_nil_left, List.filterMap_nil, List.isEmpty_nil, List.isEmpty_cons, Bool.false_eq_true, if_false, if_true, pure_bind]
    refine wpAny_bind (wpAny_newTextTuple ?_); have hn : H s.heap.objs.size = none := I.hok.fresh (Nat.le_refl _)
    refine tail (.ref s.heap.objs.size) s.heap.objs.size (upd H s.heap.objs.size (.tup [.int 0])) _ ?_ (by rw [hdf]; rfl) (.inr ⟨by rw [hd, hdf], hn, rfl⟩)
    exact I.laid (t' := s.toks + 1) (fun b o e => Heap.get?_push_of_some _ e) (Nat.le_refl _) ⟨by decide, [.int 0 s.toks], .cons ⟨_, rfl⟩ .nil, IsTup.new _ _⟩
end

/-! Calling a lambda: in the def that got it, or deeper. -/
/-- from the state s of the frames outer on, f may be called (no arguments): tl says what comes of it -/
def CanCall (P : Program) (w : World) (K : PySem.W.Frag) (mg : Str → Option Value) (base : Heap) (k : Nat) (outer : List Env) (s : Shared) (H : Hp) (f : Addr) (tl : XK → Hp → VK → Prop) : Prop :=
  ∀ (A : Around) (outer' : List Env) (s' : Shared) (H' : Hp) (Q : VK) (E : XK), Room k A → Env0 P w K mg base A outer' s' H' → Un (frs outer) [] H H' s.heap s'.heap → tl E H' Q →
    PySem.W.FnAt f s'.heap ∧ codeAny (model P w) A (.call (.ref f) ⟨[], []⟩) (CR (L2.CX P w) outer' P w H' s' Q E) s'
section
variable {X : Cx} {pins : List (Addr × Obj)} {σ : L2.St} {H HZ : Hp} {s s1 : Shared} {T : LamTx} {i k : Nat}
/-- the state at the entry of the lambda's body -/
theorem lam_entry {A : Around} {outer : List Env} {E : XK} {f c : Addr} {h₁ : Heap} {tk : Nat} {bs : List (Str × Value)} (I : Inv X pins σ H s) (L : LamN X.N X.env.scope T) (e0 : Env0 X.prog X.w X.K X.mg X.base A outer s1 HZ) (hd : A.handled = none)
    (un : Un (frs X.stack) [] H HZ s.heap s1.heap) (hns : h₁.Ns s1.heap.objs.size fun y => bs.reverse.lookup y) (kp : ∀ b o, s1.heap.get? b = some o → h₁.get? b = some o) :
    Inv (LamX.lamCx X A outer s1 HZ E T.scope f c) [] σ HZ { s1 with heap := h₁, toks := tk } := by
  have hfree := L.has I.ok
  have cm : ∀ {y c}, (cloFrom X.env.cells T.scope.names []).lookup y = some c → X.env.cells.lookup y = some c := fun {y c} e => by
    obtain hm | ⟨h1, h2⟩ := cloFrom_mem (PySem.mem_of_lookup e)
    · cases hm
    · obtain ⟨c1, hc⟩ := hfree _ h1 rfl; have hc : X.env.cells.lookup y = some c1 := hc
      rw [show c = c1 by rw [h2, hc] <;> rfl]; exact hc
  have look : ∀ {y}, T.scope.names.lookup y = some .free → ∃ c, (cloFrom X.env.cells T.scope.names []).lookup y = some c := fun {y} hl =>
    mem_lookup (cloFrom_has (cells := X.env.cells) (acc := []) (show (y, NameKind.free) ∈ T.scope.names from PySem.mem_of_lookup hl))
  have stays : ∀ {x : Addr} {u : Option Value}, H x = none → s.heap.IsCell x u → h₁.IsCell x u := fun {x u} n ⟨o, ho, hd⟩ => by
    obtain ⟨sl, q⟩ := un.any ho n (by simp); exact ⟨_, kp _ _ q, hd⟩
  have noA : ∀ b : Addr, b ∉ (LamX.lamCx X A outer s1 HZ E T.scope f c).ex := fun b z => by cases (show b ∈ ([] : List Addr) from z)
  refine ⟨⟨e0.mod, L.kind, rfl, rfl, Nat.le_refl _, fun y z c e1 e2 => I.ok.inj y z c (cm e1) (cm e2), fun y hy => ?_, fun y c z _ => Bool.noConfusion (show false = true from z), fun _ => hd, Around.frames_deeper e0.frames, .inr ⟨rfl, rfl⟩, fun b z => absurd z (noA b), e0.bs, e0.bsz, fun b _ _ => noA b, fun b z => absurd z (noA b), e0.funs, e0.frf⟩,
    rfl, e0.bare, Un.kept kp, ⟨_, hns, fun i y v e1 e2 e3 => ?_⟩, fun y c e => ?_, e0.hok.fresh (Nat.le_refl _), fun y c e => ?_, fun q hq => by simp [LamX.lamCx] at hq, e0.hok.kept kp, I.len⟩
  · rcases (show T.scope.names.lookup y = some .cell ∨ T.scope.names.lookup y = some .free from hy) with hy | hy
    · exact absurd rfl (L.nocell _ (PySem.mem_of_lookup hy))
    · exact look hy
  · rcases (show Vis T.scope y from e3) with k | k | k
    · exact absurd (List.mem_of_getElem? e1) (L.own _ (PySem.mem_of_lookup k) rfl)
    · exact absurd rfl (L.nocell _ (PySem.mem_of_lookup k))
    · obtain ⟨m, hn, hl⟩ := I.loc
      have fr := L.free _ (PySem.mem_of_lookup k) rfl
      obtain ⟨w', r, q⟩ := hl i y v e1 e2 (.inr fr)
      obtain ⟨c2, h2⟩ := look k
      refine ⟨w', r, .inr ⟨.inr k, c2, h2, ?_⟩⟩; rcases q with ⟨k', _⟩ | ⟨_, c3, e', z⟩
      · rcases fr with k2 | k2 <;> (have z := (show X.env.scope.names.lookup y = _ from k2).symm.trans (show X.env.scope.names.lookup y = some .local from k'); cases z)
      · have e4 := cm h2
        rw [show X.env.cells.lookup y = _ from e'] at e4
        cases e4
        exact stays (I.freeC y _ e') z
  · have ⟨w', z⟩ := I.cell y c (cm e); exact ⟨w', stays (I.freeC y c (cm e)) z⟩
  · have ⟨_, o, ho, _⟩ := I.cell y c (cm e); exact un.free c o ho (I.freeC y c (cm e)) (by simp)
/-- a lambda of the def that runs at s -/
theorem can_lam {lw : LamW} {tb : XK → TE} (I : Inv X pins σ H s) (L : LamN X.N X.env.scope T) (ho : lw.o i = lamO X T) (hd : lw.d i = T.dflt) (hq : lw.q = X.env.qual ++ "<lambda>") {f : Addr}
    (hbody : ∀ (A : Around) (outer : List Env) (s : Shared) (H : Hp) (E : XK) (f c : Addr), Room k (A.deeper (LamX.lamEnv X T.scope s.heap.objs.size f c)) → PE (LamX.lamCx X A outer s H E T.scope f c) T.body (tb E)) :
    CanCall X.prog X.w X.K X.mg X.base (k + 1) X.stack s H f (fun E H' Q => LamAt lw i H' f ∧ tb E σ H' Q) := by
  intro A outer' s' H' Q E hr e0 un ⟨⟨c, D, hf, hc, hD⟩, ht⟩
  rw [ho] at hf
  obtain ⟨⟨doc, pm, ctv, of⟩, _, _⟩ := (show ObjOk X.prog X.w H' s'.heap f (lamO X T f c D) from e0.hok f _ hf)
  obtain ⟨⟨oc, vs, t, hoc, hdc, hvc⟩, _, _⟩ := (show ObjOk X.prog X.w H' s'.heap c (LamX.CodeO c lw.q) from e0.hok c _ hc)
  rw [hq] at hvc
  have lim : s'.heap.NoLimit := e0.mod.nolimit.keeps fun b o e => (e0.bs b o e).1
  refine ⟨⟨_, _, _, _, of⟩, ?_⟩
  have go : ∀ (bs : List (Str × Value)), (∀ y ∈ bs, T.scope.names.lookup y.1 = some .local) → (∀ (Q' : List (Str × Value) → Shared → Prop) (E' : Value → Shared → Prop), Q' bs s' → wpAny (model X.prog X.w) A.in1 (bindArgs (PySem.W.kdv_fn "<lambda>" (X.env.qual ++ "<lambda>") T.params (.expr T.body) T.scope (cloFrom X.env.cells T.scope.names []) (if T.dflt then .ref D else .none) doc pm (.ref c) ctv) ⟨[], []⟩) Q' E' s') →
      codeAny (model X.prog X.w) A (.call (.ref f) ⟨[], []⟩) (CR (L2.CX X.prog X.w) outer' X.prog X.w H' s' Q E) s' := by
    intro bs hl hbi
    refine PySem.W.kla_callFunE hr.depth of rfl L.co L.gen rfl ⟨c, oc, vs, t, rfl, hoc, hdc, hvc⟩ (hbi _ _ ?_)
    refine wpAny_newFunctionEnv L.nocell hl (fun h₁ hns hsb => ⟨lim.fresh _ hsb, ?_⟩) L.kind
    have kp : ∀ b o, s'.heap.get? b = some o → h₁.get? b = some o := fun b o e => hsb.extBut b o (Nat.ne_of_lt (Heap.lt_size e)) (Heap.get?_push_of_some _ e)
    have J := lam_entry (E := E) (f := f) (c := c) (tk := s'.toks + bs.length) I L e0 hr.hd un hns kp
    refine PySem.W.kla_codeExpr (wpAny_mono ((hbody A outer' s' H' E f c (hr.deeper _)).run [] _ _ H' Q J ht) (fun v s2 ⟨w', H2, J', rv, q⟩ => ?_) fun e s2 hq => hq)
    exact ⟨w', H2, J'.os, J'.bare, J'.base, J'.hok, rv, q⟩
  cases hdf : T.dflt with
  | false =>
    refine go [] (fun y hy => by cases hy) fun Q' E' q => ?_
    rw [hdf, show (if false = true then Value.ref D else Value.none) = Value.none from rfl, (L.d0 hdf).2]
    exact wpAny_pure q
  | true =>
    obtain ⟨_, nm, hnm, hb⟩ := L.d1 hdf
    obtain ⟨_, its, rv, oD, hoD, _, n, hdD⟩ := (show ObjOk X.prog X.w H' s'.heap D (.tup [.int 0]) from e0.hok D _ (hD (by rw [hd, hdf])))
    cases rv with
    | cons r rn =>
      cases rn
      obtain ⟨tk, rfl⟩ := r
      obtain ⟨kk, e1, e2⟩ := hb D (X.env.qual ++ "<lambda>") (cloFrom X.env.cells T.scope.names []) doc pm (.ref c) ctv tk
      refine go [(nm, .int 0 tk)] (fun y hy => by rw [List.mem_singleton.mp hy]; exact hnm) fun Q' E' q => ?_
      rw [hdf, show (if true = true then Value.ref D else Value.none) = Value.ref D from rfl, e1]
      exact wpAny_bind (wpAny_seqItems hoD hdD (by rw [e2]; exact wpAny_pure q))
end
/-- one frame deeper -/
theorem CanCall.deeper {P : Program} {w : World} {K : PySem.W.Frag} {mg : Str → Option Value} {base : Heap} {k : Nat} {outer : List Env} {env : Env} {s s2 : Shared} {H H2 : Hp} {f : Addr} {tl : XK → Hp → VK → Prop} (c : CanCall P w K mg base k outer s H f tl)
    (un : Un (frs outer) [] H H2 s.heap s2.heap) (hl : ∀ L, env.frame = some L → s.heap.objs.size ≤ L) : CanCall P w K mg base k (env :: outer) s2 H2 f tl := by
  intro A outer' s' H' Q E hr e0 un2 ht
  have nin : ∀ {b : Addr} {o : Obj}, s.heap.get? b = some o → b ∉ frs outer → b ∉ frs (env :: outer) := fun {b o} e hb hm => by
    obtain ⟨v, hv, q⟩ := List.mem_filterMap.mp hm; rcases List.mem_cons.mp hv with rfl | hv
    · exact Nat.lt_irrefl _ (Nat.lt_of_lt_of_le (Heap.lt_size e) (hl _ q))
    · exact hb (List.mem_filterMap.mpr ⟨v, hv, q⟩)
  have inn : ∀ {b : Addr}, b ∈ frs outer → b ∈ frs (env :: outer) := fun {b} hm => by
    obtain ⟨v, hv, q⟩ := List.mem_filterMap.mp hm
    exact List.mem_filterMap.mpr ⟨v, List.mem_cons_of_mem _ hv, q⟩
  have ni : ∀ b : Addr, b ∉ ([] : List Addr) := fun b z => by cases z
  refine c A outer' s' H' Q E hr e0 ⟨fun b o e n hb _ => un2.keep b o (un.keep b o e n hb (ni b)) (un.free b o e n (ni b)) (nin e hb) (ni b), fun b o e n hb _ => ?_, fun b o e n _ => ?_, fun b o e _ => ?_, fun b xs e => un2.tups b xs (un.tups b xs e), fun b o u e => un2.frzs b o u (un.frzs b o u e), fun b ps e => ?_⟩ ht
  · obtain ⟨sl, e1⟩ := un.slot b o e n hb (ni b)
    obtain ⟨sl2, e2⟩ := un2.slot b _ e1 (un.free b o e n (ni b)) (inn hb) (ni b)
    exact ⟨sl2, e2⟩
  · obtain ⟨sl, e1⟩ := un.any e n (ni b)
    exact un2.free b _ e1 (un.free b o e n (ni b)) (ni b)
  · obtain ⟨o1, e1⟩ := un.there b o e (ni b)
    exact un2.there b o1 e1 (ni b)
  · obtain ⟨m1, e1⟩ := un.tbls b ps e
    obtain ⟨m2, e2⟩ := un2.tbls b _ e1; exact ⟨m1 ++ m2, by rw [e2, Array.append_assoc]⟩
/-! ### a def that calls what it got -/
section
variable {X : Cx} {pn : List (Addr × Obj)} {xe : Value → Shared → Prop} {W : WX} {E : XK} {k i : Nat} {f : Addr} {a : Str} {p1 p2 : Pos} {tl : XK → Hp → VK → Prop}
/-- the slot i holds f; what f raises is wished for at these slots -/
def tAsk (i : Nat) (f : Addr) (tl : XK → Hp → VK → Prop) (W : WX) : TE := fun σ H Q => σ[i]? = some (some (.ref f)) ∧ tl (fun cls d H' => W cls d σ H') H Q
theorem pe_ask (c : CanCall X.prog X.w X.K X.mg X.base k X.outer X.s_0 X.H_0 f tl) (hex : X.ex = []) (tk : Takes (X.tr pn xe) W) (hr : Room k X.A) (hN : X.N[i]? = some a) (hv : Vis X.env.scope a)
    (hd : (a == ("__debug__" : Str)) = false := by decide) (hcd : (a == ("__classdict__" : Str)) = false := by decide) :
    PE (X.tr pn xe) (.Call (.Name a p1) [] [] p2) (tAsk i f tl W) := by
  refine ⟨fun pins s σ H Q I ⟨hs, ht⟩ => ?_⟩
  refine wpAny_Call_Name_kw (thn ((pe_var (X := X.tr pn xe) (pos := p1) (i := i) hN hv hd hcd).run pins s σ H (fun v H1 => v = .ref f ∧ H1 = H) I ⟨.ref f, hs, rfl, rfl⟩) fun u s1 ⟨v, H1, I1, r1, ev, eH⟩ => ?_)
  subst ev eH
  obtain rfl : u = Value.ref f := r1; have un : Un (frs X.outer) [] X.H_0 H1 X.s_0.heap s1.heap := by have z := I1.base; rw [show (X.tr pn xe).ex = [] from hex] at z; exact z
  obtain ⟨fa, rc⟩ := c X.A X.stack s1 H1 Q _ hr I1.env0 un ht
  refine PySem.W.callWith_F0 fa (wpAny_call (codeAny_mono rc fun r s' hq => ?_))
  cases r with
  | error e => exact passAt tk σ pins H1 s1 e s' I1 hq
  | ok fl => cases fl <;> first | exact I1.after hq | exact False.elim hq
end

/-! The law's field and try; defs that may raise, called. -/


local macro_rules | `(tactic| walk_at "gs1") => `(tactic| first
  | walk_at "go1"
  | with_reducible refine rd_fld ?_
  | with_reducible refine rd_sfld ?_
  | with_reducible refine rd_meth ?_
  | with_reducible refine rd_prop ?_
  | with_reducible refine rd_mkR ?_
  | with_reducible refine rd_stc ?_
  | with_reducible refine rd_star ?_
  | with_reducible refine rd_bk ?_
  | with_reducible refine rd_ipI ?_
  | with_reducible refine rd_joinS ?_
  | with_reducible refine rd_join ?_
  | with_reducible refine rd_lenSetS ?_
  | with_reducible refine rd_lc ?_
  | with_reducible refine rd_for ?_
  | with_reducible refine rd_il ?_
  | with_reducible refine rd_it ?_
  | with_reducible refine rd_sq ?_
  | with_reducible refine rd_is ?_
  | with_reducible refine rd_rng1 ?_
  | with_reducible refine rd_enumT ?_
  | with_reducible refine rd_zipA ?_
  | with_reducible refine rd_zipMx ?_
  | with_reducible refine rd_parB ?_
  | ((with_reducible refine' rd_aug ?hv ?_); (case hv => exact rfl))
  | walk_at "isi"
  | walk_at "dc")
local macro_rules | `(tactic| walk_at "gs") => `(tactic| (repeat walk_at "gs1"); (try dsimp only))

/-! ### defs that may raise -/
structure CalX (P : Program) (w : World) (K : PySem.W.Frag) (mg : Str → Option Value) (base : Heap) (k : Nat) (x : Str) (sp : Sp) : Prop where
  ex : ∃ (f : Addr) (fd : FuncData) (ps : List Str), FnOk P w K mg base (L2.CX P w) k f fd ps sp ∧ mg x = some (.ref f) ∧ PySem.W.keepIn K (.ref f) = true ∧ Binds K fd ps []
structure CalKX (P : Program) (w : World) (K : PySem.W.Frag) (mg : Str → Option Value) (base : Heap) (k : Nat) (x : Str) (sp : Sp) (ks : List Str) (perm : List Nat) : Prop where
  ex : ∃ (f : Addr) (fd : FuncData) (ps : List Str), FnOk P w K mg base (L2.CX P w) k f fd ps sp ∧ mg x = some (.ref f) ∧ PySem.W.keepIn K (.ref f) = true ∧ KBinds K fd ps ks (gPV ks.length perm) (gPV ks.length perm)
section
variable {P : Program} {w : World} {K : PySem.W.Frag} {mg : Str → Option Value} {base : Heap} {k : Nat} {x qual : Str} {st : Stmt} {f : Addr} {fd : FuncData} {ps ks : List Str} {perm : List Nat} {sp : Sp}
theorem calX_mk (F : Fun K x qual st f fd) (G : FnOk P w K mg base (L2.CX P w) k f fd ps sp) (g : mg x = some (.ref f))
    (h : ∀ (kV doc pm : Value) (an : Option Addr) (cdv ct : Value) (us : List Value), us.length = ps.length → bindArgs (PySem.W.fnOf x qual (defArgs st) (defBody st) (defScope st) .none kV doc pm an cdv ct) ⟨us, []⟩ = pure (ps.zip us)) : CalX P w K mg base k x sp := ⟨f, fd, ps, G, g, F.kp, F.binds h⟩
theorem calKX_mk (F : Fun K x qual st f fd) (G : FnOk P w K mg base (L2.CX P w) k f fd ps sp) (g : mg x = some (.ref f)) (h0 : 0 < ps.length)
    (h : ∀ (kV doc pm : Value) (an : Option Addr) (cdv ct : Value) (ws : List Value), ws.length = ks.length → bindArgs (PySem.W.fnOf x qual (defArgs st) (defBody st) (defScope st) .none kV doc pm an cdv ct) ⟨[], ks.zip ws⟩ = pure (ps.zip (gPV ks.length perm [] ws))) : CalKX P w K mg base k x sp ks perm := by
  have ⟨_, _, kV, doc, pm, an, cdv, ct, _, hfd, _, _⟩ := F.ex
  subst hfd
  refine ⟨f, _, ps, G, g, F.kp, ⟨fun s us ws _ hl => ?_, gPV_rel⟩⟩
  by_cases c : us.length = 0 ∧ ws.length = ks.length
  · obtain rfl : us = [] := List.length_eq_zero_iff.mp c.1
    exact .of_eq (h kV doc pm an cdv ct ws c.2)
  · unfold gPV at hl
    rw [if_neg c] at hl
    exact absurd hl (by simp; omega)
end
section
variable {X : Cx} {k j : Nat} {x : Str} {sp : Sp} {ks : List Str} {perm : List Nat} {p pos : Pos} {e : Expr} {es : List Expr} {kws : List Keyword} {t tk : TA} {E : XK}
theorem pe_cX (c : CalX X.prog X.w X.K X.mg X.base k x sp) (hr : Room j X.A) (hk : k ≤ j) (hg : Gl X x) (hx : Passes (L2.CX X.prog X.w) X E) (ha : PA X (e :: es) t)
    (hdb : (x == ("__debug__" : Str)) = false := by decide) (he : starEach (e :: es) X.env = (false, eval e X.env) :: starEach es X.env := by rfl) (hpl : (backTo pos (starEach es X.env)).any (·.1) = false := by rfl) : PE X (.Call (.Name x p) (e :: es) [] pos) (tCall sp [] E t) := by
  have ⟨f, fd, ps, F, hm, kp, b⟩ := c.ex
  exact pe_call F (hr.mono hk) hg hm kp b .nil hx ha hdb he hpl
theorem pe_cKX (c : CalKX X.prog X.w X.K X.mg X.base k x sp ks perm) (hr : Room j X.A) (hk : k ≤ j) (hg : Gl X x) (hx : Passes (L2.CX X.prog X.w) X E) (hkw : PK X kws tk)
    (named : (backToKw pos (keywordEach kws X.env)).all (·.1.isSome) = true := by rfl) (names : (backToKw pos (keywordEach kws X.env)).filterMap (·.1) = ks := by rfl) (nodb : (x == ("__debug__" : Str)) = false := by decide)
    (noStar : ((backTo pos (starEach [] X.env)).any (·.1) || (backToKw pos (keywordEach kws X.env)).any (·.1.isNone)) = false := by rfl) : PE X (.Call (.Name x p) [] kws pos) (tCallK sp (gPV ks.length perm) E tNil tk) := by
  have ⟨f, fd, ps, ok, hmg, hkeep, hbinds⟩ := c.ex
  refine ⟨fun pins s σ H Q hI hQ => wpAny_Call_Name_kw (ld_glob hI hg hmg ?_ nodb)⟩
  refine PySem.W.callWith_KW0 (h₀ := X.base) hI.ok.mod.kin hkeep named (thn (hkw.run pos pins s σ H _ hI hQ) ?_) noStar
  rintro ws s2 ⟨zs, H2, hI2, hz, hQ2⟩
  refine ⟨hI2.kIn, ?_⟩
  rw [names]
  exact run_fnk ok (hr.mono hk) hbinds hx hI2 .nil hz hQ2
end
theorem inD_units {k : Nat} {A : Around} (hr : Room k A) : A.units + 65 < cLine := by have := hr.un; omega
/-- str(n) -/
def gStr : List V → Hp → VK → Prop := fun xs H Q => ∃ i, xs = [.int i] ∧ i.natAbs.log2 < 1920 ∧ Q (.str (toString i)) H
/-! ### the law's field -/
/-- which attribute of an error with a code is told -/
def fieldKey (code : Str) : Option Str :=
  if code ∈ (["InvalidList", "InvalidColumn", "InvalidBox", "InvalidSet", "InvalidCall"] : List Str) then some "at"
  else if code ∈ (["TooMany", "Full"] : List Str) then some "most"
  else if code ∈ (["TakenName", "UnknownName"] : List Str) then some "name"
  else if code = "InvalidPage" then some "line"
  else if code = "UnknownRow" then some "number"
  else if code ∈ (["OtherSchema", "OtherWidth", "NothingLeft"] : List Str) then none
  else some "given"
/-- what the error of the class C with the fields fs tells -/
def FieldIs (K : PySem.W.Frag) (C : Addr) (fs : List (Str × V)) (code : Str) (v : V) : Prop := match fieldKey code with
  | some key => PySem.W.findIn K (.ref C) key = some none ∧ fs.lookup key = some v
  | none => v = .non
theorem FieldIs.key {K : PySem.W.Frag} {C : Addr} {fs : List (Str × V)} {code key : Str} {v : V} (h : FieldIs K C fs code v) (e : fieldKey code = some key) : PySem.W.findIn K (.ref C) key = some none ∧ fs.lookup key = some v := by
  unfold FieldIs at h
  rw [e] at h
  exact h
theorem FieldIs.no {K : PySem.W.Frag} {C : Addr} {fs : List (Str × V)} {code : Str} {v : V} (h : FieldIs K C fs code v) (e : fieldKey code = none) : v = .non := by
  unfold FieldIs at h
  rw [e] at h
  exact h
def sp_field (K : PySem.W.Frag) (a : Addr) (cls : Value) (d : Option Addr) : Sp := fun vs H Q _ => ∃ (C dd : Addr) (fs : List (Str × V)) (code : Str) (v : V), vs = [.ref a] ∧ cls = .ref C ∧ XfC K C ∧ PySem.W.findIn K (.ref C) "code" = some none ∧ d = some dd ∧ H dd = some (.xd fs) ∧ fs.lookup ("code" : Str) = some (.str code) ∧ FieldIs K C fs code v ∧
  ∀ H', Ex H H' → Q v H'
def t_field_5 (K : PySem.W.Frag) (a : Addr) (cls : Value) (d : Option Addr) : TS :=
  (tRet (tIf (tTest (tOp (gIn K) (tXfA K a cls d "code" (tVar 0)) (tLst (tCons (tC (.str "OtherSchema")) (tCons (tC (.str "OtherWidth")) (tCons (tC (.str "NothingLeft")) tNil)))))) (tC .non) (tXfA K a cls d "given" (tVar 0))))
def t_field_4 (K : PySem.W.Frag) (a : Addr) (cls : Value) (d : Option Addr) : TS :=
  (tSeq (tIfS (tTest (tOp (gEq K) (tXfA K a cls d "code" (tVar 0)) (tC (.str "UnknownRow")))) (tRet (tXfA K a cls d "number" (tVar 0))) tNext)
  (t_field_5 K a cls d))
def t_field_3 (K : PySem.W.Frag) (a : Addr) (cls : Value) (d : Option Addr) : TS :=
  (tSeq (tIfS (tTest (tOp (gEq K) (tXfA K a cls d "code" (tVar 0)) (tC (.str "InvalidPage")))) (tRet (tXfA K a cls d "line" (tVar 0))) tNext)
  (t_field_4 K a cls d))
def t_field_2 (K : PySem.W.Frag) (a : Addr) (cls : Value) (d : Option Addr) : TS :=
  (tSeq (tIfS (tTest (tOp (gIn K) (tXfA K a cls d "code" (tVar 0)) (tLst (tCons (tC (.str "TakenName")) (tCons (tC (.str "UnknownName")) tNil))))) (tRet (tXfA K a cls d "name" (tVar 0))) tNext)
  (t_field_3 K a cls d))
def t_field_1 (K : PySem.W.Frag) (a : Addr) (cls : Value) (d : Option Addr) : TS :=
  (tSeq (tIfS (tTest (tOp (gIn K) (tXfA K a cls d "code" (tVar 0)) (tLst (tCons (tC (.str "TooMany")) (tCons (tC (.str "Full")) tNil))))) (tRet (tXfA K a cls d "most" (tVar 0))) tNext)
  (t_field_2 K a cls d))
def t_field (K : PySem.W.Frag) (a : Addr) (cls : Value) (d : Option Addr) : TS :=
  (tSeq (tIfS (tTest (tOp (gIn K) (tXfA K a cls d "code" (tVar 0)) (tLst (tCons (tC (.str "InvalidList")) (tCons (tC (.str "InvalidColumn")) (tCons (tC (.str "InvalidBox")) (tCons (tC (.str "InvalidSet")) (tCons (tC (.str "InvalidCall")) tNil)))))))) (tRet (tXfA K a cls d "at" (tVar 0))) tNext)
  (t_field_1 K a cls d))
section
variable {K : PySem.W.Frag} {σ : L2.St} {H : Hp} {Q : VK} {D : Ends} {a C dd : Addr} {n : Str} {te : TE}
theorem rd_xfA {cls : Value} {d : Option Addr} (q : te σ H fun x H1 => x = .ref a ∧ ∃ (C dd : Addr) (fs : List (Str × V)) (v : V), cls = .ref C ∧ XfC K C ∧ PySem.W.findIn K (.ref C) n = some none ∧ d = some dd ∧ H1 dd = some (.xd fs) ∧ fs.lookup n = some v ∧ Q v H1) : tXfA K a cls d n te σ H Q := q
theorem inV_strL (z : Str) : ∀ us : List Str, inV (.str z) (us.map V.str) = decide (z ∈ us)
  | [] => rfl
  | u :: us => by
    have ih := inV_strL z us
    unfold inV at ih ⊢
    rw [List.map_cons, List.any_cons, ih, show eqV (.str u) (.str z) = decide (u = z) from by
      show (u == z) = _
      by_cases h : u = z
      · subst h; rw [decide_eq_true rfl]; exact beq_self_eq_true u
      · rw [decide_eq_false h]; exact beq_eq_false_iff_ne.mpr h, ← Bool.decide_or]
    exact decide_eq_decide.mpr (by rw [List.mem_cons]; exact or_congr eq_comm Iff.rfl)
theorem flat_strsL (us : List Str) : (us.map V.str).all flatV = true := by
  rw [List.all_map]; exact List.all_eq_true.mpr fun _ _ => rfl
theorem rd_inLf {u : Addr} {us : List Str} {z : Str} (h : H u = some (.lst (us.map V.str))) (q : Q (.bl (decide (z ∈ us))) H) : gIn K (.str z) (.ref u) H Q := .inr ⟨u, _, rfl, .inl (sq_of h), rfl, flat_strsL us, by rw [if_neg Bool.false_ne_true, inV_strL]; exact q⟩
/-- code in [..], a new list -/
theorem rd_codeIn {us : List Str} {xs : List V} {z : Str} {P : Bool → Hp → Prop} (e : xs = us.map V.str) (hl : xs.length ≤ 1000) (q : ∀ H', Ex H H' → P (decide (z ∈ us)) H') : xs.length ≤ sizeLine ∧ ∀ p, H p = none → gIn K (.str z) (.ref p) (upd H p (.lst xs)) fun x H1 => ∃ k, x = .bl k ∧ P k H1 := by
  subst e
  exact ⟨sz_of (by omega), fun p hp => rd_inLf upd_same ⟨_, rfl, q _ (Ex.new hp)⟩⟩
theorem read_at {fs : List (Str × V)} {key : Str} {v : V} (xf : XfC K C) (h : PySem.W.findIn K (.ref C) key = some none) (hd : H dd = some (.xd fs)) (l : fs.lookup key = some v) (q : Q v H) : tXfA K a (.ref C) (some dd) key (tVar 0) [some (.ref a)] H Q := ⟨.ref a, rfl, rfl, C, dd, fs, v, rfl, xf, h, rfl, hd, l, q⟩
theorem sat_field {vs : List V} {cls : Value} {d : Option Addr} {E : XK} (h : sp_field K a cls d vs H Q E) : vs.length = 1 ∧ t_field K a cls d { nx := fun _ H' => Q .non H', rt := Q } (vs.map some ++ List.replicate (1 - vs.length) none) H := by
  obtain ⟨C, dd, fs, code, v, rfl, rfl, xf, nC, rfl, hd, hc, hf, q⟩ := h
  refine ⟨rfl, ?_⟩
  unfold t_field
  walk_at "go"
  refine read_at xf nC hd hc ?_
  walk_at "go"
  refine rd_codeIn (us := ["InvalidList", "InvalidColumn", "InvalidBox", "InvalidSet", "InvalidCall"]) rfl (by decide) fun H1 e1 => ?_
  refine rd_dec (fun c1 => ?_) (fun c1 => ?_)
  · walk_at "go"
    have ⟨f1, f2⟩ := hf.key (key := "at") (by unfold fieldKey; rw [if_pos c1])
    exact read_at xf f1 (e1 _ _ hd) f2 (q _ e1)
  walk_at "go"
  unfold t_field_1
  walk_at "go"
  refine read_at xf nC (e1 _ _ hd) hc ?_
  walk_at "go"
  refine rd_codeIn (us := ["TooMany", "Full"]) rfl (by decide) fun H2 e2 => ?_
  have e12 := e1.trans e2
  refine rd_dec (fun c2 => ?_) (fun c2 => ?_)
  · walk_at "go"
    have ⟨f1, f2⟩ := hf.key (key := "most") (by unfold fieldKey; rw [if_neg c1, if_pos c2])
    exact read_at xf f1 (e12 _ _ hd) f2 (q _ e12)
  walk_at "go"
  unfold t_field_2
  walk_at "go"
  refine read_at xf nC (e12 _ _ hd) hc ?_
  walk_at "go"
  refine rd_codeIn (us := ["TakenName", "UnknownName"]) rfl (by decide) fun H3 e3 => ?_
  have e13 := e12.trans e3
  refine rd_dec (fun c3 => ?_) (fun c3 => ?_)
  · walk_at "go"
    have ⟨f1, f2⟩ := hf.key (key := "name") (by unfold fieldKey; rw [if_neg c1, if_neg c2, if_pos c3])
    exact read_at xf f1 (e13 _ _ hd) f2 (q _ e13)
  walk_at "go"
  unfold t_field_3
  walk_at "go"
  refine read_at xf nC (e13 _ _ hd) hc ?_
  walk_at "go"
  refine rd_dec (fun c4 => ?_) (fun c4 => ?_)
  · walk_at "go"
    have ⟨f1, f2⟩ := hf.key (key := "line") (by unfold fieldKey; rw [if_neg c1, if_neg c2, if_neg c3, if_pos c4])
    exact read_at xf f1 (e13 _ _ hd) f2 (q _ e13)
  walk_at "go"
  unfold t_field_4
  walk_at "go"
  refine read_at xf nC (e13 _ _ hd) hc ?_
  walk_at "go"
  refine rd_dec (fun c5 => ?_) (fun c5 => ?_)
  · walk_at "go"
    have ⟨f1, f2⟩ := hf.key (key := "number") (by unfold fieldKey; rw [if_neg c1, if_neg c2, if_neg c3, if_neg c4, if_pos c5])
    exact read_at xf f1 (e13 _ _ hd) f2 (q _ e13)
  walk_at "go"
  unfold t_field_5
  walk_at "go"
  refine read_at xf nC (e13 _ _ hd) hc ?_
  walk_at "go"
  refine rd_codeIn (us := ["OtherSchema", "OtherWidth", "NothingLeft"]) rfl (by decide) fun H4 e4 => ?_
  have e14 := e13.trans e4
  refine rd_dec (fun c6 => ?_) (fun c6 => ?_)
  · walk_at "go"
    have e := hf.no (by unfold fieldKey; rw [if_neg c1, if_neg c2, if_neg c3, if_neg c4, if_neg c5, if_pos c6])
    subst e
    exact q _ e14
  · walk_at "go"
    have ⟨f1, f2⟩ := hf.key (key := "given") (by unfold fieldKey; rw [if_neg c1, if_neg c2, if_neg c3, if_neg c4, if_neg c5, if_neg c6])
    exact read_at xf f1 (e14 _ _ hd) f2 (q _ e14)
end

/-! The law's try: a def that calls what it got and tells the error's code and attribute. -/
def baseErrs (K : PySem.W.Frag) : List Value := [.ref (cls_at K "EntryError"), .ref (cls_at K "Missing"), .ref (cls_at K "NothingLeft")]
/-- an error class of the program -/
class ExcOk (K : PySem.W.Frag) (x fl : Str) : Prop where
  xf : XfC K (cls_at K x)
  nC : PySem.W.findIn K (.ref (cls_at K x)) "code" = some none
  nF : PySem.W.findIn K (.ref (cls_at K x)) fl = some none
  mt : PySem.W.exmAny K (.ref (cls_at K x)) (baseErrs K) = some true
/-- return (e.code, field(e)) -/
def t_tryE (K : PySem.W.Frag) : Addr → Value → Option Addr → TS := fun a cls d => tRet (tTup (tCons (tXfA K a cls d "code" (tVar 1)) (tCons (tCallE (sp_field K a cls d) (tCons (tVar 1) tNil)) tNil)))
/-- try: return ("", ask()) / except ..: the above -/
def t_try (K : PySem.W.Frag) (f : Addr) (tl : XK → Hp → VK → Prop) : TS := fun D σ H => tRet (tTup (tCons (tC (.str "")) (tCons (tAsk 0 f tl (wAsT K (baseErrs K) 1 (t_tryE K) D)) tNil))) D σ H
def rTry (K : PySem.W.Frag) (f : Addr) (tl : XK → Hp → VK → Prop) (H : Hp) (Q : VK) : Prop := t_try K f tl { nx := fun _ H' => Q .non H', rt := Q } [some (.ref f), none] H
/-- what a raised error comes to -/
def tryW (K : PySem.W.Frag) (f : Addr) (Q : VK) : XK := fun cls d H => wAsT K (baseErrs K) 1 (t_tryE K) { nx := fun _ H' => Q .non H', rt := Q } cls d [some (.ref f), none] H
theorem rd_try {K : PySem.W.Frag} {f : Addr} {tl : XK → Hp → VK → Prop} {H : Hp} {Q : VK} (q : tl (tryW K f Q) H fun v H1 => [V.str "", v].length ≤ sizeLine ∧ ∀ p, H1 p = none → Q (.ref p) (upd H1 p (.tup [.str "", v]))) : rTry K f tl H Q := ⟨rfl, q⟩
theorem rd_tryE {K : PySem.W.Frag} {f dd : Addr} {x fl : Str} {v : V} {H : Hp} {Q : VK} (X : ExcOk K x fl) (hd : H dd = some (.xd (excF x fl v))) (hk : fieldKey x = some fl) (hn : fl ≠ "code") (q : ∀ H', Ex H H' → ∀ p, H' p = none → Q (.ref p) (upd H' p (.tup [.str x, v]))) :
    tryW K f Q (.ref (cls_at K x)) (some dd) H := by
  refine ⟨X.mt, fun a na => ?_⟩
  refine ⟨.ref a, rfl, rfl, _, dd, _, .str x, rfl, X.xf, X.nC, rfl, hd, excF_code x fl v, ?_⟩
  refine ⟨.ref a, rfl, ?_⟩
  refine ⟨_, dd, _, x, v, rfl, rfl, X.xf, X.nC, rfl, hd, excF_code x fl v, ?_, fun H' e => ⟨(by show 2 ≤ sizeLine; decide), q H' e⟩⟩
  unfold FieldIs
  rw [hk]
  exact ⟨X.nF, excF_fl v hn⟩
/-- the law's field, callable in a suite -/
structure FldOk (P : Program) (w : World) (K : PySem.W.Frag) (mg : Str → Option Value) (base : Heap) (k : Nat) (x : Str) : Prop where
  ex : ∃ f fd, FnE P w K mg base k f fd ["_law_e"] (sp_field K) ∧ mg x = some (.ref f) ∧ PySem.W.keepIn K (.ref f) = true ∧ Binds K fd ["_law_e"] []
/-- the law's try: j what the lambdas may take -/
structure TryOk (P : Program) (w : World) (K : PySem.W.Frag) (mg : Str → Option Value) (base : Heap) (k j : Nat) (x : Str) : Prop where
  ex : ∃ g, mg x = some (.ref g) ∧ PySem.W.keepIn K (.ref g) = true ∧ ∀ (A : Around) (outer : List Env) (s : Shared) (H : Hp) (f : Addr) (tl : XK → Hp → VK → Prop) (Q : VK), Room k A → Env0 P w K mg base A outer s H → CanCall P w K mg base j outer s H f tl → rTry K f tl H Q →
    codeAny (model P w) A (.call (.ref g) ⟨[.ref f], []⟩) (CR C8.CX0 outer P w H s Q C8.E0) s
theorem try_mk {P : Program} {w : World} {K : PySem.W.Frag} {mg : Str → Option Value} {base : Heap} {k j : Nat} {x qual : Str} {st : Stmt} {g : Addr} {fd : FuncData} (F : Fun K x qual st g fd) (S : FnScope ["_law_ask", "_law_e"] ["_law_ask"] (defScope st)) (gm : mg x = some (.ref g))
    (hb : ∀ (kV doc pm : Value) (an : Option Addr) (cdv ct : Value) (u : Value), bindArgs (PySem.W.fnOf x qual (defArgs st) (defBody st) (defScope st) .none kV doc pm an cdv ct) ⟨[u], []⟩ = pure [(("_law_ask" : Str), u)])
    (body : ∀ (cdv : Value) (A : Around) (outer : List Env) (s : Shared) (H : Hp) (f : Addr) (tl : XK → Hp → VK → Prop), Room k (A.deeper (envOfC qual (defScope st) s.heap.objs.size g cdv)) → CanCall P w K mg base j outer s H f tl →
      PSs (cxOf C8.CX0 P w K mg base ["_law_ask", "_law_e"] qual (defScope st) g cdv A outer s H C8.E0) (defBody st) (t_try K f tl)) : TryOk P w K mg base (k + 1) j x := by
  obtain ⟨oc, od, kV, doc, pm, an, cdv, ct, osl, rfl, lk, hcd⟩ := F.ex; refine ⟨g, gm, F.kp, fun A outer s H f tl Q hr e0 c h => ?_⟩
  refine LamX.run_ofS (N := ["_law_ask", "_law_e"]) (ps := ["_law_ask"]) (us := [.ref f]) (vs := [.ref f]) lk hcd S hr e0 (BindsTo.of_eq (hb ..)) (.cons rfl .nil) rfl fun hr' => ⟨_, body cdv A outer s H f tl hr' c, h⟩
/-- the body's one statement -/
theorem pss_ask {X : Cx} {pn : List (Addr × Obj)} {xe : Value → Shared → Prop} {W : WX} {k : Nat} {f : Addr} {a : Str} {p1 p2 p3 pos p4 : Pos} {kk k2 : Nat} {tl : XK → Hp → VK → Prop} (c : CanCall X.prog X.w X.K X.mg X.base k X.outer X.s_0 X.H_0 f tl) (hex : X.ex = []) (tk : Takes (X.tr pn xe) W) (hr : Room k X.A)
    (hN : X.N[0]? = some a) (hv : Vis X.env.scope a) (hd : (a == ("__debug__" : Str)) = false) (hcd : (a == ("__classdict__" : Str)) = false) :
    PSs (X.tr pn xe) [.Return (some (.Tuple [.Constant (.str "") k2 p4, .Call (.Name a p1) [] [] p2] kk p3)) pos] (tRet (tTup (tCons (tC (.str "")) (tCons (tAsk 0 f tl W) tNil)))) :=
  pss_one (ps_ret (pe_tup (pa_cons pe_str (pa_cons (pe_ask c hex tk hr hN hv hd hcd) pa_nil))))
/-- try(lambda: e) -/
def tTryL (lw : LamW) (i : Nat) (K : PySem.W.Frag) (tb : XK → TE) : TE := fun σ H Q => tLamE lw i σ H fun x H1 => ∃ f, x = .ref f ∧ LamAt lw i H1 f ∧ rTry K f (fun E H' Q' => LamAt lw i H' f ∧ tb E σ H' Q') H1 Q
section
variable {X : Cx} {lw : LamW} {i j kt kk : Nat} {params : Arguments} {body : Expr} {scope : Scope} {dflt : Bool} {cl : Addr} {x : Str} {p lpos pos : Pos} {tb : XK → TE}
theorem pe_tryL (TR : TryOk X.prog X.w X.K X.mg X.base kt (j + 1) x) (LX : LamX1 X lw cl) (L : LamN X.N X.env.scope ⟨params, body, scope, dflt⟩) (ho : lw.o i = lamO X ⟨params, body, scope, dflt⟩) (hd : lw.d i = dflt) (hr : Room kk X.A) (hk : kt ≤ kk) (hg : Gl X x)
    (hbody : ∀ (A : Around) (outer : List Env) (s : Shared) (H : Hp) (E : XK) (f c : Addr), Room j (A.deeper (LamX.lamEnv X scope s.heap.objs.size f c)) → PE (LamX.lamCx X A outer s H E scope f c) body (tb E)) (hdb : (x == ("__debug__" : Str)) = false := by decide) :
    PE X (.Call (.Name x p) [.Lambda params body scope lpos] [] pos) (tTryL lw i X.K tb) := by
  obtain ⟨g, hm, hkp, run⟩ := TR.ex
  refine ⟨fun pins s σ H Q I h => wpAny_Call_Name_kw (ld_glob I hg hm ?_ hdb)⟩
  refine PySem.W.callWith_K (h₀ := X.base) I.ok.mod.kin hkp ?_ (by rfl) (by rfl)
  show wpAny _ _ (spliced ((false, eval (.Lambda params body scope lpos) X.env) :: backTo pos (starEach [] X.env))) _ _ s; refine Calls.spliced_cons (thn ((pe_lam (T := ⟨params, body, scope, dflt⟩) (pos := lpos) LX L ho hd).run pins s σ H _ I h) fun u s1 ⟨v, H1, I1, r1, f, ev, la, q⟩ => Calls.spliced_nil ⟨I1.kIn, ?_⟩)
  subst ev
  obtain rfl : u = Value.ref f := r1; have cc := can_lam (f := f) (tb := tb) I1 L ho hd LX.q hbody
  refine wpAny_call (codeAny_mono (run X.A X.stack s1 H1 f _ Q (hr.mono hk) I1.env0 cc q) fun r s2 hq => ?_)
  cases r with
  | error _ => exact False.elim hq
  | ok fl => cases fl <;> first | exact I1.after hq | exact False.elim hq
end
section
variable {N : List Str} {sc : Scope} {params : Arguments} {body : Expr} {scope : Scope}
theorem lamN_part {T : LamTx} (h : lamNB N sc T = true) : T.scope.kind = .function ∧ T.scope.isCoroutine = false ∧ T.scope.isGenerator = false ∧ (∀ y ∈ T.scope.names, y.2 ≠ .cell) ∧ (∀ y ∈ T.scope.names, y.2 = .local → y.1 ∉ N) ∧
    ∀ y ∈ T.scope.names, y.2 = .free → sc.names.lookup y.1 = some .cell ∨ sc.names.lookup y.1 = some .free := by
  unfold lamNB at h
  simp only [Bool.and_eq_true, Bool.or_eq_true, Bool.not_eq_true', decide_eq_true_eq, decide_eq_false_iff_not, List.all_eq_true] at h; obtain ⟨⟨⟨h1, h2⟩, h3⟩, h4⟩ := h
  refine ⟨h1, h2, h3, fun y hy => (h4 y hy).1.1, fun y hy e => (h4 y hy).1.2.resolve_left (fun z => z e), fun y hy e => ?_⟩; rcases (h4 y hy).2 with (z | z) | z
  · exact absurd e z
  · exact .inl z
  · exact .inr z
theorem lamN0 (h : lamNB N sc ⟨params, body, scope, false⟩ = true) (kw : params.kwonlyargs = [] := by rfl) (d : ∀ env, defaultsOf params env = ([], []) := by intro _; rfl)
    (b : ∀ (q : Str) (cl : List (Str × Addr)) (doc pm cv ctv : Value), bindArgs (PySem.W.kdv_fn "<lambda>" q params (.expr body) scope cl .none doc pm cv ctv) ⟨[], []⟩ = pure [] := by intros; rfl) : LamN N sc ⟨params, body, scope, false⟩ :=
  have ⟨h1, h2, h3, h4, h5, h6⟩ := lamN_part h
  ⟨h1, h2, h3, h4, h5, h6, kw, fun _ => ⟨d, b⟩, fun z => Bool.noConfusion z⟩
theorem lamN1 {nm : Str} {k : Nat} {p : Pos} (h : lamNB N sc ⟨params, body, scope, true⟩ = true) (kw : params.kwonlyargs = [] := by rfl) (d : ∀ env, defaultsOf params env = ([eval (.Constant (.int 0) k p) env], []) := by intro _; rfl) (hn : scope.names.lookup nm = some .local := by rfl)
    (b : ∀ (D : Addr) (q : Str) (cl : List (Str × Addr)) (doc pm cv ctv : Value) (tk : Tok), ∃ k, bindArgs (PySem.W.kdv_fn "<lambda>" q params (.expr body) scope cl (.ref D) doc pm cv ctv) ⟨[], []⟩ = seqItems? (.ref D) >>= k ∧ k (some #[.int 0 tk]) = pure [(nm, .int 0 tk)] := by intros; exact ⟨_, rfl, rfl⟩) : LamN N sc ⟨params, body, scope, true⟩ :=
  have ⟨h1, h2, h3, h4, h5, h6⟩ := lamN_part h
  ⟨h1, h2, h3, h4, h5, h6, kw, fun z => Bool.noConfusion z, fun _ => ⟨⟨k, p, d⟩, nm, hn, b⟩⟩
end

/-! Numbers and their texts, as lists of codes. -/
open PySem PySem.Spec PyProof.Rows L2 Evl RZ NumText
def figL : List Nat := [48, 49, 50, 51, 52, 53, 54, 55, 56, 57]
def allD (f : List Nat) : Bool := f.all fun c => decide (c ∈ figL)
theorem figL_iff (c : Nat) : c ∈ figL ↔ (48 ≤ c ∧ c ≤ 57) := by
  simp only [figL, List.mem_cons, List.not_mem_nil, or_false]
  omega
theorem allD_iff {f : List Nat} : allD f = true ↔ AllDigits f := by
  unfold allD AllDigits
  rw [List.all_eq_true]
  exact ⟨fun h c hc => (figL_iff c).mp (of_decide_eq_true (h c hc)), fun h c hc => decide_eq_true ((figL_iff c).mpr (h c hc))⟩
/-- the text of a number -/
def intL (i : Int) : List Nat := if 0 ≤ i then TL.numL i.toNat else 45 :: TL.numL (-i).toNat
theorem cps_ofString (s : String) : (Str.ofString s).cps.toList = s.toList.map Char.toNat := signs_ofString s
theorem str_int (i : Int) : Str.ofString (toString i) = SX.S (intL i) := by
  unfold intL
  by_cases h : 0 ≤ i
  · rw [if_pos h]
    obtain ⟨n, rfl⟩ := Int.eq_ofNat_of_zero_le h
    exact SX.num_S n
  · rw [if_neg h]
    obtain ⟨n, rfl⟩ : ∃ n : Nat, i = Int.negSucc n := ⟨(-i).toNat - 1, by omega⟩
    refine TL.ext_tl ?_
    show (Str.ofString (toString (Int.negSucc n))).cps.toList = 45 :: TL.numL (n + 1)
    rw [cps_ofString]
    have e : toString (Int.negSucc n) = "-" ++ toString (n + 1) := rfl
    rw [e, String.toList_append, List.map_append]
    show 45 :: (toString (n + 1)).toList.map Char.toNat = _
    congr 1
    show (Nat.repr (n + 1)).toList.map Char.toNat = _
    rw [Nat.toList_repr]
    rfl
theorem numL_zero : TL.numL 0 = [48] := by rw [TL.numL_lt (by decide)]
theorem numL_head : ∀ n : Nat, 0 < n → (TL.numL n).head? ≠ some 48 := by
  intro n; induction n using Nat.strongRecOn with
  | _ n ih =>
    intro h0
    by_cases h : n < 10
    · rw [TL.numL_lt h]
      intro z
      have z : 48 + n = 48 := Option.some.inj z
      omega
    · rw [TL.numL_step (by omega)]
      have z := ih (n / 10) (by omega) (by omega)
      have ne := TL.numL_ne (n / 10)
      cases e : TL.numL (n / 10) with
      | nil => exact absurd e ne
      | cons c r => rw [e] at z; exact z
theorem ofNat_toNat : ∀ (cs : List Nat), AllDigits cs → (cs.map Char.ofNat).map Char.toNat = cs
  | [], _ => rfl
  | c :: cs, h => by
    rw [List.map_cons, List.map_cons, ofNat_toNat cs h.tail]
    have hc := h.head
    have e : ∀ d : Nat, d < 10 → (Char.ofNat (48 + d)).toNat = 48 + d := by decide
    have e2 := e (c - 48) (by omega)
    rw [show 48 + (c - 48) = c by omega] at e2
    rw [e2]
/-- a number's digits are its text, but for noughts ahead -/
theorem numL_of {f : List Nat} (hd : AllDigits f) (hne : f ≠ []) : TL.numL (digitsVal f) = f ↔ (f.head? ≠ some 48 ∨ f = [48]) := by
  cases f with
  | nil => exact absurd rfl hne
  | cons c r =>
    by_cases hc : c = 48
    · subst hc
      refine ⟨fun e => .inr ?_, fun h => ?_⟩
      · by_cases hv : digitsVal (48 :: r) = 0
        · rw [hv, numL_zero] at e
          exact e.symm
        · have z := numL_head _ (by omega : 0 < digitsVal (48 :: r))
          rw [e] at z
          exact absurd rfl z
      · rcases h with h | h
        · exact absurd rfl h
        · rw [h]
          exact numL_zero
    · refine ⟨fun _ => .inl fun z => hc (Option.some.inj z), fun _ => ?_⟩
      have hh := hd.head
      have e := toDigits_digitsVal r.length (c :: r) rfl hd (.inr ⟨c, r, rfl, by omega⟩)
      show (Nat.toDigits 10 (digitsVal (c :: r))).map Char.toNat = _
      rw [e]
      exact ofNat_toNat _ hd
/-! ### a word -/
def figs (w : List Nat) : List Nat := if w.take 1 = [45] then w.drop 1 else w
def valW (w : List Nat) : Int := if w.take 1 = [45] then -((digitsVal (figs w) : Nat) : Int) else ((digitsVal (figs w) : Nat) : Int)
def readNum (w : List Nat) : Option Int := if figs w = [] ∨ allD (figs w) = false then none else if (figs w).head? = some 48 ∧ w ≠ [48] then none else some (valW w)
theorem minus_of {w : List Nat} (h : w.take 1 = [45]) : w = 45 :: w.drop 1 := by
  cases w with
  | nil => cases h
  | cons c r =>
    have e : c = 45 := (List.cons.inj (show [c] = [45] from h)).1
    rw [e]
    rfl
theorem figs_len (w : List Nat) : (figs w).length ≤ w.length := by
  unfold figs
  split
  · rw [List.length_drop]; omega
  · exact Nat.le_refl _
theorem int_text {w : List Nat} (hne : figs w ≠ []) (hd : allD (figs w) = true) (hl : w.length ≤ 4300) : intText? (SX.S w) = some (valW w) := by
  have hD := allD_iff.mp hd
  unfold valW
  by_cases h : w.take 1 = [45]
  · rw [if_pos h]
    have ef : figs w = w.drop 1 := if_pos h
    have e := minus_of h
    exact intText_neg (x := SX.S w) (cs := figs w) (by rw [ef]; exact e) hD hne (by rw [SX.S_len]; exact hl)
  · rw [if_neg h]
    have ef : figs w = w := if_neg h
    rw [ef] at hD hne ⊢
    exact intText_digits (x := SX.S w) hD hne (by rw [SX.S_len]; exact hl)
theorem canon {w : List Nat} (hne : figs w ≠ []) (hd : allD (figs w) = true) : intL (valW w) = w ↔ ¬ ((figs w).head? = some 48 ∧ w ≠ [48]) := by
  have hD := allD_iff.mp hd
  have key := numL_of hD hne
  unfold valW
  by_cases h : w.take 1 = [45]
  · rw [if_pos h]
    have ef : figs w = w.drop 1 := if_pos h
    have e := minus_of h
    have w48 : w ≠ [48] := fun z => by rw [z] at h; exact absurd h (by decide)
    by_cases hv : digitsVal (figs w) = 0
    · rw [hv]
      have h0 : (figs w).head? = some 48 := by
        cases hf : figs w with
        | nil => exact absurd hf hne
        | cons c r =>
          by_cases hc : c = 48
          · rw [hc]; rfl
          · have z := digitsVal_pos (cs := r) (show 49 ≤ c by have := hD c (by rw [hf]; exact List.mem_cons_self ..); omega)
            rw [← hf, hv] at z
            exact absurd z (by decide)
      refine ⟨fun z => ?_, fun z => absurd ⟨h0, w48⟩ z⟩
      have z : TL.numL 0 = w := z
      rw [numL_zero] at z
      exact absurd z.symm w48
    · have en : intL (-((digitsVal (figs w) : Nat) : Int)) = 45 :: TL.numL (digitsVal (figs w)) := by
        unfold intL
        rw [if_neg (by omega), Int.neg_neg, Int.toNat_natCast]
      rw [en]
      have e2 : (45 :: TL.numL (digitsVal (figs w)) = w) ↔ (figs w).head? ≠ some 48 := by
        constructor
        · intro z hh
          rw [e, ← ef] at z
          rcases key.mp (List.cons.inj z).2 with k | k
          · exact k hh
          · rw [k] at hv
            exact hv rfl
        · intro hh
          rw [key.mpr (.inl hh), ef]
          exact e.symm
      rw [e2]
      exact ⟨fun a b => a b.1, fun a b => a ⟨b, w48⟩⟩
  · rw [if_neg h]
    have ef : figs w = w := if_neg h
    rw [ef] at key ⊢
    have en : intL ((digitsVal w : Nat) : Int) = TL.numL (digitsVal w) := by
      unfold intL; rw [if_pos (by omega), Int.toNat_natCast]
    rw [en, key]
    constructor
    · rintro (a | a) ⟨b, c⟩
      · exact a b
      · exact c a
    · intro a
      by_cases b : w = [48]
      · exact .inr b
      · exact .inl fun z => a ⟨z, b⟩
theorem intL_digits (i : Int) : figs (intL i) = TL.numL i.natAbs ∧ valW (intL i) = i := by
  have hn : ∀ n : Nat, (TL.numL n).take 1 ≠ [45] := fun n z => by
    cases e : TL.numL n with
    | nil => exact TL.numL_ne n e
    | cons c r =>
      rw [e] at z
      have := (TL.numL_digits n) c (by rw [e]; exact List.mem_cons_self ..)
      have z2 : c = 45 := (List.cons.inj (show [c] = [45] from z)).1
      omega
  unfold intL
  by_cases h : 0 ≤ i
  · rw [if_pos h]
    have e : figs (TL.numL i.toNat) = TL.numL i.toNat := if_neg (hn _)
    unfold valW
    rw [if_neg (hn _), e, TL.numL_val]
    exact ⟨by congr 1; omega, by omega⟩
  · rw [if_neg h]
    have e : figs (45 :: TL.numL (-i).toNat) = TL.numL (-i).toNat := if_pos rfl
    unfold valW
    rw [if_pos (show (45 :: TL.numL (-i).toNat).take 1 = [45] from rfl), e, TL.numL_val]
    exact ⟨by congr 1; omega, by omega⟩
theorem readNum_intL (i : Int) : readNum (intL i) = some i := by
  obtain ⟨e1, e2⟩ := intL_digits i
  have hne : figs (intL i) ≠ [] := by rw [e1]; exact TL.numL_ne _
  have hd : allD (figs (intL i)) = true := by rw [e1]; exact allD_iff.mpr (TL.numL_digits _)
  unfold readNum
  rw [if_neg (fun z => z.elim hne (fun z => by rw [hd] at z; cases z)), if_neg ((canon hne hd).mp (by rw [e2])), e2]
theorem intL_free {i : Int} {c : Nat} (h : c < 45 ∨ 57 < c ∨ c = 46 ∨ c = 47) : c ∉ intL i := by
  unfold intL
  split
  · exact TL.numL_free (by omega)
  · intro z
    exact (List.mem_cons.mp z).elim (fun z => by omega) (TL.numL_free (by omega))
theorem intL_ne (i : Int) : intL i ≠ [] := by
  unfold intL
  split
  · exact TL.numL_ne _
  · exact List.cons_ne_nil _ _
theorem intL_len {i : Int} {k : Nat} (hk : 0 < k) (h : i.natAbs < 10 ^ k) : (intL i).length ≤ k + 1 := by
  unfold intL
  split
  · have := TL.numL_len hk (show i.toNat < 10 ^ k by omega)
    omega
  · have := TL.numL_len hk (show (-i).toNat < 10 ^ k by omega)
    rw [List.length_cons]
    omega
theorem digitsVal_lt : ∀ (f : List Nat), AllDigits f → digitsVal f < 10 ^ f.length := by
  have g : ∀ (f : List Nat) (a : Nat), AllDigits f → f.foldl (fun acc c => acc * 10 + (c - 48)) a < (a + 1) * 10 ^ f.length := by
    intro f
    induction f with
    | nil => intro a _; simp
    | cons c f ih =>
      intro a h
      have hc := h.head
      rw [List.foldl_cons, List.length_cons, Nat.pow_succ]; refine Nat.lt_of_lt_of_le (ih _ h.tail) ?_
      have e : a * 10 + (c - 48) + 1 ≤ (a + 1) * 10 := by omega
      have := Nat.mul_le_mul_right (10 ^ f.length) e
      rw [Nat.mul_assoc, Nat.mul_comm 10] at this
      exact this
  intro f h
  have := g f 0 h
  rw [Nat.zero_add, Nat.one_mul] at this
  exact this
theorem val_log {w : List Nat} (hd : allD (figs w) = true) (hl : w.length ≤ 300) : (valW w).natAbs.log2 < 1920 := by
  have h1 := digitsVal_lt _ (allD_iff.mp hd)
  have h2 := figs_len w
  have e : (valW w).natAbs = digitsVal (figs w) := by unfold valW; split <;> omega
  rw [e]
  by_cases h0 : digitsVal (figs w) = 0
  · rw [h0]; decide
  · rw [Nat.log2_lt h0]
    refine Nat.lt_of_lt_of_le h1 (Nat.le_trans (Nat.pow_le_pow_right (by decide) (Nat.le_trans h2 hl)) ?_)
    decide +kernel
/-- the law's look at a word -/
def numSo (w : List Nat) : Bool := !decide (figs w = []) && (allD (figs w) && decide (intL (valW w) = w))
theorem numSo_read (w : List Nat) : readNum w = if numSo w = true then some (valW w) else none := by
  unfold readNum numSo
  by_cases h1 : figs w = []
  · rw [if_pos (.inl h1), decide_eq_true h1]; rfl
  · cases h2 : allD (figs w) with
    | false => rw [if_pos (.inr rfl), Bool.false_and, Bool.and_false, if_neg Bool.false_ne_true]
    | true =>
      rw [if_neg (fun z => z.elim h1 (fun z => by cases z)), decide_eq_false h1]
      have k := canon h1 h2
      by_cases h3 : (figs w).head? = some 48 ∧ w ≠ [48]
      · rw [if_pos h3, decide_eq_false (fun z => k.mp z h3)]; rfl
      · rw [if_neg h3, decide_eq_true (k.mpr h3)]; rfl

/-! Texts as lists of codes, read. -/
section
variable {K : PySem.W.Frag} {σ : L2.St} {G H : Hp} {L : List (Addr × HO)} {Q : VK} {D : Ends} {w u : List Nat} {z : Str} {n : Nat}
theorem S_eq {a : List Nat} {z : Str} : SX.S a = z ↔ a = z.cps.toList := ⟨fun e => congrArg (fun s : Str => s.cps.toList) e, fun e => by subst e; exact SX.S_tl z⟩
theorem S_dec {a : List Nat} {z : Str} : decide (SX.S a = z) = decide (a = z.cps.toList) := decide_eq_decide.mpr S_eq
theorem S_inj {a b : List Nat} (h : SX.S a = SX.S b) : a = b := S_eq.mp h
theorem rd_slS0 {lo hi : Option Int} (h : z.length ≤ sizeLine) (q : Q (.str (cutS z lo hi)) H) : gSl K (.str z) lo hi H Q := .inr (.inl ⟨z, rfl, h, q⟩)
theorem rd_sliceTo (h : w.length ≤ 100000) (q : Q (.str (SX.S (w.take n))) H) : gSl K (.str (SX.S w)) none (some (n : Nat)) H Q := by
  refine rd_slS0 (by rw [SX.S_len]; exact sz_of h) ?_
  rw [C8.cutS_slice, SX.slice_to (Int.natCast_nonneg _), Int.toNat_natCast]
  exact q
theorem rd_sliceFrom (h : w.length ≤ 100000) (q : Q (.str (SX.S (w.drop n))) H) : gSl K (.str (SX.S w)) (some (n : Nat)) none H Q := by
  refine rd_slS0 (by rw [SX.S_len]; exact sz_of h) ?_
  rw [C8.cutS_slice, SX.slice_from (Int.natCast_nonneg _), Int.toNat_natCast]
  exact q
theorem rd_addSS (h : w.length + u.length ≤ 100000) (q : Q (.str (SX.S (w ++ u))) H) : gAdd K (.str (SX.S w)) (.str (SX.S u)) H Q := by
  refine rd_addS (by rw [SX.S_len, SX.S_len]; exact sz_of h) ?_
  rw [SX.S_cat]
  exact q
theorem rd_lenSS (h : w.length ≤ 100000) (q : Q (.int w.length) H) : gLen K [.str (SX.S w)] H Q := by
  refine rd_lenS (by rw [SX.S_len]; exact sz_of h) ?_
  rw [SX.S_len]
  exact q
theorem rd_inSg {c : Nat} (q : Q (.bl (decide (c ∈ z.cps.toList))) H) : gIn K (.str ⟨#[c]⟩) (.str z) H Q := .inl ⟨c, z, rfl, rfl, q⟩
theorem rd_ixSS {i c : Nat} (h : w.length ≤ 100000) (e : w[i]? = some c) (q : Q (.str (SX.S [c])) H) : rIx K (.str (SX.S w)) (.int (i : Nat)) H Q :=
  rd_ixS (by rw [SX.S_len]; exact sz_of h) (atI_nat e) q
end
section
variable {W : Hp → Hp → List (Addr × HO) → Prop} {K : PySem.W.Frag} {G H : Hp} {L : List (Addr × HO)} {σ : L2.St} {te : TE} {Q : VK} {w : List Nat} {j : Nat}
/-- [test of the sign for each sign of a text] -/
theorem lc_signs (hW : Wd W) (S : W G H L) (hz : w.length < 100000) (hw : ∀ x, wipe ((wipe σ [j]).set j (some x)) [j] = wipe σ [j]) (f : Nat → Bool)
    (hS : ∀ c acc D G1 H1, Ex G G1 → W G1 H1 ((D, .lst acc) :: L) → ∀ Kp : VK, (∀ H2, W G1 H2 ((D, .lst acc) :: L) → Kp (.bl (f c)) H2) → te ((wipe σ [j]).set j (some (.str ⟨#[c]⟩))) H1 Kp)
    (q : ∀ D G2 H2, Ex G G2 → W G2 H2 ((D, .lst ((w.map f).map V.bl)) :: L) → Q (.ref D) H2) : LcG (Its (SX.S w)) (gName j) tYes te [j] σ H Q := by
  have hs : (SX.S w).cps.size = w.length := by simp
  refine lc_go hW (walk_str (z := SX.S w)) S (by rw [hs]; omega) (fun i v _ => ∃ c, w[i]? = some c ∧ v = .str ⟨#[c]⟩) (fun i acc _ => acc = ((w.take i).map f).map V.bl) (fun _ _ => True.intro) ?_ rfl (fun _ _ _ _ _ h => h) ?_ ?_
  · rintro i x G1 H1 H2 L1 hi e1 S1 ⟨rfl, c, hc, rfl⟩
    exact ⟨G1, Ex.refl _, S1, c, by rw [← hc]; simp, rfl⟩
  · rintro D i x acc G1 H1 hi _ e1 S1 I1 ⟨c, hc, rfl⟩ Kp Sk kp sk
    refine rd_name ⟨hw _, rd_yes (rd_iT ?_)⟩
    refine hS c acc D G1 H1 e1 S1 _ fun H2 S2 => kp _ G1 H2 (Ex.refl _) S2 ?_
    rw [I1, List.take_add_one, hc, List.map_append, List.map_append]
    rfl
  · intro D acc G2 H2 e2 S2 I2 _
    rw [hs, List.take_length] at I2
    subst I2
    exact q D G2 H2 e2 S2
end

/-! Numbers and stretches read off texts. -/
open PySem PySem.Spec PyProof.Rows L2 Evl RZ NumText



def v_FIGURES : V := .str "0123456789"
section
variable {K : PySem.W.Frag} {σ : L2.St} {G H : Hp} {L : List (Addr × HO)} {Q : VK} {D : Ends}
def numD : Option Int → List PyData
  | none => []
  | some i => [.int i]
def sp_read_number (K : PySem.W.Frag) : Sp := fun vs H Q _ => ∃ (w : List Nat) (G : Hp) (L : List (Addr × HO)), vs = [.str (SX.S w)] ∧ w.length ≤ 300 ∧ Stt G H L ∧ ∀ v G' H', Ex G G' → Stt G' H' L → Dp K G' v (.list (numD (readNum w))) → Q v H'
def t_read_number_3 (K : PySem.W.Frag) : TS :=
  (tRet (tLst (tCons (tCB gInt (tCons (tVar 0) tNil)) tNil)))
def t_read_number_2 (K : PySem.W.Frag) : TS :=
  (tSeq (tIfS (tAnd (tTest (tOp (gEq K) (tOp (rIx K) (tVar 1) (tC (.int 0))) (tC (.str "0")))) (tTest (tOp (gNe K) (tVar 0) (tC (.str "0"))))) (tRet (tLst tNil)) tNext)
  (t_read_number_3 K))
def t_read_number_1 (K : PySem.W.Frag) : TS :=
  (tSeq (tIfS (tOr (tTest (tOp (gEq K) (tVar 1) (tC (.str "")))) (tNot (tB (tCB (rAll K) (tCons (tLc (iStr (tVar 1)) (gName 2) tYes (tOp (gIn K) (tVar 2) (tC v_FIGURES)) [2]) tNil))))) (tRet (tLst tNil)) tNext)
  (t_read_number_2 K))
def t_read_number (K : PySem.W.Frag) : TS :=
  (tSeq (tAsg (tIf (tTest (tOp (gEq K) (tSl (gSl K) (tVar 0) tNoPart (tPart (tC (.int 1)))) (tC (.str "-")))) (tSl (gSl K) (tVar 0) (tPart (tC (.int 1))) tNoPart) (tVar 0)) (gName 1))
  (t_read_number_1 K))
/-- the figures of a word, told -/
theorem rd_figs {w : List Nat} (hl : w.length ≤ 300) (hi : σ[0]? = some (some (.str (SX.S w)))) (q : Q (.str (SX.S (figs w))) H) :
    tIf (tTest (tOp (gEq K) (tSl (gSl K) (tVar 0) tNoPart (tPart (tC (.int 1)))) (tC (.str "-")))) (tSl (gSl K) (tVar 0) (tPart (tC (.int 1))) tNoPart) (tVar 0) σ H Q := by
  refine rd_if (rd_test (rd_op (rd_sl (rd_var hi (rd_noPart (rd_part (rd_c (rd_int ?_))))))))
  refine rd_sliceTo (n := 1) (by omega) ?_
  refine rd_c (rd_eqS (rd_bl ?_))
  rw [S_dec]
  refine rd_dec (fun e => ?_) (fun e => ?_)
  · refine rd_sl (rd_var hi (rd_part (rd_c (rd_int (rd_noPart ?_)))))
    refine rd_sliceFrom (n := 1) (by omega) ?_
    rw [show figs w = w.drop 1 from if_pos e] at q
    exact q
  · refine rd_var hi ?_
    rw [show figs w = w from if_neg e] at q
    exact q
/-- all of the signs are figures -/
theorem rd_allFigs {w : List Nat} {i j : Nat} {z : Str} (S : Stt G H L) (hz : z.cps.toList = figL) (hl : w.length ≤ 300) (hi : σ[i]? = some (some (.str (SX.S w)))) (hw : ∀ x, wipe ((wipe σ [j]).set j (some x)) [j] = wipe σ [j]) (hj : ∀ x, ((wipe σ [j]).set j (some x))[j]? = some (some x))
    (q : ∀ H', Stt G H' L → Q (.bl (allD w)) H') : tCB (rAll K) (tCons (tLc (iStr (tVar i)) (gName j) tYes (tOp (gIn K) (tVar j) (tC (.str z))) [j]) tNil) σ H Q := by
  refine rd_cb (rd_cons (rd_lc (rd_is (rd_var hi ⟨_, rfl, ?_⟩))))
  refine lc_signs stt_world S (by omega) hw (fun c => decide (c ∈ figL)) (fun c acc D1 G1 H1 e1 S1 Kp kp => ?_) (fun D1 G1 H1 e1 S1 => ?_)
  · refine rd_op (rd_var (hj _) (rd_c (rd_inSg ?_)))
    rw [hz]
    exact kp H1 S1
  · refine rd_nil ?_
    refine rd_all (sq_of (S1.at 0 rfl)) ?_
    have := q H1 (S1.drop.less e1)
    unfold allD at this
    rw [List.all_map]
    exact this
theorem figs_all {w : List Nat} (h : allD (figs w) = true) {c : Nat} {r : List Nat} (e : figs w = c :: r) : 48 ≤ c ∧ c ≤ 57 := allD_iff.mp h c (by rw [e]; exact List.mem_cons_self ..)
theorem read_read_number {w : List Nat} {a1 a2 : Option V} (S : Stt G H L) (hl : w.length ≤ 300) (q : ∀ v G' H', Ex G G' → Stt G' H' L → Dp K G' v (.list (numD (readNum w))) → D.rt v H') : t_read_number K D [some (.str (SX.S w)), a1, a2] H := by
  have fl := figs_len w
  have none_ : readNum w = none → ∀ H1, Stt G H1 L → tLst tNil [some (.str (SX.S w)), some (.str (SX.S (figs w))), a2] H1 D.rt := fun e H1 S1 => by
    walk_at "go"
    refine mk_lst stt_world S1 (Nat.zero_le _) fun p G2 e2 S2 h2 => ?_
    exact q _ G2 _ e2 S2 (by rw [e]; exact .lst (sq_of h2) .nil)
  unfold t_read_number
  refine rd_seq (rd_asg ?_)
  refine rd_figs hl rfl ?_
  walk_at "go"
  unfold t_read_number_1
  refine rd_seq (rd_ifs (rd_or (rd_test (rd_op (rd_var rfl (rd_c (rd_eqS (rd_bl ?_))))))))
  rw [S_dec]
  refine rd_dec (fun e => ?_) (fun e => ?_)
  · walk_at "go"
    exact none_ (by unfold readNum; rw [if_pos (.inl e)]) H S
  · refine rd_not (rd_B ?_)
    refine rd_allFigs (z := "0123456789") S rfl (by omega) rfl (fun _ => rfl) (fun _ => rfl) fun H1 S1 => ⟨_, rfl, ?_⟩
    cases hd : allD (figs w) with
    | false =>
      walk_at "go"
      exact none_ (by unfold readNum; rw [if_pos (.inr hd)]) H1 S1
    | true =>
      walk_at "go"
      unfold t_read_number_2
      obtain ⟨c, r, hf⟩ : ∃ c r, figs w = c :: r := by
        cases hf : figs w with
        | nil => exact absurd hf e
        | cons c r => exact ⟨c, r, rfl⟩
      have hne : figs w ≠ [] := e
      refine rd_seq (rd_ifs (rd_and (rd_test (rd_op (rd_op (rd_var rfl (rd_c ?_)))))))
      refine rd_ixSS (i := 0) (c := c) (by omega) (by rw [hf]; rfl) ?_
      refine rd_c (rd_eqS (rd_bl ?_))
      rw [S_dec]
      have last : ¬ ((figs w).head? = some 48 ∧ w ≠ [48]) → t_read_number_3 K D [some (.str (SX.S w)), some (.str (SX.S (figs w))), a2] H1 := fun h => by
        unfold t_read_number_3
        walk_at "go"
        refine .inr ⟨_, valW w, rfl, int_text hne hd (by omega), by rw [SX.S_len]; omega, ?_⟩
        walk_at "go"
        refine mk_lst stt_world S1 (by show 1 ≤ 100000; decide) fun p G2 e2 S2 h2 => ?_
        refine q _ G2 _ e2 S2 ?_
        have er : readNum w = some (valW w) := by unfold readNum; rw [if_neg (fun z => z.elim hne (fun z => by rw [hd] at z; cases z)), if_neg h]
        rw [er]
        exact .lst (sq_of h2) (.cons (.int _) .nil)
      have hh : (figs w).head? = some c := by rw [hf]; rfl
      refine rd_dec (fun e1 => ?_) (fun e1 => ?_)
      · have ec : c = 48 := (List.cons.inj (show [c] = [48] from e1)).1
        refine rd_test (rd_op (rd_var rfl (rd_c (rd_neS (rd_bl ?_)))))
        rw [S_dec]
        refine rd_decN (fun e2 => ?_) (fun e2 => ?_)
        · walk_at "go"
          have e2' : w = [48] := e2
          exact last fun h => h.2 e2'
        · walk_at "go"
          refine none_ ?_ H1 S1
          unfold readNum
          rw [if_neg (fun z => z.elim hne (fun z => by rw [hd] at z; cases z)), if_pos ⟨by rw [hh, ec], e2⟩]
      · walk_at "go"
        exact last fun h => e1 (by
          have z : c = 48 := Option.some.inj (hh.symm.trans h.1)
          rw [z]; rfl)
theorem sat_read_number {vs : List V} {E : XK} (h : sp_read_number K vs H Q E) : vs.length = 1 ∧ t_read_number K { nx := fun _ H' => Q .non H', rt := Q } (vs.map some ++ List.replicate (3 - vs.length) none) H := by
  obtain ⟨w, G, L, rfl, hl, S, q⟩ := h
  exact ⟨rfl, read_read_number S hl q⟩
/-! ### one side -/
def sideL : Option Int → List Nat
  | none => []
  | some i => intL i
/-- what a word writes as one side -/
def sideD (w : List Nat) : List PyData := if w = [] then [.none] else numD (readNum w)
def sp_side_text (K : PySem.W.Frag) : Sp := fun vs H Q _ => ∃ o : Option Int, vs = [oV o] ∧ (∀ i, o = some i → i.natAbs < 10 ^ 20) ∧ Q (.str (SX.S (sideL o))) H
def t_side_text (K : PySem.W.Frag) : TS :=
  (tRet (tIf (tTest (tOp rIsN (tVar 0) (tC .non))) (tC (.str "")) (tCB gStr (tCons (tVar 0) tNil))))
theorem log_20 {i : Int} (h : i.natAbs < 10 ^ 20) : i.natAbs.log2 < 1920 := by
  by_cases h0 : i.natAbs = 0
  · rw [h0]; decide
  · rw [Nat.log2_lt h0]
    exact Nat.lt_of_lt_of_le h (by decide +kernel)
theorem rd_str {i : Int} (h : i.natAbs.log2 < 1920) (q : Q (.str (SX.S (intL i))) H) : gStr [.int i] H Q := ⟨i, rfl, h, by rw [← str_int] at q; exact q⟩
theorem sat_side_text {vs : List V} {E : XK} (h : sp_side_text K vs H Q E) : vs.length = 1 ∧ t_side_text K { nx := fun _ H' => Q .non H', rt := Q } (vs.map some ++ List.replicate (1 - vs.length) none) H := by
  obtain ⟨o, rfl, hb, q⟩ := h
  refine ⟨rfl, ?_⟩
  unfold t_side_text
  cases o with
  | none =>
    walk_at "gc"
    exact q
  | some i =>
    walk_at "gc"
    exact rd_str (log_20 (hb i rfl)) q
def sp_read_side (K : PySem.W.Frag) : Sp := fun vs H Q _ => ∃ (w : List Nat) (G : Hp) (L : List (Addr × HO)), vs = [.str (SX.S w)] ∧ w.length ≤ 300 ∧ Stt G H L ∧ ∀ v G' H', Ex G G' → Stt G' H' L → Dp K G' v (.list (sideD w)) → Q v H'
def t_read_side (K : PySem.W.Frag) : TS :=
  (tRet (tIf (tTest (tOp (gEq K) (tVar 0) (tC (.str "")))) (tLst (tCons (tC .non) tNil)) (tCall (sp_read_number K) [] E0 (tCons (tVar 0) tNil))))
theorem sat_read_side {vs : List V} {E : XK} (h : sp_read_side K vs H Q E) : vs.length = 1 ∧ t_read_side K { nx := fun _ H' => Q .non H', rt := Q } (vs.map some ++ List.replicate (1 - vs.length) none) H := by
  obtain ⟨w, G, L, rfl, hl, S, q⟩ := h
  refine ⟨rfl, ?_⟩
  unfold t_read_side
  refine rd_ret (rd_if (rd_test (rd_op (rd_var rfl (rd_c (rd_eqS (rd_bl ?_)))))))
  rw [S_dec]
  refine rd_dec (fun e => ?_) (fun e => ?_)
  · walk_at "go"
    refine mk_lst stt_world S (by show 1 ≤ 100000; decide) fun p G2 e2 S2 h2 => ?_
    refine q _ G2 _ e2 S2 ?_
    rw [show sideD w = [.none] from if_pos e]
    exact .lst (sq_of h2) (.cons .non .nil)
  · walk_at "go"
    refine ⟨w, G, L, rfl, hl, S, fun v G' H' e' S' hv => q v G' H' e' S' ?_⟩
    rw [show sideD w = numD (readNum w) from if_neg e]
    exact hv
end

/-! Stretches and their texts, as lists of codes. -/
/-- a stretch: None, or two sides -/
abbrev SD := Option (Option Int × Option Int)
def StV (K : PySem.W.Frag) (G : Hp) (v : V) : SD → Prop
  | none => v = .non
  | some (a, b) => ∃ p, v = .ref p ∧ SqT K G p [oV a, oV b]
def sD : SD → PyData
  | none => .none
  | some (a, b) => .tuple [oD a, oD b]
theorem StV.ex {K : PySem.W.Frag} {G G' : Hp} {v : V} (e : Ex G G') : ∀ {s : SD}, StV K G v s → StV K G' v s
  | none, h => h
  | some (a, b), ⟨p, h1, h2⟩ => ⟨p, h1, ex_t e h2⟩
theorem StV.dp {K : PySem.W.Frag} {G : Hp} {v : V} : ∀ {s : SD}, StV K G v s → Dp K G v (sD s)
  | none, h => by cases h; exact .non
  | some (a, b), ⟨p, h1, h2⟩ => by subst h1; exact .tup h2 (.cons (oDp a) (.cons (oDp b) .nil))
theorem fit_sD (n : Nat) : ∀ s : SD, fit (n + 2) (sD s)
  | none => True.intro
  | some (a, b) => ⟨by show 2 < _; decide, fun e he => by
    rcases in_two he with rfl | he
    · cases a <;> exact True.intro
    · rw [List.mem_singleton.mp he]; cases b <;> exact True.intro⟩
/-- the text of a stretch -/
def stL : SD → List Nat
  | none => [95]
  | some (a, b) => sideL a ++ ([46, 46] ++ sideL b)
/-- one side, read -/
def sideOf (w : List Nat) : Option (Option Int) := if w = [] then some none else (readNum w).map some
theorem sideD_of (w : List Nat) : sideD w = match sideOf w with
    | none => []
    | some o => [oD o] := by
  unfold sideD sideOf
  by_cases h : w = []
  · rw [if_pos h, if_pos h]; rfl
  · rw [if_neg h, if_neg h]
    cases readNum w <;> rfl
/-- what follows the pieces of a text -/
def rdPs : List (List Nat) → Option SD
  | [a, b] => match sideOf a, sideOf b with
    | some x, some y => if leV (oD x) (oD y) = true then some (some (x, y)) else none
    | _, _ => none
  | _ => none
/-- a stretch read off a text -/
def rdSt (t : List Nat) : Option SD := if t = [95] then some none else rdPs (TL.spl [46, 46] 0 [] t)
theorem spl_bd (S : List Nat) : ∀ (l : List Nat) (k : Nat) (acc : List Nat), (TL.spl S k acc l).length ≤ l.length + 1 ∧ ∀ p, p ∈ TL.spl S k acc l → p.length ≤ acc.length + l.length
  | [], k, acc => by
    rw [TL.spl_nil]
    exact ⟨Nat.le_refl _, fun p hp => by rw [List.mem_singleton.mp hp]; exact Nat.le_refl _⟩
  | c :: r, 0, acc => by
    cases h : TL.pre S (c :: r) with
    | true =>
      rw [TL.spl_hit h]
      have ⟨i1, i2⟩ := spl_bd S r (S.length - 1) []
      refine ⟨by rw [List.length_cons, List.length_cons]; omega, fun p hp => ?_⟩; rcases List.mem_cons.mp hp with rfl | hp
      · omega
      · have := i2 p hp
        rw [List.length_nil] at this
        rw [List.length_cons]; omega
    | false =>
      rw [TL.spl_miss h]
      have ⟨i1, i2⟩ := spl_bd S r 0 (acc ++ [c])
      refine ⟨by rw [List.length_cons]; omega, fun p hp => ?_⟩
      have := i2 p hp
      rw [List.length_append, List.length_singleton] at this
      rw [List.length_cons]; omega
  | c :: r, k + 1, acc => by
    have ⟨i1, i2⟩ := spl_bd S r k acc
    have e : TL.spl S (k + 1) acc (c :: r) = TL.spl S k acc r := rfl
    rw [e]
    refine ⟨by rw [List.length_cons]; omega, fun p hp => ?_⟩
    have := i2 p hp
    rw [List.length_cons]; omega
/-! ### numbers of a side -/
theorem sideL_dot : ∀ o : Option Int, 46 ∉ sideL o
  | none => fun h => nomatch h
  | some i => intL_free (.inr (.inr (.inl rfl)))
theorem sideOf_L : ∀ o : Option Int, sideOf (sideL o) = some o
  | none => rfl
  | some i => by
    unfold sideOf
    rw [if_neg (show sideL (some i) ≠ [] from intL_ne i), show sideL (some i) = intL i from rfl, readNum_intL]
    rfl
/-- a stretch's text tells it -/
theorem rdSt_stL (s : SD) (h : ∀ a b, s = some (a, b) → leV (oD a) (oD b) = true) : rdSt (stL s) = some s := by
  unfold rdSt
  cases s with
  | none => exact if_pos rfl
  | some ab =>
    obtain ⟨a, b⟩ := ab
    have e := SX.spl_join (c := 46) (sep := [46]) (parts := [sideL a, sideL b]) (List.cons_ne_nil _ _) (fun p hp => by
      rcases in_two hp with rfl | hp
      · exact sideL_dot a
      · rw [List.mem_singleton.mp hp]; exact sideL_dot b)
    have e : TL.spl [46, 46] 0 [] (stL (some (a, b))) = [sideL a, sideL b] := e
    have n95 : stL (some (a, b)) ≠ [95] := fun z => by
      have m : 46 ∈ stL (some (a, b)) := List.mem_append_right _ (List.mem_cons_self ..)
      rw [z] at m
      exact absurd m (by decide)
    rw [if_neg n95, e]
    show (match sideOf (sideL a), sideOf (sideL b) with
      | some x, some y => if leV (oD x) (oD y) = true then some (some (x, y)) else none
      | _, _ => none) = _
    rw [sideOf_L, sideOf_L]
    exact if_pos (h a b rfl)

/-! Texts of stretches. -/
open PySem PySem.Spec PyProof.Rows L2 Evl RZ NumText



section
variable {K : PySem.W.Frag} {σ : L2.St} {G H : Hp} {L : List (Addr × HO)} {Q : VK} {D : Ends} {E : XK}
def stBd (s : SD) : Prop := ∀ a b, s = some (a, b) → (∀ i, a = some i → i.natAbs < 10 ^ 20) ∧ ∀ i, b = some i → i.natAbs < 10 ^ 20
theorem sideL_len {o : Option Int} (h : ∀ i, o = some i → i.natAbs < 10 ^ 20) : (sideL o).length ≤ 21 := by
  cases o with
  | none => exact Nat.zero_le _
  | some i => exact intL_len (k := 20) (by decide) (h i rfl)
def sp_stretch_text (K : PySem.W.Frag) : Sp := fun vs H Q _ => ∃ (x : V) (s : SD), vs = [x] ∧ StV K H x s ∧ stBd s ∧ Q (.str (SX.S (stL s))) H
def t_stretch_text_1 (K : PySem.W.Frag) : TS :=
  (tRet (tFs [(tFmt (tCall (sp_side_text K) [] E0 (tCons (tOp (rIx K) (tVar 0) (tC (.int 0))) tNil))), (tC (.str "..")), (tFmt (tCall (sp_side_text K) [] E0 (tCons (tOp (rIx K) (tVar 0) (tC (.int 1))) tNil)))]))
def t_stretch_text (K : PySem.W.Frag) : TS :=
  (tSeq (tIfS (tTest (tOp rIsN (tVar 0) (tC .non))) (tRet (tC (.str "_"))) tNext)
  (t_stretch_text_1 K))
theorem sat_stretch_text {vs : List V} (h : sp_stretch_text K vs H Q E) : vs.length = 1 ∧ t_stretch_text K { nx := fun _ H' => Q .non H', rt := Q } (vs.map some ++ List.replicate (1 - vs.length) none) H := by
  obtain ⟨x, s, rfl, hx, hb, q⟩ := h
  refine ⟨rfl, ?_⟩
  unfold t_stretch_text
  cases s with
  | none =>
    obtain rfl : x = .non := hx
    walk_at "gc"
    exact q
  | some ab =>
    obtain ⟨a, b⟩ := ab
    obtain ⟨p, rfl, hp⟩ := hx
    have ⟨b1, b2⟩ := hb a b rfl
    have l1 := sideL_len b1
    have l2 := sideL_len b2
    walk_at "go"
    unfold t_stretch_text_1
    refine rd_ret (rd_fs (rd_js (rd_fmt (rd_call (rd_cons (rd_op (rd_var rfl (rd_c (rd_ixT hp rfl (rd_nil ?_))))))))))
    refine ⟨a, rfl, b1, .inl ⟨_, rfl, by rw [SX.S_len]; exact sz_of (by omega), _, rfl, ?_, ?_⟩⟩
    · show (SX.S [] ++ SX.S (sideL a)).length ≤ _
      rw [SX.S_cat, SX.S_len]
      exact sz_of (by simp; omega)
    refine rd_js (rd_c ⟨_, rfl, ?_, ?_⟩)
    · show (SX.S [] ++ SX.S (sideL a) ++ SX.S [46, 46]).length ≤ _
      rw [SX.S_cat, SX.S_cat, SX.S_len]
      exact sz_of (by simp; omega)
    refine rd_js (rd_fmt (rd_call (rd_cons (rd_op (rd_var rfl (rd_c (rd_ixT hp rfl (rd_nil ?_))))))))
    refine ⟨b, rfl, b2, .inl ⟨_, rfl, by rw [SX.S_len]; exact sz_of (by omega), _, rfl, ?_, ?_⟩⟩
    · show (SX.S [] ++ SX.S (sideL a) ++ SX.S [46, 46] ++ SX.S (sideL b)).length ≤ _
      rw [SX.S_cat, SX.S_cat, SX.S_cat, SX.S_len]
      exact sz_of (by simp; omega)
    refine rd_js0 ?_
    have e : Str.empty ++ SX.S (sideL a) ++ (".." : Str) ++ SX.S (sideL b) = SX.S (stL (some (a, b))) := by
      show SX.S [] ++ SX.S (sideL a) ++ SX.S [46, 46] ++ SX.S (sideL b) = _
      rw [SX.S_cat, SX.S_cat, SX.S_cat, List.nil_append, List.append_assoc]
      rfl
    rw [e]
    exact q
/-! ### read -/
def rdOf : PyData → Option SD
  | .str z => rdSt z.cps.toList
  | _ => none
def sp_read_stretch (K : PySem.W.Frag) : Sp := fun vs H Q E => ∃ (x : V) (d : PyData) (G : Hp) (L : List (Addr × HO)), vs = [x] ∧ Stt G H L ∧ Dp K G x d ∧ (∀ z : Str, d = .str z → z.cps.toList.length ≤ 300) ∧
  (∀ s, rdOf d = some s → ∀ v G' H', Ex G G' → Stt G' H' L → StV K G' v s → Q v H') ∧
  (rdOf d = none → ∀ dd G' H', Ex G G' → Stt G' H' L → H' dd = some (.xd (excF "InvalidText" "given" x)) → E (.ref (cls_at K "InvalidText")) (some dd) H')
def t_read_stretch_6 (K : PySem.W.Frag) (E : XK) : TS :=
  (tRet (tVar 2))
def t_read_stretch_5 (K : PySem.W.Frag) (E : XK) : TS :=
  (tSeq (tIfS (tNot (tB (tCall (sp_is_stretch K) [] E0 (tCons (tVar 2) tNil)))) (tRaise (cls_at K "InvalidText") "InvalidText" "given" E (tVar 0)) tNext)
  (t_read_stretch_6 K E))
def t_read_stretch_4 (K : PySem.W.Frag) (E : XK) : TS :=
  (tSeq (tAsg (tTup (tCons (tOp (rIx K) (tOp (rIx K) (tVar 1) (tC (.int 0))) (tC (.int 0))) (tCons (tOp (rIx K) (tOp (rIx K) (tVar 1) (tC (.int 1))) (tC (.int 0))) tNil))) (gName 2))
  (t_read_stretch_5 K E))
def t_read_stretch_3 (K : PySem.W.Frag) (E : XK) : TS :=
  (tSeq (tIfS (tOr (tTest (tOp (gNe K) (tCB (gLen K) (tCons (tVar 1) tNil)) (tC (.int 2)))) (tTest (tOp (rInD K) (tLst tNil) (tVar 1)))) (tRaise (cls_at K "InvalidText") "InvalidText" "given" E (tVar 0)) tNext)
  (t_read_stretch_4 K E))
def t_read_stretch_2 (K : PySem.W.Frag) (E : XK) : TS :=
  (tSeq (tAsg (tLc (iList K (tBM K "str" rSplit (tVar 0) (tCons (tC (.str "..")) tNil))) (gName 3) tYes (tCall (sp_read_side K) [] E0 (tCons (tVar 3) tNil)) [3]) (gName 1))
  (t_read_stretch_3 K E))
def t_read_stretch_1 (K : PySem.W.Frag) (E : XK) : TS :=
  (tSeq (tIfS (tTest (tOp (gEq K) (tVar 0) (tC (.str "_")))) (tRet (tC .non)) tNext)
  (t_read_stretch_2 K E))
def t_read_stretch (K : PySem.W.Frag) (E : XK) : TS :=
  (tSeq (tIfS (tNot (tB (tCB (gIsi K) (tCons (tVar 0) (tCons (tC (.ty "str")) tNil))))) (tRaise (cls_at K "InvalidText") "InvalidText" "given" E (tVar 0)) tNext)
  (t_read_stretch_1 K E))
theorem Dp.oV {v : V} {o : Option Int} (h : Dp K H v (oD o)) : v = oV o := by cases o <;> cases h <;> rfl
theorem boom {x : V} (qe : ∀ dd G' H', Ex G G' → Stt G' H' L → H' dd = some (.xd (excF "InvalidText" "given" x)) → E (.ref (cls_at K "InvalidText")) (some dd) H') {G1 H1 : Hp} (e1 : Ex G G1) (S1 : Stt G1 H1 L) (hs : σ[0]? = some (some x)) :
    tRaise (cls_at K "InvalidText") "InvalidText" "given" E (tVar 0) D σ H1 := by
  refine rd_var (Q := fun v H2 => ∀ d, H2 d = none → E (.ref (cls_at K "InvalidText")) (some d) (upd H2 d (.xd (excF "InvalidText" "given" v)))) hs fun dd hd => ?_
  exact qe dd _ _ (e1.trans (stt_world.newE S1 hd)) (stt_world.new S1 hd) upd_same
theorem kit_str {d : PyData} (h : ∀ z, d ≠ .str z) : kitB (tyN d) "str" = some false := by
  cases d with
  | str z => exact absurd rfl (h z)
  | none => exact kt_NoneType_str
  | bool _ => exact kt_bool_str
  | int _ => exact kt_int_str
  | list _ => exact kt_list_str
  | tuple _ => exact kt_tuple_str
  | dict _ => exact (by decide +kernel : kitB "dict" "str" = some false)
theorem sides_any {oa ob : Option (Option Int)} {la lb : List PyData} (ha : la = match oa with
      | none => []
      | some o => [oD o]) (hb : lb = match ob with
      | none => []
      | some o => [oD o]) : SeqAt.shaped (.list [.list la, .list lb]) = true ∧ ([PyData.list la, .list lb].any fun z => PyData.eqv z (.list [])) = !(oa.isSome && ob.isSome) := by
  subst ha hb
  cases oa with
  | none => cases ob with
    | none => exact ⟨rfl, rfl⟩
    | some b => cases b <;> exact ⟨rfl, rfl⟩
  | some a => cases a <;> (cases ob with
    | none => exact ⟨rfl, rfl⟩
    | some b => cases b <;> exact ⟨rfl, rfl⟩)
theorem read_read_stretch {x : V} {d : PyData} {a1 a2 a3 : Option V} (S : Stt G H L) (hx : Dp K G x d) (hl : ∀ z : Str, d = .str z → z.cps.toList.length ≤ 300)
    (qr : ∀ s, rdOf d = some s → ∀ v G' H', Ex G G' → Stt G' H' L → StV K G' v s → D.rt v H')
    (qe : rdOf d = none → ∀ dd G' H', Ex G G' → Stt G' H' L → H' dd = some (.xd (excF "InvalidText" "given" x)) → E (.ref (cls_at K "InvalidText")) (some dd) H') : t_read_stretch K E D [some x, a1, a2, a3] H := by
  unfold t_read_stretch
  refine rd_seq (rd_ifs (rd_not (rd_B (rd_cb (rd_cons (rd_var rfl (rd_cons (rd_c (rd_nil ?_)))))))))
  by_cases hz : ∀ z, d ≠ .str z
  · refine rd_isi (Dp.ex S.ex _ _ hx) (kit_str hz) ⟨false, rfl, ?_⟩
    refine rd_iT (boom (qe ?_) (Ex.refl _) S rfl)
    cases d with
    | str z => exact absurd rfl (hz z)
    | _ => rfl
  obtain ⟨z, hz⟩ := Classical.not_forall.mp hz
  have hz := Classical.not_not.mp hz
  subst hz
  cases hx
  refine rd_isi (.str _) kt_str_str ⟨true, rfl, ?_⟩
  walk_at "go"
  unfold t_read_stretch_1
  obtain ⟨w, rfl⟩ : ∃ w, z = SX.S w := ⟨_, (SX.S_tl z).symm⟩
  have er : rdOf (.str (SX.S w)) = rdSt w := rfl
  have hl : w.length ≤ 300 := hl _ rfl
  rw [er] at qr qe
  refine rd_seq (rd_ifs (rd_test (rd_op (rd_var rfl (rd_c (rd_eqS (rd_bl ?_)))))))
  rw [S_dec]
  refine rd_dec (fun e => ?_) (fun e => ?_)
  · walk_at "go"
    exact qr none (if_pos e) .non G H (Ex.refl _) S rfl
  walk_at "go"
  unfold t_read_stretch_2
  have er : rdSt w = rdPs (TL.spl [46, 46] 0 [] w) := if_neg e
  have ⟨bd1, bd2⟩ := spl_bd [46, 46] w 0 []
  have es : Txt.split (SX.S w) (".." : Str) = (TL.spl [46, 46] 0 [] w).map SX.S := SX.split_S (b := [46, 46]) (List.cons_ne_nil _ _) rfl
  generalize TL.spl [46, 46] 0 [] w = ps at er bd1 bd2 es
  refine rd_seq (rd_asg (rd_lc (rd_il (rd_bm (rd_var rfl ⟨rfl, rd_cons (rd_c (rd_nil ⟨_, _, rfl, rfl, rfl, by rw [SX.S_len]; exact sz_of (by omega), ?_⟩))⟩)))))
  intro p hp
  rw [es]
  have S1 := stt_world.new (o := .lst ((ps.map SX.S).map V.str)) S hp
  have e1 := stt_world.newE (o := .lst ((ps.map SX.S).map V.str)) S hp
  have hp1 : upd G p (.lst ((ps.map SX.S).map V.str)) p = some (.lst ((ps.map SX.S).map V.str)) := upd_same
  generalize upd G p (.lst ((ps.map SX.S).map V.str)) = G1 at S1 e1 hp1
  refine ⟨p, rfl, ⟨_, sq_of upd_same⟩, ?_⟩
  refine lc_go stt_world (walk_list (xs := (ps.map SX.S).map V.str)) S1 (by rw [List.length_map, List.length_map]; omega) (fun i v _ => ((ps.map SX.S).map V.str)[i]? = some v) (fun i acc G' => DpAll K G' acc ((ps.take i).map fun u => PyData.list (sideD u))) (fun H' e' => ex_l e' (sq_of hp1))
    (fun i x G1 H1 H2 L1 _ e1 S1 y => item_at S1 y) .nil (fun _ _ _ _ e' h => DpAll.ex e' _ _ h) ?_ ?_
  · intro D' i y acc G2 H2 hi _ e2 S2 I2 it Kp Sk kp sk
    refine rd_name ⟨rfl, rd_yes (rd_iT ?_)⟩
    rw [List.getElem?_map, List.getElem?_map] at it
    cases hu : ps[i]? with
    | none => rw [hu] at it; cases it
    | some u =>
      rw [hu] at it
      obtain rfl : V.str (SX.S u) = y := Option.some.inj it
      refine rd_call (rd_cons (rd_var rfl (rd_nil ?_)))
      have := bd2 u (List.mem_of_getElem? hu)
      rw [List.length_nil] at this
      refine ⟨u, G2, _, rfl, by omega, S2, fun v G3 H3 e3 S3 hv => kp v G3 H3 e3 S3 ?_⟩
      rw [List.take_add_one, hu, List.map_append]
      exact DpAll.snoc (DpAll.ex e3 _ _ I2) hv
  · intro D' acc G2 H2 e2 S2 I2 _
    have e3 := e1.trans (e2.trans S2.frzE)
    have hD : upd G2 D' (.lst acc) D' = some (.lst acc) := upd_same
    have I3 := DpAll.ex S2.frzE _ _ I2
    have S3 := S2.frz
    generalize upd G2 D' (.lst acc) = G3 at e3 hD I3 S3
    rw [List.length_map, List.length_map, List.take_length] at I3
    refine rd_name ?_
    unfold t_read_stretch_3
    refine rd_seq (rd_ifs (rd_or (rd_test (rd_op (rd_cb (rd_cons (rd_var rfl (rd_nil (rd_lenL (ex_l S3.ex (sq_of hD)) (rd_c (rd_neI (rd_bl ?_))))))))))))
    have hn : acc.length = ps.length := by have := DpAll.length I3; rw [List.length_map] at this; exact this
    refine rd_decN (fun c => ?_) (fun c => ?_)
    · have c : ps.length = 2 := by omega
      match ps, c with
      | [u1, u2], _ =>
      refine rd_test (rd_op (rd_lst (rd_nil ?_)))
      refine mk_lst stt_world S3 (Nat.zero_le _) fun p4 G4 e4 S4 h4 => rd_var rfl ?_
      have I4 : DpAll K (upd H2 p4 (.lst [])) acc [.list (sideD u1), .list (sideD u2)] := DpAll.ex (e4.trans S4.ex) _ _ I3
      have ⟨sh, an⟩ := sides_any (sideD_of u1) (sideD_of u2)
      refine ⟨.list [], _, .lst (ex_l S4.ex (sq_of h4)) .nil, .lst (ex_l (e4.trans S4.ex) (sq_of hD)) I4, rfl, sh, _, rfl, ?_⟩
      rw [an]
      have er : rdSt w = match sideOf u1, sideOf u2 with
        | some x, some y => if leV (oD x) (oD y) = true then some (some (x, y)) else none
        | _, _ => none := er
      have eG := e3.trans e4
      cases I4 with
      | @cons v1 _ _ _ d1 I4 =>
      cases I4 with
      | @cons v2 _ _ _ d2 I4 =>
      cases I4
      rw [sideD_of] at d1 d2
      cases h1 : sideOf u1 with
      | none =>
        rw [h1] at er
        exact rd_iT (boom (qe er) eG S4 rfl)
      | some o1 =>
        cases h2 : sideOf u2 with
        | none =>
          rw [h1, h2] at er
          exact rd_iT (boom (qe er) eG S4 rfl)
        | some o2 =>
          rw [h1] at d1
          rw [h2] at d2
          rw [h1, h2] at er
          cases d1 with
          | @lst q1 _ _ hq1 c1 =>
          cases d2 with
          | @lst q2 _ _ hq2 c2 =>
          cases c1 with
          | @cons w1 _ _ _ c1 n1 =>
          cases n1
          cases c2 with
          | @cons w2 _ _ _ c2 n2 =>
          cases n2
          obtain rfl := Dp.oV c1
          obtain rfl := Dp.oV c2
          refine rd_iF ?_
          refine rd_next ?_
          show t_read_stretch_4 K E D _ _
          unfold t_read_stretch_4
          refine rd_seq (rd_asg (rd_tup (rd_cons (rd_op (rd_op (rd_var rfl (rd_c (rd_ixL (ex_l (e4.trans S4.ex) (sq_of hD)) rfl (rd_c (rd_ixL hq1 rfl ?_))))))))))
          refine rd_cons (rd_op (rd_op (rd_var rfl (rd_c (rd_ixL (ex_l (e4.trans S4.ex) (sq_of hD)) rfl (rd_c (rd_ixL hq2 rfl (rd_nil ?_))))))))
          refine mk_tup stt_world S4 (by show 2 ≤ 100000; decide) fun p5 G5 e5 S5 h5 => rd_name ?_
          show t_read_stretch_5 K E D _ _
          unfold t_read_stretch_5
          refine rd_seq (rd_ifs (rd_not (rd_B (rd_call (rd_cons (rd_var rfl (rd_nil ?_)))))))
          refine ⟨.ref p5, .tuple [oD o1, oD o2], rfl, .tup (ex_t S5.ex (st_of h5)) (.cons (oDp o1) (.cons (oDp o2) .nil)), _, rfl, ?_⟩
          have ei : isSt (.tuple [oD o1, oD o2]) = leV (oD o1) (oD o2) := by
            show (isVal (oD o1) && isVal (oD o2) && leV (oD o1) (oD o2)) = _
            cases o1 <;> cases o2 <;> rfl
          rw [ei]
          have eG := eG.trans e5
          cases hle : leV (oD o1) (oD o2) with
          | false =>
            refine rd_iT (boom (qe ?_) eG S5 rfl)
            rw [er]
            show (if leV (oD o1) (oD o2) = true then _ else _) = _
            rw [hle]; rfl
          | true =>
            refine rd_iF (rd_next ?_)
            show t_read_stretch_6 K E D _ _
            unfold t_read_stretch_6
            refine rd_ret (rd_var rfl ?_)
            refine qr (some (o1, o2)) ?_ (.ref p5) G5 _ eG S5 ⟨p5, rfl, st_of h5⟩
            rw [er]
            show (if leV (oD o1) (oD o2) = true then _ else _) = _
            rw [hle]; rfl
    · refine rd_iT (boom (qe ?_) e3 S3 rfl)
      rw [er]
      match ps, c with
      | [], _ => rfl
      | [_], _ => rfl
      | [_, _], c => exact absurd (by rw [hn]; rfl) c
      | _ :: _ :: _ :: _, _ => rfl
theorem sat_read_stretch {vs : List V} (h : sp_read_stretch K vs H Q E) : vs.length = 1 ∧ t_read_stretch K E { nx := fun _ H' => Q .non H', rt := Q } (vs.map some ++ List.replicate (4 - vs.length) none) H := by
  obtain ⟨x, d, G, L, rfl, S, hx, hl, qr, qe⟩ := h
  exact ⟨rfl, read_read_stretch S hx hl qr qe⟩
end

/-! What the law makes of a text. -/
open PySem PySem.Spec PyProof.Rows L2 Evl RZ NumText



section
variable {K : PySem.W.Frag} {σ : L2.St} {G H : Hp} {L : List (Addr × HO)} {Q : VK} {D : Ends} {E : XK}
def sp_number_so (K : PySem.W.Frag) : Sp := fun vs H Q _ => ∃ (w : List Nat) (G : Hp) (L : List (Addr × HO)), vs = [.str (SX.S w)] ∧ w.length ≤ 300 ∧ Stt G H L ∧ ∀ H', Stt G H' L → Q (.bl (numSo w)) H'
def t_number_so_1 (K : PySem.W.Frag) : TS :=
  (tRet (tAndV (tOp (gNe K) (tVar 1) (tC (.str ""))) (tAndV (tCB (rAll K) (tCons (tLc (iStr (tVar 1)) (gName 2) tYes (tOp (gIn K) (tVar 2) (tC (.str "0123456789"))) [2]) tNil)) (tOp (gEq K) (tCB gStr (tCons (tCB gInt (tCons (tVar 0) tNil)) tNil)) (tVar 0)))))
def t_number_so (K : PySem.W.Frag) : TS :=
  (tSeq (tAsg (tIf (tTest (tOp (gEq K) (tSl (gSl K) (tVar 0) tNoPart (tPart (tC (.int 1)))) (tC (.str "-")))) (tSl (gSl K) (tVar 0) (tPart (tC (.int 1))) tNoPart) (tVar 0)) (gName 1))
  (t_number_so_1 K))
theorem sat_number_so {vs : List V} (h : sp_number_so K vs H Q E) : vs.length = 1 ∧ t_number_so K { nx := fun _ H' => Q .non H', rt := Q } (vs.map some ++ List.replicate (3 - vs.length) none) H := by
  obtain ⟨w, G, L, rfl, hl, S, q⟩ := h
  refine ⟨rfl, ?_⟩
  have fl := figs_len w
  unfold t_number_so
  refine rd_seq (rd_asg ?_)
  refine rd_figs hl rfl ?_
  refine rd_name ?_
  show t_number_so_1 K _ _ _
  unfold t_number_so_1
  refine rd_ret (rd_andV (rd_op (rd_var rfl (rd_c (rd_neS ⟨_, rfl, ?_⟩)))))
  rw [S_dec]
  refine rd_decN (fun e => ?_) (fun e => ?_)
  · have e : figs w = [] := e
    have := q H S
    unfold numSo at this
    rw [decide_eq_true e] at this
    exact this
  · have hne : figs w ≠ [] := e
    refine rd_andV (rd_allFigs (z := "0123456789") S rfl (by omega) rfl (fun _ => rfl) (fun _ => rfl) fun H1 S1 => ⟨_, rfl, ?_⟩)
    cases hd : allD (figs w) with
    | false =>
      refine rd_iF ?_
      have := q H1 S1
      unfold numSo at this
      rw [hd, Bool.false_and, Bool.and_false] at this
      exact this
    | true =>
      refine rd_iT (rd_op (rd_cb (rd_cons (rd_cb (rd_cons (rd_var rfl (rd_nil (.inr ⟨_, valW w, rfl, int_text hne hd (by omega), by rw [SX.S_len]; omega, rd_nil (rd_str (val_log hd hl) (rd_var rfl (rd_eqS ?_)))⟩))))))))
      rw [S_dec]
      have := q H1 S1
      unfold numSo at this
      rw [hd, decide_eq_false hne] at this
      exact this
/-! ### due -/
def soS (u : List Nat) : Bool := decide (u = []) || numSo u
def sideV (u : List Nat) : Option Int := if u = [] then none else some (valW u)
theorem sideOf_so (u : List Nat) : sideOf u = if soS u = true then some (sideV u) else none := by
  unfold sideOf soS sideV
  by_cases h : u = []
  · rw [if_pos h, if_pos h, decide_eq_true h]; rfl
  · rw [if_neg h, if_neg h, decide_eq_false h, numSo_read]
    cases numSo u <;> rfl
def dueD (w : List Nat) : List PyData := match rdSt w with
  | none => []
  | some s => [sD s]
def sp_stretch_due (K : PySem.W.Frag) : Sp := fun vs H Q _ => ∃ (w : List Nat) (G : Hp) (L : List (Addr × HO)), vs = [.str (SX.S w)] ∧ w.length ≤ 300 ∧ Stt G H L ∧ ∀ v G' H', Ex G G' → Stt G' H' L → Dp K G' v (.list (dueD w)) → Q v H'
def t_stretch_due_4 (K : PySem.W.Frag) : TS :=
  (tRet (tIf (tAnd (tTest (tOp rNotN (tVar 2) (tC .non))) (tAnd (tTest (tOp rNotN (tVar 3) (tC .non))) (tTest (tOp (rI0 fun i j => .bl (decide (j < i))) (tVar 2) (tVar 3))))) (tLst tNil) (tLst (tCons (tTup (tCons (tVar 2) (tCons (tVar 3) tNil))) tNil))))
def t_stretch_due_3 (K : PySem.W.Frag) : TS :=
  (tSeq (tAsg (tLc (iList K (tVar 1)) (gName 4) tYes (tIf (tTest (tOp (gEq K) (tVar 4) (tC (.str "")))) (tC .non) (tCB gInt (tCons (tVar 4) tNil))) [4]) (gLst K 2 (gCons (gName 2) (gCons (gName 3) gNil))))
  (t_stretch_due_4 K))
def t_stretch_due_2 (K : PySem.W.Frag) : TS :=
  (tSeq (tIfS (tOr (tTest (tOp (gNe K) (tCB (gLen K) (tCons (tVar 1) tNil)) (tC (.int 2)))) (tNot (tB (tCB (rAll K) (tCons (tLc (iList K (tVar 1)) (gName 4) tYes (tOrV (tOp (gEq K) (tVar 4) (tC (.str ""))) (tCall (sp_number_so K) [] E0 (tCons (tVar 4) tNil))) [4]) tNil))))) (tRet (tLst tNil)) tNext)
  (t_stretch_due_3 K))
def t_stretch_due_1 (K : PySem.W.Frag) : TS :=
  (tSeq (tAsg (tBM K "str" rSplit (tVar 0) (tCons (tC (.str "..")) tNil)) (gName 1))
  (t_stretch_due_2 K))
def t_stretch_due (K : PySem.W.Frag) : TS :=
  (tSeq (tIfS (tTest (tOp (gEq K) (tVar 0) (tC (.str "_")))) (tRet (tLst (tCons (tC .non) tNil))) tNext)
  (t_stretch_due_1 K))
theorem rd_glst2 {i j : Nat} {T : Addr} {x y : V} {N : L2.St → Hp → Prop} (h : SqL K H T [x, y]) (q : N ((σ.set i (some x)).set j (some y)) H) : gLst K 2 (gCons (gName i) (gCons (gName j) gNil)) (.ref T) σ H N :=
  ⟨T, [x, y], rfl, h, rfl, x, [y], rfl, y, [], rfl, rfl, q⟩
theorem so_valid {u : List Nat} (h : soS u = true) (hn : u ≠ []) : figs u ≠ [] ∧ allD (figs u) = true := by
  unfold soS at h
  rw [decide_eq_false hn, Bool.false_or] at h
  unfold numSo at h
  cases h1 : allD (figs u) with
  | false => rw [h1, Bool.false_and, Bool.and_false] at h; cases h
  | true =>
    refine ⟨fun z => ?_, rfl⟩
    rw [decide_eq_true z] at h
    cases h
theorem read_due_4 {x y : Option Int} {a0 a1 a4 : Option V} (S : Stt G H L) (q : ∀ v G' H', Ex G G' → Stt G' H' L → Dp K G' v (.list (match (if leV (oD x) (oD y) = true then some (some (x, y)) else none : Option SD) with
      | none => []
      | some s => [sD s])) → D.rt v H') : t_stretch_due_4 K D [a0, a1, some (oV x), some (oV y), a4] H := by
  have yes : leV (oD x) (oD y) = true → tLst (tCons (tTup (tCons (tVar 2) (tCons (tVar 3) tNil))) tNil) [a0, a1, some (oV x), some (oV y), a4] H D.rt := fun h => by
    refine rd_lst (rd_cons (rd_tup (rd_cons (rd_var rfl (rd_cons (rd_var rfl (rd_nil ?_)))))))
    refine mk_tup stt_world S (by show 2 ≤ 100000; decide) fun p1 G1 e1 S1 h1 => rd_nil ?_
    refine mk_lst stt_world S1 (by show 1 ≤ 100000; decide) fun p2 G2 e2 S2 h2 => ?_
    refine q _ G2 _ (e1.trans e2) S2 ?_
    rw [if_pos h]
    exact .lst (sq_of h2) (.cons (.tup (ex_t e2 (st_of h1)) (.cons (oDp x) (.cons (oDp y) .nil))) .nil)
  unfold t_stretch_due_4
  cases x with
  | none =>
    refine rd_ret (rd_if (rd_and (rd_test (rd_op (rd_var rfl (rd_c (rd_notN (rd_bl ?_))))))))
    exact yes rfl
  | some i =>
    cases y with
    | none =>
      refine rd_ret (rd_if (rd_and (rd_test (rd_op (rd_var rfl (rd_c (rd_notN (rd_bl ?_))))))))
      refine rd_and (rd_test (rd_op (rd_var rfl (rd_c (rd_notN (rd_bl ?_))))))
      exact yes rfl
    | some j =>
      refine rd_ret (rd_if (rd_and (rd_test (rd_op (rd_var rfl (rd_c (rd_notN (rd_bl ?_))))))))
      refine rd_and (rd_test (rd_op (rd_var rfl (rd_c (rd_notN (rd_bl ?_))))))
      refine rd_test (rd_op (rd_var rfl (rd_var rfl (rd_I0 (rd_bl ?_)))))
      refine rd_dec (fun e => ?_) (fun e => ?_)
      · refine rd_lst (rd_nil ?_)
        refine mk_lst stt_world S (Nat.zero_le _) fun p2 G2 e2 S2 h2 => ?_
        refine q _ G2 _ e2 S2 ?_
        have hle : ¬ leV (oD (some i)) (oD (some j)) = true := by show ¬ decide (i ≤ j) = true; simp; omega
        rw [if_neg hle]
        exact .lst (sq_of h2) .nil
      · exact yes (by show decide (i ≤ j) = true; simp; omega)
theorem none_due {t : List Nat} {σ : L2.St} (e : rdSt t = none) (S : Stt G H L) (q : ∀ v G' H', Ex G G' → Stt G' H' L → Dp K G' v (.list (dueD t)) → Q v H') : tLst tNil σ H Q := by
  refine rd_lst (rd_nil ?_)
  refine mk_lst stt_world S (Nat.zero_le _) fun p2 G2 e2 S2 h2 => ?_
  refine q _ G2 _ e2 S2 ?_
  unfold dueD
  rw [e]
  exact .lst (sq_of h2) .nil
theorem read_due {w : List Nat} {a1 a2 a3 a4 : Option V} (S : Stt G H L) (hl : w.length ≤ 300) (q : ∀ v G' H', Ex G G' → Stt G' H' L → Dp K G' v (.list (dueD w)) → D.rt v H') : t_stretch_due K D [some (.str (SX.S w)), a1, a2, a3, a4] H := by
  unfold t_stretch_due
  refine rd_seq (rd_ifs (rd_test (rd_op (rd_var rfl (rd_c (rd_eqS (rd_bl ?_)))))))
  rw [S_dec]
  refine rd_dec (fun e => ?_) (fun e => ?_)
  · refine rd_ret (rd_lst (rd_cons (rd_c (rd_nil ?_))))
    refine mk_lst stt_world S (by show 1 ≤ 100000; decide) fun p2 G2 e2 S2 h2 => ?_
    refine q _ G2 _ e2 S2 ?_
    unfold dueD
    rw [show rdSt w = some none from if_pos e]
    exact .lst (sq_of h2) (.cons .non .nil)
  refine rd_next ?_
  show t_stretch_due_1 K D _ _
  unfold t_stretch_due_1
  have er : rdSt w = rdPs (TL.spl [46, 46] 0 [] w) := if_neg e
  have ⟨bd1, bd2⟩ := spl_bd [46, 46] w 0 []
  have es : Txt.split (SX.S w) (".." : Str) = (TL.spl [46, 46] 0 [] w).map SX.S := SX.split_S (b := [46, 46]) (List.cons_ne_nil _ _) rfl
  generalize TL.spl [46, 46] 0 [] w = ps at er bd1 bd2 es
  refine rd_seq (rd_asg (rd_bm (rd_var rfl ⟨rfl, rd_cons (rd_c (rd_nil ⟨_, _, rfl, rfl, rfl, by rw [SX.S_len]; exact sz_of (by omega), ?_⟩))⟩)))
  rw [es]
  refine mk_im (o := .lst ((ps.map SX.S).map V.str)) stt_world S fun p G1 e1 S1 hp => rd_name ?_
  show t_stretch_due_2 K D _ _
  unfold t_stretch_due_2
  refine rd_seq (rd_ifs (rd_or (rd_test (rd_op (rd_cb (rd_cons (rd_var rfl (rd_nil (rd_lenL (ex_l S1.ex (sq_of hp)) (rd_c (rd_neI (rd_bl ?_))))))))))))
  have q1 : ∀ v G' H', Ex G1 G' → Stt G' H' L → Dp K G' v (.list (dueD w)) → D.rt v H' := fun v G' H' e' => q v G' H' (e1.trans e')
  rw [List.length_map, List.length_map]
  generalize upd H p _ = H1 at S1
  refine rd_decN (fun c => ?_) (fun c => ?_)
  · have c : ps.length = 2 := by omega
    match ps, c with
    | [u1, u2], _ =>
    have b1 := bd2 u1 (List.mem_cons_self ..)
    have b2 := bd2 u2 (List.mem_cons_of_mem _ (List.mem_cons_self ..))
    rw [List.length_nil] at b1 b2
    have er : rdSt w = match sideOf u1, sideOf u2 with
      | some x, some y => if leV (oD x) (oD y) = true then some (some (x, y)) else none
      | _, _ => none := er
    rw [sideOf_so, sideOf_so] at er
    refine rd_not (rd_B (rd_cb (rd_cons (rd_lc (rd_il (rd_var rfl ⟨p, rfl, ⟨_, ex_l S1.ex (sq_of hp)⟩, ?_⟩))))))
    refine lc_mapJ stt_world (walk_list (xs := [V.str (SX.S u1), V.str (SX.S u2)])) S1 (fun H' e' => ex_l e' (sq_of hp)) (by show 2 < 1000000; decide) (fun _ => rfl) (fun x => match x with
      | .str z => .bl (soS z.cps.toList)
      | _ => .non) (fun x acc D1 G2 H2 hx e2 S2 Kp kp => ?_) (fun D1 G2 H2 e2 S2 => ?_)
    · obtain ⟨u, rfl, hu⟩ : ∃ u, x = .str (SX.S u) ∧ u.length ≤ 300 := by
        rcases in_two hx with rfl | hx
        · exact ⟨u1, rfl, by omega⟩
        · rw [List.mem_singleton.mp hx]; exact ⟨u2, rfl, by omega⟩
      refine rd_orV (rd_op (rd_var rfl (rd_c (rd_eqS ⟨_, rfl, ?_⟩))))
      rw [S_dec]
      have kp : ∀ H2, Stt G2 H2 ((D1, .lst acc) :: L) → Kp (.bl (soS u)) H2 := kp
      refine rd_dec (fun e => ?_) (fun e => ?_)
      · have := kp H2 S2
        unfold soS at this
        rw [decide_eq_true (show u = [] from e)] at this
        exact this
      · refine rd_call (rd_cons (rd_var rfl (rd_nil ?_)))
        refine ⟨u, G2, _, rfl, hu, S2, fun H3 S3 => ?_⟩
        have := kp H3 S3
        unfold soS at this
        rw [decide_eq_false (show ¬ u = [] from e)] at this
        exact this
    · refine rd_nil (rd_all (bs := [soS u1, soS u2]) (sq_of (S2.at 0 rfl)) ?_)
      refine ⟨_, rfl, ?_⟩
      have S3 : Stt G2 H2 L := S2.drop
      have q2 : ∀ v G' H', Ex G2 G' → Stt G' H' L → Dp K G' v (.list (dueD w)) → D.rt v H' := fun v G' H' e' => q1 v G' H' (e2.trans e')
      cases k1 : soS u1 with
      | false =>
        rw [k1] at er
        exact none_due (σ := []) er S3 q2
      | true =>
        cases k2 : soS u2 with
        | false =>
          rw [k1, k2] at er
          exact none_due (σ := []) er S3 q2
        | true =>
          rw [k1, k2] at er
          refine rd_next ?_
          show t_stretch_due_3 K D _ _
          unfold t_stretch_due_3
          refine rd_seq (rd_asg (rd_lc (rd_il (rd_var rfl ⟨p, rfl, ⟨_, ex_l (e2.trans S3.ex) (sq_of hp)⟩, ?_⟩))))
          refine lc_mapJ stt_world (walk_list (xs := [V.str (SX.S u1), V.str (SX.S u2)])) S3 (fun H' e' => ex_l (e2.trans e') (sq_of hp)) (by show 2 < 1000000; decide) (fun _ => rfl) (fun x => match x with
            | .str z => oV (sideV z.cps.toList)
            | _ => .non) (fun x acc D2 G4 H4 hx e4 S4 Kp kp => ?_) (fun D2 G4 H4 e4 S4 => ?_)
          · obtain ⟨u, rfl, hu, ku⟩ : ∃ u, x = .str (SX.S u) ∧ u.length ≤ 300 ∧ soS u = true := by
              rcases in_two hx with rfl | hx
              · exact ⟨u1, rfl, by omega, k1⟩
              · rw [List.mem_singleton.mp hx]; exact ⟨u2, rfl, by omega, k2⟩
            have kp : ∀ H2, Stt G4 H2 ((D2, .lst acc) :: L) → Kp (oV (sideV u)) H2 := kp
            refine rd_if (rd_test (rd_op (rd_var rfl (rd_c (rd_eqS (rd_bl ?_))))))
            rw [S_dec]
            refine rd_dec (fun e => ?_) (fun e => ?_)
            · have := kp H4 S4
              unfold sideV at this
              rw [if_pos (show u = [] from e)] at this
              exact this
            · have e : ¬ u = [] := e
              have ⟨v1, v2⟩ := so_valid ku e
              refine rd_cb (rd_cons (rd_var rfl (rd_nil (.inr ⟨_, valW u, rfl, int_text v1 v2 (by omega), by rw [SX.S_len]; omega, ?_⟩))))
              have := kp H4 S4
              unfold sideV at this
              rw [if_neg e] at this
              exact this
          · refine rd_glst2 (x := oV (sideV u1)) (y := oV (sideV u2)) (sq_of (S4.at 0 rfl)) ?_
            show t_stretch_due_4 K D _ _
            refine read_due_4 S4.drop fun v G' H' e' S' hv => q2 v G' H' (e4.trans e') S' ?_
            unfold dueD
            rw [er]
            exact hv
  · refine rd_iT (none_due (σ := []) ?_ S1 q1)
    rw [er]
    match ps, c with
    | [], _ => rfl
    | [_], _ => rfl
    | [_, _], c => exact absurd rfl c
    | _ :: _ :: _ :: _, _ => rfl
theorem sat_stretch_due {vs : List V} (h : sp_stretch_due K vs H Q E) : vs.length = 1 ∧ t_stretch_due K { nx := fun _ H' => Q .non H', rt := Q } (vs.map some ++ List.replicate (5 - vs.length) none) H := by
  obtain ⟨w, G, L, rfl, hl, S, q⟩ := h
  exact ⟨rfl, read_due S hl q⟩
end

/-! The law of stretches' texts. -/
open PySem PySem.Spec PyProof.Rows L2 Evl RZ NumText



def t_law_1b_7 (K : PySem.W.Frag) (lw : LamW) : TS :=
  (tIfS (tNot (tB (tCall (sp_like K 9) [] E0 (tCons (tTryL lw 0 K (fun E => (tCall (sp_read_stretch K) [] E (tCons (tVar 7) tNil)))) (tCons (tIf (tTest (tOp (gNe K) (tVar 8) (tLst tNil))) (tTup (tCons (tC (.str "")) (tCons (tOp (rIx K) (tVar 8) (tC (.int 0))) tNil))) (tTup (tCons (tC (.str "InvalidText")) (tCons (tVar 7) tNil)))) tNil))))) (tRet (tC (.bl false))) tNext)
def t_law_1b_6 (K : PySem.W.Frag) (lw : LamW) : TS :=
  (tSeq (tAsg (tCall (sp_stretch_due K) [] E0 (tCons (tVar 7) tNil)) (gName 8))
  (t_law_1b_7 K lw))
def t_law_1b_5 (K : PySem.W.Frag) (lw : LamW) : TS :=
  (tSeq (tAsg (tOp (gAdd K) (tOp (gAdd K) (tSl (gSl K) (tVar 5) tNoPart (tPart (tVar 6))) (tCall (sp_of K) [] E0 (tCons (tVar 1) (tCons (tLst (tCons (tC (.str "")) (tCons (tC (.str ".")) (tCons (tC (.str "0")) (tCons (tC (.str "-")) (tCons (tC (.str "_")) (tCons (tC (.str " ")) (tCons (tC (.str "..")) (tCons (tC (.str "a")) (tCons (tC (.str "+")) (tCons (tC (.str "9")) (tCons (tC (.str "\n")) tNil)))))))))))) tNil)))) (tSl (gSl K) (tVar 5) (tPart (tOp (gAdd K) (tVar 6) (tCall (sp_draw K) [] E0 (tCons (tVar 1) (tCons (tC (.int 2)) tNil))))) tNoPart)) (gName 7))
  (t_law_1b_6 K lw))
def t_law_1b_4 (K : PySem.W.Frag) (lw : LamW) : TS :=
  (tSeq (tAsg (tCall (sp_draw K) [] E0 (tCons (tVar 1) (tCons (tOp (gAdd K) (tCB (gLen K) (tCons (tVar 5) tNil)) (tC (.int 1))) tNil))) (gName 6))
  (t_law_1b_5 K lw))
def t_law_1b_3 (K : PySem.W.Frag) (lw : LamW) : TS :=
  (tSeq (tIfS (tNot (tB (tCall (sp_like K 9) [] E0 (tCons (tLst (tCons (tCall (sp_stretch_text K) [] E0 (tCons (tVar 4) tNil)) (tCons (tCallK (sp_stretch_text K) (gPV 1 [0]) E0 tNil (tCons (tVar 4) tNil)) (tCons (tCall (sp_read_stretch K) [] E0 (tCons (tVar 5) tNil)) (tCons (tCallK (sp_read_stretch K) (gPV 1 [0]) E0 tNil (tCons (tVar 5) tNil)) tNil))))) (tCons (tLst (tCons (tVar 5) (tCons (tVar 5) (tCons (tVar 4) (tCons (tVar 4) tNil))))) tNil))))) (tRet (tC (.bl false))) tNext)
  (t_law_1b_4 K lw))
def t_law_1b_2 (K : PySem.W.Frag) (lw : LamW) : TS :=
  (tSeq (tAsg (tIf (tTest (tOp rIsN (tVar 4) (tC .non))) (tC (.str "_")) (tJoinS K ".." (tLc (iTup K (tVar 4)) (gName 10) tYes (tIf (tTest (tOp rIsN (tVar 10) (tC .non))) (tC (.str "")) (tCB gStr (tCons (tVar 10) tNil))) [10]))) (gName 5))
  (t_law_1b_3 K lw))
def t_law_1b_1 (K : PySem.W.Frag) (lw : LamW) : TS :=
  (tSeq (tAsg (tCall (sp_of K) [] E0 (tCons (tVar 1) (tCons (tLst (tCons (tC .non) (tCons (tTup (tCons (tVar 3) (tCons (tOp (gAdd K) (tVar 3) (tCall (sp_draw K) [] E0 (tCons (tVar 1) (tCons (tC (.int 12)) tNil)))) tNil))) (tCons (tTup (tCons (tVar 3) (tCons (tC .non) tNil))) (tCons (tTup (tCons (tC .non) (tCons (tVar 3) tNil))) (tCons (tTup (tCons (tC .non) (tCons (tC .non) tNil))) tNil)))))) tNil))) (gName 4))
  (t_law_1b_2 K lw))
def t_law_1b (K : PySem.W.Frag) (lw : LamW) : TS :=
  (tSeq (tAsg (tOp (rI0 fun i j => .int (i - j)) (tCall (sp_of K) [] E0 (tCons (tVar 1) (tCons (tLst (tCons (tC (.int 0)) (tCons (tUn (rU fun i => .int (-i)) (tC (.int 1))) (tCons (tC (.int 12)) (tCons (tOp (rI CPow fun i j => .int (i ^ j.toNat)) (tC (.int 10)) (tC (.int 17))) (tCons (tOp (rI0 fun i j => .int (i - j)) (tC (.int 0)) (tOp (rI CPow fun i j => .int (i ^ j.toNat)) (tC (.int 10)) (tC (.int 17)))) tNil)))))) tNil))) (tCall (sp_draw K) [] E0 (tCons (tVar 1) (tCons (tC (.int 3)) tNil)))) (gName 3))
  (t_law_1b_1 K lw))
def t_law_3 (K : PySem.W.Frag) (lw : LamW) : TS :=
  (tRet (tCall (sp_like K 9) [] E0 (tCons (tTryL lw 1 K (fun E => (tCall (sp_read_stretch K) [] E (tCons (tVar 9) tNil)))) (tCons (tTup (tCons (tC (.str "InvalidText")) (tCons (tVar 9) tNil))) tNil))))
def t_law_2 (K : PySem.W.Frag) (lw : LamW) : TS :=
  (tSeq (tAsg (tCall (sp_of K) [] E0 (tCons (tVar 1) (tCons (tLst (tCons (tC .non) (tCons (tC (.int 3)) (tCons (tC (.bl true)) (tCons (tTup (tCons (tC (.int 1)) (tCons (tC (.int 2)) tNil))) (tCons (tLst tNil) (tCons (tC (.str "")) (tCons (tC (.str ".")) (tCons (tC (.str "...")) (tCons (tC (.str "1...2")) (tCons (tC (.str "5..3")) (tCons (tC (.str "1")) (tCons (tC (.str "-0..")) (tCons (tC (.str "..01")) (tCons (tC (.str "__")) (tCons (tC (.str "_..3")) (tCons (tC (.str "1..2..3")) (tCons (tC (.str " ..")) (tCons (tC (.str "3 ..")) tNil))))))))))))))))))) tNil))) (gName 9))
  (t_law_3 K lw))
def t_law_1 (K : PySem.W.Frag) (lw : LamW) : TS :=
  (tSeq (tFor (iRng1 (tCons (tC (.int 6)) tNil)) (gName 2) (t_law_1b K lw))
  (t_law_2 K lw))
def t_law (K : PySem.W.Frag) (lw : LamW) : TS :=
  (tSeq (tAsg (tCall (sp_open K) [] E0 (tCons (tVar 0) tNil)) (gName 1))
  (t_law_1 K lw))
section
variable {K : PySem.W.Frag} {σ : L2.St} {G H : Hp} {L : List (Addr × HO)} {Q : VK} {D : Ends} {E : XK} {lw : LamW} {b : Addr} {ps : Array Value}
theorem LamW.codes.ex {G' : Hp} (e : Ex G G') (hc : lw.codes G ps) : lw.codes G' ps := ⟨hc.1, fun pos cv z => have ⟨c, h1, h2⟩ := hc.2 pos cv z; ⟨c, h1, e _ _ h2⟩⟩
theorem Stt.up {H' : Hp} (S : Stt G H L) (e : Ex H H') : Stt G H' L := ⟨S.ex.trans e, fun p hp => e _ _ (S.has p hp), S.out, S.nd⟩
theorem Bag.up {H' : Hp} (B : Bag K G H b L) (e : Ex H H') : Bag K G H' b L := have ⟨c, i, r, x, n, ns, S, h⟩ := B; ⟨c, i, r, x, n, ns, S.up e, h⟩
theorem Bag.lam {i : Nat} {H1 : Hp} {f : Addr} (B : Bag K G H b [(lw.P, .tbl ps)]) (hc : lw.codes G ps) (n : LamNew lw i H ps f H1) : ∃ G1 ps', Ex G G1 ∧ Bag K G1 H1 b [(lw.P, .tbl ps')] ∧ lw.codes G1 ps' ∧ LamAt lw i G1 f := by
  obtain ⟨c, i0, r, x, n0, ns, S, hcs, rest⟩ := B
  obtain ⟨G1, ps', e1, S1, k1, a1⟩ := LamNew.stt S (j := 1) rfl hc n
  exact ⟨G1, ps', e1, ⟨c, i0, r, x, n0, ns, S1, ex_l e1 hcs, rest⟩, k1, a1⟩
theorem Bag.tab (B : Bag K G H b [(lw.P, .tbl ps)]) : H lw.P = some (.tbl ps) := have ⟨_, _, _, _, _, _, S, _⟩ := B; S.at 1 rfl
/-- a lambda made and tried -/
theorem rd_tryL {i : Nat} {tb : XK → TE} (B : Bag K G H b [(lw.P, .tbl ps)]) (hc : lw.codes G ps)
    (q : ∀ f G1 H1 ps1, Ex G G1 → Bag K G1 H1 b [(lw.P, .tbl ps1)] → lw.codes G1 ps1 → tb (tryW K f Q) σ H1 fun v H2 => ∀ p, H2 p = none → Q (.ref p) (upd H2 p (.tup [.str "", v]))) : tTryL lw i K tb σ H Q := by
  refine ⟨ps, B.tab, hc.ex B.ex, fun f H1 n => ?_⟩
  obtain ⟨G1, ps1, e1, B1, k1, a1⟩ := B.lam hc n
  refine ⟨f, rfl, a1.ex B1.ex, rd_try ⟨a1.ex B1.ex, ?_⟩⟩
  have := q f G1 H1 ps1 e1 B1 k1
  refine cast ?_ this
  congr 1
  funext v H2
  exact propext ⟨fun h => ⟨by show 2 ≤ sizeLine; decide, h⟩, fun h => h.2⟩
def tryD (d : PyData) : PyData := match rdOf d with
  | some s => .tuple [.str "", sD s]
  | none => .tuple [.str "InvalidText", d]
theorem rd_try_read {i j : Nat} {x : V} {d : PyData} (XI : ExcOk K "InvalidText" "given") (B : Bag K G H b [(lw.P, .tbl ps)]) (hc : lw.codes G ps) (hs : σ[j]? = some (some x)) (hx : Dp K G x d) (hl : ∀ z : Str, d = .str z → z.cps.toList.length ≤ 300)
    (q : ∀ p G1 H1 ps1, Ex G G1 → Bag K G1 H1 b [(lw.P, .tbl ps1)] → lw.codes G1 ps1 → Dp K G1 (.ref p) (tryD d) → Q (.ref p) H1) : tTryL lw i K (fun E => tCall (sp_read_stretch K) [] E (tCons (tVar j) tNil)) σ H Q := by
  refine rd_tryL B hc fun f G1 H1 ps1 e1 B1 k1 => rd_call (rd_cons (rd_var hs (rd_nil ?_)))
  obtain ⟨M, S1, hB⟩ := B1.stt
  refine ⟨x, d, G1, M, rfl, S1, Dp.ex e1 _ _ hx, hl, fun s hd v G2 H2 e2 S2 hv => ?_, fun hd dd G2 H2 e2 S2 hdd => ?_⟩
  · refine mk_im (o := .tup [.str "", v]) (bag_world K b) (hB G2 H2 e2 S2) fun p G3 e3 B3 h3 => q p G3 _ ps1 (e1.trans (e2.trans e3)) B3 (k1.ex (e2.trans e3)) ?_
    unfold tryD
    rw [hd]
    exact .tup (st_of h3) (.cons (.str _) (.cons (hv.ex e3).dp .nil))
  · refine rd_tryE XI hdd rfl (by decide) fun H3 e3 => ?_
    refine mk_im (o := .tup [.str "InvalidText", x]) (bag_world K b) ((hB G2 H2 e2 S2).up e3) fun p G4 e4 B4 h4 => q p G4 _ ps1 (e1.trans (e2.trans e4)) B4 (k1.ex (e2.trans e4)) ?_
    unfold tryD
    rw [hd]
    exact .tup (st_of h4) (.cons (.str _) (.cons (Dp.ex (e1.trans (e2.trans e4)) _ _ hx) .nil))
theorem lk_same {x : V} {d : PyData} (h : Dp K G x d) : lk d d = true := lk_refl d (Dp.plain _ _ h)
theorem rd_like {n : Nat} {x y : V} {d : PyData} (B : Bag K G H b L) (hx : Dp K G x d) (hy : Dp K G y d) (hf : fit n d) (q : ∀ H', Bag K G H' b L → Q (.bl true) H') : sp_like K n [x, y] H Q E := by
  obtain ⟨M, S, hB⟩ := B.stt
  refine ⟨G, M, x, y, d, d, rfl, S, hx, hy, hf, fun H' S' => ?_⟩
  rw [lk_same hx]
  exact q H' (hB G H' (Ex.refl G) S')
theorem fit_try {d : PyData} (h : fit 8 d) : fit 9 (tryD d) := by
  unfold tryD
  cases rdOf d with
  | none => exact ⟨by show 2 < _; decide, fun e he => by
      rcases in_two he with rfl | he
      · exact True.intro
      · rw [List.mem_singleton.mp he]; exact h⟩
  | some s => exact ⟨by show 2 < _; decide, fun e he => by
      rcases in_two he with rfl | he
      · exact True.intro
      · rw [List.mem_singleton.mp he]; exact fit_sD 6 s⟩
/-! ### a turn -/
variable {a0 a2 a3 a4 a5 a6 a7 a8 a9 a10 : Option V} {t : List Nat}
theorem due_ne {w : List Nat} : SeqAt.shaped (.list (dueD w)) = true ∧ PyData.eqv (.list (dueD w)) (.list []) = (rdSt w).isNone := by
  unfold dueD
  rcases rdSt w with _ | _ | ⟨_ | _, _ | _⟩ <;> exact ⟨rfl, rfl⟩
theorem read_6 (XI : ExcOk K "InvalidText" "given") (B : Bag K G H b [(lw.P, .tbl ps)]) (hc : lw.codes G ps) (hl : t.length ≤ 300)
    (q : ∀ x8 G' H' ps', Bag K G' H' b [(lw.P, .tbl ps')] → lw.codes G' ps' → D.nx [a0, some (.ref b), a2, a3, a4, a5, a6, some (.str (SX.S t)), x8, a9, a10] H') :
    t_law_1b_6 K lw D [a0, some (.ref b), a2, a3, a4, a5, a6, some (.str (SX.S t)), a8, a9, a10] H := by
  unfold t_law_1b_6
  refine rd_seq (rd_asg (rd_call (rd_cons (rd_var rfl (rd_nil ?_)))))
  obtain ⟨M, S, hB⟩ := B.stt
  refine ⟨t, G, M, rfl, hl, S, fun v8 G1 H1 e1 S1 h8 => rd_name ?_⟩
  have B1 := hB G1 H1 e1 S1
  have k1 := hc.ex e1
  show t_law_1b_7 K lw D _ _
  unfold t_law_1b_7
  refine rd_ifs (rd_not (rd_B (rd_call (rd_cons ?_))))
  refine rd_try_read XI B1 k1 rfl (d := .str (SX.S t)) (.str _) (fun z e => by cases e; exact hl) fun p G2 H2 ps2 e2 B2 k2 h2 => rd_cons ?_
  refine rd_if (rd_test (rd_op (rd_var rfl (rd_lst (rd_nil ?_)))))
  refine mk_lst (bag_world K b) B2 (Nat.zero_le _) fun p3 G3 e3 B3 h3 => ?_
  have ⟨s1, s2⟩ := due_ne (w := t)
  have h8 := Dp.ex (e2.trans e3) _ _ h8
  refine rd_neD (Dp.ex B3.ex _ _ h8) (.lst (ex_l B3.ex (sq_of h3)) .nil) s1 rfl (rd_bl ?_)
  rw [s2]
  have fin : ∀ p4 G4 H4, Ex G3 G4 → Bag K G4 H4 b [(lw.P, .tbl ps2)] → Dp K G4 (.ref p4) (tryD (.str (SX.S t))) → tNil [a0, some (.ref b), a2, a3, a4, a5, a6, some (.str (SX.S t)), some v8, a9, a10] H4 fun xs H5 => sp_like K 9 (V.ref p :: V.ref p4 :: (xs ++ [])) H5 (fun x H6 => ∃ k, x = .bl k ∧ if (!k) = true then tRet (tC (.bl false)) D [a0, some (.ref b), a2, a3, a4, a5, a6, some (.str (SX.S t)), some v8, a9, a10] H6 else tNext D [a0, some (.ref b), a2, a3, a4, a5, a6, some (.str (SX.S t)), some v8, a9, a10] H6) E0 := fun p4 G4 H4 e4 B4 h4 => by
    refine rd_nil (rd_like B4 (Dp.ex (e3.trans e4) _ _ h2) h4 (fit_try True.intro) fun H5 B5 => ⟨true, rfl, ?_⟩)
    exact q _ G4 H5 ps2 B5 (k2.ex (e3.trans e4))
  have er : rdOf (.str (SX.S t)) = rdSt t := rfl
  cases hr : rdSt t with
  | none =>
    refine rd_iF (rd_tup (rd_cons (rd_c (rd_cons (rd_var rfl (rd_nil ?_))))))
    refine mk_tup (bag_world K b) B3 (by show 2 ≤ 100000; decide) fun p4 G4 e4 B4 h4 => fin p4 G4 _ e4 B4 ?_
    unfold tryD
    rw [er, hr]
    exact .tup (st_of h4) (.cons (.str _) (.cons (.str _) .nil))
  | some s =>
    unfold dueD at h8
    rw [hr] at h8
    cases h8 with
    | @lst q8 xs _ hq8 hA =>
    cases hA with
    | @cons w8 _ _ _ d8 hA =>
    cases hA
    refine rd_iT (rd_tup (rd_cons (rd_c (rd_cons (rd_op (rd_var rfl (rd_c (rd_ixL (ex_l B3.ex hq8) rfl (rd_nil ?_)))))))))
    refine mk_tup (bag_world K b) B3 (by show 2 ≤ 100000; decide) fun p4 G4 e4 B4 h4 => fin p4 G4 _ e4 B4 ?_
    unfold tryD
    rw [er, hr]
    exact .tup (st_of h4) (.cons (.str _) (.cons (Dp.ex e4 _ _ d8) .nil))
/-! ### a changed text -/
def oneL : List (List Nat) := [[], [46], [48], [45], [95], [32], [46, 46], [97], [43], [57], [10]]
theorem read_4 (XI : ExcOk K "InvalidText" "given") (B : Bag K G H b [(lw.P, .tbl ps)]) (hc : lw.codes G ps) (hl : t.length ≤ 100)
    (q : ∀ x6 x7 x8 G' H' ps', Bag K G' H' b [(lw.P, .tbl ps')] → lw.codes G' ps' → D.nx [a0, some (.ref b), a2, a3, a4, some (.str (SX.S t)), x6, x7, x8, a9, a10] H') :
    t_law_1b_4 K lw D [a0, some (.ref b), a2, a3, a4, some (.str (SX.S t)), a6, a7, a8, a9, a10] H := by
  unfold t_law_1b_4
  refine rd_seq (rd_asg (rd_call (rd_cons (rd_var rfl (rd_cons (rd_op (rd_cb (rd_cons (rd_var rfl (rd_nil (rd_lenSS (by omega) (rd_c (rd_addI (rd_nil ?_))))))))))))))
  refine ⟨b, _, G, _, rfl, by omega, by omega, B, fun d H1 d0 d1 B1 => rd_name ?_⟩
  obtain ⟨n, rfl⟩ := Int.eq_ofNat_of_zero_le d0
  show t_law_1b_5 K lw D _ _
  unfold t_law_1b_5
  refine rd_seq (rd_asg (rd_op (rd_op (rd_sl (rd_var rfl (rd_noPart (rd_part (rd_var rfl (rd_int ?_)))))))))
  refine rd_sliceTo (n := n) (by omega) (rd_call (rd_cons (rd_var rfl ?_)))
  refine rd_cons (rd_lst (rd_cons (rd_c (rd_cons (rd_c (rd_cons (rd_c (rd_cons (rd_c (rd_cons (rd_c (rd_cons (rd_c (rd_cons (rd_c (rd_cons (rd_c (rd_cons (rd_c (rd_cons (rd_c (rd_cons (rd_c (rd_nil ?_))))))))))))))))))))))))
  refine mk_lst (bag_world K b) B1 (by show 11 ≤ 100000; decide) fun p2 G2 e2 B2 h2 => rd_nil ?_
  refine ⟨b, p2, _, G2, _, rfl, B2, fun H' B' => .inl (ex_l B'.ex (sq_of h2)), by show 0 < 11; decide, by show 11 < _; decide, fun x H3 hx B3 => ?_⟩
  obtain ⟨u, hu, rfl⟩ : ∃ u, u ∈ oneL ∧ V.str (SX.S u) = x := List.mem_map.mp (show x ∈ oneL.map (fun u => V.str (SX.S u)) from hx)
  have hu : u.length ≤ 2 := (by decide : ∀ u, u ∈ oneL → u.length ≤ 2) u hu
  have lt : (t.take n).length ≤ 100 := by rw [List.length_take]; omega
  refine rd_addSS (by omega) (rd_sl (rd_var rfl (rd_part (rd_op (rd_var rfl (rd_call (rd_cons (rd_var rfl (rd_cons (rd_c (rd_nil ?_)))))))))))
  refine ⟨b, 2, G2, _, rfl, by decide, by decide, B3, fun d H4 d0 d1 B4 => ?_⟩
  obtain ⟨m, rfl⟩ := Int.eq_ofNat_of_zero_le d0
  refine rd_addI (rd_int (rd_noPart ?_))
  have ld : (t.drop (n + m)).length ≤ 100 := by rw [List.length_drop]; omega
  refine rd_sliceFrom (n := n + m) (by omega) (rd_addSS (by rw [List.length_append]; omega) (rd_name ?_))
  show t_law_1b_6 K lw D _ _
  exact read_6 XI B4 (hc.ex e2) (by rw [List.length_append, List.length_append]; omega) fun x8 G' H' ps' => q _ _ x8 G' H' ps'
/-! ### a text told and read -/
theorem read_3 {v : V} {s : SD} (XI : ExcOk K "InvalidText" "given") (B : Bag K G H b [(lw.P, .tbl ps)]) (hc : lw.codes G ps) (hv : StV K G v s) (hb : stBd s) (ho : ∀ x y, s = some (x, y) → leV (oD x) (oD y) = true) (hl : (stL s).length ≤ 100)
    (q : ∀ x6 x7 x8 G' H' ps', Bag K G' H' b [(lw.P, .tbl ps')] → lw.codes G' ps' → D.nx [a0, some (.ref b), a2, a3, some v, some (.str (SX.S (stL s))), x6, x7, x8, a9, a10] H') :
    t_law_1b_3 K lw D [a0, some (.ref b), a2, a3, some v, some (.str (SX.S (stL s))), a6, a7, a8, a9, a10] H := by
  have er : rdOf (.str (SX.S (stL s))) = some s := rdSt_stL s ho
  unfold t_law_1b_3
  refine rd_seq (rd_ifs (rd_not (rd_B (rd_call (rd_cons ?_)))))
  refine rd_lst (rd_cons (rd_call (rd_cons (rd_var rfl (rd_nil ?_)))))
  refine ⟨v, s, rfl, hv.ex B.ex, hb, rd_cons (rd_callK (rd_nil (rd_cons (rd_var rfl (rd_nil ?_)))))⟩
  refine ⟨v, s, rfl, hv.ex B.ex, hb, rd_cons (rd_call (rd_cons (rd_var rfl (rd_nil ?_))))⟩
  obtain ⟨M, S, hB⟩ := B.stt
  refine ⟨_, .str (SX.S (stL s)), G, M, rfl, S, .str _, fun z e => by cases e; exact Nat.le_trans hl (by decide), fun s1 hs v1 G1 H1 e1 S1 hv1 => ?_, fun h => by rw [er] at h; cases h⟩
  obtain rfl : s = s1 := Option.some.inj (er.symm.trans hs)
  refine rd_cons (rd_callK (rd_nil (rd_cons (rd_var rfl (rd_nil ?_)))))
  refine ⟨_, .str (SX.S (stL s)), G1, M, rfl, S1, .str _, fun z e => by cases e; exact Nat.le_trans hl (by decide), fun s2 hs v2 G2 H2 e2 S2 hv2 => rd_nil ?_, fun h => by rw [er] at h; cases h⟩
  obtain rfl : s = s2 := Option.some.inj (er.symm.trans hs)
  have B2 := hB G2 H2 (e1.trans e2) S2
  refine mk_lst (bag_world K b) B2 (by show 4 ≤ 100000; decide) fun p3 G3 e3 B3 h3 => rd_cons (rd_lst (rd_cons (rd_var rfl (rd_cons (rd_var rfl (rd_cons (rd_var rfl (rd_cons (rd_var rfl (rd_nil ?_))))))))))
  refine mk_lst (bag_world K b) B3 (by show 4 ≤ 100000; decide) fun p4 G4 e4 B4 h4 => rd_nil ?_
  have f0 := e1.trans (e2.trans (e3.trans e4))
  have hd : Dp K G4 (.ref p3) (.list [.str (SX.S (stL s)), .str (SX.S (stL s)), sD s, sD s]) := .lst (ex_l e4 (sq_of h3)) (.cons (.str _) (.cons (.str _) (.cons (hv1.ex (e2.trans (e3.trans e4))).dp (.cons (hv2.ex (e3.trans e4)).dp .nil))))
  have he : Dp K G4 (.ref p4) (.list [.str (SX.S (stL s)), .str (SX.S (stL s)), sD s, sD s]) := .lst (sq_of h4) (.cons (.str _) (.cons (.str _) (.cons (hv.ex f0).dp (.cons (hv.ex f0).dp .nil))))
  refine rd_like B4 hd he ⟨by show 4 < _; decide, fun e hm => ?_⟩ fun H5 B5 => ⟨true, rfl, ?_⟩
  · rcases in_two hm with rfl | hm
    · exact True.intro
    rcases in_two hm with rfl | hm
    · exact True.intro
    rcases in_two hm with rfl | hm
    · exact fit_sD 6 s
    · rw [List.mem_singleton.mp hm]; exact fit_sD 6 s
  · show t_law_1b_4 K lw D _ _
    exact read_4 XI B5 (hc.ex f0) hl q
/-! ### its text by the law's own hand -/
theorem stL_len {s : SD} (hb : stBd s) : (stL s).length ≤ 44 := by
  cases s with
  | none => show 1 ≤ 44; decide
  | some ab =>
    obtain ⟨x, y⟩ := ab
    have l1 := sideL_len (hb x y rfl).1
    have l2 := sideL_len (hb x y rfl).2
    show (sideL x ++ ([46, 46] ++ sideL y)).length ≤ 44
    rw [List.length_append, List.length_append]
    show _ + (2 + _) ≤ 44
    omega
theorem read_2 {v : V} {s : SD} (XI : ExcOk K "InvalidText" "given") (B : Bag K G H b [(lw.P, .tbl ps)]) (hc : lw.codes G ps) (hv : StV K G v s) (hb : stBd s) (ho : ∀ x y, s = some (x, y) → leV (oD x) (oD y) = true)
    (q : ∀ x5 x6 x7 x8 x10 G' H' ps', Bag K G' H' b [(lw.P, .tbl ps')] → lw.codes G' ps' → D.nx [a0, some (.ref b), a2, a3, some v, x5, x6, x7, x8, a9, x10] H') :
    t_law_1b_2 K lw D [a0, some (.ref b), a2, a3, some v, a5, a6, a7, a8, a9, a10] H := by
  have hl := stL_len hb
  unfold t_law_1b_2
  cases s with
  | none =>
    obtain rfl : v = .non := hv
    refine rd_seq (rd_asg (rd_if (rd_test (rd_op (rd_var rfl (rd_c (rd_isN (rd_bl ?_))))))))
    refine rd_iT (rd_c (rd_name ?_))
    show t_law_1b_3 K lw D _ _
    exact read_3 (s := none) XI B hc rfl hb ho (by omega) fun x6 x7 x8 G' H' ps' => q _ x6 x7 x8 _ G' H' ps'
  | some ab =>
    obtain ⟨x, y⟩ := ab
    obtain ⟨p, rfl, hp⟩ := hv
    refine rd_seq (rd_asg (rd_if (rd_test (rd_op (rd_var rfl (rd_c (rd_isN (rd_bl ?_))))))))
    refine rd_iF (rd_joinS (rd_lc (rd_it (rd_var rfl ⟨p, rfl, ⟨_, ex_t B.ex hp⟩, ?_⟩))))
    refine lc_mapJ (bag_world K b) (walk_tup (xs := [oV x, oV y])) B (fun H' e' => ex_t e' hp) (by show 2 < 1000000; decide) (fun _ => rfl) (fun x => match x with
      | .int i => .str (SX.S (intL i))
      | _ => .str "") (fun z acc D1 G2 H2 hz e2 B2 Kp kp => ?_) (fun D1 G2 H2 e2 B2 => ?_)
    · obtain ⟨o, rfl, hob⟩ : ∃ o : Option Int, z = oV o ∧ ∀ i, o = some i → i.natAbs < 10 ^ 20 := by
        rcases in_two hz with rfl | hz
        · exact ⟨x, rfl, (hb x y rfl).1⟩
        · rw [List.mem_singleton.mp hz]; exact ⟨y, rfl, (hb x y rfl).2⟩
      refine rd_if (rd_test (rd_op (rd_var rfl (rd_c (rd_isN (rd_bl ?_))))))
      cases o with
      | none => exact rd_iT (rd_c (kp _ B2))
      | some i => exact rd_iF (rd_cb (rd_cons (rd_var rfl (rd_nil (rd_str (log_20 (hob i rfl)) (kp _ B2))))))
    · have l1 := sideL_len (hb x y rfl).1
      have l2 := sideL_len (hb x y rfl).2
      have em : ([oV x, oV y].map fun x => match x with
        | .int i => V.str (SX.S (intL i))
        | _ => .str "") = ([sideL x, sideL y].map SX.S).map V.str := by cases x <;> cases y <;> rfl
      rw [em] at B2
      refine ⟨D1, [sideL x, sideL y].map SX.S, rfl, sq_of ((bag_world K b).get B2), ?_, ?_⟩
      · show (SX.S (sideL x)).length + ((SX.S (sideL y)).length + 0) + 2 * 2 ≤ _
        rw [SX.S_len, SX.S_len]
        omega
      · rw [show (".." : Str) = SX.S [46, 46] from rfl, SX.join_S]
        refine rd_name ?_
        show t_law_1b_3 K lw D _ _
        exact read_3 (s := some (x, y)) XI ((bag_world K b).drop B2) (hc.ex e2) ⟨p, rfl, ex_t e2 hp⟩ hb ho (by omega) fun x6 x7 x8 G' H' ps' => q _ x6 x7 x8 _ G' H' ps'
/-! ### drawn -/
theorem read_1 {low : Int} (XI : ExcOk K "InvalidText" "given") (B : Bag K G H b [(lw.P, .tbl ps)]) (hc : lw.codes G ps) (hlow : low.natAbs ≤ 10 ^ 18)
    (q : ∀ x4 x5 x6 x7 x8 x10 G' H' ps', Bag K G' H' b [(lw.P, .tbl ps')] → lw.codes G' ps' → D.nx [a0, some (.ref b), a2, some (.int low), x4, x5, x6, x7, x8, a9, x10] H') :
    t_law_1b_1 K lw D [a0, some (.ref b), a2, some (.int low), a4, a5, a6, a7, a8, a9, a10] H := by
  unfold t_law_1b_1
  refine rd_seq (rd_asg (rd_call (rd_cons (rd_var rfl (rd_cons (rd_lst (rd_cons (rd_c (rd_cons (rd_tup (rd_cons (rd_var rfl (rd_cons (rd_op (rd_var rfl (rd_call (rd_cons (rd_var rfl (rd_cons (rd_c (rd_nil ?_)))))))))))))))))))))
  refine ⟨b, 12, G, _, rfl, by decide, by decide, B, fun d H1 d0 d1 B1 => rd_addI (rd_nil ?_)⟩
  refine mk_tup (bag_world K b) B1 (by show 2 ≤ 100000; decide) fun p1 G1 e1 B1 h1 => rd_cons (rd_tup (rd_cons (rd_var rfl (rd_cons (rd_c (rd_nil ?_))))))
  refine mk_tup (bag_world K b) B1 (by show 2 ≤ 100000; decide) fun p2 G2 e2 B2 h2 => rd_cons (rd_tup (rd_cons (rd_c (rd_cons (rd_var rfl (rd_nil ?_))))))
  refine mk_tup (bag_world K b) B2 (by show 2 ≤ 100000; decide) fun p3 G3 e3 B3 h3 => rd_cons (rd_tup (rd_cons (rd_c (rd_cons (rd_c (rd_nil ?_))))))
  refine mk_tup (bag_world K b) B3 (by show 2 ≤ 100000; decide) fun p4 G4 e4 B4 h4 => rd_nil ?_
  refine mk_lst (bag_world K b) B4 (by show 5 ≤ 100000; decide) fun p5 G5 e5 B5 h5 => rd_nil ?_
  refine ⟨b, p5, _, G5, _, rfl, B5, fun H' B' => .inl (ex_l B'.ex (sq_of h5)), by show 0 < 5; decide, by show 5 < _; decide, fun x H6 hx B6 => ?_⟩
  have eG := e1.trans (e2.trans (e3.trans (e4.trans e5)))
  have big : ∀ i : Int, i.natAbs ≤ 10 ^ 18 + 12 → i.natAbs < 10 ^ 20 := fun i h => Nat.lt_of_le_of_lt h (by decide)
  have fin : ∀ s : SD, StV K G5 x s → stBd s → (∀ u v, s = some (u, v) → leV (oD u) (oD v) = true) → t_law_1b_2 K lw D [a0, some (.ref b), a2, some (.int low), some x, a5, a6, a7, a8, a9, a10] H6 := fun s hs hb ho => read_2 XI B6 (hc.ex eG) hs hb ho fun x5 x6 x7 x8 x10 G' H' ps' => q _ x5 x6 x7 x8 x10 G' H' ps'
  refine rd_name ?_
  show t_law_1b_2 K lw D [a0, some (.ref b), a2, some (.int low), some x, a5, a6, a7, a8, a9, a10] H6
  rcases in_two hx with rfl | hx
  · exact fin none rfl (fun _ _ e => by cases e) (fun _ _ e => by cases e)
  rcases in_two hx with rfl | hx
  · refine fin (some (some low, some (low + d))) ⟨p1, rfl, ex_t (e2.trans (e3.trans (e4.trans e5))) (st_of h1)⟩ (fun u v e => ?_) (fun u v e => ?_)
    · cases e; exact ⟨fun i e => by cases e; exact big _ (by omega), fun i e => by cases e; exact big _ (by omega)⟩
    · cases e; show decide (low ≤ low + d) = true; simp; omega
  rcases in_two hx with rfl | hx
  · refine fin (some (some low, none)) ⟨p2, rfl, ex_t (e3.trans (e4.trans e5)) (st_of h2)⟩ (fun u v e => ?_) (fun u v e => ?_)
    · cases e; exact ⟨fun i e => by cases e; exact big _ (by omega), fun i e => (by cases e)⟩
    · cases e; rfl
  rcases in_two hx with rfl | hx
  · refine fin (some (none, some low)) ⟨p3, rfl, ex_t (e4.trans e5) (st_of h3)⟩ (fun u v e => ?_) (fun u v e => ?_)
    · cases e; exact ⟨fun i e => (by cases e), fun i e => by cases e; exact big _ (by omega)⟩
    · cases e; rfl
  · obtain rfl := List.mem_singleton.mp hx
    exact fin (some (none, none)) ⟨p4, rfl, ex_t e5 (st_of h4)⟩ (fun u v e => by cases e; exact ⟨fun i e => (by cases e), fun i e => (by cases e)⟩) (fun u v e => by cases e; rfl)
theorem read_0 (XI : ExcOk K "InvalidText" "given") (B : Bag K G H b [(lw.P, .tbl ps)]) (hc : lw.codes G ps)
    (q : ∀ x3 x4 x5 x6 x7 x8 x10 G' H' ps', Bag K G' H' b [(lw.P, .tbl ps')] → lw.codes G' ps' → D.nx [a0, some (.ref b), a2, x3, x4, x5, x6, x7, x8, a9, x10] H') :
    t_law_1b K lw D [a0, some (.ref b), a2, a3, a4, a5, a6, a7, a8, a9, a10] H := by
  unfold t_law_1b
  refine rd_seq (rd_asg (rd_op (rd_call (rd_cons (rd_var rfl (rd_cons (rd_lst (rd_cons (rd_c (rd_cons (rd_un (rd_c (rd_U (rd_cons (rd_c (rd_cons (rd_op (rd_c (rd_c (rd_I ⟨by decide, by decide, by decide⟩ ?_))))))))))))))))))))
  refine rd_cons (rd_op (rd_c (rd_op (rd_c (rd_c (rd_I ⟨by decide, by decide, by decide⟩ (rd_I0 (rd_nil ?_))))))))
  refine mk_lst (bag_world K b) B (by show 5 ≤ 100000; decide) fun p1 G1 e1 B1 h1 => rd_nil ?_
  refine ⟨b, p1, _, G1, _, rfl, B1, fun H' B' => .inl (ex_l B'.ex (sq_of h1)), by show 0 < 5; decide, by show 5 < _; decide, fun x H2 hx B2 => ?_⟩
  obtain ⟨n, rfl, hn⟩ : ∃ n : Int, x = .int n ∧ n.natAbs ≤ 10 ^ 17 := by
    rcases in_two hx with rfl | hx
    · exact ⟨_, rfl, by decide⟩
    rcases in_two hx with rfl | hx
    · exact ⟨_, rfl, by decide⟩
    rcases in_two hx with rfl | hx
    · exact ⟨_, rfl, by decide⟩
    rcases in_two hx with rfl | hx
    · exact ⟨_, rfl, by decide⟩
    rw [List.mem_singleton.mp hx]
    exact ⟨_, rfl, by decide⟩
  refine rd_call (rd_cons (rd_var rfl (rd_cons (rd_c (rd_nil ?_)))))
  refine ⟨b, 3, G1, _, rfl, by decide, by decide, B2, fun d H3 d0 d1 B3 => rd_I0 (rd_name ?_)⟩
  show t_law_1b_1 K lw D _ _
  exact read_1 XI B3 (hc.ex e1) (by omega) fun x4 x5 x6 x7 x8 x10 G' H' ps' => q _ x4 x5 x6 x7 x8 x10 G' H' ps'
/-! ### what is no text of a stretch -/
def odds : List PyData := [.none, .int 3, .bool true, .tuple [.int 1, .int 2], .list [], .str "", .str ".", .str "...", .str "1...2", .str "5..3", .str "1", .str "-0..", .str "..01", .str "__", .str "_..3", .str "1..2..3", .str " ..", .str "3 .."]
def oddOk : PyData → Bool
  | .str z => (rdSt z.cps.toList).isNone && decide (z.cps.toList.length ≤ 300)
  | _ => true
theorem odds_ok : odds.all oddOk = true := by decide +kernel
theorem odds_fit : ∀ d, d ∈ odds → fit 8 d := by
  intro d hd
  simp only [odds, List.mem_cons, List.not_mem_nil, or_false] at hd
  rcases hd with rfl | rfl | rfl | rfl | rfl | rfl | rfl | rfl | rfl | rfl | rfl | rfl | rfl | rfl | rfl | rfl | rfl | rfl <;> simp [fit]
theorem read_law_2 (XI : ExcOk K "InvalidText" "given") (B : Bag K G H b [(lw.P, .tbl ps)]) (hc : lw.codes G ps) (q : ∀ H', D.rt (.bl true) H') :
    t_law_2 K lw D [a0, some (.ref b), a2, a3, a4, a5, a6, a7, a8, a9, a10] H := by
  unfold t_law_2
  refine rd_seq (rd_asg (rd_call (rd_cons (rd_var rfl (rd_cons (rd_lst (rd_cons (rd_c (rd_cons (rd_c (rd_cons (rd_c (rd_cons (rd_tup (rd_cons (rd_c (rd_cons (rd_c (rd_nil ?_)))))))))))))))))))
  refine mk_tup (bag_world K b) B (by show 2 ≤ 100000; decide) fun p1 G1 e1 B1 h1 => rd_cons (rd_lst (rd_nil ?_))
  refine mk_lst (bag_world K b) B1 (Nat.zero_le _) fun p2 G2 e2 B2 h2 => ?_
  refine rd_cons (rd_c (rd_cons (rd_c (rd_cons (rd_c (rd_cons (rd_c (rd_cons (rd_c (rd_cons (rd_c (rd_cons (rd_c (rd_cons (rd_c (rd_cons (rd_c (rd_cons (rd_c (rd_cons (rd_c (rd_cons (rd_c (rd_cons (rd_c (rd_nil ?_))))))))))))))))))))))))))
  refine mk_lst (bag_world K b) B2 (by show 18 ≤ 100000; decide) fun p3 G3 e3 B3 h3 => rd_nil ?_
  have all : DpAll K G3 [.non, .int 3, .bl true, .ref p1, .ref p2, .str "", .str ".", .str "...", .str "1...2", .str "5..3", .str "1", .str "-0..", .str "..01", .str "__", .str "_..3", .str "1..2..3", .str " ..", .str "3 .."] odds :=
    .cons .non (.cons (.int _) (.cons (.bl _) (.cons (.tup (ex_t (e2.trans e3) (st_of h1)) (.cons (.int _) (.cons (.int _) .nil))) (.cons (.lst (ex_l e3 (sq_of h2)) .nil) (.cons (.str _) (.cons (.str _) (.cons (.str _) (.cons (.str _) (.cons (.str _) (.cons (.str _) (.cons (.str _) (.cons (.str _) (.cons (.str _) (.cons (.str _) (.cons (.str _) (.cons (.str _) (.cons (.str _) .nil)))))))))))))))))
  refine ⟨b, p3, _, G3, _, rfl, B3, fun H' B' => .inl (ex_l B'.ex (sq_of h3)), by show 0 < 18; decide, by show 18 < _; decide, fun x H2 hx B4 => ?_⟩
  obtain ⟨i, hi⟩ := List.getElem?_of_mem hx
  obtain ⟨d, hd, hdp⟩ := DpAll.get all hi
  have hm := List.mem_of_getElem? hd
  have ok := List.all_eq_true.mp odds_ok d hm
  have fd := odds_fit d hm
  have hl : ∀ z : Str, d = .str z → z.cps.toList.length ≤ 300 := fun z e => by
    subst e
    have ok : ((rdSt z.cps.toList).isNone && decide (z.cps.toList.length ≤ 300)) = true := ok
    exact of_decide_eq_true (Bool.and_eq_true_iff.mp ok).2
  have hr : rdOf d = none := by
    cases d with
    | str z =>
      have ok : ((rdSt z.cps.toList).isNone && decide (z.cps.toList.length ≤ 300)) = true := ok
      exact Option.isNone_iff_eq_none.mp (Bool.and_eq_true_iff.mp ok).1
    | _ => rfl
  refine rd_name ?_
  show t_law_3 K lw D [a0, some (.ref b), a2, a3, a4, a5, a6, a7, a8, some x, a10] H2
  unfold t_law_3
  refine rd_ret (rd_call (rd_cons ?_))
  refine rd_try_read XI B4 (hc.ex (e1.trans (e2.trans e3))) rfl hdp hl fun p G5 H5 ps5 e5 B5 k5 h5 => rd_cons (rd_tup (rd_cons (rd_c (rd_cons (rd_var rfl (rd_nil ?_))))))
  refine mk_tup (bag_world K b) B5 (by show 2 ≤ 100000; decide) fun p6 G6 e6 B6 h6 => rd_nil ?_
  refine rd_like B6 (Dp.ex e6 _ _ h5) ?_ (fit_try fd) fun H7 _ => q H7
  unfold tryD
  rw [hr]
  exact .tup (st_of h6) (.cons (.str _) (.cons (Dp.ex (e5.trans e6) _ _ hdp) .nil))
end
def sp_law (K : PySem.W.Frag) (lw : LamW) : Sp := fun vs H Q _ => ∃ (a : Addr) (ns : List Int), vs = [.ref a] ∧ SqL K H a (ns.map V.int) ∧ H lw.P = some (.tbl #[]) ∧ ExcOk K "InvalidText" "given" ∧ (∀ H', Q (.bl true) H')
/-- a heap without one of its objects -/
def del (H : Hp) (p : Addr) : Hp := fun a => if a = p then none else H a
theorem Stt.out1 {H : Hp} {p : Addr} {o : HO} (h : H p = some o) : Stt (del H p) H [(p, o)] where
  ex := fun a u ha => by
    unfold del at ha
    by_cases c : a = p
    · rw [if_pos c] at ha; cases ha
    · rw [if_neg c] at ha; exact ha
  has := fun q hq => by rw [List.mem_singleton.mp hq]; exact h
  out := fun q hq => by rw [List.mem_singleton.mp hq]; exact if_pos rfl
  nd := by simp
theorem del_sq {K : PySem.W.Frag} {H : Hp} {p a : Addr} {ps : Array Value} {xs : List V} (h : H p = some (.tbl ps)) (s : SqL K H a xs) : SqL K (del H p) a xs := by
  rcases s with r | k
  · have ne : a ≠ p := fun z => by
      subst z
      rcases r with r | ⟨o, r⟩ <;> (rw [h] at r; cases r)
    have e : del H p a = H a := if_neg ne
    exact .inl (by unfold Rd at r ⊢; rw [e]; exact r)
  · exact .inr k
theorem sat_law {K : PySem.W.Frag} {lw : LamW} {vs : List V} {H : Hp} {Q : VK} {E : XK} (h : sp_law K lw vs H Q E) : vs.length = 1 ∧ t_law K lw { nx := fun _ H' => Q .non H', rt := Q } (vs.map some ++ List.replicate (11 - vs.length) none) H := by
  obtain ⟨a, ns, rfl, ha, hP, XI, q⟩ := h
  refine ⟨rfl, ?_⟩
  unfold t_law
  refine rd_seq (rd_asg (rd_call (rd_cons (rd_var rfl (rd_nil ?_)))))
  refine ⟨a, ns, _, _, rfl, Stt.out1 hP, del_sq hP ha, fun b G1 H1 e1 B1 => rd_name ?_⟩
  have k1 : lw.codes G1 #[] := ⟨True.intro, fun _ _ h => nomatch h⟩
  show t_law_1 K lw _ _ _
  unfold t_law_1
  refine rd_seq (rd_for (rd_rng1 (rd_cons (rd_c (rd_nil ⟨6, rfl, by decide, by decide, ?_⟩)))))
  refine for_go (walk_range (lo := 0) (n := (6 : Int).toNat)) (G := G1)
    (fun i σ1 G2 H2 => ∃ x2 x3 x4 x5 x6 x7 x8 x9 x10 ps, σ1 = [some (.ref a), some (.ref b), x2, x3, x4, x5, x6, x7, x8, x9, x10] ∧ Bag K G2 H2 b [(lw.P, .tbl ps)] ∧ lw.codes G2 ps)
    ⟨_, _, _, _, _, _, _, _, _, _, rfl, B1, k1⟩ (fun _ _ _ _ _ _ => True.intro) ?_ ?_
  · rintro i x σ1 G2 H2 H3 hi ⟨x2, x3, x4, x5, x6, x7, x8, x9, x10, ps, rfl, B2, k2⟩ y N hN
    obtain ⟨rfl, rfl⟩ := y
    refine rd_name ?_
    exact read_0 XI B2 k2 fun x3 x4 x5 x6 x7 x8 x10 G' H' ps' B' k' => hN _ G' H' ⟨_, _, _, _, _, _, _, _, _, ps', rfl, B', k'⟩
  · rintro σ1 G2 H2 ⟨x2, x3, x4, x5, x6, x7, x8, x9, x10, ps, rfl, B2, k2⟩
    exact read_law_2 XI B2 k2 q

end EE
namespace Q06
open PySem PySem.Spec PyProof.Rows L2 Evl RZ EE
def topS (i : Nat) : Stmt := PySem.Challenge.pw_eachentry_k06_texts_of_stretches.main.body.getD i (.Pass ⟨0, 0, 0, 0⟩)
abbrev s_is_number : Stmt := topS 7
theorem sc_is_number : FnScope ["value"] ["value"] (defScope s_is_number) := ⟨rfl, rfl, rfl, by decide +kernel, rfl, by decide +kernel, by decide +kernel⟩
abbrev s_is_value : Stmt := topS 8
theorem sc_is_value : FnScope ["value"] ["value"] (defScope s_is_value) := ⟨rfl, rfl, rfl, by decide +kernel, rfl, by decide +kernel, by decide +kernel⟩
abbrev s_read_number : Stmt := topS 9
theorem sc_read_number : FnScope ["word", "figures", "figure"] ["word"] (defScope s_read_number) := ⟨rfl, rfl, rfl, by decide +kernel, rfl, by decide +kernel, by decide +kernel⟩
abbrev s_is_stretch : Stmt := topS 11
theorem sc_is_stretch : FnScope ["value", "low", "high"] ["value"] (defScope s_is_stretch) := ⟨rfl, rfl, rfl, by decide +kernel, rfl, by decide +kernel, by decide +kernel⟩
abbrev s_side_text : Stmt := topS 12
theorem sc_side_text : FnScope ["value"] ["value"] (defScope s_side_text) := ⟨rfl, rfl, rfl, by decide +kernel, rfl, by decide +kernel, by decide +kernel⟩
abbrev s_stretch_text : Stmt := topS 13
theorem sc_stretch_text : FnScope ["stretch"] ["stretch"] (defScope s_stretch_text) := ⟨rfl, rfl, rfl, by decide +kernel, rfl, by decide +kernel, by decide +kernel⟩
abbrev s_read_side : Stmt := topS 14
theorem sc_read_side : FnScope ["word"] ["word"] (defScope s_read_side) := ⟨rfl, rfl, rfl, by decide +kernel, rfl, by decide +kernel, by decide +kernel⟩
abbrev s_read_stretch : Stmt := topS 15
theorem sc_read_stretch : FnScope ["text", "sides", "found", "word"] ["text"] (defScope s_read_stretch) := ⟨rfl, rfl, rfl, by decide +kernel, rfl, by decide +kernel, by decide +kernel⟩
abbrev s_open : Stmt := topS 17
theorem sc_open : FnScope ["_law_script"] ["_law_script"] (defScope s_open) := ⟨rfl, rfl, rfl, by decide +kernel, rfl, by decide +kernel, by decide +kernel⟩
abbrev s_draw : Stmt := topS 18
theorem sc_draw : FnScope ["_law_bag", "_law_many", "_law_cell", "_law_digit", "_law_seed"] ["_law_bag", "_law_many"] (defScope s_draw) := ⟨rfl, rfl, rfl, by decide +kernel, rfl, by decide +kernel, by decide +kernel⟩
abbrev s_of : Stmt := topS 19
theorem sc_of : FnScope ["_law_bag", "_law_things"] ["_law_bag", "_law_things"] (defScope s_of) := ⟨rfl, rfl, rfl, by decide +kernel, rfl, by decide +kernel, by decide +kernel⟩
abbrev s_like : Stmt := topS 20
theorem sc_like : FnScope ["_law_found", "_law_due", "_law_one", "_law_other"] ["_law_found", "_law_due"] (defScope s_like) := ⟨rfl, rfl, rfl, by decide +kernel, rfl, by decide +kernel, by decide +kernel⟩
abbrev s_field : Stmt := topS 21
theorem sc_field : FnScope ["_law_e"] ["_law_e"] (defScope s_field) := ⟨rfl, rfl, rfl, by decide +kernel, rfl, by decide +kernel, by decide +kernel⟩
abbrev s_try : Stmt := topS 22
theorem sc_try : FnScope ["_law_ask", "_law_e"] ["_law_ask"] (defScope s_try) := ⟨rfl, rfl, rfl, by decide +kernel, rfl, by decide +kernel, by decide +kernel⟩
abbrev s_number_so : Stmt := topS 23
theorem sc_number_so : FnScope ["_law_word", "_law_figures", "_law_sign"] ["_law_word"] (defScope s_number_so) := ⟨rfl, rfl, rfl, by decide +kernel, rfl, by decide +kernel, by decide +kernel⟩
abbrev s_stretch_due : Stmt := topS 24
theorem sc_stretch_due : FnScope ["_law_text_z", "_law_sides", "_law_low", "_law_high", "_law_side"] ["_law_text_z"] (defScope s_stretch_due) := ⟨rfl, rfl, rfl, by decide +kernel, rfl, by decide +kernel, by decide +kernel⟩
abbrev s_law : Stmt := topS 25
theorem sc_law : FnScope ["_law_script", "_law_bag", "_law_turn", "_law_low", "_law_one", "_law_text_z", "_law_at", "_law_late", "_law_due", "_law_odd", "_law_side"] ["_law_script"] (defScope s_law) := ⟨rfl, rfl, rfl, by decide +kernel, rfl, by decide +kernel, by decide +kernel⟩
section
variable {base : Heap} {P : Program} {w : World} {mg : Str → Option Value} {K : PySem.W.Frag}
theorem cal_is_number {f : Addr} {fd : FuncData} (F : Fun K "is_number" "is_number" s_is_number f fd) (g : mg "is_number" = some (.ref f)) (m_isinstance : mg "isinstance" = none) (m_int : mg "int" = none) (m_bool : mg "bool" = none) : C8.Cal P w K mg base 1 "is_number" (sp_is_number K) [] := by
  have G : FnOk P w K mg base CX0 (0 + 1) f fd ["value"] (sp_is_number K) := by
    refine F.ok sc_is_number (fun vs H Q E h => (sat_is_number h).1) (fun cdv A outer s H vs Q E hr h => ?_)
    have nd := sc_is_number.nd
    exact ⟨_, (pss_one (ps_ret (pe_and (pe_callB cg_isi (by rfl) m_isinstance (by decide +kernel) (pa_cons (pv 0) (pa_cons (pe_bltn (v := .ty "int") (u := .type "int") (by rfl) m_int (by decide +kernel) rfl) pa_nil))) (pe_one (pe_not (pe_callB cg_isi (by rfl) m_isinstance (by decide +kernel) (pa_cons (pv 0) (pa_cons (pe_bltn (v := .ty "bool") (u := .type "bool") (by rfl) m_bool (by decide +kernel) rfl) pa_nil)))))))), (sat_is_number h).2⟩
  exact cal_mk F G g fun _ _ _ _ _ _ us hl => match us, hl with | [_], _ => rfl
theorem cal_is_value {f : Addr} {fd : FuncData} (F : Fun K "is_value" "is_value" s_is_value f fd) (g : mg "is_value" = some (.ref f)) (C_is_number : C8.Cal P w K mg base 1 "is_number" (sp_is_number K) []) : C8.Cal P w K mg base 2 "is_value" (sp_is_value K) [] := by
  have G : FnOk P w K mg base CX0 (1 + 1) f fd ["value"] (sp_is_value K) := by
    refine F.ok sc_is_value (fun vs H Q E h => (sat_is_value h).1) (fun cdv A outer s H vs Q E hr h => ?_)
    have nd := sc_is_value.nd
    exact ⟨_, (pss_one (ps_ret (pe_or (pe_cmpR op_isN1 (pv 0) pe_non (nomark _)) (pe_one (C8.pe_c C_is_number hr (by decide) (by rfl) (pa_cons (pv 0) pa_nil)))))), (sat_is_value h).2⟩
  exact cal_mk F G g fun _ _ _ _ _ _ us hl => match us, hl with | [_], _ => rfl
theorem cal_read_number {f : Addr} {fd : FuncData} (F : Fun K "read_number" "read_number" s_read_number f fd) (g : mg "read_number" = some (.ref f)) (m_all : mg "all" = none) (m_int : mg "int" = none) (g_FIGURES : ∃ u, mg "FIGURES" = some u ∧ RelV v_FIGURES u) : C8.Cal P w K mg base 1 "read_number" (sp_read_number K) [] := by
  have G : FnOk P w K mg base CX0 (0 + 1) f fd ["word"] (sp_read_number K) := by
    refine F.ok sc_read_number (fun vs H Q E h => (sat_read_number h).1) (fun cdv A outer s H vs Q E hr h => ?_)
    have nd := sc_read_number.nd
    exact ⟨_, (pss_cons (ps_set (i := 1) nd rfl (.inl rfl) (pe_ifExp (pt_cmpR (og_eq hr.units) (pe_slice og_sl (pv 0) po_none (po_some pe_int)) pe_str (nomark _)) (pe_slice og_sl (pv 0) (po_some pe_int) po_none) (pv 0)))
  (pss_cons (ps_if (PW.pt (pw_or (pt_cmpR (og_eq hr.units) (pv 1) pe_str (nomark _)) (pw_or1 (pt_not (pt_val (pe_callB (cr_all rfl) (by rfl) m_all (by decide +kernel) (pa_cons (pe_lc (own := [("figure", 2)]) (g := (gName 2)) (tt := tYes) rfl nd (pi_str (pv 1)) (blkOk_by (N := ["word", "figures", "figure"]) (sc := defScope s_read_number) (by decide +kernel)) (fun _ _ _ _ _ => (pg_name (i := 2) nd rfl (.inl rfl))) (fun _ _ _ _ _ => pts_nil) (fun _ _ _ _ _ => (pe_cmpR og_in (pv 2) (C8.pe_gc (by rfl) g_FIGURES) (by rfl)))) pa_nil))))))) (pss_one (ps_ret (pe_lst pa_nil))) pss_nil)
  (pss_cons (ps_if (PW.pt (pw_and (pt_cmpR (og_eq hr.units) (pe_ix ix_seq (pv 1) pe_int (fun _ _ => rfl)) pe_str (nomark _)) (pw_and1 (pt_cmpR (og_ne hr.units) (pv 0) pe_str (nomark _))))) (pss_one (ps_ret (pe_lst pa_nil))) pss_nil)
  (pss_one (ps_ret (pe_lst (pa_cons (pe_callTy cg_int (by rfl) m_int (by decide +kernel) (pa_cons (pv 0) pa_nil)) pa_nil))))))), (sat_read_number h).2⟩
  exact cal_mk F G g fun _ _ _ _ _ _ us hl => match us, hl with | [_], _ => rfl
theorem cal_is_stretch {f : Addr} {fd : FuncData} (F : Fun K "is_stretch" "is_stretch" s_is_stretch f fd) (g : mg "is_stretch" = some (.ref f)) (C_is_value : C8.Cal P w K mg base 2 "is_value" (sp_is_value K) []) (m_isinstance : mg "isinstance" = none) (m_tuple : mg "tuple" = none) (m_len : mg "len" = none) (m_bool : mg "bool" = none) : C8.Cal P w K mg base 3 "is_stretch" (sp_is_stretch K) [] := by
  have G : FnOk P w K mg base CX0 (2 + 1) f fd ["value"] (sp_is_stretch K) := by
    refine F.ok sc_is_stretch (fun vs H Q E h => (sat_is_stretch h).1) (fun cdv A outer s H vs Q E hr h => ?_)
    have nd := sc_is_stretch.nd
    exact ⟨_, (pss_cons (ps_if (pt_cmpR op_isN1 (pv 0) pe_non (nomark _)) (pss_one (ps_ret pe_bl)) pss_nil)
  (pss_cons (ps_if (PW.pt (pw_or (pt_not (pt_val (pe_callB cg_isi (by rfl) m_isinstance (by decide +kernel) (pa_cons (pv 0) (pa_cons (pe_bltn (v := .ty "tuple") (u := .type "tuple") (by rfl) m_tuple (by decide +kernel) rfl) pa_nil))))) (pw_or1 (pt_cmpR (og_ne hr.units) (pe_callB cg_len (by rfl) m_len (by decide +kernel) (pa_cons (pv 0) pa_nil)) pe_int (nomark _))))) (pss_one (ps_ret pe_bl)) pss_nil)
  (pss_cons (ps_asg (pv 0) (pg_tup rfl (pgs_cons (pg_name (i := 1) nd rfl (.inl rfl)) (pgs_cons (pg_name (i := 2) nd rfl (.inl rfl)) pgs_nil))))
  (pss_cons (ps_if (PW.pt (pw_or (pt_not (pt_val (C8.pe_c C_is_value hr (by decide) (by rfl) (pa_cons (pv 1) pa_nil)))) (pw_or1 (pt_not (pt_val (C8.pe_c C_is_value hr (by decide) (by rfl) (pa_cons (pv 2) pa_nil))))))) (pss_one (ps_ret pe_bl)) pss_nil)
  (pss_one (ps_ret (pe_or (pe_cmpR op_isN1 (pv 1) pe_non (nomark _)) (pe_or (pe_cmpR op_isN1 (pv 2) pe_non (nomark _)) (pe_one (pe_callTy cg_bool (by rfl) m_bool (by decide +kernel) (pa_cons (pe_cmpR og_le (pv 1) (pv 2) (nomark _)) pa_nil))))))))))), (sat_is_stretch h).2⟩
  exact cal_mk F G g fun _ _ _ _ _ _ us hl => match us, hl with | [_], _ => rfl
theorem cal_side_text {f : Addr} {fd : FuncData} (F : Fun K "side_text" "side_text" s_side_text f fd) (g : mg "side_text" = some (.ref f)) (m_str : mg "str" = none) : C8.Cal P w K mg base 1 "side_text" (sp_side_text K) [] := by
  have G : FnOk P w K mg base CX0 (0 + 1) f fd ["value"] (sp_side_text K) := by
    refine F.ok sc_side_text (fun vs H Q E h => (sat_side_text h).1) (fun cdv A outer s H vs Q E hr h => ?_)
    have nd := sc_side_text.nd
    exact ⟨_, (pss_one (ps_ret (pe_ifExp (pt_cmpR op_isN1 (pv 0) pe_non (nomark _)) pe_str (pe_callTy call_str_int (by rfl) m_str (by decide +kernel) (pa_cons (pv 0) pa_nil))))), (sat_side_text h).2⟩
  exact cal_mk F G g fun _ _ _ _ _ _ us hl => match us, hl with | [_], _ => rfl
theorem cal_stretch_text {f : Addr} {fd : FuncData} (F : Fun K "stretch_text" "stretch_text" s_stretch_text f fd) (g : mg "stretch_text" = some (.ref f)) (C_side_text : C8.Cal P w K mg base 1 "side_text" (sp_side_text K) []) : C8.Cal P w K mg base 2 "stretch_text" (sp_stretch_text K) [] := by
  have G : FnOk P w K mg base CX0 (1 + 1) f fd ["stretch"] (sp_stretch_text K) := by
    refine F.ok sc_stretch_text (fun vs H Q E h => (sat_stretch_text h).1) (fun cdv A outer s H vs Q E hr h => ?_)
    have nd := sc_stretch_text.nd
    exact ⟨_, (pss_cons (ps_if (pt_cmpR op_isN1 (pv 0) pe_non (nomark _)) (pss_one (ps_ret pe_str)) pss_nil)
  (pss_one (ps_ret (pe_joined (PJ.cons (pe_fmt (C8.pe_c C_side_text hr (by decide) (by rfl) (pa_cons (pe_ix ix_seq (pv 0) pe_int (fun _ _ => rfl)) pa_nil))) (PJ.cons pe_str (PJ.cons (pe_fmt (C8.pe_c C_side_text hr (by decide) (by rfl) (pa_cons (pe_ix ix_seq (pv 0) pe_int (fun _ _ => rfl)) pa_nil))) PJ.nil))))))), (sat_stretch_text h).2⟩
  exact cal_mk F G g fun _ _ _ _ _ _ us hl => match us, hl with | [_], _ => rfl
theorem cal_read_side {f : Addr} {fd : FuncData} (F : Fun K "read_side" "read_side" s_read_side f fd) (g : mg "read_side" = some (.ref f)) (C_read_number : C8.Cal P w K mg base 1 "read_number" (sp_read_number K) []) : C8.Cal P w K mg base 2 "read_side" (sp_read_side K) [] := by
  have G : FnOk P w K mg base CX0 (1 + 1) f fd ["word"] (sp_read_side K) := by
    refine F.ok sc_read_side (fun vs H Q E h => (sat_read_side h).1) (fun cdv A outer s H vs Q E hr h => ?_)
    have nd := sc_read_side.nd
    exact ⟨_, (pss_one (ps_ret (pe_ifExp (pt_cmpR (og_eq hr.units) (pv 0) pe_str (nomark _)) (pe_lst (pa_cons pe_non pa_nil)) (C8.pe_c C_read_number hr (by decide) (by rfl) (pa_cons (pv 0) pa_nil))))), (sat_read_side h).2⟩
  exact cal_mk F G g fun _ _ _ _ _ _ us hl => match us, hl with | [_], _ => rfl
theorem cal_read_stretch {f : Addr} {fd : FuncData} (F : Fun K "read_stretch" "read_stretch" s_read_stretch f fd) (g : mg "read_stretch" = some (.ref f)) (C_read_side : C8.Cal P w K mg base 2 "read_side" (sp_read_side K) []) (C_is_stretch : C8.Cal P w K mg base 3 "is_stretch" (sp_is_stretch K) []) (m_isinstance : mg "isinstance" = none) (m_str : mg "str" = none) (m_len : mg "len" = none) (X_InvalidText : ExcN P K mg "InvalidText" "given" (cls_at K "InvalidText")) : CalX P w K mg base 4 "read_stretch" (sp_read_stretch K) := by
  have G : FnOk P w K mg base (L2.CX P w) (3 + 1) f fd ["text"] (sp_read_stretch K) := by
    refine F.okX sc_read_stretch (fun vs H Q E h => (sat_read_stretch h).1) (fun cdv A outer s H vs Q E hr h => ?_)
    have nd := sc_read_stretch.nd
    exact ⟨_, (pss_cons (ps_if (pt_not (pt_val (pe_callB cg_isi (by rfl) m_isinstance (by decide +kernel) (pa_cons (pv 0) (pa_cons (pe_bltn (v := .ty "str") (u := .type "str") (by rfl) m_str (by decide +kernel) rfl) pa_nil))))) (pss_one (ps_raiseX rfl X_InvalidText hr (by decide) (takes_of rfl rfl rfl rfl) (pv 0) (by rfl) (by decide))) pss_nil)
  (pss_cons (ps_if (pt_cmpR (og_eq hr.units) (pv 0) pe_str (nomark _)) (pss_one (ps_ret pe_non)) pss_nil)
  (pss_cons (ps_setLc (i := 1) (own := [("word", 3)]) (g := (gName 3)) (tt := tYes) rfl nd rfl rfl (sw_true rfl rfl rfl (by decide +kernel)) (pi_list (pe_bm PySem.F.plainAttrs_str PySem.F.slot_str_split PySem.F.type_str_split mt_split (pv 0) (pa_cons pe_str pa_nil))) (blkOk_by (N := ["text", "sides", "found", "word"]) (sc := defScope s_read_stretch) (by decide +kernel)) (fun _ _ _ _ _ => (pg_name (i := 3) nd rfl (.inl rfl))) (fun _ _ _ _ _ => pts_nil) (fun _ _ _ _ _ => (C8.pe_c C_read_side hr (by decide) (by rfl) (pa_cons (pv 3) pa_nil))))
  (pss_cons (ps_if (PW.pt (pw_or (pt_cmpR (og_ne hr.units) (pe_callB cg_len (by rfl) m_len (by decide +kernel) (pa_cons (pv 1) pa_nil)) pe_int (nomark _)) (pw_or1 (pt_cmpR (op_inD (inD_units hr)) (pe_lst pa_nil) (pv 1) (by rfl))))) (pss_one (ps_raiseX rfl X_InvalidText hr (by decide) (takes_of rfl rfl rfl rfl) (pv 0) (by rfl) (by decide))) pss_nil)
  (pss_cons (ps_set (i := 2) nd rfl (.inl rfl) (pe_tup (pa_cons (pe_ix ix_seq (pe_ix ix_seq (pv 1) pe_int (fun _ _ => rfl)) pe_int (fun _ _ => rfl)) (pa_cons (pe_ix ix_seq (pe_ix ix_seq (pv 1) pe_int (fun _ _ => rfl)) pe_int (fun _ _ => rfl)) pa_nil))))
  (pss_cons (ps_if (pt_not (pt_val (C8.pe_c C_is_stretch hr (by decide) (by rfl) (pa_cons (pv 2) pa_nil)))) (pss_one (ps_raiseX rfl X_InvalidText hr (by decide) (takes_of rfl rfl rfl rfl) (pv 0) (by rfl) (by decide))) pss_nil)
  (pss_one (ps_ret (pv 2))))))))), (sat_read_stretch h).2⟩
  exact calX_mk F G g fun _ _ _ _ _ _ us hl => match us, hl with | [_], _ => rfl
theorem cal_open {f : Addr} {fd : FuncData} (F : Fun K "_law_open" "_law_open" s_open f fd) (g : mg "_law_open" = some (.ref f)) (m_list : mg "list" = none) : C8.Cal P w K mg base 1 "_law_open" (sp_open K) [] := by
  have G : FnOk P w K mg base CX0 (0 + 1) f fd ["_law_script"] (sp_open K) := by
    refine F.ok sc_open (fun vs H Q E h => (sat_open h).1) (fun cdv A outer s H vs Q E hr h => ?_)
    have nd := sc_open.nd
    exact ⟨_, (pss_one (ps_ret (pe_lst (pa_cons (pe_callTy cg_list (by rfl) m_list (by decide +kernel) (pa_cons (pe_slice og_sl (pv 0) po_none (po_some pe_int)) pa_nil)) (pa_cons pe_int (pa_cons pe_int (pa_cons pe_int (pa_cons pe_int pa_nil)))))))), (sat_open h).2⟩
  exact cal_mk F G g fun _ _ _ _ _ _ us hl => match us, hl with | [_], _ => rfl
theorem cal_draw {f : Addr} {fd : FuncData} (F : Fun K "_law_draw" "_law_draw" s_draw f fd) (g : mg "_law_draw" = some (.ref f)) (m_len : mg "len" = none) (m_int : mg "int" = none) : C8.Cal P w K mg base 1 "_law_draw" (sp_draw K) [] := by
  have G : FnOk P w K mg base CX0 (0 + 1) f fd ["_law_bag", "_law_many"] (sp_draw K) := by
    refine F.ok sc_draw (fun vs H Q E h => (sat_draw h).1) (fun cdv A outer s H vs Q E hr h => ?_)
    have nd := sc_draw.nd
    exact ⟨_, (pss_cons (ps_if (PW.pt (pw_and (pt_cmpR (og_eq hr.units) (pe_ix ix_seq (pv 0) pe_int (fun _ _ => rfl)) pe_int (nomark _)) (pw_and1 (pt_cmpR (og_lt hr.units) (pe_ix ix_seq (pv 0) pe_int (fun _ _ => rfl)) (pe_callB cg_len (by rfl) m_len (by decide +kernel) (pa_cons (pe_ix ix_seq (pv 0) pe_int (fun _ _ => rfl)) pa_nil)) (nomark _))))) (pss_cons (ps_set (i := 2) nd rfl (.inl rfl) (pe_ix ix_seq (pe_ix ix_seq (pv 0) pe_int (fun _ _ => rfl)) (pe_ix ix_seq (pv 0) pe_int (fun _ _ => rfl)) (fun _ _ => rfl)))
  (pss_cons (ps_asg (pe_op og_add (pe_ix ix_seq (pv 0) pe_int (fun _ _ => rfl)) pe_int) (pg_sub (pv 0) pe_int set_list))
  (pss_cons (ps_asg (pe_ifExp (pt_cmpR og_ge (pv 2) (pe_op og_pow pe_int pe_int) (nomark _)) (pv 2) pe_int) (pg_sub (pv 0) pe_int set_list))
  (pss_one (ps_asg (pe_op og_mod (pe_callTy cg_int (by rfl) m_int (by decide +kernel) (pa_cons (pe_op og_add (pe_op og_add (pe_op og_mul (pe_ix ix_seq (pv 0) pe_int (fun _ _ => rfl)) pe_int) (pe_op og_mul (pe_op og_mod (pe_callTy cg_int (by rfl) m_int (by decide +kernel) (pa_cons (pv 2) pa_nil)) pe_int) pe_int)) pe_int) pa_nil)) pe_int) (pg_sub (pv 0) pe_int set_list)))))) pss_nil)
  (pss_cons (ps_if (pt_cmpR og_gt (pe_ix ix_seq (pv 0) pe_int (fun _ _ => rfl)) pe_int (nomark _)) (pss_cons (ps_set (i := 3) nd rfl (.inl rfl) (pe_op og_mod (pe_callTy cg_int (by rfl) m_int (by decide +kernel) (pa_cons (pe_ix ix_seq (pv 0) pe_int (fun _ _ => rfl)) pa_nil)) (pv 1)))
  (pss_cons (ps_asg (pe_op og_fdiv (pe_ix ix_seq (pv 0) pe_int (fun _ _ => rfl)) (pv 1)) (pg_sub (pv 0) pe_int set_list))
  (pss_one (ps_ret (pv 3))))) pss_nil)
  (pss_cons (ps_asg (pe_op og_add (pe_ix ix_seq (pv 0) pe_int (fun _ _ => rfl)) pe_int) (pg_sub (pv 0) pe_int set_list))
  (pss_cons (ps_set (i := 4) nd rfl (.inl rfl) (pe_ix ix_seq (pv 0) pe_int (fun _ _ => rfl)))
  (pss_cons (ps_asg (pe_op og_mod (pe_callTy cg_int (by rfl) m_int (by decide +kernel) (pa_cons (pe_op og_add (pe_op og_add (pe_op og_add (pe_op og_mul (pv 4) (pv 4)) (pe_op og_mul pe_int (pv 4))) (pe_op og_mul pe_int (pe_ix ix_seq (pv 0) pe_int (fun _ _ => rfl)))) pe_int) pa_nil)) pe_int) (pg_sub (pv 0) pe_int set_list))
  (pss_one (ps_ret (pe_op og_mod (pe_callTy cg_int (by rfl) m_int (by decide +kernel) (pa_cons (pe_op og_add (pe_op og_add (pe_op og_fdiv (pe_ix ix_seq (pv 0) pe_int (fun _ _ => rfl)) pe_int) (pe_op og_mul (pv 4) pe_int)) (pe_ix ix_seq (pv 0) pe_int (fun _ _ => rfl))) pa_nil)) (pv 1))))))))), (sat_draw h).2⟩
  exact cal_mk F G g fun _ _ _ _ _ _ us hl => match us, hl with | [_, _], _ => rfl
theorem cal_of {f : Addr} {fd : FuncData} (F : Fun K "_law_of" "_law_of" s_of f fd) (g : mg "_law_of" = some (.ref f)) (C__law_draw : C8.Cal P w K mg base 1 "_law_draw" (sp_draw K) []) (m_len : mg "len" = none) : C8.Cal P w K mg base 2 "_law_of" (sp_of K) [] := by
  have G : FnOk P w K mg base CX0 (1 + 1) f fd ["_law_bag", "_law_things"] (sp_of K) := by
    refine F.ok sc_of (fun vs H Q E h => (sat_of h).1) (fun cdv A outer s H vs Q E hr h => ?_)
    have nd := sc_of.nd
    exact ⟨_, (pss_one (ps_ret (pe_ix ix_seq (pv 1) (C8.pe_c C__law_draw hr (by decide) (by rfl) (pa_cons (pv 0) (pa_cons (pe_callB cg_len (by rfl) m_len (by decide +kernel) (pa_cons (pv 1) pa_nil)) pa_nil))) (fun _ _ => rfl)))), (sat_of h).2⟩
  exact cal_mk F G g fun _ _ _ _ _ _ us hl => match us, hl with | [_, _], _ => rfl
theorem cal_like {f : Addr} {fd : FuncData} (F : Fun K "_law_like" "_law_like" s_like f fd) (g : mg "_law_like" = some (.ref f)) (m_isinstance : mg "isinstance" = none) (m_tuple : mg "tuple" = none) (m_list : mg "list" = none) (m_len : mg "len" = none) (m_all : mg "all" = none) (m_zip : mg "zip" = none) (m_bool : mg "bool" = none) (m_int : mg "int" = none) (m_str : mg "str" = none) : ∀ n, C8.Cal P w K mg base (0 + 1 * n) "_law_like" (sp_like K n) []
  | 0 => ⟨f, fd, ["_law_found", "_law_due"], [], fnOk_never (never_like K), g, F.kp, F.binds fun _ _ _ _ _ _ us hl => match us, hl with | [_, _], _ => rfl, .nil⟩
  | n + 1 => by
    have C__law_like := cal_like F g m_isinstance m_tuple m_list m_len m_all m_zip m_bool m_int m_str n
    have G : FnOk P w K mg base CX0 ((0 + 1 * n + 0) + 1) f fd ["_law_found", "_law_due"] (sp_like K (n + 1)) := by
      refine F.ok sc_like (fun vs H Q E h => (sat_like (n := n) h).1) (fun cdv A outer s H vs Q E hr h => ?_)
      have nd := sc_like.nd
      exact ⟨_, (pss_cons (ps_if (pt_val (pe_callB cg_isi (by rfl) m_isinstance (by decide +kernel) (pa_cons (pv 1) (pa_cons (pe_tup (pa_cons (pe_bltn (v := .ty "list") (u := .type "list") (by rfl) m_list (by decide +kernel) rfl) (pa_cons (pe_bltn (v := .ty "tuple") (u := .type "tuple") (by rfl) m_tuple (by decide +kernel) rfl) pa_nil))) pa_nil)))) (pss_cons (ps_if (PW.pt (pw_or (pt_cmpR (og_ne hr.units) (pe_callB cg_isi (by rfl) m_isinstance (by decide +kernel) (pa_cons (pv 0) (pa_cons (pe_bltn (v := .ty "list") (u := .type "list") (by rfl) m_list (by decide +kernel) rfl) pa_nil))) (pe_callB cg_isi (by rfl) m_isinstance (by decide +kernel) (pa_cons (pv 1) (pa_cons (pe_bltn (v := .ty "list") (u := .type "list") (by rfl) m_list (by decide +kernel) rfl) pa_nil))) (nomark _)) (pw_or1 (pt_cmpR (og_ne hr.units) (pe_callB cg_isi (by rfl) m_isinstance (by decide +kernel) (pa_cons (pv 0) (pa_cons (pe_bltn (v := .ty "tuple") (u := .type "tuple") (by rfl) m_tuple (by decide +kernel) rfl) pa_nil))) (pe_callB cg_isi (by rfl) m_isinstance (by decide +kernel) (pa_cons (pv 1) (pa_cons (pe_bltn (v := .ty "tuple") (u := .type "tuple") (by rfl) m_tuple (by decide +kernel) rfl) pa_nil))) (nomark _))))) (pss_one (ps_ret pe_bl)) pss_nil)
    (pss_one (ps_ret (pe_and (pe_cmpR (og_eq hr.units) (pe_callB cg_len (by rfl) m_len (by decide +kernel) (pa_cons (pv 0) pa_nil)) (pe_callB cg_len (by rfl) m_len (by decide +kernel) (pa_cons (pv 1) pa_nil)) (nomark _)) (pe_one (pe_callB (cr_all rfl) (by rfl) m_all (by decide +kernel) (pa_cons (pe_lc (own := [("_law_one", 2), ("_law_other", 3)]) (g := (gTup K 2 (gCons (gName 2) (gCons (gName 3) gNil)))) (tt := tYes) rfl nd (pi_zipA (by rfl) m_zip (pa_cons (pv 0) (pa_cons (pv 1) pa_nil))) (blkOk_by (N := ["_law_found", "_law_due", "_law_one", "_law_other"]) (sc := defScope s_like) (by decide +kernel)) (fun _ _ _ _ _ => (pg_tup rfl (pgs_cons (pg_name (i := 2) nd rfl (.inl rfl)) (pgs_cons (pg_name (i := 3) nd rfl (.inl rfl)) pgs_nil)))) (fun _ _ _ _ _ => pts_nil) (fun _ _ _ _ _ => (C8.pe_c C__law_like hr (by omega) (by rfl) (pa_cons (pv 2) (pa_cons (pv 3) pa_nil))))) pa_nil))))))) pss_nil)
    (pss_cons (ps_if (PW.pt (pw_or (pt_cmpR op_isN1 (pv 1) pe_non (nomark _)) (pw_or1 (pt_cmpR op_isN1 (pv 0) pe_non (nomark _))))) (pss_one (ps_ret (pe_and (pe_cmpR op_isN1 (pv 1) pe_non (nomark _)) (pe_one (pe_cmpR op_isN1 (pv 0) pe_non (nomark _)))))) pss_nil)
    (pss_cons (ps_if (PW.pt (pw_or (pt_cmpR (og_ne hr.units) (pe_callB cg_isi (by rfl) m_isinstance (by decide +kernel) (pa_cons (pv 0) (pa_cons (pe_bltn (v := .ty "bool") (u := .type "bool") (by rfl) m_bool (by decide +kernel) rfl) pa_nil))) (pe_callB cg_isi (by rfl) m_isinstance (by decide +kernel) (pa_cons (pv 1) (pa_cons (pe_bltn (v := .ty "bool") (u := .type "bool") (by rfl) m_bool (by decide +kernel) rfl) pa_nil))) (nomark _)) (pw_or1 (pt_cmpR (og_ne hr.units) (pe_callB cg_isi (by rfl) m_isinstance (by decide +kernel) (pa_cons (pv 0) (pa_cons (pe_bltn (v := .ty "int") (u := .type "int") (by rfl) m_int (by decide +kernel) rfl) pa_nil))) (pe_callB cg_isi (by rfl) m_isinstance (by decide +kernel) (pa_cons (pv 1) (pa_cons (pe_bltn (v := .ty "int") (u := .type "int") (by rfl) m_int (by decide +kernel) rfl) pa_nil))) (nomark _))))) (pss_one (ps_ret pe_bl)) pss_nil)
    (pss_one (ps_ret (pe_and (pe_cmpR (og_eq hr.units) (pe_callB cg_isi (by rfl) m_isinstance (by decide +kernel) (pa_cons (pv 0) (pa_cons (pe_bltn (v := .ty "str") (u := .type "str") (by rfl) m_str (by decide +kernel) rfl) pa_nil))) (pe_callB cg_isi (by rfl) m_isinstance (by decide +kernel) (pa_cons (pv 1) (pa_cons (pe_bltn (v := .ty "str") (u := .type "str") (by rfl) m_str (by decide +kernel) rfl) pa_nil))) (nomark _)) (pe_one (pe_cmpR (og_eq hr.units) (pv 0) (pv 1) (nomark _))))))))), (sat_like (n := n) h).2⟩
    exact cal_mk F G g fun _ _ _ _ _ _ us hl => match us, hl with | [_, _], _ => rfl
theorem cal_field {f : Addr} {fd : FuncData} (F : Fun K "_law_field" "_law_field" s_field f fd) (g : mg "_law_field" = some (.ref f)) : FldOk P w K mg base 1 "_law_field" := by
  have nd := sc_field.nd
  have kp := F.kp
  have b := F.binds (ps := ["_law_e"]) (fun _ _ _ _ _ _ us hl => match us, hl with | [_], _ => rfl)
  obtain ⟨oc, od, kV, doc, pm, an, cdv, ct, osl, rfl, lk, hcd⟩ := F.ex; exact ⟨f, _, fnE_of (k := 0) lk hcd sc_field (fun a cls d vs H Q E h => (sat_field h).1) (fun A outer s H vs Q p cls d hu hz hf h => ⟨_, (pss_cons (ps_if (pt_cmpR og_in (pe_xfA (.head _) hz hf (pv 0)) (pe_lst (pa_cons pe_str (pa_cons pe_str (pa_cons pe_str (pa_cons pe_str (pa_cons pe_str pa_nil)))))) (by rfl)) (pss_one (ps_ret (pe_xfA (.head _) hz hf (pv 0)))) pss_nil)
  (pss_cons (ps_if (pt_cmpR og_in (pe_xfA (.head _) hz hf (pv 0)) (pe_lst (pa_cons pe_str (pa_cons pe_str pa_nil))) (by rfl)) (pss_one (ps_ret (pe_xfA (.head _) hz hf (pv 0)))) pss_nil)
  (pss_cons (ps_if (pt_cmpR og_in (pe_xfA (.head _) hz hf (pv 0)) (pe_lst (pa_cons pe_str (pa_cons pe_str pa_nil))) (by rfl)) (pss_one (ps_ret (pe_xfA (.head _) hz hf (pv 0)))) pss_nil)
  (pss_cons (ps_if (pt_cmpR (og_eq hu) (pe_xfA (.head _) hz hf (pv 0)) pe_str (nomark _)) (pss_one (ps_ret (pe_xfA (.head _) hz hf (pv 0)))) pss_nil)
  (pss_cons (ps_if (pt_cmpR (og_eq hu) (pe_xfA (.head _) hz hf (pv 0)) pe_str (nomark _)) (pss_one (ps_ret (pe_xfA (.head _) hz hf (pv 0)))) pss_nil)
  (pss_one (ps_ret (pe_ifExp (pt_cmpR og_in (pe_xfA (.head _) hz hf (pv 0)) (pe_lst (pa_cons pe_str (pa_cons pe_str (pa_cons pe_str pa_nil)))) (by rfl)) pe_non (pe_xfA (.head _) hz hf (pv 0)))))))))), (sat_field h).2⟩), g, kp, b⟩
theorem cal_try {f : Addr} {fd : FuncData} (F : Fun K "_law_try" "_law_try" s_try f fd) (g : mg "_law_try" = some (.ref f)) (C__law_field : FldOk P w K mg base 1 "_law_field") (e_EntryError : mg "EntryError" = some (.ref (cls_at K "EntryError"))) (e_Missing : mg "Missing" = some (.ref (cls_at K "Missing"))) (e_NothingLeft : mg "NothingLeft" = some (.ref (cls_at K "NothingLeft"))) : TryOk P w K mg base 6 5 "_law_try" := by
  have nd := sc_try.nd
  obtain ⟨f1, fd1, FE, gm, kp, b⟩ := C__law_field.ex
  exact try_mk F sc_try g (fun _ _ _ _ _ _ _ => rfl) (fun cdv A outer s H f tl hr c => pss_one (ps_try_asT rfl rfl nd rfl rfl ⟨by rfl, by decide, .inl e_EntryError⟩ ⟨by rfl, by decide, .inl e_Missing⟩ ⟨by rfl, by decide, .inl e_NothingLeft⟩
    (fun W pn xe tk => pss_ask c rfl tk hr rfl (.inl rfl) (by decide) (by decide)) (fun a oe cls d pn hz hf => pss_one (ps_ret (pe_tup (pa_cons (pe_xfA (.head _) hz hf (pv 1)) (pa_cons (pe_callE FE (L2H.roomH_mark (hr.mono (by decide)) _) (.head _) hz hf (by rfl) gm kp b (pa_cons (pv 1) pa_nil)) pa_nil)))))))
theorem cal_number_so {f : Addr} {fd : FuncData} (F : Fun K "_law_number_so" "_law_number_so" s_number_so f fd) (g : mg "_law_number_so" = some (.ref f)) (m_all : mg "all" = none) (m_str : mg "str" = none) (m_int : mg "int" = none) : C8.Cal P w K mg base 1 "_law_number_so" (sp_number_so K) [] := by
  have G : FnOk P w K mg base CX0 (0 + 1) f fd ["_law_word"] (sp_number_so K) := by
    refine F.ok sc_number_so (fun vs H Q E h => (sat_number_so h).1) (fun cdv A outer s H vs Q E hr h => ?_)
    have nd := sc_number_so.nd
    exact ⟨_, (pss_cons (ps_set (i := 1) nd rfl (.inl rfl) (pe_ifExp (pt_cmpR (og_eq hr.units) (pe_slice og_sl (pv 0) po_none (po_some pe_int)) pe_str (nomark _)) (pe_slice og_sl (pv 0) (po_some pe_int) po_none) (pv 0)))
  (pss_one (ps_ret (pe_and (pe_cmpR (og_ne hr.units) (pv 1) pe_str (nomark _)) (pe_and (pe_callB (cr_all rfl) (by rfl) m_all (by decide +kernel) (pa_cons (pe_lc (own := [("_law_sign", 2)]) (g := (gName 2)) (tt := tYes) rfl nd (pi_str (pv 1)) (blkOk_by (N := ["_law_word", "_law_figures", "_law_sign"]) (sc := defScope s_number_so) (by decide +kernel)) (fun _ _ _ _ _ => (pg_name (i := 2) nd rfl (.inl rfl))) (fun _ _ _ _ _ => pts_nil) (fun _ _ _ _ _ => (pe_cmpR og_in (pv 2) pe_str (by rfl)))) pa_nil)) (pe_one (pe_cmpR (og_eq hr.units) (pe_callTy call_str_int (by rfl) m_str (by decide +kernel) (pa_cons (pe_callTy cg_int (by rfl) m_int (by decide +kernel) (pa_cons (pv 0) pa_nil)) pa_nil)) (pv 0) (nomark _)))))))), (sat_number_so h).2⟩
  exact cal_mk F G g fun _ _ _ _ _ _ us hl => match us, hl with | [_], _ => rfl
theorem cal_stretch_due {f : Addr} {fd : FuncData} (F : Fun K "_law_stretch_due" "_law_stretch_due" s_stretch_due f fd) (g : mg "_law_stretch_due" = some (.ref f)) (C__law_number_so : C8.Cal P w K mg base 1 "_law_number_so" (sp_number_so K) []) (m_len : mg "len" = none) (m_all : mg "all" = none) (m_int : mg "int" = none) : C8.Cal P w K mg base 2 "_law_stretch_due" (sp_stretch_due K) [] := by
  have G : FnOk P w K mg base CX0 (1 + 1) f fd ["_law_text_z"] (sp_stretch_due K) := by
    refine F.ok sc_stretch_due (fun vs H Q E h => (sat_stretch_due h).1) (fun cdv A outer s H vs Q E hr h => ?_)
    have nd := sc_stretch_due.nd
    exact ⟨_, (pss_cons (ps_if (pt_cmpR (og_eq hr.units) (pv 0) pe_str (nomark _)) (pss_one (ps_ret (pe_lst (pa_cons pe_non pa_nil)))) pss_nil)
  (pss_cons (ps_set (i := 1) nd rfl (.inl rfl) (pe_bm PySem.F.plainAttrs_str PySem.F.slot_str_split PySem.F.type_str_split mt_split (pv 0) (pa_cons pe_str pa_nil)))
  (pss_cons (ps_if (PW.pt (pw_or (pt_cmpR (og_ne hr.units) (pe_callB cg_len (by rfl) m_len (by decide +kernel) (pa_cons (pv 1) pa_nil)) pe_int (nomark _)) (pw_or1 (pt_not (pt_val (pe_callB (cr_all rfl) (by rfl) m_all (by decide +kernel) (pa_cons (pe_lc (own := [("_law_side", 4)]) (g := (gName 4)) (tt := tYes) rfl nd (pi_list (pv 1)) (blkOk_by (N := ["_law_text_z", "_law_sides", "_law_low", "_law_high", "_law_side"]) (sc := defScope s_stretch_due) (by decide +kernel)) (fun _ _ _ _ _ => (pg_name (i := 4) nd rfl (.inl rfl))) (fun _ _ _ _ _ => pts_nil) (fun _ _ _ _ _ => (pe_or (pe_cmpR (og_eq hr.units) (pv 4) pe_str (nomark _)) (pe_one (C8.pe_c C__law_number_so hr (by decide) (by rfl) (pa_cons (pv 4) pa_nil)))))) pa_nil))))))) (pss_one (ps_ret (pe_lst pa_nil))) pss_nil)
  (pss_cons (ps_asg (pe_lc (own := [("_law_side", 4)]) (g := (gName 4)) (tt := tYes) rfl nd (pi_list (pv 1)) (blkOk_by (N := ["_law_text_z", "_law_sides", "_law_low", "_law_high", "_law_side"]) (sc := defScope s_stretch_due) (by decide +kernel)) (fun _ _ _ _ _ => (pg_name (i := 4) nd rfl (.inl rfl))) (fun _ _ _ _ _ => pts_nil) (fun _ _ _ _ _ => (pe_ifExp (pt_cmpR (og_eq hr.units) (pv 4) pe_str (nomark _)) pe_non (pe_callTy cg_int (by rfl) m_int (by decide +kernel) (pa_cons (pv 4) pa_nil))))) (pg_lst rfl (pgs_cons (pg_name (i := 2) nd rfl (.inl rfl)) (pgs_cons (pg_name (i := 3) nd rfl (.inl rfl)) pgs_nil))))
  (pss_one (ps_ret (pe_ifExp (PW.pt (pw_and (pt_cmpR op_notN1 (pv 2) pe_non (nomark _)) (pw_and (pt_cmpR op_notN1 (pv 3) pe_non (nomark _)) (pw_and1 (pt_cmpR og_gt (pv 2) (pv 3) (nomark _)))))) (pe_lst pa_nil) (pe_lst (pa_cons (pe_tup (pa_cons (pv 2) (pa_cons (pv 3) pa_nil))) pa_nil))))))))), (sat_stretch_due h).2⟩
  exact cal_mk F G g fun _ _ _ _ _ _ us hl => match us, hl with | [_], _ => rfl
theorem ok_law {f cl Pt : Addr} {oc kV doc pm ct : Value} {od an : Option Addr} {osl : Array (Option Value)} (lk : K.lookup f = some ⟨oc, od, .func (PySem.W.fnOf "law" "law" (defArgs s_law) (defBody s_law) (defScope s_law) .none kV doc pm an (.ref cl) ct), osl⟩) (hcd : PySem.W.codeIn K (.ref cl) "law" = true) (TB : LamX.TabB base mg cl Pt) (C__law_open : C8.Cal P w K mg base 1 "_law_open" (sp_open K) []) (C__law_of : C8.Cal P w K mg base 2 "_law_of" (sp_of K) []) (C__law_draw : C8.Cal P w K mg base 1 "_law_draw" (sp_draw K) []) (C__law_like : C8.Cal P w K mg base 9 "_law_like" (sp_like K 9) []) (C_read_stretch : CalX P w K mg base 4 "read_stretch" (sp_read_stretch K)) (C_stretch_text : C8.Cal P w K mg base 2 "stretch_text" (sp_stretch_text K) []) (C__law_stretch_due : C8.Cal P w K mg base 2 "_law_stretch_due" (sp_stretch_due K) []) (C_read_stretch_text : CalKX P w K mg base 4 "read_stretch" (sp_read_stretch K) ["text"] [0]) (C_stretch_text_stretch : CalK P w K mg base 2 "stretch_text" (sp_stretch_text K) ["stretch"] [0]) (m_range : mg "range" = none) (m_str : mg "str" = none) (m_len : mg "len" = none) (TR : TryOk P w K mg base 6 5 "_law_try") :
    FnOk P w K mg base CX0 10 f (PySem.W.fnOf "law" "law" (defArgs s_law) (defBody s_law) (defScope s_law) .none kV doc pm an (.ref cl) ct) ["_law_script"] (fun vs H Q E => ∀ lw : LamW, lw.P = Pt → sp_law K lw vs H Q E) := by
  refine fn_of (k := 9) lk hcd sc_law (fun vs H Q E h => (sat_law (h ⟨Pt, "", fun _ _ _ _ => .tbl #[], fun _ => false⟩ rfl)).1) fun A outer s H vs Q E hr h => ?_
  have nd := sc_law.nd
  exact ⟨t_law K ⟨Pt, _, ((fun (o0 o1 : Addr → Addr → Addr → HO) (i : Nat) => match i with | 0 => o0 | _ => o1) _ _), (fun i => false)⟩, PSs.nox (pss_cons (ps_set (i := 1) nd rfl (.inl rfl) (C8.pe_c C__law_open hr (by decide) (by rfl) (pa_cons (pv 0) pa_nil)))
  (pss_cons (ps_for PassesOwn.never rfl (pi_range1 (by rfl) m_range (pa_cons pe_int pa_nil)) (pg_name (i := 2) nd rfl (.inl rfl)) (pss_cons (ps_set (i := 3) nd rfl (.inl rfl) (pe_op og_sub (C8.pe_c C__law_of hr (by decide) (by rfl) (pa_cons (pv 1) (pa_cons (pe_lst (pa_cons pe_int (pa_cons (pe_un un_neg pe_int) (pa_cons pe_int (pa_cons (pe_op og_pow pe_int pe_int) (pa_cons (pe_op og_sub pe_int (pe_op og_pow pe_int pe_int)) pa_nil)))))) pa_nil))) (C8.pe_c C__law_draw hr (by decide) (by rfl) (pa_cons (pv 1) (pa_cons pe_int pa_nil)))))
  (pss_cons (ps_set (i := 4) nd rfl (.inl rfl) (C8.pe_c C__law_of hr (by decide) (by rfl) (pa_cons (pv 1) (pa_cons (pe_lst (pa_cons pe_non (pa_cons (pe_tup (pa_cons (pv 3) (pa_cons (pe_op og_add (pv 3) (C8.pe_c C__law_draw hr (by decide) (by rfl) (pa_cons (pv 1) (pa_cons pe_int pa_nil)))) pa_nil))) (pa_cons (pe_tup (pa_cons (pv 3) (pa_cons pe_non pa_nil))) (pa_cons (pe_tup (pa_cons pe_non (pa_cons (pv 3) pa_nil))) (pa_cons (pe_tup (pa_cons pe_non (pa_cons pe_non pa_nil))) pa_nil)))))) pa_nil))))
  (pss_cons (ps_set (i := 5) nd rfl (.inl rfl) (pe_ifExp (pt_cmpR op_isN1 (pv 4) pe_non (nomark _)) pe_str (pe_joinS (pe_lc (own := [("_law_side", 10)]) (g := (gName 10)) (tt := tYes) rfl nd (pi_tup (pv 4)) (blkOk_by (N := ["_law_script", "_law_bag", "_law_turn", "_law_low", "_law_one", "_law_text_z", "_law_at", "_law_late", "_law_due", "_law_odd", "_law_side"]) (sc := defScope s_law) (by decide +kernel)) (fun _ _ _ _ _ => (pg_name (i := 10) nd rfl (.inl rfl))) (fun _ _ _ _ _ => pts_nil) (fun _ _ _ _ _ => (pe_ifExp (pt_cmpR op_isN1 (pv 10) pe_non (nomark _)) pe_str (pe_callTy call_str_int (by rfl) m_str (by decide +kernel) (pa_cons (pv 10) pa_nil))))))))
  (pss_cons (ps_if (pt_not (pt_val (C8.pe_c C__law_like hr (by decide) (by rfl) (pa_cons (pe_lst (pa_cons (C8.pe_c C_stretch_text hr (by decide) (by rfl) (pa_cons (pv 4) pa_nil)) (pa_cons (pe_cK (ks := ["stretch"]) (perm := [0]) C_stretch_text_stretch hr (by decide) (by rfl) (pk_cons (pv 4) pk_nil)) (pa_cons (pe_cX C_read_stretch hr (by decide) (by rfl) passL (pa_cons (pv 5) pa_nil)) (pa_cons (pe_cKX (ks := ["text"]) (perm := [0]) C_read_stretch_text hr (by decide) (by rfl) passL (pk_cons (pv 5) pk_nil)) pa_nil))))) (pa_cons (pe_lst (pa_cons (pv 5) (pa_cons (pv 5) (pa_cons (pv 4) (pa_cons (pv 4) pa_nil))))) pa_nil))))) (pss_one (ps_ret pe_bl)) pss_nil)
  (pss_cons (ps_set (i := 6) nd rfl (.inl rfl) (C8.pe_c C__law_draw hr (by decide) (by rfl) (pa_cons (pv 1) (pa_cons (pe_op og_add (pe_callB cg_len (by rfl) m_len (by decide +kernel) (pa_cons (pv 5) pa_nil)) pe_int) pa_nil))))
  (pss_cons (ps_set (i := 7) nd rfl (.inr rfl) (pe_op og_add (pe_op og_add (pe_slice og_sl (pv 5) po_none (po_some (pv 6))) (C8.pe_c C__law_of hr (by decide) (by rfl) (pa_cons (pv 1) (pa_cons (pe_lst (pa_cons pe_str (pa_cons pe_str (pa_cons pe_str (pa_cons pe_str (pa_cons pe_str (pa_cons pe_str (pa_cons pe_str (pa_cons pe_str (pa_cons pe_str (pa_cons pe_str (pa_cons pe_str pa_nil)))))))))))) pa_nil)))) (pe_slice og_sl (pv 5) (po_some (pe_op og_add (pv 6) (C8.pe_c C__law_draw hr (by decide) (by rfl) (pa_cons (pv 1) (pa_cons pe_int pa_nil))))) po_none)))
  (pss_cons (ps_set (i := 8) nd rfl (.inl rfl) (C8.pe_c C__law_stretch_due hr (by decide) (by rfl) (pa_cons (pv 7) pa_nil)))
  (pss_one (ps_if (pt_not (pt_val (C8.pe_c C__law_like hr (by decide) (by rfl) (pa_cons (pe_tryL TR ⟨TB, rfl, rfl⟩ (lamN0 (N := ["_law_script", "_law_bag", "_law_turn", "_law_low", "_law_one", "_law_text_z", "_law_at", "_law_late", "_law_due", "_law_odd", "_law_side"]) (sc := defScope s_law) (by decide +kernel)) rfl rfl hr (by decide) (by rfl) (fun A outer s H E f c hr => (pe_cX C_read_stretch hr (by decide) (by rfl) (passes_call (takes_of rfl rfl rfl rfl) (fun _ _ _ _ h => h)) (pa_cons (pv 7) pa_nil)))) (pa_cons (pe_ifExp (pt_cmpR (og_ne hr.units) (pv 8) (pe_lst pa_nil) (nomark _)) (pe_tup (pa_cons pe_str (pa_cons (pe_ix ix_seq (pv 8) pe_int (fun _ _ => rfl)) pa_nil))) (pe_tup (pa_cons pe_str (pa_cons (pv 7) pa_nil)))) pa_nil))))) (pss_one (ps_ret pe_bl)) pss_nil))))))))))
  (pss_cons (ps_set (i := 9) nd rfl (.inr rfl) (C8.pe_c C__law_of hr (by decide) (by rfl) (pa_cons (pv 1) (pa_cons (pe_lst (pa_cons pe_non (pa_cons pe_int (pa_cons pe_bl (pa_cons (pe_tup (pa_cons pe_int (pa_cons pe_int pa_nil))) (pa_cons (pe_lst pa_nil) (pa_cons pe_str (pa_cons pe_str (pa_cons pe_str (pa_cons pe_str (pa_cons pe_str (pa_cons pe_str (pa_cons pe_str (pa_cons pe_str (pa_cons pe_str (pa_cons pe_str (pa_cons pe_str (pa_cons pe_str (pa_cons pe_str pa_nil))))))))))))))))))) pa_nil))))
  (pss_one (ps_ret (C8.pe_c C__law_like hr (by decide) (by rfl) (pa_cons (pe_tryL TR ⟨TB, rfl, rfl⟩ (lamN0 (N := ["_law_script", "_law_bag", "_law_turn", "_law_low", "_law_one", "_law_text_z", "_law_at", "_law_late", "_law_due", "_law_odd", "_law_side"]) (sc := defScope s_law) (by decide +kernel)) rfl rfl hr (by decide) (by rfl) (fun A outer s H E f c hr => (pe_cX C_read_stretch hr (by decide) (by rfl) (passes_call (takes_of rfl rfl rfl rfl) (fun _ _ _ _ h => h)) (pa_cons (pv 9) pa_nil)))) (pa_cons (pe_tup (pa_cons pe_str (pa_cons (pv 9) pa_nil))) pa_nil)))))))), (sat_law (h _ rfl)).2⟩
theorem calK_read_stretch_text {f : Addr} {fd : FuncData} (F : Fun K "read_stretch" "read_stretch" s_read_stretch f fd) (g : mg "read_stretch" = some (.ref f)) (C_read_side : C8.Cal P w K mg base 2 "read_side" (sp_read_side K) []) (C_is_stretch : C8.Cal P w K mg base 3 "is_stretch" (sp_is_stretch K) []) (m_isinstance : mg "isinstance" = none) (m_str : mg "str" = none) (m_len : mg "len" = none) (X_InvalidText : ExcN P K mg "InvalidText" "given" (cls_at K "InvalidText")) : CalKX P w K mg base 4 "read_stretch" (sp_read_stretch K) ["text"] [0] := by
  have G : FnOk P w K mg base (L2.CX P w) (3 + 1) f fd ["text"] (sp_read_stretch K) := by
    refine F.okX sc_read_stretch (fun vs H Q E h => (sat_read_stretch h).1) (fun cdv A outer s H vs Q E hr h => ?_)
    have nd := sc_read_stretch.nd
    exact ⟨_, (pss_cons (ps_if (pt_not (pt_val (pe_callB cg_isi (by rfl) m_isinstance (by decide +kernel) (pa_cons (pv 0) (pa_cons (pe_bltn (v := .ty "str") (u := .type "str") (by rfl) m_str (by decide +kernel) rfl) pa_nil))))) (pss_one (ps_raiseX rfl X_InvalidText hr (by decide) (takes_of rfl rfl rfl rfl) (pv 0) (by rfl) (by decide))) pss_nil)
  (pss_cons (ps_if (pt_cmpR (og_eq hr.units) (pv 0) pe_str (nomark _)) (pss_one (ps_ret pe_non)) pss_nil)
  (pss_cons (ps_setLc (i := 1) (own := [("word", 3)]) (g := (gName 3)) (tt := tYes) rfl nd rfl rfl (sw_true rfl rfl rfl (by decide +kernel)) (pi_list (pe_bm PySem.F.plainAttrs_str PySem.F.slot_str_split PySem.F.type_str_split mt_split (pv 0) (pa_cons pe_str pa_nil))) (blkOk_by (N := ["text", "sides", "found", "word"]) (sc := defScope s_read_stretch) (by decide +kernel)) (fun _ _ _ _ _ => (pg_name (i := 3) nd rfl (.inl rfl))) (fun _ _ _ _ _ => pts_nil) (fun _ _ _ _ _ => (C8.pe_c C_read_side hr (by decide) (by rfl) (pa_cons (pv 3) pa_nil))))
  (pss_cons (ps_if (PW.pt (pw_or (pt_cmpR (og_ne hr.units) (pe_callB cg_len (by rfl) m_len (by decide +kernel) (pa_cons (pv 1) pa_nil)) pe_int (nomark _)) (pw_or1 (pt_cmpR (op_inD (inD_units hr)) (pe_lst pa_nil) (pv 1) (by rfl))))) (pss_one (ps_raiseX rfl X_InvalidText hr (by decide) (takes_of rfl rfl rfl rfl) (pv 0) (by rfl) (by decide))) pss_nil)
  (pss_cons (ps_set (i := 2) nd rfl (.inl rfl) (pe_tup (pa_cons (pe_ix ix_seq (pe_ix ix_seq (pv 1) pe_int (fun _ _ => rfl)) pe_int (fun _ _ => rfl)) (pa_cons (pe_ix ix_seq (pe_ix ix_seq (pv 1) pe_int (fun _ _ => rfl)) pe_int (fun _ _ => rfl)) pa_nil))))
  (pss_cons (ps_if (pt_not (pt_val (C8.pe_c C_is_stretch hr (by decide) (by rfl) (pa_cons (pv 2) pa_nil)))) (pss_one (ps_raiseX rfl X_InvalidText hr (by decide) (takes_of rfl rfl rfl rfl) (pv 0) (by rfl) (by decide))) pss_nil)
  (pss_one (ps_ret (pv 2))))))))), (sat_read_stretch h).2⟩
  exact calKX_mk F G g (by decide) fun _ _ _ _ _ _ ws hl => match ws, hl with | [_], _ => rfl
theorem calK_stretch_text_stretch {f : Addr} {fd : FuncData} (F : Fun K "stretch_text" "stretch_text" s_stretch_text f fd) (g : mg "stretch_text" = some (.ref f)) (C_side_text : C8.Cal P w K mg base 1 "side_text" (sp_side_text K) []) : CalK P w K mg base 2 "stretch_text" (sp_stretch_text K) ["stretch"] [0] := by
  have G : FnOk P w K mg base CX0 (1 + 1) f fd ["stretch"] (sp_stretch_text K) := by
    refine F.ok sc_stretch_text (fun vs H Q E h => (sat_stretch_text h).1) (fun cdv A outer s H vs Q E hr h => ?_)
    have nd := sc_stretch_text.nd
    exact ⟨_, (pss_cons (ps_if (pt_cmpR op_isN1 (pv 0) pe_non (nomark _)) (pss_one (ps_ret pe_str)) pss_nil)
  (pss_one (ps_ret (pe_joined (PJ.cons (pe_fmt (C8.pe_c C_side_text hr (by decide) (by rfl) (pa_cons (pe_ix ix_seq (pv 0) pe_int (fun _ _ => rfl)) pa_nil))) (PJ.cons pe_str (PJ.cons (pe_fmt (C8.pe_c C_side_text hr (by decide) (by rfl) (pa_cons (pe_ix ix_seq (pv 0) pe_int (fun _ _ => rfl)) pa_nil))) PJ.nil))))))), (sat_stretch_text h).2⟩
  exact calK_mk F G g (by decide) fun _ _ _ _ _ _ ws hl => match ws, hl with | [_], _ => rfl
end
/-! ### the end -/
theorem all_mk {l : PySem.W.OpenLaw} {w : World} {K : PySem.W.Frag} {h : Heap} {mg : Str → Option Value} {fa : Addr} (X : K.In h) (G : h.Ns mainGlobals mg) (hfa : mg "law" = some (.ref fa))
    {h_EntryError : Addr}
    {h_Missing : Addr}
    {h_NothingLeft : Addr}
    {h_InvalidText : Addr}
    {f0 : Addr} {od0 an0 : Option Addr} {sl0 : Array (Option Value)} {oc0 kV0 dc0 pm0 cd0 ct0 : Value}
    {f1 : Addr} {od1 an1 : Option Addr} {sl1 : Array (Option Value)} {oc1 kV1 dc1 pm1 cd1 ct1 : Value}
    {f2 : Addr} {od2 an2 : Option Addr} {sl2 : Array (Option Value)} {oc2 kV2 dc2 pm2 cd2 ct2 : Value}
    {f3 : Addr} {od3 an3 : Option Addr} {sl3 : Array (Option Value)} {oc3 kV3 dc3 pm3 cd3 ct3 : Value}
    {f4 : Addr} {od4 an4 : Option Addr} {sl4 : Array (Option Value)} {oc4 kV4 dc4 pm4 cd4 ct4 : Value}
    {f5 : Addr} {od5 an5 : Option Addr} {sl5 : Array (Option Value)} {oc5 kV5 dc5 pm5 cd5 ct5 : Value}
    {f6 : Addr} {od6 an6 : Option Addr} {sl6 : Array (Option Value)} {oc6 kV6 dc6 pm6 cd6 ct6 : Value}
    {f7 : Addr} {od7 an7 : Option Addr} {sl7 : Array (Option Value)} {oc7 kV7 dc7 pm7 cd7 ct7 : Value}
    {f8 : Addr} {od8 an8 : Option Addr} {sl8 : Array (Option Value)} {oc8 kV8 dc8 pm8 cd8 ct8 : Value}
    {f9 : Addr} {od9 an9 : Option Addr} {sl9 : Array (Option Value)} {oc9 kV9 dc9 pm9 cd9 ct9 : Value}
    {f10 : Addr} {od10 an10 : Option Addr} {sl10 : Array (Option Value)} {oc10 kV10 dc10 pm10 cd10 ct10 : Value}
    {f11 : Addr} {od11 an11 : Option Addr} {sl11 : Array (Option Value)} {oc11 kV11 dc11 pm11 cd11 ct11 : Value}
    {f12 : Addr} {od12 an12 : Option Addr} {sl12 : Array (Option Value)} {oc12 kV12 dc12 pm12 cd12 ct12 : Value}
    {f13 : Addr} {od13 an13 : Option Addr} {sl13 : Array (Option Value)} {oc13 kV13 dc13 pm13 cd13 ct13 : Value}
    {f14 : Addr} {od14 an14 : Option Addr} {sl14 : Array (Option Value)} {oc14 kV14 dc14 pm14 cd14 ct14 : Value}
    {f15 : Addr} {od15 an15 : Option Addr} {sl15 : Array (Option Value)} {oc15 kV15 dc15 pm15 cd15 ct15 : Value}
    {f16 : Addr} {od16 an16 : Option Addr} {sl16 : Array (Option Value)} {oc16 kV16 dc16 pm16 ct16 : Value}
    {h_cl h_P : Addr} {e_cl : Value} {d_cl : Option Addr} {vs_cl : Array Value} {sl_cl : Array (Option Value)}
    {fI_InvalidText : Addr}
    {t_FIGURES : Tok}
    (aC_EntryError : PySem.W.nsIn K mainGlobals "EntryError" = some (some (.ref h_EntryError)))
    (aC_Missing : PySem.W.nsIn K mainGlobals "Missing" = some (some (.ref h_Missing)))
    (aC_NothingLeft : PySem.W.nsIn K mainGlobals "NothingLeft" = some (some (.ref h_NothingLeft)))
    (aC_InvalidText : PySem.W.nsIn K mainGlobals "InvalidText" = some (some (.ref h_InvalidText)))
    (a0 : PySem.W.nsIn K mainGlobals "is_number" = some (some (.ref f0))) (l0 : K.lookup f0 = some ⟨oc0, od0, .func (PySem.W.fnOf "is_number" "is_number" (defArgs s_is_number) (defBody s_is_number) (defScope s_is_number) .none kV0 dc0 pm0 an0 cd0 ct0), sl0⟩) (c0 : PySem.W.codeIn K cd0 "is_number" = true) (k0 : PySem.W.keepIn K (.ref f0) = true)
    (a1 : PySem.W.nsIn K mainGlobals "is_value" = some (some (.ref f1))) (l1 : K.lookup f1 = some ⟨oc1, od1, .func (PySem.W.fnOf "is_value" "is_value" (defArgs s_is_value) (defBody s_is_value) (defScope s_is_value) .none kV1 dc1 pm1 an1 cd1 ct1), sl1⟩) (c1 : PySem.W.codeIn K cd1 "is_value" = true) (k1 : PySem.W.keepIn K (.ref f1) = true)
    (a2 : PySem.W.nsIn K mainGlobals "read_number" = some (some (.ref f2))) (l2 : K.lookup f2 = some ⟨oc2, od2, .func (PySem.W.fnOf "read_number" "read_number" (defArgs s_read_number) (defBody s_read_number) (defScope s_read_number) .none kV2 dc2 pm2 an2 cd2 ct2), sl2⟩) (c2 : PySem.W.codeIn K cd2 "read_number" = true) (k2 : PySem.W.keepIn K (.ref f2) = true)
    (a3 : PySem.W.nsIn K mainGlobals "is_stretch" = some (some (.ref f3))) (l3 : K.lookup f3 = some ⟨oc3, od3, .func (PySem.W.fnOf "is_stretch" "is_stretch" (defArgs s_is_stretch) (defBody s_is_stretch) (defScope s_is_stretch) .none kV3 dc3 pm3 an3 cd3 ct3), sl3⟩) (c3 : PySem.W.codeIn K cd3 "is_stretch" = true) (k3 : PySem.W.keepIn K (.ref f3) = true)
    (a4 : PySem.W.nsIn K mainGlobals "side_text" = some (some (.ref f4))) (l4 : K.lookup f4 = some ⟨oc4, od4, .func (PySem.W.fnOf "side_text" "side_text" (defArgs s_side_text) (defBody s_side_text) (defScope s_side_text) .none kV4 dc4 pm4 an4 cd4 ct4), sl4⟩) (c4 : PySem.W.codeIn K cd4 "side_text" = true) (k4 : PySem.W.keepIn K (.ref f4) = true)
    (a5 : PySem.W.nsIn K mainGlobals "stretch_text" = some (some (.ref f5))) (l5 : K.lookup f5 = some ⟨oc5, od5, .func (PySem.W.fnOf "stretch_text" "stretch_text" (defArgs s_stretch_text) (defBody s_stretch_text) (defScope s_stretch_text) .none kV5 dc5 pm5 an5 cd5 ct5), sl5⟩) (c5 : PySem.W.codeIn K cd5 "stretch_text" = true) (k5 : PySem.W.keepIn K (.ref f5) = true)
    (a6 : PySem.W.nsIn K mainGlobals "read_side" = some (some (.ref f6))) (l6 : K.lookup f6 = some ⟨oc6, od6, .func (PySem.W.fnOf "read_side" "read_side" (defArgs s_read_side) (defBody s_read_side) (defScope s_read_side) .none kV6 dc6 pm6 an6 cd6 ct6), sl6⟩) (c6 : PySem.W.codeIn K cd6 "read_side" = true) (k6 : PySem.W.keepIn K (.ref f6) = true)
    (a7 : PySem.W.nsIn K mainGlobals "read_stretch" = some (some (.ref f7))) (l7 : K.lookup f7 = some ⟨oc7, od7, .func (PySem.W.fnOf "read_stretch" "read_stretch" (defArgs s_read_stretch) (defBody s_read_stretch) (defScope s_read_stretch) .none kV7 dc7 pm7 an7 cd7 ct7), sl7⟩) (c7 : PySem.W.codeIn K cd7 "read_stretch" = true) (k7 : PySem.W.keepIn K (.ref f7) = true)
    (a8 : PySem.W.nsIn K mainGlobals "_law_open" = some (some (.ref f8))) (l8 : K.lookup f8 = some ⟨oc8, od8, .func (PySem.W.fnOf "_law_open" "_law_open" (defArgs s_open) (defBody s_open) (defScope s_open) .none kV8 dc8 pm8 an8 cd8 ct8), sl8⟩) (c8 : PySem.W.codeIn K cd8 "_law_open" = true) (k8 : PySem.W.keepIn K (.ref f8) = true)
    (a9 : PySem.W.nsIn K mainGlobals "_law_draw" = some (some (.ref f9))) (l9 : K.lookup f9 = some ⟨oc9, od9, .func (PySem.W.fnOf "_law_draw" "_law_draw" (defArgs s_draw) (defBody s_draw) (defScope s_draw) .none kV9 dc9 pm9 an9 cd9 ct9), sl9⟩) (c9 : PySem.W.codeIn K cd9 "_law_draw" = true) (k9 : PySem.W.keepIn K (.ref f9) = true)
    (a10 : PySem.W.nsIn K mainGlobals "_law_of" = some (some (.ref f10))) (l10 : K.lookup f10 = some ⟨oc10, od10, .func (PySem.W.fnOf "_law_of" "_law_of" (defArgs s_of) (defBody s_of) (defScope s_of) .none kV10 dc10 pm10 an10 cd10 ct10), sl10⟩) (c10 : PySem.W.codeIn K cd10 "_law_of" = true) (k10 : PySem.W.keepIn K (.ref f10) = true)
    (a11 : PySem.W.nsIn K mainGlobals "_law_like" = some (some (.ref f11))) (l11 : K.lookup f11 = some ⟨oc11, od11, .func (PySem.W.fnOf "_law_like" "_law_like" (defArgs s_like) (defBody s_like) (defScope s_like) .none kV11 dc11 pm11 an11 cd11 ct11), sl11⟩) (c11 : PySem.W.codeIn K cd11 "_law_like" = true) (k11 : PySem.W.keepIn K (.ref f11) = true)
    (a12 : PySem.W.nsIn K mainGlobals "_law_field" = some (some (.ref f12))) (l12 : K.lookup f12 = some ⟨oc12, od12, .func (PySem.W.fnOf "_law_field" "_law_field" (defArgs s_field) (defBody s_field) (defScope s_field) .none kV12 dc12 pm12 an12 cd12 ct12), sl12⟩) (c12 : PySem.W.codeIn K cd12 "_law_field" = true) (k12 : PySem.W.keepIn K (.ref f12) = true)
    (a13 : PySem.W.nsIn K mainGlobals "_law_try" = some (some (.ref f13))) (l13 : K.lookup f13 = some ⟨oc13, od13, .func (PySem.W.fnOf "_law_try" "_law_try" (defArgs s_try) (defBody s_try) (defScope s_try) .none kV13 dc13 pm13 an13 cd13 ct13), sl13⟩) (c13 : PySem.W.codeIn K cd13 "_law_try" = true) (k13 : PySem.W.keepIn K (.ref f13) = true)
    (a14 : PySem.W.nsIn K mainGlobals "_law_number_so" = some (some (.ref f14))) (l14 : K.lookup f14 = some ⟨oc14, od14, .func (PySem.W.fnOf "_law_number_so" "_law_number_so" (defArgs s_number_so) (defBody s_number_so) (defScope s_number_so) .none kV14 dc14 pm14 an14 cd14 ct14), sl14⟩) (c14 : PySem.W.codeIn K cd14 "_law_number_so" = true) (k14 : PySem.W.keepIn K (.ref f14) = true)
    (a15 : PySem.W.nsIn K mainGlobals "_law_stretch_due" = some (some (.ref f15))) (l15 : K.lookup f15 = some ⟨oc15, od15, .func (PySem.W.fnOf "_law_stretch_due" "_law_stretch_due" (defArgs s_stretch_due) (defBody s_stretch_due) (defScope s_stretch_due) .none kV15 dc15 pm15 an15 cd15 ct15), sl15⟩) (c15 : PySem.W.codeIn K cd15 "_law_stretch_due" = true) (k15 : PySem.W.keepIn K (.ref f15) = true)
    (a16 : PySem.W.nsIn K mainGlobals "law" = some (some (.ref f16))) (l16 : K.lookup f16 = some ⟨oc16, od16, .func (PySem.W.fnOf "law" "law" (defArgs s_law) (defBody s_law) (defScope s_law) .none kV16 dc16 pm16 an16 (.ref h_cl) ct16), sl16⟩) (c16 : PySem.W.codeIn K (.ref h_cl) "law" = true) (k16 : PySem.W.keepIn K (.ref f16) = true)
    (t_code : K.lookup h_cl = some ⟨e_cl, d_cl, .fields vs_cl, sl_cl⟩) (t_11 : vs_cl[11]? = some (.ref h_P)) (t_no : K.lookup h_P = none) (t_hd : PySem.W.codeHdIn K h_cl h_P = true) (own : LamX.OwnTab K fa h)
    (tx_InvalidText : PySem.ExN.Txt l.prog K "InvalidText" "given" h_InvalidText fI_InvalidText) (xg_InvalidText : PySem.W.findIn K (.ref h_InvalidText) "__getattribute__" = some (some (.builtin "BaseException.__getattribute__"))) (xa_InvalidText : PySem.W.findIn K (.ref h_InvalidText) "__getattr__" = some none) (xb_InvalidText : PySem.W.subIn K (.ref h_InvalidText) (.type "BaseException") = some true) (xd_InvalidText : PySem.W.hasDictIn K h_InvalidText = true) (xc_InvalidText : PySem.W.findIn K (.ref h_InvalidText) "code" = some none) (xn_InvalidText : PySem.W.findIn K (.ref h_InvalidText) "given" = some none) (xm_InvalidText : PySem.W.exmAny K (.ref h_InvalidText) [.ref h_EntryError, .ref h_Missing, .ref h_NothingLeft] = some true)
    (z_super : PySem.W.nsIn K mainGlobals "super" = some none)
    (z_all : PySem.W.nsIn K mainGlobals "all" = some none)
    (z_bool : PySem.W.nsIn K mainGlobals "bool" = some none)
    (z_int : PySem.W.nsIn K mainGlobals "int" = some none)
    (z_isinstance : PySem.W.nsIn K mainGlobals "isinstance" = some none)
    (z_len : PySem.W.nsIn K mainGlobals "len" = some none)
    (z_list : PySem.W.nsIn K mainGlobals "list" = some none)
    (z_range : PySem.W.nsIn K mainGlobals "range" = some none)
    (z_str : PySem.W.nsIn K mainGlobals "str" = some none)
    (z_tuple : PySem.W.nsIn K mainGlobals "tuple" = some none)
    (z_zip : PySem.W.nsIn K mainGlobals "zip" = some none)
    (w_FIGURES : PySem.W.nsIn K mainGlobals "FIGURES" = some (some (.str "0123456789" t_FIGURES))) :
    LamX.LawAtS l w K CX0 10 63 "_law_script" mg fa h := by
  obtain rfl := cls_at_of aC_EntryError
  have g_EntryError : ∃ u, mg "EntryError" = some u ∧ RelV (.ref (cls_at K "EntryError")) u := ⟨_, PySem.W.mg_of X G aC_EntryError, rfl⟩
  obtain rfl := cls_at_of aC_Missing
  have g_Missing : ∃ u, mg "Missing" = some u ∧ RelV (.ref (cls_at K "Missing")) u := ⟨_, PySem.W.mg_of X G aC_Missing, rfl⟩
  obtain rfl := cls_at_of aC_NothingLeft
  have g_NothingLeft : ∃ u, mg "NothingLeft" = some u ∧ RelV (.ref (cls_at K "NothingLeft")) u := ⟨_, PySem.W.mg_of X G aC_NothingLeft, rfl⟩
  obtain rfl := cls_at_of aC_InvalidText
  have g_InvalidText : ∃ u, mg "InvalidText" = some u ∧ RelV (.ref (cls_at K "InvalidText")) u := ⟨_, PySem.W.mg_of X G aC_InvalidText, rfl⟩
  have XX_InvalidText : ExcOk K "InvalidText" "given" := ⟨⟨xg_InvalidText, xa_InvalidText, xb_InvalidText, xd_InvalidText⟩, xc_InvalidText, xn_InvalidText, xm_InvalidText⟩
  have X_InvalidText : ExcN l.prog K mg "InvalidText" "given" (cls_at K "InvalidText") := ⟨⟨_, tx_InvalidText⟩, PySem.W.mg_of X G aC_InvalidText, PySem.W.mg_none_of X G z_super⟩
  have e_EntryError := PySem.W.mg_of X G aC_EntryError
  have e_Missing := PySem.W.mg_of X G aC_Missing
  have e_NothingLeft := PySem.W.mg_of X G aC_NothingLeft
  have F0 := fun_mk (st := s_is_number) l0 c0 k0
  have g0 := PySem.W.mg_of X G a0
  have F1 := fun_mk (st := s_is_value) l1 c1 k1
  have g1 := PySem.W.mg_of X G a1
  have F2 := fun_mk (st := s_read_number) l2 c2 k2
  have g2 := PySem.W.mg_of X G a2
  have F3 := fun_mk (st := s_is_stretch) l3 c3 k3
  have g3 := PySem.W.mg_of X G a3
  have F4 := fun_mk (st := s_side_text) l4 c4 k4
  have g4 := PySem.W.mg_of X G a4
  have F5 := fun_mk (st := s_stretch_text) l5 c5 k5
  have g5 := PySem.W.mg_of X G a5
  have F6 := fun_mk (st := s_read_side) l6 c6 k6
  have g6 := PySem.W.mg_of X G a6
  have F7 := fun_mk (st := s_read_stretch) l7 c7 k7
  have g7 := PySem.W.mg_of X G a7
  have F8 := fun_mk (st := s_open) l8 c8 k8
  have g8 := PySem.W.mg_of X G a8
  have F9 := fun_mk (st := s_draw) l9 c9 k9
  have g9 := PySem.W.mg_of X G a9
  have F10 := fun_mk (st := s_of) l10 c10 k10
  have g10 := PySem.W.mg_of X G a10
  have F11 := fun_mk (st := s_like) l11 c11 k11
  have g11 := PySem.W.mg_of X G a11
  have F12 := fun_mk (st := s_field) l12 c12 k12
  have g12 := PySem.W.mg_of X G a12
  have F13 := fun_mk (st := s_try) l13 c13 k13
  have g13 := PySem.W.mg_of X G a13
  have F14 := fun_mk (st := s_number_so) l14 c14 k14
  have g14 := PySem.W.mg_of X G a14
  have F15 := fun_mk (st := s_stretch_due) l15 c15 k15
  have g15 := PySem.W.mg_of X G a15
  have F16 := fun_mk (st := s_law) l16 c16 k16
  have g16 := PySem.W.mg_of X G a16
  have m_all := PySem.W.mg_none_of X G z_all
  have m_bool := PySem.W.mg_none_of X G z_bool
  have m_int := PySem.W.mg_none_of X G z_int
  have m_isinstance := PySem.W.mg_none_of X G z_isinstance
  have m_len := PySem.W.mg_none_of X G z_len
  have m_list := PySem.W.mg_none_of X G z_list
  have m_range := PySem.W.mg_none_of X G z_range
  have m_str := PySem.W.mg_none_of X G z_str
  have m_tuple := PySem.W.mg_none_of X G z_tuple
  have m_zip := PySem.W.mg_none_of X G z_zip
  have g_FIGURES : ∃ u, mg "FIGURES" = some u ∧ RelV v_FIGURES u := ⟨_, PySem.W.mg_of X G w_FIGURES, _, rfl⟩
  have e := hfa.symm.trans g16
  cases e
  refine ⟨PySem.W.fnOf "law" "law" (defArgs s_law) (defBody s_law) (defScope s_law) .none kV16 dc16 pm16 an16 (.ref h_cl) ct16, [(h_cl, h_P)], fun vs H Q E => ∀ lw : LamW, lw.P = h_P → sp_law K lw vs H Q E, fun p hp => ?_, fun p hp => ?_, fun p hp => ?_, fun s v => .of_eq rfl, fun H a ns _ _ hT hS lw e => ⟨a, ns, rfl, hS, by rw [e]; exact hT _ (List.mem_singleton.mpr rfl), XX_InvalidText, fun _ => rfl⟩, fun base _ _ hTB => ?_⟩
  · rw [List.mem_singleton.mp hp]; exact own h_cl h_P _ _ _ _ _ _ l16 rfl rfl t_code t_11
  · rw [List.mem_singleton.mp hp]; exact t_no
  · rw [List.mem_singleton.mp hp]; exact PySem.W.codeHd_of_K X t_hd
  have TB := hTB _ (List.mem_singleton.mpr rfl)
  have C_is_number := cal_is_number (P := l.prog) (w := w) (base := base) F0 g0 m_isinstance m_int m_bool
  have C_is_value := cal_is_value (P := l.prog) (w := w) (base := base) F1 g1 C_is_number
  have C_read_number := cal_read_number (P := l.prog) (w := w) (base := base) F2 g2 m_all m_int g_FIGURES
  have C_is_stretch := cal_is_stretch (P := l.prog) (w := w) (base := base) F3 g3 C_is_value m_isinstance m_tuple m_len m_bool
  have C_side_text := cal_side_text (P := l.prog) (w := w) (base := base) F4 g4 m_str
  have C_stretch_text := cal_stretch_text (P := l.prog) (w := w) (base := base) F5 g5 C_side_text
  have C_stretch_text_stretch := calK_stretch_text_stretch (P := l.prog) (w := w) (base := base) F5 g5 C_side_text
  have C_read_side := cal_read_side (P := l.prog) (w := w) (base := base) F6 g6 C_read_number
  have C_read_stretch := cal_read_stretch (P := l.prog) (w := w) (base := base) F7 g7 C_read_side C_is_stretch m_isinstance m_str m_len X_InvalidText
  have C_read_stretch_text := calK_read_stretch_text (P := l.prog) (w := w) (base := base) F7 g7 C_read_side C_is_stretch m_isinstance m_str m_len X_InvalidText
  have C__law_open := cal_open (P := l.prog) (w := w) (base := base) F8 g8 m_list
  have C__law_draw := cal_draw (P := l.prog) (w := w) (base := base) F9 g9 m_len m_int
  have C__law_of := cal_of (P := l.prog) (w := w) (base := base) F10 g10 C__law_draw m_len
  have C__law_like := cal_like (P := l.prog) (w := w) (base := base) F11 g11 m_isinstance m_tuple m_list m_len m_all m_zip m_bool m_int m_str 9
  have C__law_field := cal_field (P := l.prog) (w := w) (base := base) F12 g12 
  have TR := cal_try (P := l.prog) (w := w) (base := base) F13 g13 C__law_field e_EntryError e_Missing e_NothingLeft
  have C__law_number_so := cal_number_so (P := l.prog) (w := w) (base := base) F14 g14 m_all m_str m_int
  have C__law_stretch_due := cal_stretch_due (P := l.prog) (w := w) (base := base) F15 g15 C__law_number_so m_len m_all m_int
  exact ok_law l16 c16 TB C__law_open C__law_of C__law_draw C__law_like C_read_stretch C_stretch_text C__law_stretch_due C_read_stretch_text C_stretch_text_stretch m_range m_str m_len TR
end Q06
open PySem PySem.W PyProof.Rows
set_option maxRecDepth 100000 in
set_option maxHeartbeats 0 in
theorem PySem.Challenge.cw_eachentry_k06_texts_of_stretches_holds : PySem.Challenge.rw_eachentry_k06_texts_of_stretches.Holds := by
  w_on; o_law; k_head; (case hw => w_witness2)
  k_fill
  refine LamX.walk_ofOwn (l := PySem.Challenge.rw_eachentry_k06_texts_of_stretches) (n := 63) (k := 10) (x := "_law_script") (CX := fun _ => L2.CX0) rfl (by decide) rfl ⟨rfl, by decide, by decide⟩ (by kernel_rfl) (fun w h Y => PySem.W.km_in_of Y) ?F (fun _ _ _ _ _ h => h)
  case F =>
    intro w mg fa h Y KX G hmg own
    refine' Q06.all_mk KX G hmg ?aC_EntryError ?aC_Missing ?aC_NothingLeft ?aC_InvalidText ?a0 ?l0 ?c0 ?k0 ?a1 ?l1 ?c1 ?k1 ?a2 ?l2 ?c2 ?k2 ?a3 ?l3 ?c3 ?k3 ?a4 ?l4 ?c4 ?k4 ?a5 ?l5 ?c5 ?k5 ?a6 ?l6 ?c6 ?k6 ?a7 ?l7 ?c7 ?k7 ?a8 ?l8 ?c8 ?k8 ?a9 ?l9 ?c9 ?k9 ?a10 ?l10 ?c10 ?k10 ?a11 ?l11 ?c11 ?k11 ?a12 ?l12 ?c12 ?k12 ?a13 ?l13 ?c13 ?k13 ?a14 ?l14 ?c14 ?k14 ?a15 ?l15 ?c15 ?k15 ?a16 ?l16 ?c16 ?k16 ?t_code ?t_11 ?t_no ?t_hd ?own ?tx_InvalidText ?xg_InvalidText ?xa_InvalidText ?xb_InvalidText ?xd_InvalidText ?xc_InvalidText ?xn_InvalidText ?xm_InvalidText ?z_super ?z_all ?z_bool ?z_int ?z_isinstance ?z_len ?z_list ?z_range ?z_str ?z_tuple ?z_zip ?w_FIGURES
    (case aC_EntryError => k_is); (case aC_Missing => k_is); (case aC_NothingLeft => k_is); (case aC_InvalidText => k_is); (case a0 => k_is); (case l0 => k_is); (case c0 => k_is); (case k0 => k_is); (case a1 => k_is); (case l1 => k_is); (case c1 => k_is); (case k1 => k_is); (case a2 => k_is); (case l2 => k_is); (case c2 => k_is); (case k2 => k_is); (case a3 => k_is); (case l3 => k_is); (case c3 => k_is); (case k3 => k_is); (case a4 => k_is); (case l4 => k_is); (case c4 => k_is); (case k4 => k_is); (case a5 => k_is); (case l5 => k_is); (case c5 => k_is); (case k5 => k_is); (case a6 => k_is); (case l6 => k_is); (case c6 => k_is); (case k6 => k_is); (case a7 => k_is); (case l7 => k_is); (case c7 => k_is); (case k7 => k_is); (case a8 => k_is); (case l8 => k_is); (case c8 => k_is); (case k8 => k_is); (case a9 => k_is); (case l9 => k_is); (case c9 => k_is); (case k9 => k_is); (case a10 => k_is); (case l10 => k_is); (case c10 => k_is); (case k10 => k_is); (case a11 => k_is); (case l11 => k_is); (case c11 => k_is); (case k11 => k_is); (case a12 => k_is); (case l12 => k_is); (case c12 => k_is); (case k12 => k_is); (case a13 => k_is); (case l13 => k_is); (case c13 => k_is); (case k13 => k_is); (case a14 => k_is); (case l14 => k_is); (case c14 => k_is); (case k14 => k_is); (case a15 => k_is); (case l15 => k_is); (case c15 => k_is); (case k15 => k_is); (case a16 => k_is); (case l16 => k_is); (case c16 => k_is); (case k16 => k_is); (case z_all => k_is); (case z_bool => k_is); (case z_int => k_is); (case z_isinstance => k_is); (case z_len => k_is); (case z_list => k_is); (case z_range => k_is); (case z_str => k_is); (case z_tuple => k_is); (case z_zip => k_is); (case w_FIGURES => k_is); (case t_code => k_is); (case t_11 => rfl); (case t_no => kernel_rfl); (case t_hd => kernel_rfl); (case own => exact own); (case tx_InvalidText => exact ⟨⟨_, _, _, _, _, _, _, _, _, _, _, _, _, _, _, by k_is, by rfl⟩, by k_is, by k_is, by k_is, by k_is, by k_is, by k_is, by k_is, by k_is, by kernel_rfl, by k_is, by k_is, by k_is, PySem.ExN.fld_given, by kernel_rfl, ⟨_, _, _, _, _, _, _, _, _, _, _, _, _, _, _, _, _, _, _, _, _, _, _, _, _, _, by k_is, by k_is, by rfl, ⟨_, _, _, _, _, _, by k_is, by rfl, by kernel_rfl⟩, _, _, _, by k_is⟩⟩); (case xg_InvalidText => k_is); (case xa_InvalidText => k_is); (case xb_InvalidText => k_is); (case xd_InvalidText => k_is); (case xc_InvalidText => k_is); (case xn_InvalidText => k_is); (case xm_InvalidText => kernel_rfl); (case z_super => k_is)
