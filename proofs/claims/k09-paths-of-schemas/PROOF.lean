import PyProof.Rows.All
import Wide.All
import OpenK.AllK
import Wide.FinOn
import KE.KFromBytes
import HandS.ForMost
import KE.KExcSuper
import HandS.ExcInit
import HandS.ExcOwn
import HandS.More
import HandS.OwnEq
import PyProof.InstSpecial
import PyProof.MeetsIn
import PyProof.Rows.Range3
import HandS.Walk
import HandS.Steps
import HandS.Evl
import HandS.Zip
import HandS.IsInst
import HandS.Wide
import HandS.TupAny
import HandS.SortInts
import KE.LtData
import KE.DataEq
import HandS.Codes
import HandS.Strs
import HandS.SetFor
import HandS.Text
import HandS.Property
import HandS.Star
import HandS.FStr
import HandS.ClsMeth
import HandS.TryOnly
import HandS.Style
import KE.DataMinMax
import HandS.MakeKwOnly
import HandS.ExcField
import HandS.HotCalls
import HandS.TryMany
import HandS.WordsExc
import HandS.CallSlots
import KE.KTryMore
import HandS.Lambda
import HandS.EndOwn
import KE.KDflt
import KE.KNestM
import HandS.Defaults
import HandS.ReplaceLit
import HandS.ReplaceList
import HandS.Replace
import HandS.ExcInitHot
import PySem.Challenge.RW_eachentry_k09_paths_of_schemas
set_option Elab.async false
set_option linter.all false
set_option maxRecDepth 100000
set_option maxHeartbeats 3000000
/-! Own exceptions over ValueError: class C(..): def __init__(self, f): super().__init__("C"); self.f = f; self.code = "C". -/
namespace PySem
namespace ExN
open PyProof.Rows PySem.W PySem.HandSPX PySem.Calls
def iA (fl : Str) (p1 p2 : Pos) : Arguments := { posonlyargs := [], args := [{ arg := "self", annotation := none, pos := p1 }, { arg := fl, annotation := none, pos := p2 }], vararg := none, kwonlyargs := [], kw_defaults := [], kwarg := none, defaults := [] }
def iB (nm fl : Str) (a b c d e f g h i j k l m n : Pos) : List Stmt :=
  [.Expr (.Call (.Attribute (.Call (.Name "super" a) [] [] b) "__init__" c) [.Constant (.str nm) 0 d] [] e) f,
   .Assign [.Attribute (.Name "self" g) fl h] (.Name fl i) j,
   .Assign [.Attribute (.Name "self" k) "code" l] (.Constant (.str nm) 0 m) n]
def iS (fl : Str) : Scope := { kind := .function, names := [("self", .local), (fl, .local), ("__class__", .free), ("super", .globalImplicit)], isGenerator := false, isCoroutine := false, more := [] }
/-- a field's name that stands in no other's way -/
structure Fld (fl : Str) : Prop where
  bd : ∀ (qual : Str) (p1 p2 : Pos) (body : List Stmt) (doc pm : Value) (an : Option Addr) (cdv ct : Value) (cc : Addr) (x v : Value), bindArgs (ksFn "__init__" qual (iA fl p1 p2) body (iS fl) .none .none doc pm an cdv ct cc) ⟨[x, v], []⟩ = pure [(("self" : Str), x), (fl, v)]
  lo : (iS fl).names.lookup fl = some .local
  s0 : (iS fl).names.lookup ("self" : Str) = some .local
  s2 : (iS fl).names.lookup ("__class__" : Str) = some .free
  s3 : (iS fl).names.lookup ("super" : Str) = some .globalImplicit
  ne : fl ≠ "self" ∧ fl ≠ "code"
  db : (fl == ("__debug__" : Str)) = false
theorem fld_given : Fld "given" := ⟨fun _ _ _ _ _ _ _ _ _ _ _ _ => rfl, rfl, rfl, rfl, rfl, ⟨by decide, by decide⟩, by decide⟩
theorem fld_at : Fld "at" := ⟨fun _ _ _ _ _ _ _ _ _ _ _ _ => rfl, rfl, rfl, rfl, rfl, ⟨by decide, by decide⟩, by decide⟩
theorem fld_most : Fld "most" := ⟨fun _ _ _ _ _ _ _ _ _ _ _ _ => rfl, rfl, rfl, rfl, rfl, ⟨by decide, by decide⟩, by decide⟩
theorem fld_name : Fld "name" := ⟨fun _ _ _ _ _ _ _ _ _ _ _ _ => rfl, rfl, rfl, rfl, rfl, ⟨by decide, by decide⟩, by decide⟩
theorem fld_line : Fld "line" := ⟨fun _ _ _ _ _ _ _ _ _ _ _ _ => rfl, rfl, rfl, rfl, rfl, ⟨by decide, by decide⟩, by decide⟩
/-- what the written part tells of the class C of the name nm, of its __init__ at fI, of its field fl -/
structure Txt (P : Program) (K : Frag) (nm fl : Str) (C fI : Addr) : Prop where
  cls : ∃ cn q N bs bm sn sub ab col dd k0 k1 k2 k3 k5, K.lookup C = some (excClassObj cn q C N bs bm true sn sub ab col dd k0 k1 k2 k3 k5 "ValueError.__new__") ∧ refsVE bm = true
  sa : findIn K (.ref C) "__setattr__" = some (some (.builtin "object.__setattr__"))
  iC : findIn K (.ref C) "__init__" = some (some (.ref fI))
  tI : typeIn K (.ref fI) = some (.type "function")
  kC : keepIn K (.ref C) = true
  exC : subIn K (.ref C) (.type "BaseException") = some true
  tyC : typeIn K (.ref C) = some (.type "type")
  noF : findIn K (.ref C) fl = some none
  noC : findIn K (.ref C) "code" = some none
  sup : ks_superIn K C C "__init__" = some (some (.builtin "ValueError.__init__"))
  vB : subIn K (.ref C) (.type "ValueError") = some true
  mC : mroIn K C (.ref C) = some true
  tp : nsIn K cStatics "thirdparty.any" = some none
  fd : Fld fl
  top : (P.main.scope.names.lookup ("super" : Str)).isSome = false
  fn : ∃ (oc : Value) (od : Option Addr) (doc pm : Value) (an : Option Addr) (cda : Addr) (ct : Value) (osl : Array (Option Value)) (cc : Addr) (qual : Str) (p1 p2 a b c d e f g h i j k l m n : Pos),
    K.lookup fI = some ⟨oc, od, .func (ksFn "__init__" qual (iA fl p1 p2) (iB nm fl a b c d e f g h i j k l m n) (iS fl) .none .none doc pm an (.ref cda) ct cc), osl⟩ ∧ codeIn K (.ref cda) qual = true ∧
    (c.endLine == e.line) = true ∧ (∃ ccl cdd vs ccs file tf, K.lookup cda = some ⟨ccl, cdd, .fields vs, ccs⟩ ∧ vs[2]? = some (.str file tf) ∧ ((P.main.file : Str) == file) = true) ∧
    ∃ cl cld csl, K.lookup cc = some ⟨cl, cld, .cell (some (.ref C)), csl⟩
theorem kept_but {K : Frag} {h h' : Heap} {x : Addr} (X : K.In h) (hx : K.lookup x = none) (k : ∀ b o, b ≠ x → h.get? b = some o → h'.get? b = some o) : K.In h' := fun a o e =>
  k a o (fun z => by rw [z, hx] at e; cases e) (X a o e)
/-- what __init__ leaves of a fresh exception at x -/
structure InitEnd (h h' : Heap) (x C dx t1 : Addr) (nm fl : Str) (v : Value) : Prop where
  keep : ∀ b o, b ≠ x → h.get? b = some o → h'.get? b = some o
  obj : h'.get? x = some { cls := .ref C, dict := some dx, data := .fields #[.ref t1, .none, .none, .none, .bool false, .none] }
  dbig : h.objs.size ≤ dx
  dne : dx ≠ x
  ns : ∃ tk, h'.Ns1 dx (fun y => if y = "code" then some (.str nm tk) else if y = fl then some v else none)
/-- a made exception -/
structure Made (h h' : Heap) (e C d : Addr) (nm fl : Str) (v : Value) : Prop where
  keep : ∀ b o, h.get? b = some o → h'.get? b = some o
  new : h.objs.size ≤ e
  obj : ∃ t1, h'.get? e = some { cls := .ref C, dict := some d, data := .fields #[.ref t1, .none, .none, .none, .bool false, .none] }
  dbig : h.objs.size ≤ d
  dne : d ≠ e
  ns : ∃ tk, h'.Ns1 d (fun y => if y = "code" then some (.str nm tk) else if y = fl then some v else none)
theorem mw_init_row {M : Model} {A : Around} {E : Value → Shared → Prop} {s : Shared} {pos : Pos} {u x : Addr} {z : Str} {k : Nat} {p : Pos} {env : Env} {Q : Value → Shared → Prop} (hu : s.heap.get? u = some (kxs_mw "ValueError.__init__" x))
    (h : ∀ tk, wpAny M A (call (.ref u) [.str z tk]) Q E { s with toks := s.toks + 1 }) : wpAny M A (callWith pos (.ref u) [] (backTo pos (starEach [.Constant (.str z) k p] env)) []) Q E s := by
  refine kxs_callWith (i := "ValueError.__init__") (x := x) rfl ?_
  show wpAny M A (evalArgs (.ref u) true ((false, eval (.Constant (.str z) k p) env) :: []) []) _ E s
  exact evalArgs_plain (spliced_cons (wpAny_Constant_str (spliced_nil ⟨hu, h s.toks⟩)))
section
variable {prog : Program} {w : World} {A : Around} {E : Value → Shared → Prop} {R : Result → Shared → Prop} {s : Shared} {K : Frag} {mg mb : Str → Option Value} {nm fl : Str} {C fI : Addr}
theorem mw_call {B newId i : String} {bmB : List Value} (FB : ExcBaseFacts B newId i bmB) {cn q : Str} {N : Addr} {bs bm : List Value} {hd : Bool} {sn : List Str} {sub : List Value} {ab : Bool} {col : Option Bool} {dd : Option Addr} {k0 k1 k2 k3 k5 : Option Value}
    (hC : s.heap.get? C = some (excClassObj cn q C N bs bm hd sn sub ab col dd k0 k1 k2 k3 k5 newId)) {u x t0 : Addr} {rest : List Value} {Q : Value → Shared → Prop} (hx : s.heap.get? x = some (excO C t0)) (hu : s.heap.get? u = some (kxs_mw i x)) (hz : rest.length ≤ sizeLine)
    (h : ∀ h' t1, (∀ b o, b ≠ x → s.heap.get? b = some o → h'.get? b = some o) → h'.get? x = some (excO C t1) → Q .none { s with heap := h' }) : wpAny (model prog w) A (call (.ref u) rest) Q E s := by
  obtain ⟨hh, g, d, tk, os⟩ := s; refine wpAny_call (codeAny_of_tree ?_)
  show wpAny _ A.in1 (callAny (.ref u) ⟨rest, []⟩) _ _ _; unfold callAny
  refine wpAny_bind (wpAny_load hu ?_); dsimp only
  refine KFB.if_so (by decide) ?_; refine wpAny_bind (check_bound_init FB.toExcCallFacts hC hx rfl ?_)
  refine wpAny_bind (wpAny_pure (wpAny_pure ⟨plainId_quiet FB.init.plain _, codeAny_builtin FB.initEntry ?_⟩))
  exact exc_init_tree (cls := .ref C) (t0 := t0) (dv := none) (c2 := .none) (c3 := .none) (b4 := .bool false) hx hz fun h' kp e' _ => h h' _ kp e'
theorem eval_mc {o : Expr} {name z : Str} {k : Nat} {apos pos p : Pos} {env : Env} (hl : (apos.endLine == pos.line) = true) : eval (.Call (.Attribute o name apos) [.Constant (.str z) k p] [] pos) env = (attributeBase o name env (eval o env) >>= fun ov => do
    standAt apos.atName
    let (f, first) ← holding [ov] (getMethod ov name (do return (← importBound o env).getD true))
    callWith pos f first (backTo pos (starEach [.Constant (.str z) k p] env)) []) := by
  have e : eval (.Call (.Attribute o name apos) [.Constant (.str z) k p] [] pos) env = (attributeBase o name env (eval o env) >>= fun ov => do
    standAt apos.atName
    methodCall o name apos pos env ov 1 (backTo pos (starEach [.Constant (.str z) k p] env)) (backToKw pos (keywordEach [] env))) := rfl
  have hf : methodCallForm 1 (backTo pos (starEach [.Constant (.str z) k p] env)) (backToKw pos (keywordEach [] env)) = true := rfl
  rw [e]
  unfold methodCall methodCallPos calleeOf
  rw [hf, hl]
  rfl
theorem notCls_exc {C t0 : Addr} : notCls (excO C t0) = true := rfl
/-- __init__ of a fresh exception -/
theorem init (T : Txt prog K nm fl C fI) {x t0 : Addr} {v : Value} (X : K.In s.heap) (hlim : s.heap.NoLimit) (hg : s.heap.Ns mainGlobals mg) (gs : mg "super" = none) (hb : s.heap.Ns builtinsNs mb) (bs : mb "super" = bootBuiltins "super")
    (hx : s.heap.get? x = some (excO C t0)) (hnx : K.lookup x = none) (hroom : A.depth < recursionLimit)
    (hq : ∀ h' tk dx t1, InitEnd s.heap h' x C dx t1 nm fl v → R (.ok (.ret .none)) { s with heap := h', toks := tk }) :
    codeAny (model prog w) A (.call (.ref fI) ⟨[.ref x, v], []⟩) R s := by
  obtain ⟨oc, od, doc, pm, an, cda, ct, osl, cc, qual, p1, p2, a, b, c, d, e, f, g, i', i, j, k', l, m, n, ho, hcd, hline, ⟨ccl, cdd, vs, ccs, file, tf, hcode, hvs, hfile⟩, cl, cld, csl, hcell⟩ := T.fn
  obtain ⟨cn, q, N, bss, bm, sn, sub, ab, col, dd, k0, k1, k2, k3, k5, hC, hbm⟩ := T.cls
  have hcl : clsIn K C = some { name := cn, bases := bss, mro := .ref C :: bm, ns := N, qualname := q, hasDict := true, slotNames := sn, subclasses := sub, abstract := ab, collection := col, hasDel := false } := by unfold clsIn; rw [hC] <;> rfl
  obtain ⟨FB, Flo, Fs0, Fs2, Fs3, ⟨n0, n1⟩, ndb⟩ := T.fd
  refine ks_codeAny_call_defAt (fd := ksFn "__init__" qual (iA fl p1 p2) (iB nm fl a b c d e f g i' i j k' l m n) (iS fl) .none .none doc pm an (.ref cda) ct cc) (body := iB nm fl a b c d e f g i' i j k' l m n) (binds := [("self", .ref x), (fl, v)])
    hroom (X _ _ ho) rfl hlim (codeRec_of X hcd) rfl (BindsTo.of_eq (FB ..)) ?hce ?hlo (fun h₁ hn kk => ?_)
  case hce =>
    intro y hy
    have hy : y ∈ (iS fl).names := hy
    simp only [iS, List.mem_cons, List.not_mem_nil, or_false] at hy
    rcases hy with rfl | rfl | rfl | rfl <;> (intro z; cases z)
  case hlo =>
    intro y hy
    simp only [List.mem_cons, List.not_mem_nil, or_false] at hy
    rcases hy with rfl | rfl
    · exact Fs0
    · exact Flo
  have X₁ : K.In h₁ := X.keeps kk
  have hx₁ := kk _ _ hx
  have ms : ([("self", Value.ref x), (fl, v)] : List (Str × Value)).reverse.lookup ("self" : Str) = some (.ref x) := by
    have q1 : (("self" : Str) == fl) = false := by simpa using Ne.symm n0
    show List.lookup ("self" : Str) [(fl, v), (("self" : Str), Value.ref x)] = _
    simp [List.lookup, q1]
  have mf : ([("self", Value.ref x), (fl, v)] : List (Str × Value)).reverse.lookup fl = some v := by
    show List.lookup fl [(fl, v), (("self" : Str), Value.ref x)] = _
    simp [List.lookup]
  have I₁ : InstAt h₁ x (excO C t0) C none := ⟨hx₁, rfl, rfl, trivial⟩
  -- super().__init__(nm)
  refine ks_wpAt_execs_cons (ks_wpAt_Expr_any (ks_wpAt_MethodCall ?_ (eval_mc hline)))
  refine ks_wpAt_super_base (env := ksEnv qual (iS fl) s.heap.objs.size fI (.ref cda) cc) Fs3 Fs2 rfl rfl (X₁ _ _ ho) rfl (ar := { arg := "self", annotation := none, pos := p1 }) rfl rfl (X₁ _ _ hcode) rfl hvs hfile T.top ?_
  refine ks_loadName_global rfl Fs3 (loadGlobal_builtin (env := ksEnv qual (iS fl) s.heap.objs.size fI (.ref cda) cc) (hg.keeps kk) gs (hb.keeps kk) bs ⟨rfl, ?_⟩)
  refine wpAny_loadName_free rfl Fs2 rfl ⟨_, X₁ _ _ hcell, rfl⟩ ?_
  refine wpAny_loadName_local rfl Fs0 hn ms ?_
  refine ks_wpAny_isType_cls (X₁ _ _ hC) rfl ⟨rfl, ?_⟩
  refine ks_wpAny_call_super (X₁ _ _ hC) rfl hx₁ rfl (fun c z => by cases z) (looks_mroIn X₁ T.mC) (fun h₂ e2 k2 => ?_)
  have X₂ : K.In h₂ := X₁.keeps k2
  have hx₂ := k2 _ _ hx₁
  have I₂ : InstAt h₂ x (excO C t0) C none := ⟨hx₂, rfl, rfl, trivial⟩
  have hsup : alongIn K "__init__" (((Value.ref C :: bm).dropWhile (· != .ref C)).drop 1) = some (some (.builtin "ValueError.__init__")) := by
    have z := T.sup
    unfold ks_superIn at z
    rw [hcl] at z
    exact z
  refine kxs_getMethod kxs_ValueError e2 (looks_opaque X₂ T.tp) (l₀ := .ref C :: bm) (fun A Q E s k q => wpAny_bind ((looks_clsIn X₂ hcl) A _ E s k (wpAny_pure q))) rfl X₂ hsup (I₂.type.andThen (looks_subIn X₂ T.vB)) (ks_ne X₂ I₂ hcl) rfl ?_
  refine mw_init_row (x := x) (Heap.get?_push_size _ rfl) fun tk => ?_
  have k3 : ∀ b o, h₂.get? b = some o → (h₂.push (kxs_mw "ValueError.__init__" x)).get? b = some o := fun b o z => Heap.get?_push_of_some _ z
  refine mw_call F.excBase_ValueError (k3 _ _ (X₂ _ _ hC)) (k3 _ _ hx₂) (Heap.get?_push_size _ rfl) (by rw [sizeLine_eq]; exact (by decide : 1 ≤ 16777216)) fun h₄ t1 k4 hx₄ => ?_
  have k04 : ∀ b o, b ≠ x → s.heap.get? b = some o → h₄.get? b = some o := fun b o hb z => k4 b o hb (k3 _ _ (k2 _ _ (kk _ _ z)))
  have X₄ : K.In h₄ := kept_but X hnx k04
  have hLx : s.heap.objs.size ≠ x := Nat.ne_of_gt (Heap.lt_size hx)
  have hn₄ : h₄.Ns s.heap.objs.size fun y => ([("self", Value.ref x), (fl, v)] : List (Str × Value)).reverse.lookup y := by
    obtain ⟨o, es, ep, z, r⟩ := hn
    exact ⟨o, es, ep, k4 _ _ hLx (k3 _ _ (k2 _ _ z)), r⟩
  -- self.fl = fl
  refine wpAt_of_wpAny (wpAny_execs_cons (plainObj_wpAny_Assign_Attribute ?_))
  refine wpAny_Name (wpAny_loadName_local rfl Flo hn₄ mf ?_) ndb
  refine wpAny_Name (wpAny_loadName_local rfl Fs0 hn₄ ms ?_)
  refine set_plain X₄ (ox := excO C t1) (od := none) ⟨hx₄, rfl, rfl, trivial⟩ T.sa ?_
  refine exc_osa X₄ hx₄ hcl (show refsVE (.ref C :: bm) = true from hbm) rfl T.noF (fun h₅ tk₅ dx k5' dn dne hx₅ hn₅ => ?_)
  have k05 : ∀ b o, b ≠ x → s.heap.get? b = some o → h₅.get? b = some o := fun b o hb z => k5' b o hb (k04 b o hb z)
  have X₅ : K.In h₅ := kept_but X hnx k05
  have hn5 : h₅.Ns s.heap.objs.size fun y => ([("self", Value.ref x), (fl, v)] : List (Str × Value)).reverse.lookup y := by
    obtain ⟨o, es, ep, z, r⟩ := hn₄
    exact ⟨o, es, ep, k5' _ _ hLx z, r⟩
  have hw : Within (fun y => if y = fl then some v else none) [fl] := Within.cons fl v Within.nil
  obtain ⟨oD, _, _, hoD, _, _⟩ := hn₅.count hw
  -- self.code = nm
  show wpAny _ _ (execs _ _) _ _ _; refine wpAny_execs_cons (plainObj_wpAny_Assign_Attribute ?_)
  refine wpAny_Constant_str ?_
  refine wpAny_Name (wpAny_loadName_local rfl Fs0 hn5 ms ?_)
  refine set_plain X₅ (ox := { cls := .ref C, dict := some dx, data := .fields #[.ref t1, .none, .none, .none, .bool false, .none] }) (od := some oD) ⟨hx₅, rfl, rfl, hoD⟩ T.sa ?_
  refine PySem.OEX.osa_old X₅ hx₅ hn₅ hw (show 1 ≤ 1000 by decide) hcl (show refsVE (.ref C :: bm) = true from hbm) rfl T.noC (fun h₆ tk₆ k6 hn₆ => ?_)
  show wpAny _ _ (execs _ _) _ _ _; have hsz : s.heap.objs.size ≤ dx := Nat.le_trans (Nat.le_of_lt hn₄.lt) dn
  refine wpAny_execs_nil (hq h₆ tk₆ dx t1 ⟨fun b o hb z => k6 b o (Nat.ne_of_lt (Nat.lt_of_lt_of_le (Heap.lt_size z) hsz)) (k05 b o hb z), k6 x _ (Ne.symm dne) hx₅, hsz, dne, _, hn₆⟩)
/-- C(v) -/
theorem made (T : Txt prog K nm fl C fI) {v : Value} (X : K.In s.heap) (hlim : s.heap.NoLimit) (hg : s.heap.Ns mainGlobals mg) (gs : mg "super" = none) (hb : s.heap.Ns builtinsNs mb) (bs : mb "super" = bootBuiltins "super") (hroom : A.depth + 1 < recursionLimit)
    (hq : ∀ h' tk e d, Made s.heap h' e C d nm fl v → R (.ok (.ret (.ref e))) { s with heap := h', toks := tk }) :
    codeAny (model prog w) A (.call (.ref C) ⟨[v], []⟩) R s := by
  obtain ⟨cn, q, N, bss, bm, sn, sub, ab, col, dd, k0, k1, k2, k3, k5, hC, hbm⟩ := T.cls
  obtain ⟨hp, g, dr, tk, os⟩ := s; have kk : ∀ b o, hp.get? b = some o → ((hp.push (kdv_tup [v])).push (excO C hp.objs.size)).get? b = some o := fun b o e => Heap.get?_push_of_some _ (Heap.get?_push_of_some _ e); have hget : ((hp.push (kdv_tup [v])).push (excO C hp.objs.size)).get? (hp.objs.size + 1) = some (excO C hp.objs.size) := by heap_get
  have hnx : K.lookup (hp.objs.size + 1) = none := by
    cases e : K.lookup (hp.objs.size + 1) with
    | none => rfl
    | some o => exact absurd (Nat.lt_of_succ_lt (Heap.lt_size (X _ _ e))) (Nat.lt_irrefl _)
  refine call_own F.excBase_ValueError (fun Y => refsVE_contains Y bm hbm) (X _ _ hC) (looks_findIn X T.iC) (fun self => bind_fn X self T.tI) (by rw [sizeLine_eq]; exact (by decide : 1 ≤ 16777216)) ?_
  refine init (s := ⟨(hp.push (kdv_tup [v])).push (excO C hp.objs.size), g, dr, tk, os⟩) T (X.keeps kk) (hlim.keeps kk) (hg.keeps kk) gs (hb.keeps kk) bs hget hnx hroom fun h' tk' dx t1 E => ?_
  have old : ∀ b o, hp.get? b = some o → h'.get? b = some o := fun b o e => E.keep b o (Nat.ne_of_lt (Nat.lt_succ_of_lt (Heap.lt_size e))) (kk b o e)
  have z : hp.objs.size ≤ dx := by
    have q := E.dbig
    rw [Heap.size_push, Heap.size_push] at q
    omega
  exact ⟨rfl, hq h' tk' (hp.objs.size + 1) dx ⟨old, Nat.le_succ _, ⟨t1, E.obj⟩, z, E.dne, E.ns⟩⟩
end
end ExN
end PySem

namespace EE
open PySem PySem.Spec PyProof.Rows L2 Evl RZ
open PyProof.Rows PySem PySem.Spec L2
/-- the fields of a made exception -/
def excF (nm fl : Str) (v : V) : List (Str × V) := [("code", .str nm), (fl, v)]
theorem excF_code (nm fl : Str) (v : V) : (excF nm fl v).lookup ("code" : Str) = some (.str nm) := by simp [excF, List.lookup]
theorem excF_fl {nm fl : Str} (v : V) (h : fl ≠ "code") : (excF nm fl v).lookup fl = some v := by
  have q : (fl == ("code" : Str)) = false := by simpa using h
  simp [excF, List.lookup, q]
theorem relO_exc {nm fl : Str} {v : V} {v' : Value} {tk : Tok} (r : RelV v v') (f : Str) : RelO ((excF nm fl v).lookup f) (if f = "code" then some (.str nm tk) else if f = fl then some v' else none) := by
  by_cases h : f = "code"
  · subst h
    rw [if_pos rfl, excF_code]
    exact ⟨tk, rfl⟩
  · have q : (f == ("code" : Str)) = false := by simpa using h
    rw [if_neg h]
    by_cases h2 : f = fl
    · subst h2
      rw [if_pos rfl, excF_fl v h]
      exact r
    · have q2 : (f == fl) = false := by simpa using h2
      rw [if_neg h2]
      have e : (excF nm fl v).lookup f = none := by simp [excF, List.lookup, q, q2]
      rw [e]
      trivial
/-- C(e), an exception: told by its class and its dict -/
def tMkX (C : Addr) (nm fl : Str) (te : TE) : L2.St → Hp → XK → Prop := fun σ H Q => te σ H fun v H1 => ∀ d, H1 d = none → Q (.ref C) (some d) (upd H1 d (.xd (excF nm fl v)))
section
variable {X : Cx} {C fI : Addr} {nm fl : Str}
/-- what calling such a class by its name asks -/
structure ExcN (P : Program) (K : PySem.W.Frag) (mg : Str → Option Value) (x fl : Str) (C : Addr) : Prop where
  ex : ∃ fI, PySem.ExN.Txt P K x fl C fI
  gC : mg x = some (.ref C)
  gs : mg "super" = none
theorem pmk_exn {a : Expr} {te : TE} {p pos : Pos} {k : Nat} (T : ExcN X.prog X.K X.mg nm fl C) (hr : Room k X.A) (hk : 1 ≤ k) (he : PE X a te) (hg : Gl X nm) (hdb : (nm == ("__debug__" : Str)) = false)
    (hs : starEach (a :: []) X.env = (false, eval a X.env) :: starEach [] X.env := by rfl) (hpl : (backTo pos (starEach [] X.env)).any (·.1) = false := by rfl) :
    PMk X (.Call (.Name nm p) [a] [] pos) (tMkX C nm fl te) := by
  obtain ⟨⟨fI, T⟩, gC, gs⟩ := T
  intro pins s σ H Q I h
  refine wpAny_Call_Name_kw (ld_glob I hg gC ?_ hdb); refine PySem.W.callWith_K (h₀ := X.base) I.ok.mod.kin T.kC ?_ hs hpl
  rw [hs]
  refine Calls.spliced_cons (thn (he.run pins s σ H _ I h) fun u s1 ⟨v, H1, I1, r1, q1⟩ => Calls.spliced_nil ⟨I1.kIn, ?_⟩)
  show wpAny _ _ (call (.ref C) [u]) _ _ _; have hlim := I1.nolimit
  have glob := I1.mod.glob.keeps I1.bk
  obtain ⟨mb, hb, hbb⟩ := I1.mod.blt
  have hb := hb.keeps I1.bk
  have kIn := I1.kIn
  obtain ⟨hp, g, dr, tk, os⟩ := s1; refine wpAny_call (PySem.ExN.made T kIn hlim glob gs hb (hbb _ (by decide)) (by have := hr.dp; omega) fun h' tk' e d M => ?_)
  show MkP X pins σ Q (.ref e) ⟨h', g, dr, tk', os⟩; obtain ⟨t1, hoe⟩ := M.obj
  obtain ⟨tk2, hns⟩ := M.ns
  obtain ⟨G', g1, g2⟩ := restrict h' fun b => decide (b ≠ e); have gk : ∀ b, b ≠ e → G'.get? b = h'.get? b := fun b hb => g1 b (decide_eq_true hb); have ge : G'.get? e = none := g2 e (by simp); have old : ∀ b o, hp.get? b = some o → G'.get? b = some o := fun b o q => (gk b (Nat.ne_of_lt (Nat.lt_of_lt_of_le (Heap.lt_size q) M.new))).trans (M.keep b o q)
  have ob : ObjOk X.prog X.w (upd H1 d (.xd (excF nm fl v))) G' d (.xd (excF nm fl v)) := ⟨_, hns.at (fun o q => (gk d M.dne).trans q), relO_exc r1⟩
  have J : Inv X pins σ (upd H1 d (.xd (excF nm fl v))) ⟨G', g, dr, tk', os⟩ := I1.laid (t' := tk') old M.dbig ob
  refine ⟨e, _, _, ⟨G', g, dr, tk', os⟩, _, .ref C, some d, rfl, J, fun b o q => ?_, ge, hoe, ⟨rfl, rfl⟩, rfl, rfl, ?_, rfl, I1.bare, raises_own T.exC T.tyC, q1 d (I1.hok.fresh M.dbig)⟩
  · by_cases hb : b = e
    · have q' : G'.get? b = some o := q
      rw [hb, ge] at q'; cases q'
    · exact (gk b hb).symm.trans q
  · rw [upd_ne (Ne.symm M.dne)]
    exact I1.hok.fresh M.new
/-- raise C(e) -/
def tRaise (C : Addr) (nm fl : Str) (E : XK) (te : TE) : TS := fun _ σ H => tMkX C nm fl te σ H E
theorem ps_raiseX {a : Expr} {te : TE} {p pos pos2 : Pos} {k : Nat} {E : XK} (hc : X.calm = true) (T : ExcN X.prog X.K X.mg nm fl C) (hr : Room k X.A) (hk : 1 ≤ k) (tk : Takes X fun cls d _ H => E cls d H) (he : PE X a te) (hg : Gl X nm) (hdb : (nm == ("__debug__" : Str)) = false)
    (hs : starEach (a :: []) X.env = (false, eval a X.env) :: starEach [] X.env := by rfl) (hpl : (backTo pos (starEach [] X.env)).any (·.1) = false := by rfl) :
    PS X (.Raise (some (.Call (.Name nm p) [a] [] pos)) none pos2) (tRaise C nm fl E te) := ps_raise hc tk (pmk_exn T hr hk he hg hdb hs hpl)
end

end EE
/-! == of two tuples, item by item; bool, != of an own object; a + b of lists: the model's own steps. -/
namespace GE
open PySem PySem.SeqAt
section
variable {w : World} {prog : Program} {R : Result → Shared → Prop} {A : Around}
/-- what the comparison of two rows of items comes to, item by item -/
def ZipR (prog : Program) (w : World) (A : Around) (E : Value → Shared → Prop) (I : Shared → Prop) (b fin : Bool) : List (Value × Value) → Prop
  | [] => b = fin
  | p :: rest => ∃ r : Bool, (∀ s, I s → wpAny (model prog w) A.in1 (eqBool p.1 p.2) (fun r' s' => r' = r ∧ I s') E s) ∧ ((r = true ∧ ZipR prog w A E I b fin rest) ∨ (r = false ∧ b = false))
theorem tuple_eqB (l b : Addr) (items items2 : Array Value) (n n2 : Nat) (dd dd2 : Option Addr) (sl sl2 : Array (Option Value)) (I : Shared → Prop) (t : Bool)
    (hz : ZipR prog w A (fun e s' => R (.error e) s') I t (items.size == items2.size) (items.toList.zip items2.toList))
    (fin : ∀ s, I s → R (.ok (.ret (.bool t))) s) {s : Shared} (hl1 : s.heap.get? l = some { cls := .type "tuple", dict := dd, data := .seq items n, slots := sl })
    (hb1 : s.heap.get? b = some { cls := .type "tuple", dict := dd2, data := .seq items2 n2, slots := sl2 }) (h : I s) :
    wpAny (model prog w) A.in1 (Builtin.«tuple.__eq__» ⟨[.ref l, .ref b], []⟩) (GQ.FinOf prog w A R) (fun e s' => R (.error e) s') s := by
  have tt := AutoSeq1.sub_tuple_tuple
  have h0 := h
  obtain ⟨hs0, gs0, ds0, ts0, os0⟩ := s
  wp_walk using AutoSeq1.wpAny_loadPart' hl1, AutoSeq1.wpAny_loadPart' hb1, wpAny_forIn_list _ (fun rest b s' => b.1 = none ∧ ZipR prog w A (fun e s' => R (.error e) s') I t (items.size == items2.size) rest ∧ I s') _
  case turn =>
    rintro ⟨y, x⟩ rest b s' ⟨hb', ⟨r, hr, hc⟩, hI⟩
    refine wpAny_bind (wpAny_mono (hr s' hI) (fun r' s2 q2 => ?_) fun _ _ x => x)
    obtain ⟨e, q2⟩ := q2
    subst e
    rcases hc with ⟨e, hc⟩ | ⟨e, hc⟩
    · subst e
      wp_walk
      exact ⟨rfl, hc, q2⟩
    · subst e
      subst hc
      have hR := fin s2 q2
      wp_walk
      exact hR
  case fin =>
    rintro ⟨b1, b2⟩ s' ⟨hb', hz, hI⟩
    simp only at hb'
    subst hb'
    have hR := fin s' hI
    rw [show t = (items.size == items2.size) from hz] at hR
    wp_walk
    simpa [Builtin.Tuple.tupleCompareSizes] using hR
  case h =>
    exact ⟨rfl, hz, h0⟩
end
section
variable {w : World} {prog : Program} {s : Shared} {E : Value → Shared → Prop} {A : Around}
theorem rc_tupB {l b : Addr} {items items2 : Array Value} {Q : Value → Shared → Prop} (hu : A.units < cLine) (I : Shared → Prop) (t : Bool)
    (hl : s.heap.IsTuple l items) (hb : s.heap.IsTuple b items2) (hz : ZipR prog w A E I t (items.size == items2.size) (items.toList.zip items2.toList))
    (fin : ∀ s, I s → Q (.bool t) s) (h : I s) : wpAny (model prog w) A (richCompare .Eq (.ref l) (.ref b)) Q E s := by
  obtain ⟨⟨cls, dd, data, sl⟩, ho, hc, n, hd⟩ := id hl; obtain ⟨⟨cls2, dd2, data2, sl2⟩, ho2, hc2, n2, hd2⟩ := id hb
  simp only at hc hd hc2 hd2
  subst hc hd hc2 hd2
  refine wpAny_richCompare_same_room (op := .Eq) ⟨_, ho, rfl⟩ ⟨_, ho2, rfl⟩ F.slot_tuple_eq (GQ.call_here F.slot_tuple_eq ⟨_, ho, rfl⟩ F.entry_tuple_eq (F.args_tuple_eq_2 _ _) ?_) hu
  exact tuple_eqB (R := wants (fun v s' => v ≠ .notImplemented ∧ Q v s') E) l b items items2 n n2 dd dd2 sl sl2 I t hz (fun s' q => ⟨(fun x => nomatch x), fin s' q⟩) ho ho2 h
theorem meets_bool_any (v : Value) (b : Bool) :
    Meets (Builtin.«bool.__new__» ⟨[.type "bool", v], []⟩) (fun _ R s => (∀ (M : Model) (A : Around) (E : Value → Shared → Prop) (Q : Bool → Shared → Prop), Q b s → wpAny M A (truthy v) Q E s) ∧ R (.ok (.ret (.bool b))) s) :=
  Meets.of_wp fun _ _ _ _ s hb => by
    obtain ⟨ht, hs⟩ := hb
    obtain ⟨hs0, gs0, ds0, ts0, os0⟩ := s
    have f1 := F.conv_sub_bool
    repeat (any_goals (first | assumption | (with_reducible refine ht _ _ _ _ ?_) | wp_step))
    all_goals first | exact hs | exact ⟨_, rfl, hs⟩ | skip
theorem meetsIn_bool (v : Value) : MeetsIn prog w (Builtin.«bool.__new__» ⟨[.type "bool", v], []⟩) (fun A R s => wpAny (model prog w) A.in1 (truthy v) (fun b s' => R (.ok (.ret (.bool b))) s') (fun e s' => R (.error e) s') s) :=
  .of_wp fun A R s hh => by
    have fb := F.conv_sub_bool
    repeat (first
      | (refine wpAny_bind (m := truthy v) (wpAny_mono hh (fun b s' hb => ?_) fun _ _ x => x))
      | exact wpAny_pure ⟨_, rfl, hb⟩
      | exact ⟨_, rfl, hb⟩
      | wp_step)
theorem ifBound_objNe {M : Model} {A : Around} {E : Value → Shared → Prop} {s : Shared} {K : PySem.W.Frag} {x C : Addr} {ox : Obj} {od : Option Obj} {args : List Value} {Q : Option Value → Shared → Prop} (X : K.In s.heap) (I : PySem.W.InstAt s.heap x ox C od) (hs : PySem.W.findIn K (.ref C) "__ne__" = some (some (.builtin "object.__ne__")))
    (h : wpAny M A (call (.builtin "object.__ne__") (.ref x :: args)) (fun v => Q (some v)) E s) : wpAny M A (callSpecialIfBound? (.ref x) "__ne__" args) Q E s := by
  have fin : wpAny M A (call (.builtin "object.__ne__") ([.ref x] ++ args) >>= fun v => pure (some v)) Q E s := wpAny_bind (wpAny_mono h (fun _ _ z => wpAny_pure z) fun _ _ z => z)
  simp only [callSpecialIfBound?, bindSpecialIfBound?]; refine wpAny_holding (wpAny_bind (wpAny_bind (wpAny_bind (I.type.here ((PySem.W.looks_findIn X hs).here (wpAny_bind (wpAny_askSetting (wpAny_ite ?_))))))))
  split
  · exact wpAny_bind (wpAny_of_eq (F.cmp_object.ne.bind _) (wpAny_pure (by exact fin)))
  · exact wpAny_tryCatch (wpAny_bind (wpAny_of_eq (F.cmp_object.ne.bind _) (wpAny_pure (by exact fin))))
theorem sub_str {K : PySem.W.Frag} (C : Addr) : PySem.W.subIn K (.type "str") (.ref C) = some false := by
  have e : fastBuiltinMro "str" = some [.type "str", .type "object"] := by decide +kernel
  show (fastBuiltinMro "str").map (·.contains (.ref C)) = some false
  rw [e]
  first
    | rfl
    | simp
end
theorem meets_addS (l b : Addr) (its jts : Array Value) (n m : Nat) (sl sm : Array (Option Value)) (hz : its.size + jts.size ≤ sizeLine) :
    Meets (Builtin.«list.__add__» ⟨[.ref l, .ref b], []⟩) (fun _ R s => s.heap.get? l = some { cls := .type "list", dict := none, data := .seq its n, slots := sl } ∧ s.heap.get? b = some { cls := .type "list", dict := none, data := .seq jts m, slots := sm } ∧
      R (.ok (.ret (Value.ref s.heap.objs.size))) { s with heap := s.heap.push { cls := Value.type "list", data := Data.seq (its ++ jts) } }) :=
  .of_wp fun _ _ _ _ s hh => by
    obtain ⟨hl, hb, h⟩ := hh; have f3 := AutoSeq1.sub_list_list
    obtain ⟨hs0, gs0, ds0, ts0, os0⟩ := s
    wp_walk using AutoSeq1.wpAny_loadPart' hb, AutoSeq1.wpAny_loadPart' hl
    exact ⟨_, rfl, h⟩
end GE

/-! The unchanging heap G under the heap H, with a list L of the objects that may change. -/
namespace EE
open PySem PySem.Spec PyProof.Rows L2 Evl RZ

/-- G: what stays; L: what may change; both stand in H -/
structure Stt (G H : Hp) (L : List (Addr × HO)) : Prop where
  ex : Ex G H
  has : ∀ p, p ∈ L → H p.1 = some p.2
  out : ∀ p, p ∈ L → G p.1 = none
  nd : (L.map (·.1)).Nodup

theorem Ex.upd2 {G H : Hp} {p : Addr} {o : HO} (e : Ex G H) : Ex (upd G p o) (upd H p o) := fun a u h => by
  unfold upd at h ⊢
  by_cases c : a = p
  · rw [if_pos c] at h ⊢; exact h
  · rw [if_neg c] at h ⊢; exact e a u h
section
variable {G H : Hp} {L : List (Addr × HO)} {p b : Addr} {o o' : HO}
theorem Stt.free (S : Stt G H L) (h : H p = none) : G p = none := fresh_back S.ex h
theorem Stt.ne (S : Stt G H L) (h : H p = none) : ∀ q, q ∈ L → q.1 ≠ p := fun q hq z => by
  have := S.has q hq
  rw [z, h] at this
  cases this
theorem Stt.new (S : Stt G H L) (h : H p = none) : Stt (upd G p o) (upd H p o) L :=
  ⟨Ex.upd2 S.ex, fun q hq => by rw [upd_ne (S.ne h q hq)]; exact S.has q hq, fun q hq => by rw [upd_ne (S.ne h q hq)]; exact S.out q hq, S.nd⟩
theorem Stt.newE (S : Stt G H L) (h : H p = none) : Ex G (upd G p o) := Ex.new (S.free h)
theorem Stt.mkL (S : Stt G H L) (h : H p = none) : Stt G (upd H p o) ((p, o) :: L) := by
  refine ⟨S.ex.trans (Ex.new h), fun q hq => ?_, fun q hq => ?_, ?_⟩
  · cases hq with
    | head => exact upd_same
    | tail _ hq => rw [upd_ne (S.ne h q hq)]; exact S.has q hq
  · cases hq with
    | head => exact S.free h
    | tail _ hq => exact S.out q hq
  · rw [List.map_cons, List.nodup_cons]
    refine ⟨fun hm => ?_, S.nd⟩
    obtain ⟨q, hq, e⟩ := List.mem_map.mp hm
    exact S.ne h q hq e
theorem Stt.at (S : Stt G H L) (i : Nat) (h : L[i]? = some (b, o)) : H b = some o := S.has (b, o) (List.mem_of_getElem? h)
theorem Stt.drop (S : Stt G H ((p, o) :: L)) : Stt G H L :=
  ⟨S.ex, fun q hq => S.has q (List.mem_cons_of_mem _ hq), fun q hq => S.out q (List.mem_cons_of_mem _ hq), (List.nodup_cons.mp S.nd).2⟩
/-- what changed no longer will -/
theorem Stt.frz (S : Stt G H ((p, o) :: L)) : Stt (upd G p o) H L := by
  have hp : H p = some o := S.has (p, o) (List.mem_cons_self ..)
  refine ⟨fun a u h => ?_, S.drop.has, fun q hq => ?_, S.drop.nd⟩
  · unfold upd at h
    by_cases c : a = p
    · rw [if_pos c] at h
      cases h
      rw [c]; exact hp
    · rw [if_neg c] at h; exact S.ex a u h
  · have hne : q.1 ≠ p := fun z => (List.nodup_cons.mp S.nd).1 (List.mem_map.mpr ⟨q, hq, z⟩)
    rw [upd_ne hne]
    exact S.out q (List.mem_cons_of_mem _ hq)
theorem Stt.frzE (S : Stt G H ((p, o) :: L)) : Ex G (upd G p o) := Ex.new (S.out (p, o) (List.mem_cons_self ..))
theorem Stt.wr (S : Stt G H L) (i : Nat) (h : L[i]? = some (b, o)) : Stt G (upd H b o') (L.set i (b, o')) := by
  have hi : i < L.length := (List.getElem?_eq_some_iff.mp h).1
  have hb : (b, o) ∈ L := List.mem_of_getElem? h
  have hmap : (L.set i (b, o')).map (·.1) = L.map (·.1) := by
    rw [List.map_set]
    apply List.ext_getElem?
    intro j
    rw [List.getElem?_set]
    by_cases c : i = j
    · subst c
      rw [if_pos rfl, if_pos (by rw [List.length_map]; exact hi), List.getElem?_map, h]
      rfl
    · rw [if_neg c]
  have key : ∀ q, q ∈ L.set i (b, o') → q = (b, o') ∨ (q ∈ L ∧ q.1 ≠ b) := fun q hq => by
    obtain ⟨j, hj⟩ := List.getElem?_of_mem hq
    rw [List.getElem?_set] at hj
    by_cases c : i = j
    · subst c
      rw [if_pos rfl, if_pos hi] at hj
      exact .inl (Option.some.inj hj).symm
    · rw [if_neg c] at hj
      refine .inr ⟨List.mem_of_getElem? hj, fun z => c ?_⟩
      have h1 : (L.map (·.1))[i]? = some b := by rw [List.getElem?_map, h]; rfl
      have h2 : (L.map (·.1))[j]? = some b := by rw [List.getElem?_map, hj, ← z]; rfl
      have hi' : i < (L.map (·.1)).length := by rw [List.length_map]; exact hi
      exact (List.getElem?_inj hi' S.nd).mp (h1.trans h2.symm)
  refine ⟨fun a u ha => ?_, fun q hq => ?_, fun q hq => ?_, by rw [hmap]; exact S.nd⟩
  · rw [upd_ne (ne_of_none ha (S.out (b, o) hb))]
    exact S.ex a u ha
  · rcases key q hq with rfl | ⟨hq, hne⟩
    · exact upd_same
    · rw [upd_ne hne]; exact S.has q hq
  · rcases key q hq with rfl | ⟨hq, hne⟩
    · exact S.out (b, o) hb
    · exact S.out q hq
theorem Stt.nil (H : Hp) : Stt H H [] := ⟨Ex.refl H, (fun _ h => nomatch h), (fun _ h => nomatch h), List.nodup_nil⟩
theorem Stt.out_nil {G H : Hp} (S : Stt G H []) : Stt H H [] := Stt.nil H
end

/-! ### data -/
mutual
theorem Dp.ex {K : PySem.W.Frag} {H H' : Hp} (e : Ex H H') : ∀ (d : PyData) (v : V), Dp K H v d → Dp K H' v d
  | .none, _, h => by cases h; exact .non
  | .bool b, _, h => by cases h; exact .bl b
  | .int i, _, h => by cases h; exact .int i
  | .str x, _, h => by cases h; exact .str x
  | .list ds, _, h => by
    cases h with
    | lst hs ha => exact .lst (ex_l e hs) (DpAll.ex e ds _ ha)
  | .tuple ds, _, h => by
    cases h with
    | tup hs ha => exact .tup (ex_t e hs) (DpAll.ex e ds _ ha)
  | .dict _, _, h => by cases h
theorem DpAll.ex {K : PySem.W.Frag} {H H' : Hp} (e : Ex H H') : ∀ (ds : List PyData) (vs : List V), DpAll K H vs ds → DpAll K H' vs ds
  | [], _, h => by cases h; exact .nil
  | d :: ds, _, h => by
    cases h with
    | cons h1 h2 => exact .cons (Dp.ex e d _ h1) (DpAll.ex e ds _ h2)
end
theorem DpAll.length {K : PySem.W.Frag} {H : Hp} : ∀ {vs : List V} {ds : List PyData}, DpAll K H vs ds → vs.length = ds.length
  | _, _, .nil => rfl
  | _, _, .cons _ h => by rw [List.length_cons, List.length_cons, DpAll.length h]
theorem DpAll.get {K : PySem.W.Frag} {H : Hp} : ∀ {vs : List V} {ds : List PyData} {i : Nat} {v : V}, DpAll K H vs ds → vs[i]? = some v → ∃ d, ds[i]? = some d ∧ Dp K H v d
  | _, _, _, _, .nil, h => by simp at h
  | _, _, 0, _, .cons h1 _, h => by
    cases (Option.some.inj h)
    exact ⟨_, rfl, h1⟩
  | _, _, i + 1, _, .cons _ h2, h => DpAll.get (i := i) h2 h
theorem DpAll.append {K : PySem.W.Frag} {H : Hp} : ∀ {vs ws : List V} {ds es : List PyData}, DpAll K H vs ds → DpAll K H ws es → DpAll K H (vs ++ ws) (ds ++ es)
  | _, _, _, _, .nil, h => h
  | _, _, _, _, .cons h1 h2, h => .cons h1 (DpAll.append h2 h)
theorem DpAll.snoc {K : PySem.W.Frag} {H : Hp} {vs : List V} {ds : List PyData} {v : V} {d : PyData} (h : DpAll K H vs ds) (h1 : Dp K H v d) : DpAll K H (vs ++ [v]) (ds ++ [d]) := DpAll.append h (.cons h1 .nil)
theorem DpAll.take {K : PySem.W.Frag} {H : Hp} : ∀ {vs : List V} {ds : List PyData} (n : Nat), DpAll K H vs ds → DpAll K H (vs.take n) (ds.take n)
  | _, _, 0, _ => .nil
  | _, _, _ + 1, .nil => .nil
  | _, _, n + 1, .cons h1 h2 => .cons h1 (DpAll.take n h2)
theorem DpAll.drop {K : PySem.W.Frag} {H : Hp} : ∀ {vs : List V} {ds : List PyData} (n : Nat), DpAll K H vs ds → DpAll K H (vs.drop n) (ds.drop n)
  | _, _, 0, h => h
  | _, _, _ + 1, .nil => .nil
  | _, _, n + 1, .cons _ h2 => DpAll.drop n h2
theorem DpAll.ints {K : PySem.W.Frag} {H : Hp} : ∀ (ns : List Int), DpAll K H (ns.map V.int) (ns.map PyData.int)
  | [] => .nil
  | n :: ns => .cons (.int n) (DpAll.ints ns)
theorem DpAll.bools {K : PySem.W.Frag} {H : Hp} : ∀ (ns : List Bool), DpAll K H (ns.map V.bl) (ns.map PyData.bool)
  | [] => .nil
  | n :: ns => .cons (.bl n) (DpAll.bools ns)

/-! Readings by the head of what is read; rules that serve several kinds of values. -/
section
variable {K : PySem.W.Frag} {σ : L2.St} {H : Hp} {v x y : V} {ta tb tc te : TE} {t u : TT} {Q : VK} {QT : Bool → Hp → Prop} {QA : List V → Hp → Prop} {D : Ends} {tr : TA} {t1 t2 : TS} {i : Nat}
theorem rd_var (h : σ[i]? = some (some v)) (q : Q v H) : tVar i σ H Q := ⟨v, h, q⟩
theorem rd_c (q : Q v H) : tC v σ H Q := q
theorem rd_op {r : R2} (q : ta σ H fun x H1 => tb σ H1 fun y H2 => r x y H2 Q) : tOp r ta tb σ H Q := q
theorem rd_un {r : V → Hp → VK → Prop} (q : ta σ H fun x H1 => r x H1 Q) : tUn r ta σ H Q := q
theorem rd_test (q : te σ H fun x H1 => ∃ k, x = .bl k ∧ QT k H1) : tTest te σ H QT := q
theorem rd_B (q : te σ H fun x H1 => ∃ k, x = .bl k ∧ QT k H1) : tB te σ H QT := q
theorem rd_bl {P : Bool → Prop} {k : Bool} (q : P k) : ∃ c, V.bl k = V.bl c ∧ P c := ⟨k, rfl, q⟩
theorem rd_and (q : t σ H fun c H1 => if c = true then u σ H1 QT else QT false H1) : tAnd t u σ H QT := q
theorem rd_or (q : t σ H fun c H1 => if c = true then QT true H1 else u σ H1 QT) : tOr t u σ H QT := q
theorem rd_not (q : t σ H fun c H1 => QT (!c) H1) : tNot t σ H QT := q
theorem rd_andV (q : ta σ H fun x H1 => ∃ c, x = .bl c ∧ if c = true then tb σ H1 Q else Q (.bl false) H1) : tAndV ta tb σ H Q := q
theorem rd_orV (q : ta σ H fun x H1 => ∃ c, x = .bl c ∧ if c = true then Q (.bl true) H1 else tb σ H1 Q) : tOrV ta tb σ H Q := q
theorem rd_notV (q : ta σ H fun x H1 => ∃ c, x = .bl c ∧ Q (.bl (!c)) H1) : tNotV ta σ H Q := q
theorem rd_if (q : t σ H fun c H1 => if c = true then ta σ H1 Q else tb σ H1 Q) : tIf t ta tb σ H Q := q
theorem rd_nil (q : QA [] H) : tNil σ H QA := q
theorem rd_cons (q : ta σ H fun x H1 => tr σ H1 fun xs H2 => QA (x :: xs) H2) : tCons ta tr σ H QA := q
theorem rd_cb {r : List V → Hp → VK → Prop} (q : tr σ H fun vs H1 => r vs H1 Q) : tCB r tr σ H Q := q
theorem rd_call {sp : Sp} {E : XK} (q : tr σ H fun vs H1 => sp (vs ++ []) H1 Q E) : tCall sp [] E tr σ H Q := q
theorem rd_callK {sp : Sp} {gV : List V → List V → List V} {E : XK} {tk : TA} (q : tr σ H fun vs H1 => tk σ H1 fun zs H2 => sp (gV vs zs) H2 Q E) : tCallK sp gV E tr tk σ H Q := q
theorem rd_seq (q : t1 { D with nx := t2 D } σ H) : tSeq t1 t2 D σ H := q
theorem rd_ifs (q : t σ H fun b H1 => if b = true then t1 D σ H1 else t2 D σ H1) : tIfS t t1 t2 D σ H := q
theorem rd_next (q : D.nx σ H) : tNext D σ H := q
theorem rd_ret (q : te σ H D.rt) : tRet te D σ H := q
theorem rd_drop (q : te σ H fun _ H1 => D.nx σ H1) : tDrop te D σ H := q
theorem rd_asg {g : TG} (q : te σ H fun x H1 => g x σ H1 D.nx) : tAsg te g D σ H := q
theorem rd_name {N : L2.St → Hp → Prop} (q : N (σ.set i (some v)) H) : gName i v σ H N := q
theorem rd_tup (q : tr σ H fun xs H1 => xs.length ≤ sizeLine ∧ ∀ p, H1 p = none → Q (.ref p) (upd H1 p (.tup xs))) : tTup tr σ H Q := q
theorem rd_lst (q : tr σ H fun xs H1 => xs.length ≤ sizeLine ∧ ∀ p, H1 p = none → Q (.ref p) (upd H1 p (.lst xs))) : tLst tr σ H Q := q
theorem rd_par {i j : Nat} (q : tr σ H fun vs H1 => ∃ v w, vs = [v, w] ∧ D.nx ((σ.set i (some v)).set j (some w)) H1) : tPar i j tr D σ H := q
theorem rd_two {P : V → V → Prop} {a b : V} (q : P a b) : ∃ v w, [a, b] = [v, w] ∧ P v w := ⟨a, b, rfl, q⟩
theorem rd_bm {T : String} {r : V → List V → Hp → VK → Prop} (q : te σ H fun x H1 => tyV K T x H1 ∧ tr σ H1 fun xs H2 => r x xs H2 Q) : tBM K T r te tr σ H Q := q
theorem rd_app {a : Addr} {xs : List V} (h : H a = some (.lst xs)) (z : xs.length < 1000000) (q : Q .non (upd H a (.lst (xs ++ [v])))) : rAppend (.ref a) [v] H Q := ⟨a, xs, v, rfl, rfl, h, Nat.lt_of_lt_of_le z (by decide), q⟩
theorem ty_list {a : Addr} {xs : List V} (h : SqL K H a xs) : tyV K "list" (.ref a) H := .inl ⟨rfl, _, h⟩
theorem rd_sl {r : V → Option Int → Option Int → Hp → VK → Prop} {tl th : TO} (q : te σ H fun x H1 => tl σ H1 fun l H2 => th σ H2 fun u H3 => r x l u H3 Q) : tSl r te tl th σ H Q := q
theorem rd_noPart {QO : Option Int → Hp → Prop} (q : QO none H) : tNoPart σ H QO := q
theorem rd_part {QO : Option Int → Hp → Prop} (q : te σ H fun x H1 => ∃ i, x = .int i ∧ QO (some i) H1) : tPart te σ H QO := q
theorem rd_int {P : Int → Prop} {k : Int} (q : P k) : ∃ i, V.int k = V.int i ∧ P i := ⟨k, rfl, q⟩
theorem rd_dec {A B p : Prop} [Decidable p] (h1 : p → A) (h2 : ¬ p → B) : if decide p = true then A else B := by
  by_cases h : p
  · rw [decide_eq_true h, if_pos rfl]; exact h1 h
  · rw [decide_eq_false h, if_neg Bool.false_ne_true]; exact h2 h
theorem rd_decN {A B p : Prop} [Decidable p] (h1 : p → B) (h2 : ¬ p → A) : if (!decide p) = true then A else B := by
  by_cases h : p
  · rw [decide_eq_true h, if_neg (show ¬ (!true) = true by decide)]; exact h1 h
  · rw [decide_eq_false h, if_pos (show (!false) = true by decide)]; exact h2 h
theorem rd_nT {A B : Prop} (h : B) : if (!true) = true then A else B := by rw [if_neg (show ¬ (!true) = true by decide)]; exact h
theorem rd_nF {A B : Prop} (h : A) : if (!false) = true then A else B := by rw [if_pos (show (!false) = true by decide)]; exact h
theorem rd_iT {A B : Prop} (h : A) : if true = true then A else B := h
theorem rd_iF {A B : Prop} (h : B) : if false = true then A else B := by rw [if_neg Bool.false_ne_true]; exact h
/-! operators of ints -/
theorem rd_I0 {g : Int → Int → V} {a b : Int} (q : Q (g a b) H) : rI0 g (.int a) (.int b) H Q := ⟨a, b, rfl, rfl, q⟩
theorem rd_I {C : Int → Int → Prop} {g : Int → Int → V} {a b : Int} (c : C a b) (q : Q (g a b) H) : rI C g (.int a) (.int b) H Q := ⟨a, b, rfl, rfl, c, q⟩
theorem rd_U {g : Int → V} {a : Int} (q : Q (g a) H) : rU g (.int a) H Q := ⟨a, rfl, q⟩
/-! is None -/
theorem rd_isN (q : Q (.bl (decide (x = .non))) H) : rIsN x .non H Q := ⟨rfl, q⟩
theorem rd_notN (q : Q (.bl (!decide (x = .non))) H) : rNotN x .non H Q := ⟨rfl, q⟩
theorem int_non {a : Int} : decide (V.int a = V.non) = false := decide_eq_false (fun z => nomatch z)
theorem str_non {a : Str} : decide (V.str a = V.non) = false := decide_eq_false (fun z => nomatch z)
theorem bl_non {a : Bool} : decide (V.bl a = V.non) = false := decide_eq_false (fun z => nomatch z)
theorem ref_non {a : Addr} : decide (V.ref a = V.non) = false := decide_eq_false (fun z => nomatch z)
theorem non_non : decide (V.non = V.non) = true := decide_eq_true rfl
theorem int_eq {a b : Int} : decide (V.int a = V.int b) = decide (a = b) := by
  by_cases h : a = b
  · subst h; rw [decide_eq_true rfl, decide_eq_true rfl]
  · rw [decide_eq_false h, decide_eq_false (fun z => h (V.int.inj z))]
theorem bl_eq {a b : Bool} : decide (V.bl a = V.bl b) = decide (a = b) := by
  by_cases h : a = b
  · subst h; rw [decide_eq_true rfl, decide_eq_true rfl]
  · rw [decide_eq_false h, decide_eq_false (fun z => h (V.bl.inj z))]
theorem str_eq {a b : Str} : decide (V.str a = V.str b) = decide (a = b) := by
  by_cases h : a = b
  · subst h; rw [decide_eq_true rfl, decide_eq_true rfl]
  · rw [decide_eq_false h, decide_eq_false (fun z => h (V.str.inj z))]
end

/-! ### rules of several kinds -/
/-- a + b -/
def rStrAdd : R2 := fun x y H Q => ∃ i j, x = .str i ∧ y = .str j ∧ i.length + j.length ≤ sizeLine ∧ Q (.str (i ++ j)) H
def gAdd (K : PySem.W.Frag) : R2 := fun x y H Q => rI0 (fun i j => .int (i + j)) x y H Q ∨ rStrAdd x y H Q ∨ rCat x y H Q ∨ rCatA K x y H Q
/-- a == b: scalars; data -/
def gEq (K : PySem.W.Frag) : R2 := fun x y H Q => rEq x y H Q ∨ rEqD K x y H Q
def gNe (K : PySem.W.Frag) : R2 := fun x y H Q => rNe x y H Q ∨ rNeD K x y H Q
/-- a * b: ints; a list's copies -/
def gMul : R2 := fun x y H Q => rI CMul (fun i j => .int (i * j)) x y H Q ∨ rRep x y H Q
/-- a < b -/
def rStrLt : R2 := fun x y H Q => ∃ i j, x = .str i ∧ y = .str j ∧ Q (.bl (decide (i.cps.toList < j.cps.toList))) H
/-- a < b of data that can be compared place by place -/
def rLtD (K : PySem.W.Frag) : R2 := fun x y H Q => ∃ d e, Dp K H x d ∧ Dp K H y e ∧ PySem.W.alike d e = true ∧ d ≠ .none ∧ PyData.depth d ≤ 64 ∧ Q (.bl (PySem.W.dataLt d e)) H
theorem op_ltD {X : Cx} (hu : X.A.units + 64 < cLine) : OpR X (compareOp .Lt) (rLtD X.K) := by
  rintro pins s σ H x y v u Q hI hv hu' ⟨d, e, hd, he, hal, hno, hdep, hQ⟩
  have ⟨l1, hr1⟩ := Dp.reads hI d x v hd hv
  have ⟨l2, hr2⟩ := Dp.reads hI e y u he hu'
  have room : X.A.units + min d.depth e.depth < cLine := by
    have hm := Nat.min_le_left d.depth e.depth
    omega
  exact PySem.W.rcLt_alike d e X.A s v u l1 l2 hr1 hr2 hal hno room _ _ _ _ ⟨.bl _, H, hI, rfl, hQ⟩
def gLt (K : PySem.W.Frag) : R2 := fun x y H Q => rI0 (fun i j => .bl (decide (i < j))) x y H Q ∨ rStrLt x y H Q ∨ rLtD K x y H Q
/-- x in y: a sign of a text; of a list or tuple of flat things; data in a list -/
def gIn (K : PySem.W.Frag) : R2 := fun x y H Q => rInS x y H Q ∨ rIn K false x y H Q
def gNotIn (K : PySem.W.Frag) : R2 := fun x y H Q => rNotInS x y H Q ∨ rIn K true x y H Q
def gSl (K : PySem.W.Frag) : V → Option Int → Option Int → Hp → VK → Prop := fun x lo hi H Q => rSlL K x lo hi H Q ∨ rSlS x lo hi H Q ∨ rSlT K x lo hi H Q
def rSeqOf (K : PySem.W.Frag) (x : V) (H : Hp) (xs : List V) : Prop := ∃ p, x = .ref p ∧ (SqL K H p xs ∨ SqT K H p xs)
def gLen (K : PySem.W.Frag) : List V → Hp → VK → Prop := fun xs H Q => ∃ x n, xs = [x] ∧ LenV K x H n ∧ Q (.int n) H
def gInt : List V → Hp → VK → Prop := fun xs H Q => ((∃ i, xs = [.int i] ∧ Q (.int i) H) ∨ ∃ k, xs = [.bl k] ∧ Q (.int (if k then 1 else 0)) H) ∨ (∃ a n, xs = [.str a] ∧ PySem.intText? a = some n ∧ a.length ≤ 640 ∧ Q (.int n) H)
def gBool : List V → Hp → VK → Prop := fun xs H Q => (∃ i, xs = [.int i] ∧ Q (.bl (i != 0)) H) ∨ ∃ k, xs = [.bl k] ∧ Q (.bl k) H
def gList (K : PySem.W.Frag) : List V → Hp → VK → Prop := fun xs H Q => ∃ p ys, xs = [.ref p] ∧ (SqL K H p ys ∨ SqT K H p ys) ∧ ∀ l, H l = none → Q (.ref l) (upd H l (.lst ys))
def gTuple (K : PySem.W.Frag) : List V → Hp → VK → Prop := fun xs H Q => ∃ p ys, xs = [.ref p] ∧ ((SqL K H p ys ∧ ∀ l, H l = none → Q (.ref l) (upd H l (.tup ys))) ∨ (SqT K H p ys ∧ Q (.ref p) H))
def gIsi (K : PySem.W.Frag) : List V → Hp → VK → Prop := fun xs H Q => rIsi K xs H Q ∨ rIsiT K xs H Q
def gRange1 : Nat := 0
section
variable {X : Cx}
theorem og_add : OpR X (binaryOp .Add) (gAdd X.K) := op_add.or (op_add_str.or (op_cat.or op_catA))
theorem og_sub : OpR X (binaryOp .Sub) (rI0 fun i j => .int (i - j)) := op_sub
theorem og_mul : OpR X (binaryOp .Mult) gMul := op_mul.or op_rep
theorem og_mod : OpR X (binaryOp .Mod) (rI (fun _ j => j ≠ 0) fun i j => .int (i.fmod j)) := op_modN
theorem og_fdiv : OpR X (binaryOp .FloorDiv) (rI CDivN fun i j => .int (i.fdiv j)) := op_fdivN
theorem og_pow : OpR X (binaryOp .Pow) (rI CPow fun i j => .int (i ^ j.toNat)) := op_pow
theorem og_eq (hu : X.A.units + 64 < cLine) : OpR X (compareOp .Eq) (gEq X.K) := op_eq.or (op_eqD hu)
theorem og_ne (hu : X.A.units + 64 < cLine) : OpR X (compareOp .NotEq) (gNe X.K) := op_ne.or (op_neD hu)
theorem og_lt (hu : X.A.units + 64 < cLine) : OpR X (compareOp .Lt) (gLt X.K) := op_lt.or (op_lt_str.or (op_ltD hu))
theorem og_le : OpR X (compareOp .LtE) (rI0 fun i j => .bl (decide (i ≤ j))) := op_le
theorem og_gt : OpR X (compareOp .Gt) (rI0 fun i j => .bl (decide (j < i))) := op_gt
theorem og_ge : OpR X (compareOp .GtE) (rI0 fun i j => .bl (decide (j ≤ i))) := op_ge
theorem og_in : OpR X (compareOp .In) (gIn X.K) := op_inS.or op_in_seq
theorem og_notIn : OpR X (compareOp .NotIn) (gNotIn X.K) := op_notInS.or op_notIn_seq
theorem og_sl : SlR X (gSl X.K) := sl_list.or (sl_str.or sl_tup)
theorem cg_len : CallR X (.builtin "len") (gLen X.K) := call_len
theorem cg_int : CallR X (.type "int") gInt := call_int1.or call_int_str
theorem cg_bool : CallR X (.type "bool") gBool := call_bool1
theorem cg_list : CallR X (.type "list") (gList X.K) := call_list_of
theorem cg_tuple : CallR X (.type "tuple") (gTuple X.K) := call_tuple_of
theorem cg_isi : CallR X (.builtin "isinstance") (gIsi X.K) := call_isi.or call_isiT
end
section
variable {K : PySem.W.Frag} {σ : L2.St} {H : Hp} {v x y : V} {Q : VK}
theorem rd_addI {a b : Int} (q : Q (.int (a + b)) H) : gAdd K (.int a) (.int b) H Q := .inl ⟨a, b, rfl, rfl, q⟩
theorem rd_addS {a b : Str} (h : a.length + b.length ≤ sizeLine) (q : Q (.str (a ++ b)) H) : gAdd K (.str a) (.str b) H Q := .inr (.inl ⟨a, b, rfl, rfl, h, q⟩)
theorem rd_addL {a b : Addr} {xs ys : List V} (h1 : H a = some (.lst xs)) (h2 : H b = some (.lst ys)) (h : xs.length + ys.length ≤ sizeLine) (q : ∀ p, H p = none → Q (.ref p) (upd H p (.lst (xs ++ ys)))) : gAdd K (.ref a) (.ref b) H Q := .inr (.inr (.inl ⟨a, b, xs, ys, rfl, rfl, h1, h2, h, q⟩))
theorem rd_mulI {a b : Int} (h : CMul a b) (q : Q (.int (a * b)) H) : gMul (.int a) (.int b) H Q := .inl ⟨a, b, rfl, rfl, h, q⟩
theorem rd_eqI {a b : Int} (q : Q (.bl (decide (a = b))) H) : gEq K (.int a) (.int b) H Q := .inl ⟨rfl, by rw [int_eq]; exact q⟩
theorem rd_neI {a b : Int} (q : Q (.bl (!decide (a = b))) H) : gNe K (.int a) (.int b) H Q := .inl ⟨rfl, by rw [int_eq]; exact q⟩
theorem rd_eqB {a b : Bool} (q : Q (.bl (decide (a = b))) H) : gEq K (.bl a) (.bl b) H Q := .inl ⟨rfl, by rw [bl_eq]; exact q⟩
theorem rd_neB {a b : Bool} (q : Q (.bl (!decide (a = b))) H) : gNe K (.bl a) (.bl b) H Q := .inl ⟨rfl, by rw [bl_eq]; exact q⟩
theorem rd_eqS {a b : Str} (q : Q (.bl (decide (a = b))) H) : gEq K (.str a) (.str b) H Q := .inl ⟨rfl, by rw [str_eq]; exact q⟩
theorem rd_neS {a b : Str} (q : Q (.bl (!decide (a = b))) H) : gNe K (.str a) (.str b) H Q := .inl ⟨rfl, by rw [str_eq]; exact q⟩
theorem rd_eqD {d e : PyData} (h1 : Dp K H x d) (h2 : Dp K H y e) (s1 : SeqAt.shaped d = true) (s2 : SeqAt.shaped e = true) (q : Q (.bl (PyData.eqv d e)) H) : gEq K x y H Q := .inr ⟨d, e, h1, h2, s1, s2, q⟩
theorem rd_neD {d e : PyData} (h1 : Dp K H x d) (h2 : Dp K H y e) (s1 : SeqAt.shaped d = true) (s2 : SeqAt.shaped e = true) (q : Q (.bl (!PyData.eqv d e)) H) : gNe K x y H Q := .inr ⟨d, e, h1, h2, s1, s2, q⟩
theorem rd_ltI {a b : Int} (q : Q (.bl (decide (a < b))) H) : gLt K (.int a) (.int b) H Q := .inl ⟨a, b, rfl, rfl, q⟩
theorem rd_ltD {d e : PyData} (h1 : Dp K H x d) (h2 : Dp K H y e) (a : PySem.W.alike d e = true) (n : d ≠ .none) (z : PyData.depth d ≤ 64) (q : Q (.bl (PySem.W.dataLt d e)) H) : gLt K x y H Q := .inr (.inr ⟨d, e, h1, h2, a, n, z, q⟩)
theorem rd_intI {a : Int} (q : Q (.int a) H) : gInt [.int a] H Q := .inl (.inl ⟨a, rfl, q⟩)
theorem rd_intB {k : Bool} (q : Q (.int (if k then 1 else 0)) H) : gInt [.bl k] H Q := .inl (.inr ⟨k, rfl, q⟩)
theorem rd_boolB {k : Bool} (q : Q (.bl k) H) : gBool [.bl k] H Q := .inr ⟨k, rfl, q⟩
theorem rd_boolI {k : Int} (q : Q (.bl (k != 0)) H) : gBool [.int k] H Q := .inl ⟨k, rfl, q⟩
theorem rd_lenL {a : Addr} {xs : List V} (h : SqL K H a xs) (q : Q (.int xs.length) H) : gLen K [.ref a] H Q := ⟨.ref a, xs.length, rfl, .inl ⟨xs, h, rfl⟩, q⟩
theorem rd_lenT {a : Addr} {xs : List V} (h : SqT K H a xs) (q : Q (.int xs.length) H) : gLen K [.ref a] H Q := ⟨.ref a, xs.length, rfl, .inr ⟨xs, h, rfl⟩, q⟩
theorem rd_lenS {z : Str} (h : z.length ≤ sizeLine) (q : Q (.int z.length) H) : gLen K [.str z] H Q := ⟨.str z, z.length, rfl, ⟨h, rfl⟩, q⟩
theorem rd_ixL {a : Addr} {xs : List V} {i : Int} (h : SqL K H a xs) (e : atI xs i = some v) (q : Q v H) : rIx K (.ref a) (.int i) H Q := .inl ⟨a, xs, i, v, rfl, rfl, h, e, q⟩
theorem rd_ixT {a : Addr} {xs : List V} {i : Int} (h : SqT K H a xs) (e : atI xs i = some v) (q : Q v H) : rIx K (.ref a) (.int i) H Q := .inr (.inl ⟨a, xs, i, v, rfl, rfl, h, e, q⟩)
theorem rd_ixS {z : Str} {c : Nat} {i : Int} (h : z.length ≤ sizeLine) (e : atI z.cps.toList i = some c) (q : Q (.str ⟨#[c]⟩) H) : rIx K (.str z) (.int i) H Q := .inr (.inr ⟨z, i, c, rfl, rfl, h, e, q⟩)
theorem rd_all {a : Addr} {bs : List Bool} (h : SqL K H a (bs.map V.bl)) (q : Q (.bl (bs.all id)) H) : rAll K [.ref a] H Q := ⟨a, bs, rfl, h, q⟩
theorem rd_any {a : Addr} {bs : List Bool} (h : SqL K H a (bs.map V.bl)) (q : Q (.bl (bs.any id)) H) : rAny K [.ref a] H Q := ⟨a, bs, rfl, h, q⟩
theorem rd_slL {a : Addr} {xs : List V} {lo hi : Option Int} (h : SqL K H a xs) (q : ∀ p, H p = none → Q (.ref p) (upd H p (.lst (cutV xs lo hi)))) : gSl K (.ref a) lo hi H Q := .inl ⟨a, xs, rfl, h, q⟩
end

/-! The law's bag of draws. -/
theorem rd_sub {to ti : TE} {t : TSet} {v : V} {σ : L2.St} {H : Hp} {N : L2.St → Hp → Prop} (q : to σ H fun o H1 => ti σ H1 fun i H2 => t o i v H2 fun H3 => N σ H3) : gSub to ti t v σ H N := q
theorem rd_setL {p : Addr} {xs : List V} {k : Int} {j : Nat} {v : V} {H : Hp} {Q : Hp → Prop} (h : H p = some (.lst xs)) (e : ixN xs.length k = some j) (q : Q (upd H p (.lst (xs.set j v)))) : rSetL (.ref p) (.int k) v H Q := ⟨p, xs, k, j, rfl, rfl, h, e, q⟩
local macro_rules | `(tactic| walk_at "sql") => `(tactic| first
  | exact sq_of (by assumption)
  | assumption
  | exact ex_l (Stt.ex (by assumption)) (by assumption)
  | exact sq_of upd_same)
local macro_rules | `(tactic| walk_at "sqt") => `(tactic| first
  | exact st_of (by assumption)
  | assumption
  | exact ex_t (Stt.ex (by assumption)) (by assumption)
  | exact st_of upd_same)
local macro_rules | `(tactic| walk_at "ix") => `(tactic| first
  | ((with_reducible refine' rd_ixL ?h1 ?h2 ?_); (case h1 => walk_at "sql"); (case h2 => exact rfl))
  | ((with_reducible refine' rd_ixT ?h1 ?h2 ?_); (case h1 => walk_at "sqt"); (case h2 => exact rfl)))
local macro_rules | `(tactic| walk_at "go1") => `(tactic| first
  | with_reducible refine rd_seq ?_
  | with_reducible refine rd_op ?_
  | with_reducible refine rd_c ?_
  | ((with_reducible refine' rd_var ?hv ?_); (case hv => exact rfl))
  | with_reducible refine rd_cons ?_
  | with_reducible refine rd_nil ?_
  | with_reducible refine rd_asg ?_
  | with_reducible refine rd_name ?_
  | with_reducible refine rd_ret ?_
  | with_reducible refine rd_ifs ?_
  | with_reducible refine rd_test ?_
  | with_reducible refine rd_B ?_
  | with_reducible refine rd_bl ?_
  | with_reducible refine rd_and ?_
  | with_reducible refine rd_or ?_
  | with_reducible refine rd_not ?_
  | with_reducible refine rd_andV ?_
  | with_reducible refine rd_orV ?_
  | with_reducible refine rd_notV ?_
  | with_reducible refine rd_if ?_
  | with_reducible refine rd_iT ?_
  | with_reducible refine rd_iF ?_
  | with_reducible refine rd_nT ?_
  | with_reducible refine rd_nF ?_
  | with_reducible refine rd_cb ?_
  | with_reducible refine rd_call ?_
  | with_reducible refine rd_callK ?_
  | with_reducible refine rd_next ?_
  | with_reducible refine rd_drop ?_
  | with_reducible refine rd_par ?_
  | with_reducible refine rd_two ?_
  | with_reducible refine rd_bm ?_
  | with_reducible refine rd_tup ?_
  | with_reducible refine rd_lst ?_
  | with_reducible refine rd_sl ?_
  | with_reducible refine rd_noPart ?_
  | with_reducible refine rd_part ?_
  | with_reducible refine rd_int ?_
  | with_reducible refine rd_un ?_
  | with_reducible refine rd_I0 ?_
  | with_reducible refine rd_U ?_
  | with_reducible refine rd_isN ?_
  | with_reducible refine rd_notN ?_
  | with_reducible refine rd_addI ?_
  | with_reducible refine rd_eqI ?_
  | with_reducible refine rd_neI ?_
  | with_reducible refine rd_eqB ?_
  | with_reducible refine rd_neB ?_
  | with_reducible refine rd_eqS ?_
  | with_reducible refine rd_neS ?_
  | with_reducible refine rd_ltI ?_
  | with_reducible refine rd_intI ?_
  | with_reducible refine rd_intB ?_
  | with_reducible refine rd_boolB ?_
  | with_reducible refine rd_boolI ?_
  | with_reducible refine rd_sub ?_
  | walk_at "ix")
local macro_rules | `(tactic| walk_at "go") => `(tactic| (repeat walk_at "go1"); (try dsimp only))
local macro_rules | `(tactic| walk_at "dec") => `(tactic| first
  | ((with_reducible refine rd_dec (fun e => ?_) (fun e => ?_)) <;> first | (exfalso; revert e; decide) | (exfalso; cases e; done) | exact absurd rfl e | skip)
  | ((with_reducible refine rd_decN (fun e => ?_) (fun e => ?_)) <;> first | (exfalso; revert e; decide) | (exfalso; cases e; done) | exact absurd rfl e | skip))

def bagO (c : Addr) (i r x n : Int) : HO := .lst [.ref c, .int i, .int r, .int x, .int n]
def Bag (K : PySem.W.Frag) (G H : Hp) (b : Addr) (L : List (Addr × HO)) : Prop :=
  ∃ (c : Addr) (i r x n : Int) (ns : List Int), Stt G H ((b, .lst [.ref c, .int i, .int r, .int x, .int n]) :: L) ∧ SqL K G c (ns.map V.int) ∧ 0 ≤ i ∧ 0 ≤ r ∧ 0 ≤ x ∧ x < 2147483587 ∧ 0 ≤ n
def sp_draw (K : PySem.W.Frag) : Sp := fun vs H Q _ => ∃ (b : Addr) (m : Int) (G : Hp) (L : List (Addr × HO)), vs = [.ref b, .int m] ∧ 0 < m ∧ m < 1073741824 ∧ Bag K G H b L ∧
  ∀ d H', 0 ≤ d → d < m → Bag K G H' b L → Q (.int d) H'
def t_draw_0a_3 (K : PySem.W.Frag) : TS :=
  (tAsg (tOp (rI (fun _ j => j ≠ 0) fun i j => .int (i.fmod j)) (tCB gInt (tCons (tOp (gAdd K) (tOp (gAdd K) (tOp gMul (tOp (rIx K) (tVar 0) (tC (.int 3))) (tC (.int 40039))) (tOp gMul (tOp (rI (fun _ j => j ≠ 0) fun i j => .int (i.fmod j)) (tCB gInt (tCons (tVar 2) tNil)) (tC (.int 2147483549))) (tC (.int 337)))) (tC (.int 2017))) tNil)) (tC (.int 2147483587))) (gSub (tVar 0) (tC (.int 3)) rSetL))
def t_draw_0a_2 (K : PySem.W.Frag) : TS :=
  (tSeq (tAsg (tIf (tTest (tOp (rI0 fun i j => .bl (decide (j ≤ i))) (tVar 2) (tOp (rI CPow fun i j => .int (i ^ j.toNat)) (tC (.int 10)) (tC (.int 18))))) (tVar 2) (tC (.int 0))) (gSub (tVar 0) (tC (.int 2)) rSetL))
  (t_draw_0a_3 K))
def t_draw_0a_1 (K : PySem.W.Frag) : TS :=
  (tSeq (tAsg (tOp (gAdd K) (tOp (rIx K) (tVar 0) (tC (.int 1))) (tC (.int 1))) (gSub (tVar 0) (tC (.int 1)) rSetL))
  (t_draw_0a_2 K))
def t_draw_1a_2 (K : PySem.W.Frag) : TS :=
  (tRet (tVar 3))
def t_draw_1a_1 (K : PySem.W.Frag) : TS :=
  (tSeq (tAsg (tOp (rI CDivN fun i j => .int (i.fdiv j)) (tOp (rIx K) (tVar 0) (tC (.int 2))) (tVar 1)) (gSub (tVar 0) (tC (.int 2)) rSetL))
  (t_draw_1a_2 K))
def t_draw_5 (K : PySem.W.Frag) : TS :=
  (tRet (tOp (rI (fun _ j => j ≠ 0) fun i j => .int (i.fmod j)) (tCB gInt (tCons (tOp (gAdd K) (tOp (gAdd K) (tOp (rI CDivN fun i j => .int (i.fdiv j)) (tOp (rIx K) (tVar 0) (tC (.int 3))) (tC (.int 61))) (tOp gMul (tVar 4) (tC (.int 32003)))) (tOp (rIx K) (tVar 0) (tC (.int 4)))) tNil)) (tVar 1)))
def t_draw_4 (K : PySem.W.Frag) : TS :=
  (tSeq (tAsg (tOp (rI (fun _ j => j ≠ 0) fun i j => .int (i.fmod j)) (tCB gInt (tCons (tOp (gAdd K) (tOp (gAdd K) (tOp (gAdd K) (tOp gMul (tVar 4) (tVar 4)) (tOp gMul (tC (.int 65063)) (tVar 4))) (tOp gMul (tC (.int 6679)) (tOp (rIx K) (tVar 0) (tC (.int 4))))) (tC (.int 40009))) tNil)) (tC (.int 2147483587))) (gSub (tVar 0) (tC (.int 3)) rSetL))
  (t_draw_5 K))
def t_draw_3 (K : PySem.W.Frag) : TS :=
  (tSeq (tAsg (tOp (rIx K) (tVar 0) (tC (.int 3))) (gName 4))
  (t_draw_4 K))
def t_draw_2 (K : PySem.W.Frag) : TS :=
  (tSeq (tAsg (tOp (gAdd K) (tOp (rIx K) (tVar 0) (tC (.int 4))) (tC (.int 1))) (gSub (tVar 0) (tC (.int 4)) rSetL))
  (t_draw_3 K))
def t_draw_1 (K : PySem.W.Frag) : TS :=
  (tSeq (tIfS (tTest (tOp (rI0 fun i j => .bl (decide (j < i))) (tOp (rIx K) (tVar 0) (tC (.int 2))) (tC (.int 0)))) (tSeq (tAsg (tOp (rI (fun _ j => j ≠ 0) fun i j => .int (i.fmod j)) (tCB gInt (tCons (tOp (rIx K) (tVar 0) (tC (.int 2))) tNil)) (tVar 1)) (gName 3))
  (t_draw_1a_1 K)) tNext)
  (t_draw_2 K))
def t_draw (K : PySem.W.Frag) : TS :=
  (tSeq (tIfS (tAnd (tTest (tOp (gEq K) (tOp (rIx K) (tVar 0) (tC (.int 2))) (tC (.int 0)))) (tTest (tOp (gLt K) (tOp (rIx K) (tVar 0) (tC (.int 1))) (tCB (gLen K) (tCons (tOp (rIx K) (tVar 0) (tC (.int 0))) tNil))))) (tSeq (tAsg (tOp (rIx K) (tOp (rIx K) (tVar 0) (tC (.int 0))) (tOp (rIx K) (tVar 0) (tC (.int 1)))) (gName 2))
  (t_draw_0a_1 K)) tNext)
  (t_draw_1 K))
theorem fmod_lo (a : Int) {b : Int} (h : 0 < b) : 0 ≤ a.fmod b := by rw [Int.fmod_eq_emod_of_nonneg a (by omega)]; exact Int.emod_nonneg a (by omega)
theorem fmod_hi (a : Int) {b : Int} (h : 0 < b) : a.fmod b < b := by rw [Int.fmod_eq_emod_of_nonneg a (by omega)]; exact Int.emod_lt_of_pos a h
theorem fdiv_lo {a b : Int} (ha : 0 ≤ a) (h : 0 < b) : 0 ≤ a.fdiv b := by rw [Int.fdiv_eq_ediv_of_nonneg a (by omega)]; exact Int.ediv_nonneg ha (by omega)
theorem read_draw_1 {K : PySem.W.Frag} {b c : Addr} {m i r x n : Int} {ns : List Int} {G H : Hp} {L : List (Addr × HO)} {D : Ends} {s2 s3 s4 : Option V} (m0 : 0 < m) (m1 : m < 1073741824)
    (S : Stt G H ((b, .lst [.ref c, .int i, .int r, .int x, .int n]) :: L)) (hc : SqL K G c (ns.map V.int)) (hi : 0 ≤ i) (hr : 0 ≤ r) (hx : 0 ≤ x) (hx2 : x < 2147483587) (hn : 0 ≤ n)
    (q : ∀ d H', 0 ≤ d → d < m → Bag K G H' b L → D.rt (.int d) H') : t_draw_1 K D [some (.ref b), some (.int m), s2, s3, s4] H := by
  have hb := S.at 0 rfl
  unfold t_draw_1
  walk_at "go"
  refine rd_dec (fun e => ?_) (fun e => ?_)
  · walk_at "go"
    refine rd_I (by omega) ?_
    walk_at "go"
    unfold t_draw_1a_1
    walk_at "go"
    refine rd_I ⟨by omega, by omega⟩ ?_
    walk_at "go"
    refine rd_setL hb rfl ?_
    unfold t_draw_1a_2
    walk_at "go"
    exact q _ _ (fmod_lo _ m0) (fmod_hi _ m0) ⟨c, i, r.fdiv m, x, n, ns, S.wr 0 rfl, hc, hi, fdiv_lo hr m0, hx, hx2, hn⟩
  · walk_at "go"
    unfold t_draw_2
    walk_at "go"
    refine rd_setL hb rfl ?_
    have S2 : Stt G (upd H b _) ((b, .lst [.ref c, .int i, .int r, .int x, .int (n + 1)]) :: L) := S.wr 0 rfl
    have hb2 := S2.at 0 rfl
    unfold t_draw_3
    walk_at "go"
    unfold t_draw_4
    walk_at "go"
    refine rd_mulI (.inl ⟨by omega, by omega⟩) ?_
    walk_at "go"
    refine rd_mulI (.inl ⟨by omega, by omega⟩) ?_
    walk_at "go"
    refine rd_mulI (.inl ⟨by omega, by omega⟩) ?_
    walk_at "go"
    refine rd_I (by decide) ?_
    walk_at "go"
    refine rd_setL hb2 rfl ?_
    have S3 : Stt G _ ((b, .lst [.ref c, .int i, .int r, .int ((x * x + 65063 * x + 6679 * (n + 1) + 40009).fmod 2147483587), .int (n + 1)]) :: L) := S2.wr 0 rfl
    have hb3 := S3.at 0 rfl
    unfold t_draw_5
    walk_at "go"
    refine rd_I ⟨by decide, by decide⟩ ?_
    walk_at "go"
    refine rd_mulI (.inl ⟨by omega, by omega⟩) ?_
    walk_at "go"
    refine rd_I (by omega) ?_
    exact q _ _ (fmod_lo _ m0) (fmod_hi _ m0) ⟨c, i, r, _, n + 1, ns, S3, hc, hi, hr, fmod_lo _ (by decide), fmod_hi _ (by decide), by omega⟩
theorem read_draw {K : PySem.W.Frag} {b : Addr} {m : Int} {G H : Hp} {L : List (Addr × HO)} {D : Ends} {s2 s3 s4 : Option V} (m0 : 0 < m) (m1 : m < 1073741824)
    (B : Bag K G H b L) (q : ∀ d H', 0 ≤ d → d < m → Bag K G H' b L → D.rt (.int d) H') : t_draw K D [some (.ref b), some (.int m), s2, s3, s4] H := by
  obtain ⟨c, i, r, x, n, ns, S, hc, hi, hr, hx, hx2, hn⟩ := B
  obtain ⟨j, rfl⟩ : ∃ j : Nat, i = (j : Int) := ⟨i.toNat, by omega⟩
  have hb := S.at 0 rfl
  unfold t_draw
  walk_at "go"
  refine rd_dec (fun e => ?_) (fun e => ?_)
  · walk_at "go"
    refine rd_lenL (ex_l S.ex hc) ?_
    walk_at "go"
    refine rd_dec (fun e2 => ?_) (fun e2 => ?_)
    · walk_at "go"
      rw [List.length_map] at e2
      have hi2 : j < ns.length := by omega
      refine rd_ixL (ex_l S.ex hc) (v := .int ns[j]) ?_ ?_
      · refine atI_nat ?_
        rw [List.getElem?_map, List.getElem?_eq_getElem hi2]
        rfl
      walk_at "go"
      unfold t_draw_0a_1
      walk_at "go"
      refine rd_setL hb rfl ?_
      have S2 : Stt G _ ((b, .lst [.ref c, .int ((j : Int) + 1), .int r, .int x, .int n]) :: L) := S.wr 0 rfl
      have hb2 := S2.at 0 rfl
      unfold t_draw_0a_2
      walk_at "go"
      refine rd_I ⟨by decide, by decide, by decide⟩ ?_
      walk_at "go"
      have key : ∀ r', 0 ≤ r' → t_draw_0a_3 K { D with nx := t_draw_1 K D } [some (.ref b), some (.int m), some (.int ns[j]), s3, s4] (upd (upd H b (.lst [.ref c, .int ((j : Int) + 1), .int r, .int x, .int n])) b (.lst [.ref c, .int ((j : Int) + 1), .int r', .int x, .int n])) := by
        intro r' hr'
        have S3 : Stt G _ ((b, .lst [.ref c, .int ((j : Int) + 1), .int r', .int x, .int n]) :: L) := S2.wr 0 rfl
        have hb3 := S3.at 0 rfl
        unfold t_draw_0a_3
        walk_at "go"
        refine rd_mulI (.inr ⟨by decide, by decide⟩) ?_
        walk_at "go"
        refine rd_I (by decide) ?_
        walk_at "go"
        refine rd_mulI (.inr ⟨by decide, by decide⟩) ?_
        walk_at "go"
        refine rd_I (by decide) ?_
        walk_at "go"
        refine rd_setL hb3 rfl ?_
        refine read_draw_1 m0 m1 (S3.wr 0 rfl) hc (by omega) hr' (fmod_lo _ (by decide)) (fmod_hi _ (by decide)) hn q
      refine rd_dec (fun e3 => ?_) (fun e3 => ?_)
      · walk_at "go"
        refine rd_setL hb2 rfl ?_
        exact key _ (by have e3' : (10 : Int) ^ (18 : Int).toNat ≤ ns[j] := e3; have : (0 : Int) < 10 ^ (18 : Int).toNat := by decide
                        omega)
      · walk_at "go"
        refine rd_setL hb2 rfl ?_
        exact key 0 (by decide)
    · walk_at "go"
      exact read_draw_1 m0 m1 S hc hi hr hx hx2 hn q
  · walk_at "go"
    exact read_draw_1 m0 m1 S hc hi hr hx hx2 hn q

/-! Comprehensions and loops over the unchanging heap. -/
/-- what may be said of the heaps: it stays behind a new object, a list at its head may be written -/
structure Wd (W : Hp → Hp → List (Addr × HO) → Prop) : Prop where
  ex : ∀ {G H L}, W G H L → Ex G H
  new : ∀ {G H L p o}, W G H L → H p = none → W (upd G p o) (upd H p o) L
  mk2 : ∀ {G H L p o}, W G H L → H p = none → W G (upd H p o) ((p, o) :: L)
  get : ∀ {G H L p o}, W G H ((p, o) :: L) → H p = some o
  set : ∀ {G H L p o o'}, W G H ((p, o) :: L) → W G (upd H p o') ((p, o') :: L)
  free : ∀ {G H L p}, W G H L → H p = none → G p = none
  drop : ∀ {G H L p o}, W G H ((p, o) :: L) → W G H L
  frz : ∀ {G H L p o}, W G H ((p, o) :: L) → W (upd G p o) H L ∧ Ex G (upd G p o)
theorem stt_world : Wd Stt := ⟨Stt.ex, Stt.new, Stt.mkL, fun S => S.at 0 rfl, fun S => S.wr 0 rfl, Stt.free, Stt.drop, fun S => ⟨S.frz, S.frzE⟩⟩
theorem Wd.newE {W : Hp → Hp → List (Addr × HO) → Prop} (hW : Wd W) {G H : Hp} {L : List (Addr × HO)} {p : Addr} {o : HO} (S : W G H L) (h : H p = none) : Ex G (upd G p o) := Ex.new (hW.free S h)
section
variable {W : Hp → Hp → List (Addr × HO) → Prop} {K : PySem.W.Frag} {J : It} {n : Nat} {Gw : Hp → Prop} {Y : Nat → Hp → V → Hp → Prop} {G H : Hp} {L : List (Addr × HO)} {σ : L2.St} {g : TG} {tt : TT} {te : TE} {vs : List Nat} {Q : VK}
/-- what is read of a comprehension behind its source -/
def LcG (J : It) (g : TG) (tt : TT) (te : TE) (vs : List Nat) (σ : L2.St) (H : Hp) (Q : VK) : Prop := tLc (fun _ H R => R J H) g tt te vs σ H Q
theorem rd_lc {wi : TI} (q : wi σ H fun J H1 => LcG J g tt te vs σ H1 Q) : tLc wi g tt te vs σ H Q := q
theorem rd_yes {QT : Bool → Hp → Prop} (q : QT true H) : tYes σ H QT := q
/-- a comprehension over a walk -/
theorem lc_go (hW : Wd W) (w : Walk J n Gw Y) (S : W G H L) (hn : n < 1000000) (It : Nat → V → Hp → Prop) (Inv : Nat → List V → Hp → Prop)
    (hG : ∀ H', Ex G H' → Gw H')
    (hY : ∀ i x G1 H1 H2 L1, i < n → Ex G G1 → W G1 H1 L1 → Y i H1 x H2 → ∃ G2, Ex G1 G2 ∧ W G2 H2 L1 ∧ It i x G2)
    (h0 : Inv 0 [] G) (hM : ∀ i acc G1 G2, Ex G1 G2 → Inv i acc G1 → Inv i acc G2)
    (hS : ∀ D i x acc G1 H1, i < n → acc.length ≤ i → Ex G G1 → W G1 H1 ((D, .lst acc) :: L) → Inv i acc G1 → It i x G1 → ∀ (Kp : VK) (Sk : Hp → Prop),
      (∀ v G2 H2, Ex G1 G2 → W G2 H2 ((D, .lst acc) :: L) → Inv (i + 1) (acc ++ [v]) G2 → Kp v H2) →
      (∀ G2 H2, Ex G1 G2 → W G2 H2 ((D, .lst acc) :: L) → Inv (i + 1) acc G2 → Sk H2) →
      g x (wipe σ vs) H1 fun σ2 H2 => wipe σ2 vs = wipe σ vs ∧ tt σ2 H2 fun b H3 => if b = true then te σ2 H3 Kp else Sk H3)
    (q : ∀ D acc G2 H2, Ex G G2 → W G2 H2 ((D, .lst acc) :: L) → Inv n acc G2 → acc.length ≤ n → Q (.ref D) H2) :
    LcG J g tt te vs σ H Q := by
  intro D hD
  refine lc_it w (fun i H' => ∃ G1 acc, Ex G G1 ∧ W G1 H' ((D, .lst acc) :: L) ∧ Inv i acc G1 ∧ acc.length ≤ i) ⟨G, [], Ex.refl G, hW.mk2 S hD, h0, Nat.le_refl _⟩
    (fun i H' _ ⟨G1, acc, e1, S1, _, _⟩ => hG H' (e1.trans (hW.ex S1))) (fun i x H1 H2 hi ⟨G1, acc, e1, S1, I1, l1⟩ y => ?_) (fun H' ⟨G1, acc, e1, S1, I1, l1⟩ => q D acc G1 H' e1 S1 I1 l1)
  obtain ⟨G2, e2, S2, it2⟩ := hY i x G1 H1 H2 _ hi e1 S1 y
  have hsz : sizeLine = 16777216 := sizeLine_eq
  refine hS D i x acc G2 H2 hi l1 (e1.trans e2) S2 (hM i acc G1 G2 e2 I1) it2 _ _ (fun v G3 H3 e3 S3 I3 => ?_) (fun G3 H3 e3 S3 I3 => ?_)
  · exact ⟨acc, hW.get S3, by omega, G3, acc ++ [v], e1.trans (e2.trans e3), hW.set S3, I3, by rw [List.length_append, List.length_singleton]; omega⟩
  · exact ⟨G3, acc, e1.trans (e2.trans e3), S3, I3, by omega⟩
end
/-! ### new objects -/
section
variable {W : Hp → Hp → List (Addr × HO) → Prop} {G H : Hp} {L : List (Addr × HO)} {o : HO} {Q : Addr → Prop} {xs : List V}
theorem mk_im (hW : Wd W) (S : W G H L) (q : ∀ p G', Ex G G' → W G' (upd H p o) L → G' p = some o → Q p) : ∀ p, H p = none → Q p := fun p hp =>
  q p _ (hW.newE S hp) (hW.new S hp) upd_same
theorem mk_mu (hW : Wd W) (S : W G H L) (q : ∀ p, W G (upd H p o) ((p, o) :: L) → Q p) : ∀ p, H p = none → Q p := fun p hp =>
  q p (hW.mk2 S hp)
theorem mk_lst (hW : Wd W) (S : W G H L) (hz : xs.length ≤ 100000) (q : ∀ p G', Ex G G' → W G' (upd H p (.lst xs)) L → G' p = some (.lst xs) → Q p) : xs.length ≤ sizeLine ∧ ∀ p, H p = none → Q p := ⟨sz_of hz, mk_im hW S q⟩
theorem mk_tup (hW : Wd W) (S : W G H L) (hz : xs.length ≤ 100000) (q : ∀ p G', Ex G G' → W G' (upd H p (.tup xs)) L → G' p = some (.tup xs) → Q p) : xs.length ≤ sizeLine ∧ ∀ p, H p = none → Q p := ⟨sz_of hz, mk_im hW S q⟩
theorem mk_lstM (hW : Wd W) (S : W G H L) (hz : xs.length ≤ 100000) (q : ∀ p, W G (upd H p (.lst xs)) ((p, .lst xs) :: L) → Q p) : xs.length ≤ sizeLine ∧ ∀ p, H p = none → Q p := ⟨sz_of hz, mk_mu hW S q⟩
end
/-! ### a for -/
section
variable {J : It} {n : Nat} {Gw : Hp → Prop} {Y : Nat → Hp → V → Hp → Prop} {G H : Hp} {σ : L2.St} {g : TG} {tb : TS} {D : Ends}
def ForG (J : It) (g : TG) (tb : TS) (D : Ends) (σ : L2.St) (H : Hp) : Prop := tFor (fun _ H R => R J H) g tb D σ H
theorem rd_for {wi : TI} (q : wi σ H fun J H1 => ForG J g tb D σ H1) : tFor wi g tb D σ H := q
theorem for_go (w : Walk J n Gw Y) (Inv : Nat → L2.St → Hp → Hp → Prop) (h0 : Inv 0 σ G H) (hG : ∀ i σ1 G1 H1, i ≤ n → Inv i σ1 G1 H1 → Gw H1)
    (hS : ∀ i x σ1 G1 H1 H2, i < n → Inv i σ1 G1 H1 → Y i H1 x H2 → ∀ N : L2.St → Hp → Prop, (∀ σ2 G2 H2, Inv (i + 1) σ2 G2 H2 → N σ2 H2) → g x σ1 H2 fun σ2 H3 => tb { D with nx := N, ct := N, bk := D.nx } σ2 H3)
    (hd : ∀ σ1 G1 H1, Inv n σ1 G1 H1 → D.nx σ1 H1) : ForG J g tb D σ H := by
  refine for_it w (fun i σ1 H1 => ∃ G1, Inv i σ1 G1 H1) ⟨G, h0⟩ (fun i σ1 H1 hi ⟨G1, h1⟩ => hG i σ1 G1 H1 hi h1) (fun i x σ1 H1 H2 hi ⟨G1, h1⟩ y => ?_) (fun σ1 H1 ⟨G1, h1⟩ => hd σ1 G1 H1 h1)
  exact hS i x σ1 G1 H1 H2 hi h1 y _ fun σ2 G2 H3 h2 => ⟨G2, h2⟩
end
/-! ### the sources -/
section
variable {K : PySem.W.Frag} {σ : L2.St} {H G : Hp} {a b : Addr} {xs ys : List V} {ta : TA} {te : TE} {R : It → Hp → Prop}
theorem rd_zipA (q : ta σ H fun vs H1 => ∃ a b xs ys, vs = [.ref a, .ref b] ∧ ((SqL K H1 a xs ∧ SqL K H1 b ys ∧ R (Itz K a b) H1) ∨ (SqT K H1 a xs ∧ SqT K H1 b ys ∧ R (ItzT K a b) H1))) : iZipA K ta σ H R := q
theorem rd_zipL {P : It → Prop} (h1 : SqL K H a xs) (h2 : SqL K H b ys) (q : P (Itz K a b)) : ∃ a' b' xs ys, [V.ref a, V.ref b] = [V.ref a', V.ref b'] ∧ ((SqL K H a' xs ∧ SqL K H b' ys ∧ P (Itz K a' b')) ∨ (SqT K H a' xs ∧ SqT K H b' ys ∧ P (ItzT K a' b'))) :=
  ⟨a, b, xs, ys, rfl, .inl ⟨h1, h2, q⟩⟩
theorem rd_zipT {P : It → Prop} (h1 : SqT K H a xs) (h2 : SqT K H b ys) (q : P (ItzT K a b)) : ∃ a' b' xs ys, [V.ref a, V.ref b] = [V.ref a', V.ref b'] ∧ ((SqL K H a' xs ∧ SqL K H b' ys ∧ P (Itz K a' b')) ∨ (SqT K H a' xs ∧ SqT K H b' ys ∧ P (ItzT K a' b'))) :=
  ⟨a, b, xs, ys, rfl, .inr ⟨h1, h2, q⟩⟩
theorem walk_zipT {n : Nat} (hn : n = min xs.length ys.length) : Walk (ItzT K a b) n (fun H => SqT K H a xs ∧ SqT K H b ys) (YPair (fun i => xs[i]?) (fun i => ys[i]?)) where
  goes := fun i _ hi hq =>
    have a1 : i < xs.length := by omega
    have a2 : i < ys.length := by omega
    ⟨xs, ys, _, _, hq.1, hq.2, List.getElem?_eq_getElem a1, List.getElem?_eq_getElem a2⟩
  stops := fun _ hq => ⟨xs, ys, hq.1, hq.2, by omega⟩
  yields := fun _ _ _ _ _ hq ⟨T, c, d, e1, e2, e3, e4, e5⟩ => ⟨T, c, d, e1, e2, e3, e4 xs hq.1, e5 ys hq.2⟩
def ItPair (K : PySem.W.Frag) (xs ys : Nat → Option V) (i : Nat) (x : V) (G : Hp) : Prop := ∃ T u w, x = .ref T ∧ SqT K G T [u, w] ∧ xs i = some u ∧ ys i = some w
theorem item_pair {W : Hp → Hp → List (Addr × HO) → Prop} (hW : Wd W) {xs ys : Nat → Option V} {i : Nat} {x : V} {G1 H1 H2 : Hp} {L1 : List (Addr × HO)} (S : W G1 H1 L1) (y : YPair xs ys i H1 x H2) :
    ∃ G2, Ex G1 G2 ∧ W G2 H2 L1 ∧ ItPair K xs ys i x G2 := by
  obtain ⟨T, u, z, rfl, hT, rfl, h1, h2⟩ := y
  exact ⟨_, hW.newE S hT, hW.new S hT, T, u, z, rfl, st_of upd_same, h1, h2⟩
theorem item_at {W : Hp → Hp → List (Addr × HO) → Prop} {i : Nat} {x : V} {G1 H1 H2 : Hp} {L1 : List (Addr × HO)} (S : W G1 H1 L1) (y : YAt xs i H1 x H2) :
    ∃ G2, Ex G1 G2 ∧ W G2 H2 L1 ∧ xs[i]? = some x := by
  obtain ⟨rfl, h⟩ := y
  exact ⟨G1, Ex.refl _, S, h⟩
theorem item_fn {W : Hp → Hp → List (Addr × HO) → Prop} {f : Nat → V} {i : Nat} {x : V} {G1 H1 H2 : Hp} {L1 : List (Addr × HO)} (S : W G1 H1 L1) (y : YFn f i H1 x H2) :
    ∃ G2, Ex G1 G2 ∧ W G2 H2 L1 ∧ x = f i := by
  obtain ⟨rfl, h⟩ := y
  exact ⟨G1, Ex.refl _, S, h⟩
/-- targets -/
theorem rd_gtup2 {i j : Nat} {T : Addr} {x y : V} {N : L2.St → Hp → Prop} (h : SqT K H T [x, y]) (q : N ((σ.set i (some x)).set j (some y)) H) : gTup K 2 (gCons (gName i) (gCons (gName j) gNil)) (.ref T) σ H N :=
  ⟨T, [x, y], rfl, h, rfl, x, [y], rfl, y, [], rfl, rfl, q⟩
end
section
variable {K : PySem.W.Frag} {σ : L2.St} {H : Hp} {a : Addr} {xs : List V} {te : TE} {R : It → Hp → Prop} {z : Str}
theorem rd_il (q : te σ H fun x H1 => ∃ a, x = .ref a ∧ (∃ xs, SqL K H1 a xs) ∧ R (Itl K a) H1) : iList K te σ H R := q
theorem rd_it (q : te σ H fun x H1 => ∃ a, x = .ref a ∧ (∃ xs, SqT K H1 a xs) ∧ R (Itt K a) H1) : iTup K te σ H R := q
theorem rd_is (q : te σ H fun x H1 => ∃ z, x = .str z ∧ R (Its z) H1) : iStr te σ H R := q
theorem rd_rng1 {ta : TA} (q : ta σ H fun vs H1 => ∃ j : Int, vs = [.int j] ∧ -(2 ^ 62) ≤ j ∧ j < 2 ^ 62 ∧ R (Itr 0 j.toNat) H1) : iRng1 ta σ H R := q
theorem rd_rng1i {P : It → Prop} {n : Int} (h1 : -(2 ^ 62) ≤ n) (h2 : n < 2 ^ 62) (q : P (Itr 0 n.toNat)) : ∃ j : Int, [V.int n] = [.int j] ∧ -(2 ^ 62) ≤ j ∧ j < 2 ^ 62 ∧ P (Itr 0 j.toNat) := ⟨n, rfl, h1, h2, q⟩
end

/-! The law's likeness of data. -/

mutual
def lk : PyData → PyData → Bool
  | .none, .none => true
  | .bool a, .bool b => decide (a = b)
  | .int a, .int b => decide (a = b)
  | .str a, .str b => decide (a = b)
  | .list xs, .list ys => lkAll xs ys
  | .tuple xs, .tuple ys => lkAll xs ys
  | _, _ => false
def lkAll : List PyData → List PyData → Bool
  | [], [] => true
  | x :: xs, y :: ys => lk x y && lkAll xs ys
  | _, _ => false
end
mutual
theorem lk_refl : ∀ d, PyData.plain d = true → lk d d = true
  | .none, _ => rfl
  | .bool b, _ => decide_eq_true rfl
  | .int i, _ => decide_eq_true rfl
  | .str s, _ => decide_eq_true rfl
  | .list xs, h => lkAll_refl xs h
  | .tuple xs, h => lkAll_refl xs h
  | .dict _, h => by cases h
theorem lkAll_refl : ∀ ds, PyData.plainAll ds = true → lkAll ds ds = true
  | [], _ => rfl
  | x :: xs, h => by
    have h' := Bool.and_eq_true_iff.mp (show (PyData.plain x && PyData.plainAll xs) = true from h)
    show (lk x x && lkAll xs xs) = true
    rw [lk_refl x h'.1, lkAll_refl xs h'.2]; rfl
end
mutual
theorem Dp.plain {K : PySem.W.Frag} {H : Hp} : ∀ (d : PyData) (v : V), Dp K H v d → PyData.plain d = true
  | .none, _, _ => rfl
  | .bool _, _, _ => rfl
  | .int _, _, _ => rfl
  | .str _, _, _ => rfl
  | .list ds, _, h => by cases h with | lst hs ha => exact DpAll.plain ds _ ha
  | .tuple ds, _, h => by cases h with | tup hs ha => exact DpAll.plain ds _ ha
  | .dict _, _, h => by cases h
theorem DpAll.plain {K : PySem.W.Frag} {H : Hp} : ∀ (ds : List PyData) (vs : List V), DpAll K H vs ds → PyData.plainAll ds = true
  | [], _, _ => rfl
  | d :: ds, _, h => by
    cases h with
    | cons h1 h2 =>
      show (PyData.plain d && PyData.plainAll ds) = true
      rw [Dp.plain d _ h1, DpAll.plain ds _ h2]; rfl
end
theorem lkAll_zip : ∀ (ds es : List PyData), ds.length = es.length → lkAll ds es = (List.zipWith lk ds es).all id
  | [], [], _ => rfl
  | d :: ds, e :: es, h => by
    show (lk d e && lkAll ds es) = (id (lk d e) && (List.zipWith lk ds es).all id)
    rw [lkAll_zip ds es (by simpa using h)]
    rfl
  | [], _ :: _, h => nomatch h
  | _ :: _, [], h => nomatch h
theorem lkAll_len : ∀ (ds es : List PyData), ds.length ≠ es.length → lkAll ds es = false
  | [], [], h => (h rfl).elim
  | d :: ds, e :: es, h => by
    show (lk d e && lkAll ds es) = false
    rw [lkAll_len ds es (fun z => h (by simp [z])), Bool.and_false]
  | [], _ :: _, _ => rfl
  | _ :: _, [], _ => rfl
/-! ### kinds -/
def tyN : PyData → String
  | .none => "NoneType"
  | .bool _ => "bool"
  | .int _ => "int"
  | .str _ => "str"
  | .list _ => "list"
  | .tuple _ => "tuple"
  | .dict _ => "dict"
theorem SqL.ty {K : PySem.W.Frag} {H : Hp} {a : Addr} {xs : List V} (h : SqL K H a xs) : TyX K H (.ref a) (.type "list") := by
  rcases h with (h | ⟨o, h⟩) | ⟨o, its, n, h1, h2, _⟩
  · exact .base (.lst h)
  · exact .base (.frz h)
  · exact .kList h1 h2
theorem SqT.ty {K : PySem.W.Frag} {H : Hp} {a : Addr} {xs : List V} (h : SqT K H a xs) : TyX K H (.ref a) (.type "tuple") := by
  rcases h with (h | ⟨o, h⟩) | ⟨o, its, n, h1, h2, _⟩
  · exact .base (.tup h)
  · exact .fTuple h
  · exact .kTuple h1 h2
theorem Dp.ty {K : PySem.W.Frag} {H : Hp} {v : V} {d : PyData} (h : Dp K H v d) : TyX K H v (.type (tyN d)) := by
  cases h with
  | non => exact .base .non
  | bl b => exact .base (.bl b)
  | int i => exact .base (.int i)
  | str x => exact .base (.str x)
  | lst hs _ => exact SqL.ty hs
  | tup hs _ => exact SqT.ty hs
theorem rd_isi {K : PySem.W.Frag} {H : Hp} {v : V} {d : PyData} {T : String} {b : Bool} {Q : VK} (h : Dp K H v d) (k : kitB (tyN d) T = some b) (q : Q (.bl b) H) : gIsi K [v, .ty T] H Q :=
  .inl ⟨v, .ty T, .type (tyN d), .type T, b, rfl, .ty T, Dp.ty h, kit_ty k, q⟩
theorem rd_isi2 {K : PySem.W.Frag} {H : Hp} {v : V} {d : PyData} {T U : String} {tp : Addr} {b c : Bool} {Q : VK} (ht : H tp = some (.tup [.ty T, .ty U])) (h : Dp K H v d) (k1 : kitB (tyN d) T = some b) (k2 : kitB (tyN d) U = some c) {r : Bool} (er : (b || c) = r) (q : Q (.bl r) H) : gIsi K [v, .ref tp] H Q :=
  .inr ⟨v, tp, [.ty T, .ty U], .type (tyN d), [.type T, .type U], b || c, rfl, ht, .cons (.ty T) (.cons (.ty U) .nil), Dp.ty h,
    kitAny_cons (kit_ty k1) (fun hb => by subst hb; exact kitAny_cons (kit_ty k2) (fun hc => by subst hc; exact kitAny_nil) (fun hc => by subst hc; rfl)) (fun hb => by subst hb; rfl), by rw [er]; exact q⟩
theorem Stt.less {G G' H : Hp} {L : List (Addr × HO)} (e : Ex G G') (S : Stt G' H L) : Stt G H L := ⟨e.trans S.ex, S.has, fun p hp => fresh_back e (S.out p hp), S.nd⟩
theorem kt_NoneType_bool : kitB "NoneType" "bool" = some false := by decide +kernel
theorem kt_NoneType_int : kitB "NoneType" "int" = some false := by decide +kernel
theorem kt_NoneType_str : kitB "NoneType" "str" = some false := by decide +kernel
theorem kt_NoneType_list : kitB "NoneType" "list" = some false := by decide +kernel
theorem kt_NoneType_tuple : kitB "NoneType" "tuple" = some false := by decide +kernel
theorem kt_bool_bool : kitB "bool" "bool" = some true := by decide +kernel
theorem kt_bool_int : kitB "bool" "int" = some true := by decide +kernel
theorem kt_bool_str : kitB "bool" "str" = some false := by decide +kernel
theorem kt_bool_list : kitB "bool" "list" = some false := by decide +kernel
theorem kt_bool_tuple : kitB "bool" "tuple" = some false := by decide +kernel
theorem kt_int_bool : kitB "int" "bool" = some false := by decide +kernel
theorem kt_int_int : kitB "int" "int" = some true := by decide +kernel
theorem kt_int_str : kitB "int" "str" = some false := by decide +kernel
theorem kt_int_list : kitB "int" "list" = some false := by decide +kernel
theorem kt_int_tuple : kitB "int" "tuple" = some false := by decide +kernel
theorem kt_str_bool : kitB "str" "bool" = some false := by decide +kernel
theorem kt_str_int : kitB "str" "int" = some false := by decide +kernel
theorem kt_str_str : kitB "str" "str" = some true := by decide +kernel
theorem kt_str_list : kitB "str" "list" = some false := by decide +kernel
theorem kt_str_tuple : kitB "str" "tuple" = some false := by decide +kernel
theorem kt_list_bool : kitB "list" "bool" = some false := by decide +kernel
theorem kt_list_int : kitB "list" "int" = some false := by decide +kernel
theorem kt_list_str : kitB "list" "str" = some false := by decide +kernel
theorem kt_list_list : kitB "list" "list" = some true := by decide +kernel
theorem kt_list_tuple : kitB "list" "tuple" = some false := by decide +kernel
theorem kt_tuple_bool : kitB "tuple" "bool" = some false := by decide +kernel
theorem kt_tuple_int : kitB "tuple" "int" = some false := by decide +kernel
theorem kt_tuple_str : kitB "tuple" "str" = some false := by decide +kernel
theorem kt_tuple_list : kitB "tuple" "list" = some false := by decide +kernel
theorem kt_tuple_tuple : kitB "tuple" "tuple" = some true := by decide +kernel
/-- nested less than n deep, no list of a million things -/
def fit : Nat → PyData → Prop
  | 0, _ => False
  | n + 1, .list es => es.length < 1000000 ∧ ∀ e, e ∈ es → fit n e
  | n + 1, .tuple es => es.length < 1000000 ∧ ∀ e, e ∈ es → fit n e
  | _ + 1, _ => True
def sp_like (K : PySem.W.Frag) (n : Nat) : Sp := fun vs H Q _ => ∃ (G : Hp) (L : List (Addr × HO)) (x y : V) (d e : PyData), vs = [x, y] ∧ Stt G H L ∧ Dp K G x d ∧ Dp K G y e ∧ fit n e ∧ (∀ H', Stt G H' L → Q (.bl (lk d e)) H')
def t_like_0a_1 (K : PySem.W.Frag) (n : Nat) : TS :=
  (tRet (tAndV (tOp (gEq K) (tCB (gLen K) (tCons (tVar 0) tNil)) (tCB (gLen K) (tCons (tVar 1) tNil))) (tCB (rAll K) (tCons (tLc (iZipA K (tCons (tVar 0) (tCons (tVar 1) tNil))) (gTup K 2 (gCons (gName 2) (gCons (gName 3) gNil))) tYes (tCall (sp_like K n) [] E0 (tCons (tVar 2) (tCons (tVar 3) tNil))) [2, 3]) tNil))))
def t_like_3 (K : PySem.W.Frag) (n : Nat) : TS :=
  (tRet (tAndV (tOp (gEq K) (tCB (gIsi K) (tCons (tVar 0) (tCons (tC (.ty "str")) tNil))) (tCB (gIsi K) (tCons (tVar 1) (tCons (tC (.ty "str")) tNil)))) (tOp (gEq K) (tVar 0) (tVar 1))))
def t_like_2 (K : PySem.W.Frag) (n : Nat) : TS :=
  (tSeq (tIfS (tOr (tTest (tOp (gNe K) (tCB (gIsi K) (tCons (tVar 0) (tCons (tC (.ty "bool")) tNil))) (tCB (gIsi K) (tCons (tVar 1) (tCons (tC (.ty "bool")) tNil))))) (tTest (tOp (gNe K) (tCB (gIsi K) (tCons (tVar 0) (tCons (tC (.ty "int")) tNil))) (tCB (gIsi K) (tCons (tVar 1) (tCons (tC (.ty "int")) tNil)))))) (tRet (tC (.bl false))) tNext)
  (t_like_3 K n))
def t_like_1 (K : PySem.W.Frag) (n : Nat) : TS :=
  (tSeq (tIfS (tOr (tTest (tOp rIsN (tVar 1) (tC .non))) (tTest (tOp rIsN (tVar 0) (tC .non)))) (tRet (tAndV (tOp rIsN (tVar 1) (tC .non)) (tOp rIsN (tVar 0) (tC .non)))) tNext)
  (t_like_2 K n))
def t_like (K : PySem.W.Frag) (n : Nat) : TS :=
  (tSeq (tIfS (tB (tCB (gIsi K) (tCons (tVar 1) (tCons (tTup (tCons (tC (.ty "list")) (tCons (tC (.ty "tuple")) tNil))) tNil)))) (tSeq (tIfS (tOr (tTest (tOp (gNe K) (tCB (gIsi K) (tCons (tVar 0) (tCons (tC (.ty "list")) tNil))) (tCB (gIsi K) (tCons (tVar 1) (tCons (tC (.ty "list")) tNil))))) (tTest (tOp (gNe K) (tCB (gIsi K) (tCons (tVar 0) (tCons (tC (.ty "tuple")) tNil))) (tCB (gIsi K) (tCons (tVar 1) (tCons (tC (.ty "tuple")) tNil)))))) (tRet (tC (.bl false))) tNext)
  (t_like_0a_1 K n)) tNext)
  (t_like_1 K n))
local macro_rules | `(tactic| walk_at "kt") => `(tactic| first
  | exact kt_NoneType_bool
  | exact kt_NoneType_int
  | exact kt_NoneType_str
  | exact kt_NoneType_list
  | exact kt_NoneType_tuple
  | exact kt_bool_bool
  | exact kt_bool_int
  | exact kt_bool_str
  | exact kt_bool_list
  | exact kt_bool_tuple
  | exact kt_int_bool
  | exact kt_int_int
  | exact kt_int_str
  | exact kt_int_list
  | exact kt_int_tuple
  | exact kt_str_bool
  | exact kt_str_int
  | exact kt_str_str
  | exact kt_str_list
  | exact kt_str_tuple
  | exact kt_list_bool
  | exact kt_list_int
  | exact kt_list_str
  | exact kt_list_list
  | exact kt_list_tuple
  | exact kt_tuple_bool
  | exact kt_tuple_int
  | exact kt_tuple_str
  | exact kt_tuple_list
  | exact kt_tuple_tuple)
local macro_rules | `(tactic| walk_at "dp") => `(tactic| first
  | exact Dp.non | exact Dp.bl _ | exact Dp.int _ | exact Dp.str _ | assumption | exact Dp.ex (Stt.ex (by assumption)) _ _ (by assumption))
local macro_rules | `(tactic| walk_at "isi") => `(tactic| ((with_reducible refine' rd_isi ?h ?k ?_); (case h => walk_at "dp"); (case k => walk_at "kt")))
theorem read_like_list {K : PySem.W.Frag} {n : Nat} {G H : Hp} {L : List (Addr × HO)} {x y : V} {ds : List PyData} {es : List PyData} {D : Ends} {s2 s3 : Option V} (S : Stt G H L) (hx : Dp K G x (.list ds)) (hy : Dp K G y (.list es)) (hz : es.length < 1000000) (hn : ∀ e, e ∈ es → fit n e)
    (q : ∀ H', Stt G H' L → D.rt (.bl (lkAll ds es)) H') : t_like_0a_1 K n D [some x, some y, s2, s3] H := by
  unfold t_like_0a_1
  cases hx with
  | @lst a xs _ ha hA =>
  cases hy with
  | @lst b ys _ hb hB =>
  walk_at "go"
  refine rd_lenL (ex_l S.ex ha) ?_
  walk_at "go"
  refine rd_lenL (ex_l S.ex hb) ?_
  have hl1 := DpAll.length hA
  have hl2 := DpAll.length hB
  walk_at "go"
  refine rd_dec (fun e => ?_) (fun e => ?_)
  · have hl : ds.length = es.length := by omega
    walk_at "go"
    refine rd_lc ?_
    refine rd_zipA ?_
    walk_at "go"
    refine ⟨_, _, _, _, rfl, .inl ⟨ex_l S.ex ha, ex_l S.ex hb, ?_⟩⟩
    refine lc_go stt_world (walk_zip (n := ds.length) (by omega)) S (by omega) (ItPair K (fun i => xs[i]?) (fun i => ys[i]?)) (fun i acc _ => acc = (List.zipWith (fun d e => V.bl (lk d e)) ds es).take i)
      (fun H' e' => ⟨ex_l e' ha, ex_l e' hb⟩) (fun i x G1 H1 H2 L1 _ e1 S1 y => item_pair stt_world S1 y) rfl (fun _ _ _ _ _ h => h) ?_ ?_
    · intro D i x acc G1 H1 hi hacc e1 S1 I1 it Kp Sk kp sk
      obtain ⟨T, u, w, rfl, hT, hu, hw⟩ := it
      obtain ⟨d1, hd1, dp1⟩ := DpAll.get hA hu
      obtain ⟨d2, hd2, dp2⟩ := DpAll.get hB hw
      refine rd_gtup2 (ex_t S1.ex hT) ⟨rfl, ?_⟩
      refine rd_yes (rd_iT ?_)
      walk_at "go"
      refine ⟨G1, _, u, w, d1, d2, rfl, S1, Dp.ex e1 _ _ dp1, Dp.ex e1 _ _ dp2, hn d2 (List.mem_of_getElem? hd2), fun H2 S2 => kp _ G1 H2 (Ex.refl _) S2 ?_⟩
      rw [I1, List.take_add_one, List.getElem?_zipWith, hd1, hd2]
      rfl
    · intro D acc G2 H2 e2 S2 I2 _
      have hacc : acc = (List.zipWith lk ds es).map V.bl := by
        rw [I2, List.map_zipWith, List.take_of_length_le (by rw [List.length_zipWith]; omega)]
      subst hacc
      walk_at "go"
      refine rd_all (sq_of (S2.at 0 rfl)) ?_
      have := q H2 (S2.drop.less e2)
      rw [lkAll_zip ds es hl] at this
      exact this
  · walk_at "go"
    have := q H S
    rw [lkAll_len ds es (by omega)] at this
    exact this
theorem read_like_tup {K : PySem.W.Frag} {n : Nat} {G H : Hp} {L : List (Addr × HO)} {x y : V} {ds : List PyData} {es : List PyData} {D : Ends} {s2 s3 : Option V} (S : Stt G H L) (hx : Dp K G x (.tuple ds)) (hy : Dp K G y (.tuple es)) (hz : es.length < 1000000) (hn : ∀ e, e ∈ es → fit n e)
    (q : ∀ H', Stt G H' L → D.rt (.bl (lkAll ds es)) H') : t_like_0a_1 K n D [some x, some y, s2, s3] H := by
  unfold t_like_0a_1
  cases hx with
  | @tup a xs _ ha hA =>
  cases hy with
  | @tup b ys _ hb hB =>
  walk_at "go"
  refine rd_lenT (ex_t S.ex ha) ?_
  walk_at "go"
  refine rd_lenT (ex_t S.ex hb) ?_
  have hl1 := DpAll.length hA
  have hl2 := DpAll.length hB
  walk_at "go"
  refine rd_dec (fun e => ?_) (fun e => ?_)
  · have hl : ds.length = es.length := by omega
    walk_at "go"
    refine rd_lc ?_
    refine rd_zipA ?_
    walk_at "go"
    refine ⟨_, _, _, _, rfl, .inr ⟨ex_t S.ex ha, ex_t S.ex hb, ?_⟩⟩
    refine lc_go stt_world (walk_zipT (n := ds.length) (by omega)) S (by omega) (ItPair K (fun i => xs[i]?) (fun i => ys[i]?)) (fun i acc _ => acc = (List.zipWith (fun d e => V.bl (lk d e)) ds es).take i)
      (fun H' e' => ⟨ex_t e' ha, ex_t e' hb⟩) (fun i x G1 H1 H2 L1 _ e1 S1 y => item_pair stt_world S1 y) rfl (fun _ _ _ _ _ h => h) ?_ ?_
    · intro D i x acc G1 H1 hi hacc e1 S1 I1 it Kp Sk kp sk
      obtain ⟨T, u, w, rfl, hT, hu, hw⟩ := it
      obtain ⟨d1, hd1, dp1⟩ := DpAll.get hA hu
      obtain ⟨d2, hd2, dp2⟩ := DpAll.get hB hw
      refine rd_gtup2 (ex_t S1.ex hT) ⟨rfl, ?_⟩
      refine rd_yes (rd_iT ?_)
      walk_at "go"
      refine ⟨G1, _, u, w, d1, d2, rfl, S1, Dp.ex e1 _ _ dp1, Dp.ex e1 _ _ dp2, hn d2 (List.mem_of_getElem? hd2), fun H2 S2 => kp _ G1 H2 (Ex.refl _) S2 ?_⟩
      rw [I1, List.take_add_one, List.getElem?_zipWith, hd1, hd2]
      rfl
    · intro D acc G2 H2 e2 S2 I2 _
      have hacc : acc = (List.zipWith lk ds es).map V.bl := by
        rw [I2, List.map_zipWith, List.take_of_length_le (by rw [List.length_zipWith]; omega)]
      subst hacc
      walk_at "go"
      refine rd_all (sq_of (S2.at 0 rfl)) ?_
      have := q H2 (S2.drop.less e2)
      rw [lkAll_zip ds es hl] at this
      exact this
  · walk_at "go"
    have := q H S
    rw [lkAll_len ds es (by omega)] at this
    exact this
local macro_rules | `(tactic| walk_at "gk") => `(tactic| repeat (first | walk_at "go1" | walk_at "isi" | walk_at "dec"))
theorem read_like {K : PySem.W.Frag} {n : Nat} {G H : Hp} {L : List (Addr × HO)} {x y : V} {d e : PyData} {D : Ends} {s2 s3 : Option V} (S : Stt G H L) (hx : Dp K G x d) (hy : Dp K G y e) (hn : fit (n + 1) e)
    (q : ∀ H', Stt G H' L → D.rt (.bl (lk d e)) H') : t_like K n D [some x, some y, s2, s3] H := by
  unfold t_like
  walk_at "gk"
  refine ⟨(by decide : 2 ≤ sizeLine), fun p hp => ?_⟩
  have S1 := S.new (o := .tup [.ty "list", .ty "tuple"]) hp
  have e1 := S.newE (o := .tup [.ty "list", .ty "tuple"]) hp
  have q1 : ∀ H', Stt (upd G p (.tup [.ty "list", .ty "tuple"])) H' L → D.rt (.bl (lk d e)) H' := fun H' S' => q H' (S'.less e1)
  have hx1 := Dp.ex e1 _ _ hx
  have hy1 := Dp.ex e1 _ _ hy
  have hp1 : upd H p (.tup [.ty "list", .ty "tuple"]) p = some (.tup [.ty "list", .ty "tuple"]) := upd_same
  generalize upd G p (.tup [.ty "list", .ty "tuple"]) = G1 at *
  generalize upd H p (.tup [.ty "list", .ty "tuple"]) = H1 at *
  clear hx hy q S e1 hp
  walk_at "go"
  have hy2 := Dp.ex S1.ex _ _ hy1
  cases e with
  | list es =>
    refine rd_isi2 hp1 hy2 kt_list_list kt_list_tuple (r := true) rfl ?_
    walk_at "gk"
    cases d with
    | list ds =>
      walk_at "gk"
      exact read_like_list S1 hx1 hy1 hn.1 hn.2 q1
    | dict _ => cases hx1
    | _ =>
      walk_at "gk"
      exact q1 _ S1
  | tuple es =>
    refine rd_isi2 hp1 hy2 kt_tuple_list kt_tuple_tuple (r := true) rfl ?_
    walk_at "gk"
    cases d with
    | tuple ds =>
      walk_at "gk"
      exact read_like_tup S1 hx1 hy1 hn.1 hn.2 q1
    | dict _ => cases hx1
    | _ =>
      walk_at "gk"
      exact q1 _ S1
  | dict _ => cases hy1
  | none =>
    refine rd_isi2 hp1 hy2 kt_NoneType_list kt_NoneType_tuple (r := false) rfl ?_
    walk_at "gk"
    try dsimp only
    unfold t_like_1
    have hx2 := Dp.ex S1.ex _ _ hx1
    cases hy1
    cases d with
    | dict _ => cases hx1
    | _ =>
      cases hx1
      all_goals (walk_at "gk")
      all_goals (try dsimp only)
      all_goals first
        | exact q1 _ S1
        | (unfold t_like_2; walk_at "gk"; (try dsimp only); first | exact q1 _ S1 | (unfold t_like_3; walk_at "gk"; exact q1 _ S1))
  | bool b =>
    refine rd_isi2 hp1 hy2 kt_bool_list kt_bool_tuple (r := false) rfl ?_
    walk_at "gk"
    try dsimp only
    unfold t_like_1
    have hx2 := Dp.ex S1.ex _ _ hx1
    cases hy1
    cases d with
    | dict _ => cases hx1
    | _ =>
      cases hx1
      all_goals (walk_at "gk")
      all_goals (try dsimp only)
      all_goals first
        | exact q1 _ S1
        | (unfold t_like_2; walk_at "gk"; (try dsimp only); first | exact q1 _ S1 | (unfold t_like_3; walk_at "gk"; exact q1 _ S1))
  | int b =>
    refine rd_isi2 hp1 hy2 kt_int_list kt_int_tuple (r := false) rfl ?_
    walk_at "gk"
    try dsimp only
    unfold t_like_1
    have hx2 := Dp.ex S1.ex _ _ hx1
    cases hy1
    cases d with
    | dict _ => cases hx1
    | _ =>
      cases hx1
      all_goals (walk_at "gk")
      all_goals (try dsimp only)
      all_goals first
        | exact q1 _ S1
        | (unfold t_like_2; walk_at "gk"; (try dsimp only); first | exact q1 _ S1 | (unfold t_like_3; walk_at "gk"; exact q1 _ S1))
  | str b =>
    refine rd_isi2 hp1 hy2 kt_str_list kt_str_tuple (r := false) rfl ?_
    walk_at "gk"
    try dsimp only
    unfold t_like_1
    have hx2 := Dp.ex S1.ex _ _ hx1
    cases hy1
    cases d with
    | dict _ => cases hx1
    | _ =>
      cases hx1
      all_goals (walk_at "gk")
      all_goals (try dsimp only)
      all_goals first
        | exact q1 _ S1
        | (unfold t_like_2; walk_at "gk"; (try dsimp only); first | exact q1 _ S1 | (unfold t_like_3; walk_at "gk"; exact q1 _ S1))


theorem Stt.swap {G H : Hp} {x y : Addr × HO} {L : List (Addr × HO)} (S : Stt G H (x :: y :: L)) : Stt G H (y :: x :: L) := by
  have m : ∀ p, p ∈ y :: x :: L → p ∈ x :: y :: L := fun p hp => (List.Perm.swap x y L).mem_iff.mp hp
  refine ⟨S.ex, fun p hp => S.has p (m p hp), fun p hp => S.out p (m p hp), ?_⟩
  have h := S.nd
  simp only [List.map_cons, List.nodup_cons, List.mem_cons] at h ⊢
  exact ⟨fun z => z.elim (fun z => h.1 (.inl z.symm)) h.2.1, fun z => h.1 (.inr z), h.2.2⟩
theorem Bag.ex {K : PySem.W.Frag} {G H : Hp} {b : Addr} {L : List (Addr × HO)} (B : Bag K G H b L) : Ex G H := by
  obtain ⟨_, _, _, _, _, _, S, _⟩ := B
  exact S.ex
theorem bag_world (K : PySem.W.Frag) (b : Addr) : Wd fun G H L => Bag K G H b L where
  ex := Bag.ex
  new := fun ⟨c, i, r, x, n, ns, S, hc, h⟩ hp => ⟨c, i, r, x, n, ns, S.new hp, ex_l (S.newE hp) hc, h⟩
  mk2 := fun ⟨c, i, r, x, n, ns, S, hc, h⟩ hp => ⟨c, i, r, x, n, ns, (S.mkL hp).swap, hc, h⟩
  get := fun ⟨c, i, r, x, n, ns, S, hc, h⟩ => S.at 1 rfl
  set := fun ⟨c, i, r, x, n, ns, S, hc, h⟩ => ⟨c, i, r, x, n, ns, S.wr 1 rfl, hc, h⟩
  free := fun ⟨c, i, r, x, n, ns, S, hc, h⟩ hp => S.free hp
  drop := fun ⟨c, i, r, x, n, ns, S, hc, h⟩ => ⟨c, i, r, x, n, ns, S.swap.drop, hc, h⟩
  frz := fun ⟨c, i, r, x, n, ns, S, hc, h⟩ => ⟨⟨c, i, r, x, n, ns, S.swap.frz, ex_l S.swap.frzE hc, h⟩, S.swap.frzE⟩
/-- with the bag: what leaves all that may change keeps the bag -/
theorem Bag.stt {K : PySem.W.Frag} {G H : Hp} {b : Addr} {L : List (Addr × HO)} (B : Bag K G H b L) : ∃ M, Stt G H M ∧ ∀ G' H', Ex G G' → Stt G' H' M → Bag K G' H' b L := by
  obtain ⟨c, i, r, x, n, ns, S, hc, h⟩ := B
  exact ⟨_, S, fun G' H' e S' => ⟨c, i, r, x, n, ns, S', ex_l e hc, h⟩⟩
theorem cutV_take (ns : List Int) : cutV (ns.map V.int) none (some 63) = (ns.take 63).map V.int := by
  unfold cutV
  rw [HT.sIx_none, show HT.sIx (ns.map V.int).length (ns.map V.int).length (some 63) = min 63 (ns.map V.int).length from HT.sIx_nat _ _ 63]
  rw [List.drop_zero, Nat.sub_zero, List.map_take, ← List.take_take, List.take_length]
def sp_open (K : PySem.W.Frag) : Sp := fun vs H Q _ => ∃ (a : Addr) (ns : List Int) (G : Hp) (L : List (Addr × HO)), vs = [.ref a] ∧ Stt G H L ∧ SqL K G a (ns.map V.int) ∧ (∀ b G' H', Ex G G' → Bag K G' H' b L → Q (.ref b) H')
def t_open (K : PySem.W.Frag) : TS :=
  (tRet (tLst (tCons (tCB (gList K) (tCons (tSl (gSl K) (tVar 0) tNoPart (tPart (tC (.int 63)))) tNil)) (tCons (tC (.int 0)) (tCons (tC (.int 0)) (tCons (tC (.int 120121)) (tCons (tC (.int 0)) tNil)))))))
theorem read_open {K : PySem.W.Frag} {a : Addr} {ns : List Int} {G H : Hp} {L : List (Addr × HO)} {D : Ends} (S : Stt G H L) (ha : SqL K G a (ns.map V.int)) (q : ∀ b G' H', Ex G G' → Bag K G' H' b L → D.rt (.ref b) H') : t_open K D [some (.ref a)] H := by
  unfold t_open
  walk_at "go"
  refine rd_slL (ex_l S.ex ha) fun p hp => ?_
  have S1 := S.new (o := .lst (cutV (ns.map V.int) none (some 63))) hp
  have e1 := S.newE (o := .lst (cutV (ns.map V.int) none (some 63))) hp
  have h1 : upd H p (.lst (cutV (ns.map V.int) none (some 63))) p = some (.lst ((ns.take 63).map V.int)) := by rw [upd_same, cutV_take]
  walk_at "go"
  refine ⟨p, _, rfl, .inl (sq_of h1), fun c hc => ?_⟩
  have S2 := S1.new (o := .lst ((ns.take 63).map V.int)) hc
  have e2 := S1.newE (o := .lst ((ns.take 63).map V.int)) hc
  walk_at "go"
  refine ⟨by show 5 ≤ sizeLine; decide, fun b hb => ?_⟩
  have S3 := S2.mkL (o := .lst [.ref c, .int 0, .int 0, .int 120121, .int 0]) hb
  exact q b _ _ (e1.trans e2) ⟨c, 0, 0, 120121, 0, ns.take 63, S3, sq_of upd_same, by decide, by decide, by decide, by decide, by decide⟩
/-- one of some things -/
def sp_of (K : PySem.W.Frag) : Sp := fun vs H Q _ => ∃ (b a : Addr) (xs : List V) (G : Hp) (L : List (Addr × HO)), vs = [.ref b, .ref a] ∧ Bag K G H b L ∧ (∀ H', Bag K G H' b L → SqL K H' a xs ∨ SqT K H' a xs) ∧ 0 < xs.length ∧ xs.length < 1000000 ∧
  (∀ x H', x ∈ xs → Bag K G H' b L → Q x H')
def t_of (K : PySem.W.Frag) : TS :=
  (tRet (tOp (rIx K) (tVar 1) (tCall (sp_draw K) [] E0 (tCons (tVar 0) (tCons (tCB (gLen K) (tCons (tVar 1) tNil)) tNil)))))
theorem read_of {K : PySem.W.Frag} {b a : Addr} {xs : List V} {G H : Hp} {L : List (Addr × HO)} {D : Ends} (B : Bag K G H b L) (hs : ∀ H', Bag K G H' b L → SqL K H' a xs ∨ SqT K H' a xs) (h0 : 0 < xs.length) (h1 : xs.length < 1000000)
    (q : ∀ x H', x ∈ xs → Bag K G H' b L → D.rt x H') : t_of K D [some (.ref b), some (.ref a)] H := by
  unfold t_of
  walk_at "go"
  refine ⟨.ref a, xs.length, rfl, ?_, ?_⟩
  · rcases hs H B with h | h
    · exact .inl ⟨xs, h, rfl⟩
    · exact .inr ⟨xs, h, rfl⟩
  walk_at "go"
  refine ⟨b, _, G, L, rfl, by omega, by omega, B, fun d H' d0 d1 B' => ?_⟩
  obtain ⟨j, rfl⟩ : ∃ j : Nat, d = (j : Int) := ⟨d.toNat, by omega⟩
  have hj : j < xs.length := by omega
  have hat : atI xs (j : Int) = some xs[j] := atI_nat (List.getElem?_eq_getElem hj)
  rcases hs H' B' with h | h
  · exact rd_ixL h hat (q _ _ (List.getElem_mem hj) B')
  · exact rd_ixT h hat (q _ _ (List.getElem_mem hj) B')
theorem sat_draw {K : PySem.W.Frag} {vs : List V} {H : Hp} {Q : VK} {E : XK} (h : sp_draw K vs H Q E) : vs.length = 2 ∧ t_draw K { nx := fun _ H' => Q .non H', rt := Q } (vs.map some ++ List.replicate (5 - vs.length) none) H := by
  obtain ⟨b, m, G, L, rfl, m0, m1, B, q⟩ := h
  exact ⟨rfl, read_draw m0 m1 B q⟩
theorem sat_open {K : PySem.W.Frag} {vs : List V} {H : Hp} {Q : VK} {E : XK} (h : sp_open K vs H Q E) : vs.length = 1 ∧ t_open K { nx := fun _ H' => Q .non H', rt := Q } (vs.map some ++ List.replicate (1 - vs.length) none) H := by
  obtain ⟨a, ns, G, L, rfl, S, ha, q⟩ := h
  exact ⟨rfl, read_open S ha q⟩
theorem sat_of {K : PySem.W.Frag} {vs : List V} {H : Hp} {Q : VK} {E : XK} (h : sp_of K vs H Q E) : vs.length = 2 ∧ t_of K { nx := fun _ H' => Q .non H', rt := Q } (vs.map some ++ List.replicate (2 - vs.length) none) H := by
  obtain ⟨b, a, xs, G, L, rfl, B, hs, h0, h1, q⟩ := h
  exact ⟨rfl, read_of B hs h0 h1 q⟩
theorem never_like (K : PySem.W.Frag) : ∀ vs H Q E, sp_like K 0 vs H Q E → False := fun _ _ _ _ ⟨_, _, _, _, _, _, _, _, _, _, h, _⟩ => h
theorem sat_like {K : PySem.W.Frag} {n : Nat} {vs : List V} {H : Hp} {Q : VK} {E : XK} (h : sp_like K (n + 1) vs H Q E) : vs.length = 2 ∧ t_like K n { nx := fun _ H' => Q .non H', rt := Q } (vs.map some ++ List.replicate (4 - vs.length) none) H := by
  obtain ⟨G, L, x, y, d, e, rfl, S, hx, hy, hn, q⟩ := h
  exact ⟨rfl, read_like S hx hy hn q⟩

/-! Comprehensions over lists and tuples by plain functions. -/
section
variable {W : Hp → Hp → List (Addr × HO) → Prop} {K : PySem.W.Frag} {G H : Hp} {L : List (Addr × HO)} {σ : L2.St} {te : TE} {tt : TT} {Q : VK} {a : Addr} {xs : List V} {j : Nat}
theorem lc_mapJ (hW : Wd W) {J : It} {Gw : Hp → Prop} (w : Walk J xs.length Gw (YAt xs)) (S : W G H L) (hg : ∀ H', Ex G H' → Gw H') (hz : xs.length < 1000000) (hw : ∀ x, wipe ((wipe σ [j]).set j (some x)) [j] = wipe σ [j]) (f : V → V)
    (hS : ∀ x acc D G1 H1, x ∈ xs → Ex G G1 → W G1 H1 ((D, .lst acc) :: L) → ∀ Kp : VK, (∀ H2, W G1 H2 ((D, .lst acc) :: L) → Kp (f x) H2) → te ((wipe σ [j]).set j (some x)) H1 Kp)
    (q : ∀ D G2 H2, Ex G G2 → W G2 H2 ((D, .lst (xs.map f)) :: L) → Q (.ref D) H2) : LcG J (gName j) tYes te [j] σ H Q := by
  refine lc_go hW w S hz (fun i v _ => xs[i]? = some v) (fun i acc _ => acc = (xs.take i).map f) hg
    (fun i x G1 H1 H2 L1 _ e1 S1 y => item_at S1 y) rfl (fun _ _ _ _ _ h => h) ?_ ?_
  · intro D i x acc G1 H1 hi _ e1 S1 I1 it Kp Sk kp sk
    refine rd_name ⟨hw x, rd_yes (rd_iT ?_)⟩
    refine hS x acc D G1 H1 (List.mem_of_getElem? it) e1 S1 _ fun H2 S2 => kp _ G1 H2 (Ex.refl _) S2 ?_
    rw [I1, List.take_add_one, it, List.map_append]
    rfl
  · intro D acc G2 H2 e2 S2 I2 _
    rw [List.take_length] at I2
    subst I2
    exact q D G2 H2 e2 S2
theorem lc_filterJ (hW : Wd W) {J : It} {Gw : Hp → Prop} (w : Walk J xs.length Gw (YAt xs)) (S : W G H L) (hg : ∀ H', Ex G H' → Gw H') (hz : xs.length < 1000000) (hw : ∀ x, wipe ((wipe σ [j]).set j (some x)) [j] = wipe σ [j]) (f : V → V) (p : V → Bool)
    (hT : ∀ x acc D G1 H1, x ∈ xs → Ex G G1 → W G1 H1 ((D, .lst acc) :: L) → ∀ Kt : Bool → Hp → Prop, (∀ H2, W G1 H2 ((D, .lst acc) :: L) → Kt (p x) H2) → tt ((wipe σ [j]).set j (some x)) H1 Kt)
    (hS : ∀ x acc D G1 H1, x ∈ xs → p x = true → Ex G G1 → W G1 H1 ((D, .lst acc) :: L) → ∀ Kp : VK, (∀ H2, W G1 H2 ((D, .lst acc) :: L) → Kp (f x) H2) → te ((wipe σ [j]).set j (some x)) H1 Kp)
    (q : ∀ D G2 H2, Ex G G2 → W G2 H2 ((D, .lst ((xs.filter p).map f)) :: L) → Q (.ref D) H2) : LcG J (gName j) tt te [j] σ H Q := by
  refine lc_go hW w S hz (fun i v _ => xs[i]? = some v) (fun i acc _ => acc = ((xs.take i).filter p).map f) hg
    (fun i x G1 H1 H2 L1 _ e1 S1 y => item_at S1 y) rfl (fun _ _ _ _ _ h => h) ?_ ?_
  · intro D i x acc G1 H1 hi _ e1 S1 I1 it Kp Sk kp sk
    refine rd_name ⟨hw x, ?_⟩
    have e : (xs.take (i + 1)).filter p = (xs.take i).filter p ++ (if p x = true then [x] else []) := by
      rw [List.take_add_one, it, List.filter_append, show (some x).toList = [x] from rfl, List.filter_cons, List.filter_nil]
    refine hT x acc D G1 H1 (List.mem_of_getElem? it) e1 S1 _ fun H2 S2 => ?_
    by_cases hp : p x = true
    · rw [if_pos hp]
      rw [if_pos hp] at e
      refine hS x acc D G1 H2 (List.mem_of_getElem? it) hp e1 S2 _ fun H3 S3 => kp _ G1 H3 (Ex.refl _) S3 ?_
      rw [I1, e, List.map_append]
      rfl
    · rw [if_neg hp]
      rw [if_neg hp] at e
      refine sk G1 H2 (Ex.refl _) S2 ?_
      rw [I1, e, List.append_nil]
  · intro D acc G2 H2 e2 S2 I2 _
    rw [List.take_length] at I2
    subst I2
    exact q D G2 H2 e2 S2
/-- n values told by a world that draws -/
theorem lc_draws (hW : Wd W) {n : Nat} {lo : Int} (S : W G H L) (hz : n < 1000000) (hw : ∀ x, wipe ((wipe σ [j]).set j (some x)) [j] = wipe σ [j]) (P : V → Prop)
    (hS : ∀ i acc D G1 H1, i < n → Ex G G1 → W G1 H1 ((D, .lst acc) :: L) → ∀ Kp : VK, (∀ v G2 H2, Ex G1 G2 → W G2 H2 ((D, .lst acc) :: L) → P v → Kp v H2) → te ((wipe σ [j]).set j (some (.int (lo + (i : Nat))))) H1 Kp)
    (q : ∀ D vs G2 H2, Ex G G2 → W G2 H2 ((D, .lst vs) :: L) → vs.length = n → (∀ v, v ∈ vs → P v) → Q (.ref D) H2) : LcG (Itr lo n) (gName j) tYes te [j] σ H Q := by
  refine lc_go hW walk_range S hz (fun i v _ => v = .int (lo + (i : Nat))) (fun i acc _ => acc.length = i ∧ ∀ v, v ∈ acc → P v) (fun _ _ => True.intro)
    (fun i x G1 H1 H2 L1 _ e1 S1 y => item_fn S1 y) ⟨rfl, fun _ h => by cases h⟩ (fun _ _ _ _ _ h => h) ?_ ?_
  · intro D i x acc G1 H1 hi _ e1 S1 I1 it Kp Sk kp sk
    subst it
    refine rd_name ⟨hw _, rd_yes (rd_iT ?_)⟩
    refine hS i acc D G1 H1 hi e1 S1 _ fun v G2 H2 e2 S2 hv => kp v G2 H2 e2 S2 ⟨by rw [List.length_append, I1.1]; rfl, fun u hu => ?_⟩
    cases List.mem_append.mp hu with
    | inl h => exact I1.2 u h
    | inr h => rw [List.mem_singleton.mp h]; exact hv
  · intro D acc G2 H2 e2 S2 I2 _
    exact q D acc G2 H2 e2 S2 I2.1 I2.2
end
theorem len_snoc {α : Type} (l : List α) (a : α) : (l ++ [a]).length = l.length + 1 := List.length_append
theorem in_two {α : Type} {x a : α} {l : List α} (h : x ∈ a :: l) : x = a ∨ x ∈ l := List.mem_cons.mp h
theorem dec_iff {p q : Prop} [Decidable p] [Decidable q] (h : p ↔ q) : decide p = decide q := decide_eq_decide.mpr h
/-! ### scalars -/
/-- a value: a number or None -/
def oV : Option Int → V
  | none => .non
  | some i => .int i
def oD : Option Int → PyData
  | none => .none
  | some i => .int i
theorem oDp {K : PySem.W.Frag} {H : Hp} : ∀ a : Option Int, Dp K H (oV a) (oD a)
  | none => .non
  | some i => .int i
theorem oDps {K : PySem.W.Frag} {H : Hp} : ∀ l : List (Option Int), DpAll K H (l.map oV) (l.map oD)
  | [] => .nil
  | a :: l => .cons (oDp a) (oDps l)
theorem o_eqv (a b : Option Int) : PyData.eqv (oD a) (oD b) = decide (a = b) := by
  cases a <;> cases b
  · rfl
  · rfl
  · rfl
  · rename_i x y
    show (x == y) = decide (some x = some y)
    by_cases h : x = y
    · subst h; rw [beq_self_eq_true, decide_eq_true rfl]
    · rw [decide_eq_false (fun z => h (Option.some.inj z))]; exact beq_eq_false_iff_ne.mpr h
theorem o_shaped (a : Option Int) : SeqAt.shaped (oD a) = true := by cases a <;> rfl
theorem o_canLay : ∀ l : List (Option Int), PyData.canLayAll0 (l.map oD) = true
  | [] => rfl
  | a :: l => by
    show (PyData.canLay0 (oD a) && PyData.canLayAll0 (l.map oD)) = true
    rw [o_canLay l]
    cases a <;> rfl
theorem o_depth : ∀ l : List (Option Int), PyData.depthAll (l.map oD) = 0
  | [] => rfl
  | a :: l => by
    show max (PyData.depth (oD a)) (PyData.depthAll (l.map oD)) = 0
    rw [o_depth l]
    cases a <;> rfl
theorem os_shaped (l : List (Option Int)) : SeqAt.shaped (.list (l.map oD)) = true := by
  unfold SeqAt.shaped
  rw [show PyData.canLay0 (.list (l.map oD)) = PyData.canLayAll0 (l.map oD) from rfl, o_canLay, show PyData.depth (.list (l.map oD)) = PyData.depthAll (l.map oD) + 1 from rfl, o_depth]
  rfl
theorem os_eqv : ∀ l m : List (Option Int), PyData.eqv (.list (l.map oD)) (.list (m.map oD)) = decide (l = m)
  | [], [] => rfl
  | [], _ :: _ => rfl
  | _ :: _, [] => rfl
  | a :: l, b :: m => by
    show (PyData.eqv (oD a) (oD b) && PyData.eqv (.list (l.map oD)) (.list (m.map oD))) = _
    rw [o_eqv, os_eqv l m]
    by_cases h : a = b
    · by_cases h2 : l = m
      · subst h h2; simp
      · rw [decide_eq_false h2, decide_eq_false (fun z => h2 (List.cons.inj z).2), Bool.and_false]
    · rw [decide_eq_false h, decide_eq_false (fun z => h (List.cons.inj z).1), Bool.false_and]
theorem fit_scal {n : Nat} {d : PyData} (h : ∀ es, d ≠ .list es ∧ d ≠ .tuple es) : fit (n + 1) d := by
  cases d with
  | list es => exact ((h es).1 rfl).elim
  | tuple es => exact ((h es).2 rfl).elim
  | _ => exact True.intro
theorem fit_os (n : Nat) (l : List (Option Int)) (h : l.length < 1000000) : fit (n + 2) (.list (l.map oD)) := ⟨by rw [List.length_map]; exact h, fun e he => by
  obtain ⟨a, _, rfl⟩ := List.mem_map.mp he
  cases a <;> exact True.intro⟩
theorem fit_bools (n : Nat) (l : List Bool) (h : l.length < 1000000) : fit (n + 2) (.list (l.map PyData.bool)) := ⟨by rw [List.length_map]; exact h, fun e he => by
  obtain ⟨a, _, rfl⟩ := List.mem_map.mp he
  exact True.intro⟩

/-! Calls with keywords alone; defs made callable. -/
/-- n keyword values, put in the parameters' order -/
def gPV {α : Type} (n : Nat) (perm : List Nat) (vs zs : List α) : List α := if vs.length = 0 ∧ zs.length = n then perm.filterMap fun i => zs[i]? else []
theorem gPV_rel {n : Nat} {perm : List Nat} {vs zs : List V} {us ws : List Value} (r : Vals vs us) (q : Vals zs ws) : Vals (gPV n perm vs zs) (gPV n perm us ws) := by
  have h1 := r.length
  have h2 := q.length
  unfold gPV
  by_cases h : vs.length = 0 ∧ zs.length = n
  · rw [if_pos h, if_pos ⟨by rw [← h1]; exact h.1, by rw [← h2]; exact h.2⟩]
    induction perm with
    | nil => exact .nil
    | cons i perm ih =>
      rw [List.filterMap_cons, List.filterMap_cons]
      cases e : zs[i]? with
      | none =>
        rw [Vals.none_of q e]
        exact ih
      | some x =>
        obtain ⟨u, hu, ru⟩ := Vals.get q e
        rw [hu]
        exact .cons ru ih
  · rw [if_neg h, if_neg (fun z => h ⟨by rw [h1]; exact z.1, by rw [h2]; exact z.2⟩)]
    exact .nil
structure CalK (P : Program) (w : World) (K : PySem.W.Frag) (mg : Str → Option Value) (base : Heap) (k : Nat) (x : Str) (sp : Sp) (ks : List Str) (perm : List Nat) : Prop where
  ex : ∃ (f : Addr) (fd : FuncData) (ps : List Str), FnOk P w K mg base CX0 k f fd ps sp ∧ mg x = some (.ref f) ∧ PySem.W.keepIn K (.ref f) = true ∧ KBinds K fd ps ks (gPV ks.length perm) (gPV ks.length perm)
theorem calK_mk {P : Program} {w : World} {K : PySem.W.Frag} {mg : Str → Option Value} {base : Heap} {k : Nat} {x qual : Str} {st : Stmt} {f : Addr} {fd : FuncData} {ps ks : List Str} {perm : List Nat} {sp : Sp} (F : Fun K x qual st f fd) (G : FnOk P w K mg base CX0 k f fd ps sp) (g : mg x = some (.ref f)) (h0 : 0 < ps.length)
    (h : ∀ (kV doc pm : Value) (an : Option Addr) (cdv ct : Value) (ws : List Value), ws.length = ks.length → bindArgs (PySem.W.fnOf x qual (defArgs st) (defBody st) (defScope st) .none kV doc pm an cdv ct) ⟨[], ks.zip ws⟩ = pure (ps.zip (gPV ks.length perm [] ws))) : CalK P w K mg base k x sp ks perm := by
  have ⟨_, _, kV, doc, pm, an, cdv, ct, _, hfd, _, _⟩ := F.ex
  subst hfd
  refine ⟨f, _, ps, G, g, F.kp, ⟨fun s us ws _ hl => ?_, gPV_rel⟩⟩
  by_cases c : us.length = 0 ∧ ws.length = ks.length
  · have hu : us = [] := List.length_eq_zero_iff.mp c.1
    subst hu
    exact .of_eq (h kV doc pm an cdv ct ws c.2)
  · unfold gPV at hl
    rw [if_neg c] at hl
    exact absurd hl (by simp; omega)
section
variable {X : Cx} {k j : Nat} {x : Str} {sp : Sp} {ks : List Str} {perm : List Nat} {p pos : Pos} {kws : List Keyword} {tk : TA}
/-- a call by its name, all its values by keyword -/
theorem pe_cK (c : CalK X.prog X.w X.K X.mg X.base k x sp ks perm) (hr : Room j X.A) (hk : k ≤ j) (hg : Gl X x) (hkw : PK X kws tk)
    (named : (backToKw pos (keywordEach kws X.env)).all (·.1.isSome) = true := by rfl)
    (names : (backToKw pos (keywordEach kws X.env)).filterMap (·.1) = ks := by rfl)
    (nodb : (x == ("__debug__" : Str)) = false := by decide)
    (noStar : ((backTo pos (starEach [] X.env)).any (·.1)
      || (backToKw pos (keywordEach kws X.env)).any (·.1.isNone)) = false := by rfl) :
    PE X (.Call (.Name x p) [] kws pos) (tCallK sp (gPV ks.length perm) E0 tNil tk) := by
  have ⟨f, fd, ps, ok, hmg, hkeep, hbinds⟩ := c.ex
  constructor
  intro pins s σ H Q hI hQ
  apply wpAny_Call_Name_kw (ld_glob hI hg hmg ?_ nodb)
  apply PySem.W.callWith_KW0 (h₀ := X.base) hI.ok.mod.kin hkeep named ?_ noStar
  apply thn (hkw.run pos pins s σ H _ hI hQ)
  rintro ws s2 ⟨zs, H2, hI2, hz, hQ2⟩
  constructor
  · exact hI2.kIn
  · rw [names]
    exact run_fnk ok (hr.mono hk) hbinds pass0 hI2 .nil hz hQ2
end
/-- a def that keeps its promise, made callable -/
theorem cal_mk {P : Program} {w : World} {K : PySem.W.Frag} {mg : Str → Option Value} {base : Heap} {k : Nat} {x qual : Str} {st : Stmt} {f : Addr} {fd : FuncData} {ps : List Str} {sp : Sp} (F : Fun K x qual st f fd) (G : FnOk P w K mg base CX0 k f fd ps sp) (g : mg x = some (.ref f))
    (h : ∀ (kV doc pm : Value) (an : Option Addr) (cdv ct : Value) (us : List Value), us.length = ps.length → bindArgs (PySem.W.fnOf x qual (defArgs st) (defBody st) (defScope st) .none kV doc pm an cdv ct) ⟨us, []⟩ = pure (ps.zip us)) : C8.Cal P w K mg base k x sp [] :=
  ⟨f, fd, ps, [], G, g, F.kp, F.binds h, .nil⟩
theorem fnOk_never {P : Program} {w : World} {K : PySem.W.Frag} {mg : Str → Option Value} {base : Heap} {k : Nat} {f : Addr} {fd : FuncData} {ps : List Str} {sp : Sp} (h : ∀ vs H Q E, sp vs H Q E → False) : FnOk P w K mg base CX0 k f fd ps sp :=
  ⟨fun vs H Q E z => (h vs H Q E z).elim, fun _ _ _ _ _ _ _ _ _ _ _ _ _ z => (h _ _ _ _ z).elim⟩

/-! Names: short texts of letters that are no words. -/

local macro_rules | `(tactic| walk_at "kt") => `(tactic| first
  | exact kt_NoneType_bool
  | exact kt_NoneType_int
  | exact kt_NoneType_str
  | exact kt_NoneType_list
  | exact kt_NoneType_tuple
  | exact kt_bool_bool
  | exact kt_bool_int
  | exact kt_bool_str
  | exact kt_bool_list
  | exact kt_bool_tuple
  | exact kt_int_bool
  | exact kt_int_int
  | exact kt_int_str
  | exact kt_int_list
  | exact kt_int_tuple
  | exact kt_str_bool
  | exact kt_str_int
  | exact kt_str_str
  | exact kt_str_list
  | exact kt_str_tuple
  | exact kt_list_bool
  | exact kt_list_int
  | exact kt_list_str
  | exact kt_list_list
  | exact kt_list_tuple
  | exact kt_tuple_bool
  | exact kt_tuple_int
  | exact kt_tuple_str
  | exact kt_tuple_list
  | exact kt_tuple_tuple)
local macro_rules | `(tactic| walk_at "dp") => `(tactic| first
  | exact Dp.non | exact Dp.bl _ | exact Dp.int _ | exact Dp.str _ | assumption | exact Dp.ex (Stt.ex (by assumption)) _ _ (by assumption))
local macro_rules | `(tactic| walk_at "isi") => `(tactic| ((with_reducible refine' rd_isi ?h ?k ?_); (case h => walk_at "dp"); (case k => walk_at "kt")))
local macro_rules | `(tactic| walk_at "gk") => `(tactic| repeat (first | walk_at "go1" | walk_at "isi" | walk_at "dec"))
local macro_rules | `(tactic| walk_at "dc") => `(tactic| first
  | ((with_reducible refine rd_dec (fun e => ?aa) (fun e => ?bb)); (case aa => first | (exfalso; revert e; decide) | (exfalso; cases e; done) | exact absurd rfl e))
  | ((with_reducible refine rd_dec (fun e => ?aa) (fun e => ?bb)); (case bb => first | (exfalso; revert e; decide) | (exfalso; cases e; done) | exact absurd rfl e))
  | ((with_reducible refine rd_decN (fun e => ?aa) (fun e => ?bb)); (case aa => first | (exfalso; revert e; decide) | (exfalso; cases e; done) | exact absurd rfl e))
  | ((with_reducible refine rd_decN (fun e => ?aa) (fun e => ?bb)); (case bb => first | (exfalso; revert e; decide) | (exfalso; cases e; done) | exact absurd rfl e)))
local macro_rules | `(tactic| walk_at "gc") => `(tactic| (repeat (first | walk_at "go1" | walk_at "isi" | walk_at "dc")); (try dsimp only))

def letters : Str := "abcdefghijklmnopqrstuvwxyz"
def v_LETTERS : V := .str "abcdefghijklmnopqrstuvwxyz"
def v_MOST_LETTERS : V := .int 8
def c_WORDS : List Str := ["all", "and", "any", "for", "if", "lacks", "none", "not", "or", "where", "with"]
def v_WORDS (K : PySem.W.Frag) : V := match PySem.W.nsIn K mainGlobals "WORDS" with
  | some (some (.ref a)) => .ref a
  | _ => .non
/-- the words stand on the heap -/
class Consts (K : PySem.W.Frag) : Prop where
  words : ∃ a, v_WORDS K = .ref a ∧ ∀ H, SqT K H a (c_WORDS.map V.str)
def nameS (z : Str) : Bool := decide ((1 : Int) ≤ z.length) && (decide ((z.length : Int) ≤ 8) && (!inV (.str z) (c_WORDS.map V.str) && z.cps.toList.all fun c => decide (c ∈ letters.cps.toList)))
def isName : PyData → Bool
  | .str z => nameS z
  | _ => false
/-- a text is not too long -/
def shortS : PyData → Prop
  | .str z => z.length < 100000
  | _ => True
def sp_is_name (K : PySem.W.Frag) : Sp := fun vs H Q _ => ∃ (x : V) (d : PyData) (G : Hp) (L : List (Addr × HO)), vs = [x] ∧ Stt G H L ∧ Dp K G x d ∧ shortS d ∧ (∀ H', Stt G H' L → Q (.bl (isName d)) H')
def t_is_name_1 (K : PySem.W.Frag) : TS :=
  (tRet (tCB (rAll K) (tCons (tLc (iStr (tVar 0)) (gName 1) tYes (tOp (gIn K) (tVar 1) (tC v_LETTERS)) [1]) tNil)))
def t_is_name (K : PySem.W.Frag) : TS :=
  (tSeq (tIfS (tOr (tNot (tB (tCB (gIsi K) (tCons (tVar 0) (tCons (tC (.ty "str")) tNil))))) (tOr (tNot (tTest (tChain (rI0 fun i j => .bl (decide (i ≤ j))) (rI0 fun i j => .bl (decide (i ≤ j))) (tC (.int 1)) (tCB (gLen K) (tCons (tVar 0) tNil)) (tC v_MOST_LETTERS)))) (tTest (tOp (gIn K) (tVar 0) (tC (v_WORDS K)))))) (tRet (tC (.bl false))) tNext)
  (t_is_name_1 K))
theorem rd_chain {r r' : R2} {ta tb tc : TE} {σ : L2.St} {H : Hp} {Q : VK} (q : ta σ H fun x H1 => tb σ H1 fun y H2 => r x y H2 fun z H3 => ∃ k, z = .bl k ∧ (if k = true then tc σ H3 fun w H4 => r' y w H4 Q else Q (.bl false) H3)) : tChain r r' ta tb tc σ H Q := q
theorem rd_inT {K : PySem.W.Frag} {x : V} {a : Addr} {xs : List V} {H : Hp} {Q : VK} (h : SqT K H a xs) (f : flatV x = true) (fs : xs.all flatV = true) (q : Q (.bl (inV x xs)) H) : gIn K x (.ref a) H Q := .inr ⟨a, xs, rfl, .inr h, f, fs, q⟩
theorem rd_inS {K : PySem.W.Frag} {c : Nat} {z : Str} {H : Hp} {Q : VK} (q : Q (.bl (decide (c ∈ z.cps.toList))) H) : gIn K (.str ⟨#[c]⟩) (.str z) H Q := .inl ⟨c, z, rfl, rfl, q⟩
theorem read_is_name {K : PySem.W.Frag} [CK : Consts K] {x : V} {d : PyData} {G H : Hp} {L : List (Addr × HO)} {D : Ends} {a1 : Option V} (S : Stt G H L) (hx : Dp K G x d) (hz : shortS d) (q : ∀ H', Stt G H' L → D.rt (.bl (isName d)) H') : t_is_name K D [some x, a1] H := by
  unfold t_is_name
  cases d with
  | dict _ => cases hx
  | str z =>
    cases hx
    have hz' : z.length < 100000 := hz
    have hz2 : z.length ≤ sizeLine := sz_of (by omega)
    obtain ⟨W, hW, hWs⟩ := CK.words
    rw [hW]
    walk_at "gc"
    refine rd_chain ?_
    walk_at "gc"
    refine rd_lenS hz2 ?_
    walk_at "gc"
    have hq : ∀ H', Stt G H' L → D.rt (.bl (nameS z)) H' := q
    unfold nameS at hq
    refine rd_dec (fun e1 => ?_) (fun e1 => ?_)
    · rw [decide_eq_true e1] at hq
      unfold v_MOST_LETTERS
      walk_at "gc"
      refine rd_decN (fun e2 => ?_) (fun e2 => ?_)
      · rw [decide_eq_true e2] at hq
        walk_at "gc"
        refine rd_inT (hWs _) rfl rfl ?_
        walk_at "gc"
        cases hin : inV (.str z) (c_WORDS.map V.str) with
        | true =>
          rw [hin] at hq
          walk_at "gc"
          exact hq H S
        | false =>
          rw [hin] at hq
          walk_at "gc"
          unfold t_is_name_1 v_LETTERS
          walk_at "gc"
          refine rd_lc (rd_is ?_)
          walk_at "gc"
          refine ⟨z, rfl, ?_⟩
          refine lc_go stt_world (walk_str (z := z)) S (show z.cps.size < 1000000 from by have : z.cps.size = z.length := rfl; omega) (fun i v _ => ∃ c, z.cps[i]? = some c ∧ v = .str ⟨#[c]⟩) (fun i acc _ => acc = ((z.cps.toList.take i).map fun c => decide (c ∈ letters.cps.toList)).map V.bl)
            (fun _ _ => True.intro) (fun i x G1 H1 H2 L1 _ e1 S1 y => by
              obtain ⟨rfl, h⟩ := y
              exact ⟨G1, Ex.refl _, S1, h⟩) rfl (fun _ _ _ _ _ h => h) ?_ ?_
          · intro D1 i x acc G1 H1 hi _ e1 S1 I1 it Kp Sk kp sk
            obtain ⟨c, hc, rfl⟩ := it
            refine rd_name ⟨rfl, rd_yes (rd_iT ?_)⟩
            walk_at "gc"
            refine rd_inS ?_
            refine kp _ G1 H1 (Ex.refl _) S1 ?_
            rw [I1, List.take_add_one, show z.cps.toList[i]? = some c by rw [← hc]; simp, List.map_append, List.map_append]
            rfl
          · intro D1 acc G2 H2 e2 S2 I2 _
            rw [show z.cps.size = z.cps.toList.length from (Array.length_toList ..).symm, List.take_length] at I2
            subst I2
            walk_at "gc"
            refine rd_all (sq_of (S2.at 0 rfl)) ?_
            rw [List.all_map]
            exact hq H2 (S2.drop.less e2)
      · rw [decide_eq_false e2] at hq
        walk_at "gc"
        exact hq H S
    · rw [decide_eq_false e1] at hq
      walk_at "gc"
      exact hq H S
  | _ =>
    have hx' := Dp.ex S.ex _ _ hx
    walk_at "gc"
    exact q H S
theorem sat_is_name {K : PySem.W.Frag} [CK : Consts K] {vs : List V} {H : Hp} {Q : VK} {E : XK} (h : sp_is_name K vs H Q E) : vs.length = 1 ∧ t_is_name K { nx := fun _ H' => Q .non H', rt := Q } (vs.map some ++ List.replicate (2 - vs.length) none) H := by
  obtain ⟨x, d, G, L, rfl, S, hx, hz, q⟩ := h
  exact ⟨rfl, read_is_name S hx hz q⟩

/-! Texts of letters. -/
abbrev cps (z : Str) : List Nat := z.cps.toList
def alls (z : Str) : Prop := ∀ c, c ∈ cps z → c ∈ cps letters
theorem cps_add (a b : Str) : cps (a ++ b) = cps a ++ cps b := TL.tl_append a b
theorem len_add (a b : Str) : (a ++ b).length = a.length + b.length := by
  have h := congrArg List.length (cps_add a b)
  rw [List.length_append] at h
  simpa [cps, Str.length] using h
theorem alls_add {a b : Str} (ha : alls a) (hb : alls b) : alls (a ++ b) := fun c hc => by
  rw [cps_add] at hc
  exact (List.mem_append.mp hc).elim (ha c) (hb c)
theorem alls_one {c : Nat} (h : c ∈ cps letters) : alls ⟨#[c]⟩ := fun d hd => by
  rw [List.mem_singleton.mp (show d ∈ [c] from hd)]
  exact h
theorem alls_cut {a : Str} (ha : alls a) (lo hi : Option Int) : alls (cutS a lo hi) := fun c hc => by
  unfold cutS at hc
  exact ha c (List.mem_of_mem_drop (List.mem_of_mem_take (by simpa [cps] using hc)))
def dueS (z : Str) : Bool := decide ((1 : Int) ≤ z.length) && (decide ((z.length : Int) ≤ 8) && !inV (.str z) (c_WORDS.map V.str))
theorem name_due {z : Str} (h : alls z) : nameS z = dueS z := by
  unfold nameS dueS
  rw [show (z.cps.toList.all fun c => decide (c ∈ letters.cps.toList)) = true from List.all_eq_true.mpr fun c hc => decide_eq_true (h c hc), Bool.and_true]
theorem name_bad {z : Str} {c : Nat} (h : c ∈ cps z) (n : c ∉ cps letters) : nameS z = false := by
  unfold nameS
  rw [show (z.cps.toList.all fun c => decide (c ∈ letters.cps.toList)) = false from List.all_eq_false.mpr ⟨c, h, by rw [decide_eq_false n]; decide⟩]
  simp
theorem alls_words : ∀ w, w ∈ c_WORDS → alls w := by
  have h : ∀ w ∈ c_WORDS, ∀ c ∈ cps w, c ∈ cps letters := by decide +kernel
  exact h
theorem len_words : ∀ w, w ∈ c_WORDS → w.length < 10 ∧ 0 < w.length := by decide +kernel
theorem name_words : ∀ w, w ∈ c_WORDS → nameS w = false := by decide +kernel

/-! x.rpartition(y), y of one sign. -/
theorem at_sign {w : List Nat} {c i : Nat} : StrLaws.At (SX.S w) (SX.S [c]) (SX.S w).length i ↔ w[i]? = some c := by
  rw [TL.at_iff (show [c] ≠ [] from List.cons_ne_nil _ _)]
  show TL.pre [c] (w.drop i) = true ↔ _
  unfold TL.pre
  rw [← List.head?_drop]
  cases w.drop i with
  | nil => exact ⟨fun h => by simp at h, fun h => by simp at h⟩
  | cons d r =>
    show (([d] : List Nat) == [c]) = true ↔ some d = some c
    rw [beq_iff_eq]
    exact ⟨fun h => by rw [(List.cons.inj h).1], fun h => by rw [Option.some.inj h]⟩
/-- cut at the last c, or not at all -/
theorem rpart_S (w : List Nat) (c : Nat) : (c ∉ w ∧ Txt.rpartition (SX.S w) (SX.S [c]) = (Str.empty, Str.empty, SX.S w)) ∨ ∃ p q, w = p ++ c :: q ∧ c ∉ q ∧ Txt.rpartition (SX.S w) (SX.S [c]) = (SX.S p, SX.S [c], SX.S q) := by
  unfold Txt.rpartition
  rcases StrLaws.last_spec (SX.S w) (SX.S [c]) with ⟨e, no⟩ | ⟨i, e, hi, no⟩
  · refine .inl ⟨fun hc => ?_, ?_⟩
    · obtain ⟨i, hi⟩ := List.getElem?_of_mem hc
      exact no i (at_sign.mpr hi)
    · rw [e]
  · have h := at_sign.mp hi
    have hl := (List.getElem?_eq_some_iff.mp h).1
    refine .inr ⟨w.take i, w.drop (i + 1), ?_, fun hc => ?_, ?_⟩
    · have := (List.getElem?_eq_some_iff.mp h).2
      have e2 : w.drop i = c :: w.drop (i + 1) := by rw [← this]; exact List.drop_eq_getElem_cons hl
      rw [← e2, List.take_append_drop]
    · obtain ⟨j, hj⟩ := List.getElem?_of_mem hc
      rw [List.getElem?_drop] at hj
      exact no (i + 1 + j) (by omega) (at_sign.mpr hj)
    · rw [e]
      have a : Builtin.Str.strSub (SX.S w) 0 i = SX.S (w.take i) := TL.ext_tl (by
        rw [TL.tl_strSub]
        show ((SX.S w).cps.toList.drop 0).take (i - 0) = w.take i
        rfl)
      have b : Builtin.Str.strSub (SX.S w) (i + (SX.S [c]).length) (SX.S w).length = SX.S (w.drop (i + 1)) := TL.ext_tl (by rw [TL.tl_strSub_end]; rfl)
      show (Builtin.Str.strSub (SX.S w) 0 i, SX.S [c], Builtin.Str.strSub (SX.S w) (i + (SX.S [c]).length) (SX.S w).length) = _
      rw [a, b]
/-- x.rpartition(y) -/
def rRpart : V → List V → Hp → VK → Prop := fun x xs H Q => ∃ a b, x = .str a ∧ xs = [.str b] ∧ (b.length == 0) = false ∧ a.length ≤ sizeLine ∧ ∀ p, H p = none → Q (.ref p) (upd H p (.tup [.str (Txt.rpartition a b).1, .str (Txt.rpartition a b).2.1, .str (Txt.rpartition a b).2.2]))
theorem mt_rpartition {X : Cx} : MtR X "str.rpartition" rRpart := by
  intro pins s σ H x xs v us Q I rx rs ⟨a, b, ea, eb, hb, hz, h⟩
  subst ea
  subst eb
  obtain ⟨t, rfl⟩ := rx
  obtain ⟨w, rfl, u, rfl⟩ := vals1 rs
  refine call_meets F.slot_str_rpartition (typeIs_str _ _ _) F.entry_str_rpartition (F.args_str_rpartition_2 _ _) (meets_str_rpartition a b t u hb hz) ?_
  unfold Txt.rpartition at h
  revert h
  cases Builtin.Str.lastOccurrence a b 0 a.length <;> exact fun h => laid_parts I h

/-! enumerate of a tuple; zip of a list and a tuple. -/
section
variable {s : Shared} {P : Program} {w : World} {A : Around} {E : Value → Shared → Prop}
/-- one more pair of a place and an item -/
theorem enumT_step {e it l : Addr} {i : Nat} {vs : Array Value} {x old : Value} {Q : Value → Shared → Prop} (en : IsEnum s.heap e it i old) (ti : s.heap.IsTupleIter it l i) (tu : s.heap.IsTuple l vs) (vx : vs[i]? = some x) (ne : e ≠ it)
    (q : ∀ h2, IsEnumOut h2 e it ((i : Int) + 1) x s.heap.objs.size → h2.IsTupleIter it l (i + 1) → h2.get? s.heap.objs.size = some { cls := .type "tuple", data := .seq #[.int i s.toks, x] } → h2.objs.size = s.heap.objs.size + 1 →
      (∀ b o, b ≠ e → b ≠ it → s.heap.get? b = some o → h2.get? b = some o) → Q (.ref s.heap.objs.size) { s with heap := h2, toks := s.toks + 1 }) :
    wpAny (model P w) A (Builtin.«enumerate.__next__» ⟨[.ref e], []⟩) (fun fin s2 => ∃ v, fin = .done (.ret v) ∧ Q v s2) E s := by
  obtain ⟨hp, ge, dr, tk, os⟩ := s
  have low : e < hp.objs.size := Heap.lt_size en
  show wpAny _ _ (field (.ref e) 2 >>= _) _ _ (⟨hp, ge, dr, tk, os⟩ : Shared)
  refine wpAny_bind (wpAny_field en rfl (x := .ref it) rfl ?_)
  refine wpAny_bind (nextOf_tuple_item ti tu vx fun a1 i1 k1 => ?_)
  replace k1 : Heap.SameBut it hp a1 := k1
  have e1 : IsEnum a1 e it i old := (k1.2 e ne).trans en
  show wpAny _ _ (field (.ref e) 3 >>= _) _ _ (⟨a1, ge, dr, tk, os⟩ : Shared)
  refine wpAny_bind (wpAny_field e1 rfl (x := rawInt i) rfl ?_)
  show wpAny _ _ (field (.ref e) 4 >>= _) _ _ (⟨a1, ge, dr, tk, os⟩ : Shared)
  refine wpAny_bind (wpAny_field e1 rfl (x := .none) rfl ?_)
  show wpAny _ _ (mkInt i >>= _) _ _ (⟨a1, ge, dr, tk, os⟩ : Shared)
  refine wpAny_bind (wpAny_mkInt ?_); show wpAny _ _ (setField (.ref e) 3 (rawInt ((i : Int) + 1)) >>= _) _ _ (⟨a1, ge, dr, tk + 1, os⟩ : Shared)
  refine wpAny_bind (wpAny_setField_rec e1 (by simp) fun a2 e2 k2 => ?_)
  replace k2 : Heap.SameBut e a1 a2 := k2
  replace e2 : IsEnum a2 e it ((i : Int) + 1) old := e2
  show wpAny _ _ (setField (.ref e) 4 .none >>= _) _ _ (⟨a2, ge, dr, tk + 1, os⟩ : Shared)
  refine wpAny_bind (wpAny_setField_rec e2 (by simp) fun a3 e3 k3 => ?_)
  replace k3 : Heap.SameBut e a2 a3 := k3
  replace e3 : IsEnum a3 e it ((i : Int) + 1) old := e3
  show wpAny _ _ (newTuple [.int i tk, x] >>= _) _ _ (⟨a3, ge, dr, tk + 1, os⟩ : Shared)
  refine wpAny_bind (wpAny_newTuple ?_); have z3 : a3.objs.size = hp.objs.size := k3.1.trans (k2.1.trans k1.1)
  have e4 : IsEnum (a3.push { cls := .type "tuple", data := .seq #[.int i tk, x] }) e it ((i : Int) + 1) old := Heap.get?_push_of_some _ e3
  have t4 := Heap.get?_push_size a3 (o := { cls := .type "tuple", data := .seq #[.int i tk, x] }) rfl
  have i3 : a3.IsTupleIter it l (i + 1) := (i1.extBut k2.extBut (Ne.symm ne)).extBut k3.extBut (Ne.symm ne)
  have i4 : (a3.push { cls := .type "tuple", data := .seq #[.int i tk, x] }).IsTupleIter it l (i + 1) := have ⟨o, ho, r⟩ := i3; ⟨o, Heap.get?_push_of_some _ ho, r⟩
  have z4 : (a3.push { cls := .type "tuple", data := .seq #[.int i tk, x] }).objs.size = hp.objs.size + 1 := by rw [Heap.size_push, z3]
  have s4 : ∀ b o, b ≠ e → b ≠ it → hp.get? b = some o → (a3.push { cls := .type "tuple", data := .seq #[.int i tk, x] }).get? b = some o := fun b o b1 b2 z =>
    Heap.get?_push_of_some _ (k3.extBut b o b1 (k2.extBut b o b1 (k1.extBut b o b2 z)))
  rw [z3] at t4
  rw [z3]
  generalize a3.push { cls := .type "tuple", data := .seq #[.int i tk, x] } = a4 at e4 t4 i4 z4 s4
  show wpAny _ _ (Builtin.SmallTypes.ownedTupleIsFree (.ref e) >>= _) _ _ (⟨a4, ge, dr, tk + 1, os⟩ : Shared)
  unfold Builtin.SmallTypes.ownedTupleIsFree; refine wpAny_bind (wpAny_bind (wpAny_field e4 rfl (x := .none) rfl (wpAny_pure ?_)))
  simp only [if_true]
  refine wpAny_bind (wpAny_rule ?_); refine wpAny_bind (wpAny_field e4 rfl (x := old) rfl ?_)
  refine wpAny_bind (wpAny_setField_rec e4 (by simp) fun a5 e5 k5 => ?_)
  replace k5 : Heap.SameBut e a4 a5 := k5
  replace e5 : IsEnum a5 e it ((i : Int) + 1) x := e5
  show wpAny _ _ (Builtin.SmallTypes.ownedTupleHandOut (.ref e) (.ref hp.objs.size) >>= _) _ _ (⟨a5, ge, dr, tk + 1, os⟩ : Shared)
  unfold Builtin.SmallTypes.ownedTupleHandOut; refine wpAny_bind (wpAny_bind (wpAny_setField_rec e5 (by simp) fun a6 e6 k6 => ?_))
  replace k6 : Heap.SameBut e a5 a6 := k6
  replace e6 : IsEnumOut a6 e it ((i : Int) + 1) x hp.objs.size := e6
  refine wpAny_setField_rec e6 (by simp) fun a7 e7 k7 => ?_
  replace k7 : Heap.SameBut e a6 a7 := k7
  replace e7 : IsEnumOut a7 e it ((i : Int) + 1) x hp.objs.size := e7
  have up : ∀ b o, b ≠ e → a4.get? b = some o → a7.get? b = some o := fun b o b1 z => k7.extBut b o b1 (k6.extBut b o b1 (k5.extBut b o b1 z))
  refine wpAny_bind (wpAny_letGo (wpAny_pure ⟨_, rfl, q a7 e7 ?_ (up _ _ (Nat.ne_of_gt low) t4) ?_ fun b o b1 b2 z => up b o b1 (s4 b o b1 b2 z)⟩))
  · exact have ⟨o, ho, r⟩ := i4; ⟨o, up it o (Ne.symm ne) ho, r⟩
  · rw [k7.1, k6.1, k5.1, z4]
theorem enumT_item {e it l : Addr} {i : Nat} {vs : Array Value} {x old : Value} {Q : Option Value → Shared → Prop} (en : IsEnum s.heap e it i old) (ti : s.heap.IsTupleIter it l i) (tu : s.heap.IsTuple l vs) (vx : vs[i]? = some x) (ne : e ≠ it)
    (q : ∀ h2, IsEnumOut h2 e it ((i : Int) + 1) x s.heap.objs.size → h2.IsTupleIter it l (i + 1) → h2.get? s.heap.objs.size = some { cls := .type "tuple", data := .seq #[.int i s.toks, x] } → h2.objs.size = s.heap.objs.size + 1 →
      (∀ b o, b ≠ e → b ≠ it → s.heap.get? b = some o → h2.get? b = some o) → Q (some (.ref s.heap.objs.size)) { s with heap := h2, toks := s.toks + 1 }) : wpAny (model P w) A (pyNext (.ref e)) Q E s := by
  have ty : s.TypeIs (.ref e) "enumerate" := ⟨_, en, rfl⟩
  unfold pyNext
  refine wpAny_bind (wpAny_attempt (wpAny_callSpecial?_slot (name := Str.ofString "__next__") ty PySem.F.slot_enumerate_next (wpAny_call_entry PySem.F.slot_enumerate_next ty PySem.F.entry_enumerate_next (enumT_step en ti tu vx ne fun h2 x1 x2 x3 x4 x5 => wpAny_pure (q h2 x1 x2 x3 x4 x5)) (PySem.F.args_enumerate_next_1 _))))
theorem enumT_end {e it l : Addr} {i : Nat} {vs : Array Value} {old : Value} {Q : Option Value → Shared → Prop} (calm : A.handled = none) (en : IsEnum s.heap e it i old) (ti : s.heap.IsTupleIter it l i) (tu : s.heap.IsTuple l vs) (vx : vs[i]? = none)
    (q : ∀ h2, Heap.ExtBut it s.heap h2 → Q none { s with heap := h2 }) : wpAny (model P w) A (pyNext (.ref e)) Q E s := by
  have ty : s.TypeIs (.ref e) "enumerate" := ⟨_, en, rfl⟩
  unfold pyNext
  refine wpAny_bind (wpAny_attempt (wpAny_callSpecial?_slot (name := Str.ofString "__next__") ty PySem.F.slot_enumerate_next (wpAny_call_entry PySem.F.slot_enumerate_next ty PySem.F.entry_enumerate_next ?_ (PySem.F.args_enumerate_next_1 _))))
  show wpAny _ _ (field (.ref e) 2 >>= _) _ _ s
  refine wpAny_bind (wpAny_field en rfl (x := .ref it) rfl ?_)
  refine wpAny_bind (nextOf_tuple_end calm ti tu vx fun h2 y k2 ⟨o, ho, hc⟩ => ?_)
  exact wpAny_bind (wpAny_isInstance (T := "StopIteration") (b := true) ⟨o, ho, hc⟩ isSubtype_stop (wpAny_pure (q _ k2)))
end
/-- enumerate(t) -/
theorem newEnumT (l : Addr) (vs : Array Value) : Meets (Builtin.«enumerate.__new__» ⟨[.type "enumerate", .ref l], []⟩) (fun _ R s => s.heap.IsTuple l vs ∧
    R (.ok (.ret (.ref (s.heap.push { cls := .type "tuple_iterator", data := .fields #[.ref l, .int 0 0] }).objs.size)))
      { s with heap := (s.heap.push { cls := .type "tuple_iterator", data := .fields #[.ref l, .int 0 0] }).push { cls := .type "enumerate", data := .fields #[.none, .bool false, .ref s.heap.objs.size, rawInt 0, .none, .none] } }) :=
  .of_wp fun P w A R s h => by
    obtain ⟨hp, ge, dr, tk, os⟩ := s
    obtain ⟨tu, h⟩ := h
    have sb := sub_enumerate
    have tu : Heap.IsTuple (Shared.heap ⟨hp, ge, dr, tk, os⟩) l vs := tu
    obtain ⟨o, ho, hc, n, hd⟩ := id tu
    have ho' : (Shared.heap ⟨hp, ge, dr, tk, os⟩).get? l = some o := ho
    wp_walk using AutoSeq1.wpAny_loadPart' ho'
    refine wpAny_stack_any fun st => wpAny_pure ?_; split
    · rename_i c _ _ _ _ _
      cases c == Value.type "enumerate" <;> (wp_walk using wpAny_pyIter_tuple tu) <;> exact ⟨_, rfl, h⟩
    · wp_walk using wpAny_pyIter_tuple tu
      exact ⟨_, rfl, h⟩
section
variable {s : Shared} {P : Program} {w : World} {A : Around} {E : Value → Shared → Prop}
theorem call_enumT {l : Addr} {vs : Array Value} {Q : Value → Shared → Prop} (tu : s.heap.IsTuple l vs)
    (q : ∀ h2, IsEnum h2 (s.heap.objs.size + 1) s.heap.objs.size 0 .none → h2.IsTupleIter s.heap.objs.size l 0 → h2.objs.size = s.heap.objs.size + 2 → (∀ b o, s.heap.get? b = some o → h2.get? b = some o) → Q (.ref (s.heap.objs.size + 1)) { s with heap := h2 }) :
    wpAny (model P w) A (call (.type "enumerate") [.ref l]) Q E s := by
  have z : (s.heap.push { cls := .type "tuple_iterator", data := .fields #[.ref l, .int 0 0] }).objs.size = s.heap.objs.size + 1 := Heap.size_push ..
  have en := Heap.get?_push_size (s.heap.push { cls := .type "tuple_iterator", data := .fields #[.ref l, .int 0 0] }) (o := { cls := .type "enumerate", data := .fields #[.none, .bool false, .ref s.heap.objs.size, rawInt 0, .none, .none] }) rfl
  rw [z] at en
  refine callType_new PySem.F.called_enumerate (by decide) (PySem.F.typeCall_enumerate_1 _) (PySem.F.newCall_enumerate_1 _) (fun ob => PySem.F.args_object_init_2 ob _) PySem.F.entry_enumerate_new (newEnumT l vs) ⟨tu, ?_⟩
  show _ ∧ _
  rw [z]
  exact ⟨⟨_, en, rfl⟩, q _ en ⟨_, Heap.get?_push_of_some _ (Heap.get?_push_size _ rfl), rfl, rfl⟩ (by rw [Heap.size_push, z]) fun b o x => Heap.get?_push_of_some _ (Heap.get?_push_of_some _ x)⟩
end
/-! ### the walks -/
/-- the tuple at a, its items with their places -/
def IteT (K : PySem.W.Frag) (a : Addr) : It :=
  ⟨fun i H => ∃ (xs : List V) (x : V), SqT K H a xs ∧ xs[i]? = some x, fun i H v H' => ∃ T x, v = .ref T ∧ H T = none ∧ H' = upd H T (.tup [.int (i : Nat), x]) ∧ ∀ xs, SqT K H a xs → xs[i]? = some x, fun i H => ∃ xs : List V, SqT K H a xs ∧ xs.length ≤ i⟩
theorem turn_enumT {P : Program} {w : World} {K : PySem.W.Frag} {elts : List Expr} {kk : Nat} {tpos : Pos} (a e it : Addr) : Turn P w K (.Tuple elts kk tpos) (IteT K a) [e, it] e (fun i h => (∃ old, IsEnum h e it ((i : Nat) : Int) old) ∧ h.IsTupleIter it a i ∧ e ≠ it) where
  mem := by simp
  obj := fun i h ⟨⟨old, en⟩, ⟨o, ho, hc, hd⟩, _⟩ b hb => by
    rcases (List.mem_cons.mp hb : _ ∨ _) with rfl | hb
    · exact ⟨_, en, fun v z => nomatch z⟩
    · rw [show b = _ from List.mem_singleton.mp hb]
      exact ⟨o, ho, fun v z => by rw [hd] at z; cases z⟩
  keep := fun i h h2 ⟨⟨old, en⟩, ⟨o, ho, r⟩, ne⟩ k => ⟨⟨old, k e (by simp) _ en⟩, ⟨o, k it (by simp) _ ho, r⟩, ne⟩
  item := by
    rintro X rfl rfl rfl calm i pins s σ H E I free ⟨⟨old, en⟩, ti, ne⟩ ⟨xs, x, hq, hx⟩
    obtain ⟨its, rv, p, _⟩ := I.tuple hq
    obtain ⟨u, hu, ru⟩ := rv.get hx; have le : e < s.heap.objs.size := Heap.lt_size en
    have li : it < s.heap.objs.size := have ⟨_, z, _⟩ := ti; Heap.lt_size z
    refine enumT_item en ti p (x := u) (by simpa using hu) ne fun h2 en2 ti2 T2 sz k2 => ⟨_, rfl, wpAny_letOwnedTupleGo_enum (s := { s with heap := h2, toks := s.toks + 1 }) en2 fun h3 en3 sb => ?_⟩
    have T3 : h3.get? s.heap.objs.size = some { cls := .type "tuple", data := .seq #[.int i s.toks, u] } := (sb.2 _ (Nat.ne_of_gt le)).trans T2
    have ok : ObjOk X.prog X.w (upd H s.heap.objs.size (.tup [.int (i : Nat), x])) h3 s.heap.objs.size (.tup [.int (i : Nat), x]) := ⟨by show 2 ≤ sizeLine; decide, [.int i s.toks, u], .cons ⟨_, rfl⟩ (.cons ru .nil), ⟨_, T3, rfl, _, rfl⟩⟩
    have I3 : Inv X pins σ (upd H s.heap.objs.size (.tup [.int (i : Nat), x])) { s with heap := h3, toks := s.toks + 1 } :=
      I.turnedNew (ch := [e, it]) (fun b o hb z => (sb.2 b (fun y => hb (by simp [y]))).trans (k2 b o (fun y => hb (by simp [y])) (fun y => hb (by simp [y])) z)) free (Nat.le_refl _) ok
    refine ⟨.ref s.heap.objs.size, _, I3, rfl, ⟨_, x, rfl, I.hok.fresh (Nat.le_refl _), rfl, fun ys hy => by rw [I.tuple_inj hy hq]; exact hx⟩, ⟨⟨u, ?_⟩, ?_, ne⟩, fun b hb => ?_⟩
    · rw [show ((i + 1 : Nat) : Int) = (i : Int) + 1 by omega]
      exact en3
    · obtain ⟨o, ho, r⟩ := ti2
      exact ⟨o, (sb.2 it (Ne.symm ne)).trans ho, r⟩
    · have lb : b < s.heap.objs.size := by
        rcases (List.mem_cons.mp hb : _ ∨ _) with z | z
        · rw [z]; exact le
        · rw [List.mem_singleton.mp z]; exact li
      rw [upd_ne (Nat.ne_of_lt lb)]
      exact (free b hb).1
  done := by
    rintro X rfl rfl rfl calm i pins s σ H E I free ⟨⟨old, en⟩, ti, ne⟩ ⟨xs, hq, hx⟩
    obtain ⟨its, rv, p, _⟩ := I.tuple hq
    obtain ⟨f0, f1, f2, f3, f4, f5⟩ := free it (by simp)
    have hl := rv.length
    exact enumT_end (I.ok.hd calm) en ti p (by simp; omega) fun h2 eb => ⟨rfl, I.turned (t' := s.toks) (fun b o hb z => eb b o hb z) f0 f1 f3 f4 f5⟩
  self := fun A i s Q E ⟨⟨_, en⟩, _⟩ h => wpAny_pyIter_enum en h
/-- enumerate(e), e a tuple -/
def iEnumT (K : PySem.W.Frag) (ta : TA) : TI := fun σ H R => ta σ H fun vs H1 => ∃ a xs, vs = [.ref a] ∧ SqT K H1 a xs ∧ R (IteT K a) H1
theorem pi_enumT {X : Cx} {e : Expr} {ta : TA} {p pos tpos : Pos} {elts : List Expr} {kk : Nat} (hg : Gl X "enumerate") (hm : X.mg "enumerate" = none) (ha : PA X [e] ta) (hs : starEach [e] X.env = [(false, eval e X.env)] := by rfl) :
    PI X (.Tuple elts kk tpos) (.Call (.Name "enumerate" p) [e] [] pos) (iEnumT X.K ta) := by
  refine ⟨fun pins s σ H R I h => Call_ (ld_blt I hg hm boot_enumerate (PyProof.Rows.callWith_type1 (thn (ha.run pos pins s σ H _ I h) fun us s1 ⟨vs, H1, I1, r1, a, xs, ex, hq, q⟩ => ?_) hs rfl))⟩
  subst ex
  rw [Vals.ref1 r1]
  obtain ⟨its, rv, p1, _⟩ := I1.tuple hq
  refine call_enumT p1 fun h2 en ti sz k2 => wpAny_pyIter_enum en ?_
  have I2 : Inv X pins σ H1 { s1 with heap := h2 } := I1.kept (t' := s1.toks) k2
  refine ⟨s1.heap.objs.size + 1, [s1.heap.objs.size + 1, s1.heap.objs.size], _, _, H1, rfl, I2, turn_enumT a (s1.heap.objs.size + 1) s1.heap.objs.size, ⟨⟨.none, en⟩, ti, Nat.succ_ne_self _⟩, fun b hb => ?_, q⟩
  have le : s1.heap.objs.size ≤ b := by
    rcases (List.mem_cons.mp hb : _ ∨ _) with z | z
    · rw [z]; exact Nat.le_succ _
    · rw [List.mem_singleton.mp z]; exact Nat.le_refl _
  exact I1.fpOk le (I1.hok.fresh le)
theorem walk_enumT {K : PySem.W.Frag} {a : Addr} {xs : List V} : Walk (IteT K a) xs.length (fun H => SqT K H a xs) (YPair (fun i => some (.int (i : Nat))) (fun i => xs[i]?)) where
  goes := fun i _ hi hq => ⟨xs, _, hq, List.getElem?_eq_getElem hi⟩
  stops := fun _ hq => ⟨xs, hq, Nat.le_refl _⟩
  yields := fun i _ _ _ hi hq ⟨T, x, e1, e2, e3, e4⟩ => ⟨T, _, x, e1, e2, e3, rfl, e4 xs hq⟩

/-! zip of a list and a tuple. -/
section
variable {s : Shared} {P : Program} {w : World} {A : Around} {E : Value → Shared → Prop}
/-- what a zip object over the iterators i1 (of the list l1), i2 (of the tuple l2) looks like, k items taken -/
structure ZipM (h : Heap) (z TI TO i1 i2 l1 l2 : Addr) (k : Nat) : Prop where
  ap : ZipApart z TI TO i1 i2 l1 l2
  zip : IsZip h z TI TO .none
  ti : IsPair h TI (.ref i1) (.ref i2)
  to_ : ∃ a b, IsPair h TO a b
  it1 : h.IsListIter i1 l1 k
  it2 : h.IsTupleIter i2 l2 k
theorem zipM_step {z TI TO i1 i2 l1 l2 : Addr} {k : Nat} {xs ys : Array Value} {x y : Value} {Q : Value → Shared → Prop} (Z : ZipM s.heap z TI TO i1 i2 l1 l2 k) (li : s.heap.IsList l1 xs) (tu : s.heap.IsTuple l2 ys) (hx : xs[k]? = some x) (hy : ys[k]? = some y)
    (q : ∀ h2, IsZip h2 z TI TO (rawInt s.heap.objs.size) → IsPair h2 TO x y → h2.IsListIter i1 l1 (k + 1) → h2.IsTupleIter i2 l2 (k + 1) → IsPair h2 s.heap.objs.size x y → h2.objs.size = s.heap.objs.size + 1 →
      (∀ c o, c ≠ z → c ≠ TO → c ≠ i1 → c ≠ i2 → s.heap.get? c = some o → h2.get? c = some o) → Q (.ref s.heap.objs.size) { s with heap := h2 }) :
    wpAny (model P w) A (Builtin.«zip.__next__» ⟨[.ref z], []⟩) (fun fin s2 => ∃ v, fin = .done (.ret v) ∧ Q v s2) E s := by
  obtain ⟨D, iz, iti, ⟨a0, b0, ito⟩, n1, n2⟩ := Z
  obtain ⟨hp, ge, dr, tk, os⟩ := s
  show wpAny _ _ (field (.ref z) 2 >>= _) _ _ (⟨hp, ge, dr, tk, os⟩ : Shared)
  refine wpAny_bind (wpAny_field iz rfl (x := .bool false) rfl ?_)
  show wpAny _ _ (field (.ref z) 3 >>= _) _ _ (⟨hp, ge, dr, tk, os⟩ : Shared)
  refine wpAny_bind (wpAny_field iz rfl (x := .ref TI) rfl ?_)
  refine wpAny_bind (wpAny_seqItems iti rfl ?_)
  show wpAny _ _ (Builtin.SmallTypes.ownedTupleIsFree (.ref z) >>= _) _ _ (⟨hp, ge, dr, tk, os⟩ : Shared)
  unfold Builtin.SmallTypes.ownedTupleIsFree; refine wpAny_bind (wpAny_bind (wpAny_field iz rfl (x := .none) rfl (wpAny_pure ?_)))
  simp only [if_true]
  refine wpAny_bind (wpAny_rule ?_); refine wpAny_bind (wpAny_field iz rfl (x := .ref TO) rfl ?_)
  refine wpAny_bind (wpAny_setField_rec iz (by simp) fun g1 iz1 k1 => ?_)
  replace k1 : Heap.SameBut z hp g1 := k1
  replace iz1 : IsZip g1 z TI TO .ellipsis := iz1
  refine wpAny_bind ?_
  simp only [List.zipIdx_cons, List.zipIdx_nil, List.forIn_cons, List.forIn_nil]; refine wpAny_bind (wpAny_bind (wpAny_onRaise ?_))
  show wpAny _ _ (Builtin.SmallTypes.nextOf (.ref i1) >>= _) _ _ (⟨g1, ge, dr, tk, os⟩ : Shared)
  have e1 := k1.extBut
  refine wpAny_bind (wpAny_nextOf_list_item (Heap.IsListIter.extBut n1 e1 D.i1z) (Heap.IsList.extBut li e1 D.l1z) hx fun g2 m1 k2 => wpAny_pure ?_)
  replace k2 : Heap.SameBut i1 g1 g2 := k2
  have e2 := k2.extBut
  have ito2 : IsPair g2 TO a0 b0 := e2 _ _ D.TOi1 (e1 _ _ D.TOz ito)
  refine wpAny_bind (wpAny_seqItems ito2 rfl ?_)
  refine wpAny_bind (wpAny_updateSeq_pair ito2 fun g3 ito3 k3 => ?_)
  replace k3 : Heap.SameBut TO g2 g3 := k3
  have e3 := k3.extBut
  replace ito3 : IsPair g3 TO x b0 := ito3
  refine wpAny_bind (wpAny_letGo (wpAny_pure ?_)); refine wpAny_bind (wpAny_bind (wpAny_onRaise ?_))
  show wpAny _ _ (Builtin.SmallTypes.nextOf (.ref i2) >>= _) _ _ (⟨g3, ge, dr, tk, os⟩ : Shared)
  have n23 : g3.IsTupleIter i2 l2 k := ((n2.extBut e1 D.i2z).extBut e2 D.i12.symm).extBut e3 D.TOi2.symm
  have tu3 : g3.IsTuple l2 ys := ((Heap.IsTuple.extBut tu e1 D.l2z).extBut e2 D.l2i1).extBut e3 D.l2TO
  refine wpAny_bind (nextOf_tuple_item n23 tu3 hy fun g4 m2 k4 => wpAny_pure ?_)
  replace k4 : Heap.SameBut i2 g3 g4 := k4
  have e4 := k4.extBut
  have ito4 : IsPair g4 TO x b0 := e4 _ _ D.TOi2 ito3
  refine wpAny_bind (wpAny_seqItems ito4 rfl ?_)
  refine wpAny_bind (wpAny_updateSeq_pair ito4 fun g5 ito5 k5 => ?_)
  replace k5 : Heap.SameBut TO g4 g5 := k5
  have e5 := k5.extBut
  replace ito5 : IsPair g5 TO x y := ito5
  refine wpAny_bind (wpAny_letGo (wpAny_pure (wpAny_pure ?_))); refine wpAny_bind (wpAny_seqItems ito5 rfl ?_)
  refine wpAny_bind (wpAny_newTuple ?_); have sz5 : g5.objs.size = hp.objs.size := k5.1.trans (k4.1.trans (k3.1.trans (k2.1.trans k1.1)))
  have iz5 : IsZip g5 z TI TO .ellipsis := e5 _ _ D.TOz.symm (e4 _ _ D.i2z.symm (e3 _ _ D.TOz.symm (e2 _ _ D.i1z.symm iz1)))
  have all5 : ∀ c o, c ≠ z → c ≠ TO → c ≠ i1 → c ≠ i2 → hp.get? c = some o → g5.get? c = some o := fun c o c1 c2 c3 c4 v => e5 _ _ c2 (e4 _ _ c4 (e3 _ _ c2 (e2 _ _ c3 (e1 _ _ c1 v))))
  have m15 : g5.IsListIter i1 l1 (k + 1) := ((Heap.IsListIter.extBut m1 e3 D.TOi1.symm).extBut e4 D.i12).extBut e5 D.TOi1.symm
  have m25 : g5.IsTupleIter i2 l2 (k + 1) := Heap.IsTupleIter.extBut m2 e5 D.TOi2.symm
  have ltz : z < g5.objs.size := Heap.lt_size iz5
  have ltTO : TO < g5.objs.size := Heap.lt_size ito5
  show wpAny _ _ (Builtin.SmallTypes.ownedTupleHandOut (.ref z) (.ref g5.objs.size) >>= _) _ _ _
  unfold Builtin.SmallTypes.ownedTupleHandOut; have iz6 : IsZip (g5.push { cls := .type "tuple", data := .seq #[x, y] }) z TI TO .ellipsis := Heap.get?_push_of_some _ iz5
  refine wpAny_bind (wpAny_bind (wpAny_setField_rec iz6 (by simp) fun g7 iz7 k7 => ?_))
  replace iz7 : IsZip g7 z TI TO (rawInt g5.objs.size) := iz7
  refine wpAny_setField_rec iz7 (by simp) fun g8 iz8 k8 => ?_
  replace iz8 : IsZip g8 z TI TO (rawInt g5.objs.size) := iz8
  have up : ∀ c o, c ≠ z → g5.get? c = some o → g8.get? c = some o := fun c o c1 v => k8.extBut _ _ c1 (k7.extBut _ _ c1 (Heap.get?_push_of_some _ v))
  have T8 : IsPair g8 g5.objs.size x y := k8.extBut _ _ (Nat.ne_of_gt ltz) (k7.extBut _ _ (Nat.ne_of_gt ltz) (Heap.get?_push_size _ rfl))
  have sz8 : g8.objs.size = g5.objs.size + 1 := by rw [k8.1, k7.1, Heap.size_push]
  rw [sz5] at iz8 T8 sz8
  refine wpAny_pure ⟨_, rfl, ?_⟩; show Q (.ref g5.objs.size) _
  rw [sz5]
  exact q g8 iz8 (up _ _ D.TOz ito5) (have ⟨o, ho, r⟩ := m15; ⟨o, up _ _ D.i1z ho, r⟩) (have ⟨o, ho, r⟩ := m25; ⟨o, up _ _ D.i2z ho, r⟩) T8 sz8 fun c o c1 c2 c3 c4 v => up c o c1 (all5 c o c1 c2 c3 c4 v)
theorem zipM_over {z TI TO i1 i2 l1 l2 : Addr} {k : Nat} {xs ys : Array Value} {Q : PySem.Fin → Shared → Prop} (calm : A.handled = none) (Z : ZipM s.heap z TI TO i1 i2 l1 l2 k) (li : s.heap.IsList l1 xs) (tu : s.heap.IsTuple l2 ys) (over : xs[k]? = none ∨ ys[k]? = none)
    (q : ∀ h2 e, (∀ c o, c ≠ z → c ≠ TO → c ≠ i1 → c ≠ i2 → s.heap.get? c = some o → h2.get? c = some o) → (∃ o, h2.get? e = some o ∧ o.cls = .type "StopIteration") → E (.ref e) { s with heap := h2 }) :
    wpAny (model P w) A (Builtin.«zip.__next__» ⟨[.ref z], []⟩) Q E s := by
  obtain ⟨D, iz, iti, ⟨a0, b0, ito⟩, n1, n2⟩ := Z
  obtain ⟨hp, ge, dr, tk, os⟩ := s
  show wpAny _ _ (field (.ref z) 2 >>= _) _ _ (⟨hp, ge, dr, tk, os⟩ : Shared)
  refine wpAny_bind (wpAny_field iz rfl (x := .bool false) rfl ?_)
  show wpAny _ _ (field (.ref z) 3 >>= _) _ _ (⟨hp, ge, dr, tk, os⟩ : Shared)
  refine wpAny_bind (wpAny_field iz rfl (x := .ref TI) rfl ?_)
  refine wpAny_bind (wpAny_seqItems iti rfl ?_)
  show wpAny _ _ (Builtin.SmallTypes.ownedTupleIsFree (.ref z) >>= _) _ _ (⟨hp, ge, dr, tk, os⟩ : Shared)
  unfold Builtin.SmallTypes.ownedTupleIsFree; refine wpAny_bind (wpAny_bind (wpAny_field iz rfl (x := .none) rfl (wpAny_pure ?_)))
  simp only [if_true]
  refine wpAny_bind (wpAny_rule ?_); refine wpAny_bind (wpAny_field iz rfl (x := .ref TO) rfl ?_)
  refine wpAny_bind (wpAny_setField_rec iz (by simp) fun g1 iz1 k1 => ?_)
  replace k1 : Heap.SameBut z hp g1 := k1
  have e1 := k1.extBut
  replace iz1 : IsZip g1 z TI TO .ellipsis := iz1
  refine wpAny_bind ?_
  simp only [List.zipIdx_cons, List.zipIdx_nil, List.forIn_cons, List.forIn_nil]; refine wpAny_bind (wpAny_bind (wpAny_onRaise ?_))
  show wpAny _ _ (Builtin.SmallTypes.nextOf (.ref i1) >>= _) _ _ (⟨g1, ge, dr, tk, os⟩ : Shared)
  have n11 : g1.IsListIter i1 l1 k := Heap.IsListIter.extBut n1 e1 D.i1z
  have li1 : g1.IsList l1 xs := Heap.IsList.extBut li e1 D.l1z
  cases hx : xs[k]? with
  | none =>
    refine wpAny_bind (wpAny_nextOf_list_end calm n11 li1 hx fun g2 e k2 ⟨oe, he, hc⟩ => ?_)
    have iz2 : IsZip g2 z TI TO .ellipsis := k2 _ _ D.i1z.symm iz1
    have ez : e ≠ z := fun v => by
      rw [v, iz2] at he
      cases he
      simp at hc
    exact wpAny_setField_rec iz2 (by simp) fun g3 _ k3 => q g3 e (fun c o c1 _ c3 _ v => k3.extBut _ _ c1 (k2 _ _ c3 (e1 _ _ c1 v))) ⟨oe, k3.extBut _ _ ez he, hc⟩
  | some x =>
    have hy : ys[k]? = none := over.elim (fun v => by rw [hx] at v; cases v) id
    refine wpAny_bind (wpAny_nextOf_list_item n11 li1 hx fun g2 m1 k2 => wpAny_pure ?_)
    replace k2 : Heap.SameBut i1 g1 g2 := k2
    have e2 := k2.extBut
    have ito2 : IsPair g2 TO a0 b0 := e2 _ _ D.TOi1 (e1 _ _ D.TOz ito)
    refine wpAny_bind (wpAny_seqItems ito2 rfl ?_)
    refine wpAny_bind (wpAny_updateSeq_pair ito2 fun g3 ito3 k3 => ?_)
    replace k3 : Heap.SameBut TO g2 g3 := k3
    have e3 := k3.extBut
    refine wpAny_bind (wpAny_letGo (wpAny_pure ?_)); refine wpAny_bind (wpAny_bind (wpAny_onRaise ?_))
    show wpAny _ _ (Builtin.SmallTypes.nextOf (.ref i2) >>= _) _ _ (⟨g3, ge, dr, tk, os⟩ : Shared)
    have n23 : g3.IsTupleIter i2 l2 k := ((n2.extBut e1 D.i2z).extBut e2 D.i12.symm).extBut e3 D.TOi2.symm
    have tu3 : g3.IsTuple l2 ys := ((Heap.IsTuple.extBut tu e1 D.l2z).extBut e2 D.l2i1).extBut e3 D.l2TO
    refine wpAny_bind (nextOf_tuple_end calm n23 tu3 hy fun g4 e k4 ⟨oe, he, hc⟩ => ?_)
    have iz4 : IsZip g4 z TI TO .ellipsis := k4 _ _ D.i2z.symm (e3 _ _ D.TOz.symm (e2 _ _ D.i1z.symm iz1))
    have ez : e ≠ z := fun v => by
      rw [v, iz4] at he
      cases he
      simp at hc
    exact wpAny_setField_rec iz4 (by simp) fun g5 _ k5 => q g5 e (fun c o c1 c2 c3 c4 v => k5.extBut _ _ c1 (k4 _ _ c4 (e3 _ _ c2 (e2 _ _ c3 (e1 _ _ c1 v))))) ⟨oe, k5.extBut _ _ ez he, hc⟩
theorem zipM_item {z TI TO i1 i2 l1 l2 : Addr} {k : Nat} {xs ys : Array Value} {x y : Value} {Q : Option Value → Shared → Prop} (Z : ZipM s.heap z TI TO i1 i2 l1 l2 k) (li : s.heap.IsList l1 xs) (tu : s.heap.IsTuple l2 ys) (hx : xs[k]? = some x) (hy : ys[k]? = some y)
    (q : ∀ h2, IsZip h2 z TI TO (rawInt s.heap.objs.size) → IsPair h2 TO x y → h2.IsListIter i1 l1 (k + 1) → h2.IsTupleIter i2 l2 (k + 1) → IsPair h2 s.heap.objs.size x y → h2.objs.size = s.heap.objs.size + 1 →
      (∀ c o, c ≠ z → c ≠ TO → c ≠ i1 → c ≠ i2 → s.heap.get? c = some o → h2.get? c = some o) → Q (some (.ref s.heap.objs.size)) { s with heap := h2 }) : wpAny (model P w) A (pyNext (.ref z)) Q E s := by
  have ty : s.TypeIs (.ref z) "zip" := ⟨_, Z.zip, rfl⟩
  unfold pyNext
  refine wpAny_bind (wpAny_attempt (wpAny_callSpecial?_slot (name := Str.ofString "__next__") ty PySem.F.slot_zip_next (wpAny_call_entry PySem.F.slot_zip_next ty PySem.F.entry_zip_next ?_ (PySem.F.args_zip_next_1 _))))
  exact zipM_step Z li tu hx hy fun h2 x1 x2 x3 x4 x5 x6 x7 => wpAny_pure (q h2 x1 x2 x3 x4 x5 x6 x7)
theorem zipM_end {z TI TO i1 i2 l1 l2 : Addr} {k : Nat} {xs ys : Array Value} {Q : Option Value → Shared → Prop} (calm : A.handled = none) (Z : ZipM s.heap z TI TO i1 i2 l1 l2 k) (li : s.heap.IsList l1 xs) (tu : s.heap.IsTuple l2 ys) (over : xs[k]? = none ∨ ys[k]? = none)
    (q : ∀ h2, (∀ c o, c ≠ z → c ≠ TO → c ≠ i1 → c ≠ i2 → s.heap.get? c = some o → h2.get? c = some o) → Q none { s with heap := h2 }) : wpAny (model P w) A (pyNext (.ref z)) Q E s := by
  have ty : s.TypeIs (.ref z) "zip" := ⟨_, Z.zip, rfl⟩
  unfold pyNext
  refine wpAny_bind (wpAny_attempt (wpAny_callSpecial?_slot (name := Str.ofString "__next__") ty PySem.F.slot_zip_next (wpAny_call_entry PySem.F.slot_zip_next ty PySem.F.entry_zip_next ?_ (PySem.F.args_zip_next_1 _))))
  refine zipM_over calm Z li tu over fun h2 e k2 ⟨o, ho, hc⟩ => ?_
  exact wpAny_bind (wpAny_isInstance (T := "StopIteration") (b := true) ⟨o, ho, hc⟩ isSubtype_stop (wpAny_pure (q _ k2)))
end
abbrev zm1 (h : Heap) (l1 : Addr) : Heap := h.push { cls := .type "list_iterator", data := .fields #[.ref l1, .int 0 0] }
abbrev zm2 (h : Heap) (l1 l2 : Addr) : Heap := (zm1 h l1).push { cls := .type "tuple_iterator", data := .fields #[.ref l2, .int 0 0] }
abbrev zm3 (h : Heap) (l1 l2 : Addr) : Heap := (zm2 h l1 l2).push { cls := .type "tuple", data := .seq #[.ref h.objs.size, .ref (zm1 h l1).objs.size] }
abbrev zm4 (h : Heap) (l1 l2 : Addr) : Heap := (zm3 h l1 l2).push { cls := .type "tuple", data := .seq #[.none, .none] }
abbrev zm5 (h : Heap) (l1 l2 : Addr) : Heap := (zm4 h l1 l2).push { cls := .type "zip", data := .fields #[.none, .bool false, .bool false, .ref (zm2 h l1 l2).objs.size, .ref (zm3 h l1 l2).objs.size] }
theorem newZipM (l1 l2 : Addr) (xs ys : Array Value) : Meets (Builtin.«zip.__new__» ⟨[.type "zip", .ref l1, .ref l2], []⟩) (fun _ R s => s.heap.IsList l1 xs ∧ s.heap.IsTuple l2 ys ∧
    R (.ok (.ret (.ref (zm4 s.heap l1 l2).objs.size))) { s with heap := zm5 s.heap l1 l2 }) :=
  .of_wp fun P w A R s ⟨li, tu, h⟩ => by
    obtain ⟨hp, ge, dr, tk, os⟩ := s
    have sb := sub_zip
    have L1 : Heap.IsList (Shared.heap ⟨hp, ge, dr, tk, os⟩) l1 xs := li
    have L2 : Heap.IsTuple (Shared.heap ⟨zm1 hp l1, ge, dr, tk, os⟩) l2 ys := Heap.IsTuple.push tu _
    wp_walk using wpAny_pyIter_list L1, wpAny_pyIter_tuple L2
    exact ⟨_, rfl, h⟩
section
variable {s : Shared} {P : Program} {w : World} {A : Around} {E : Value → Shared → Prop}
theorem call_zipM {l1 l2 : Addr} {xs ys : Array Value} {Q : Value → Shared → Prop} (li : s.heap.IsList l1 xs) (tu : s.heap.IsTuple l2 ys) (low1 : l1 < s.heap.objs.size) (low2 : l2 < s.heap.objs.size)
    (q : ∀ h2, ZipM h2 (s.heap.objs.size + 4) (s.heap.objs.size + 2) (s.heap.objs.size + 3) s.heap.objs.size (s.heap.objs.size + 1) l1 l2 0 → (∀ c o, s.heap.get? c = some o → h2.get? c = some o) → Q (.ref (s.heap.objs.size + 4)) { s with heap := h2 }) :
    wpAny (model P w) A (call (.type "zip") [.ref l1, .ref l2]) Q E s := by
  refine callType_new PySem.F.called_zip (by decide) (PySem.F.typeCall_zip_2 _ _) (PySem.F.newCall_zip_2 _ _) (fun ob => PySem.F.args_object_init_3 ob _ _) PySem.F.entry_zip_new (newZipM l1 l2 xs ys) ⟨li, tu, ?_⟩
  have n1 : (zm1 s.heap l1).objs.size = s.heap.objs.size + 1 := Heap.size_push ..
  have n2 : (zm2 s.heap l1 l2).objs.size = s.heap.objs.size + 2 := by rw [Heap.size_push, n1]
  have n3 : (zm3 s.heap l1 l2).objs.size = s.heap.objs.size + 3 := by rw [Heap.size_push, n2]
  have n4 : (zm4 s.heap l1 l2).objs.size = s.heap.objs.size + 4 := by rw [Heap.size_push, n3]
  have stay : ∀ (h : Heap) (o : Obj) c u, h.get? c = some u → (h.push o).get? c = some u := fun h o c u z => Heap.get?_push_of_some _ z
  have p5 : (zm5 s.heap l1 l2).get? (zm4 s.heap l1 l2).objs.size = some _ := Heap.get?_push_size _ rfl
  have p4 : (zm5 s.heap l1 l2).get? (zm3 s.heap l1 l2).objs.size = some _ := stay _ _ _ _ (Heap.get?_push_size _ rfl)
  have p3 : (zm5 s.heap l1 l2).get? (zm2 s.heap l1 l2).objs.size = some _ := stay _ _ _ _ (stay _ _ _ _ (Heap.get?_push_size _ rfl))
  have p2 : (zm5 s.heap l1 l2).get? (zm1 s.heap l1).objs.size = some _ := stay _ _ _ _ (stay _ _ _ _ (stay _ _ _ _ (Heap.get?_push_size _ rfl)))
  have p1 : (zm5 s.heap l1 l2).get? s.heap.objs.size = some _ := stay _ _ _ _ (stay _ _ _ _ (stay _ _ _ _ (stay _ _ _ _ (Heap.get?_push_size _ rfl))))
  rw [n2, n3, n4] at p5
  rw [n1, n2] at p3
  rw [n3] at p4
  rw [n1] at p2
  show _ ∧ _
  rw [n4]
  refine ⟨⟨_, p5, rfl⟩, q _ ⟨PySem.W.ktu_apart s.heap.objs.size l1 l2 low1 low2, p5, p3, ⟨_, _, p4⟩, ⟨_, p1, rfl, rfl⟩, ⟨_, p2, rfl, rfl⟩⟩ fun c o z => ?_⟩
  exact stay _ _ _ _ (stay _ _ _ _ (stay _ _ _ _ (stay _ _ _ _ (stay _ _ _ _ z))))
end
/-- the list at a beside the tuple at b -/
def ItzM (K : PySem.W.Frag) (a b : Addr) : It :=
  ⟨fun i H => ∃ (xs ys : List V) (x y : V), SqL K H a xs ∧ SqT K H b ys ∧ xs[i]? = some x ∧ ys[i]? = some y,
    fun i H v H' => ∃ T x y, v = .ref T ∧ H T = none ∧ H' = upd H T (.tup [x, y]) ∧ (∀ xs, SqL K H a xs → xs[i]? = some x) ∧ ∀ ys, SqT K H b ys → ys[i]? = some y,
    fun i H => ∃ xs ys : List V, SqL K H a xs ∧ SqT K H b ys ∧ (xs.length ≤ i ∨ ys.length ≤ i)⟩
theorem in5 {c a1 a2 a3 a4 a5 : Addr} (h : c ∈ [a1, a2, a3, a4, a5]) : c = a1 ∨ c = a2 ∨ c = a3 ∨ c = a4 ∨ c = a5 := by simpa using h
theorem turn_zipM {P : Program} {w : World} {K : PySem.W.Frag} {elts : List Expr} {kk : Nat} {tpos : Pos} {a b z TI TO i1 i2 : Addr} : Turn P w K (.Tuple elts kk tpos) (ItzM K a b) [z, TI, TO, i1, i2] z (fun i h => ZipM h z TI TO i1 i2 a b i) where
  mem := by simp
  obj := fun i h Z c hc => by
    obtain ⟨x, y, ito⟩ := Z.to_
    obtain ⟨o1, v1, _, d1⟩ := Z.it1
    obtain ⟨o2, v2, _, d2⟩ := Z.it2
    rcases in5 hc with rfl | rfl | rfl | rfl | rfl
    · exact ⟨_, Z.zip, fun v n => nomatch n⟩
    · exact ⟨_, Z.ti, fun v n => nomatch n⟩
    · exact ⟨_, ito, fun v n => nomatch n⟩
    · exact ⟨o1, v1, fun v n => by rw [d1] at n; cases n⟩
    · exact ⟨o2, v2, fun v n => by rw [d2] at n; cases n⟩
  keep := fun i h h2 Z k => ⟨Z.ap, k z (by simp) _ Z.zip, k TI (by simp) _ Z.ti, have ⟨x, y, v⟩ := Z.to_; ⟨x, y, k TO (by simp) _ v⟩, have ⟨o, ho, r⟩ := Z.it1; ⟨o, k i1 (by simp) _ ho, r⟩, have ⟨o, ho, r⟩ := Z.it2; ⟨o, k i2 (by simp) _ ho, r⟩⟩
  item := by
    rintro X rfl rfl rfl calm i pins s σ H E I free Z ⟨xs, ys, x, y, qx, qy, hx, hy⟩
    obtain ⟨its, rv, p, _⟩ := I.list qx
    obtain ⟨its2, rv2, p2, _⟩ := I.tuple qy
    obtain ⟨u, hu, ru⟩ := rv.get hx; obtain ⟨u2, hu2, ru2⟩ := rv2.get hy
    have D := Z.ap
    have lz : z < s.heap.objs.size := Heap.lt_size Z.zip
    refine zipM_item Z p.isList p2 (x := u) (y := u2) (by simpa using hu) (by simpa using hu2) fun h2 z2 TO2 n1 n2 T2 sz k2 => ⟨_, rfl, wpAny_letOwnedTupleGo_zip (s := { s with heap := h2 }) z2 fun h3 z3 sb => ?_⟩
    have T3 : h3.get? s.heap.objs.size = some { cls := .type "tuple", data := .seq #[u, u2] } := (sb.2 _ (Nat.ne_of_gt lz)).trans T2
    have ok : ObjOk X.prog X.w (upd H s.heap.objs.size (.tup [x, y])) h3 s.heap.objs.size (.tup [x, y]) := ⟨by show 2 ≤ sizeLine; decide, [u, u2], .cons ru (.cons ru2 .nil), ⟨_, T3, rfl, _, rfl⟩⟩
    have I3 : Inv X pins σ (upd H s.heap.objs.size (.tup [x, y])) { s with heap := h3 } :=
      I.turnedNew (t' := s.toks) (ch := [z, TI, TO, i1, i2]) (fun c o hb v => (sb.2 c (fun n => hb (by simp [n]))).trans (k2 c o (fun n => hb (by simp [n])) (fun n => hb (by simp [n])) (fun n => hb (by simp [n])) (fun n => hb (by simp [n])) v)) free (Nat.le_refl _) ok
    refine ⟨.ref s.heap.objs.size, _, I3, rfl, ⟨_, x, y, rfl, I.hok.fresh (Nat.le_refl _), rfl, fun l hl => by rw [I.list_inj hl qx]; exact hx, fun l hl => by rw [I.tuple_inj hl qy]; exact hy⟩, ⟨D, z3, ?_, ⟨u, u2, (sb.2 _ D.TOz).trans TO2⟩, ?_, ?_⟩, fun c hc => ?_⟩
    · exact (sb.2 _ D.TIz).trans (k2 _ _ D.TIz D.TITO D.TIi1 D.TIi2 Z.ti)
    · exact have ⟨o, ho, r⟩ := n1; ⟨o, (sb.2 _ D.i1z).trans ho, r⟩
    · exact have ⟨o, ho, r⟩ := n2; ⟨o, (sb.2 _ D.i2z).trans ho, r⟩
    · have lc : c < s.heap.objs.size := by
        obtain ⟨_, _, v⟩ := Z.to_
        obtain ⟨_, v1, _⟩ := Z.it1
        obtain ⟨_, v2, _⟩ := Z.it2
        rcases in5 hc with rfl | rfl | rfl | rfl | rfl
        · exact lz
        · exact Heap.lt_size Z.ti
        · exact Heap.lt_size v
        · exact Heap.lt_size v1
        · exact Heap.lt_size v2
      rw [upd_ne (Nat.ne_of_lt lc)]
      exact (free c hc).1
  done := by
    rintro X rfl rfl rfl calm i pins s σ H E I free Z ⟨xs, ys, qx, qy, over⟩
    obtain ⟨its, rv, p, _⟩ := I.list qx
    obtain ⟨its2, rv2, p2, _⟩ := I.tuple qy
    have n1 := rv.length
    have n2 := rv2.length
    refine zipM_end (I.ok.hd calm) Z p.isList p2 (over.imp (fun v => by simp; omega) (fun v => by simp; omega)) fun h2 k2 => ⟨rfl, I.turnedL (t' := s.toks) (ch := [z, TI, TO, i1, i2]) (fun c o hb v => ?_) free⟩
    exact k2 c o (fun n => hb (by simp [n])) (fun n => hb (by simp [n])) (fun n => hb (by simp [n])) (fun n => hb (by simp [n])) v
  self := fun A i s Q E Z h => wpAny_pyIter_zip Z.zip h
/-- zip(e, e2), a list and a tuple -/
def iZipM (K : PySem.W.Frag) (ta : TA) : TI := fun σ H R => ta σ H fun vs H1 => ∃ a b xs ys, vs = [.ref a, .ref b] ∧ SqL K H1 a xs ∧ SqT K H1 b ys ∧ R (ItzM K a b) H1
theorem pi_zipM {X : Cx} {e e2 : Expr} {ta : TA} {p pos tpos : Pos} {elts : List Expr} {kk : Nat} (hg : Gl X "zip") (hm : X.mg "zip" = none) (ha : PA X [e, e2] ta)
    (hs : starEach [e, e2] X.env = (false, eval e X.env) :: starEach [e2] X.env := by rfl) (hp : (backTo pos (starEach [e2] X.env)).any (·.1) = false := by rfl) : PI X (.Tuple elts kk tpos) (.Call (.Name "zip" p) [e, e2] [] pos) (iZipM X.K ta) := by
  refine ⟨fun pins s σ H R I h => Call_ (ld_blt I hg hm PyProof.Rows.boot_zip (PyProof.Rows.callWith_type1 (thn (ha.run pos pins s σ H _ I h) fun us s1 ⟨vs, H1, I1, r1, a, b, xs, ys, ex, qx, qy, q⟩ => ?_) hs hp))⟩
  subst ex
  obtain ⟨u1, u2, rfl, r1, r2⟩ := vals2 r1
  cases (show u1 = Value.ref a from r1); cases (show u2 = Value.ref b from r2)
  obtain ⟨its, rv, p1, _⟩ := I1.list qx
  obtain ⟨its2, rv2, p2, _⟩ := I1.tuple qy
  have low2 : b < s1.heap.objs.size := have ⟨_, v, _⟩ := id p2; Heap.lt_size v
  refine call_zipM p1.isList p2 p1.lt low2 fun h2 Z k2 => wpAny_pyIter_zip Z.zip ?_
  have I2 : Inv X pins σ H1 { s1 with heap := h2 } := I1.kept (t' := s1.toks) k2
  refine ⟨s1.heap.objs.size + 4, [s1.heap.objs.size + 4, s1.heap.objs.size + 2, s1.heap.objs.size + 3, s1.heap.objs.size, s1.heap.objs.size + 1], _, _, H1, rfl, I2, turn_zipM, Z, fun c hc => ?_, q⟩
  have le : s1.heap.objs.size ≤ c := by
    rcases in5 hc with rfl | rfl | rfl | rfl | rfl
    all_goals first | exact Nat.le_refl _ | exact Nat.le_add_right _ _
  exact I1.fpOk le (I1.hok.fresh le)
theorem walk_zipM {K : PySem.W.Frag} {a b : Addr} {xs ys : List V} {n : Nat} (hn : n = min xs.length ys.length) : Walk (ItzM K a b) n (fun H => SqL K H a xs ∧ SqT K H b ys) (YPair (fun i => xs[i]?) (fun i => ys[i]?)) where
  goes := fun i _ hi hq => ⟨xs, ys, _, _, hq.1, hq.2, List.getElem?_eq_getElem (show i < xs.length by omega), List.getElem?_eq_getElem (show i < ys.length by omega)⟩
  stops := fun _ hq => ⟨xs, ys, hq.1, hq.2, by omega⟩
  yields := fun _ _ _ _ _ hq ⟨T, c, d, e1, e2, e3, e4, e5⟩ => ⟨T, c, d, e1, e2, e3, e4 xs hq.1, e5 ys hq.2⟩

/-! len(set(texts)); list(text). -/
/-- each text once -/
def onceS : List Str → List Str → List Str
  | acc, [] => acc
  | acc, x :: xs => onceS (if x ∈ acc then acc else acc ++ [x]) xs
def dcount (xs : List Str) : Nat := (onceS [] xs).length
theorem onceS_snoc (x : Str) : ∀ (xs acc : List Str), onceS acc (xs ++ [x]) = (if x ∈ onceS acc xs then onceS acc xs else onceS acc xs ++ [x])
  | [], _ => rfl
  | y :: ys, acc => onceS_snoc x ys _
theorem mem_onceS (x : Str) : ∀ (xs acc : List Str), x ∈ onceS acc xs ↔ x ∈ acc ∨ x ∈ xs
  | [], acc => by simp [onceS]
  | y :: ys, acc => by
    show x ∈ onceS (if y ∈ acc then acc else acc ++ [y]) ys ↔ _
    rw [mem_onceS x ys]
    by_cases h : y ∈ acc
    · rw [if_pos h, List.mem_cons]
      exact ⟨fun z => z.imp_right .inr, fun z => z.elim .inl fun z => z.elim (fun e => .inl (e ▸ h)) .inr⟩
    · rw [if_neg h, List.mem_append, List.mem_singleton, List.mem_cons, or_assoc]
theorem dcount_snoc (xs : List Str) (x : Str) : dcount (xs ++ [x]) = if x ∈ xs then dcount xs else dcount xs + 1 := by
  unfold dcount
  rw [onceS_snoc]
  have m : x ∈ onceS [] xs ↔ x ∈ xs := (mem_onceS x xs []).trans ⟨fun z => z.elim (fun y => nomatch y) id, .inr⟩
  by_cases h : x ∈ xs
  · rw [if_pos h, if_pos (m.mpr h)]
  · rw [if_neg h, if_neg fun z => h (m.mp z), List.length_append]
    rfl
theorem onceS_le : ∀ xs acc : List Str, (onceS acc xs).length ≤ acc.length + xs.length
  | [], _ => Nat.le_refl _
  | y :: ys, acc => by
    refine Nat.le_trans (onceS_le ys _) ?_
    rw [List.length_cons]
    split
    · omega
    · rw [List.length_append]; rw [List.length_singleton]; omega
theorem dcount_le (xs : List Str) : dcount xs ≤ xs.length := Nat.le_trans (onceS_le xs []) (by simp)
theorem onceS_nodup : ∀ xs acc : List Str, (acc ++ xs).Nodup → onceS acc xs = acc ++ xs
  | [], acc, _ => (List.append_nil acc).symm
  | y :: ys, acc, h => by
    have h2 : y ∉ acc := fun z => (List.nodup_append.mp h).2.2 y z y (List.mem_cons_self ..) rfl
    show onceS (if y ∈ acc then acc else acc ++ [y]) ys = _
    rw [if_neg h2, onceS_nodup ys (acc ++ [y]) (by rw [List.append_assoc]; exact h), List.append_assoc]
    rfl
theorem dcount_nodup {xs : List Str} (h : xs.Nodup) : dcount xs = xs.length := by
  unfold dcount
  rw [onceS_nodup xs [] h]
  rfl
section
variable {P : Program} {w : World} {A : Around} {R : Result → Shared → Prop} {I : Addr} {fp wr : List Addr} {G : Array GenState → Array GenState → Prop} {n : Nat} {Pv : Nat → Value → Prop} {St : Nat → Shared → Prop}
/-- the set at S has the texts xs -/
abbrev HasS (P : Program) (w : World) (h : Heap) (S : Addr) (xs : List Str) : Prop := h.SetOf (PySem.strKind P w) S (fun y => decide (y ∈ xs)) (dcount xs)
theorem HasS.at {h h2 : Heap} {S : Addr} {xs : List Str} (x : HasS P w h S xs) (k : ∀ o, h.get? S = some o → h2.get? S = some o) : HasS P w h2 S xs := have ⟨o, es, ep, t, ho, r⟩ := x; ⟨o, es, ep, t, k o ho, r⟩
theorem fill_strs (W : WalksS P w A.in1 I fp wr G n Pv St) (S : Addr) (out : S ∉ fp) (xs : List Str) (hn : xs.length = n) (few : n + 1 < scanBound) (val : ∀ i v, i < n → Pv i v → ∃ t x, xs[i]? = some x ∧ v = .str x t) :
    ∀ (k i : Nat) (s : Shared), n - i = k → i ≤ n → St i s → HasS P w s.heap S (xs.take i) → (∀ s2, Moved (S :: wr) G s s2 → HasS P w s2.heap S xs → R (.ok (.ret .none)) s2) → codeAny (model P w) A (.builtin "set.update.loop" ⟨[.ref S, .ref I], []⟩) R s := by
  have out2 : S ∉ wr := fun h => out (W.sub _ h)
  have more : ∀ b ∈ wr, b ∈ S :: wr := fun b hb => List.mem_cons_of_mem _ hb
  intro k
  induction k with
  | zero =>
    intro i s hk hi st has q
    obtain rfl : i = n := by omega
    apply codeAny_builtin PyProof.Rows.F.entry_set_update_loop
    rw [Around.under_plainId PyProof.Rows.F.plain_set_update_loop _]; refine wpAny_bind (W.done s _ _ st fun s2 hm => wpAny_pure (q s2 (hm.mono more) ?_))
    rw [← hn, List.take_length] at has
    exact has.at fun o ho => hm.heap S o out2 ho
  | succ k ih =>
    intro i s hk hi st has q
    have lt : i < n := by omega
    apply codeAny_builtin PyProof.Rows.F.entry_set_update_loop
    rw [Around.under_plainId PyProof.Rows.F.plain_set_update_loop _]; refine wpAny_bind (W.item i s _ _ lt st fun v s2 hv st2 hm => ?_)
    obtain ⟨t, x, hx, rfl⟩ := val i v lt hv
    have has2 : HasS P w s2.heap S (xs.take i) := has.at fun o ho => hm.heap S o out2 ho
    show wpAny _ A.in1 (holding [Value.str x t] (setAdd S (.str x t)) >>= _) _ _ s2
    unfold setAdd
    refine wpAny_bind (wpAny_holding (wpAny_holding (wpAny_bind ((PySem.strKind P w).pyHash (k := x) (strKind_is _ _ _ _) ?_))))
    have room : dcount (xs.take i) + 1 < scanBound := by
      have := dcount_le (xs.take i)
      rw [List.length_take] at this
      omega
    refine wpAny_setAddHashed_of (knd := PySem.strKind P w) (s := { s2 with toks := s2.toks + 1 }) (strKind_is _ _ _ _) rfl has2 room fun h3 sb has3 => ?_
    have tk : xs.take (i + 1) = xs.take i ++ [x] := by rw [List.take_add_one, hx]; rfl
    have has4 : HasS P w h3 S (xs.take (i + 1)) := by
      refine SetOf_congr has3 (fun y => ?_) ?_
      · rw [tk, ← Bool.decide_or]
        exact decide_eq_decide.mpr (by rw [List.mem_append, List.mem_singleton])
      · rw [tk, dcount_snoc]
        by_cases h : x ∈ xs.take i
        · rw [if_pos h, if_pos (decide_eq_true h)]
        · rw [if_neg h, if_neg (by simp [h])]
    have ne : ∀ b, b ∈ fp → b ≠ S := fun b hb h => out (h ▸ hb)
    refine wpAny_pure ⟨plainId_quiet PyProof.Rows.F.plain_set_update_loop _, ih (i + 1) _ (by omega) lt (W.frame _ s2 _ _ st2 (Nat.le_succ _) fun b hb o e => ?_) has4 fun s5 hm5 has5 => q s5 ?_ has5⟩
    · rw [sb.2 b (ne b hb)]; exact e
    · refine Moved.trans W.gtrans ((hm.mono more).then_heap (Nat.le_succ _) fun b o hb e => ?_) hm5
      rw [sb.2 b fun h => hb (by rw [h]; exact List.mem_cons_self ..)]
      exact e
end
section
variable {s : Shared} {w : World} {P : Program} {A : Around} {E : Value → Shared → Prop}
abbrev bareL (led : Bool) : Obj := { cls := .type "set", dict := none, data := .set #[] 0 (.fresh 0 0 led) }
/-- the heap and the tokens alone changed, all that stood stays -/
def GrownS (s s2 : Shared) (R : Heap → Prop) : Prop := ∃ h2 t2, s2 = { s with heap := h2, toks := t2 } ∧ R h2 ∧ ∀ b o, s.heap.get? b = some o → h2.get? b = some o
theorem sub_tup_set : isSubtype (.type "tuple") (.type "set") = pure false := by rw [isSubtype_type]; kernel_rfl
theorem sub_tup_fset : isSubtype (.type "tuple") (.type "frozenset") = pure false := by rw [isSubtype_type]; kernel_rfl
theorem init_strs {l : Addr} {vs : Array Value} {led : Bool} (xs : List Str) (calm : A.handled = none) (seq : s.heap.IsList l vs ∨ s.heap.IsTuple l vs) (isS : StrsAre vs.toList xs) (few : xs.length + 1 < scanBound) :
    codeAny (model P w) A (.call (.builtin "set.__init__") ⟨[.ref s.heap.objs.size, .ref l], []⟩) (wants (fun r s2 => r = .none ∧ GrownS s s2 fun h2 => HasS P w h2 s.heap.objs.size xs) E) { s with heap := s.heap.push (bareL led) } := by
  have size : xs.length = vs.size := by rw [← StrsAre.len_eq isS, Array.length_toList]
  have stands : (s.heap.push (bareL led)).get? s.heap.objs.size = some (bareL led) := Heap.get?_push_size _ rfl
  have typed : Shared.TypeIs { s with heap := s.heap.push (bareL led) } (.ref s.heap.objs.size) "set" := ⟨_, stands, rfl⟩
  apply codeAny_call_builtin F.called_set.init.plain F.entry_set_init (check_set_init_1 typed ?_)
  have low : l < s.heap.objs.size := seq.elim (fun ⟨_, e, _⟩ => Heap.lt_size e) fun ⟨_, e, _⟩ => Heap.lt_size e
  have new : (s.heap.push (bareL led)).objs.size = s.heap.objs.size + 1 := Heap.size_push ..
  have ne : l ≠ (s.heap.push (bareL led)).objs.size := by rw [new]; exact Nat.ne_of_lt (Nat.lt_succ_of_lt low)
  have two : ∀ {b : Addr}, b < s.heap.objs.size → b ∉ [s.heap.objs.size, (s.heap.push (bareL led)).objs.size] := fun hb z => by
    rw [new] at z; rcases List.mem_cons.mp z with z | z
    · exact absurd z (Nat.ne_of_lt hb)
    · exact absurd (List.mem_singleton.mp z) (Nat.ne_of_lt (Nat.lt_succ_of_lt hb))
  have apart : s.heap.objs.size ∉ [(s.heap.push (bareL led)).objs.size, l] := fun z => by
    rw [new] at z; rcases List.mem_cons.mp z with z | z
    · exact absurd z (Nat.ne_of_lt (Nat.lt_succ_self _))
    · exact absurd (List.mem_singleton.mp z) (Nat.ne_of_gt low)
  have val : ∀ (i : Nat) (v : Value), i < vs.size → vs[i]? = some v → ∃ t x, xs[i]? = some x ∧ v = .str x t := fun i v hi hv => by
    obtain ⟨t, e⟩ := SS.strs_at isS i v (by rw [Array.getElem?_toList]; exact hv)
    have hl : i < xs.length := by omega
    refine ⟨t, xs[i], List.getElem?_eq_getElem hl, ?_⟩
    rw [e, List.getD_eq_getElem?_getD, List.getElem?_eq_getElem hl]
    rfl
  have hasZ : ∀ o : Obj, HasS P w ((s.heap.push (bareL led)).push o) s.heap.objs.size (xs.take 0) := fun o =>
    SetOf_congr ((setObjOf_fresh (knd := PySem.strKind P w) led).setOf (Heap.get?_push_of_some _ stands) (by unfold scanBound; omega)) (fun _ => rfl) rfl
  have done : ∀ {wr : List Addr} {G : Array GenState → Array GenState → Prop} (o : Obj) (s3 : Shared), (∀ b, b < s.heap.objs.size → b ∉ s.heap.objs.size :: wr) → (∀ a b, G a b → b = a) → Moved (s.heap.objs.size :: wr) (fun a b => b = a) { s with heap := (s.heap.push (bareL led)).push o } s3 → HasS P w s3.heap s.heap.objs.size xs →
      GrownS s s3 fun h2 => HasS P w h2 s.heap.objs.size xs := fun {wr G} o s3 hw _ hm has => by
    obtain ⟨h3, g3, d3, t3, o3⟩ := s3
    cases (hm.gens : g3 = s.gens)
    cases (hm.drawn : d3 = s.drawn)
    cases (hm.os : o3 = s.os)
    exact ⟨h3, t3, rfl, has, fun b u e => hm.heap b u (hw b (Heap.lt_size e)) (Heap.get?_push_of_some _ (Heap.get?_push_of_some _ e))⟩
  unfold Builtin.«set.__init__»
  unfold noKeywords
  unfold Builtin.Frozenset.updateFrom
  generalize gen : pyIter = PI
  rcases seq with hl | hl
  · have hl1 := hl.push (bareL led)
    have ⟨ob, e0, e1, n0, e2⟩ := hl1
    obtain ⟨k1, k2, k3, k4⟩ := ob
    simp only at e1 e2
    subst e1 e2
    have t1 := F.sub_list_set
    have t2 := F.sub_list_frozenset
    have t3 : (Value.type "list" == Value.type "dict") = false := rfl
    wp_walk
    subst gen
    apply wpAny_pyIter_list hl1
    apply wpAny_bind
    apply wpAny_runValue
    apply fill_strs (Walks.list (by simp [calm]) _ l ne vs).toS s.heap.objs.size apart xs size (by omega) val (vs.size - 0) 0 _ (by omega) (Nat.zero_le _) ⟨⟨_, Heap.get?_push_size _ rfl, rfl, rfl⟩, hl1.push _⟩ (hasZ _)
    intro s3 hm has
    apply wpAny_pure
    apply wpAny_pure
    exact ⟨rfl, done (G := fun a b => b = a) _ s3 (fun b hb => two hb) (fun _ _ z => z) hm has⟩
  · have hl1 := hl.push (bareL led)
    have ⟨ob, e0, e1, n0, e2⟩ := hl1
    obtain ⟨k1, k2, k3, k4⟩ := ob
    simp only at e1 e2
    subst e1 e2
    have t1 := sub_tup_set
    have t2 := sub_tup_fset
    have t3 : (Value.type "tuple" == Value.type "dict") = false := rfl
    wp_walk
    subst gen
    apply wpAny_pyIter_tuple hl1
    apply wpAny_bind
    apply wpAny_runValue
    apply fill_strs (Walks.tuple (by simp [calm]) _ l ne vs).toS s.heap.objs.size apart xs size (by omega) val (vs.size - 0) 0 _ (by omega) (Nat.zero_le _) ⟨⟨_, Heap.get?_push_size _ rfl, rfl, rfl⟩, hl1.push _⟩ (hasZ _)
    intro s3 hm has
    apply wpAny_pure
    apply wpAny_pure
    exact ⟨rfl, done (G := fun a b => b = a) _ s3 (fun b hb => two hb) (fun _ _ z => z) hm has⟩
/-- set(xs), xs texts -/
theorem set_of_strs {l : Addr} {vs : Array Value} (xs : List Str) {Q : Value → Shared → Prop} (calm : A.handled = none) (seq : s.heap.IsList l vs ∨ s.heap.IsTuple l vs) (isS : StrsAre vs.toList xs) (few : xs.length + 1 < scanBound)
    (q : ∀ (h2 : Heap) (t2 : Nat), HasS P w h2 s.heap.objs.size xs → (∀ b o, s.heap.get? b = some o → h2.get? b = some o) → Q (.ref s.heap.objs.size) { s with heap := h2, toks := t2 }) : wpAny (model P w) A (call (.type "set") [.ref l]) Q E s := by
  have ⟨_, _, line⟩ := F.called_set.mro
  have b1 := F.called_set.made
  have b2 := F.called_set.sub
  have b3 := F.called_set.notType
  have b4 := F.called_set.canCreate
  have b5 := F.typeCall_set_1 (.ref l)
  apply wpAny_call
  apply codeAny_of_tree
  change wpAny _ _ (callAny (.type "set") _) _ _ _
  apply wpAny_pure
  refine ⟨Code.quiet_builtin _ (by decide +kernel), ?_⟩
  apply codeAny_builtin F.entry_type_call
  rewrite [Around.under_plain (weight_type_call_type "set" [.ref l] []) rfl]
  repeat any_goals first | assumption | wp_step
  apply codeAny_mono (code_set_new_1 (.ref l) (E := E) (Q₁ := fun ob s2 => ∃ led, ob = .ref s.heap.objs.size ∧ s2 = { s with heap := s.heap.push (bareL led) }) fun led => ⟨led, rfl, rfl⟩)
  intro r s2 hr
  match r, hr with
  | .error _, hr => exact hr
  | .ok (.ret ob), hr =>
    obtain ⟨led, e1, e2⟩ := hr
    subst e1 e2
    have stands : (s.heap.push (bareL led)).get? s.heap.objs.size = some (bareL led) := Heap.get?_push_size _ rfl
    have typed : Shared.TypeIs { s with heap := s.heap.push (bareL led) } (.ref s.heap.objs.size) "set" := ⟨_, stands, rfl⟩
    have c1 := F.called_set.init.lookup
    have c2 := F.called_set.init.bind (.ref s.heap.objs.size)
    repeat any_goals first | assumption | wp_step
    apply codeAny_mono (init_strs xs (E := E) (by simp [calm]) seq isS few)
    intro r2 s3 hr2
    match r2, hr2 with
    | .error _, hr2 => exact hr2
    | .ok (.ret ob2), hr2 =>
      obtain ⟨e3, h2, t2, e4, has, hk⟩ := hr2
      subst e3 e4
      repeat any_goals first | assumption | wp_step
      exact q h2 t2 has hk
end
section
variable {X : Cx}
/-- len(set(e)), e texts -/
def tLenSetS (K : PySem.W.Frag) (ta : TE) : TE := fun σ H Q => ta σ H fun x H1 => ∃ l, ∃ xs : List Str, x = .ref l ∧ (SqL K H1 l (xs.map V.str) ∨ SqT K H1 l (xs.map V.str)) ∧ xs.length < 60 ∧ Q (.int (dcount xs)) H1
theorem few60 {n : Nat} (h : n < 60) : n + 1 < scanBound := by unfold scanBound; omega
theorem pe_lenSetS {a : Expr} {ta : TE} {p p2 q pos : Pos} (hc : X.calm = true) (hg : Gl X "len") (hm : X.mg "len" = none) (hg2 : Gl X "set") (hm2 : X.mg "set" = none) (ha : PE X a ta)
    (na : starEach [a] X.env = (false, eval a X.env) :: starEach [] X.env := by rfl) : PE X (.Call (.Name "len" p) [.Call (.Name "set" p2) [a] [] q] [] pos) (tLenSetS X.K ta) := by
  refine ⟨fun pins s σ H Q I h => Call_ (ld_blt I hg hm boot_len (PyProof.Rows.callWith_builtin1 (PyProof.Rows.args_cons ?_ rfl) rfl rfl))⟩
  refine Call_ (ld_blt I hg2 hm2 boot_set (PyProof.Rows.callWith_type1 (PyProof.Rows.args_cons (thn (ha.run pins s σ H _ I h) fun v s1 ⟨x, H1, I1, r1, l, xs, ex, hq, few, q1⟩ => PyProof.Rows.args_nil ?_) na) na rfl))
  subst ex; cases (show v = Value.ref l from r1)
  have fin : ∀ (h2 : Heap) (tk : Nat), HasS X.prog X.w h2 s1.heap.objs.size xs → (∀ b o, s1.heap.get? b = some o → h2.get? b = some o) →
      wpAny (model X.prog X.w) X.A (spliced (backTo pos (starEach [] X.env))) (fun vs s2 => wpAny (model X.prog X.w) X.A (call (.builtin "len") (Value.ref s1.heap.objs.size :: vs)) (EP X pins σ Q) X.xe s2) X.xe { s1 with heap := h2, toks := tk } := fun h2 tk has hk => by
    obtain ⟨o, es, ep, t, ho, hex, hd, _, _, _, hf, hn⟩ := has
    have I2 : Inv X pins σ H1 { s1 with heap := h2, toks := tk } := I1.kept hk
    have small := dcount_le xs
    refine PyProof.Rows.args_nil (call_len_set ho hex hd hf (by rw [hn]; have : sizeLine = 16777216 := sizeLine_eq; omega) ⟨.int (dcount xs), H1, I2.tok _, ⟨_, by rw [hn]⟩, q1⟩)
  rcases hq with hq | hq
  · obtain ⟨its, r, pl, _⟩ := I1.list hq
    exact set_of_strs xs (I1.ok.hd hc) (.inl pl.isList) (by simpa using strsAre_of r) (few60 few) fin
  · obtain ⟨its, r, pl, _⟩ := I1.tuple hq
    exact set_of_strs xs (I1.ok.hd hc) (.inr pl) (by simpa using strsAre_of r) (few60 few) fin
theorem vals_at : ∀ (xs : List V) (us : List Value), xs.length = us.length → (∀ (i : Nat) (x : V) (u : Value), xs[i]? = some x → us[i]? = some u → RelV x u) → Vals xs us
  | [], [], _, _ => .nil
  | x :: xs, u :: us, h, r => .cons (r 0 x u rfl rfl) (vals_at xs us (Nat.succ.inj h) fun i y v hy hv => r (i + 1) y v hy hv)
/-- list(z), z a text -/
def gListS : List V → Hp → VK → Prop := fun xs H Q => ∃ z : Str, xs = [.str z] ∧ z.length ≤ sizeLine ∧ ∀ p, H p = none → Q (.ref p) (upd H p (.lst (z.cps.toList.map fun c => .str ⟨#[c]⟩)))
theorem cg_listS (hc : X.calm = true) : CallR X (.type "list") gListS := by
  rintro pins s σ H xs us Q I r ⟨z, rfl, hz, q⟩
  obtain ⟨u, rfl, t, rfl⟩ := vals1 r; refine call_list_str (I.ok.hd hc) z t (fun h2 tk acc c kp stands items => ?_) hz
  have r2 : Vals (z.cps.toList.map fun c => V.str ⟨#[c]⟩) acc.toList := by
    refine vals_at _ _ (by rw [List.length_map, Array.length_toList, Array.length_toList, items.1]) fun i x v hx hv => ?_
    rw [Array.getElem?_toList] at hv
    obtain ⟨c, tk2, hc2, rfl⟩ := items.2 i v hv
    rw [List.getElem?_map, Array.getElem?_toList, hc2] at hx
    cases hx
    exact ⟨tk2, rfl⟩
  have len : (z.cps.toList.map fun c => V.str ⟨#[c]⟩).length ≤ sizeLine := by rw [List.length_map, Array.length_toList]; exact hz
  exact ⟨.ref s.heap.objs.size, _, I.laid (t' := tk) kp (Nat.le_refl _) (show ObjOk X.prog X.w _ h2 _ (.lst _) from ⟨len, acc.toList, c, r2, stands⟩), rfl, q _ (I.hok.fresh (Nat.le_refl _))⟩
end

/-! Readings with a stronger promise behind them; the empty text's join. -/
section
variable {X : Cx}
/-- with a stronger promise behind it -/
def tUp (te : TE) : TE := fun σ H Q => ∃ Q2 : VK, te σ H Q2 ∧ ∀ x H1, Q2 x H1 → Q x H1
theorem pe_up {e : Expr} {te : TE} (h : PE X e te) : PE X e (tUp te) := by
  constructor
  rintro pins s σ H Q hI ⟨Q2, hq, imp⟩
  exact thn (h.run pins s σ H Q2 hI hq) fun v s1 ⟨x, H1, hI1, hr, q⟩ => ⟨x, H1, hI1, hr, imp x H1 q⟩
theorem pe_weak {e : Expr} {t t2 : TE} (h : PE X e t) (imp : ∀ σ H Q, t2 σ H Q → t σ H Q) : PE X e t2 := ⟨fun pins s σ H Q hI hq => h.run pins s σ H Q hI (imp σ H Q hq)⟩
/-- "".join(xs) -/
def JoinG (K : PySem.W.Frag) (x : V) (H : Hp) (Q : VK) : Prop := ∃ (p : Addr) (ys : List Str), x = .ref p ∧ SqL K H p (ys.map V.str) ∧ (ys.map (·.length)).sum ≤ 1000000 ∧ Q (.str (Txt.join "" ys)) H
def tJoin0 (K : PySem.W.Frag) (te : TE) : TE := fun σ H Q => te σ H fun x H1 => JoinG K x H1 Q
theorem rd_join {K : PySem.W.Frag} {te : TE} {σ : L2.St} {H : Hp} {Q : VK} (q : te σ H fun x H1 => JoinG K x H1 Q) : tJoin0 K te σ H Q := q
theorem pe_join0 {e : Expr} {te : TE} {k : Nat} {p0 apos pos : Pos} (he : PE X e te)
    (hs : starEach [e] X.env = [(false, eval e X.env)] := by rfl)
    (hbase : attributeBase (.Constant (.str "") k p0) "join" X.env (eval (.Constant (.str "") k p0) X.env) = eval (.Constant (.str "") k p0) X.env := by rfl)
    (hline : (apos.endLine == pos.line) = true := by rfl) :
    PE X (.Call (.Attribute (.Constant (.str "") k p0) "join" apos) [e] [] pos) (tJoin0 X.K te) := by
  refine pe_weak (pe_join pe_str (pe_up he) hs hbase hline) fun σ H Q h => ⟨⟨_, rfl⟩, _, h, ?_⟩
  rintro x H1 ⟨p, ys, rfl, hs, hl, q⟩
  refine ⟨"", p, ys, rfl, rfl, .inl hs, ?_, q⟩
  rw [show ("" : Str).length = 0 from rfl, Nat.mul_zero]
  omega
end

/-! Classes of the program: their addresses, calls of methods, properties, staticmethods; what is never reached. -/
/-- a statement that is never reached -/
def tNo : TS := fun _ _ _ => False
theorem ps_no {X : Cx} {st : Stmt} : PS X st tNo := ⟨fun _ _ _ _ _ _ h => h.elim⟩
theorem pss_no {X : Cx} {st : List Stmt} : PSs X st tNo := ⟨fun _ _ _ _ _ _ h => h.elim⟩
/-- what a name of the module holds -/
def cls_at (K : PySem.W.Frag) (x : Str) : Addr := match PySem.W.nsIn K mainGlobals x with
  | some (some (.ref a)) => a
  | _ => 0
theorem cls_at_of {K : PySem.W.Frag} {x : Str} {a : Addr} (h : PySem.W.nsIn K mainGlobals x = some (some (.ref a))) : cls_at K x = a := by
  unfold cls_at
  rw [h]
/-- a method that is a property -/
structure Prp (P : Program) (w : World) (K : PySem.W.Frag) (mg : Str → Option Value) (base : Heap) (k : Nat) (C : Addr) (f : Str) (sp : Sp) : Prop where
  ex : ∃ (p g : Addr) (fd : FuncData) (ps : List Str), Cls K C ∧ PropOf K C f p g ∧ FnOk P w K mg base C8.CX0 k g fd ps sp ∧ Binds K fd ps []
/-- a class that may be made by its name, sp being what its __init__ keeps -/
structure MakR (P : Program) (w : World) (K : PySem.W.Frag) (mg : Str → Option Value) (base : Heap) (k : Nat) (x : Str) (C : Addr) (sp : Sp) : Prop where
  ex : ∃ f : Addr, Mk K C f ∧ FnR P w K mg base C8.CX0 k f sp ∧ mg x = some (.ref C)
/-- a staticmethod of the class at C -/
structure Sta (P : Program) (w : World) (K : PySem.W.Frag) (mg : Str → Option Value) (base : Heap) (k : Nat) (C : Addr) (m : Str) (sp : Sp) : Prop where
  ex : ∃ (mc : Value) (p g : Addr), ClX.CRead K C mc ∧ PySem.W.findCls K (.ref C) mc m = some (.get (.builtin "staticmethod.__get__") (.ref p) .none (.ref C)) ∧ (∃ rest, PySem.W.recIn K p "staticmethod" = some (.ref g :: rest)) ∧ PySem.W.keepIn K (.ref g) = true ∧ FnR P w K mg base C8.CX0 k g sp
section
variable {X : Cx} {k j : Nat} {C : Addr} {x m f : Str} {sp : Sp} {p pos apos : Pos} {e o : Expr} {es : List Expr} {ta : TE} {t : TA}
/-- o.f, a property -/
theorem pe_pr (c : Prp X.prog X.w X.K X.mg X.base k C f sp) (hr : Room j X.A) (hk : k + 1 ≤ j) (he : PE X e ta) (hb : attributeBase e f X.env (eval e X.env) = eval e X.env) : PE X (.Attribute e f pos) (tProp C sp [] C8.E0 ta) := by
  obtain ⟨p, g, fd, ps, hc, hp, F, b⟩ := c.ex
  exact pe_prop he hc hp F (hr.mono hk) b .nil C8.pass0 hb
/-- C(e, ..) -/
theorem pe_mkR (c : MakR X.prog X.w X.K X.mg X.base k x C sp) (hr : Room j X.A) (hk : k + 1 ≤ j) (hg : Gl X x) (ha : PA X (e :: es) t) (hdb : (x == ("__debug__" : Str)) = false := by decide)
    (he : starEach (e :: es) X.env = (false, eval e X.env) :: starEach es X.env := by rfl) (hpl : (backTo pos (starEach es X.env)).any (·.1) = false := by rfl) : PE X (.Call (.Name x p) (e :: es) [] pos) (StX.tMakeR C sp C8.E0 t) := by
  obtain ⟨f, M, F, hm⟩ := c.ex
  exact StX.pe_makeR M F (hr.mono hk) hg hm C8.pass0 ha hdb he hpl
/-- C(e, .., *es) -/
theorem pe_mkS (c : MakR X.prog X.w X.K X.mg X.base k x C sp) (hr : Room j X.A) (hk : k + 1 ≤ j) (hg : Gl X x) (ha : PA X (e :: es) t) (hdb : (x == ("__debug__" : Str)) = false := by decide)
    (he : starEach (e :: es) X.env = (false, eval e X.env) :: starEach es X.env := by rfl) (hst : (backTo pos (starEach es X.env)).any (·.1) = true := by rfl) : PE X (.Call (.Name x p) (e :: es) [] pos) (StX.tMakeR C sp C8.E0 t) := by
  obtain ⟨f, M, F, hm⟩ := c.ex
  refine ⟨fun pins s σ H Q I h => wpAny_Call_Name_kw (ld_glob I hg hm ?_ hdb)⟩
  exact PySem.W.callWith_S2 (h₀ := X.base) I.ok.mod.kin M.kp (thn (ha.run pos pins s σ H _ I h) fun us s1 ⟨vs, H1, I1, r, q⟩ => ⟨I1.kIn, StX.run_makeR M F (hr.mono hk) C8.pass0 I1 r q⟩) he hst
/-- C.m(e, ..), m a staticmethod -/
def tStc (C : Addr) (sp : Sp) (ta : TE) (t : TA) : TE := fun σ H Q => ta σ H fun x H1 => x = .ref C ∧ t σ H1 fun vs H2 => sp vs H2 Q C8.E0
theorem pe_st {pl : Sem Bool} (c : Sta X.prog X.w X.K X.mg X.base k C m sp) (hr : Room j X.A) (hk : k ≤ j) (he : PE X o ta) (ha : PA X (e :: es) t) (hst : starEach (e :: es) X.env = (false, eval e X.env) :: starEach es X.env := by rfl) (hpl : (backTo pos (starEach es X.env)).any (·.1) = false := by rfl)
    (ht : eval (.Call (.Attribute o m apos) (e :: es) [] pos) X.env = (do let ov ← eval o X.env; standAt apos.atName; let (f, first) ← holding [ov] (getMethod ov m pl); callWith pos f first (backTo pos (starEach (e :: es) X.env)) (backToKw pos (keywordEach [] X.env))) := by rfl) :
    PE X (.Call (.Attribute o m apos) (e :: es) [] pos) (tStc C sp ta t) := by
  obtain ⟨mc, p, g, r, at_, ⟨rest, hp⟩, kp, F⟩ := c.ex
  refine ⟨fun pins s σ H Q I h => PySem.W.methodCall_KW (pl := pl) (thn (he.run pins s σ H _ I h) fun u s1 ⟨x, H1, I1, rx, ex, q⟩ => ?_) ht⟩
  subst ex
  cases (show u = Value.ref C from rx)
  have I2 := I1.tok (s1.toks + 1)
  refine PySem.W.method_cls I1.kIn r.ga (PySem.W.cls_bind I1.kIn r.rd at_ (wpAny_call (PySem.W.sm_get (s := { s1 with toks := s1.toks + 1 }) I1.kIn hp (PySem.W.handed_on rfl ?_))))
  refine PySem.W.callWith_K (h₀ := X.base) I2.ok.mod.kin kp (thn (ha.run pos pins _ σ H1 _ I2 q) fun us s2 ⟨vs, H2, I3, rv, q2⟩ => ⟨I3.kIn, ?_⟩) hst hpl
  exact wpAny_call (run_fnR F (hr.mono hk) C8.pass0 I3 rv q2)
end
/-! ### short readings -/
def tFs (ts : List TE) : TE := fun σ H Q => tJs ts Str.empty σ H fun out H1 => Q (.str out) H1
def rPart : V → List V → Hp → VK → Prop := fun x xs H Q => ∃ a b, x = .str a ∧ xs = [.str b] ∧ (b.length == 0) = false ∧ a.length ≤ sizeLine ∧ ∀ p, H p = none → Q (.ref p) (upd H p (.tup [.str (Txt.partition a b).1, .str (Txt.partition a b).2.1, .str (Txt.partition a b).2.2]))
def rSplit : V → List V → Hp → VK → Prop := fun x xs H Q => ∃ a b, x = .str a ∧ xs = [.str b] ∧ (b.length == 0) = false ∧ a.length + 2 ≤ sizeLine ∧ rNewStrs (Txt.split a b) H Q
def rTupIx (K : PySem.W.Frag) : V → List V → Hp → VK → Prop := fun x xs H Q => ∃ p, ∃ ys : List Str, ∃ z j, x = .ref p ∧ xs = [.str z] ∧ SqT K H p (ys.map V.str) ∧ ys[j]? = some z ∧ (∀ m, m < j → ys[m]? ≠ some z) ∧ Q (.int (j : Nat)) H
/-- a class whose instances are read -/
structure InsK (K : PySem.W.Frag) (C : Addr) : Prop where
  cl : Cls K C
  (ha : PySem.W.findIn K (.ref C) "__class__" = some (some (.builtin "object.__class__"))) (hn : PySem.W.specialIn K (.builtin "object.__class__") "__get__" = some (some (.builtin "getset_descriptor.__get__")))
  (ht : PySem.W.takesIn K (.builtin "object.__class__") = some true) (hm : PySem.W.mroIn K C (.type "object") = some true)
class SchK (K : PySem.W.Frag) : Prop where
  ins : InsK K (cls_at K "Schema")
  nF : NoAttr K (cls_at K "Schema") "fields"
  nL : NoAttr K (cls_at K "Schema") "_lists"
/-- "..".join(xs) -/
def JoinS (K : PySem.W.Frag) (z : Str) (x : V) (H : Hp) (Q : VK) : Prop := ∃ (p : Addr) (ys : List Str), x = .ref p ∧ SqL K H p (ys.map V.str) ∧ (ys.map (·.length)).sum + ys.length * z.length ≤ 1000000 ∧ Q (.str (Txt.join z ys)) H
def tJoinS (K : PySem.W.Frag) (z : Str) (te : TE) : TE := fun σ H Q => te σ H fun x H1 => JoinS K z x H1 Q
theorem rd_joinS {K : PySem.W.Frag} {z : Str} {te : TE} {σ : L2.St} {H : Hp} {Q : VK} (q : te σ H fun x H1 => JoinS K z x H1 Q) : tJoinS K z te σ H Q := q
theorem pe_joinS {X : Cx} {z : Str} {e : Expr} {te : TE} {k : Nat} {p0 apos pos : Pos} (he : PE X e te)
    (hs : starEach [e] X.env = [(false, eval e X.env)] := by rfl)
    (hbase : attributeBase (.Constant (.str z) k p0) "join" X.env (eval (.Constant (.str z) k p0) X.env) = eval (.Constant (.str z) k p0) X.env := by rfl)
    (hline : (apos.endLine == pos.line) = true := by rfl) : PE X (.Call (.Attribute (.Constant (.str z) k p0) "join" apos) [e] [] pos) (tJoinS X.K z te) := by
  refine pe_weak (pe_join pe_str (pe_up he) hs hbase hline) fun σ H Q h => ⟨⟨_, rfl⟩, _, h, ?_⟩
  rintro x H1 ⟨p, ys, rfl, hs, hl, q⟩
  exact ⟨z, p, ys, rfl, rfl, .inl hs, Nat.le_trans hl (by decide), q⟩
/-- what is walked is a list or a tuple -/
def iSeq (K : PySem.W.Frag) (te : TE) : TI := fun σ H R => te σ H fun x H1 => ∃ a, x = .ref a ∧ (((∃ xs, SqL K H1 a xs) ∧ R (Itl K a) H1) ∨ ((∃ xs, SqT K H1 a xs) ∧ R (Itt K a) H1))
theorem pi_seq {X : Cx} {tg l : Expr} {te : TE} (hl : PE X l te) : PI X tg l (iSeq X.K te) := by
  refine ⟨fun pins s σ H R I h => thn (hl.run pins s σ H _ I h) fun v s1 ⟨x, H1, I1, rx, a, ex, q⟩ => ?_⟩
  subst ex; cases (show v = Value.ref a from rx)
  have fr : ∀ b, b ∈ [s1.heap.objs.size] → FpOk X pins H1 b := fun b hb => by
    rw [List.mem_singleton.mp hb]; exact I1.fpOk (Nat.le_refl _) (I1.hok.fresh (Nat.le_refl _))
  rcases q with ⟨⟨xs, hq⟩, q⟩ | ⟨⟨xs, hq⟩, q⟩
  · obtain ⟨its, rv, pl, _⟩ := I1.list hq
    exact wpAny_pyIter_list pl.isList ⟨s1.heap.objs.size, _, _, _, H1, rfl, I1.kept (t' := s1.toks) fun b o e => Heap.get?_push_of_some _ e, turn_list a _, ⟨_, Heap.get?_push_size _ rfl, rfl, rfl⟩, fr, q⟩
  · obtain ⟨its, rv, pl, _⟩ := I1.tuple hq
    exact wpAny_pyIter_tuple (show s1.heap.IsTuple a its.toArray from pl) ⟨s1.heap.objs.size, _, _, _, H1, rfl, I1.kept (t' := s1.toks) fun b o e => Heap.get?_push_of_some _ e, turn_tuple a _, ⟨_, Heap.get?_push_size _ rfl, rfl, rfl⟩, fr, q⟩
/-! ### readings by the head -/
section
variable {K : PySem.W.Frag} {σ : L2.St} {H : Hp} {Q : VK} {D : Ends} {x y v : V} {te tv : TE} {ta tk : TA} {i j l : Nat} {C : Addr} {f m : Str} {sp : Sp} {E : XK} {R : It → Hp → Prop}
theorem rd_fld (q : te σ H fun x H1 => ∃ a C dx fs v, x = .ref a ∧ H1 a = some (.ins C dx fs) ∧ Cls K C ∧ NoAttr K C f ∧ fs.lookup f = some v ∧ Q v H1) : tFld K te f σ H Q := q
theorem rd_sfld (q : tv σ H fun y H1 => te σ H1 fun x H2 => ∃ a C dx fs, x = .ref a ∧ H2 a = some (.ins C dx fs) ∧ Cls K C ∧ NoAttr K C f ∧ fs.length < 1000 ∧ D.nx σ (upd H2 a (.ins C dx (putF f y fs)))) : sFld K te tv f D σ H := q
theorem rd_meth (q : te σ H fun x H1 => ∃ a dx fs, x = .ref a ∧ H1 a = some (.ins C dx fs) ∧ fs.lookup m = none ∧ ta σ H1 fun vs H2 => sp (x :: (vs ++ [])) H2 Q E) : tMeth C m sp [] E te ta σ H Q := q
theorem rd_prop (q : te σ H fun x H1 => ∃ a dx fs, x = .ref a ∧ H1 a = some (.ins C dx fs) ∧ sp (.ref a :: []) H1 Q E) : tProp C sp [] E te σ H Q := q
theorem rd_mkR (q : ta σ H fun vs H1 => ∀ x dx, H1 x = none → H1 dx = none → dx ≠ x → sp (.ref x :: vs) (upd (upd H1 dx (.own x)) x (.ins C dx [])) (fun v H2 => v = .non ∧ Q (.ref x) H2) E) : StX.tMakeR C sp E ta σ H Q := q
theorem rd_stc (q : te σ H fun x H1 => x = .ref C ∧ ta σ H1 fun vs H2 => sp vs H2 Q C8.E0) : tStc C sp te ta σ H Q := q
theorem rd_star {QA : List V → Hp → Prop} (q : te σ H fun x H1 => ∃ p xs, x = V.ref p ∧ (SqT K H1 p xs ∨ SqL K H1 p xs) ∧ ta σ H1 fun ys H2 => QA (xs ++ ys) H2) : StX.tStar K te ta σ H QA := q
theorem rd_lenSetS (q : te σ H fun x H1 => ∃ l, ∃ xs : List Str, x = .ref l ∧ (SqL K H1 l (xs.map V.str) ∨ SqT K H1 l (xs.map V.str)) ∧ xs.length < 60 ∧ Q (.int (dcount xs)) H1) : tLenSetS K te σ H Q := q
theorem rd_sq (q : te σ H fun x H1 => ∃ a, x = .ref a ∧ (((∃ xs, SqL K H1 a xs) ∧ R (Itl K a) H1) ∨ ((∃ xs, SqT K H1 a xs) ∧ R (Itt K a) H1))) : iSeq K te σ H R := q
theorem rd_enumT (q : ta σ H fun vs H1 => ∃ a xs, vs = [.ref a] ∧ SqT K H1 a xs ∧ R (IteT K a) H1) : iEnumT K ta σ H R := q
theorem rd_zipMx (q : ta σ H fun vs H1 => ∃ a b xs ys, vs = [.ref a, .ref b] ∧ SqL K H1 a xs ∧ SqT K H1 b ys ∧ R (ItzM K a b) H1) : iZipM K ta σ H R := q
theorem rd_fs {ts : List TE} (q : tJs ts Str.empty σ H fun out H1 => Q (.str out) H1) : tFs ts σ H Q := q
theorem rd_js {t : TE} {ts : List TE} {acc : Str} {QS : Str → Hp → Prop} (q : t σ H fun x H1 => ∃ y : Str, x = .str y ∧ (acc ++ y).length ≤ sizeLine ∧ tJs ts (acc ++ y) σ H1 QS) : tJs (t :: ts) acc σ H QS := q
theorem rd_js0 {acc : Str} {QS : Str → Hp → Prop} (q : QS acc H) : tJs [] acc σ H QS := q
theorem rd_fmt (q : te σ H fun x H1 => (∃ y : Str, x = .str y ∧ y.length ≤ sizeLine ∧ Q (.str y) H1) ∨ ∃ i : Int, x = .int i ∧ i.natAbs.log2 < 1920 ∧ Q (.str (toString i)) H1) : tFmt te σ H Q := q
end

/-! Schemas as plain data: levels, their texts, the words of a text, what the law holds of them. -/
mutual
inductive Lev where
  | mk (fs : List Str) (ls : LevL)
inductive LevL where
  | nil
  | cons (n : Str) (l : Lev) (r : LevL)
end
abbrev Lev.fs : Lev → List Str | .mk fs _ => fs
abbrev Lev.ls : Lev → LevL | .mk _ ls => ls
def LevL.names : LevL → List Str
  | .nil => []
  | .cons n _ r => n :: r.names
def LevL.levs : LevL → List Lev
  | .nil => []
  | .cons _ l r => l :: r.levs
mutual
def Lev.depth : Lev → Nat
  | .mk _ ls => 1 + ls.depth
def LevL.depth : LevL → Nat
  | .nil => 0
  | .cons _ l r => max l.depth r.depth
end
mutual
/-- the text, sign by sign -/
def Lev.tx : Lev → List Nat
  | .mk fs ls => TL.joinL [32] (fs.map cps ++ ls.tws)
def LevL.tws : LevL → List (List Nat)
  | .nil => []
  | .cons n l r => (cps n ++ (40 :: (l.tx ++ [41]))) :: r.tws
end
mutual
/-- what the law holds of a level -/
def Lev.dat : Lev → PyData
  | .mk fs ls => .list [.list (fs.map PyData.str), .list ls.dats]
def LevL.dats : LevL → List PyData
  | .nil => []
  | .cons n l r => .tuple [.str n, l.dat] :: r.dats
end
/-- a name that is drawn or written -/
def NameOk (z : Str) : Prop := nameS z = true ∧ (∀ c, c ∈ cps z → c ≠ 32 ∧ c ≠ 40 ∧ c ≠ 41 ∧ c ≠ 91 ∧ c ≠ 93)
mutual
def Lev.good : Lev → Prop
  | .mk fs ls => 0 < fs.length ∧ fs.length ≤ 3 ∧ (∀ n, n ∈ fs → NameOk n) ∧ (fs ++ ls.names).Nodup ∧ ls.names.length ≤ 2 ∧ ls.good
def LevL.good : LevL → Prop
  | .nil => True
  | .cons n l r => NameOk n ∧ l.good ∧ r.good
end
theorem LevL.len_levs : ∀ r : LevL, r.levs.length = r.names.length
  | .nil => rfl
  | .cons _ _ r => by rw [LevL.levs, LevL.names, List.length_cons, List.length_cons, LevL.len_levs r]
theorem LevL.len_tws : ∀ r : LevL, r.tws.length = r.names.length
  | .nil => by simp [LevL.tws, LevL.names]
  | .cons _ _ r => by rw [LevL.tws, LevL.names, List.length_cons, List.length_cons, LevL.len_tws r]
theorem LevL.len_dats : ∀ r : LevL, r.dats.length = r.names.length
  | .nil => by simp [LevL.dats, LevL.names]
  | .cons _ _ r => by rw [LevL.dats, LevL.names, List.length_cons, List.length_cons, LevL.len_dats r]
/-! ### the words of a text -/
structure Scan where
  found : List (List Nat)
  word : List Nat
  deep : Int
def scanDeep (d : Int) (c : Nat) : Int := if c = 40 ∨ c = 91 then d + 1 else if c = 41 ∨ c = 93 then d - 1 else d
def scan1 (s : Scan) (c : Nat) : Scan := if c = 32 ∧ scanDeep s.deep c = 0 then ⟨s.found ++ [s.word], [], scanDeep s.deep c⟩ else ⟨s.found, s.word ++ [c], scanDeep s.deep c⟩
def scanned (t : List Nat) : Scan := t.foldl scan1 ⟨[], [], 0⟩
def topW (t : List Nat) : List (List Nat) := if t = [] then [] else (scanned t).found ++ [(scanned t).word]
/-- within brackets: nothing is split, the depth comes back -/
def Flat (t : List Nat) : Prop := ∀ f w d, 1 ≤ d → t.foldl scan1 ⟨f, w, d⟩ = ⟨f, w ++ t, d⟩
/-- outside: the same -/
def Word (t : List Nat) : Prop := ∀ f w, t.foldl scan1 ⟨f, w, 0⟩ = ⟨f, w ++ t, 0⟩
theorem flat_nil : Flat [] := fun f w d _ => by rw [List.append_nil]; rfl
theorem Flat.app {a b : List Nat} (ha : Flat a) (hb : Flat b) : Flat (a ++ b) := fun f w d h => by rw [List.foldl_append, ha f w d h, hb f _ d h, List.append_assoc]
theorem Word.app {a b : List Nat} (ha : Word a) (hb : Word b) : Word (a ++ b) := fun f w => by rw [List.foldl_append, ha f w, hb f _, List.append_assoc]
def plainC (c : Nat) : Prop := c ≠ 32 ∧ c ≠ 40 ∧ c ≠ 41 ∧ c ≠ 91 ∧ c ≠ 93
theorem scan_plain {c : Nat} (h : plainC c) (f : List (List Nat)) (w : List Nat) (d : Int) : scan1 ⟨f, w, d⟩ c = ⟨f, w ++ [c], d⟩ := by
  obtain ⟨h1, h2, h3, h4, h5⟩ := h
  unfold scan1 scanDeep
  simp [h1, h2, h3, h4, h5]
theorem scan_name : ∀ (t : List Nat), (∀ c, c ∈ t → plainC c) → ∀ f w d, t.foldl scan1 ⟨f, w, d⟩ = ⟨f, w ++ t, d⟩
  | [], _, f, w, d => by rw [List.append_nil]; rfl
  | c :: t, h, f, w, d => by
    rw [List.foldl_cons, scan_plain (h c (List.mem_cons_self ..)), scan_name t (fun x hx => h x (List.mem_cons_of_mem _ hx)), List.append_assoc]
    rfl
theorem flat_name {t : List Nat} (h : ∀ c, c ∈ t → plainC c) : Flat t := fun f w d _ => scan_name t h f w d
theorem word_name {t : List Nat} (h : ∀ c, c ∈ t → plainC c) : Word t := fun f w => scan_name t h f w 0
theorem flat_space : Flat [32] := fun f w d h => by
  show scan1 ⟨f, w, d⟩ 32 = _
  unfold scan1 scanDeep
  have : d ≠ 0 := by omega
  simp [this]
theorem flat_in {t : List Nat} (h : Flat t) : Flat (40 :: (t ++ [41])) := fun f w d hd => by
  rw [List.foldl_cons, List.foldl_append]
  have e1 : scan1 ⟨f, w, d⟩ 40 = ⟨f, w ++ [40], d + 1⟩ := by unfold scan1 scanDeep; simp
  have e2 : ∀ v, scan1 ⟨f, v, d + 1⟩ 41 = ⟨f, v ++ [41], d⟩ := fun v => by unfold scan1 scanDeep; simp
  rw [e1, h _ _ _ (by omega), List.foldl_cons, List.foldl_nil, e2]
  simp
theorem word_in {t : List Nat} (h : Flat t) : Word (40 :: (t ++ [41])) := fun f w => by
  rw [List.foldl_cons, List.foldl_append]
  have e1 : scan1 ⟨f, w, 0⟩ 40 = ⟨f, w ++ [40], 1⟩ := by unfold scan1 scanDeep; simp
  have e2 : ∀ v, scan1 ⟨f, v, 1⟩ 41 = ⟨f, v ++ [41], 0⟩ := fun v => by unfold scan1 scanDeep; simp
  rw [e1, h _ _ _ (by omega), List.foldl_cons, List.foldl_nil, e2]
  simp
theorem flat_join : ∀ ws : List (List Nat), (∀ w, w ∈ ws → Flat w) → Flat (TL.joinL [32] ws)
  | [], _ => flat_nil
  | [w], h => h w (List.mem_cons_self ..)
  | w :: v :: ws, h => by
    show Flat (w ++ ([32] ++ TL.joinL [32] (v :: ws)))
    exact (h w (List.mem_cons_self ..)).app (flat_space.app (flat_join (v :: ws) fun x hx => h x (List.mem_cons_of_mem _ hx)))
theorem scan_join : ∀ (ws : List (List Nat)) (f : List (List Nat)), ws ≠ [] → (∀ w, w ∈ ws → Word w) → ∃ i l, ws = i ++ [l] ∧ (TL.joinL [32] ws).foldl scan1 ⟨f, [], 0⟩ = ⟨f ++ i, l, 0⟩
  | [], _, h, _ => (h rfl).elim
  | [w], f, _, h => ⟨[], w, rfl, by
    show w.foldl scan1 ⟨f, [], 0⟩ = _
    rw [h w (List.mem_cons_self ..), List.append_nil]
    rfl⟩
  | w :: v :: ws, f, _, h => by
    obtain ⟨i, l, e, r⟩ := scan_join (v :: ws) (f ++ [w]) (List.cons_ne_nil _ _) fun x hx => h x (List.mem_cons_of_mem _ hx)
    refine ⟨w :: i, l, by rw [e]; rfl, ?_⟩
    show (w ++ ([32] ++ TL.joinL [32] (v :: ws))).foldl scan1 ⟨f, [], 0⟩ = _
    rw [List.foldl_append, h w (List.mem_cons_self ..), List.foldl_append]
    have e1 : [32].foldl scan1 ⟨f, [] ++ w, 0⟩ = ⟨f ++ [w], [], 0⟩ := by
      show scan1 ⟨f, [] ++ w, 0⟩ 32 = _
      unfold scan1 scanDeep
      simp
    rw [e1, r, List.append_assoc]
    rfl
theorem joinL_ne : ∀ ws : List (List Nat), ws ≠ [] → (∀ w, w ∈ ws → w ≠ []) → TL.joinL [32] ws ≠ []
  | [], h, _ => (h rfl).elim
  | [w], _, h => h w (List.mem_cons_self ..)
  | w :: v :: ws, _, _ => fun z => by
    have z : w ++ ([32] ++ TL.joinL [32] (v :: ws)) = [] := z
    simp at z
/-- the words of a text of words -/
theorem topW_join {ws : List (List Nat)} (ne : ws ≠ []) (h : ∀ w, w ∈ ws → Word w) (h2 : ∀ w, w ∈ ws → w ≠ []) : topW (TL.joinL [32] ws) = ws := by
  unfold topW scanned
  rw [if_neg (joinL_ne ws ne h2)]
  obtain ⟨i, l, e, r⟩ := scan_join ws [] ne h
  rw [r, e]
  rfl
theorem name_plain {z : Str} (h : NameOk z) : ∀ c, c ∈ cps z → plainC c := h.2
theorem nameOk_len {z : Str} (h : NameOk z) : 0 < z.length ∧ z.length ≤ 8 := by
  have h1 := h.1
  unfold nameS at h1
  simp only [Bool.and_eq_true, decide_eq_true_eq] at h1; omega
theorem nameOk_ne {z : Str} (h : NameOk z) : cps z ≠ [] := fun e => by
  have h1 : (cps z).length = z.length := Array.length_toList ..
  rw [e] at h1
  have := (nameOk_len h).1
  simp at h1
  omega
mutual
theorem Lev.flat : ∀ l : Lev, l.good → Flat l.tx
  | .mk fs ls, h => by
    rw [Lev.tx]
    refine flat_join _ fun w hw => ?_
    rw [Lev.good] at h
    rcases List.mem_append.mp hw with hw | hw
    · obtain ⟨n, hn, rfl⟩ := List.mem_map.mp hw
      exact flat_name (name_plain (h.2.2.1 n hn))
    · exact LevL.flats ls h.2.2.2.2.2 w hw
theorem LevL.flats : ∀ r : LevL, r.good → ∀ w, w ∈ r.tws → Flat w
  | .nil, _, w, hw => by rw [LevL.tws] at hw; cases hw
  | .cons n l r, h, w, hw => by
    rw [LevL.good] at h
    rw [LevL.tws] at hw
    rcases List.mem_cons.mp hw with rfl | hw
    · exact (flat_name (name_plain h.1)).app (flat_in (Lev.flat l h.2.1))
    · exact LevL.flats r h.2.2 w hw
end
theorem LevL.words : ∀ r : LevL, r.good → ∀ w, w ∈ r.tws → Word w ∧ w ≠ []
  | .nil, _, w, hw => by rw [LevL.tws] at hw; cases hw
  | .cons n l r, h, w, hw => by
    rw [LevL.good] at h
    rw [LevL.tws] at hw
    rcases List.mem_cons.mp hw with rfl | hw
    · exact ⟨(word_name (name_plain h.1)).app (word_in (Lev.flat l h.2.1)), by simp⟩
    · exact LevL.words r h.2.2 w hw
theorem Lev.topW : ∀ l : Lev, l.good → EE.topW l.tx = l.fs.map cps ++ l.ls.tws
  | .mk fs ls, h => by
    rw [Lev.tx]
    rw [Lev.good] at h
    have all : ∀ w, w ∈ fs.map cps ++ ls.tws → Word w ∧ w ≠ [] := fun w hw => by
      rcases List.mem_append.mp hw with hw | hw
      · obtain ⟨n, hn, rfl⟩ := List.mem_map.mp hw
        exact ⟨word_name (name_plain (h.2.2.1 n hn)), nameOk_ne (h.2.2.1 n hn)⟩
      · exact LevL.words ls h.2.2.2.2.2 w hw
    refine topW_join (fun z => ?_) (fun w hw => (all w hw).1) fun w hw => (all w hw).2
    have h1 : fs.map cps = [] := (List.append_eq_nil_iff.mp z).1
    have h2 : fs = [] := List.map_eq_nil_iff.mp h1
    have h0 := h.1
    rw [h2] at h0
    exact Nat.lt_irrefl _ h0
/-- with a bracket, without -/
theorem tws_open : ∀ r : LevL, ∀ w, w ∈ r.tws → 40 ∈ w
  | .nil, w, hw => by rw [LevL.tws] at hw; cases hw
  | .cons n l r, w, hw => by
    rw [LevL.tws] at hw
    rcases List.mem_cons.mp hw with rfl | hw
    · exact List.mem_append_right _ (List.mem_cons_self ..)
    · exact tws_open r w hw
theorem Lev.depth_pos : ∀ l : Lev, 0 < l.depth
  | .mk _ _ => by rw [Lev.depth]; omega

/-! The class Schema, read. -/


section
variable {K : PySem.W.Frag} {σ : L2.St} {H : Hp} {Q : VK} {D : Ends} {x y : V} {te : TE} {ta : TA} {i j l : Nat}
theorem rd_aug {ti : TIp} (h : σ[i]? = some (some x)) (q : te σ H fun y H1 => ti x y H1 fun z H2 => D.nx (σ.set i (some z)) H2) : tAug i te ti D σ H := ⟨x, h, q⟩
theorem rd_ipI {f : Int → Int → Int} {a b : Int} (q : Q (.int (f a b)) H) : ipI f (.int a) (.int b) H Q := ⟨a, b, rfl, rfl, q⟩
theorem rd_ipS {a b : Str} (h : a.length + b.length ≤ sizeLine) (q : Q (.str (a ++ b)) H) : rAddS (.str a) (.str b) H Q := ⟨a, b, rfl, rfl, h, q⟩
theorem rd_parB {k : Nat} (q : ta σ H fun vs H1 => ∃ u v w, vs = [u, v, w] ∧ D.nx (((σ.set i (some u)).set j (some v)).set k (some w)) H1) : tPar3 i j k ta D σ H := q
theorem rd_gtupleL {a : Addr} {xs : List V} (h : SqL K H a xs) (q : ∀ l, H l = none → Q (.ref l) (upd H l (.tup xs))) : gTuple K [.ref a] H Q := ⟨a, xs, rfl, .inl ⟨h, q⟩⟩
theorem rd_gtupleT {a : Addr} {xs : List V} (h : SqT K H a xs) (q : Q (.ref a) H) : gTuple K [.ref a] H Q := ⟨a, xs, rfl, .inr ⟨h, q⟩⟩
theorem rd_gtup3 {z : V} {i j k : Nat} {T : Addr} {N : L2.St → Hp → Prop} (h : SqT K H T [x, y, z]) (q : N (((σ.set i (some x)).set j (some y)).set k (some z)) H) : gTup K 3 (gCons (gName i) (gCons (gName j) (gCons (gName k) gNil))) (.ref T) σ H N :=
  ⟨T, [x, y, z], rfl, h, rfl, x, [y, z], rfl, y, [z], rfl, z, [], rfl, rfl, q⟩
theorem rd_slS {z : Str} {lo hi : Option Int} (h : z.length ≤ sizeLine) (q : Q (.str (cutS z lo hi)) H) : gSl K (.str z) lo hi H Q := .inr (.inl ⟨z, rfl, h, q⟩)
theorem rd_notInS {c : Nat} {z : Str} (q : Q (.bl (!decide (c ∈ z.cps.toList))) H) : gNotIn K (.str ⟨#[c]⟩) (.str z) H Q := .inl ⟨c, z, rfl, rfl, q⟩
theorem cps_S (t : List Nat) : cps (SX.S t) = t := rfl
theorem S_cps (z : Str) : SX.S (cps z) = z := SX.S_tl z
theorem len_S (t : List Nat) : (SX.S t).length = t.length := SX.S_len t
theorem len_cps (z : Str) : (cps z).length = z.length := Array.length_toList ..
/-! ### top_words -/
def sp_top_words (K : PySem.W.Frag) : Sp := fun vs H Q _ => ∃ (t : List Nat) (G : Hp) (L : List (Addr × HO)), vs = [.str (SX.S t)] ∧ t.length < 90000 ∧ Stt G H L ∧
  ∀ p G' H', Ex G G' → Stt G' H' L → SqL K G' p ((topW t).map fun w => V.str (SX.S w)) → Q (.ref p) H'
def t_top_words_2b_1a_1 (K : PySem.W.Frag) : TS :=
  (tAsg (tC (.str "")) (gName 2))
def t_top_words_2b_1 (K : PySem.W.Frag) : TS :=
  (tIfS (tAnd (tTest (tOp (gEq K) (tVar 4) (tC (.str " ")))) (tTest (tOp (gEq K) (tVar 3) (tC (.int 0))))) (tSeq (tDrop (tBM K "list" rAppend (tVar 1) (tCons (tVar 2) tNil)))
  (t_top_words_2b_1a_1 K)) (tAug 2 (tVar 4) rAddS))
def t_top_words_2b (K : PySem.W.Frag) : TS :=
  (tSeq (tIfS (tTest (tOp (gIn K) (tVar 4) (tC (.str "([")))) (tAug 3 (tC (.int 1)) (ipI fun i j => i + j)) (tIfS (tTest (tOp (gIn K) (tVar 4) (tC (.str ")]")))) (tAug 3 (tC (.int 1)) (ipI fun i j => i - j)) tNext))
  (t_top_words_2b_1 K))
def t_top_words_3 (K : PySem.W.Frag) : TS :=
  (tRet (tOp (gAdd K) (tVar 1) (tLst (tCons (tVar 2) tNil))))
def t_top_words_2 (K : PySem.W.Frag) : TS :=
  (tSeq (tFor (iStr (tVar 0)) (gName 4) (t_top_words_2b K))
  (t_top_words_3 K))
def t_top_words_1 (K : PySem.W.Frag) : TS :=
  (tSeq (tPar3 1 2 3 (tCons (tLst tNil) (tCons (tC (.str "")) (tCons (tC (.int 0)) tNil))))
  (t_top_words_2 K))
def t_top_words (K : PySem.W.Frag) : TS :=
  (tSeq (tIfS (tTest (tOp (gEq K) (tVar 0) (tC (.str "")))) (tRet (tLst tNil)) tNext)
  (t_top_words_1 K))
theorem scan_len : ∀ (t : List Nat) (s : Scan), (t.foldl scan1 s).word.length ≤ s.word.length + t.length ∧ (t.foldl scan1 s).found.length ≤ s.found.length + t.length
  | [], s => ⟨Nat.le_refl _, Nat.le_refl _⟩
  | c :: t, s => by
    obtain ⟨h1, h2⟩ := scan_len t (scan1 s c); rw [List.foldl_cons, List.length_cons]
    have e : (scan1 s c).word.length ≤ s.word.length + 1 ∧ (scan1 s c).found.length ≤ s.found.length + 1 := by
      unfold scan1
      split
      · exact ⟨Nat.zero_le _, by rw [List.length_append]; exact Nat.le_refl _⟩
      · exact ⟨by rw [List.length_append]; exact Nat.le_refl _, Nat.le_succ _⟩
    omega
theorem read_tw_turn {fa : Addr} {G : Hp} {L : List (Addr × HO)} {z : Str} {f : List (List Nat)} {w : List Nat} {d : Int} {c : Nat} (S : Stt G H ((fa, .lst (f.map fun w => V.str (SX.S w))) :: L)) (lw : w.length < 99999) (lf : f.length < 200000)
    (q : ∀ H', Stt G H' ((fa, .lst ((scan1 ⟨f, w, d⟩ c).found.map fun w => V.str (SX.S w))) :: L) → D.nx [some (.str z), some (.ref fa), some (.str (SX.S (scan1 ⟨f, w, d⟩ c).word)), some (.int (scan1 ⟨f, w, d⟩ c).deep), some (.str (SX.S [c]))] H') :
    t_top_words_2b K D [some (.str z), some (.ref fa), some (.str (SX.S w)), some (.int d), some (.str (SX.S [c]))] H := by
  have m1 : (c ∈ ("([" : Str).cps.toList) ↔ (c = 40 ∨ c = 91) := by show c ∈ [40, 91] ↔ _; simp
  have m2 : (c ∈ (")]" : Str).cps.toList) ↔ (c = 41 ∨ c = 93) := by show c ∈ [41, 93] ↔ _; simp
  have m3 : (SX.S [c] = (" " : Str)) ↔ c = 32 := ⟨fun e => by
    have := congrArg cps e
    exact (List.cons.inj (show [c] = [32] from this)).1, fun e => by rw [e]; rfl⟩
  have key : ∀ d2 : Int, d2 = scanDeep d c → t_top_words_2b_1 K D [some (.str z), some (.ref fa), some (.str (SX.S w)), some (.int d2), some (.str (SX.S [c]))] H := by
    intro d2 hd2
    subst hd2
    unfold t_top_words_2b_1
    walk_at "go"
    have stay : ¬ (c = 32 ∧ scanDeep d c = 0) → tAug 2 (tVar 4) rAddS D [some (.str z), some (.ref fa), some (.str (SX.S w)), some (.int (scanDeep d c)), some (.str (SX.S [c]))] H := fun hn => by
      refine rd_aug rfl ?_
      walk_at "go"
      refine rd_ipS (by rw [len_S, len_S]; exact sz_of (by rw [List.length_singleton]; omega)) ?_
      rw [SX.S_cat]
      have e : scan1 ⟨f, w, d⟩ c = ⟨f, w ++ [c], scanDeep d c⟩ := by unfold scan1; rw [if_neg hn]
      rw [e] at q
      exact q H S
    refine rd_dec (fun e1 => ?_) (fun e1 => ?_)
    · walk_at "go"
      refine rd_dec (fun e2 => ?_) (fun e2 => ?_)
      · walk_at "go"
        refine ⟨ty_list (sq_of (S.at 0 rfl)), ?_⟩
        walk_at "go"
        refine rd_app (S.at 0 rfl) (by rw [List.length_map]; omega) ?_
        unfold t_top_words_2b_1a_1
        walk_at "go"
        have e : scan1 ⟨f, w, d⟩ c = ⟨f ++ [w], [], scanDeep d c⟩ := by unfold scan1; rw [if_pos ⟨m3.mp e1, e2⟩]
        rw [e] at q
        refine q _ ?_
        rw [List.map_append]
        exact S.wr 0 rfl
      · exact stay fun h => e2 h.2
    · walk_at "go"
      exact stay fun h => e1 (m3.mpr h.1)
  unfold t_top_words_2b
  walk_at "go"
  refine .inl ⟨c, _, rfl, rfl, ?_⟩
  walk_at "go"
  refine rd_dec (fun e1 => ?_) (fun e1 => ?_)
  · walk_at "go"
    refine rd_aug rfl ?_
    walk_at "go"
    refine rd_ipI ?_
    exact key _ (by unfold scanDeep; rw [if_pos (m1.mp e1)])
  · walk_at "go"
    refine .inl ⟨c, _, rfl, rfl, ?_⟩
    walk_at "go"
    have n1 : ¬ (c = 40 ∨ c = 91) := fun h => e1 (m1.mpr h)
    refine rd_dec (fun e2 => ?_) (fun e2 => ?_)
    · walk_at "go"
      refine rd_aug rfl ?_
      walk_at "go"
      refine rd_ipI ?_
      exact key _ (by unfold scanDeep; rw [if_neg n1, if_pos (m2.mp e2)])
    · walk_at "go"
      exact key _ (by unfold scanDeep; rw [if_neg n1, if_neg fun h => e2 (m2.mpr h)])
theorem read_top_words {G : Hp} {L : List (Addr × HO)} {t : List Nat} {a1 a2 a3 a4 : Option V} (S : Stt G H L) (lt : t.length < 90000)
    (q : ∀ p G' H', Ex G G' → Stt G' H' L → SqL K G' p ((topW t).map fun w => V.str (SX.S w)) → D.rt (.ref p) H') : t_top_words K D [some (.str (SX.S t)), a1, a2, a3, a4] H := by
  unfold t_top_words
  walk_at "go"
  refine rd_dec (fun e1 => ?_) (fun e1 => ?_)
  · walk_at "go"
    have e : t = [] := congrArg cps e1
    subst e
    refine mk_lst stt_world S (Nat.zero_le _) fun p G1 e1 S1 h1 => ?_
    exact q p G1 _ e1 S1 (sq_of h1)
  · walk_at "go"
    have ne : t ≠ [] := fun z => e1 (by rw [z]; rfl)
    unfold t_top_words_1
    refine rd_seq (rd_parB ?_)
    walk_at "go"
    refine mk_lstM stt_world S (Nat.zero_le _) fun fa S1 => ?_
    refine ⟨_, _, _, rfl, ?_⟩
    unfold t_top_words_2
    refine rd_seq (rd_for (rd_is ?_))
    walk_at "go"
    refine ⟨_, rfl, ?_⟩
    refine for_go (walk_str (z := SX.S t)) (G := G) (fun i σ1 G2 H2 => ∃ x4 s, s = (t.take i).foldl scan1 ⟨[], [], 0⟩ ∧ σ1 = [some (.str (SX.S t)), some (.ref fa), some (.str (SX.S s.word)), some (.int s.deep), x4] ∧ Stt G H2 ((fa, .lst (s.found.map fun w => V.str (SX.S w))) :: L))
      ⟨a4, _, rfl, rfl, S1⟩ (fun _ _ _ _ _ _ => True.intro) ?_ ?_
    · rintro i x σ1 G2 H2 H3 hi ⟨x4, s, hs, rfl, S2⟩ y N hN
      obtain ⟨rfl, c, hc, rfl⟩ := y
      have hi2 : i < t.length := by simpa using hi
      have ln := scan_len (t.take i) ⟨[], [], 0⟩
      rw [← hs, List.length_take] at ln
      have hc2 : t[i]? = some c := by
        rw [← hc]
        simp
      walk_at "go"
      refine read_tw_turn S2 (by simp at ln; omega) (by simp at ln; omega) fun H4 S4 => hN _ G H4 ⟨_, _, ?_, rfl, S4⟩
      rw [List.take_add_one, hc2, hs, Option.toList_some, List.foldl_append]
      rfl
    · rintro σ1 G2 H2 ⟨x4, s, hs, rfl, S2⟩
      have hs2 : s = scanned t := by
        rw [hs, show (SX.S t).cps.size = t.length by simp, List.take_length]
        rfl
      have ln := scan_len t ⟨[], [], 0⟩
      have ln2 : s.found.length ≤ t.length := by
        rw [hs2]
        have := ln.2
        simp at this
        exact this
      unfold t_top_words_3
      walk_at "go"
      refine mk_lst stt_world S2 (by show 1 ≤ _; decide) fun p G3 e3 S3 h3 => ?_
      refine rd_addL (S3.at 0 rfl) (S3.ex _ _ h3) (by rw [List.length_map]; exact sz_of (by show _ + 1 ≤ _; omega)) ?_
      refine mk_im (o := .lst ((s.found.map fun w => V.str (SX.S w)) ++ [V.str (SX.S s.word)])) stt_world S3.drop fun p2 G4 e4 S4 h4 => ?_
      refine q p2 G4 _ (e3.trans e4) S4 (sq_of ?_)
      rw [h4]
      congr 2
      unfold topW
      rw [if_neg ne, List.map_append, ← hs2]
      rfl
theorem sat_top_words {vs : List V} {E : XK} (h : sp_top_words K vs H Q E) : vs.length = 1 ∧ t_top_words K { nx := fun _ H' => Q .non H', rt := Q } (vs.map some ++ List.replicate (5 - vs.length) none) H := by
  obtain ⟨t, G, L, rfl, lt, S, q⟩ := h
  exact ⟨rfl, read_top_words S lt q⟩
end

/-! Operators that a class gives its own meaning: ~o, x in o. -/
section
variable {X : Cx} {k j : Nat} {C : Addr} {sp : Sp}
theorem dget_units {A : Around} (hr : Room j A) : A.units + 1 < cLine := by have := hr.units; omega
/-- ~o -/
def rInvO (C : Addr) (sp : Sp) : V → Hp → VK → Prop := fun x H Q => ∃ a dx fs, x = .ref a ∧ H a = some (.ins C dx fs) ∧ sp [.ref a] H Q C8.E0
theorem un_own (c : C8.Met X.prog X.w X.K X.mg X.base k C "__invert__" sp []) (hr : Room j X.A) (hk : k ≤ j) : UnR X (unaryOp .Invert) (rInvO C sp) := by
  intro pins s σ H x v Q I rx h
  obtain ⟨a, dx, fs, rfl, ob, q⟩ := h
  cases rx
  obtain ⟨f, fd, ps, ds, hc, hm, F, b, d⟩ := c.ex; obtain ⟨mA, O, _⟩ := ins_get I.hok ob
  obtain ⟨od, J, _⟩ := O.look
  unfold unaryOp
  refine wpAny_holding ?_
  refine wpAny_bind (PySem.W.special_fn I.kIn J hm.at_ (beq_iff_eq.mp hm.fn) ?_)
  refine wpAny_mono (run_fn F (hr.mono hk) b d C8.pass0 I (vs := [.ref a]) (.cons (show RelV (V.ref a) (Value.ref a) from rfl) .nil) (by rw [List.append_nil]; exact q)) (fun r s' hr => ?_) fun _ _ z => z
  exact wpAny_pure hr
/-- x in o, where the answer is a truth value -/
def rInO (C : Addr) (sp : Sp) : R2 := fun x y H Q => ∃ a dx fs, y = .ref a ∧ H a = some (.ins C dx fs) ∧ sp [.ref a, x] H (fun v H' => ∃ b, v = .bl b ∧ Q (.bl b) H') C8.E0
theorem op_inO (c : C8.Met X.prog X.w X.K X.mg X.base k C "__contains__" sp []) (hr : Room j X.A) (hk : k ≤ j) : OpR X (compareOp .In) (rInO C sp) := by
  intro pins s σ H x y v u Q I rx ry h; obtain ⟨a, dx, fs, rfl, ob, q⟩ := h
  cases ry
  obtain ⟨f, fd, ps, ds, hc, hm, F, b, d⟩ := c.ex; obtain ⟨mA, O, _⟩ := ins_get I.hok ob
  obtain ⟨od, J, _⟩ := O.look
  have look : PySem.W.Looks (model X.prog X.w) s.heap (specialOf (.ref a) "__contains__") (some (.ref f)) := J.type.andThen (PySem.W.looks_findIn I.kIn hm.at_)
  show wpAny _ _ (contains (.ref a) v >>= fun b => pure (Value.bool b)) _ _ s
  unfold contains
  refine wpAny_bind (wpAny_holding ?_); refine wpAny_bind (look.here ?_)
  have hne : ((some (Value.ref f)) == (some Value.none)) = false := rfl
  rw [hne]
  unfold callSpecialUnlessNone?
  refine wpAny_bind (wpAny_bind (look.here ?_))
  refine wpAny_holding (wpAny_bind ((PySem.W.bind_fn I.kIn _ (beq_iff_eq.mp hm.fn)).here ?_))
  refine wpAny_bind (wpAny_mono (run_fn F (hr.mono hk) b d C8.pass0 I (vs := [.ref a, x]) (.cons (show RelV (V.ref a) (Value.ref a) from rfl) (.cons rx .nil)) (by rw [List.append_nil]; exact q)) (fun r s' hr => ?_) fun _ _ z => z)
  refine wpAny_pure ?_
  obtain ⟨w, H', I', rw', t, rfl, hq⟩ := hr
  cases rw'
  exact wpAny_pure (wpAny_pure ⟨.bl t, H', I', rfl, hq⟩)
/-! ### tuples whose one object is known (it has no dict): their methods -/
/-- (e, ..) -/
def tTupF (t : TA) : TE := fun σ H Q => t σ H fun xs H1 => xs.length ≤ sizeLine ∧ ∀ (p : Addr) (o : Obj), H1 p = none → o.dict = none → Q (.ref p) (upd H1 p (.frz o (.tup xs)))
theorem pe_tupF {es : List Expr} {t : TA} {c : Nat} {pos : Pos} (h : PA X es t) : PE X (.Tuple es c pos) (tTupF t) := by
  refine ⟨fun pins s σ H Q I w => wpAny_Tuple_spliced (thn (h.run pos pins s σ H _ I w) fun us s1 hx => ?_)⟩
  obtain ⟨xs, H1, I1, r, z, q⟩ := hx
  refine ⟨by rw [← r.length]; exact z, ⟨.ref s1.heap.objs.size, _, I1.laid (o := .frz _ (.tup xs)) (t' := s1.toks) (fun b u e => Heap.get?_push_of_some _ e) (Nat.le_refl _) ⟨Heap.get?_push_size _ rfl, z, us, r, ⟨_, Heap.get?_push_size _ rfl, rfl, _, rfl⟩⟩, rfl, q _ _ (I1.hok.fresh (Nat.le_refl _)) rfl⟩⟩
/-- tuple(x): of a list, a new tuple; a tuple itself -/
def gTupleF (K : PySem.W.Frag) : List V → Hp → VK → Prop := fun xs H Q => ∃ p ys, xs = [.ref p] ∧ ((SqL K H p ys ∧ ∀ (l : Addr) (o : Obj), H l = none → o.dict = none → Q (.ref l) (upd H l (.frz o (.tup ys)))) ∨ (SqT K H p ys ∧ Q (.ref p) H))
theorem cg_tupleF : CallR X (.type "tuple") (gTupleF X.K) := fun pins s σ H xs us Q I r h => by
  obtain ⟨p, ys, rfl, h⟩ := h
  obtain ⟨u, rfl, rx⟩ := vals1 r; cases rx
  cases h with
  | inr h => obtain ⟨its, _, pl, _⟩ := I.tuple h.1; exact call_tuple_same pl ⟨.ref p, H, I, rfl, h.2⟩
  | inl h =>
    obtain ⟨its, rv, pl, hz⟩ := I.list h.1
    have hl := rv.length
    refine call_tuple_list pl.isList (fun h' kp => ?_) (by rw [List.size_toArray]; omega)
    have J : Inv X pins σ H { s with heap := h' } := I.kept (t' := s.toks) kp
    exact ⟨.ref h'.objs.size, _, J.laid (o := .frz _ (.tup ys)) (t' := s.toks) (fun b o e => Heap.get?_push_of_some _ e) (Nat.le_refl _) ⟨Heap.get?_push_size _ rfl, hz, its, rv, IsTup.new _ _⟩, rfl, h.2 _ _ (J.hok.fresh (Nat.le_refl _)) rfl⟩
/-- t.m(e, ..), t such a tuple -/
def tBMT (r : V → List V → Hp → VK → Prop) (te : TE) (tr : TA) : TE := fun σ H Q => te σ H fun x H1 => (∃ p o ys, x = .ref p ∧ H1 p = some (.frz o (.tup ys)) ∧ o.dict = none) ∧ tr σ H1 fun xs H2 => r x xs H2 Q
theorem pe_bmT {name : Str} {id : String} {r : V → List V → Hp → VK → Prop} {o e : Expr} {es : List Expr} {to : TE} {t : TA} {apos cpos : Pos} (pa : PlainAttrs "tuple") (slot : Slot "tuple" name id) (hty : typeOf (.builtin id) = pure (.type "method_descriptor")) (hm : MtR X id r) (ho : PE X o to) (ha : PA X (e :: es) t) (hbase : attributeBase o name X.env (eval o X.env) = eval o X.env := by rfl)
    (hfew : ((backTo cpos (starEach (e :: es) X.env)).all (fun x => !x.1) && (backToKw cpos (keywordEach [] X.env)).all (fun x => x.1.isSome) && decide ((e :: es).length + ([] : List Keyword).length + (if ([] : List Keyword).isEmpty then 0 else 1) < 30)) = true := by rfl)
    (hline : (apos.endLine == cpos.line) = true := by rfl) (hs : starEach (e :: es) X.env = (false, eval e X.env) :: starEach es X.env := by rfl) (hplain : (backTo cpos (starEach es X.env)).any (·.1) = false := by rfl) : PE X (.Call (.Attribute o name apos) (e :: es) [] cpos) (tBMT r to t) := by
  refine ⟨fun pins s σ H Q I h => wpAny_Call_method_late hbase hfew hline rfl (thn (ho.run pins s σ H _ I h) fun v s1 hx => ?_)⟩
  obtain ⟨x, H1, I1, r1, ⟨p, ob, ys, rfl, hp, hd⟩, q1⟩ := hx
  cases r1
  obtain ⟨ge, _, its, _, o2, ge2, hc, _⟩ := I1.hok p _ hp
  rw [ge] at ge2
  cases ge2
  refine ⟨"tuple", id, pa, slot, hty, ⟨ob, ge, hc⟩, fun a z => by cases z; exact ⟨ob, ge, hd⟩, ?_⟩
  have A := ha.run cpos pins s1 σ H1 _ I1 q1
  rw [hs] at A ⊢
  exact Calls.callWith_builtin (show (false || (backTo cpos (starEach es X.env)).any (·.1)) = false by rw [hplain]; rfl) (Calls.evalArgs_plain (thn A fun us s2 ⟨vs, H2, I2, r2, q2⟩ => hm pins s2 σ H2 (.ref p) vs (.ref p) us Q I2 (show RelV (V.ref p) (Value.ref p) from rfl) r2 q2))
end

/-! Built-ins with one keyword; max and min of numbers with a default. -/
def CallKR (X : Cx) (f : Value) (kn : Str) (r : V → V → Hp → VK → Prop) : Prop :=
  ∀ (pins : List (Addr × Obj)) (s : Shared) (σ : L2.St) (H : Hp) (x d : V) (v w : Value) (Q : VK), Inv X pins σ H s → RelV x v → RelV d w → r x d H Q →
    wpAny (model X.prog X.w) X.A (call f [v] [(kn, w)]) (EP X pins σ Q) X.xe s
def tBK (r : V → V → Hp → VK → Prop) (t tk : TA) : TE := fun σ H Q => t σ H fun vs H1 => tk σ H1 fun zs H2 => ∃ a d, vs = [a] ∧ zs = [d] ∧ r a d H2 Q
theorem rd_bk {r : V → V → Hp → VK → Prop} {t tk : TA} {σ : L2.St} {H : Hp} {Q : VK} (q : t σ H fun vs H1 => tk σ H1 fun zs H2 => ∃ a d, vs = [a] ∧ zs = [d] ∧ r a d H2 Q) : tBK r t tk σ H Q := q
theorem rd_bk1 {P : V → V → Prop} {a d : V} (q : P a d) : ∃ a' d', [a] = [a'] ∧ [d] = [d'] ∧ P a' d' := ⟨a, d, rfl, rfl, q⟩
theorem pe_bK {X : Cx} {id : String} {kn x : Str} {p pos : Pos} {e : Expr} {kws : List Keyword} {t tk : TA} {r : V → V → Hp → VK → Prop} (hc : CallKR X (.builtin id) kn r) (hg : Gl X x) (hm : X.mg x = none) (hv : bootBuiltins x = some (.builtin id))
    (ha : PA X [e] t) (hk : PK X kws tk)
    (hks : (backToKw pos (keywordEach kws X.env)).filterMap (·.1) = [kn] := by rfl)
    (hn : x ≠ "__name__" := by decide) (hdb : (x == ("__debug__" : Str)) = false := by decide)
    (he : backTo pos (starEach [e] X.env) = (false, eval e X.env) :: backTo pos (starEach [] X.env) := by rfl) (hpl : (backTo pos (starEach [e] X.env)).any (·.1) = false := by rfl)
    (hall : (backToKw pos (keywordEach kws X.env)).all (·.1.isSome) = true := by rfl) (hno : (backToKw pos (keywordEach kws X.env)).any (·.1.isNone) = false := by rfl) :
    PE X (.Call (.Name x p) [e] kws pos) (tBK r t tk) := by
  constructor
  intro pins s σ H Q hI hQ
  apply wpAny_Call_Name_kw (ld_blt hI hg hm hv ?_ hn hdb)
  apply PyProof.Rows.callWith_kw ?_ he hpl hall hno
  apply thn (ha.run pos pins s σ H _ hI hQ)
  rintro us s1 ⟨vs, H1, hI1, r1, q1⟩
  apply thn (hk.run pos pins s1 σ H1 _ hI1 q1)
  rintro ws s2 ⟨zs, H2, hI2, r2, a, d, rfl, rfl, q⟩
  rw [hks]
  match r1, r2 with
  | .cons ra .nil, .cons rd .nil => exact hc pins s2 σ H2 a d _ _ Q hI2 ra rd q
def foldMax : List Int → Option Int
  | [] => none
  | n :: r => some (r.foldl max n)
def foldMin : List Int → Option Int
  | [] => none
  | n :: r => some (r.foldl min n)
def rMaxD (K : PySem.W.Frag) : V → V → Hp → VK → Prop := fun x d H Q => ∃ (a : Addr) (ns : List Int), x = .ref a ∧ SqL K H a (ns.map V.int) ∧ Q ((foldMax ns).elim d V.int) H
def rMinD (K : PySem.W.Frag) : V → V → Hp → VK → Prop := fun x d H Q => ∃ (a : Addr) (ns : List Int), x = .ref a ∧ SqL K H a (ns.map V.int) ∧ Q ((foldMin ns).elim d V.int) H
theorem depth_ints : ∀ ns : List Int, PyData.depthAll (ns.map PyData.int) = 0
  | [] => rfl
  | n :: ns => by
    show max 0 (PyData.depthAll (ns.map PyData.int)) = 0
    rw [depth_ints ns]; rfl
theorem alike_ints (ns : List Int) : PySem.W.AlikeAll (ns.map PyData.int) := by
  refine ⟨fun x hx y hy => ?_, fun x hx => ?_⟩
  · have ⟨_, _, h1⟩ := List.mem_map.mp hx
    have ⟨_, _, h2⟩ := List.mem_map.mp hy
    subst h1; subst h2; rfl
  · have ⟨_, _, h1⟩ := List.mem_map.mp hx
    subst h1
    exact fun z => nomatch z
theorem ck_max {X : Cx} (hc : X.calm = true) (hu : X.A.units + 64 < cLine) : CallKR X (.builtin "max") "default" (rMaxD X.K) := by
  rintro pins s σ H x d v w Q hI rx rd ⟨a, ns, rfl, hs, q⟩
  have ⟨its, rv, hl, _⟩ := hI.list hs
  cases rx
  have ⟨as, hr⟩ := Dp.readsAll hI _ _ its (DpAll.ints (K := X.K) (H := H) ns) rv
  have room : PyData.depthAll (ns.map PyData.int) = 0 := depth_ints ns
  apply PySem.W.max_list_default (hI.ok.hd hc) hl.isList hr (alike_ints ns) (by omega)
  · intro e h' tk hk
    cases List.map_eq_nil_iff.mp e
    exact ⟨_, H, hI.kept hk, rd, q⟩
  · intro y ys i v h' tk bs e hi r hk
    match ns, e with
    | n :: r2, e =>
      have ⟨e1, e2⟩ := List.cons.inj e
      subst e1 e2
      rw [PySem.W.maxD_ints] at r
      cases r
      exact ⟨.int (r2.foldl max n), H, hI.kept hk, ⟨_, rfl⟩, q⟩
theorem ck_min {X : Cx} (hc : X.calm = true) (hu : X.A.units + 64 < cLine) : CallKR X (.builtin "min") "default" (rMinD X.K) := by
  rintro pins s σ H x d v w Q hI rx rd ⟨a, ns, rfl, hs, q⟩
  have ⟨its, rv, hl, _⟩ := hI.list hs
  cases rx
  have ⟨as, hr⟩ := Dp.readsAll hI _ _ its (DpAll.ints (K := X.K) (H := H) ns) rv
  have room : PyData.depthAll (ns.map PyData.int) = 0 := depth_ints ns
  apply PySem.W.min_list_default (hI.ok.hd hc) hl.isList hr (alike_ints ns) (by omega)
  · intro e h' tk hk
    cases List.map_eq_nil_iff.mp e
    exact ⟨_, H, hI.kept hk, rd, q⟩
  · intro y ys i v h' tk bs e hi r hk
    match ns, e with
    | n :: r2, e =>
      have ⟨e1, e2⟩ := List.cons.inj e
      subst e1 e2
      rw [PySem.W.minD_ints] at r
      cases r
      exact ⟨.int (r2.foldl min n), H, hI.kept hk, ⟨_, rfl⟩, q⟩
def rMin2 : List V → Hp → VK → Prop := fun xs H Q => ∃ i j, xs = [.int i, .int j] ∧ Q (.int (if j < i then j else i)) H
theorem cg_max2 {X : Cx} (hc : X.calm = true) : CallR X (.builtin "max") Evl.rMax2 := call_max2 hc
theorem cg_min2 {X : Cx} (hc : X.calm = true) : CallR X (.builtin "min") rMin2 := call_min2 hc



local macro_rules | `(tactic| walk_at "gs1") => `(tactic| first
  | walk_at "go1"
  | with_reducible refine rd_fld ?_
  | with_reducible refine rd_sfld ?_
  | with_reducible refine rd_meth ?_
  | with_reducible refine rd_prop ?_
  | with_reducible refine rd_mkR ?_
  | with_reducible refine rd_stc ?_
  | with_reducible refine rd_star ?_
  | with_reducible refine rd_bk ?_
  | with_reducible refine rd_ipI ?_
  | with_reducible refine rd_joinS ?_
  | with_reducible refine rd_join ?_
  | with_reducible refine rd_lenSetS ?_
  | with_reducible refine rd_lc ?_
  | with_reducible refine rd_for ?_
  | with_reducible refine rd_il ?_
  | with_reducible refine rd_it ?_
  | with_reducible refine rd_sq ?_
  | with_reducible refine rd_is ?_
  | with_reducible refine rd_rng1 ?_
  | with_reducible refine rd_enumT ?_
  | with_reducible refine rd_zipA ?_
  | with_reducible refine rd_zipMx ?_
  | with_reducible refine rd_parB ?_
  | ((with_reducible refine' rd_aug ?hv ?_); (case hv => exact rfl))
  | walk_at "isi"
  | walk_at "dc")
local macro_rules | `(tactic| walk_at "gs") => `(tactic| (repeat walk_at "gs1"); (try dsimp only))

def schF (tf tl : Addr) : List (Str × V) := putF "_lists" (.ref tl) (putF "fields" (.ref tf) [])
theorem schF_eq (tf tl : Addr) : schF tf tl = ([("fields", .ref tf), ("_lists", .ref tl)] : List (Str × V)) := by
  unfold schF
  show (if ("fields" : Str) = "_lists" then _ else (("fields" : Str), V.ref tf) :: putF "_lists" (.ref tl) []) = _
  rw [if_neg (by decide +kernel)]; rfl
theorem schF_f (tf tl : Addr) : (schF tf tl).lookup ("fields" : Str) = some (.ref tf) := by
  unfold schF
  rw [lookup_putF, if_neg (by decide +kernel), lookup_putF, if_pos rfl]
theorem schF_l (tf tl : Addr) : (schF tf tl).lookup ("_lists" : Str) = some (.ref tl) := by
  unfold schF
  rw [lookup_putF, if_pos rfl]
theorem schF_no (tf tl : Addr) {m : Str} (h1 : ¬ m = "_lists") (h2 : ¬ m = "fields") : (schF tf tl).lookup m = none := by
  unfold schF; rw [lookup_putF, if_neg h1, lookup_putF, if_neg h2]
  rfl
/-- a tuple whose one object is known and has no dict -/
def FT (K : PySem.W.Frag) (H : Hp) (a : Addr) (xs : List V) : Prop := SqT K H a xs ∧ ∃ (o : Obj) (ys : List V), H a = some (.frz o (.tup ys)) ∧ o.dict = none
theorem FT.ex {K : PySem.W.Frag} {H H' : Hp} {a : Addr} {xs : List V} (e : Ex H H') (h : FT K H a xs) : FT K H' a xs := ⟨ex_t e h.1, have ⟨o, ys, h1, h2⟩ := h.2; ⟨o, ys, e _ _ h1, h2⟩⟩
theorem FT.of {K : PySem.W.Frag} {H : Hp} {a : Addr} {xs : List V} {o : Obj} (h : H a = some (.frz o (.tup xs))) (hd : o.dict = none) : FT K H a xs := ⟨.inl (.inr ⟨o, h⟩), o, xs, h, hd⟩
mutual
inductive SchAt (K : PySem.W.Frag) (H : Hp) : V → Lev → Prop where
  | mk {x dx tf tl : Addr} {fs : List Str} {ls : LevL} {ps : List Addr} (ob : H x = some (.ins (cls_at K "Schema") dx (schF tf tl))) (hf : FT K H tf (fs.map V.str)) (hl : SqT K H tl (ps.map V.ref)) (h : SchAll K H ps ls) : SchAt K H (.ref x) (.mk fs ls)
inductive SchAll (K : PySem.W.Frag) (H : Hp) : List Addr → LevL → Prop where
  | nil : SchAll K H [] .nil
  | cons {p : Addr} {n : Str} {v : V} {l : Lev} {ps : List Addr} {ls : LevL} (hp : SqT K H p [.str n, v]) (hv : SchAt K H v l) (r : SchAll K H ps ls) : SchAll K H (p :: ps) (.cons n l ls)
end
mutual
theorem SchAt.ex {K : PySem.W.Frag} {H H' : Hp} (e : Ex H H') : ∀ {v : V} {l : Lev}, SchAt K H v l → SchAt K H' v l
  | _, _, .mk ob hf hl h => .mk (e _ _ ob) (hf.ex e) (ex_t e hl) (SchAll.ex e h)
theorem SchAll.ex {K : PySem.W.Frag} {H H' : Hp} (e : Ex H H') : ∀ {ps : List Addr} {ls : LevL}, SchAll K H ps ls → SchAll K H' ps ls
  | _, _, .nil => .nil
  | _, _, .cons hp hv r => .cons (ex_t e hp) (SchAt.ex e hv) (SchAll.ex e r)
end
theorem SchAll.len {K : PySem.W.Frag} {H : Hp} : ∀ {ps : List Addr} {ls : LevL}, SchAll K H ps ls → ps.length = ls.names.length
  | _, _, .nil => rfl
  | _, _, .cons _ _ r => by rw [List.length_cons, LevL.names, List.length_cons, SchAll.len r]
theorem SchAll.at {K : PySem.W.Frag} {H : Hp} : ∀ {ps : List Addr} {ls : LevL} {i : Nat} {x : V}, SchAll K H ps ls → (ps.map V.ref)[i]? = some x → ∃ p n v l, x = .ref p ∧ SqT K H p [.str n, v] ∧ ls.names[i]? = some n ∧ ls.levs[i]? = some l ∧ SchAt K H v l
  | _, _, i, x, .nil, h => by simp at h
  | _, _, 0, x, .cons hp hv _, h => by
    cases (Option.some.inj h)
    exact ⟨_, _, _, _, rfl, hp, rfl, rfl, hv⟩
  | _, _, i + 1, x, .cons _ _ r, h => SchAll.at r (i := i) h
section
variable {K : PySem.W.Frag} [SK : SchK K] {σ : L2.St} {G H : Hp} {L : List (Addr × HO)} {Q : VK} {D : Ends} {x dx tf tl : Addr} {te : TE}
theorem rd_Sfields {P : V → Prop} (ob : H x = some (.ins (cls_at K "Schema") dx (schF tf tl))) (q : P (.ref tf)) : ∃ a C dx fs v, V.ref x = .ref a ∧ H a = some (.ins C dx fs) ∧ Cls K C ∧ NoAttr K C "fields" ∧ fs.lookup ("fields" : Str) = some v ∧ P v :=
  ⟨x, _, _, _, _, rfl, ob, SK.ins.cl, SK.nF, schF_f tf tl, q⟩
theorem rd_Slists {P : V → Prop} (ob : H x = some (.ins (cls_at K "Schema") dx (schF tf tl))) (q : P (.ref tl)) : ∃ a C dx fs v, V.ref x = .ref a ∧ H a = some (.ins C dx fs) ∧ Cls K C ∧ NoAttr K C "_lists" ∧ fs.lookup ("_lists" : Str) = some v ∧ P v :=
  ⟨x, _, _, _, _, rfl, ob, SK.ins.cl, SK.nL, schF_l tf tl, q⟩
/-! ### lists() -/
def sp_Schema_lists (K : PySem.W.Frag) : Sp := fun vs H Q _ => ∃ (x dx tf tl : Addr) (ps : List Addr) (G : Hp) (L : List (Addr × HO)), vs = [.ref x] ∧ Stt G H L ∧ G x = some (.ins (cls_at K "Schema") dx (schF tf tl)) ∧ SqT K G tl (ps.map V.ref) ∧
  ∀ p G' H', Ex G G' → Stt G' H' L → SqL K G' p (ps.map V.ref) → Q (.ref p) H'
def t_Schema_lists (K : PySem.W.Frag) : TS :=
  (tRet (tCB (gList K) (tCons (tFld K (tVar 0) "_lists") tNil)))
theorem sat_Schema_lists {vs : List V} {E : XK} (h : sp_Schema_lists K vs H Q E) : vs.length = 1 ∧ t_Schema_lists K { nx := fun _ H' => Q .non H', rt := Q } (vs.map some ++ List.replicate (1 - vs.length) none) H := by
  obtain ⟨x, dx, tf, tl, ps, G, L, rfl, S, ob, hl, q⟩ := h
  refine ⟨rfl, ?_⟩
  unfold t_Schema_lists
  walk_at "gs"
  refine rd_Slists (S.ex _ _ ob) ?_
  walk_at "gs"
  refine ⟨tl, _, rfl, .inr (ex_t S.ex hl), ?_⟩
  exact mk_im (o := .lst (ps.map V.ref)) stt_world S fun p G1 e1 S1 h1 => q p G1 _ e1 S1 (sq_of h1)
/-! ### depth -/
def sp_Schema_depth (K : PySem.W.Frag) (n : Nat) : Sp := fun vs H Q _ => ∃ (v : V) (l : Lev) (G : Hp) (L : List (Addr × HO)), vs = [v] ∧ Stt G H L ∧ SchAt K G v l ∧ l.depth ≤ n ∧ l.good ∧ ∀ H', Stt G H' L → Q (.int l.depth) H'
theorem never_Schema_depth (K : PySem.W.Frag) : ∀ vs H Q E, sp_Schema_depth K 0 vs H Q E → False := fun vs H Q E ⟨v, l, G, L, _, _, _, h, _⟩ => by
  have := l.depth_pos
  omega
def t_Schema_depth (K : PySem.W.Frag) (n : Nat) : TS :=
  (tRet (tOp (gAdd K) (tC (.int 1)) (tBK (rMaxD K) (tCons (tLc (iTup K (tFld K (tVar 0) "_lists")) (gTup K 2 (gCons (gName 1) (gCons (gName 2) gNil))) tYes (tProp (cls_at K "Schema") (sp_Schema_depth K n) [] E0 (tVar 2)) [1, 2]) tNil) (tCons (tC (.int 0)) tNil))))
theorem LevL.depth_get : ∀ (r : LevL) (i : Nat) (l : Lev), r.levs[i]? = some l → l.depth ≤ r.depth
  | .nil, i, l, h => by simp [LevL.levs] at h
  | .cons n m r, 0, l, h => by
    rw [LevL.levs] at h
    cases (Option.some.inj h)
    rw [LevL.depth]
    exact Nat.le_max_left _ _
  | .cons n m r, i + 1, l, h => by
    rw [LevL.levs] at h
    rw [LevL.depth]
    exact Nat.le_trans (LevL.depth_get r i l h) (Nat.le_max_right _ _)
theorem LevL.good_get : ∀ (r : LevL) (i : Nat) (l : Lev), r.good → r.levs[i]? = some l → l.good
  | .nil, i, l, _, h => by simp [LevL.levs] at h
  | .cons n m r, 0, l, g, h => by
    rw [LevL.levs] at h
    cases (Option.some.inj h)
    rw [LevL.good] at g
    exact g.2.1
  | .cons n m r, i + 1, l, g, h => by
    rw [LevL.levs] at h
    rw [LevL.good] at g
    exact LevL.good_get r i l g.2.2 h
theorem max_depths : ∀ (r : LevL) (m : Int), 0 ≤ m → (r.levs.map fun l => (l.depth : Int)).foldl max m = max m r.depth
  | .nil, m, h => by
    rw [LevL.levs, LevL.depth]
    show m = _
    omega
  | .cons n l r, m, h => by
    rw [LevL.levs, LevL.depth, List.map_cons, List.foldl_cons, max_depths r _ (by omega)]
    omega
theorem fold_depths (r : LevL) : (foldMax (r.levs.map fun l => (l.depth : Int))).elim (V.int 0) V.int = .int r.depth := by
  cases r with
  | nil => rw [LevL.levs, LevL.depth]; rfl
  | cons n l r =>
    rw [LevL.levs, LevL.depth, List.map_cons]
    show V.int ((r.levs.map fun l => (l.depth : Int)).foldl max (l.depth : Int)) = _
    rw [max_depths r _ (by omega)]
    congr 1
    omega
theorem sat_Schema_depth {n : Nat} {vs : List V} {E : XK} (h : sp_Schema_depth K (n + 1) vs H Q E) : vs.length = 1 ∧ t_Schema_depth K n { nx := fun _ H' => Q .non H', rt := Q } (vs.map some ++ List.replicate (3 - vs.length) none) H := by
  obtain ⟨v, l, G, L, rfl, S, hv, hd, gd, q⟩ := h
  refine ⟨rfl, ?_⟩
  cases hv with
  | @mk x dx tf tl fs ls ps ob hf hl hA =>
  rw [Lev.depth] at hd q
  rw [Lev.good] at gd
  unfold t_Schema_depth
  walk_at "gs"
  refine rd_Slists (S.ex _ _ ob) ?_
  walk_at "gs"
  refine ⟨tl, rfl, ⟨_, ex_t S.ex hl⟩, ?_⟩
  have hlen := SchAll.len hA
  have hlv := LevL.len_levs ls
  refine lc_go stt_world (walk_tup (xs := ps.map V.ref)) S (by rw [List.length_map]; omega) (fun i v _ => (ps.map V.ref)[i]? = some v) (fun i acc _ => acc = ((ls.levs.take i).map fun l => (l.depth : Int)).map V.int) (fun H' e' => ex_t e' hl)
    (fun i x G1 H1 H2 L1 _ e1 S1 y => item_at S1 y) rfl (fun _ _ _ _ _ h => h) ?_ ?_
  · intro D1 i x acc G1 H1 hi _ e1 S1 I1 it Kp Sk kp sk
    obtain ⟨p, nm, v, l, rfl, hp, hn, hl2, hv⟩ := SchAll.at hA it
    refine rd_gtup2 (ex_t (e1.trans S1.ex) hp) ⟨rfl, ?_⟩
    refine rd_yes (rd_iT ?_)
    walk_at "gs"
    have dl := LevL.depth_get ls i l hl2
    cases hv with
    | @mk x2 dx2 tf2 tl2 fs2 ls2 ps2 ob2 hf2 hl3 hA2 =>
    refine ⟨x2, _, _, rfl, S1.ex _ _ (e1 _ _ ob2), ?_⟩
    refine ⟨_, _, G1, _, rfl, S1, (SchAt.mk ob2 hf2 hl3 hA2).ex e1, by omega, LevL.good_get ls i _ gd.2.2.2.2.2 hl2, fun H3 S3 => kp _ G1 H3 (Ex.refl _) S3 ?_⟩
    rw [I1, List.take_add_one, hl2, List.map_append, List.map_append]
    rfl
  · intro D1 acc G2 H2 e2 S2 I2 _
    have hacc : acc = (ls.levs.map fun l => (l.depth : Int)).map V.int := by
      rw [I2, List.take_of_length_le (by rw [List.length_map]; omega)]
    subst hacc
    walk_at "gs"
    refine rd_bk1 ⟨D1, _, rfl, sq_of (S2.at 0 rfl), ?_⟩
    rw [fold_depths]
    refine rd_addI ?_
    have := q H2 (S2.drop.less e2)
    rw [show ((1 + ls.depth : Nat) : Int) = 1 + (ls.depth : Int) by omega] at this
    exact this
end




/-! ### how long a text may be -/
theorem join_le : ∀ ws : List (List Nat), (TL.joinL [32] ws).length ≤ (ws.map fun w => w.length + 1).sum
  | [] => Nat.le_refl _
  | [w] => by show w.length ≤ (w.length + 1) + 0; omega
  | w :: v :: ws => by
    have := join_le (v :: ws)
    show (w ++ ([32] ++ TL.joinL [32] (v :: ws))).length ≤ (w.length + 1) + ((v :: ws).map fun w => w.length + 1).sum
    rw [List.length_append, List.length_append, List.length_singleton]
    omega
theorem sum_le_join : ∀ ws : List (List Nat), (ws.map List.length).sum ≤ (TL.joinL [32] ws).length
  | [] => Nat.le_refl _
  | [w] => by show w.length + 0 ≤ w.length; omega
  | w :: v :: ws => by
    have := sum_le_join (v :: ws)
    show w.length + ((v :: ws).map List.length).sum ≤ (w ++ ([32] ++ TL.joinL [32] (v :: ws))).length
    rw [List.length_append, List.length_append]
    omega
theorem sum_few (B : Nat) : ∀ ws : List (List Nat), (∀ w, w ∈ ws → w.length + 1 ≤ B) → (ws.map fun w => w.length + 1).sum ≤ ws.length * B
  | [], _ => Nat.zero_le _
  | w :: ws, h => by
    have h1 := h w (List.mem_cons_self ..)
    have h2 := sum_few B ws fun x hx => h x (List.mem_cons_of_mem _ hx)
    rw [List.map_cons, List.sum_cons, List.length_cons, Nat.succ_mul]; omega
theorem pow_pos2 (n : Nat) : 1 ≤ 2 ^ n := Nat.one_le_two_pow
theorem name_len {z : Str} (h : NameOk z) : (cps z).length ≤ 8 := by
  rw [len_cps]
  exact (nameOk_len h).2
mutual
theorem Lev.len_tx : ∀ l : Lev, l.good → l.tx.length + 80 ≤ 80 * 2 ^ l.depth
  | .mk fs ls, h => by
    rw [Lev.good] at h
    rw [Lev.tx, Lev.depth]
    refine Nat.le_trans (Nat.add_le_add_right (join_le _) 80) ?_
    rw [List.map_append, List.sum_append]
    have h1 := sum_few 9 (fs.map cps) fun w hw => by
      obtain ⟨n, hn, rfl⟩ := List.mem_map.mp hw
      have := name_len (h.2.2.1 n hn)
      omega
    have hp : 80 ≤ 80 * 2 ^ ls.depth := Nat.le_mul_of_pos_right _ (Nat.two_pow_pos _)
    have h2 := sum_few (80 * 2 ^ ls.depth - 69) ls.tws fun w hw => by
      have := LevL.len_tws2 ls h.2.2.2.2.2 w hw
      omega
    have h3 := LevL.len_tws ls
    rw [List.length_map] at h1
    have h4 : ls.tws.length * (80 * 2 ^ ls.depth - 69) ≤ 2 * (80 * 2 ^ ls.depth - 69) := Nat.mul_le_mul_right _ (by rw [h3]; exact h.2.2.2.2.1)
    have h5 : 80 * 2 ^ (1 + ls.depth) = 2 * (80 * 2 ^ ls.depth) := by rw [Nat.pow_add, Nat.pow_one]; omega
    have h6 := h.2.1
    rw [h5]
    omega
theorem LevL.len_tws2 : ∀ r : LevL, r.good → ∀ w, w ∈ r.tws → w.length + 70 ≤ 80 * 2 ^ r.depth
  | .nil, _, w, hw => by rw [LevL.tws] at hw; cases hw
  | .cons n l r, h, w, hw => by
    rw [LevL.good] at h
    rw [LevL.tws] at hw
    rw [LevL.depth]
    have up : ∀ a, a ≤ max l.depth r.depth → 80 * 2 ^ a ≤ 80 * 2 ^ max l.depth r.depth := fun a ha => Nat.mul_le_mul_left _ (Nat.pow_le_pow_right (by decide) ha)
    rcases List.mem_cons.mp hw with rfl | hw
    · have h1 := Lev.len_tx l h.2.1
      have h2 := name_len h.1
      have h3 := up l.depth (Nat.le_max_left _ _)
      rw [List.length_append, List.length_cons, List.length_append, List.length_singleton]
      omega
    · have h1 := LevL.len_tws2 r h.2.2 w hw
      have h3 := up r.depth (Nat.le_max_right _ _)
      omega
end
theorem Lev.tx_small {l : Lev} (h : l.good) (d : l.depth ≤ 9) : l.tx.length < 41000 := by
  have h1 := Lev.len_tx l h
  have h2 : 80 * 2 ^ l.depth ≤ 80 * 2 ^ 9 := Nat.mul_le_mul_left _ (Nat.pow_le_pow_right (by decide) d)
  have h3 : 80 * 2 ^ 9 = 40960 := by decide
  omega
section
variable {K : PySem.W.Frag} [SK : SchK K] {σ : L2.St} {G H : Hp} {L : List (Addr × HO)} {Q : VK} {D : Ends} {x dx tf tl : Addr} {te : TE}
def sp_Schema_text (K : PySem.W.Frag) (n : Nat) : Sp := fun vs H Q _ => ∃ (v : V) (l : Lev) (G : Hp) (L : List (Addr × HO)), vs = [v] ∧ Stt G H L ∧ SchAt K G v l ∧ l.depth ≤ n ∧ l.depth ≤ 9 ∧ l.good ∧ ∀ H', Stt G H' L → Q (.str (SX.S l.tx)) H'
theorem never_Schema_text (K : PySem.W.Frag) : ∀ vs H Q E, sp_Schema_text K 0 vs H Q E → False := fun vs H Q E ⟨v, l, G, L, _, _, _, h, _⟩ => by
  have := l.depth_pos
  omega
def t_Schema_text (K : PySem.W.Frag) (n : Nat) : TS :=
  (tRet (tJoinS K " " (tOp (gAdd K) (tCB (gList K) (tCons (tFld K (tVar 0) "fields") tNil)) (tLc (iTup K (tFld K (tVar 0) "_lists")) (gTup K 2 (gCons (gName 1) (gCons (gName 2) gNil))) tYes (tFs [(tFmt (tVar 1)), (tC (.str "(")), (tFmt (tMeth (cls_at K "Schema") "text" (sp_Schema_text K n) [] E0 (tVar 2) tNil)), (tC (.str ")"))]) [1, 2]))))
theorem LevL.tws_get : ∀ (r : LevL) (i : Nat) (n : Str) (l : Lev), r.names[i]? = some n → r.levs[i]? = some l → r.tws[i]? = some (cps n ++ (40 :: (l.tx ++ [41])))
  | .nil, i, n, l, h, _ => by simp [LevL.names] at h
  | .cons m k r, 0, n, l, h1, h2 => by
    rw [LevL.names] at h1
    rw [LevL.levs] at h2
    cases (Option.some.inj h1)
    cases (Option.some.inj h2)
    rw [LevL.tws]
    rfl
  | .cons m k r, i + 1, n, l, h1, h2 => by
    rw [LevL.names] at h1
    rw [LevL.levs] at h2
    rw [LevL.tws]
    exact LevL.tws_get r i n l h1 h2
theorem LevL.name_get : ∀ (r : LevL) (i : Nat) (n : Str), r.good → r.names[i]? = some n → NameOk n
  | .nil, i, n, _, h => by simp [LevL.names] at h
  | .cons m k r, 0, n, g, h => by
    rw [LevL.names] at h
    cases (Option.some.inj h)
    rw [LevL.good] at g
    exact g.1
  | .cons m k r, i + 1, n, g, h => by
    rw [LevL.names] at h
    rw [LevL.good] at g
    exact LevL.name_get r i n g.2.2 h
/-- a list's text -/
theorem item_textS (a t : List Nat) : (((("" : Str) ++ SX.S a) ++ ("(" : Str)) ++ SX.S t) ++ (")" : Str) = SX.S (a ++ (40 :: (t ++ [41]))) := by
  have e0 : ("" : Str) = SX.S [] := rfl
  have e1 : ("(" : Str) = SX.S [40] := rfl
  have e2 : (")" : Str) = SX.S [41] := rfl
  rw [e0, e1, e2, SX.S_cat, SX.S_cat, SX.S_cat, SX.S_cat]
  exact congrArg SX.S (by simp)
theorem item_text (n : Str) (t : List Nat) : (((("" : Str) ++ n) ++ ("(" : Str)) ++ SX.S t) ++ (")" : Str) = SX.S (cps n ++ (40 :: (t ++ [41]))) := by
  have := item_textS (cps n) t
  rwa [S_cps] at this
theorem strs_texts (l : List Str) : l.map V.str = (l.map cps).map fun w => V.str (SX.S w) := by
  rw [List.map_map]
  exact List.map_congr_left fun z _ => congrArg V.str (S_cps z).symm
theorem sat_Schema_text {n : Nat} {vs : List V} {E : XK} (h : sp_Schema_text K (n + 1) vs H Q E) : vs.length = 1 ∧ t_Schema_text K n { nx := fun _ H' => Q .non H', rt := Q } (vs.map some ++ List.replicate (3 - vs.length) none) H := by
  obtain ⟨v, l, G, L, rfl, S, hv, hd, h9, gd, q⟩ := h
  refine ⟨rfl, ?_⟩
  have small := Lev.tx_small gd h9
  have sz : ∀ n : Nat, n < 90000 → n ≤ sizeLine := fun n h => sz_of (by omega)
  cases hv with
  | @mk x dx tf tl fs ls ps ob hf hl hA =>
  rw [Lev.depth] at hd h9
  rw [Lev.good] at gd
  unfold t_Schema_text
  walk_at "gs"
  refine rd_Sfields (S.ex _ _ ob) ?_
  walk_at "gs"
  refine ⟨tf, _, rfl, .inr (ex_t S.ex hf.1), ?_⟩
  refine mk_im (o := .lst (fs.map V.str)) stt_world S fun p1 G1 e1 S1 h1 => ?_
  walk_at "gs"
  refine rd_Slists (S1.ex _ _ (e1 _ _ ob)) ?_
  walk_at "gs"
  refine ⟨tl, rfl, ⟨_, ex_t (e1.trans S1.ex) hl⟩, ?_⟩
  have hlen := SchAll.len hA
  have hlv := LevL.len_levs ls
  have hlt := LevL.len_tws ls
  refine lc_go stt_world (walk_tup (xs := ps.map V.ref)) S1 (by rw [List.length_map]; omega) (fun i v _ => (ps.map V.ref)[i]? = some v) (fun i acc _ => acc = (ls.tws.take i).map fun w => V.str (SX.S w)) (fun H' e' => ex_t (e1.trans e') hl)
    (fun i x G1 H1 H2 L1 _ e1 S1 y => item_at S1 y) rfl (fun _ _ _ _ _ h => h) ?_ ?_
  · intro D1 i x acc G2 H2 hi _ e2 S2 I2 it Kp Sk kp sk
    obtain ⟨p, nm, v, l, rfl, hp, hn, hl2, hv⟩ := SchAll.at hA it
    have e12 := e1.trans e2
    refine rd_gtup2 (ex_t (e12.trans S2.ex) hp) ⟨rfl, ?_⟩
    refine rd_yes (rd_iT ?_)
    have dl := LevL.depth_get ls i l hl2
    have gl := LevL.good_get ls i l gd.2.2.2.2.2 hl2
    have sl := Lev.tx_small gl (by omega)
    have nl := nameOk_len (LevL.name_get ls i nm gd.2.2.2.2.2 hn)
    have hw := LevL.tws_get ls i nm l hn hl2
    have e0 : ("" : Str).length = 0 := rfl
    have e1l : ("(" : Str).length = 1 := rfl
    have e2l : (")" : Str).length = 1 := rfl
    refine rd_fs (rd_js (rd_fmt ?_))
    walk_at "gs"
    refine .inl ⟨nm, rfl, sz _ (by omega), nm, rfl, ?_, ?_⟩
    · refine sz _ ?_
      show (("" : Str) ++ nm).length < _
      rw [len_add]
      omega
    refine rd_js ?_
    walk_at "gs"
    refine ⟨"(", rfl, ?_, ?_⟩
    · refine sz _ ?_
      show ((("" : Str) ++ nm) ++ ("(" : Str)).length < _
      rw [len_add, len_add]
      omega
    refine rd_js (rd_fmt ?_)
    walk_at "gs"
    cases hv with
    | @mk x2 dx2 tf2 tl2 fs2 ls2 ps2 ob2 hf2 hl3 hA2 =>
    refine ⟨x2, _, _, rfl, S2.ex _ _ (e12 _ _ ob2), schF_no _ _ (by decide +kernel) (by decide +kernel), ?_⟩
    walk_at "gs"
    refine ⟨_, _, G2, _, rfl, S2, (SchAt.mk ob2 hf2 hl3 hA2).ex e12, by omega, by omega, gl, fun H3 S3 => ?_⟩
    refine .inl ⟨_, rfl, by rw [len_S]; exact sz _ (by omega), _, rfl, ?_, ?_⟩
    · refine sz _ ?_
      show (((("" : Str) ++ nm) ++ ("(" : Str)) ++ SX.S (Lev.mk fs2 ls2).tx).length < _
      rw [len_add, len_add, len_add, len_S (Lev.mk fs2 ls2).tx]
      omega
    refine rd_js ?_
    walk_at "gs"
    refine ⟨")", rfl, ?_, ?_⟩
    · refine sz _ ?_
      show ((((("" : Str) ++ nm) ++ ("(" : Str)) ++ SX.S (Lev.mk fs2 ls2).tx) ++ (")" : Str)).length < _
      rw [len_add, len_add, len_add, len_add, len_S (Lev.mk fs2 ls2).tx]
      omega
    refine rd_js0 ?_
    show Kp (.str ((((("" : Str) ++ nm) ++ ("(" : Str)) ++ SX.S (Lev.mk fs2 ls2).tx) ++ (")" : Str))) H3
    rw [item_text]
    refine kp _ G2 H3 (Ex.refl _) S3 ?_
    rw [I2, List.take_add_one, hw, List.map_append]
    rfl
  · intro D1 acc G2 H2 e2 S2 I2 _
    have hacc : acc = ls.tws.map fun w => V.str (SX.S w) := by
      rw [I2, List.take_of_length_le (by rw [List.length_map]; omega)]
    subst hacc
    walk_at "gs"
    refine rd_addL (S2.ex _ _ (e2 _ _ h1)) (S2.at 0 rfl) (sz _ (by rw [List.length_map, List.length_map]; have := gd.2.1; have := gd.2.2.2.2.1; omega)) ?_
    refine mk_im (o := .lst (fs.map V.str ++ ls.tws.map fun w => V.str (SX.S w))) stt_world S2.drop fun p2 G3 e3 S3 h3 => ?_
    have hsum := sum_le_join (fs.map cps ++ ls.tws)
    rw [Lev.tx] at small
    refine ⟨p2, (fs.map cps ++ ls.tws).map SX.S, rfl, sq_of ?_, ?_, ?_⟩
    · rw [S3.ex _ _ h3, strs_texts, ← List.map_append, List.map_map]
      rfl
    · have e : ((fs.map cps ++ ls.tws).map SX.S).map (·.length) = (fs.map cps ++ ls.tws).map List.length := by
        rw [List.map_map]
        exact List.map_congr_left fun w _ => len_S w
      rw [e, List.length_map, List.length_append, List.length_map]
      have h1 : (" " : Str).length = 1 := rfl
      have := gd.2.1
      have := gd.2.2.2.2.1
      rw [h1]
      omega
    · have hj : Txt.join " " ((fs.map cps ++ ls.tws).map SX.S) = SX.S (Lev.mk fs ls).tx := by
        rw [Lev.tx]
        exact SX.join_S [32] _
      rw [hj]
      exact q _ (S3.less (e1.trans (e2.trans e3)))
end




def v_MOST_FIELDS : V := .int 3
def v_MOST_LISTS : V := .int 2
def v_MOST_LEVELS : V := .int 3
section
variable {K : PySem.W.Frag} [SK : SchK K] [CK : Consts K] {σ : L2.St} {G H : Hp} {L : List (Addr × HO)} {Q : VK} {D : Ends} {x dx tf tl : Addr} {te : TE}
def SqE (K : PySem.W.Frag) (H : Hp) (a : Addr) (xs : List V) : Prop := SqL K H a xs ∨ SqT K H a xs
theorem SqE.ex {H H' : Hp} {a : Addr} {xs : List V} (e : Ex H H') (h : SqE K H a xs) : SqE K H' a xs := h.imp (ex_l e) (ex_t e)
theorem rd_lenE {a : Addr} {xs : List V} (h : SqE K H a xs) (q : Q (.int xs.length) H) : gLen K [.ref a] H Q := h.elim (fun z => rd_lenL z q) (fun z => rd_lenT z q)
theorem SqE.tyx {a : Addr} {xs : List V} (h : SqE K H a xs) : TyX K H (.ref a) (.type "list") ∨ TyX K H (.ref a) (.type "tuple") := h.imp SqL.ty SqT.ty
/-- isinstance(x, (list, tuple)) of such -/
theorem rd_isE {a tp : Addr} {xs : List V} (ht : H tp = some (.tup [.ty "list", .ty "tuple"])) (h : SqE K H a xs) (q : Q (.bl true) H) : gIsi K [.ref a, .ref tp] H Q := by
  rcases h.tyx with ty | ty
  · exact .inr ⟨_, tp, [.ty "list", .ty "tuple"], .type "list", [.type "list", .type "tuple"], true, rfl, ht, .cons (.ty _) (.cons (.ty _) .nil), ty, kitAny_cons (kit_ty kt_list_list) (fun z => nomatch z) (fun _ => rfl), q⟩
  · exact .inr ⟨_, tp, [.ty "list", .ty "tuple"], .type "tuple", [.type "list", .type "tuple"], true, rfl, ht, .cons (.ty _) (.cons (.ty _) .nil), ty,
      kitAny_cons (b := false) (kit_ty kt_tuple_list) (fun _ => kitAny_cons (b := true) (kit_ty kt_tuple_tuple) (fun z => nomatch z) (fun _ => rfl)) (fun z => nomatch z), q⟩
def sp_is_fields (K : PySem.W.Frag) : Sp := fun vs H Q _ => ∃ (a : Addr) (fs : List Str) (G : Hp) (L : List (Addr × HO)), vs = [.ref a] ∧ Stt G H L ∧ SqE K G a (fs.map V.str) ∧ 0 < fs.length ∧ fs.length ≤ 3 ∧ (∀ n, n ∈ fs → NameOk n) ∧ fs.Nodup ∧ ∀ H', Stt G H' L → Q (.bl true) H'
def t_is_fields_1 (K : PySem.W.Frag) : TS :=
  (tRet (tAndV (tCB (rAll K) (tCons (tLc (iSeq K (tVar 0)) (gName 1) tYes (tCall (sp_is_name K) [] E0 (tCons (tVar 1) tNil)) [1]) tNil)) (tOp (gEq K) (tLenSetS K (tVar 0)) (tCB (gLen K) (tCons (tVar 0) tNil)))))
def t_is_fields (K : PySem.W.Frag) : TS :=
  (tSeq (tIfS (tOr (tNot (tB (tCB (gIsi K) (tCons (tVar 0) (tCons (tTup (tCons (tC (.ty "list")) (tCons (tC (.ty "tuple")) tNil))) tNil))))) (tNot (tTest (tChain (rI0 fun i j => .bl (decide (i ≤ j))) (rI0 fun i j => .bl (decide (i ≤ j))) (tC (.int 1)) (tCB (gLen K) (tCons (tVar 0) tNil)) (tC v_MOST_FIELDS))))) (tRet (tC (.bl false))) tNext)
  (t_is_fields_1 K))
theorem lc_names {J : It} {Gw : Hp → Prop} {a : Addr} {fs : List Str} {a1 : Option V} (w : Walk J (fs.map V.str).length Gw (YAt (fs.map V.str))) (hg : ∀ H', Ex G H' → Gw H') (S : Stt G H L) (h3 : fs.length ≤ 3) (hn : ∀ n, n ∈ fs → NameOk n)
    (q : ∀ D1 G2 H2, Ex G G2 → Stt G2 H2 ((D1, .lst ((fs.map fun _ => true).map V.bl)) :: L) → Q (.ref D1) H2) : LcG J (gName 1) tYes (tCall (sp_is_name K) [] E0 (tCons (tVar 1) tNil)) [1] [some (.ref a), a1] H Q := by
  refine lc_mapJ stt_world w S hg (by rw [List.length_map]; omega) (fun _ => rfl) (fun _ => .bl true) (fun x acc D1 G2 H2 hx e2 S2 Kp kp => ?_) (fun D1 G2 H2 e2 S2 => ?_)
  · obtain ⟨z, hz, rfl⟩ := List.mem_map.mp hx
    walk_at "gs"
    refine ⟨.str z, .str z, G2, _, rfl, S2, .str z, ?_, fun H3 S3 => ?_⟩
    · show z.length < 100000
      have := (nameOk_len (hn z hz)).2
      omega
    · rw [show isName (.str z) = true from (hn z hz).1]
      exact kp _ S3
  · have hb : ((fs.map V.str).map fun _ => V.bl true) = (fs.map fun _ => true).map V.bl := by rw [List.map_map, List.map_map]; rfl
    rw [hb] at S2
    exact q D1 G2 H2 e2 S2
theorem read_is_fields_1 {a : Addr} {fs : List Str} {a1 : Option V} (S : Stt G H L) (ha : SqE K G a (fs.map V.str)) (h3 : fs.length ≤ 3) (hn : ∀ n, n ∈ fs → NameOk n) (nd : fs.Nodup) (q : ∀ H', Stt G H' L → D.rt (.bl true) H') :
    t_is_fields_1 K D [some (.ref a), a1] H := by
  have tail : ∀ {D1 : Addr} {G2 H2 : Hp}, Ex G G2 → Stt G2 H2 ((D1, .lst ((fs.map fun _ => true).map V.bl)) :: L) → tOp (gEq K) (tLenSetS K (tVar 0)) (tCB (gLen K) (tCons (tVar 0) tNil)) [some (.ref a), a1] H2 D.rt := fun {D1 G2 H2} e2 S2 => by
    walk_at "gs"
    refine ⟨a, fs, rfl, (ha.ex (e2.trans S2.ex)), by omega, ?_⟩
    walk_at "gs"
    refine rd_lenE (ha.ex (e2.trans S2.ex)) ?_
    rw [dcount_nodup nd, List.length_map]
    walk_at "gs"
    rw [decide_eq_true rfl]
    exact q H2 (S2.drop.less e2)
  have all1 : ((fs.map fun _ => true).all id) = true := by rw [List.all_map]; exact List.all_eq_true.mpr fun _ _ => rfl
  unfold t_is_fields_1
  walk_at "gs"
  refine ⟨a, rfl, ?_⟩
  rcases ha with ha' | ha'
  · refine .inl ⟨⟨_, ex_l S.ex ha'⟩, lc_names walk_list (fun H' e' => ex_l e' ha') S h3 hn fun D1 G2 H2 e2 S2 => ?_⟩
    walk_at "gs"
    refine rd_all (sq_of (S2.at 0 rfl)) ?_
    rw [all1]
    exact rd_bl (rd_iT (tail e2 S2))
  · refine .inr ⟨⟨_, ex_t S.ex ha'⟩, lc_names walk_tup (fun H' e' => ex_t e' ha') S h3 hn fun D1 G2 H2 e2 S2 => ?_⟩
    walk_at "gs"
    refine rd_all (sq_of (S2.at 0 rfl)) ?_
    rw [all1]
    exact rd_bl (rd_iT (tail e2 S2))
theorem sat_is_fields {vs : List V} {E : XK} (h : sp_is_fields K vs H Q E) : vs.length = 1 ∧ t_is_fields K { nx := fun _ H' => Q .non H', rt := Q } (vs.map some ++ List.replicate (2 - vs.length) none) H := by
  obtain ⟨a, fs, G, L, rfl, S, ha, h0, h3, hn, nd, q⟩ := h
  refine ⟨rfl, ?_⟩
  unfold t_is_fields
  walk_at "gs"
  refine mk_tup stt_world S (by show 2 ≤ _; decide) fun tp G1 e1 S1 h1 => ?_
  walk_at "gs"
  refine rd_isE (S1.ex _ _ h1) (ha.ex (e1.trans S1.ex)) ?_
  walk_at "gs"
  refine rd_chain ?_
  walk_at "gs"
  refine rd_lenE (ha.ex (e1.trans S1.ex)) ?_
  rw [List.length_map]
  walk_at "gs"
  refine rd_dec (fun e => ?_) (fun e => absurd (show (1 : Int) ≤ (fs.length : Int) by omega) e)
  unfold v_MOST_FIELDS
  walk_at "gs"
  refine rd_decN (fun e => ?_) (fun e => absurd (show (fs.length : Int) ≤ 3 by omega) e)
  walk_at "gs"
  exact read_is_fields_1 S1 (ha.ex e1) h3 hn nd fun H' S' => q H' (S'.less e1)
end




theorem eqV_str (a b : Str) : eqV (.str a) (.str b) = decide (a = b) := by
  show (a == b) = _
  by_cases h : a = b
  · subst h
    rw [decide_eq_true rfl]
    exact beq_self_eq_true a
  · rw [decide_eq_false h]
    exact beq_eq_false_iff_ne.mpr h
theorem inV_str (z : Str) : ∀ us : List Str, inV (.str z) (us.map V.str) = decide (z ∈ us)
  | [] => rfl
  | u :: us => by
    have ih := inV_str z us
    unfold inV at ih ⊢
    rw [List.map_cons, List.any_cons, ih, eqV_str, ← Bool.decide_or]
    exact decide_eq_decide.mpr (by rw [List.mem_cons]; exact or_congr eq_comm Iff.rfl)
theorem flat_strs (us : List Str) : (us.map V.str).all flatV = true := by
  rw [List.all_map]; exact List.all_eq_true.mpr fun _ _ => rfl
theorem not_mem_take {α : Type} : ∀ (l : List α) (i : Nat) (a : α), l.Nodup → l[i]? = some a → a ∉ l.take i
  | [], i, a, _, h => by simp at h
  | x :: l, 0, a, _, _ => by simp
  | x :: l, i + 1, a, nd, h => by
    rw [List.take_succ_cons]
    have n1 := List.nodup_cons.mp nd
    have h2 : l[i]? = some a := h
    intro z
    rcases List.mem_cons.mp z with rfl | z
    · exact n1.1 (List.mem_of_getElem? h2)
    · exact not_mem_take l i a n1.2 h2 z
section
variable {K : PySem.W.Frag} [SK : SchK K] [CK : Consts K] {σ : L2.St} {G H : Hp} {L : List (Addr × HO)} {Q : VK} {D : Ends} {x dx tf tl : Addr} {te : TE}
theorem rd_inLs {u : Addr} {us : List Str} {z : Str} (h : SqL K H u (us.map V.str)) (q : Q (.bl (decide (z ∈ us))) H) : gIn K (.str z) (.ref u) H Q := .inr ⟨u, _, rfl, .inl h, rfl, flat_strs us, by rw [if_neg Bool.false_ne_true, inV_str]; exact q⟩
/-- isinstance(x, C), x an instance of the class at C -/
theorem rd_isC {a C dx : Addr} {fs : List (Str × V)} (I : InsK K C) (ob : H a = some (.ins C dx fs)) (q : Q (.bl true) H) : gIsi K [.ref a, .ref C] H Q :=
  .inl ⟨_, _, .ref C, .ref C, true, rfl, .own C, .base (.ins ob I.cl I.ha I.hn I.ht I.hm), by unfold PySem.W.kitOne; rw [if_pos (beq_self_eq_true _)], q⟩
def sp_is_list (K : PySem.W.Frag) : Sp := fun vs H Q _ => ∃ (p u : Addr) (n : Str) (v : V) (l : Lev) (us : List Str) (G : Hp) (L : List (Addr × HO)), vs = [.ref p, .ref u] ∧ Stt G H L ∧ SqT K G p [.str n, v] ∧ SchAt K G v l ∧ l.depth ≤ 2 ∧ l.good ∧ NameOk n ∧ n ∉ us ∧
  (∀ H', Stt G H' L → H' u = some (.lst (us.map V.str))) ∧ ∀ H', Stt G H' L → Q (.bl true) H'
def t_is_list_2 (K : PySem.W.Frag) : TS :=
  (tRet (tCB gBool (tCons (tOp (gLt K) (tProp (cls_at K "Schema") (sp_Schema_depth K 9) [] E0 (tOp (rIx K) (tVar 0) (tC (.int 1)))) (tC v_MOST_LEVELS)) tNil)))
def t_is_list_1 (K : PySem.W.Frag) : TS :=
  (tSeq (tIfS (tOr (tNot (tB (tCall (sp_is_name K) [] E0 (tCons (tOp (rIx K) (tVar 0) (tC (.int 0))) tNil)))) (tOr (tTest (tOp (gIn K) (tOp (rIx K) (tVar 0) (tC (.int 0))) (tVar 1))) (tNot (tB (tCB (gIsi K) (tCons (tOp (rIx K) (tVar 0) (tC (.int 1))) (tCons (tC (.ref (cls_at K "Schema"))) tNil))))))) (tRet (tC (.bl false))) tNext)
  (t_is_list_2 K))
def t_is_list (K : PySem.W.Frag) : TS :=
  (tSeq (tIfS (tOr (tNot (tB (tCB (gIsi K) (tCons (tVar 0) (tCons (tC (.ty "tuple")) tNil))))) (tTest (tOp (gNe K) (tCB (gLen K) (tCons (tVar 0) tNil)) (tC (.int 2))))) (tRet (tC (.bl false))) tNext)
  (t_is_list_1 K))
theorem sat_is_list {vs : List V} {E : XK} (h : sp_is_list K vs H Q E) : vs.length = 2 ∧ t_is_list K { nx := fun _ H' => Q .non H', rt := Q } (vs.map some ++ List.replicate (2 - vs.length) none) H := by
  obtain ⟨p, u, n, v, l, us, G, L, rfl, S, hp, hv, hd, gd, hn, hu, us_, q⟩ := h
  refine ⟨rfl, ?_⟩
  have np := nameOk_len hn
  unfold t_is_list
  walk_at "gs"
  refine .inl ⟨.ref p, .ty "tuple", .type "tuple", .type "tuple", true, rfl, .ty _, SqT.ty (ex_t S.ex hp), kit_ty kt_tuple_tuple, ?_⟩
  walk_at "gs"
  refine rd_lenT (ex_t S.ex hp) ?_
  walk_at "gs"
  unfold t_is_list_1
  walk_at "gs"
  refine ⟨.str n, .str n, G, _, rfl, S, .str n, by show n.length < 100000; omega, fun H1 S1 => ?_⟩
  rw [show isName (.str n) = true from hn.1]
  walk_at "gs"
  refine rd_inLs (sq_of (us_ H1 S1)) ?_
  walk_at "gs"
  refine rd_dec (fun e => absurd e hu) (fun _ => ?_)
  walk_at "gs"
  cases hv with
  | @mk x dx tf tl fs ls ps ob hf hl hA =>
  refine rd_isC SK.ins (S1.ex _ _ ob) ?_
  walk_at "gs"
  unfold t_is_list_2 v_MOST_LEVELS
  walk_at "gs"
  refine ⟨x, _, _, rfl, S1.ex _ _ ob, ?_⟩
  refine ⟨_, _, G, _, rfl, S1, .mk ob hf hl hA, by omega, gd, fun H2 S2 => ?_⟩
  walk_at "gs"
  have e : decide (((Lev.mk fs ls).depth : Int) < 3) = true := decide_eq_true (by omega)
  rw [e]
  exact q H2 S2
end




section
variable {K : PySem.W.Frag} [SK : SchK K] [CK : Consts K] {σ : L2.St} {G H : Hp} {L : List (Addr × HO)} {Q : VK} {D : Ends} {x dx tf tl : Addr} {te : TE}
/-- a list, or a tuple whose one object is known -/
def SqF (K : PySem.W.Frag) (H : Hp) (a : Addr) (xs : List V) : Prop := SqL K H a xs ∨ FT K H a xs
theorem SqF.ex {H H' : Hp} {a : Addr} {xs : List V} (e : Ex H H') (h : SqF K H a xs) : SqF K H' a xs := h.imp (ex_l e) (FT.ex e)
theorem SqF.e {H : Hp} {a : Addr} {xs : List V} (h : SqF K H a xs) : SqE K H a xs := h.imp id And.left
theorem rd_gtupleFL {a : Addr} {xs : List V} (h : SqL K H a xs) (q : ∀ (l : Addr) (o : Obj), H l = none → o.dict = none → Q (.ref l) (upd H l (.frz o (.tup xs)))) : gTupleF K [.ref a] H Q := ⟨a, xs, rfl, .inl ⟨h, q⟩⟩
theorem rd_gtupleFT {a : Addr} {xs : List V} (h : SqT K H a xs) (q : Q (.ref a) H) : gTupleF K [.ref a] H Q := ⟨a, xs, rfl, .inr ⟨h, q⟩⟩
def sp_Schema_init (K : PySem.W.Frag) : Sp := fun vs H Q _ => ∃ (x dx a : Addr) (ps : List Addr) (fs : List Str) (ls : LevL) (G : Hp) (L : List (Addr × HO)), vs = .ref x :: .ref a :: ps.map V.ref ∧ Stt G H ((x, .ins (cls_at K "Schema") dx []) :: L) ∧ SqF K G a (fs.map V.str) ∧ SchAll K G ps ls ∧
  (Lev.mk fs ls).good ∧ (Lev.mk fs ls).depth ≤ 3 ∧ ∀ G' H', Ex G G' → Stt G' H' L → SchAt K G' (.ref x) (.mk fs ls) → Q .non H'
def t_Schema_init_2b_1 (K : PySem.W.Frag) : TS :=
  (tDrop (tBM K "list" rAppend (tVar 3) (tCons (tOp (rIx K) (tVar 5) (tC (.int 0))) tNil)))
def t_Schema_init_2b (K : PySem.W.Frag) : TS :=
  (tSeq (tIfS (tOr (tTest (tOp (rI0 fun i j => .bl (decide (j ≤ i))) (tVar 4) (tC v_MOST_LISTS))) (tNot (tB (tCall (sp_is_list K) [] E0 (tCons (tVar 5) (tCons (tVar 3) tNil)))))) tNo tNext)
  (t_Schema_init_2b_1 K))
def t_Schema_init_4 (K : PySem.W.Frag) : TS :=
  (sFld K (tVar 0) (tCB (gTuple K) (tCons (tVar 2) tNil)) "_lists")
def t_Schema_init_3 (K : PySem.W.Frag) : TS :=
  (tSeq (sFld K (tVar 0) (tCB (gTupleF K) (tCons (tVar 1) tNil)) "fields")
  (t_Schema_init_4 K))
def t_Schema_init_2 (K : PySem.W.Frag) : TS :=
  (tSeq (tFor (iEnumT K (tCons (tVar 2) tNil)) (gTup K 2 (gCons (gName 4) (gCons (gName 5) gNil))) (t_Schema_init_2b K))
  (t_Schema_init_3 K))
def t_Schema_init_1 (K : PySem.W.Frag) : TS :=
  (tSeq (tAsg (tCB (gList K) (tCons (tVar 1) tNil)) (gName 3))
  (t_Schema_init_2 K))
def t_Schema_init (K : PySem.W.Frag) : TS :=
  (tSeq (tIfS (tNot (tB (tCall (sp_is_fields K) [] E0 (tCons (tVar 1) tNil)))) tNo tNext)
  (t_Schema_init_1 K))
/-- the end: the fields are stored -/
theorem read_init_3 {x dx a rt u : Addr} {ps : List Addr} {fs : List Str} {ls : LevL} {us : List V} {a4 a5 : Option V} (S : Stt G H ((u, .lst us) :: (x, .ins (cls_at K "Schema") dx []) :: L)) (ha : SqF K G a (fs.map V.str)) (hr : SqT K G rt (ps.map V.ref)) (hA : SchAll K G ps ls)
    (q : ∀ G' H', Ex G G' → Stt G' H' L → SchAt K G' (.ref x) (.mk fs ls) → D.nx [some (.ref x), some (.ref a), some (.ref rt), some (.ref u), a4, a5] H') : t_Schema_init_3 K D [some (.ref x), some (.ref a), some (.ref rt), some (.ref u), a4, a5] H := by
  have fin : ∀ (tf : Addr) (G1 H1 : Hp), Ex G G1 → Stt G1 H1 ((u, .lst us) :: (x, .ins (cls_at K "Schema") dx []) :: L) → FT K G1 tf (fs.map V.str) →
      ∃ a_1 C dx fs, V.ref x = V.ref a_1 ∧ H1 a_1 = some (.ins C dx fs) ∧ Cls K C ∧ NoAttr K C "fields" ∧ fs.length < 1000 ∧ t_Schema_init_4 K D [some (.ref x), some (.ref a), some (.ref rt), some (.ref u), a4, a5] (upd H1 a_1 (.ins C dx (putF "fields" (.ref tf) fs))) := by
    intro tf G1 H1 e1 S1 hf
    refine ⟨x, _, dx, [], rfl, S1.at 1 rfl, SK.ins.cl, SK.nF, by decide, ?_⟩
    have S2 : Stt G1 (upd H1 x _) ((u, .lst us) :: (x, .ins (cls_at K "Schema") dx (putF "fields" (.ref tf) [])) :: L) := S1.wr 1 rfl
    unfold t_Schema_init_4
    walk_at "gs"
    refine rd_gtupleT (ex_t (e1.trans S2.ex) hr) ?_
    walk_at "gs"
    refine ⟨x, _, dx, _, rfl, S2.at 1 rfl, SK.ins.cl, SK.nL, by show 1 < 1000; decide, ?_⟩
    have S3 : Stt G1 (upd (upd H1 x _) x _) ((u, .lst us) :: (x, .ins (cls_at K "Schema") dx (schF tf rt)) :: L) := S2.wr 1 rfl
    have S4 := S3.drop
    have e4 := S4.frzE
    exact q _ _ (e1.trans e4) S4.frz (.mk upd_same (hf.ex e4) (ex_t (e1.trans e4) hr) (hA.ex (e1.trans e4)))
  unfold t_Schema_init_3
  walk_at "gs"
  rcases ha with ha | ha
  · refine rd_gtupleFL (ex_l S.ex ha) fun l o hl hd => ?_
    walk_at "gs"
    exact fin l (upd G l (.frz o (.tup (fs.map V.str)))) _ (S.newE hl) (S.new hl) (.of upd_same hd)
  · refine rd_gtupleFT (ex_t S.ex ha.1) ?_
    walk_at "gs"
    exact fin a G H (Ex.refl G) S ha
theorem read_init {x dx a rt : Addr} {ps : List Addr} {fs : List Str} {ls : LevL} {a3 a4 a5 : Option V} (S : Stt G H ((x, .ins (cls_at K "Schema") dx []) :: L)) (ha : SqF K G a (fs.map V.str)) (hr : SqT K G rt (ps.map V.ref)) (hA : SchAll K G ps ls)
    (gd : (Lev.mk fs ls).good) (hd : (Lev.mk fs ls).depth ≤ 3) (q : ∀ σ' G' H', Ex G G' → Stt G' H' L → SchAt K G' (.ref x) (.mk fs ls) → D.nx σ' H') : t_Schema_init K D [some (.ref x), some (.ref a), some (.ref rt), a3, a4, a5] H := by
  have gd' := gd
  rw [Lev.good] at gd
  rw [Lev.depth] at hd
  obtain ⟨g0, g3, gn, nd, g2, gl⟩ := gd
  have hlen := SchAll.len hA
  unfold t_Schema_init
  walk_at "gs"
  refine ⟨a, fs, G, _, rfl, S, ha.e, g0, g3, gn, (List.nodup_append.mp nd).1, fun H1 S1 => ?_⟩
  walk_at "gs"
  unfold t_Schema_init_1
  walk_at "gs"
  refine ⟨a, _, rfl, ha.e.ex S1.ex, ?_⟩
  refine mk_mu (o := .lst (fs.map V.str)) stt_world S1 fun u S2 => ?_
  walk_at "gs"
  unfold t_Schema_init_2
  walk_at "gs"
  refine ⟨rt, _, rfl, ex_t S2.ex hr, ?_⟩
  refine for_go (walk_enumT (a := rt) (xs := ps.map V.ref)) (G := G)
    (fun i σ1 G2 H2 => ∃ x4 x5, σ1 = [some (.ref x), some (.ref a), some (.ref rt), some (.ref u), x4, x5] ∧ Ex G G2 ∧ Stt G2 H2 ((u, .lst ((fs ++ ls.names.take i).map V.str)) :: (x, .ins (cls_at K "Schema") dx []) :: L))
    ⟨_, _, rfl, Ex.refl G, by rw [List.take_zero, List.append_nil]; exact S2⟩ (fun i σ1 G2 H2 _ ⟨_, _, _, e2, S2⟩ => ex_t (e2.trans S2.ex) hr) ?_ ?_
  · rintro i v σ1 G2 H2 H3 hi ⟨x4, x5, rfl, e2, S2⟩ y N hN
    obtain ⟨T, c, z, rfl, hT, rfl, hc, hz⟩ := y
    cases hc
    have S3 := S2.new (o := .tup [.int (i : Nat), z]) hT
    have e3 := S2.newE (o := .tup [.int (i : Nat), z]) hT
    obtain ⟨p, nm, w, l, rfl, hp, hn, hl, hv⟩ := SchAll.at hA hz
    have e23 := e2.trans e3
    have ht : SqT K (upd H2 T (.tup [.int (i : Nat), .ref p])) T [.int (i : Nat), .ref p] := st_of upd_same
    rw [List.length_map] at hi
    have hi2 : i < 2 := by omega
    refine rd_gtup2 ht ?_
    unfold t_Schema_init_2b
    walk_at "gs"
    unfold v_MOST_LISTS
    walk_at "gs"
    refine rd_dec (fun e => absurd e (by omega)) (fun _ => ?_)
    walk_at "gs"
    have notin : nm ∉ fs ++ ls.names.take i := by
      have h := not_mem_take (fs ++ ls.names) (fs.length + i) nm nd (by rw [List.getElem?_append_right (Nat.le_add_right _ _), Nat.add_sub_cancel_left]; exact hn)
      rw [List.take_append, List.take_of_length_le (Nat.le_add_right _ _), Nat.add_sub_cancel_left] at h
      exact h
    have dl := LevL.depth_get ls i l hl
    refine ⟨p, u, nm, w, l, fs ++ ls.names.take i, _, _, rfl, S3, ex_t e23 hp, hv.ex e23, by omega, LevL.good_get ls i l gl hl, LevL.name_get ls i nm gl hn, notin, fun H' S' => S'.at 0 rfl, fun H4 S4 => ?_⟩
    walk_at "gs"
    unfold t_Schema_init_2b_1
    walk_at "gs"
    refine ⟨ty_list (sq_of (S4.at 0 rfl)), ?_⟩
    walk_at "gs"
    refine rd_ixT (i := 0) (v := .str nm) (ex_t (e23.trans S4.ex) hp) rfl ?_
    walk_at "gs"
    refine rd_app (S4.at 0 rfl) (by rw [List.length_map, List.length_append, List.length_take]; omega) ?_
    refine hN _ (upd G2 T (.tup [.int (i : Nat), .ref p])) _ ⟨_, _, rfl, e23, ?_⟩
    have e : (fs ++ ls.names.take (i + 1)).map V.str = (fs ++ ls.names.take i).map V.str ++ [V.str nm] := by
      rw [List.take_add_one, hn, ← List.append_assoc, List.map_append]
      rfl
    rw [e]
    exact S4.wr 0 rfl
  · rintro σ1 G2 H2 ⟨x4, x5, rfl, e2, S2⟩
    exact read_init_3 S2 (ha.ex e2) (ex_t e2 hr) (hA.ex e2) fun G' H' e' S' h' => q _ G' H' (e2.trans e') S' h'
theorem sat_Schema_init {vs : List V} {E : XK} (h : sp_Schema_init K vs H Q E) : ∃ ws rest, vs = ws ++ rest ∧ ws.length = 2 ∧ rest.length ≤ sizeLine ∧ ∀ p, H p = none → (ws ++ [V.ref p]).length = 3 ∧ t_Schema_init K { nx := fun _ H' => Q .non H', rt := Q } ((ws ++ [V.ref p]).map some ++ List.replicate (6 - (ws ++ [V.ref p]).length) none) (upd H p (.tup rest)) := by
  obtain ⟨x, dx, a, ps, fs, ls, G, L, rfl, S, ha, hA, gd, hd, q⟩ := h
  have hlen := SchAll.len hA
  have g2 : ls.names.length ≤ 2 := by rw [Lev.good] at gd; exact gd.2.2.2.2.1
  refine ⟨[.ref x, .ref a], ps.map V.ref, rfl, rfl, sz_of (by rw [List.length_map]; omega), fun p hp => ⟨rfl, ?_⟩⟩
  have S1 := S.new (o := .tup (ps.map V.ref)) hp
  have e1 := S.newE (o := .tup (ps.map V.ref)) hp
  exact read_init S1 (ha.ex e1) (st_of upd_same) (hA.ex e1) gd hd fun σ' G' H' e' S' h' => q G' H' (e1.trans e') S' h'
end




theorem SchAll.of {K : PySem.W.Frag} {H : Hp} : ∀ {ps : List Addr} {ls : LevL}, ps.length = ls.names.length → (∀ (j : Nat) (p : Addr), ps[j]? = some p → ∃ n v l, ls.names[j]? = some n ∧ ls.levs[j]? = some l ∧ SqT K H p [.str n, v] ∧ SchAt K H v l) → SchAll K H ps ls
  | [], .nil, _, _ => .nil
  | p :: ps, .cons n l r, h, f => by
    obtain ⟨n2, v, l2, h1, h2, h3, h4⟩ := f 0 p rfl
    rw [LevL.names] at h1
    rw [LevL.levs] at h2
    cases (Option.some.inj h1)
    cases (Option.some.inj h2)
    rw [LevL.names, List.length_cons, List.length_cons] at h
    refine .cons h3 h4 (SchAll.of (Nat.succ.inj h) fun j p hj => ?_)
    obtain ⟨n3, v3, l3, g1, g2, g3⟩ := f (j + 1) p hj
    rw [LevL.names] at g1
    rw [LevL.levs] at g2
    exact ⟨n3, v3, l3, g1, g2, g3⟩
  | [], .cons _ _ _, h, _ => by rw [LevL.names] at h; cases h
  | _ :: _, .nil, h, _ => by rw [LevL.names] at h; cases h
section
variable {K : PySem.W.Frag} [SK : SchK K] [CK : Consts K] {σ : L2.St} {G H : Hp} {L : List (Addr × HO)} {Q : VK} {D : Ends} {x y z : V} {te : TE}
def sp_read_level (K : PySem.W.Frag) (n : Nat) : Sp := fun vs H Q _ => ∃ (l : Lev) (d : Int) (G : Hp) (L : List (Addr × HO)), vs = [.str (SX.S l.tx), .int d] ∧ Stt G H L ∧ l.good ∧ l.depth ≤ n ∧ 1 ≤ d ∧ d + l.depth ≤ 4 ∧
  ∀ v G' H', Ex G G' → Stt G' H' L → SchAt K G' v l → Q v H'
def sp_read_part (K : PySem.W.Frag) (n : Nat) : Sp := fun vs H Q _ => ∃ (nm : Str) (l : Lev) (d : Int) (G : Hp) (L : List (Addr × HO)), vs = [.str (SX.S (cps nm ++ (40 :: (l.tx ++ [41])))), .int d] ∧ Stt G H L ∧ NameOk nm ∧ l.good ∧ l.depth ≤ n ∧ 0 ≤ d ∧ d + 1 + l.depth ≤ 4 ∧
  ∀ p v G' H', Ex G G' → Stt G' H' L → SqT K G' p [.str nm, v] → SchAt K G' v l → Q (.ref p) H'
theorem never_read_level (K : PySem.W.Frag) : ∀ vs H Q E, sp_read_level K 0 vs H Q E → False := fun vs H Q E ⟨l, d, G, L, _, _, _, h, _⟩ => by
  have := l.depth_pos
  omega
def t_read_part_1 (K : PySem.W.Frag) (n : Nat) : TS :=
  (tRet (tTup (tCons (tVar 2) (tCons (tCall (sp_read_level K n) [] E0 (tCons (tSl (gSl K) (tVar 4) tNoPart (tPart (tUn (rU fun i => .int (-i)) (tC (.int 1))))) (tCons (tOp (gAdd K) (tVar 1) (tC (.int 1))) tNil))) tNil))))
def t_read_part (K : PySem.W.Frag) (n : Nat) : TS :=
  (tSeq (tAsg (tBM K "str" rPart (tVar 0) (tCons (tC (.str "(")) tNil)) (gTup K 3 (gCons (gName 2) (gCons (gName 3) (gCons (gName 4) gNil)))))
  (t_read_part_1 K n))
def t_read_level_4 (K : PySem.W.Frag) (n : Nat) : TS :=
  (tRet (StX.tMakeR (cls_at K "Schema") (sp_Schema_init K) E0 (tCons (tVar 3) (StX.tStar K (tVar 4) tNil))))
def t_read_level_3 (K : PySem.W.Frag) (n : Nat) : TS :=
  (tSeq (tAsg (tLc (iList K (tVar 2)) (gName 5) (tTest (tOp (gIn K) (tC (.str "(")) (tVar 5))) (tCall (sp_read_part K n) [] E0 (tCons (tVar 5) (tCons (tVar 1) tNil))) [5]) (gName 4))
  (t_read_level_4 K n))
def t_read_level_2 (K : PySem.W.Frag) (n : Nat) : TS :=
  (tSeq (tAsg (tLc (iList K (tVar 2)) (gName 5) (tTest (tOp (gNotIn K) (tC (.str "(")) (tVar 5))) (tVar 5) [5]) (gName 3))
  (t_read_level_3 K n))
def t_read_level_1 (K : PySem.W.Frag) (n : Nat) : TS :=
  (tSeq (tAsg (tCall (sp_top_words K) [] E0 (tCons (tVar 0) tNil)) (gName 2))
  (t_read_level_2 K n))
def t_read_level (K : PySem.W.Frag) (n : Nat) : TS :=
  (tSeq (tIfS (tTest (tOp (rI0 fun i j => .bl (decide (j < i))) (tVar 1) (tC v_MOST_LEVELS))) tNo tNext)
  (t_read_level_1 K n))
theorem sat_read_part {n : Nat} {vs : List V} {E : XK} (h : sp_read_part K n vs H Q E) : vs.length = 2 ∧ t_read_part K n { nx := fun _ H' => Q .non H', rt := Q } (vs.map some ++ List.replicate (5 - vs.length) none) H := by
  obtain ⟨nm, l, d, G, L, rfl, S, hn, gd, hd, d0, d4, q⟩ := h
  refine ⟨rfl, ?_⟩
  have small := Lev.tx_small gd (by omega)
  have nl := name_len hn
  have hp : Txt.partition (SX.S (cps nm ++ (40 :: (l.tx ++ [41])))) (SX.S [40]) = (SX.S (cps nm), SX.S [40], SX.S (l.tx ++ [41])) :=
    SX.partition_some (by simp) (SX.par_head (c := 40) (sep := []) (l.tx ++ [41]) fun z => (name_plain hn 40 z).2.1 rfl)
  unfold t_read_part
  walk_at "gs"
  refine ⟨rfl, ?_⟩
  walk_at "gs"
  refine ⟨_, SX.S [40], rfl, rfl, rfl, sz_of (by rw [len_S, List.length_append, List.length_cons, List.length_append, List.length_singleton]; omega), ?_⟩
  rw [hp]
  refine mk_im (o := .tup [.str (SX.S (cps nm)), .str (SX.S [40]), .str (SX.S (l.tx ++ [41]))]) stt_world S fun T G1 e1 S1 h1 => ?_
  refine rd_gtup3 (st_of (S1.ex _ _ h1)) ?_
  unfold t_read_part_1
  walk_at "gs"
  refine rd_slS (sz_of (by rw [len_S, List.length_append, List.length_singleton]; omega)) ?_
  rw [C8.cutS_slice, show (-(1 : Int)) = -1 from rfl, SX.butlast_snoc]
  walk_at "gs"
  refine ⟨l, d + 1, G1, _, rfl, S1, gd, hd, by omega, by omega, fun v G2 H2 e2 S2 hv => ?_⟩
  walk_at "gs"
  rw [S_cps]
  refine mk_tup stt_world S2 (by show 2 ≤ _; decide) fun p G3 e3 S3 h3 => ?_
  exact q p v G3 _ (e1.trans (e2.trans e3)) S3 (st_of h3) (hv.ex e3)
theorem words_get (fs : List Str) (ls : LevL) (i : Nat) (x : V) (h : ((fs.map cps ++ ls.tws).map fun w => V.str (SX.S w))[i]? = some x) :
    (∃ f, fs[i]? = some f ∧ x = .str f) ∨ (fs.length ≤ i ∧ ∃ n l, ls.names[i - fs.length]? = some n ∧ ls.levs[i - fs.length]? = some l ∧ x = .str (SX.S (cps n ++ (40 :: (l.tx ++ [41]))))) := by
  rw [List.getElem?_map] at h
  by_cases c : i < fs.length
  · rw [List.getElem?_append_left (by rw [List.length_map]; exact c), List.getElem?_map, List.getElem?_eq_getElem c] at h
    refine .inl ⟨fs[i], List.getElem?_eq_getElem c, ?_⟩
    have h : V.str (SX.S (cps fs[i])) = x := Option.some.inj h
    rw [← h, S_cps]
  · have c2 : fs.length ≤ i := by omega
    rw [List.getElem?_append_right (by rw [List.length_map]; exact c2), List.length_map] at h
    have hl : i - fs.length < ls.names.length := by
      rw [← LevL.len_tws]
      cases e : ls.tws[i - fs.length]? with
      | none => rw [e] at h; exact nomatch h
      | some w => exact (List.getElem?_eq_some_iff.mp e).1
    have h1 : ls.names[i - fs.length]? = some ls.names[i - fs.length] := List.getElem?_eq_getElem hl
    have h2 : ls.levs[i - fs.length]? = some (ls.levs[i - fs.length]'(by rw [LevL.len_levs]; exact hl)) := List.getElem?_eq_getElem _
    have h3 := LevL.tws_get ls _ _ _ h1 h2
    rw [h3] at h
    exact .inr ⟨c2, _, _, h1, h2, (Option.some.inj h).symm⟩
theorem filter_fields (fs : List Str) (ls : LevL) (hf : ∀ n, n ∈ fs → NameOk n) :
    (((fs.map cps ++ ls.tws).map fun w => V.str (SX.S w)).filter fun x => match x with | .str z => !decide (40 ∈ cps z) | _ => false) = fs.map V.str := by
  rw [List.map_append, List.filter_append, ← strs_texts]
  have h1 : (fs.map V.str).filter (fun x => match x with | .str z => !decide (40 ∈ cps z) | _ => false) = fs.map V.str := List.filter_eq_self.mpr fun x hx => by
    obtain ⟨n, hn, rfl⟩ := List.mem_map.mp hx
    show (!decide (40 ∈ cps n)) = true
    rw [decide_eq_false fun z => (name_plain (hf n hn) 40 z).2.1 rfl]
    rfl
  have h2 : (ls.tws.map fun w => V.str (SX.S w)).filter (fun x => match x with | .str z => !decide (40 ∈ cps z) | _ => false) = [] := List.filter_eq_nil_iff.mpr fun x hx => by
    obtain ⟨w, hw, rfl⟩ := List.mem_map.mp hx
    show ¬ (!decide (40 ∈ cps (SX.S w))) = true
    rw [decide_eq_true (show 40 ∈ cps (SX.S w) from tws_open ls w hw)]
    decide
  rw [h1, h2, List.append_nil]
theorem sat_read_level {n : Nat} {vs : List V} {E : XK} (h : sp_read_level K (n + 1) vs H Q E) : vs.length = 2 ∧ t_read_level K n { nx := fun _ H' => Q .non H', rt := Q } (vs.map some ++ List.replicate (6 - vs.length) none) H := by
  obtain ⟨l, d, G, L, rfl, S, gd, hd, d1, d4, q⟩ := h
  refine ⟨rfl, ?_⟩
  have dp := l.depth_pos
  have small := Lev.tx_small gd (by omega)
  have tw := Lev.topW l gd
  unfold t_read_level v_MOST_LEVELS
  walk_at "gs"
  refine rd_dec (fun e => absurd e (by omega)) (fun _ => ?_)
  walk_at "gs"
  unfold t_read_level_1
  walk_at "gs"
  refine ⟨l.tx, G, _, rfl, by omega, S, fun wa G1 H1 e1 S1 hw => ?_⟩
  rw [tw] at hw
  obtain ⟨fs, ls⟩ := l
  have gd2 := gd
  rw [Lev.good] at gd2
  obtain ⟨g0, g3, gn, nd, g2, gl⟩ := gd2
  rw [Lev.depth] at hd d4
  have hlt := LevL.len_tws ls
  have hlv := LevL.len_levs ls
  have hwl : ((fs.map cps ++ ls.tws).map fun w => V.str (SX.S w)).length = fs.length + ls.names.length := by rw [List.length_map, List.length_append, List.length_map, hlt]
  walk_at "gs"
  unfold t_read_level_2
  walk_at "gs"
  refine ⟨wa, rfl, ⟨_, ex_l S1.ex hw⟩, ?_⟩
  refine lc_filterJ stt_world (walk_list (K := K) (a := wa) (xs := (fs.map cps ++ ls.tws).map fun w => V.str (SX.S w))) S1 (fun H' e' => ex_l e' hw) (by rw [hwl]; omega) (fun _ => rfl) (fun x => x) (fun x => match x with | .str z => !decide (40 ∈ cps z) | _ => false)
    (fun x acc D1 G2 H2 hx e2 S2 Kt kt => ?_) (fun x acc D1 G2 H2 hx hp e2 S2 Kp kp => ?_) (fun fa G2 H2 e2 S2 => ?_)
  · obtain ⟨w, hw2, rfl⟩ := List.mem_map.mp hx
    walk_at "gs"
    exact rd_notInS (rd_bl (kt H2 S2))
  · walk_at "gs"
    exact kp H2 S2
  rw [List.map_id', filter_fields fs ls gn] at S2
  have S3 := S2.frz
  have e3 := S2.frzE
  have hfa : SqL K (upd G2 fa (.lst (fs.map V.str))) fa (fs.map V.str) := sq_of upd_same
  generalize upd G2 fa (.lst (fs.map V.str)) = G3 at *
  have e13 := e2.trans e3
  walk_at "gs"
  unfold t_read_level_3
  walk_at "gs"
  refine ⟨wa, rfl, ⟨_, ex_l (e13.trans S3.ex) hw⟩, ?_⟩
  refine lc_go stt_world (walk_list (K := K) (a := wa) (xs := (fs.map cps ++ ls.tws).map fun w => V.str (SX.S w))) S3 (by rw [hwl]; omega) (fun i v _ => ((fs.map cps ++ ls.tws).map fun w => V.str (SX.S w))[i]? = some v)
    (fun i acc G4 => ∃ ps : List Addr, acc = ps.map V.ref ∧ ps.length = i - fs.length ∧ ∀ (j : Nat) (p : Addr), ps[j]? = some p → ∃ n v l, ls.names[j]? = some n ∧ ls.levs[j]? = some l ∧ SqT K G4 p [.str n, v] ∧ SchAt K G4 v l)
    (fun H' e' => ex_l (e13.trans e') hw) (fun i x G1 H1 H2 L1 _ e1 S1 y => item_at S1 y) ⟨[], rfl, by simp, fun j p h => by simp at h⟩ (fun i acc Ga Gb e ⟨ps, h1, h2, h3⟩ => ⟨ps, h1, h2, fun j p h => have ⟨n, v, l, a, b, c, d⟩ := h3 j p h; ⟨n, v, l, a, b, ex_t e c, d.ex e⟩⟩) ?_ ?_
  · intro D1 i x acc G4 H4 hi _ e4 S4 ⟨ps, hacc, hpl, hps⟩ it Kp Sk kp sk
    refine rd_name ⟨rfl, ?_⟩
    rcases words_get fs ls i x it with ⟨f, hf, rfl⟩ | ⟨hi2, nm, l2, hn, hl, rfl⟩
    · have hlt2 : i < fs.length := (List.getElem?_eq_some_iff.mp hf).1
      walk_at "gs"
      refine .inl ⟨40, f, rfl, rfl, ?_⟩
      walk_at "gs"
      refine rd_dec (fun e => absurd rfl (name_plain (gn f (List.mem_of_getElem? hf)) 40 e).2.1) (fun _ => ?_)
      exact sk G4 H4 (Ex.refl _) S4 ⟨ps, hacc, by omega, hps⟩
    · walk_at "gs"
      refine .inl ⟨40, _, rfl, rfl, ?_⟩
      walk_at "gs"
      refine rd_dec (fun _ => ?_) (fun e => absurd (show 40 ∈ cps nm ++ (40 :: (l2.tx ++ [41])) from List.mem_append_right _ (List.mem_cons_self ..)) e)
      walk_at "gs"
      have dl := LevL.depth_get ls _ l2 hl
      refine ⟨nm, l2, d, G4, _, rfl, S4, LevL.name_get ls _ nm gl hn, LevL.good_get ls _ l2 gl hl, by omega, by omega, by omega, fun p v G5 H5 e5 S5 hp hv => ?_⟩
      refine kp _ G5 H5 e5 S5 ⟨ps ++ [p], by rw [hacc, List.map_append]; rfl, by rw [List.length_append, List.length_singleton]; omega, fun j p2 hj => ?_⟩
      rcases Nat.lt_trichotomy j ps.length with hj2 | hj2 | hj2
      · rw [List.getElem?_append_left hj2] at hj
        obtain ⟨n3, v3, l3, a, b, c, d⟩ := hps j p2 hj
        exact ⟨n3, v3, l3, a, b, ex_t e5 c, d.ex e5⟩
      · subst hj2
        rw [List.getElem?_append_right (Nat.le_refl _), Nat.sub_self] at hj
        cases (Option.some.inj hj)
        rw [hpl]
        exact ⟨nm, v, l2, hn, hl, hp, hv⟩
      · rw [List.getElem?_eq_none (by rw [List.length_append, List.length_singleton]; omega)] at hj
        cases hj
  · intro la acc G4 H4 e4 S4 ⟨ps, hacc, hpl, hps⟩ _
    subst hacc
    rw [hwl] at hpl
    have hA : SchAll K G4 ps ls := SchAll.of (by omega) hps
    have S5 := S4.frz
    have e5 := S4.frzE
    have hla : SqL K (upd G4 la (.lst (ps.map V.ref))) la (ps.map V.ref) := sq_of upd_same
    generalize upd G4 la (.lst (ps.map V.ref)) = G5 at *
    walk_at "gs"
    unfold t_read_level_4
    walk_at "gs"
    refine ⟨la, _, rfl, .inr (ex_l S5.ex hla), ?_⟩
    walk_at "gs"
    intro x dx hx hdx ne
    have S6 := S5.new (o := .own x) hdx
    have e6 := S5.newE (o := .own x) hdx
    have S7 := S6.mkL (p := x) (o := .ins (cls_at K "Schema") dx []) (by rw [upd_ne (Ne.symm ne)]; exact hx)
    have e46 := e5.trans e6
    refine ⟨x, dx, fa, ps, fs, ls, _, _, by rw [List.append_nil], S7, .inl (ex_l (e4.trans e46) hfa), hA.ex e46, gd, by rw [Lev.depth]; omega, fun G8 H8 e8 S8 h8 => ⟨rfl, ?_⟩⟩
    exact q _ G8 H8 (e1.trans (e13.trans (e4.trans (e46.trans e8)))) S8 h8
end




/-! ### the law's own levels -/
theorem dp_strs {K : PySem.W.Frag} {H : Hp} : ∀ {us : List V} {fs : List Str}, DpAll K H us (fs.map PyData.str) → us = fs.map V.str
  | _, [], .nil => rfl
  | _, f :: fs, .cons h r => by
    cases h
    rw [dp_strs r]
    rfl
def LvAll (K : PySem.W.Frag) (H : Hp) (qs : List Addr) (ls : LevL) : Prop := qs.length = ls.names.length ∧ ∀ (j : Nat) (p : Addr), qs[j]? = some p → ∃ n v l, ls.names[j]? = some n ∧ ls.levs[j]? = some l ∧ SqT K H p [.str n, v] ∧ Dp K H v l.dat
theorem LvAll.ex {K : PySem.W.Frag} {H H' : Hp} {qs : List Addr} {ls : LevL} (e : Ex H H') (h : LvAll K H qs ls) : LvAll K H' qs ls := ⟨h.1, fun j p hj => have ⟨n, v, l, a, b, c, d⟩ := h.2 j p hj; ⟨n, v, l, a, b, ex_t e c, Dp.ex e _ _ d⟩⟩
theorem lvAll_inv {K : PySem.W.Frag} {H : Hp} : ∀ {us : List V} {ls : LevL}, DpAll K H us ls.dats → ∃ qs : List Addr, us = qs.map V.ref ∧ LvAll K H qs ls
  | us, .nil, h => by
    rw [LevL.dats] at h
    cases h
    exact ⟨[], rfl, rfl, fun j p hj => by simp at hj⟩
  | us, .cons n l r, h => by
    rw [LevL.dats] at h
    cases h with
    | cons h1 h2 =>
      cases h1 with
      | @tup p xs _ hs ha =>
        cases ha with
        | cons a1 a2 =>
          cases a1
          cases a2 with
          | @cons v d vs ds b1 b2 =>
            cases b2
            obtain ⟨qs, rfl, hl, hq⟩ := lvAll_inv h2
            refine ⟨p :: qs, rfl, by rw [List.length_cons, hl, LevL.names, List.length_cons], fun j p2 hj => ?_⟩
            cases j with
            | zero =>
              cases (Option.some.inj hj)
              exact ⟨n, v, l, by rw [LevL.names]; rfl, by rw [LevL.levs]; rfl, hs, b1⟩
            | succ j =>
              obtain ⟨n3, v3, l3, g1, g2, g3⟩ := hq j p2 hj
              exact ⟨n3, v3, l3, by rw [LevL.names]; exact g1, by rw [LevL.levs]; exact g2, g3⟩
theorem lvAll_mk {K : PySem.W.Frag} {H : Hp} : ∀ {qs : List Addr} {ls : LevL}, LvAll K H qs ls → DpAll K H (qs.map V.ref) ls.dats
  | [], .nil, _ => by rw [LevL.dats]; exact .nil
  | p :: qs, .cons n l r, ⟨h, f⟩ => by
    rw [LevL.dats]
    obtain ⟨n2, v, l2, h1, h2, h3, h4⟩ := f 0 p rfl
    rw [LevL.names] at h1
    rw [LevL.levs] at h2
    cases (Option.some.inj h1)
    cases (Option.some.inj h2)
    rw [LevL.names, List.length_cons, List.length_cons] at h
    refine .cons (.tup h3 (.cons (.str n) (.cons h4 .nil))) (lvAll_mk ⟨Nat.succ.inj h, fun j p hj => ?_⟩)
    obtain ⟨n3, v3, l3, g1, g2, g3⟩ := f (j + 1) p hj
    rw [LevL.names] at g1
    rw [LevL.levs] at g2
    exact ⟨n3, v3, l3, g1, g2, g3⟩
  | [], .cons _ _ _, ⟨h, _⟩ => by rw [LevL.names] at h; cases h
  | _ :: _, .nil, ⟨h, _⟩ => by rw [LevL.names] at h; cases h
theorem lv_inv {K : PySem.W.Frag} {H : Hp} {v : V} {fs : List Str} {ls : LevL} (h : Dp K H v (Lev.mk fs ls).dat) : ∃ a b c qs, v = .ref a ∧ SqL K H a [.ref b, .ref c] ∧ SqL K H b (fs.map V.str) ∧ SqL K H c (qs.map V.ref) ∧ LvAll K H qs ls := by
  rw [Lev.dat] at h
  cases h with
  | @lst a xs _ ha hA =>
    cases hA with
    | cons h1 h2 =>
      cases h2 with
      | cons h2 h3 =>
        cases h3
        cases h1 with
        | @lst b us _ hb hB =>
          cases h2 with
          | @lst c ws _ hc hC =>
            have e := dp_strs hB
            subst e
            obtain ⟨qs, e, hq⟩ := lvAll_inv hC
            subst e
            exact ⟨a, b, c, qs, rfl, ha, hb, hc, hq⟩
theorem lv_mk {K : PySem.W.Frag} {H : Hp} {a b c : Addr} {fs : List Str} {ls : LevL} {qs : List Addr} (ha : SqL K H a [.ref b, .ref c]) (hb : SqL K H b (fs.map V.str)) (hc : SqL K H c (qs.map V.ref)) (hq : LvAll K H qs ls) : Dp K H (.ref a) (Lev.mk fs ls).dat := by
  rw [Lev.dat]
  have hs : ∀ l : List Str, DpAll K H (l.map V.str) (l.map PyData.str) := fun l => by
    induction l with
    | nil => exact .nil
    | cons z l ih => exact .cons (.str z) ih
  exact .lst ha (.cons (.lst hb (hs fs)) (.cons (.lst hc (lvAll_mk hq)) .nil))
theorem LvAll.at {K : PySem.W.Frag} {H : Hp} {qs : List Addr} {ls : LevL} {i : Nat} {x : V} (h : LvAll K H qs ls) (hx : (qs.map V.ref)[i]? = some x) : ∃ p n v l, x = .ref p ∧ SqT K H p [.str n, v] ∧ ls.names[i]? = some n ∧ ls.levs[i]? = some l ∧ Dp K H v l.dat := by
  rw [List.getElem?_map] at hx
  cases e : qs[i]? with
  | none => rw [e] at hx; cases hx
  | some p =>
    rw [e] at hx
    cases hx
    obtain ⟨n, v, l, a, b, c, d⟩ := h.2 i p e
    exact ⟨p, n, v, l, rfl, c, a, b, d⟩
section
variable {K : PySem.W.Frag} [SK : SchK K] [CK : Consts K] {σ : L2.St} {G H : Hp} {L : List (Addr × HO)} {Q : VK} {D : Ends} {x y z : V} {te : TE}
def sp_read_schema (K : PySem.W.Frag) : Sp := fun vs H Q _ => ∃ (l : Lev) (G : Hp) (L : List (Addr × HO)), vs = [.str (SX.S l.tx)] ∧ Stt G H L ∧ l.good ∧ l.depth ≤ 3 ∧ ∀ v G' H', Ex G G' → Stt G' H' L → SchAt K G' v l → Q v H'
def sp_Schema_read (K : PySem.W.Frag) : Sp := sp_read_schema K
def t_read_schema_3 (K : PySem.W.Frag) : TS :=
  (tRet (tVar 1))
def t_read_schema_2 (K : PySem.W.Frag) : TS :=
  (tSeq (tIfS (tTest (tOp (gNe K) (tMeth (cls_at K "Schema") "text" (sp_Schema_text K 9) [] E0 (tVar 1) tNil) (tVar 0))) tNo tNext)
  (t_read_schema_3 K))
def t_read_schema_1 (K : PySem.W.Frag) : TS :=
  (tSeq (tAsg (tCall (sp_read_level K 9) [] E0 (tCons (tVar 0) (tCons (tC (.int 1)) tNil))) (gName 1))
  (t_read_schema_2 K))
def t_read_schema (K : PySem.W.Frag) : TS :=
  (tSeq (tIfS (tNot (tB (tCB (gIsi K) (tCons (tVar 0) (tCons (tC (.ty "str")) tNil))))) tNo tNext)
  (t_read_schema_1 K))
def t_Schema_read (K : PySem.W.Frag) : TS :=
  (tRet (tCall (sp_read_schema K) [] E0 (tCons (tVar 0) tNil)))
theorem sat_read_schema {vs : List V} {E : XK} (h : sp_read_schema K vs H Q E) : vs.length = 1 ∧ t_read_schema K { nx := fun _ H' => Q .non H', rt := Q } (vs.map some ++ List.replicate (2 - vs.length) none) H := by
  obtain ⟨l, G, L, rfl, S, gd, hd, q⟩ := h
  refine ⟨rfl, ?_⟩
  unfold t_read_schema
  walk_at "gs"
  unfold t_read_schema_1
  walk_at "gs"
  refine ⟨l, 1, G, _, rfl, S, gd, by omega, by decide, by omega, fun v G1 H1 e1 S1 hv => ?_⟩
  walk_at "gs"
  unfold t_read_schema_2
  walk_at "gs"
  have hv2 := hv
  cases hv with
  | @mk x dx tf tl fs ls ps ob hf hl hA =>
  refine ⟨x, _, _, rfl, S1.ex _ _ ob, schF_no _ _ (by decide +kernel) (by decide +kernel), ?_⟩
  walk_at "gs"
  refine ⟨_, _, G1, _, rfl, S1, hv2, by omega, by omega, gd, fun H2 S2 => ?_⟩
  walk_at "gs"
  unfold t_read_schema_3
  walk_at "gs"
  exact q _ G1 H2 e1 S2 hv2
theorem sat_Schema_read {vs : List V} {E : XK} (h : sp_Schema_read K vs H Q E) : vs.length = 1 ∧ t_Schema_read K { nx := fun _ H' => Q .non H', rt := Q } (vs.map some ++ List.replicate (1 - vs.length) none) H := by
  have ⟨l, G, L, e, S, gd, hd, q⟩ := h
  subst e
  refine ⟨rfl, ?_⟩
  unfold t_Schema_read
  walk_at "gs"
  exact ⟨l, G, L, rfl, S, gd, hd, q⟩
/-! ### the law's text of a level -/
def sp_level_text (K : PySem.W.Frag) (n : Nat) : Sp := fun vs H Q _ => ∃ (v : V) (l : Lev) (G : Hp) (L : List (Addr × HO)), vs = [v] ∧ Stt G H L ∧ Dp K G v l.dat ∧ l.depth ≤ n ∧ l.depth ≤ 9 ∧ l.good ∧ ∀ H', Stt G H' L → Q (.str (SX.S l.tx)) H'
theorem never_level_text (K : PySem.W.Frag) : ∀ vs H Q E, sp_level_text K 0 vs H Q E → False := fun vs H Q E ⟨v, l, G, L, _, _, _, h, _⟩ => by
  have := l.depth_pos
  omega
def t_level_text_1 (K : PySem.W.Frag) (n : Nat) : TS :=
  (tRet (tJoinS K " " (tVar 1)))
def t_level_text (K : PySem.W.Frag) (n : Nat) : TS :=
  (tSeq (tAsg (tOp (gAdd K) (tCB (gList K) (tCons (tOp (rIx K) (tVar 0) (tC (.int 0))) tNil)) (tLc (iList K (tOp (rIx K) (tVar 0) (tC (.int 1)))) (gTup K 2 (gCons (gName 2) (gCons (gName 3) gNil))) tYes (tOp (gAdd K) (tOp (gAdd K) (tOp (gAdd K) (tVar 2) (tC (.str "("))) (tCall (sp_level_text K n) [] E0 (tCons (tVar 3) tNil))) (tC (.str ")"))) [2, 3])) (gName 1))
  (t_level_text_1 K n))
theorem item_textL (n : Str) (t : List Nat) : ((n ++ ("(" : Str)) ++ SX.S t) ++ (")" : Str) = SX.S (cps n ++ (40 :: (t ++ [41]))) := by
  have h : ∀ a : List Nat, ((SX.S a ++ SX.S [40]) ++ SX.S t) ++ SX.S [41] = SX.S (a ++ (40 :: (t ++ [41]))) := fun a => by
    rw [SX.S_cat, SX.S_cat, SX.S_cat]
    exact congrArg SX.S (by simp)
  have := h (cps n)
  rw [S_cps] at this
  exact this
theorem sat_level_text {n : Nat} {vs : List V} {E : XK} (h : sp_level_text K (n + 1) vs H Q E) : vs.length = 1 ∧ t_level_text K n { nx := fun _ H' => Q .non H', rt := Q } (vs.map some ++ List.replicate (4 - vs.length) none) H := by
  obtain ⟨v, l, G, L, rfl, S, hv, hd, h9, gd, q⟩ := h
  refine ⟨rfl, ?_⟩
  have small := Lev.tx_small gd h9
  have sz : ∀ n : Nat, n < 90000 → n ≤ sizeLine := fun n h => sz_of (by omega)
  obtain ⟨fs, ls⟩ := l
  obtain ⟨a, b, c, qs, rfl, ha, hb, hc, hq⟩ := lv_inv hv
  rw [Lev.depth] at hd h9
  rw [Lev.good] at gd
  have hlen := hq.1
  have hlv := LevL.len_levs ls
  have hlt := LevL.len_tws ls
  unfold t_level_text
  walk_at "gs"
  refine ⟨b, _, rfl, .inl (ex_l S.ex hb), ?_⟩
  refine mk_im (o := .lst (fs.map V.str)) stt_world S fun p1 G1 e1 S1 h1 => ?_
  walk_at "gs"
  refine rd_ixL (i := 1) (v := .ref c) (ex_l (e1.trans S1.ex) ha) rfl ?_
  refine ⟨c, rfl, ⟨_, ex_l (e1.trans S1.ex) hc⟩, ?_⟩
  refine lc_go stt_world (walk_list (K := K) (a := c) (xs := qs.map V.ref)) S1 (by rw [List.length_map]; omega) (fun i v _ => (qs.map V.ref)[i]? = some v) (fun i acc _ => acc = (ls.tws.take i).map fun w => V.str (SX.S w)) (fun H' e' => ex_l (e1.trans e') hc)
    (fun i x G1 H1 H2 L1 _ e1 S1 y => item_at S1 y) rfl (fun _ _ _ _ _ h => h) ?_ ?_
  · intro D1 i x acc G2 H2 hi _ e2 S2 I2 it Kp Sk kp sk
    obtain ⟨p, nm, v, l, rfl, hp, hn, hl2, hv⟩ := LvAll.at hq it
    have e12 := e1.trans e2
    refine rd_gtup2 (ex_t (e12.trans S2.ex) hp) ⟨rfl, ?_⟩
    refine rd_yes (rd_iT ?_)
    have dl := LevL.depth_get ls i l hl2
    have gl := LevL.good_get ls i l gd.2.2.2.2.2 hl2
    have sl := Lev.tx_small gl (by omega)
    have nl := nameOk_len (LevL.name_get ls i nm gd.2.2.2.2.2 hn)
    have hw := LevL.tws_get ls i nm l hn hl2
    have e1l : ("(" : Str).length = 1 := rfl
    have e2l : (")" : Str).length = 1 := rfl
    walk_at "gs"
    refine rd_addS (sz _ (by omega)) ?_
    walk_at "gs"
    refine ⟨_, l, G2, _, rfl, S2, Dp.ex e12 _ _ hv, by omega, by omega, gl, fun H3 S3 => ?_⟩
    refine rd_addS (sz _ (by rw [len_add, len_S l.tx]; omega)) ?_
    walk_at "gs"
    refine rd_addS (sz _ (by rw [len_add, len_add, len_S l.tx]; omega)) ?_
    rw [item_textL]
    refine kp _ G2 H3 (Ex.refl _) S3 ?_
    rw [I2, List.take_add_one, hw, List.map_append]
    rfl
  · intro D1 acc G2 H2 e2 S2 I2 _
    have hacc : acc = ls.tws.map fun w => V.str (SX.S w) := by
      rw [I2, List.take_of_length_le (by rw [List.length_map]; omega)]
    subst hacc
    walk_at "gs"
    refine rd_addL (S2.ex _ _ (e2 _ _ h1)) (S2.at 0 rfl) (sz _ (by rw [List.length_map, List.length_map]; have := gd.2.1; have := gd.2.2.2.2.1; omega)) ?_
    refine mk_im (o := .lst (fs.map V.str ++ ls.tws.map fun w => V.str (SX.S w))) stt_world S2.drop fun p2 G3 e3 S3 h3 => ?_
    have hsum := sum_le_join (fs.map cps ++ ls.tws)
    rw [Lev.tx] at small
    walk_at "gs"
    unfold t_level_text_1
    walk_at "gs"
    refine ⟨p2, (fs.map cps ++ ls.tws).map SX.S, rfl, sq_of ?_, ?_, ?_⟩
    · rw [S3.ex _ _ h3, strs_texts, ← List.map_append, List.map_map]
      rfl
    · have e : ((fs.map cps ++ ls.tws).map SX.S).map (·.length) = (fs.map cps ++ ls.tws).map List.length := by
        rw [List.map_map]
        exact List.map_congr_left fun w _ => len_S w
      rw [e, List.length_map, List.length_append, List.length_map]
      have h1 : (" " : Str).length = 1 := rfl
      have := gd.2.1
      have := gd.2.2.2.2.1
      rw [h1]
      omega
    · have hj : Txt.join " " ((fs.map cps ++ ls.tws).map SX.S) = SX.S (Lev.mk fs ls).tx := by
        rw [Lev.tx]
        exact SX.join_S [32] _
      rw [hj]
      exact q _ (S3.less (e1.trans (e2.trans e3)))
def sp_schema (K : PySem.W.Frag) : Sp := fun vs H Q _ => ∃ (v : V) (l : Lev) (G : Hp) (L : List (Addr × HO)), vs = [v] ∧ Stt G H L ∧ Dp K G v l.dat ∧ l.good ∧ l.depth ≤ 3 ∧ ∀ w G' H', Ex G G' → Stt G' H' L → SchAt K G' w l → Q w H'
def t_schema (K : PySem.W.Frag) : TS :=
  (tRet (tStc (cls_at K "Schema") (sp_Schema_read K) (tC (.ref (cls_at K "Schema"))) (tCons (tCall (sp_level_text K 9) [] E0 (tCons (tVar 0) tNil)) tNil)))
theorem sat_schema {vs : List V} {E : XK} (h : sp_schema K vs H Q E) : vs.length = 1 ∧ t_schema K { nx := fun _ H' => Q .non H', rt := Q } (vs.map some ++ List.replicate (1 - vs.length) none) H := by
  obtain ⟨v, l, G, L, rfl, S, hv, gd, hd, q⟩ := h
  refine ⟨rfl, ?_⟩
  unfold t_schema
  walk_at "gs"
  refine ⟨rfl, ?_⟩
  walk_at "gs"
  refine ⟨v, l, G, _, rfl, S, hv, by omega, by omega, gd, fun H1 S1 => ?_⟩
  walk_at "gs"
  exact ⟨l, G, _, rfl, S1, gd, hd, q⟩
end

/-! One of some things, or of a text's signs. -/

def sp_ofS (K : PySem.W.Frag) : Sp := fun vs H Q _ => ∃ (b : Addr) (y : V) (G : Hp) (L : List (Addr × HO)), vs = [.ref b, y] ∧ Bag K G H b L ∧
  ((∃ (a : Addr) (xs : List V), y = .ref a ∧ (∀ H', Bag K G H' b L → SqL K H' a xs ∨ SqT K H' a xs) ∧ 0 < xs.length ∧ xs.length < 1000000 ∧ (∀ x H', x ∈ xs → Bag K G H' b L → Q x H')) ∨
   (∃ z : Str, y = .str z ∧ 0 < z.length ∧ z.length < 1000000 ∧ (∀ c H', c ∈ z.cps.toList → Bag K G H' b L → Q (.str ⟨#[c]⟩) H')))
def t_ofS (K : PySem.W.Frag) : TS :=
  (tRet (tOp (rIx K) (tVar 1) (tCall (sp_draw K) [] E0 (tCons (tVar 0) (tCons (tCB (gLen K) (tCons (tVar 1) tNil)) tNil)))))
theorem read_ofS {K : PySem.W.Frag} {b : Addr} {z : Str} {G H : Hp} {L : List (Addr × HO)} {D : Ends} (B : Bag K G H b L) (h0 : 0 < z.length) (h1 : z.length < 1000000)
    (q : ∀ c H', c ∈ z.cps.toList → Bag K G H' b L → D.rt (.str ⟨#[c]⟩) H') : t_ofS K D [some (.ref b), some (.str z)] H := by
  have hz : z.length ≤ sizeLine := by have : sizeLine = 16777216 := sizeLine_eq; omega
  unfold t_ofS
  walk_at "go"
  refine rd_lenS hz ?_
  walk_at "go"
  refine ⟨b, _, G, L, rfl, by omega, by omega, B, fun d H' d0 d1 B' => ?_⟩
  obtain ⟨j, rfl⟩ : ∃ j : Nat, d = (j : Int) := ⟨d.toNat, by omega⟩
  have hj : j < z.cps.toList.length := by
    have : z.cps.toList.length = z.length := Array.length_toList ..
    omega
  exact rd_ixS hz (atI_nat (List.getElem?_eq_getElem hj)) (q _ _ (List.getElem_mem hj) B')
theorem sat_ofS {K : PySem.W.Frag} {vs : List V} {H : Hp} {Q : VK} {E : XK} (h : sp_ofS K vs H Q E) : vs.length = 2 ∧ t_ofS K { nx := fun _ H' => Q .non H', rt := Q } (vs.map some ++ List.replicate (2 - vs.length) none) H := by
  obtain ⟨b, y, G, L, rfl, B, h⟩ := h
  rcases h with ⟨a, xs, rfl, hs, h0, h1, q⟩ | ⟨z, rfl, h0, h1, q⟩
  · exact ⟨rfl, read_of B hs h0 h1 q⟩
  · exact ⟨rfl, read_ofS B h0 h1 q⟩

/-! Names that are drawn. -/



def marksS : Str := "bcdghjkmpqrstvxz"
def mks : List Nat := cps marksS
theorem mks_ok : mks.Nodup ∧ mks.length = 16 := by decide +kernel
theorem mks_plain : ∀ c, c ∈ mks → plainC c ∧ c ∈ cps letters := by
  have h : ∀ c ∈ mks, (c ≠ 32 ∧ c ≠ 40 ∧ c ≠ 41 ∧ c ≠ 91 ∧ c ≠ 93) ∧ c ∈ cps letters := by decide +kernel
  exact h
theorem words_vowel : ∀ w, w ∈ c_WORDS → ∃ c, c ∈ cps w ∧ c ∉ mks := by
  have h : ∀ w ∈ c_WORDS, ∃ c ∈ cps w, c ∉ mks := by decide +kernel
  exact fun w hw => have ⟨c, a, b⟩ := h w hw; ⟨c, a, b⟩
def Drawn (z : Str) : Prop := 0 < z.length ∧ z.length ≤ 4 ∧ ∀ c, c ∈ cps z → c ∈ mks
theorem Drawn.ok {z : Str} (h : Drawn z) : NameOk z := by
  obtain ⟨h0, h4, hm⟩ := h
  refine ⟨?_, fun c hc => (mks_plain c (hm c hc)).1⟩
  rw [name_due fun c hc => (mks_plain c (hm c hc)).2]
  unfold dueS
  rw [inV_str, decide_eq_true (by omega : (1 : Int) ≤ z.length), decide_eq_true (by omega : (z.length : Int) ≤ 8), decide_eq_false fun hw => by
    obtain ⟨c, a, b⟩ := words_vowel z hw
    exact b (hm c a)]
  rfl
/-- texts of single signs, joined -/
theorem signs_of {M : List Nat} : ∀ vs : List V, (∀ v, v ∈ vs → ∃ c, v = .str ⟨#[c]⟩ ∧ c ∈ M) → ∃ cs : List Nat, vs = (cs.map fun c => SX.S [c]).map V.str ∧ ∀ c, c ∈ cs → c ∈ M
  | [], _ => ⟨[], rfl, fun _ h => nomatch h⟩
  | v :: vs, h => by
    obtain ⟨c, rfl, hc⟩ := h v (List.mem_cons_self ..)
    obtain ⟨cs, rfl, hcs⟩ := signs_of vs fun u hu => h u (List.mem_cons_of_mem _ hu)
    exact ⟨c :: cs, rfl, fun d hd => (in_two hd).elim (fun e => e ▸ hc) (hcs d)⟩
theorem joinL_signs : ∀ cs : List Nat, TL.joinL [] (cs.map fun c => [c]) = cs
  | [] => rfl
  | [c] => rfl
  | c :: d :: cs => by
    show [c] ++ ([] ++ TL.joinL [] ((d :: cs).map fun c => [c])) = c :: d :: cs
    rw [joinL_signs (d :: cs)]
    rfl
theorem join_signs (cs : List Nat) : Txt.join "" (cs.map fun c => SX.S [c]) = SX.S cs := by
  have h := SX.join_S [] (cs.map fun c => [c])
  rw [joinL_signs, List.map_map] at h
  exact h
theorem sum_signs : ∀ cs : List Nat, ((cs.map fun c => SX.S [c]).map (·.length)).sum = cs.length
  | [] => rfl
  | c :: cs => by
    rw [List.map_cons, List.map_cons, List.sum_cons, sum_signs cs, List.length_cons]
    show 1 + cs.length = _
    omega
section
variable {K : PySem.W.Frag} {σ : L2.St} {G H : Hp} {L : List (Addr × HO)} {Q : VK} {D : Ends} {b f m : Addr} {F M : HO}
theorem Bag.get1 (B : Bag K G H b ((f, F) :: L)) : H f = some F := (bag_world K b).get B
theorem Bag.get2 (B : Bag K G H b ((f, F) :: (m, M) :: L)) : H m = some M := have ⟨_, _, _, _, _, _, S, _⟩ := B; S.at 2 rfl
theorem Bag.set1 {F' : HO} (B : Bag K G H b ((f, F) :: L)) : Bag K G (upd H f F') b ((f, F') :: L) := (bag_world K b).set B
theorem Bag.set2 {M' : HO} (B : Bag K G H b ((f, F) :: (m, M) :: L)) : Bag K G (upd H m M') b ((f, F) :: (m, M') :: L) := have ⟨c, i, r, x, n, ns, S, h⟩ := B; ⟨c, i, r, x, n, ns, S.wr 2 rfl, h⟩
theorem Bag.swap (B : Bag K G H b ((f, F) :: (m, M) :: L)) : Bag K G H b ((m, M) :: (f, F) :: L) := by
  obtain ⟨c, i, r, x, n, ns, S, h⟩ := B
  refine ⟨c, i, r, x, n, ns, ?_, h⟩
  have mm : ∀ p, p ∈ (b, bagO c i r x n) :: (m, M) :: (f, F) :: L → p ∈ (b, bagO c i r x n) :: (f, F) :: (m, M) :: L := fun p hp => (List.Perm.cons _ (List.Perm.swap (f, F) (m, M) L)).mem_iff.mp hp
  refine ⟨S.ex, fun p hp => S.has p (mm p hp), fun p hp => S.out p (mm p hp), ?_⟩
  exact (((List.Perm.swap (m, M) (f, F) L).cons (b, bagO c i r x n)).map Prod.fst).nodup S.nd
theorem rd_tru {te : TE} {QT : Bool → Hp → Prop} (q : te σ H fun x H1 => ∃ k, TruV K x H1 k ∧ QT k H1) : tTru K te σ H QT := q
theorem rd_trB {c : Bool} {P : Bool → Prop} (q : P c) : ∃ k, TruV K (.bl c) H k ∧ P k := ⟨c, rfl, q⟩
/-- ''.join([_law_of(bag, marks) for k in range(draw(bag, n))]) -/
theorem lc_signs {n : Int} {j : Nat} {σ : L2.St} {te : TE} (B : Bag K G H b L) (h0 : 0 ≤ n) (hz : n < 1000) (hw : ∀ x, wipe ((wipe σ [j]).set j (some x)) [j] = wipe σ [j])
    (hS : ∀ x H1 G1 L1, Bag K G1 H1 b L1 → ∀ Kp : VK, (∀ c H2, c ∈ mks → Bag K G1 H2 b L1 → Kp (.str ⟨#[c]⟩) H2) → te ((wipe σ [j]).set j (some x)) H1 Kp)
    (q : ∀ (t : List Nat) G2 H2, Ex G G2 → Bag K G2 H2 b L → (t.length : Int) = n → (∀ c, c ∈ t → c ∈ mks) → Q (.str (SX.S t)) H2) : LcG (Itr 0 n.toNat) (gName j) tYes te [j] σ H fun x H1 => JoinG K x H1 Q := by
  refine lc_draws (bag_world K b) (n := n.toNat) (lo := 0) B (by omega) hw (fun v => ∃ c, v = .str ⟨#[c]⟩ ∧ c ∈ mks) (fun i acc D1 G3 H3 hi e3 B3 Kp kp => ?_) (fun D1 vs G3 H3 e3 B3 hl hvs => ?_)
  · exact hS _ H3 G3 _ B3 _ fun c H4 hc B4 => kp _ G3 H4 (Ex.refl _) B4 ⟨c, rfl, hc⟩
  · obtain ⟨cs, rfl, hcs⟩ := signs_of vs hvs
    rw [List.length_map, List.length_map] at hl
    refine ⟨D1, _, rfl, sq_of B3.get1, by rw [sum_signs]; omega, ?_⟩
    rw [join_signs]
    exact q cs G3 H3 e3 ((bag_world K b).drop B3) (by omega) hcs
def sp_names (K : PySem.W.Frag) : Sp := fun vs H Q _ => ∃ (b : Addr) (m : Int) (G : Hp) (L : List (Addr × HO)), vs = [.ref b, .int m] ∧ 0 ≤ m ∧ m ≤ 10 ∧ Bag K G H b L ∧
  ∀ (p : Addr) (ns : List Str) (G' H' : Hp), Ex G G' → Bag K G' H' b L → SqL K G' p (ns.map V.str) → (ns.length : Int) = m → ns.Nodup → (∀ n, n ∈ ns → Drawn n) → Q (.ref p) H'
def t_names_3b_2 (K : PySem.W.Frag) : TS :=
  (tDrop (tBM K "list" rAppend (tVar 3) (tCons (tIf (tTru K (tVar 6)) (tOp (gAdd K) (tOp (gAdd K) (tSl (gSl K) (tVar 4) tNoPart (tPart (tVar 5))) (tVar 8)) (tSl (gSl K) (tVar 4) (tPart (tVar 5)) tNoPart)) (tOp (gAdd K) (tVar 8) (tVar 9))) tNil)))
def t_names_3b_1 (K : PySem.W.Frag) : TS :=
  (tSeq (tAsg (tJoin0 K (tLc (iRng1 (tCons (tCall (sp_draw K) [] E0 (tCons (tVar 0) (tCons (tC (.int 3)) tNil))) tNil)) (gName 10) tYes (tCall (sp_ofS K) [] E0 (tCons (tVar 0) (tCons (tC (.str "bcdghjkmpqrstvxz")) tNil))) [10])) (gName 9))
  (t_names_3b_2 K))
def t_names_3b (K : PySem.W.Frag) : TS :=
  (tSeq (tAsg (tBM K "list" rPopAt (tVar 2) (tCons (tCall (sp_draw K) [] E0 (tCons (tVar 0) (tCons (tCB (gLen K) (tCons (tVar 2) tNil)) tNil))) tNil)) (gName 8))
  (t_names_3b_1 K))
def t_names_4 (K : PySem.W.Frag) : TS :=
  (tRet (tVar 3))
def t_names_3 (K : PySem.W.Frag) : TS :=
  (tSeq (tFor (iRng1 (tCons (tVar 1) tNil)) (gName 7) (t_names_3b K))
  (t_names_4 K))
def t_names_2 (K : PySem.W.Frag) : TS :=
  (tSeq (tPar 5 6 (tCons (tCall (sp_draw K) [] E0 (tCons (tVar 0) (tCons (tOp (gAdd K) (tCB (gLen K) (tCons (tVar 4) tNil)) (tC (.int 1))) tNil))) (tCons (tOp (gEq K) (tCall (sp_draw K) [] E0 (tCons (tVar 0) (tCons (tC (.int 2)) tNil))) (tC (.int 0))) tNil)))
  (t_names_3 K))
def t_names_1 (K : PySem.W.Frag) : TS :=
  (tSeq (tAsg (tJoin0 K (tLc (iRng1 (tCons (tCall (sp_draw K) [] E0 (tCons (tVar 0) (tCons (tC (.int 4)) tNil))) tNil)) (gName 7) tYes (tCall (sp_ofS K) [] E0 (tCons (tVar 0) (tCons (tC (.str "bcdghjkmpqrstvxz")) tNil))) [7])) (gName 4))
  (t_names_2 K))
def t_names (K : PySem.W.Frag) : TS :=
  (tSeq (tPar 2 3 (tCons (tCB gListS (tCons (tC (.str "bcdghjkmpqrstvxz")) tNil)) (tCons (tLst tNil) tNil)))
  (t_names_1 K))
/-- what is known of the names found so far -/
structure Found (pos : Nat) (ms : List Nat) (ns : List Str) : Prop where
  nd : ns.Nodup
  dr : ∀ n, n ∈ ns → Drawn n
  mr : ∀ n, n ∈ ns → ∃ c, (cps n)[pos]? = some c ∧ c ∉ ms
  md : ms.Nodup
  mm : ∀ c, c ∈ ms → c ∈ mks
  len : ms.length + ns.length = 16
theorem Found.step {pos : Nat} {ms : List Nat} {ns : List Str} (F : Found pos ms ns) {k c : Nat} {z : Str} (hk : ms[k]? = some c) (hz : Drawn z) (hp : (cps z)[pos]? = some c) : Found pos (ms.eraseIdx k) (ns ++ [z]) := by
  have sub : ∀ d, d ∈ ms.eraseIdx k → d ∈ ms := fun d hd => (List.eraseIdx_sublist ms k).subset hd
  have hlt : k < ms.length := (List.getElem?_eq_some_iff.mp hk).1
  have out : c ∉ ms.eraseIdx k := fun z => by
    have e : ms = ms.take k ++ c :: ms.drop (k + 1) := by
      conv => lhs; rw [← List.take_append_drop k ms]
      rw [List.drop_eq_getElem_cons hlt, (List.getElem?_eq_some_iff.mp hk).2]
    rw [List.eraseIdx_eq_take_drop_succ] at z
    have nd := F.md
    rw [e] at nd
    have n1 := List.nodup_append.mp nd
    rcases List.mem_append.mp z with z | z
    · exact n1.2.2 c z c (List.mem_cons_self ..) rfl
    · exact (List.nodup_cons.mp n1.2.1).1 z
  refine ⟨?_, fun n hn => ?_, fun n hn => ?_, F.md.sublist (List.eraseIdx_sublist ms k), fun d hd => F.mm d (sub d hd), ?_⟩
  · refine List.nodup_append.mpr ⟨F.nd, by simp, fun a ha b hb e => ?_⟩
    rw [List.mem_singleton.mp hb] at e
    subst e
    obtain ⟨d, h1, h2⟩ := F.mr a ha
    rw [hp] at h1
    cases h1
    exact h2 (List.mem_of_getElem? hk)
  · rcases List.mem_append.mp hn with hn | hn
    · exact F.dr n hn
    · rw [List.mem_singleton.mp hn]; exact hz
  · rcases List.mem_append.mp hn with hn | hn
    · obtain ⟨d, h1, h2⟩ := F.mr n hn
      exact ⟨d, h1, fun z => h2 (sub d z)⟩
    · rw [List.mem_singleton.mp hn]
      exact ⟨c, hp, out⟩
  · rw [List.length_eraseIdx, if_pos hlt, List.length_append, List.length_singleton]
    have := F.len
    omega
abbrev sgs (ms : List Nat) : List V := ms.map fun c => .str ⟨#[c]⟩
theorem sgs_len (ms : List Nat) : (sgs ms).length = ms.length := List.length_map _
theorem sgs_get {ms : List Nat} {k c : Nat} (h : ms[k]? = some c) : (sgs ms)[k]? = some (.str ⟨#[c]⟩) := by
  show (ms.map _)[k]? = _
  rw [List.getElem?_map, h]
  rfl
theorem sgs_erase (ms : List Nat) (k : Nat) : (sgs ms).eraseIdx k = sgs (ms.eraseIdx k) := by
  show (ms.map _).eraseIdx k = (ms.eraseIdx k).map _
  rw [List.eraseIdx_eq_take_drop_succ, List.eraseIdx_eq_take_drop_succ, List.map_append, List.map_take, List.map_drop]
theorem read_of_mark {b : Addr} {G H : Hp} {L : List (Addr × HO)} {Q : VK} (B : Bag K G H b L) (q : ∀ c H2, c ∈ mks → Bag K G H2 b L → Q (.str ⟨#[c]⟩) H2) : sp_ofS K [.ref b, .str "bcdghjkmpqrstvxz"] H Q E0 := by
  have hl : marksS.length = 16 := by decide +kernel
  exact ⟨b, _, G, L, rfl, B, .inr ⟨marksS, rfl, by omega, by omega, fun c H2 hc B2 => q c H2 hc B2⟩⟩
section
variable {fa ma : Addr} {st : List Nat} {at_ : Nat} {nr : Bool} {ms : List Nat} {ns : List Str} {a1 a7 a8 a9 a10 : Option V}
theorem read_names_turn (B : Bag K G H b ((fa, .lst (ns.map V.str)) :: (ma, .lst (sgs ms)) :: L)) (hst : st.length ≤ 3) (sm : ∀ c, c ∈ st → c ∈ mks) (ha : at_ ≤ st.length) (F : Found (if nr then at_ else 0) ms ns) (hns : ns.length < 16)
    (q : ∀ x8 x9 ms' z G' H', Ex G G' → Bag K G' H' b ((fa, .lst ((ns ++ [z]).map V.str)) :: (ma, .lst (sgs ms')) :: L) → Found (if nr then at_ else 0) ms' (ns ++ [z]) → D.nx [some (.ref b), a1, some (.ref ma), some (.ref fa), some (.str (SX.S st)), some (.int (at_ : Nat)), some (.bl nr), a7, x8, x9, a10] H') :
    t_names_3b K D [some (.ref b), a1, some (.ref ma), some (.ref fa), some (.str (SX.S st)), some (.int (at_ : Nat)), some (.bl nr), a7, a8, a9, a10] H := by
  have sz : ∀ n : Nat, n < 90000 → n ≤ sizeLine := fun n h => sz_of (by omega)
  have hms : 0 < ms.length := by have := F.len; omega
  have hm16 : ms.length ≤ 16 := by have := F.len; omega
  unfold t_names_3b
  walk_at "gs"
  refine ⟨ty_list (sq_of B.get2), ?_⟩
  walk_at "gs"
  refine rd_lenL (sq_of B.get2) ?_
  rw [sgs_len]
  walk_at "gs"
  refine ⟨b, _, G, _, rfl, by omega, by omega, B, fun d H1 d0 d1 B1 => ?_⟩
  obtain ⟨k, rfl⟩ : ∃ k : Nat, d = (k : Int) := ⟨d.toNat, by omega⟩
  have hk : k < ms.length := by omega
  have hkc : ms[k]? = some ms[k] := List.getElem?_eq_getElem hk
  have hcm : ms[k] ∈ mks := F.mm _ (List.getElem_mem hk)
  walk_at "gs"
  refine ⟨ma, _, _, k, _, rfl, rfl, B1.get2, by omega, by omega, ?_, sgs_get hkc, ?_⟩
  · rw [sgs_len, seqIndex_of d0 d1]
    rfl
  rw [sgs_erase]
  have B2 := B1.set2 (M' := .lst (sgs (ms.eraseIdx k)))
  walk_at "gs"
  unfold t_names_3b_1
  walk_at "gs"
  refine ⟨b, 3, G, _, rfl, by decide, by decide, B2, fun m H2 m0 m1 B3 => ?_⟩
  walk_at "gs"
  refine ⟨m, rfl, by omega, by omega, ?_⟩
  refine lc_signs B3 m0 (by omega) (fun _ => rfl) (fun x H3 G3 L3 B4 Kp kp => ?_) fun t G4 H4 e4 B4 tl tm => ?_
  · walk_at "gs"
    exact read_of_mark B4 kp
  walk_at "gs"
  unfold t_names_3b_2
  walk_at "gs"
  refine ⟨ty_list (sq_of B4.get1), ?_⟩
  have fin : ∀ z : Str, Drawn z → (cps z)[if nr then at_ else 0]? = some ms[k] → rAppend (.ref fa) [.str z] H4 fun x H1 => D.nx [some (.ref b), a1, some (.ref ma), some (.ref fa), some (.str (SX.S st)), some (.int (at_ : Nat)), some (.bl nr), a7, some (.str ⟨#[ms[k]]⟩), some (.str (SX.S t)), a10] H1 := fun z hz hp => by
    refine rd_app B4.get1 (by rw [List.length_map]; omega) ?_
    refine q _ _ (ms.eraseIdx k) z G4 _ e4 ?_ (F.step hkc hz hp)
    rw [List.map_append]
    exact B4.set1
  walk_at "gs"
  refine rd_tru ?_
  walk_at "gs"
  refine rd_trB ?_
  cases nr with
  | true =>
    walk_at "gs"
    refine rd_slS (sz _ (by rw [len_S]; omega)) ?_
    rw [C8.cutS_slice, SX.slice_to (Int.natCast_nonneg _), Int.toNat_natCast]
    walk_at "gs"
    refine rd_addS (sz _ (by rw [len_S, List.length_take]; show _ + 1 < _; omega)) ?_
    rw [SX.S_cat]
    walk_at "gs"
    refine rd_slS (sz _ (by rw [len_S]; omega)) ?_
    rw [C8.cutS_slice, SX.slice_from (Int.natCast_nonneg _), Int.toNat_natCast]
    refine rd_addS (sz _ (by rw [len_S, len_S, List.length_append, List.length_take, List.length_drop]; show _ + 1 + _ < _; omega)) ?_
    rw [SX.S_cat]
    walk_at "gs"
    refine fin _ ⟨?_, ?_, fun c hc => ?_⟩ ?_
    · rw [len_S, List.length_append, List.length_append]; show 0 < _ + 1 + _; omega
    · rw [len_S, List.length_append, List.length_append, List.length_take, List.length_drop]; show _ + 1 + _ ≤ 4; omega
    · rw [cps_S] at hc
      rcases (List.mem_append.mp hc : _ ∨ _) with hc | hc
      · rcases (List.mem_append.mp hc : _ ∨ _) with hc | hc
        · exact sm c (List.mem_of_mem_take hc)
        · rw [List.mem_singleton.mp (show c ∈ [ms[k]] from hc)]; exact hcm
      · exact sm c (List.mem_of_mem_drop hc)
    · rw [cps_S, if_pos rfl, List.append_assoc, List.getElem?_append_right (by rw [List.length_take]; omega), List.length_take, show at_ - min at_ st.length = 0 by omega]
      rfl
  | false =>
    walk_at "gs"
    refine rd_addS (sz _ (by rw [len_S t]; show 1 + _ < _; omega)) ?_
    rw [SX.S_cat]
    walk_at "gs"
    refine fin _ ⟨?_, ?_, fun c hc => ?_⟩ ?_
    · rw [len_S, List.length_append]; show 0 < 1 + _; omega
    · rw [len_S, List.length_append]; show 1 + _ ≤ 4; omega
    · rw [cps_S] at hc
      rcases (List.mem_append.mp hc : _ ∨ _) with hc | hc
      · rw [List.mem_singleton.mp (show c ∈ [ms[k]] from hc)]; exact hcm
      · exact tm c hc
    · rw [cps_S, if_neg Bool.false_ne_true]
      rfl
theorem sat_names {vs : List V} {E : XK} (h : sp_names K vs H Q E) : vs.length = 2 ∧ t_names K { nx := fun _ H' => Q .non H', rt := Q } (vs.map some ++ List.replicate (11 - vs.length) none) H := by
  obtain ⟨b, m, G, L, rfl, m0, m10, B, q⟩ := h
  refine ⟨rfl, ?_⟩
  have hl : marksS.length = 16 := by decide +kernel
  have sz : ∀ n : Nat, n < 90000 → n ≤ sizeLine := fun n h => sz_of (by omega)
  unfold t_names
  walk_at "gs"
  refine ⟨marksS, rfl, sz _ (by omega), ?_⟩
  refine mk_mu (o := .lst (sgs mks)) (bag_world K b) B fun ma B1 => ?_
  walk_at "gs"
  refine mk_lstM (bag_world K b) B1 (Nat.zero_le _) fun fa B2 => ?_
  walk_at "gs"
  unfold t_names_1
  walk_at "gs"
  refine ⟨b, 4, G, _, rfl, by decide, by decide, B2, fun n H3 n0 n1 B3 => ?_⟩
  walk_at "gs"
  refine ⟨n, rfl, by omega, by omega, ?_⟩
  refine lc_signs B3 n0 (by omega) (fun _ => rfl) (fun x H3 G3 L3 B4 Kp kp => ?_) fun st G4 H4 e4 B4 tl tm => ?_
  · walk_at "gs"
    exact read_of_mark B4 kp
  walk_at "gs"
  unfold t_names_2
  walk_at "gs"
  refine rd_lenS (sz _ (by rw [len_S]; omega)) ?_
  rw [len_S]
  walk_at "gs"
  refine ⟨b, _, G4, _, rfl, by omega, by omega, B4, fun d H5 d0 d1 B5 => ?_⟩
  obtain ⟨a, rfl⟩ : ∃ a : Nat, d = (a : Int) := ⟨d.toNat, by omega⟩
  walk_at "gs"
  refine ⟨b, 2, G4, _, rfl, by decide, by decide, B5, fun e H6 e0 e1 B6 => ?_⟩
  walk_at "gs"
  generalize decide (e = 0) = nr
  unfold t_names_3
  walk_at "gs"
  refine ⟨m, rfl, by omega, by omega, ?_⟩
  refine for_go (walk_range (lo := 0) (n := m.toNat)) (G := G4)
    (fun i σ1 G2 H2 => ∃ x7 x8 x9 x10 ms ns, σ1 = [some (.ref b), some (.int m), some (.ref ma), some (.ref fa), some (.str (SX.S st)), some (.int (a : Nat)), some (.bl nr), x7, x8, x9, x10] ∧ Ex G4 G2 ∧
      Bag K G2 H2 b ((fa, .lst ((ns : List Str).map V.str)) :: (ma, .lst (sgs ms)) :: L) ∧ Found (if nr then a else 0) ms ns ∧ ns.length = i)
    ⟨_, _, _, _, mks, [], rfl, Ex.refl _, B6, ⟨List.nodup_nil, (fun _ h => by cases h), (fun _ h => by cases h), mks_ok.1, fun c h => h, by rw [mks_ok.2]; rfl⟩, rfl⟩ (fun _ _ _ _ _ _ => True.intro) ?_ ?_
  · rintro i x σ1 G2 H2 H3 hi ⟨x7, x8, x9, x10, ms, ns, rfl, e2, B7, F, hn⟩ y N hN
    obtain ⟨rfl, rfl⟩ := y
    walk_at "gs"
    exact read_names_turn B7 (by omega) tm (by omega) F (by omega) fun x8 x9 ms' z G' H' e' B' F' => hN _ G' H' ⟨_, _, _, _, ms', ns ++ [z], rfl, e2.trans e', B', F', by rw [List.length_append, hn]; rfl⟩
  · rintro σ1 G2 H2 ⟨x7, x8, x9, x10, ms, ns, rfl, e2, B7, F, hn⟩
    unfold t_names_4
    walk_at "gs"
    have z := (bag_world K b).frz B7
    refine q fa ns _ H2 (e4.trans (e2.trans z.2)) ((bag_world K b).drop z.1) (sq_of upd_same) (by omega) F.nd F.dr
end
end

/-! Levels that are drawn. -/



def mkL : List Str → List Lev → LevL
  | n :: ns, l :: ls => .cons n l (mkL ns ls)
  | _, _ => .nil
theorem mkL_names : ∀ (ns : List Str) (ls : List Lev), ns.length = ls.length → (mkL ns ls).names = ns
  | [], [], _ => rfl
  | n :: ns, l :: ls, h => by rw [mkL, LevL.names, mkL_names ns ls (Nat.succ.inj h)]
theorem mkL_levs : ∀ (ns : List Str) (ls : List Lev), ns.length = ls.length → (mkL ns ls).levs = ls
  | [], [], _ => rfl
  | n :: ns, l :: ls, h => by rw [mkL, LevL.levs, mkL_levs ns ls (Nat.succ.inj h)]
theorem mkL_good : ∀ (ns : List Str) (ls : List Lev), (∀ n, n ∈ ns → NameOk n) → (∀ l, l ∈ ls → l.good) → (mkL ns ls).good
  | [], _, _, _ => by rw [mkL]; rw [LevL.good]; exact True.intro; intros; contradiction
  | _ :: _, [], _, _ => by rw [mkL]; rw [LevL.good]; exact True.intro; intros; contradiction
  | n :: ns, l :: ls, h, g => by
    rw [mkL, LevL.good]
    exact ⟨h n (List.mem_cons_self ..), g l (List.mem_cons_self ..), mkL_good ns ls (fun x hx => h x (List.mem_cons_of_mem _ hx)) fun x hx => g x (List.mem_cons_of_mem _ hx)⟩
theorem depth_levs (m : Nat) : ∀ r : LevL, (∀ l, l ∈ r.levs → l.depth ≤ m) → r.depth ≤ m
  | .nil, _ => by rw [LevL.depth]; exact Nat.zero_le _
  | .cons n l r, h => by
    rw [LevL.levs] at h
    rw [LevL.depth]
    exact Nat.max_le.mpr ⟨h l (List.mem_cons_self ..), depth_levs m r fun x hx => h x (List.mem_cons_of_mem _ hx)⟩
mutual
/-- all names are drawn ones -/
def Lev.drawn : Lev → Prop
  | .mk fs ls => (∀ n, n ∈ fs → Drawn n) ∧ ls.drawn
def LevL.drawn : LevL → Prop
  | .nil => True
  | .cons n l r => Drawn n ∧ l.drawn ∧ r.drawn
end
theorem mkL_drawn : ∀ (ns : List Str) (ls : List Lev), (∀ n, n ∈ ns → Drawn n) → (∀ l, l ∈ ls → l.drawn) → (mkL ns ls).drawn
  | [], _, _, _ => by rw [mkL]; rw [LevL.drawn]; exact True.intro; intros; contradiction
  | _ :: _, [], _, _ => by rw [mkL]; rw [LevL.drawn]; exact True.intro; intros; contradiction
  | n :: ns, l :: ls, h, g => by
    rw [mkL, LevL.drawn]
    exact ⟨h n (List.mem_cons_self ..), g l (List.mem_cons_self ..), mkL_drawn ns ls (fun x hx => h x (List.mem_cons_of_mem _ hx)) fun x hx => g x (List.mem_cons_of_mem _ hx)⟩
theorem cutV_to {xs : List V} (k : Nat) : cutV xs none (some (k : Int)) = xs.take k := by
  unfold cutV
  rw [HT.sIx_none, show HT.sIx xs.length xs.length (some (k : Int)) = min k xs.length from HT.sIx_nat _ _ k, List.drop_zero, Nat.sub_zero, ← List.take_take, List.take_length]
theorem cutV_from {xs : List V} (k : Nat) : cutV xs (some (k : Int)) none = xs.drop k := by
  unfold cutV
  rw [HT.sIx_none, show HT.sIx xs.length 0 (some (k : Int)) = min k xs.length from HT.sIx_nat _ _ k]
  by_cases c : k ≤ xs.length
  · rw [Nat.min_eq_left c, List.take_of_length_le (by rw [List.length_drop]; exact Nat.le_refl _)]
  · rw [Nat.min_eq_right (by omega), List.drop_eq_nil_of_le (Nat.le_refl _), List.drop_eq_nil_of_le (by omega), List.take_nil]
section
variable {K : PySem.W.Frag} {σ : L2.St} {G H : Hp} {L : List (Addr × HO)} {Q : VK} {D : Ends} {b : Addr}
/-- levels at values -/
def LvsAt (K : PySem.W.Frag) (H : Hp) (us : List V) (ls : List Lev) : Prop := DpAll K H us (ls.map Lev.dat)
theorem LvsAt.ex {H H' : Hp} {us : List V} {ls : List Lev} (e : Ex H H') (h : LvsAt K H us ls) : LvsAt K H' us ls := DpAll.ex e _ _ h
theorem LvsAt.len {us : List V} {ls : List Lev} (h : LvsAt K H us ls) : us.length = ls.length := by
  have := DpAll.length h
  rwa [List.length_map] at this
theorem LvsAt.get {us : List V} {ls : List Lev} {i : Nat} {v : V} (h : LvsAt K H us ls) (hv : us[i]? = some v) : ∃ l, ls[i]? = some l ∧ Dp K H v l.dat := by
  obtain ⟨d, hd, dp⟩ := DpAll.get h hv
  rw [List.getElem?_map] at hd
  cases e : ls[i]? with
  | none => rw [e] at hd; cases hd
  | some l => rw [e] at hd; cases hd; exact ⟨l, rfl, dp⟩
/-- drawn, with few fields -/
def Lev.dr (nf : Int) (l : Lev) : Prop := l.drawn ∧ (l.fs.length : Int) ≤ nf
def sp_level (K : PySem.W.Frag) : Sp := fun vs H Q _ => ∃ (b ia : Addr) (nf : Int) (us : List V) (levs : List Lev) (G : Hp) (L : List (Addr × HO)), vs = [.ref b, .int nf, .ref ia] ∧ 1 ≤ nf ∧ nf ≤ 3 ∧ Bag K G H b L ∧ SqL K G ia us ∧ LvsAt K G us levs ∧ levs.length ≤ 2 ∧ (∀ l, l ∈ levs → l.good ∧ l.dr nf) ∧
  ∀ (v : V) (l : Lev) (G' H' : Hp), Ex G G' → Bag K G' H' b L → Dp K G' v l.dat → l.good → l.dr nf → l.ls.levs = levs → Q v H'
def t_level_2 (K : PySem.W.Frag) : TS :=
  (tRet (tLst (tCons (tSl (gSl K) (tVar 3) tNoPart (tPart (tVar 4))) (tCons (tLc (iZipA K (tCons (tSl (gSl K) (tVar 3) (tPart (tVar 4)) tNoPart) (tCons (tVar 2) tNil))) (gTup K 2 (gCons (gName 5) (gCons (gName 6) gNil))) tYes (tTup (tCons (tVar 5) (tCons (tVar 6) tNil))) [5, 6]) tNil))))
def t_level_1 (K : PySem.W.Frag) : TS :=
  (tSeq (tAsg (tOp (rI0 fun i j => .int (i - j)) (tCB (gLen K) (tCons (tVar 3) tNil)) (tCB (gLen K) (tCons (tVar 2) tNil))) (gName 4))
  (t_level_2 K))
def t_level (K : PySem.W.Frag) : TS :=
  (tSeq (tAsg (tCall (sp_names K) [] E0 (tCons (tVar 0) (tCons (tOp (gAdd K) (tOp (gAdd K) (tC (.int 1)) (tCall (sp_draw K) [] E0 (tCons (tVar 0) (tCons (tVar 1) tNil)))) (tCB (gLen K) (tCons (tVar 2) tNil))) tNil))) (gName 3))
  (t_level_1 K))
theorem sat_level {vs : List V} {E : XK} (h : sp_level K vs H Q E) : vs.length = 3 ∧ t_level K { nx := fun _ H' => Q .non H', rt := Q } (vs.map some ++ List.replicate (7 - vs.length) none) H := by
  obtain ⟨b, ia, nf, us, levs, G, L, rfl, n1, n3, B, hi, hu, h2, hg, q⟩ := h
  refine ⟨rfl, ?_⟩
  have hul := hu.len
  unfold t_level
  walk_at "gs"
  refine ⟨b, nf, G, _, rfl, by omega, by omega, B, fun d H1 d0 d1 B1 => ?_⟩
  walk_at "gs"
  refine rd_lenL (ex_l B1.ex hi) ?_
  walk_at "gs"
  refine ⟨b, _, G, _, rfl, by omega, by omega, B1, fun p ns G2 H2 e2 B2 hp hn nd dr => ?_⟩
  walk_at "gs"
  unfold t_level_1
  walk_at "gs"
  refine rd_lenL (ex_l B2.ex hp) ?_
  walk_at "gs"
  refine rd_lenL (ex_l (e2.trans B2.ex) hi) ?_
  rw [List.length_map]
  obtain ⟨many, hm⟩ : ∃ many : Nat, (ns.length : Int) - (us.length : Int) = many := ⟨((ns.length : Int) - (us.length : Int)).toNat, by omega⟩
  walk_at "gs"
  rw [hm]
  have hml : many + levs.length = ns.length := by omega
  have hm3 : 1 ≤ many ∧ many ≤ 3 := by omega
  unfold t_level_2
  walk_at "gs"
  refine rd_slL (ex_l B2.ex hp) ?_
  refine mk_im (o := .lst (cutV (ns.map V.str) none (some (many : Int)))) (bag_world K b) B2 fun fa G3 e3 B3 h3 => ?_
  rw [cutV_to, ← List.map_take] at h3
  walk_at "gs"
  refine rd_slL (ex_l (e3.trans B3.ex) hp) ?_
  refine mk_im (o := .lst (cutV (ns.map V.str) (some (many : Int)) none)) (bag_world K b) B3 fun na G4 e4 B4 h4 => ?_
  rw [cutV_from, ← List.map_drop] at h4
  walk_at "gs"
  have e24 := e2.trans (e3.trans e4)
  have hdl : (ns.drop many).length = levs.length := by rw [List.length_drop]; omega
  refine ⟨na, ia, (ns.drop many).map V.str, us, rfl, .inl ⟨ex_l B4.ex (sq_of h4), ex_l (e24.trans B4.ex) hi, ?_⟩⟩
  refine lc_go (bag_world K b) (walk_zip (n := levs.length) (by rw [List.length_map]; omega)) B4 (by omega) (ItPair K (fun i => ((ns.drop many).map V.str)[i]?) (fun i => us[i]?))
    (fun i acc G5 => ∃ qs : List Addr, acc = qs.map V.ref ∧ qs.length = i ∧ ∀ (j : Nat) (p : Addr), qs[j]? = some p → ∃ n v l, (ns.drop many)[j]? = some n ∧ levs[j]? = some l ∧ SqT K G5 p [.str n, v] ∧ Dp K G5 v l.dat)
    (fun H' e' => ⟨ex_l e' (sq_of h4), ex_l (e24.trans e') hi⟩) (fun i x G1 H1 H2 L1 _ e1 S1 y => item_pair (bag_world K b) S1 y) ⟨[], rfl, rfl, fun j p h => by simp at h⟩
    (fun i acc Ga Gb e ⟨qs, h1, h2, h3⟩ => ⟨qs, h1, h2, fun j p h => have ⟨n, v, l, a, b, c, d⟩ := h3 j p h; ⟨n, v, l, a, b, ex_t e c, Dp.ex e _ _ d⟩⟩) ?_ ?_
  · intro D1 i x acc G5 H5 hi2 _ e5 B5 ⟨qs, hacc, hql, hqs⟩ it Kp Sk kp sk
    obtain ⟨T, u, w, rfl, hT, hu1, hw⟩ := it
    have hu1 : ((ns.drop many).map V.str)[i]? = some u := hu1
    rw [List.getElem?_map] at hu1
    obtain ⟨n, hn1, rfl⟩ : ∃ n, (ns.drop many)[i]? = some n ∧ u = .str n := by
      cases e : (ns.drop many)[i]? with
      | none => rw [e] at hu1; cases hu1
      | some n => rw [e] at hu1; cases hu1; exact ⟨n, rfl, rfl⟩
    obtain ⟨l, hl1, dp⟩ := hu.get hw
    refine rd_gtup2 (ex_t B5.ex hT) ⟨rfl, ?_⟩
    refine rd_yes (rd_iT ?_)
    walk_at "gs"
    refine mk_tup (bag_world K b) B5 (by show 2 ≤ _; decide) fun p2 G6 e6 B6 h6 => ?_
    refine kp _ G6 _ e6 B6 ⟨qs ++ [p2], by rw [hacc, List.map_append]; rfl, by rw [List.length_append, hql]; rfl, fun j p3 hj => ?_⟩
    rcases Nat.lt_trichotomy j qs.length with hj2 | hj2 | hj2
    · rw [List.getElem?_append_left hj2] at hj
      obtain ⟨n3, v3, l3, a, b, c, d⟩ := hqs j p3 hj
      exact ⟨n3, v3, l3, a, b, ex_t e6 c, Dp.ex e6 _ _ d⟩
    · subst hj2
      rw [List.getElem?_append_right (Nat.le_refl _), Nat.sub_self] at hj
      cases (Option.some.inj hj)
      rw [hql]
      exact ⟨n, w, l, hn1, hl1, st_of h6, Dp.ex (e24.trans (e5.trans e6)) _ _ dp⟩
    · rw [List.getElem?_eq_none (by rw [List.length_append, List.length_singleton]; omega)] at hj
      cases hj
  · intro la acc G5 H5 e5 B5 ⟨qs, hacc, hql, hqs⟩ _
    subst hacc
    have zf := (bag_world K b).frz B5
    have hla : SqL K (upd G5 la (.lst (qs.map V.ref))) la (qs.map V.ref) := sq_of upd_same
    have B6 := zf.1
    have e6 := zf.2
    generalize upd G5 la (.lst (qs.map V.ref)) = G6 at *
    walk_at "gs"
    refine mk_lst (bag_world K b) B6 (by show 2 ≤ _; decide) fun ra G7 e7 B7 h7 => ?_
    have hnm := mkL_names (ns.drop many) levs hdl
    have hlv := mkL_levs (ns.drop many) levs hdl
    have e57 := e6.trans e7
    have drT : ∀ n, n ∈ ns.take many → Drawn n := fun n h => dr n (List.mem_of_mem_take h)
    have drD : ∀ n, n ∈ ns.drop many → Drawn n := fun n h => dr n (List.mem_of_mem_drop h)
    refine q (.ref ra) (.mk (ns.take many) (mkL (ns.drop many) levs)) G7 _ (e24.trans (e5.trans e57)) B7 ?_ ?_ ?_ hlv
    · refine lv_mk (sq_of h7) (ex_l (e4.trans (e5.trans e57)) (sq_of h3)) (ex_l e7 hla) ⟨by rw [hnm, hql, hdl], fun j p hj => ?_⟩
      rw [hnm, hlv]
      obtain ⟨n, v, l, a, b, c, d⟩ := hqs j p hj
      exact ⟨n, v, l, a, b, ex_t e57 c, Dp.ex e57 _ _ d⟩
    · rw [Lev.good]
      refine ⟨by rw [List.length_take]; omega, by rw [List.length_take]; omega, fun n h => (drT n h).ok, ?_, ?_, mkL_good _ _ (fun n h => (drD n h).ok) fun l hl => (hg l hl).1⟩
      · rw [hnm, List.take_append_drop]
        exact nd
      · rw [hnm, hdl]; exact h2
    · refine ⟨?_, ?_⟩
      · rw [Lev.drawn]
        exact ⟨drT, mkL_drawn _ _ drD fun l hl => (hg l hl).2.1⟩
      · show ((ns.take many).length : Int) ≤ nf
        rw [List.length_take]
        omega
def sp_some_level (K : PySem.W.Frag) : Sp := fun vs H Q _ => ∃ (b : Addr) (sh nf : Int) (G : Hp) (L : List (Addr × HO)), vs = [.ref b, .int sh, .int nf] ∧ 0 ≤ sh ∧ sh < 5 ∧ 1 ≤ nf ∧ nf ≤ 3 ∧ Bag K G H b L ∧
  ∀ (v : V) (l : Lev) (G' H' : Hp), Ex G G' → Bag K G' H' b L → Dp K G' v l.dat → l.good → l.dr nf → (∀ m, m ∈ l.ls.levs → m.dr nf) → l.depth ≤ 3 → (0 < sh → l.ls.levs ≠ []) → Q v H'
def t_some_level_3 (K : PySem.W.Frag) : TS :=
  (tRet (tCall (sp_level K) [] E0 (tCons (tVar 0) (tCons (tVar 2) (tCons (tVar 5) tNil)))))
def t_some_level_2 (K : PySem.W.Frag) : TS :=
  (tSeq (tAsg (tOp (rIx K) (tLst (tCons (tLst tNil) (tCons (tLst (tCons (tVar 4) tNil)) (tCons (tLst (tCons (tVar 3) tNil)) (tCons (tLst (tCons (tVar 4) (tCons (tCall (sp_level K) [] E0 (tCons (tVar 0) (tCons (tVar 2) (tCons (tLst tNil) tNil)))) tNil))) (tCons (tLst (tCons (tVar 3) (tCons (tVar 4) tNil))) tNil)))))) (tVar 1)) (gName 5))
  (t_some_level_3 K))
def t_some_level_1 (K : PySem.W.Frag) : TS :=
  (tSeq (tAsg (tCall (sp_level K) [] E0 (tCons (tVar 0) (tCons (tVar 2) (tCons (tLst tNil) tNil)))) (gName 4))
  (t_some_level_2 K))
def t_some_level (K : PySem.W.Frag) : TS :=
  (tSeq (tAsg (tCall (sp_level K) [] E0 (tCons (tVar 0) (tCons (tVar 2) (tCons (tLst (tCons (tCall (sp_level K) [] E0 (tCons (tVar 0) (tCons (tVar 2) (tCons (tLst tNil) tNil)))) tNil)) tNil)))) (gName 3))
  (t_some_level_1 K))
theorem depth_of (l : Lev) (m : Nat) (h : ∀ k, k ∈ l.ls.levs → k.depth ≤ m) : l.depth ≤ m + 1 := by
  obtain ⟨fs, ls⟩ := l
  rw [Lev.depth]
  have := depth_levs m ls h
  omega
theorem nil_levs {H : Hp} : LvsAt K H [] [] := .nil
theorem one_lev {H : Hp} {v : V} {l : Lev} (h : Dp K H v l.dat) : LvsAt K H [v] [l] := .cons h .nil
theorem two_levs {H : Hp} {v w : V} {l k : Lev} (h : Dp K H v l.dat) (g : Dp K H w k.dat) : LvsAt K H [v, w] [l, k] := .cons h (.cons g .nil)
/-- what stands in the list of shapes -/
def ShapeAt (K : PySem.W.Frag) (nf : Int) (j : Nat) (H : Hp) (x : V) : Prop := ∃ (a : Addr) (us : List V) (levs : List Lev), x = .ref a ∧ SqL K H a us ∧ LvsAt K H us levs ∧ levs.length ≤ 2 ∧ (∀ l, l ∈ levs → l.good ∧ l.dr nf) ∧ (∀ l, l ∈ levs → l.depth ≤ 2) ∧ (0 < j → levs ≠ [])
theorem ShapeAt.ex {nf : Int} {j : Nat} {H H' : Hp} {x : V} (e : Ex H H') (h : ShapeAt K nf j H x) : ShapeAt K nf j H' x := have ⟨a, us, ls, h1, h2, h3, h4⟩ := h; ⟨a, us, ls, h1, ex_l e h2, h3.ex e, h4⟩
theorem sat_some_level {vs : List V} {E : XK} (h : sp_some_level K vs H Q E) : vs.length = 3 ∧ t_some_level K { nx := fun _ H' => Q .non H', rt := Q } (vs.map some ++ List.replicate (6 - vs.length) none) H := by
  obtain ⟨b, sh, nf, G, L, rfl, s0, s5, n1, n3, B, q⟩ := h
  refine ⟨rfl, ?_⟩
  have W := bag_world K b
  unfold t_some_level
  walk_at "gs"
  refine mk_lst W B (Nat.zero_le _) fun a1 G1 e1 B1 h1 => ?_
  walk_at "gs"
  refine ⟨b, a1, nf, [], [], G1, _, rfl, n1, n3, B1, sq_of h1, nil_levs, Nat.zero_le _, (fun l h => by cases h), fun v1 l1 G2 H2 e2 B2 d1 g1 r1 k1 => ?_⟩
  have dep1 : l1.depth ≤ 1 := depth_of l1 0 (by rw [k1]; exact fun k h => by cases h)
  walk_at "gs"
  refine mk_lst W B2 (by show 1 ≤ _; decide) fun a2 G3 e3 B3 h3 => ?_
  walk_at "gs"
  refine ⟨b, a2, nf, [v1], [l1], G3, _, rfl, n1, n3, B3, sq_of h3, one_lev (Dp.ex e3 _ _ d1), by show 1 ≤ 2; decide, (fun l h => by rw [List.mem_singleton.mp h]; exact ⟨g1, r1⟩), fun v2 l2 G4 H4 e4 B4 d2 g2 r2 k2 => ?_⟩
  have dep2 : l2.depth ≤ 2 := depth_of l2 1 (by rw [k2]; exact fun k h => by rw [List.mem_singleton.mp h]; exact dep1)
  walk_at "gs"
  unfold t_some_level_1
  walk_at "gs"
  refine mk_lst W B4 (Nat.zero_le _) fun a5 G5 e5 B5 h5 => ?_
  walk_at "gs"
  refine ⟨b, a5, nf, [], [], G5, _, rfl, n1, n3, B5, sq_of h5, nil_levs, Nat.zero_le _, (fun l h => by cases h), fun v3 l3 G6 H6 e6 B6 d3 g3 r3 k3 => ?_⟩
  have dep3 : l3.depth ≤ 1 := depth_of l3 0 (by rw [k3]; exact fun k h => by cases h)
  walk_at "gs"
  unfold t_some_level_2
  walk_at "gs"
  have d2' := Dp.ex (e5.trans e6) _ _ d2
  refine mk_lst W B6 (Nat.zero_le _) fun c1 G7 e7 B7 h7 => ?_
  walk_at "gs"
  refine mk_lst W B7 (by show 1 ≤ _; decide) fun c2 G8 e8 B8 h8 => ?_
  walk_at "gs"
  refine mk_lst W B8 (by show 1 ≤ _; decide) fun c3 G9 e9 B9 h9 => ?_
  walk_at "gs"
  refine mk_lst W B9 (Nat.zero_le _) fun a10 G10 e10 B10 h10 => ?_
  walk_at "gs"
  refine ⟨b, a10, nf, [], [], G10, _, rfl, n1, n3, B10, sq_of h10, nil_levs, Nat.zero_le _, (fun l h => by cases h), fun v4 l4 G11 H11 e11 B11 d4 g4 r4 k4 => ?_⟩
  have dep4 : l4.depth ≤ 1 := depth_of l4 0 (by rw [k4]; exact fun k h => by cases h)
  walk_at "gs"
  refine mk_lst W B11 (by show 2 ≤ _; decide) fun c4 G12 e12 B12 h12 => ?_
  walk_at "gs"
  refine mk_lst W B12 (by show 2 ≤ _; decide) fun c5 G13 e13 B13 h13 => ?_
  walk_at "gs"
  refine mk_lst W B13 (by show 5 ≤ _; decide) fun c6 G14 e14 B14 h14 => ?_
  have x14 := e14
  have x13 := e13.trans x14
  have x12 := e12.trans x13
  have x11 := e11.trans x12
  have x10 := e10.trans x11
  have x9 := e9.trans x10
  have x8 := e8.trans x9
  have x7 := e7.trans x8
  have s1 : ShapeAt K nf 0 G14 (.ref c1) := ⟨c1, [], [], rfl, ex_l x8 (sq_of h7), nil_levs, Nat.zero_le _, (fun l h => by cases h), (fun l h => by cases h), fun z => absurd z (by decide)⟩
  have s2 : ShapeAt K nf 1 G14 (.ref c2) := ⟨c2, [v3], [l3], rfl, ex_l x9 (sq_of h8), one_lev (Dp.ex x7 _ _ d3), by show 1 ≤ 2; decide, (fun l h => by rw [List.mem_singleton.mp h]; exact ⟨g3, r3⟩), (fun l h => by rw [List.mem_singleton.mp h]; omega), fun _ => List.cons_ne_nil _ _⟩
  have s3 : ShapeAt K nf 2 G14 (.ref c3) := ⟨c3, [v2], [l2], rfl, ex_l x10 (sq_of h9), one_lev (Dp.ex x7 _ _ d2'), by show 1 ≤ 2; decide, (fun l h => by rw [List.mem_singleton.mp h]; exact ⟨g2, r2⟩), (fun l h => by rw [List.mem_singleton.mp h]; omega), fun _ => List.cons_ne_nil _ _⟩
  have s4 : ShapeAt K nf 3 G14 (.ref c4) := ⟨c4, [v3, v4], [l3, l4], rfl, ex_l x13 (sq_of h12), two_levs (Dp.ex x7 _ _ d3) (Dp.ex x12 _ _ d4), by show 2 ≤ 2; decide, (fun l h => (in_two h).elim (fun e => e ▸ ⟨g3, r3⟩) fun h => by rw [List.mem_singleton.mp h]; exact ⟨g4, r4⟩), (fun l h => (in_two h).elim (fun e => by rw [e]; omega) fun h => by rw [List.mem_singleton.mp h]; omega), fun _ => List.cons_ne_nil _ _⟩
  have s5' : ShapeAt K nf 4 G14 (.ref c5) := ⟨c5, [v2, v3], [l2, l3], rfl, ex_l x14 (sq_of h13), two_levs (Dp.ex x7 _ _ d2') (Dp.ex x7 _ _ d3), by show 2 ≤ 2; decide, (fun l h => (in_two h).elim (fun e => e ▸ ⟨g2, r2⟩) fun h => by rw [List.mem_singleton.mp h]; exact ⟨g3, r3⟩), (fun l h => (in_two h).elim (fun e => by rw [e]; omega) fun h => by rw [List.mem_singleton.mp h]; omega), fun _ => List.cons_ne_nil _ _⟩
  obtain ⟨j, rfl⟩ : ∃ j : Nat, sh = (j : Int) := ⟨sh.toNat, by omega⟩
  have hj : ∃ x, ([V.ref c1, .ref c2, .ref c3, .ref c4, .ref c5])[j]? = some x ∧ ShapeAt K nf j G14 x := by
    have : j < 5 := by omega
    match j, this with
    | 0, _ => exact ⟨_, rfl, s1⟩
    | 1, _ => exact ⟨_, rfl, s2⟩
    | 2, _ => exact ⟨_, rfl, s3⟩
    | 3, _ => exact ⟨_, rfl, s4⟩
    | 4, _ => exact ⟨_, rfl, s5'⟩
  obtain ⟨x, hx, a, us, levs, rfl, hu, hv, l2', hg, hd, hne⟩ := hj
  walk_at "gs"
  refine rd_ixL (i := (j : Nat)) (v := .ref a) (B14.ex _ _ h14 |> sq_of) (atI_nat hx) ?_
  walk_at "gs"
  unfold t_some_level_3
  walk_at "gs"
  refine ⟨b, a, nf, us, levs, G14, _, rfl, n1, n3, B14, hu, hv, l2', hg, fun v l G15 H15 e15 B15 dp gd dr hk => ?_⟩
  walk_at "gs"
  have dep : l.depth ≤ 3 := depth_of l 2 (by rw [hk]; exact hd)
  exact q v l G15 H15 (e1.trans (e2.trans (e3.trans (e4.trans (e5.trans (e6.trans (x7.trans e15))))))) B15 dp gd dr (fun m hm => (hg m (hk ▸ hm)).2) dep (fun z => by rw [hk]; exact hne (by omega))
end

/-! Data: nested so deep and so long. -/



theorem in_app {α : Type} {x : α} {l m : List α} (h : x ∈ l ++ m) : x ∈ l ∨ x ∈ m := List.mem_append.mp h
def flatD (m : Nat) : PyData → Prop
  | .list _ => False
  | .tuple _ => False
  | .str z => z.length ≤ m + 100 ∧ PyData.strOk z = true
  | .dict _ => False
  | .int i => i.natAbs < 10 ^ 30
  | _ => True
/-- nested at most n deep, no sequence longer than m -/
def box (m : Nat) : Nat → PyData → Prop
  | 0, d => flatD m d
  | n + 1, d => match d with
    | .list ds => ds.length ≤ m ∧ ∀ e, e ∈ ds → box m n e
    | .tuple ds => ds.length ≤ m ∧ ∀ e, e ∈ ds → box m n e
    | d => flatD m d
theorem flatD_mono {m M : Nat} (h : m ≤ M) : ∀ {d : PyData}, flatD m d → flatD M d
  | .list _, g => g.elim
  | .tuple _, g => g.elim
  | .str z, g => ⟨Nat.le_trans g.1 (by omega), g.2⟩
  | .none, _ => True.intro
  | .bool _, _ => True.intro
  | .int _, g => g
  | .dict _, g => g.elim
theorem box_flat {m : Nat} (n : Nat) : ∀ {d : PyData}, flatD m d → box m n d := fun {d} h => by
  cases n with
  | zero => exact h
  | succ n => cases d <;> first | exact h.elim | exact h
theorem box_mono {m M : Nat} (h : m ≤ M) : ∀ {n k : Nat}, n ≤ k → ∀ {d : PyData}, box m n d → box M k d
  | 0, k, _, d, g => box_flat k (flatD_mono h g)
  | n + 1, 0, z, _, _ => by omega
  | n + 1, k + 1, z, d, g => by
    cases d with
    | list ds => exact ⟨Nat.le_trans g.1 h, fun e he => box_mono h (Nat.le_of_succ_le_succ z) (g.2 e he)⟩
    | tuple ds => exact ⟨Nat.le_trans g.1 h, fun e he => box_mono h (Nat.le_of_succ_le_succ z) (g.2 e he)⟩
    | none => exact True.intro
    | bool _ => exact True.intro
    | int _ => exact g
    | dict _ => exact (show False from g).elim
    | str z => exact ⟨Nat.le_trans (show z.length ≤ m + 100 ∧ _ from g).1 (by omega : m + 100 ≤ M + 100), (show _ ∧ PyData.strOk z = true from g).2⟩
theorem box_tup {m n : Nat} {ds : List PyData} (h : ds.length ≤ m) (g : ∀ e, e ∈ ds → box m n e) : box m (n + 1) (.tuple ds) := ⟨h, g⟩
theorem box_lst {m n : Nat} {ds : List PyData} (h : ds.length ≤ m) (g : ∀ e, e ∈ ds → box m n e) : box m (n + 1) (.list ds) := ⟨h, g⟩
theorem canAll {ds : List PyData} : (∀ d, d ∈ ds → PyData.canLay0 d = true) → PyData.canLayAll0 ds = true := by
  induction ds with
  | nil => exact fun _ => rfl
  | cons d ds ih =>
    intro h
    show (PyData.canLay0 d && PyData.canLayAll0 ds) = true
    rw [h d (List.mem_cons_self ..), ih fun e he => h e (List.mem_cons_of_mem _ he)]
    rfl
theorem depAll {n : Nat} {ds : List PyData} : (∀ d, d ∈ ds → PyData.depth d ≤ n) → PyData.depthAll ds ≤ n := by
  induction ds with
  | nil => exact fun _ => Nat.zero_le _
  | cons d ds ih =>
    intro h
    show max (PyData.depth d) (PyData.depthAll ds) ≤ n
    exact Nat.max_le.mpr ⟨h d (List.mem_cons_self ..), ih fun e he => h e (List.mem_cons_of_mem _ he)⟩
theorem flat_lay {m : Nat} : ∀ {d : PyData}, flatD m d → PyData.canLay0 d = true ∧ PyData.depth d = 0
  | .none, _ => ⟨rfl, rfl⟩
  | .bool _, _ => ⟨rfl, rfl⟩
  | .int _, _ => ⟨rfl, rfl⟩
  | .str z, h => ⟨h.2, rfl⟩
  | .list _, h => h.elim
  | .tuple _, h => h.elim
  | .dict _, h => h.elim
theorem box_lay {m : Nat} : ∀ (n : Nat) (d : PyData), box m n d → PyData.canLay0 d = true ∧ PyData.depth d ≤ n
  | 0, d, h => have z := flat_lay (show flatD m d from h); ⟨z.1, by rw [z.2]; exact Nat.le_refl _⟩
  | n + 1, d, h => by
    cases d with
    | list ds =>
      have ih := fun e he => box_lay n e (h.2 e he)
      exact ⟨canAll fun e he => (ih e he).1, Nat.succ_le_succ (depAll fun e he => (ih e he).2)⟩
    | tuple ds =>
      have ih := fun e he => box_lay n e (h.2 e he)
      exact ⟨canAll fun e he => (ih e he).1, Nat.succ_le_succ (depAll fun e he => (ih e he).2)⟩
    | none => exact ⟨rfl, Nat.zero_le _⟩
    | bool _ => exact ⟨rfl, Nat.zero_le _⟩
    | int _ => exact ⟨rfl, Nat.zero_le _⟩
    | str z => exact ⟨(show z.length ≤ m + 100 ∧ PyData.strOk z = true from h).2, Nat.zero_le _⟩
    | dict _ => exact (show False from h).elim
theorem box_shaped {m n : Nat} {d : PyData} (h : box m n d) (hn : n ≤ 64) : SeqAt.shaped d = true := by
  have z := box_lay n d h
  unfold SeqAt.shaped
  rw [z.1, decide_eq_true (Nat.le_trans z.2 hn)]
  rfl
theorem box_len {m n : Nat} {ds : List PyData} (h : box m n (.tuple ds)) : ds.length ≤ m := by
  cases n with
  | zero => exact (show False from h).elim
  | succ n => exact h.1
theorem box_in {m n : Nat} {ds : List PyData} (h : box m n (.tuple ds)) : ∃ k, n = k + 1 ∧ ∀ e, e ∈ ds → box m k e := by
  cases n with
  | zero => exact (show False from h).elim
  | succ n => exact ⟨n, rfl, h.2⟩
theorem DpAll.mem {K : PySem.W.Frag} {H : Hp} {vs : List V} {ds : List PyData} {v : V} (h : DpAll K H vs ds) (hv : v ∈ vs) : ∃ d, d ∈ ds ∧ Dp K H v d :=
  have ⟨i, hi⟩ := List.getElem?_of_mem hv
  have ⟨d, h1, h2⟩ := DpAll.get h hi
  ⟨d, List.mem_of_getElem? h1, h2⟩
theorem box_new {m k : Nat} {ds es : List PyData} (h : box m (k + 1) (.tuple ds)) (hl : es.length ≤ m + 1) (he : ∀ e, e ∈ es → e ∈ ds ∨ box (m + 3) (k + 2) e) : box (m + 3) (k + 3) (.tuple es) :=
  ⟨by omega, fun e hm => (he e hm).elim (fun z => box_mono (by omega) (by omega) (h.2 e z)) id⟩
/-! ### readings in any world -/
section
variable {W : Hp → Hp → List (Addr × HO) → Prop} {K : PySem.W.Frag} {G H : Hp} {L : List (Addr × HO)} {σ : L2.St} {te : TE} {tt : TT} {Q : VK} {a b : Addr} {xs ys : List V} {j : Nat}
theorem rd_slA (hW : Wd W) (S : W G H L) {lo hi : Option Int} (h : SqT K G a xs) (q : ∀ p G' H', Ex G G' → W G' H' L → SqT K G' p (cutV xs lo hi) → Q (.ref p) H') : rSlA K (.ref a) lo hi H Q := by
  refine ⟨a, xs, rfl, ex_t (hW.ex S) h, fun ⟨h1, h2⟩ => q a G H (Ex.refl G) S ?_, fun _ => mk_im (o := .tup (cutV xs lo hi)) hW S fun p G1 e1 S1 h1 => q p G1 _ e1 S1 (st_of h1)⟩
  have e : cutV xs lo hi = xs := by
    unfold cutV
    rw [h1, h2, List.drop_zero, Nat.sub_zero, List.take_length]
  rw [e]
  exact h
theorem rd_catT (hW : Wd W) (S : W G H L) (ha : SqT K G a xs) (hb : SqT K G b ys) (hz : xs.length + ys.length ≤ 100000) (q : ∀ p G' H', Ex G G' → W G' H' L → SqT K G' p (xs ++ ys) → Q (.ref p) H') : gAdd K (.ref a) (.ref b) H Q := by
  refine .inr (.inr (.inr ⟨a, b, xs, ys, rfl, rfl, ex_t (hW.ex S) ha, ex_t (hW.ex S) hb, sz_of hz, fun e => q b G H (Ex.refl G) S (by rw [e]; exact hb), fun _ e => q a G H (Ex.refl G) S (by rw [e, List.append_nil]; exact ha), fun _ _ => ?_⟩))
  exact mk_im (o := .tup (xs ++ ys)) hW S fun p G1 e1 S1 h1 => q p G1 _ e1 S1 (st_of h1)
theorem rd_gtupE (hW : Wd W) (S : W G H L) (h : SqL K G a xs ∨ SqT K G a xs) (q : ∀ p G' H', Ex G G' → W G' H' L → SqT K G' p xs → Q (.ref p) H') : gTuple K [.ref a] H Q := by
  rcases h with h | h
  · exact rd_gtupleL (ex_l (hW.ex S) h) (mk_im (o := .tup xs) hW S fun p G1 e1 S1 h1 => q p G1 _ e1 S1 (st_of h1))
  · exact rd_gtupleT (ex_t (hW.ex S) h) (q a G H (Ex.refl G) S h)
theorem rd_glistE (hW : Wd W) (S : W G H L) (h : SqL K G a xs ∨ SqT K G a xs) (q : ∀ p G' H', Ex G G' → W G' H' L → SqL K G' p xs → Q (.ref p) H') : gList K [.ref a] H Q :=
  ⟨a, xs, rfl, h.imp (ex_l (hW.ex S)) (ex_t (hW.ex S)), mk_im (o := .lst xs) hW S fun p G1 e1 S1 h1 => q p G1 _ e1 S1 (sq_of h1)⟩
/-- tests of data, one by one -/
theorem lc_boolD (hW : Wd W) {J : It} {Gw : Hp → Prop} {ds : List PyData} (w : Walk J xs.length Gw (YAt xs)) (S : W G H L) (hg : ∀ H', Ex G H' → Gw H') (hz : xs.length < 1000000) (hw : ∀ x, wipe ((wipe σ [j]).set j (some x)) [j] = wipe σ [j]) (hA : DpAll K G xs ds) (f : PyData → Bool)
    (hS : ∀ (i : Nat) x d acc D G1 H1, xs[i]? = some x → ds[i]? = some d → Dp K G1 x d → Ex G G1 → W G1 H1 ((D, .lst acc) :: L) → ∀ Kp : VK, (∀ H2, W G1 H2 ((D, .lst acc) :: L) → Kp (.bl (f d)) H2) → te ((wipe σ [j]).set j (some x)) H1 Kp)
    (q : ∀ D G2 H2, Ex G G2 → W G2 H2 ((D, .lst ((ds.map f).map V.bl)) :: L) → Q (.ref D) H2) : LcG J (gName j) tYes te [j] σ H Q := by
  have hl := DpAll.length hA
  refine lc_go hW w S hz (fun i v _ => xs[i]? = some v) (fun i acc _ => acc = ((ds.take i).map f).map V.bl) hg (fun i x G1 H1 H2 L1 _ e1 S1 y => item_at S1 y) rfl (fun _ _ _ _ _ h => h) ?_ ?_
  · intro D i x acc G1 H1 hi _ e1 S1 I1 it Kp Sk kp sk
    refine rd_name ⟨hw x, rd_yes (rd_iT ?_)⟩
    obtain ⟨d, hd, dp⟩ := DpAll.get hA it
    refine hS i x d acc D G1 H1 it hd (Dp.ex e1 _ _ dp) e1 S1 _ fun H2 S2 => kp _ G1 H2 (Ex.refl _) S2 ?_
    rw [I1, List.take_add_one, hd, List.map_append, List.map_append]
    rfl
  · intro D acc G2 H2 e2 S2 I2 _
    rw [List.take_of_length_le (by omega)] at I2
    subst I2
    exact q D G2 H2 e2 S2
end
section
variable {W : Hp → Hp → List (Addr × HO) → Prop} {K : PySem.W.Frag} {G H : Hp} {L : List (Addr × HO)} {σ : L2.St} {te : TE} {tt : TT} {Q : VK} {a b : Addr} {xs ys : List V} {j : Nat}
theorem lc_dataR (hW : Wd W) {n : Nat} {lo : Int} (S : W G H L) (hz : n < 1000000) (hw : ∀ x, wipe ((wipe σ [j]).set j (some x)) [j] = wipe σ [j]) (P : PyData → Prop)
    (hS : ∀ i acc D G1 H1, i < n → Ex G G1 → W G1 H1 ((D, .lst acc) :: L) → ∀ Kp : VK, (∀ v d G2 H2, Ex G1 G2 → W G2 H2 ((D, .lst acc) :: L) → Dp K G2 v d → P d → Kp v H2) → te ((wipe σ [j]).set j (some (.int (lo + (i : Nat))))) H1 Kp)
    (q : ∀ D vs ds G2 H2, Ex G G2 → W G2 H2 ((D, .lst vs) :: L) → DpAll K G2 vs ds → ds.length = n → (∀ d, d ∈ ds → P d) → Q (.ref D) H2) : LcG (Itr lo n) (gName j) tYes te [j] σ H Q := by
  refine lc_go hW walk_range S hz (fun i v _ => v = .int (lo + (i : Nat))) (fun i acc G' => ∃ ds : List PyData, DpAll K G' acc ds ∧ ds.length = i ∧ ∀ d, d ∈ ds → P d) (fun _ _ => True.intro)
    (fun i x G1 H1 H2 L1 _ e1 S1 y => item_fn S1 y) ⟨[], .nil, rfl, fun _ h => by cases h⟩ (fun i acc Ga Gb e ⟨ds, h1, h2⟩ => ⟨ds, DpAll.ex e _ _ h1, h2⟩) ?_ ?_
  · intro D i x acc G1 H1 hi _ e1 S1 ⟨ds, hd, hl, hP⟩ it Kp Sk kp sk
    subst it
    refine rd_name ⟨hw _, rd_yes (rd_iT ?_)⟩
    refine hS i acc D G1 H1 hi e1 S1 _ fun v d G2 H2 e2 S2 hv hp => kp v G2 H2 e2 S2 ⟨ds ++ [d], DpAll.snoc (DpAll.ex e2 _ _ hd) hv, by rw [List.length_append, hl]; rfl, fun u hu => ?_⟩
    cases List.mem_append.mp hu with
    | inl h => exact hP u h
    | inr h => rw [List.mem_singleton.mp h]; exact hp
  · intro D acc G2 H2 e2 S2 ⟨ds, hd, hl, hP⟩ _
    exact q D acc ds G2 H2 e2 S2 hd hl hP
theorem lc_dataJ (hW : Wd W) {J : It} {Gw : Hp → Prop} (w : Walk J xs.length Gw (YAt xs)) (S : W G H L) (hg : ∀ H', Ex G H' → Gw H') (hz : xs.length < 1000000) (hw : ∀ x, wipe ((wipe σ [j]).set j (some x)) [j] = wipe σ [j]) (P : PyData → Prop)
    (hS : ∀ i x acc D G1 H1, i < xs.length → xs[i]? = some x → Ex G G1 → W G1 H1 ((D, .lst acc) :: L) → ∀ Kp : VK, (∀ v d G2 H2, Ex G1 G2 → W G2 H2 ((D, .lst acc) :: L) → Dp K G2 v d → P d → Kp v H2) → te ((wipe σ [j]).set j (some x)) H1 Kp)
    (q : ∀ D vs ds G2 H2, Ex G G2 → W G2 H2 ((D, .lst vs) :: L) → DpAll K G2 vs ds → ds.length = xs.length → (∀ d, d ∈ ds → P d) → Q (.ref D) H2) : LcG J (gName j) tYes te [j] σ H Q := by
  refine lc_go hW w S hz (fun i v _ => xs[i]? = some v) (fun i acc G' => ∃ ds : List PyData, DpAll K G' acc ds ∧ ds.length = i ∧ ∀ d, d ∈ ds → P d) hg
    (fun i x G1 H1 H2 L1 _ e1 S1 y => item_at S1 y) ⟨[], .nil, rfl, fun _ h => by cases h⟩ (fun i acc Ga Gb e ⟨ds, h1, h2⟩ => ⟨ds, DpAll.ex e _ _ h1, h2⟩) ?_ ?_
  · intro D i x acc G1 H1 hi _ e1 S1 ⟨ds, hd, hl, hP⟩ it Kp Sk kp sk
    refine rd_name ⟨hw _, rd_yes (rd_iT ?_)⟩
    refine hS i x acc D G1 H1 hi it e1 S1 _ fun v d G2 H2 e2 S2 hv hp => kp v G2 H2 e2 S2 ⟨ds ++ [d], DpAll.snoc (DpAll.ex e2 _ _ hd) hv, by rw [List.length_append, hl]; rfl, fun u hu => ?_⟩
    cases List.mem_append.mp hu with
    | inl h => exact hP u h
    | inr h => rw [List.mem_singleton.mp h]; exact hp
  · intro D acc G2 H2 e2 S2 ⟨ds, hd, hl, hP⟩ _
    exact q D acc ds G2 H2 e2 S2 hd hl hP
end
section
variable {K : PySem.W.Frag} {σ : L2.St} {G H : Hp} {L : List (Addr × HO)} {Q : VK} {D : Ends} {b : Addr}
theorem of_dat {a : Addr} {xs : List V} {ds : List PyData} {E : XK} (B : Bag K G H b L) (ha : SqL K G a xs) (hA : DpAll K G xs ds) (h0 : 0 < xs.length) (h1 : xs.length < 1000000) (q : ∀ x d H', d ∈ ds → Dp K G x d → Bag K G H' b L → Q x H') : sp_ofS K [.ref b, .ref a] H Q E :=
  ⟨b, .ref a, G, L, rfl, B, .inl ⟨a, xs, rfl, fun H' B' => .inl (ex_l B'.ex ha), h0, h1, fun x H' hx B' => have ⟨d, hd, dp⟩ := DpAll.mem hA hx; q x d H' hd dp B'⟩⟩
theorem cat3 {p3 : Addr} {G3 H3 : Hp} {i j : Nat} {va : Addr} {xs : List V} {ds : List PyData} {y : V} {e : PyData} {m k : Nat} (e3 : Ex G G3) (hx : SqT K G va xs) (hA : DpAll K G xs ds) (hb : box m (k + 1) (.tuple ds)) (hm : m ≤ 1000) (B3 : Bag K G3 H3 b L) (h3 : SqT K G3 p3 (xs.take i ++ [y]))
    (hy : Dp K G3 y e) (he : e ∈ ds ∨ box (m + 3) (k + 2) e) (hj : i ≤ j) (hi : i ≤ ds.length)
    (q : ∀ (p : Addr) (es : List PyData) (us : List V) (G' H' : Hp), Ex G3 G' → Bag K G' H' b L → SqT K G' p us → DpAll K G' us es → box (m + 3) (k + 3) (.tuple es) → Q (.ref p) H') :
    rSlA K (.ref va) (some ((j : Nat) : Int)) none H3 fun z H2 => gAdd K (.ref p3) z H2 Q := by
  have W := bag_world K b
  have hl := DpAll.length hA
  have hm2 : ds.length ≤ m := hb.1
  refine rd_slA W B3 (ex_t e3 hx) fun p4 G4 H4 e4 B4 h4 => ?_
  rw [cutV_from] at h4
  refine rd_catT W B4 (ex_t e4 h3) h4 (by rw [List.length_append, List.length_take, List.length_drop]; show _ + 1 + _ ≤ _; omega) fun p5 G5 H5 e5 B5 h5 => ?_
  have e45 := e4.trans e5
  have e35 := e3.trans e45
  refine q p5 (ds.take i ++ [e] ++ ds.drop j) _ G5 H5 e45 B5 h5 ?_ ?_
  · exact DpAll.append (DpAll.append (DpAll.take i (DpAll.ex e35 _ _ hA)) (.cons (Dp.ex e45 _ _ hy) .nil)) (DpAll.drop j (DpAll.ex e35 _ _ hA))
  · refine box_new hb ?_ fun f hf => ?_
    · rw [List.length_append]; rw [List.length_append, List.length_take, List.length_drop]
      show _ + 1 + _ ≤ _
      omega
    · rcases in_app hf with hf | hf
      · rcases in_app hf with hf | hf
        · exact .inl (List.mem_of_mem_take hf)
        · rw [List.mem_singleton.mp hf]; exact he
      · exact .inl (List.mem_of_mem_drop hf)
def sp_numbers (K : PySem.W.Frag) : Sp := fun vs H Q _ => ∃ (b : Addr) (G : Hp) (L : List (Addr × HO)), vs = [.ref b] ∧ Bag K G H b L ∧ ∀ (p : Addr) (ns : List Int) (G' H' : Hp), Ex G G' → Bag K G' H' b L → SqL K G' p (ns.map V.int) → ns.length = 2 → (∀ i, i ∈ ns → i.natAbs < 10 ^ 20) → Q (.ref p) H'
def t_numbers_1 (K : PySem.W.Frag) : TS :=
  (tRet (tLc (iRng1 (tCons (tC (.int 2)) tNil)) (gName 2) tYes (tOp (gAdd K) (tVar 1) (tCall (sp_draw K) [] E0 (tCons (tVar 0) (tCons (tC (.int 4)) tNil)))) [2]))
def t_numbers (K : PySem.W.Frag) : TS :=
  (tSeq (tAsg (tCall (sp_ofS K) [] E0 (tCons (tVar 0) (tCons (tLst (tCons (tC (.int 0)) (tCons (tUn (rU fun i => .int (-i)) (tC (.int 3))) (tCons (tC (.int 7)) (tCons (tOp (rI CPow fun i j => .int (i ^ j.toNat)) (tC (.int 10)) (tC (.int 17))) (tCons (tOp (rI0 fun i j => .int (i - j)) (tC (.int 0)) (tOp (rI CPow fun i j => .int (i ^ j.toNat)) (tC (.int 10)) (tC (.int 17)))) tNil)))))) tNil))) (gName 1))
  (t_numbers_1 K))
theorem ints_of : ∀ vs : List V, (∀ v, v ∈ vs → ∃ i : Int, v = .int i ∧ i.natAbs < 10 ^ 20) → ∃ ns : List Int, vs = ns.map V.int ∧ ∀ i, i ∈ ns → i.natAbs < 10 ^ 20
  | [], _ => ⟨[], rfl, fun _ h => nomatch h⟩
  | v :: vs, h => by
    obtain ⟨i, rfl, hi⟩ := h v (List.mem_cons_self ..)
    obtain ⟨ns, rfl, hn⟩ := ints_of vs fun u hu => h u (List.mem_cons_of_mem _ hu)
    exact ⟨i :: ns, rfl, fun j hj => (List.mem_cons.mp hj).elim (fun e => e ▸ hi) (hn j)⟩
theorem sat_numbers {vs : List V} {E : XK} (h : sp_numbers K vs H Q E) : vs.length = 1 ∧ t_numbers K { nx := fun _ H' => Q .non H', rt := Q } (vs.map some ++ List.replicate (3 - vs.length) none) H := by
  obtain ⟨b, G, L, rfl, B, q⟩ := h
  refine ⟨rfl, ?_⟩
  have W := bag_world K b
  unfold t_numbers
  walk_at "gs"
  refine rd_I ⟨by decide, by decide, by decide⟩ ?_
  walk_at "gs"
  refine rd_I ⟨by decide, by decide, by decide⟩ ?_
  walk_at "gs"
  refine mk_lst W B (by decide) fun a G1 e1 B1 h1 => ?_
  walk_at "gs"
  refine ⟨b, .ref a, G1, _, rfl, B1, .inl ⟨a, _, rfl, fun H' B' => .inl (ex_l B'.ex (sq_of h1)), (by decide), (by decide), fun x H2 hx B2 => ?_⟩⟩
  obtain ⟨lo, rfl, hlo⟩ : ∃ lo : Int, x = .int lo ∧ lo.natAbs < 10 ^ 19 := by
    simp only [List.mem_cons, List.not_mem_nil, or_false] at hx; rcases hx with rfl | rfl | rfl | rfl | rfl <;> exact ⟨_, rfl, by decide⟩
  walk_at "gs"
  unfold t_numbers_1
  walk_at "gs"
  refine ⟨2, rfl, by omega, by omega, ?_⟩
  refine lc_draws W (n := 2) (lo := 0) B2 (by omega) (fun _ => rfl) (fun v => ∃ i : Int, v = .int i ∧ i.natAbs < 10 ^ 20) (fun i acc D1 G3 H3 hi e3 B3 Kp kp => ?_) (fun D1 vs G3 H3 e3 B3 hl hvs => ?_)
  · walk_at "gs"
    refine ⟨b, _, G3, _, rfl, by omega, by omega, B3, fun d H4 d0 d1 B4 => ?_⟩
    walk_at "gs"
    exact kp _ G3 H4 (Ex.refl _) B4 ⟨_, rfl, by omega⟩
  · obtain ⟨ns, rfl, hns⟩ := ints_of vs hvs
    rw [List.length_map] at hl
    have z := W.frz B3
    exact q D1 ns _ H3 (e1.trans (e3.trans z.2)) z.1 (sq_of upd_same) hl hns
end

/-! Numbers, values, stretches. -/


def isNum : PyData → Bool
  | .int _ => true
  | _ => false
def isVal : PyData → Bool
  | .none => true
  | .int _ => true
  | _ => false
def sp_is_number (K : PySem.W.Frag) : Sp := fun vs H Q _ => ∃ (x : V) (d : PyData), vs = [x] ∧ Dp K H x d ∧ Q (.bl (isNum d)) H
def t_is_number (K : PySem.W.Frag) : TS :=
  (tRet (tAndV (tCB (gIsi K) (tCons (tVar 0) (tCons (tC (.ty "int")) tNil))) (tNotV (tCB (gIsi K) (tCons (tVar 0) (tCons (tC (.ty "bool")) tNil))))))
theorem read_is_number {K : PySem.W.Frag} {x : V} {d : PyData} {H : Hp} {D : Ends} (hx : Dp K H x d) (q : D.rt (.bl (isNum d)) H) : t_is_number K D [some x] H := by
  unfold t_is_number
  cases d with
  | dict _ => cases hx
  | _ =>
    walk_at "gk"
    exact q
theorem sat_is_number {K : PySem.W.Frag} {vs : List V} {H : Hp} {Q : VK} {E : XK} (h : sp_is_number K vs H Q E) : vs.length = 1 ∧ t_is_number K { nx := fun _ H' => Q .non H', rt := Q } (vs.map some ++ List.replicate (1 - vs.length) none) H := by
  obtain ⟨x, d, rfl, hx, q⟩ := h
  exact ⟨rfl, read_is_number hx q⟩
def sp_is_value (K : PySem.W.Frag) : Sp := fun vs H Q _ => ∃ (x : V) (d : PyData), vs = [x] ∧ Dp K H x d ∧ Q (.bl (isVal d)) H
def t_is_value (K : PySem.W.Frag) : TS :=
  (tRet (tOrV (tOp rIsN (tVar 0) (tC .non)) (tCall (sp_is_number K) [] E0 (tCons (tVar 0) tNil))))
theorem read_is_value {K : PySem.W.Frag} {x : V} {d : PyData} {H : Hp} {D : Ends} (hx : Dp K H x d) (q : D.rt (.bl (isVal d)) H) : t_is_value K D [some x] H := by
  unfold t_is_value
  cases d with
  | dict _ => cases hx
  | none =>
    cases hx
    walk_at "gk"
    exact q
  | _ =>
    have hx' := hx
    cases hx
    walk_at "gk"
    exact ⟨_, _, rfl, hx', q⟩
theorem sat_is_value {K : PySem.W.Frag} {vs : List V} {H : Hp} {Q : VK} {E : XK} (h : sp_is_value K vs H Q E) : vs.length = 1 ∧ t_is_value K { nx := fun _ H' => Q .non H', rt := Q } (vs.map some ++ List.replicate (1 - vs.length) none) H := by
  obtain ⟨x, d, rfl, hx, q⟩ := h
  exact ⟨rfl, read_is_value hx q⟩

/-! Trees: what is_tree says. -/



def LevL.sub : LevL → Str → Option Lev
  | .nil, _ => none
  | .cons n l r, z => if n = z then some l else r.sub z
def isStr : PyData → Bool
  | .str _ => true
  | _ => false
def isFld (l : Lev) : PyData → Bool
  | .str z => decide (z ∈ l.fs)
  | _ => false
def cmps : List Str := ["less", "is", "more"]
def joins : List Str := ["and", "or"]
/-- what the trees hold of a word and the rest, the trees within told by f -/
def treeW (f : Lev → PyData → Bool) (l : Lev) (w : Str) (r : List PyData) : Bool :=
  if w ∈ cmps then (match r with | [x, y] => isFld l x && isNum y | _ => false)
  else if w = "lacks" then (match r with | [x] => isFld l x | _ => false)
  else if w = "not" then (match r with | [t] => f l t | _ => false)
  else if w ∈ joins then (!decide (r.length = 1)) && r.all (f l)
  else if w = "any" then (match r with | [.str z, t] => (match l.ls.sub z with | some k => f k t | none => false) | _ => false)
  else false
def treeB : Nat → Lev → PyData → Bool
  | n + 1, l, .tuple (.str w :: r) => treeW (treeB n) l w r
  | _, _, _ => false
theorem treeB_no (n : Nat) (l : Lev) (d : PyData) (h : ∀ w r, d ≠ .tuple (.str w :: r)) : treeB n l d = false := by
  cases n with
  | zero => rfl
  | succ n =>
    cases d with
    | tuple ds =>
      cases ds with
      | nil => rfl
      | cons e r => cases e <;> first | rfl | exact (h _ _ rfl).elim
    | _ => rfl
theorem treeB_eq (n : Nat) (l : Lev) (w : Str) (r : List PyData) : treeB (n + 1) l (.tuple (.str w :: r)) = treeW (treeB n) l w r := rfl
theorem sub_at : ∀ (ls : LevL) (i : Nat) (z : Str) (l : Lev), ls.names[i]? = some z → ls.levs[i]? = some l → (∀ j, j < i → ls.names[j]? ≠ some z) → ls.sub z = some l
  | .nil, i, z, l, h, _, _ => by rw [LevL.names] at h; simp at h
  | .cons n m r, 0, z, l, h1, h2, _ => by
    rw [LevL.names] at h1; rw [LevL.levs] at h2
    cases (Option.some.inj h1); cases (Option.some.inj h2)
    rw [LevL.sub, if_pos rfl]
  | .cons n m r, i + 1, z, l, h1, h2, h3 => by
    rw [LevL.names] at h1 h3; rw [LevL.levs] at h2
    have h0 := h3 0 (Nat.succ_pos _)
    rw [LevL.sub, if_neg (fun e => h0 (by rw [e]; rfl))]
    exact sub_at r i z l h1 h2 fun j hj => h3 (j + 1) (Nat.succ_lt_succ hj)
theorem sub_none : ∀ (ls : LevL) (z : Str), (∀ j : Nat, j < ls.names.length → ls.names[j]? ≠ some z) → ls.sub z = none
  | .nil, z, _ => rfl
  | .cons n m r, z, h => by
    rw [LevL.names] at h
    rw [LevL.sub, if_neg (fun e => h 0 (Nat.succ_pos _) (by rw [e]; rfl))]
    exact sub_none r z fun j hj => h (j + 1) (by rw [List.length_cons]; omega)
theorem sub_good : ∀ (ls : LevL) (z : Str) (l : Lev), ls.good → ls.sub z = some l → l.good ∧ l.depth ≤ ls.depth
  | .nil, z, l, _, h => by rw [LevL.sub] at h; cases h
  | .cons n m r, z, l, g, h => by
    rw [LevL.good] at g
    rw [LevL.depth]
    rw [LevL.sub] at h
    by_cases c : n = z
    · rw [if_pos c] at h
      cases (Option.some.inj h)
      exact ⟨g.2.1, Nat.le_max_left ..⟩
    · rw [if_neg c] at h
      have := sub_good r z l g.2.2 h
      exact ⟨this.1, Nat.le_trans this.2 (Nat.le_max_right ..)⟩
section
variable {K : PySem.W.Frag} {σ : L2.St} {G H : Hp} {L : List (Addr × HO)} {Q : VK} {D : Ends} [SK : SchK K]
theorem rd_inTs {u : Addr} {us : List Str} {z : Str} (h : SqT K H u (us.map V.str)) (q : Q (.bl (decide (z ∈ us))) H) : gIn K (.str z) (.ref u) H Q := rd_inT h rfl (flat_strs us) (by rw [inV_str]; exact q)
def sp_is_field (K : PySem.W.Frag) : Sp := fun vs H Q _ => ∃ (v x : V) (l : Lev) (d : PyData), vs = [v, x] ∧ SchAt K H v l ∧ Dp K H x d ∧ Q (.bl (isFld l d)) H
def t_is_field (K : PySem.W.Frag) : TS :=
  (tRet (tAndV (tCB (gIsi K) (tCons (tVar 1) (tCons (tC (.ty "str")) tNil))) (tOp (gIn K) (tVar 1) (tFld K (tVar 0) "fields"))))
theorem sat_is_field {vs : List V} {E : XK} (h : sp_is_field K vs H Q E) : vs.length = 2 ∧ t_is_field K { nx := fun _ H' => Q .non H', rt := Q } (vs.map some ++ List.replicate (2 - vs.length) none) H := by
  obtain ⟨v, x, l, d, rfl, hv, hx, q⟩ := h
  refine ⟨rfl, ?_⟩
  cases hv with
  | @mk x0 dx tf tl fs ls ps ob hf hl hA =>
  unfold t_is_field
  cases d with
  | dict _ => cases hx
  | str z =>
    have hx' := hx
    cases hx
    walk_at "gs"
    refine rd_Sfields ob ?_
    refine rd_inTs hf.1 ?_
    exact q
  | _ =>
    walk_at "gs"
    exact q
def sp_inner_of (K : PySem.W.Frag) : Sp := fun vs H Q _ => ∃ (v : V) (z : Str) (l : Lev) (G : Hp) (L : List (Addr × HO)), vs = [v, .str z] ∧ Stt G H L ∧ SchAt K G v l ∧ l.good ∧
  (∀ H', Stt G H' L → l.ls.sub z = none → Q .non H') ∧ ∀ (w : Addr) (k : Lev) (H' : Hp), Stt G H' L → l.ls.sub z = some k → SchAt K G (.ref w) k → Q (.ref w) H'
def t_inner_of_0b (K : PySem.W.Frag) : TS :=
  (tIfS (tTest (tOp (gEq K) (tVar 2) (tVar 1))) (tRet (tVar 3)) tNext)
def t_inner_of_1 (K : PySem.W.Frag) : TS :=
  (tRet (tC .non))
def t_inner_of (K : PySem.W.Frag) : TS :=
  (tSeq (tFor (iList K (tMeth (cls_at K "Schema") "lists" (sp_Schema_lists K) [] E0 (tVar 0) tNil)) (gTup K 2 (gCons (gName 2) (gCons (gName 3) gNil))) (t_inner_of_0b K))
  (t_inner_of_1 K))
theorem SchAt.ref {v : V} {l : Lev} (h : SchAt K H v l) : ∃ a, v = .ref a := by
  cases h
  exact ⟨_, rfl⟩
theorem sat_inner_of {vs : List V} {E : XK} (h : sp_inner_of K vs H Q E) : vs.length = 2 ∧ t_inner_of K { nx := fun _ H' => Q .non H', rt := Q } (vs.map some ++ List.replicate (4 - vs.length) none) H := by
  obtain ⟨v, z, l, G, L, rfl, S, hv, gd, q0, q1⟩ := h
  refine ⟨rfl, ?_⟩
  cases hv with
  | @mk x0 dx tf tl fs ls ps ob hf hl hA =>
  rw [Lev.good] at gd
  have hpl := SchAll.len hA
  unfold t_inner_of
  walk_at "gs"
  refine ⟨x0, dx, schF tf tl, rfl, S.ex _ _ ob, schF_no tf tl (by decide +kernel) (by decide +kernel), ?_⟩
  walk_at "gs"
  refine ⟨x0, dx, tf, tl, ps, G, _, rfl, S, ob, hl, fun p G1 H1 e1 S1 h1 => ?_⟩
  refine ⟨p, rfl, ⟨_, ex_l S1.ex h1⟩, ?_⟩
  refine for_go (walk_list (K := K) (a := p) (xs := ps.map V.ref)) (G := G1)
    (fun i σ1 G2 H2 => (∃ x2 x3, σ1 = [some (.ref x0), some (.str z), x2, x3]) ∧ Ex G1 G2 ∧ Stt G2 H2 L ∧ ∀ j, j < i → ls.names[j]? ≠ some z)
    ⟨⟨_, _, rfl⟩, Ex.refl _, S1, fun j h => by omega⟩ (fun i σ1 G2 H2 _ ⟨_, e2, S2, _⟩ => ex_l (e2.trans S2.ex) h1) ?_ ?_
  · rintro i y σ1 G2 H2 H3 hi ⟨⟨x2, x3, rfl⟩, e2, S2, no⟩ y N hN
    obtain ⟨rfl, hz⟩ := y
    obtain ⟨pp, nm, sv, k, rfl, hpp, hn, hlv, hv⟩ := SchAll.at hA hz
    have e12 := e1.trans e2
    refine rd_gtup2 (ex_t (e12.trans S2.ex) hpp) ?_
    unfold t_inner_of_0b
    walk_at "gs"
    refine rd_dec (fun c => ?_) (fun c => ?_)
    · subst c
      walk_at "gs"
      obtain ⟨w, rfl⟩ := hv.ref
      exact q1 w k _ (S2.less e12) (sub_at ls i _ k hn hlv no) hv
    · walk_at "gs"
      refine hN _ G2 _ ⟨⟨_, _, rfl⟩, e2, S2, fun j hj => ?_⟩
      by_cases cj : j = i
      · subst cj
        rw [hn]
        exact fun e => c (Option.some.inj e)
      · exact no j (by omega)
  · rintro σ1 G2 H2 ⟨⟨x2, x3, rfl⟩, e2, S2, no⟩
    rw [List.length_map] at no
    unfold t_inner_of_1
    walk_at "gs"
    exact q0 _ (S2.less (e1.trans e2)) (sub_none ls z fun j hj => no j (by omega))
end

/-! Paths: levels and fields by their names. -/



/-- the names of a path -/
def pnames (w : List Nat) : List Str := if w = [] then [] else (TL.spl [46] 0 [] w).map SX.S
def lvAt : Lev → List Str → Option Lev
  | l, [] => some l
  | l, z :: r => match l.ls.sub z with
    | some k => lvAt k r
    | none => none
theorem lvAt_snoc : ∀ (r : List Str) (l : Lev) (z : Str), lvAt l (r ++ [z]) = (match lvAt l r with | some k => k.ls.sub z | none => none)
  | [], l, z => by
    show (match l.ls.sub z with | some k => lvAt k [] | none => none) = l.ls.sub z
    cases l.ls.sub z <;> rfl
  | y :: r, l, z => by
    show (match l.ls.sub y with | some k => lvAt k (r ++ [z]) | none => none) = (match (match l.ls.sub y with | some k => lvAt k r | none => none) with | some k => k.ls.sub z | none => none)
    cases l.ls.sub y with
    | none => rfl
    | some k => exact lvAt_snoc r k z
theorem lvAt_good : ∀ (r : List Str) (l k : Lev), l.good → lvAt l r = some k → k.good ∧ k.depth ≤ l.depth
  | [], l, k, g, h => by cases (Option.some.inj h); exact ⟨g, Nat.le_refl _⟩
  | y :: r, l, k, g, h => by
    have h2 : (match l.ls.sub y with | some k => lvAt k r | none => none) = some k := h
    cases e : l.ls.sub y with
    | none => (rw [e] at h2; cases h2)
    | some m =>
      rw [e] at h2
      have h3 : lvAt m r = some k := h2
      clear h h2
      obtain ⟨fs, ls⟩ := l
      rw [Lev.good] at g
      have a := sub_good ls y m g.2.2.2.2.2 e
      have b := lvAt_good r m k a.1 h3
      refine ⟨b.1, ?_⟩
      rw [Lev.depth]
      omega
/-- what stands behind level_of's loop -/
def FoundAt (K : PySem.W.Frag) (G : Hp) (l : Lev) (r : List Str) (x : V) : Prop := (lvAt l r = none ∧ x = .non) ∨ ∃ k, lvAt l r = some k ∧ SchAt K G x k
theorem FoundAt.ex {K : PySem.W.Frag} {G G' : Hp} {l : Lev} {r : List Str} {x : V} (e : Ex G G') (h : FoundAt K G l r x) : FoundAt K G' l r x := h.imp id fun ⟨k, a, b⟩ => ⟨k, a, b.ex e⟩
section
variable {K : PySem.W.Frag} {σ : L2.St} {G H : Hp} {L : List (Addr × HO)} {Q : VK} {D : Ends} [SK : SchK K]
/-- what level_of tells of any data -/
def FoundD (K : PySem.W.Frag) (G : Hp) (l : Lev) : PyData → V → Prop
  | .str z, x => FoundAt K G l (pnames (cps z)) x
  | _, x => x = .non
def sp_level_of (K : PySem.W.Frag) : Sp := fun vs H Q _ => ∃ (v x : V) (l : Lev) (d : PyData) (G : Hp) (L : List (Addr × HO)), vs = [v, x] ∧ Stt G H L ∧ SchAt K G v l ∧ l.good ∧ Dp K G x d ∧ (∀ z, d = .str z → (cps z).length ≤ 10000) ∧
  ∀ y G' H', Ex G G' → Stt G' H' L → FoundD K G' l d y → Q y H'
theorem level_ofS {v : V} {w : List Nat} {l : Lev} {E : XK} (S : Stt G H L) (hv : SchAt K G v l) (gd : l.good) (hw : w.length ≤ 10000) (q : ∀ x G' H', Ex G G' → Stt G' H' L → FoundAt K G' l (pnames w) x → Q x H') : sp_level_of K [v, .str (SX.S w)] H Q E :=
  ⟨v, .str (SX.S w), l, .str (SX.S w), G, L, rfl, S, hv, gd, .str _, fun z e => by cases e; exact hw, q⟩
def t_level_of_2b (K : PySem.W.Frag) : TS :=
  (tAsg (tIf (tTest (tOp rNotN (tVar 2) (tC .non))) (tCall (sp_inner_of K) [] E0 (tCons (tVar 2) (tCons (tVar 3) tNil))) (tC .non)) (gName 2))
def t_level_of_3 (K : PySem.W.Frag) : TS :=
  (tRet (tVar 2))
def t_level_of_2 (K : PySem.W.Frag) : TS :=
  (tSeq (tFor (iList K (tIf (tTest (tOp (gNe K) (tVar 1) (tC (.str "")))) (tBM K "str" rSplit (tVar 1) (tCons (tC (.str ".")) tNil)) (tLst tNil))) (gName 3) (t_level_of_2b K))
  (t_level_of_3 K))
def t_level_of_1 (K : PySem.W.Frag) : TS :=
  (tSeq (tAsg (tVar 0) (gName 2))
  (t_level_of_2 K))
def t_level_of (K : PySem.W.Frag) : TS :=
  (tSeq (tIfS (tNot (tB (tCB (gIsi K) (tCons (tVar 1) (tCons (tC (.ty "str")) tNil))))) (tRet (tC .non)) tNext)
  (t_level_of_1 K))
theorem sat_level_of {vs : List V} {E : XK} (h : sp_level_of K vs H Q E) : vs.length = 2 ∧ t_level_of K { nx := fun _ H' => Q .non H', rt := Q } (vs.map some ++ List.replicate (4 - vs.length) none) H := by
  obtain ⟨v, x, l, d, G, L, rfl, S, hv, gd, hx, hz, q⟩ := h
  refine ⟨rfl, ?_⟩
  have bad : kitB (tyN d) "str" = some false → (FoundD K G l d .non) → t_level_of K { nx := fun _ H' => Q .non H', rt := Q } [some v, some x, none, none] H := fun hk hf => by
    unfold t_level_of
    refine rd_seq (rd_ifs (rd_not (rd_B (rd_cb (rd_cons (rd_var rfl (rd_cons (rd_c (rd_nil ?_)))))))))
    exact rd_isi (Dp.ex S.ex _ _ hx) hk (rd_bl (rd_nF (rd_ret (rd_c (q .non G H (Ex.refl _) S hf)))))
  cases d with
  | dict _ => cases hx
  | none => exact bad kt_NoneType_str rfl
  | bool b => exact bad kt_bool_str rfl
  | int i => exact bad kt_int_str rfl
  | list ds => exact bad kt_list_str rfl
  | tuple ds => exact bad kt_tuple_str rfl
  | str z =>
  cases hx
  obtain ⟨w, rfl⟩ : ∃ w, z = SX.S w := ⟨cps z, (S_cps z).symm⟩
  have hw : w.length ≤ 10000 := hz _ rfl
  have q : ∀ x G' H', Ex G G' → Stt G' H' L → FoundAt K G' l (pnames w) x → Q x H' := q
  clear bad
  unfold t_level_of
  walk_at "gs"
  unfold t_level_of_1
  refine rd_seq (rd_asg (rd_var rfl (rd_name ?_)))
  show t_level_of_2 K _ [some v, some (.str (SX.S w)), some v, none] H
  unfold t_level_of_2
  have go : ∀ (p : Addr) (G1 H1 : Hp), Ex G G1 → Stt G1 H1 L → SqL K G1 p ((pnames w).map V.str) → ForG (Itl K p) (gName 3) (t_level_of_2b K) { nx := t_level_of_3 K { nx := fun _ H' => Q .non H', rt := Q }, rt := Q } [some v, some (.str (SX.S w)), some v, none] H1 := fun p G1 H1 e1 S1 hp => by
    refine for_go (walk_list (K := K) (a := p) (xs := (pnames w).map V.str)) (G := G1)
      (fun i σ1 G2 H2 => (∃ x a3, σ1 = [some v, some (.str (SX.S w)), some x, a3] ∧ FoundAt K G2 l ((pnames w).take i) x) ∧ Ex G1 G2 ∧ Stt G2 H2 L)
      ⟨⟨v, _, rfl, .inr ⟨l, rfl, hv.ex e1⟩⟩, Ex.refl _, S1⟩ (fun i σ1 G2 H2 _ ⟨_, e2, S2⟩ => ex_l (e2.trans S2.ex) hp) ?_ ?_
    · rintro i y σ1 G2 H2 H3 hi ⟨⟨x, a3, rfl, hf⟩, e2, S2⟩ y N hN
      obtain ⟨rfl, hz⟩ := y
      rw [List.getElem?_map] at hz
      obtain ⟨z, hz2, ez⟩ := Option.map_eq_some_iff.mp hz
      subst ez
      have nxt : (pnames w).take (i + 1) = (pnames w).take i ++ [z] := by rw [List.take_add_one, hz2]; rfl
      refine rd_name ?_
      show t_level_of_2b K _ [some v, some (.str (SX.S w)), some x, some (.str z)] H3
      unfold t_level_of_2b
      rcases hf with ⟨hn, rfl⟩ | ⟨k, hk, hx⟩
      · refine rd_asg (rd_if (rd_test (rd_op (rd_var rfl (rd_c (rd_notN (rd_bl ?_)))))))
        refine rd_iF (rd_c (rd_name (hN _ G2 H3 ⟨⟨.non, _, rfl, .inl ⟨?_, rfl⟩⟩, e2, S2⟩)))
        rw [nxt, lvAt_snoc, hn]
      · have gk := (lvAt_good _ _ _ gd hk).1
        obtain ⟨a, rfl⟩ := hx.ref
        refine rd_asg (rd_if (rd_test (rd_op (rd_var rfl (rd_c (rd_notN (rd_bl ?_)))))))
        refine rd_iT (rd_call (rd_cons (rd_var rfl (rd_cons (rd_var rfl (rd_nil ?_))))))
        refine ⟨.ref a, z, k, G2, L, rfl, S2, hx, gk, fun H' S' e => ?_, fun u m H' S' e hu => ?_⟩
        · refine rd_name (hN _ G2 H' ⟨⟨.non, _, rfl, .inl ⟨?_, rfl⟩⟩, e2, S'⟩)
          rw [nxt, lvAt_snoc, hk]
          exact e
        · refine rd_name (hN _ G2 H' ⟨⟨.ref u, _, rfl, .inr ⟨m, ?_, hu⟩⟩, e2, S'⟩)
          rw [nxt, lvAt_snoc, hk]
          exact e
    · rintro σ1 G2 H2 ⟨⟨x, a3, rfl, hf⟩, e2, S2⟩
      rw [List.length_map, List.take_length] at hf
      show t_level_of_3 K _ _ _
      unfold t_level_of_3
      exact rd_ret (rd_var rfl (q x G2 H2 (e1.trans e2) S2 hf))
  refine rd_seq (rd_for (rd_il (rd_if (rd_test (rd_op (rd_var rfl (rd_c (rd_neS (rd_bl ?_)))))))))
  by_cases c : w = []
  · have pn : pnames w = [] := if_pos c
    rw [decide_eq_true (show SX.S w = ("" : Str) by rw [c]; rfl)]
    refine rd_nT (rd_lst (rd_nil ?_))
    refine mk_lst stt_world S (Nat.zero_le _) fun p G1 e1 S1 h1 => ?_
    exact ⟨p, rfl, ⟨_, ex_l S1.ex (sq_of h1)⟩, go p G1 _ e1 S1 (by rw [pn]; exact sq_of h1)⟩
  · have pn : pnames w = (TL.spl [46] 0 [] w).map SX.S := if_neg c
    rw [decide_eq_false (show ¬ SX.S w = ("" : Str) from fun e => c (congrArg (fun s : Str => s.cps.toList) e))]
    refine rd_nF (rd_bm (rd_var rfl ⟨rfl, rd_cons (rd_c (rd_nil ⟨SX.S w, SX.S [46], rfl, rfl, rfl, by rw [SX.S_len]; exact sz_of (by omega), ?_⟩))⟩))
    rw [SX.split_S (by decide) (by decide), ← pn]
    refine mk_im (o := .lst ((pnames w).map V.str)) stt_world S fun p G1 e1 S1 h1 => ?_
    exact ⟨p, rfl, ⟨_, ex_l S1.ex (sq_of h1)⟩, go p G1 _ e1 S1 (sq_of h1)⟩
end

/-! Fields by their paths. -/



/-- cut at the last c -/
def cutR (c : Nat) : List Nat → Option (List Nat × List Nat)
  | [] => none
  | d :: r => match cutR c r with
    | some pq => some (d :: pq.1, pq.2)
    | none => if d = c then some ([], r) else none
theorem cutR_none {c : Nat} : ∀ {w : List Nat}, c ∉ w → cutR c w = none
  | [], _ => rfl
  | d :: r, h => by
    rw [cutR, cutR_none (w := r) fun z => h (List.mem_cons_of_mem _ z)]
    exact if_neg fun e => h (by rw [e]; exact List.mem_cons_self ..)
theorem cutR_some {c : Nat} {q : List Nat} (hq : c ∉ q) : ∀ p : List Nat, cutR c (p ++ c :: q) = some (p, q)
  | [] => by
    rw [List.nil_append, cutR, cutR_none hq]
    exact if_pos rfl
  | d :: p => by
    rw [List.cons_append, cutR, cutR_some hq p]
/-- the path w names a field -/
def isPth (l : Lev) (w : List Nat) : Bool := match cutR 46 w with
  | none => decide (SX.S w ∈ l.fs)
  | some pq => if pq.1 = [] then false else match lvAt l (pnames pq.1) with
    | some k => decide (SX.S pq.2 ∈ k.fs)
    | none => false
def isPthD (l : Lev) : PyData → Bool
  | .str z => isPth l (cps z)
  | _ => false
section
variable {K : PySem.W.Frag} {σ : L2.St} {G H : Hp} {L : List (Addr × HO)} {Q : VK} {D : Ends} [SK : SchK K] {l m : Lev}
def sp_Schema_is_field (K : PySem.W.Frag) : Sp := fun vs H Q _ => ∃ (v x : V) (l : Lev) (d : PyData) (G : Hp) (L : List (Addr × HO)), vs = [v, x] ∧ Stt G H L ∧ SchAt K G v l ∧ l.good ∧ Dp K G x d ∧ (∀ z, d = .str z → z.length ≤ 10000) ∧ ∀ G' H', Ex G G' → Stt G' H' L → Q (.bl (isPthD l d)) H'
def t_Schema_is_field_4 (K : PySem.W.Frag) : TS :=
  (tRet (tAndV (tOp rNotN (tVar 5) (tC .non)) (tOp (gIn K) (tVar 4) (tFld K (tVar 5) "fields"))))
def t_Schema_is_field_3 (K : PySem.W.Frag) : TS :=
  (tSeq (tAsg (tCall (sp_level_of K) [] E0 (tCons (tVar 0) (tCons (tVar 2) tNil))) (gName 5))
  (t_Schema_is_field_4 K))
def t_Schema_is_field_2 (K : PySem.W.Frag) : TS :=
  (tSeq (tIfS (tAnd (tTest (tOp (gNe K) (tVar 3) (tC (.str "")))) (tTest (tOp (gEq K) (tVar 2) (tC (.str ""))))) (tRet (tC (.bl false))) tNext)
  (t_Schema_is_field_3 K))
def t_Schema_is_field_1 (K : PySem.W.Frag) : TS :=
  (tSeq (tAsg (tBM K "str" rRpart (tVar 1) (tCons (tC (.str ".")) tNil)) (gTup K 3 (gCons (gName 2) (gCons (gName 3) (gCons (gName 4) gNil)))))
  (t_Schema_is_field_2 K))
def t_Schema_is_field (K : PySem.W.Frag) : TS :=
  (tSeq (tIfS (tNot (tB (tCB (gIsi K) (tCons (tVar 1) (tCons (tC (.ty "str")) tNil))))) (tRet (tC (.bl false))) tNext)
  (t_Schema_is_field_1 K))
theorem read_isf_3 {v : V} {w p q : List Nat} {a3 a5 : Option V} (S : Stt G H L) (hv : SchAt K G v l) (gd : l.good) (hp : p.length ≤ 10000)
    (qq : ∀ G' H', Ex G G' → Stt G' H' L → D.rt (.bl (match lvAt l (pnames p) with | some k => decide (SX.S q ∈ k.fs) | none => false)) H') :
    t_Schema_is_field_3 K D [some v, some (.str (SX.S w)), some (.str (SX.S p)), a3, some (.str (SX.S q)), a5] H := by
  unfold t_Schema_is_field_3
  refine rd_seq (rd_asg (rd_call (rd_cons (rd_var rfl (rd_cons (rd_var rfl (rd_nil ?_)))))))
  refine level_ofS S hv gd hp fun x G1 H1 e1 S1 hf => rd_name ?_
  show t_Schema_is_field_4 K D [some v, some (.str (SX.S w)), some (.str (SX.S p)), a3, some (.str (SX.S q)), some x] H1
  have fin := qq G1 H1 e1 S1
  unfold t_Schema_is_field_4
  rcases hf with ⟨hn, rfl⟩ | ⟨k, hk, hx⟩
  · rw [hn] at fin
    refine rd_ret (rd_andV (rd_op (rd_var rfl (rd_c (rd_notN (rd_bl ?_))))))
    exact rd_iF fin
  · rw [hk] at fin
    cases hx with
    | @mk x0 dx tf tl fs ls ps ob hf hl hA =>
    refine rd_ret (rd_andV (rd_op (rd_var rfl (rd_c (rd_notN (rd_bl ?_))))))
    refine rd_iT (rd_op (rd_var rfl (rd_fld (rd_var rfl (rd_Sfields (S1.ex _ _ ob) ?_)))))
    exact rd_inTs (ex_t S1.ex hf.1) fin
theorem sat_Schema_is_field {vs : List V} {E : XK} (h : sp_Schema_is_field K vs H Q E) : vs.length = 2 ∧ t_Schema_is_field K { nx := fun _ H' => Q .non H', rt := Q } (vs.map some ++ List.replicate (6 - vs.length) none) H := by
  obtain ⟨v, x, l, d, G, L, rfl, S, hv, gd, hx, hz, q⟩ := h
  refine ⟨rfl, ?_⟩
  unfold t_Schema_is_field
  cases d with
  | dict _ => cases hx
  | str z =>
    cases hx
    obtain ⟨w, rfl⟩ : ∃ w, z = SX.S w := ⟨cps z, (S_cps z).symm⟩
    have hl := hz _ rfl
    rw [SX.S_len] at hl
    have q : ∀ G' H', Ex G G' → Stt G' H' L → Q (.bl (isPth l w)) H' := q
    walk_at "gs"
    unfold t_Schema_is_field_1
    refine rd_seq (rd_asg (rd_bm (rd_var rfl ⟨rfl, rd_cons (rd_c (rd_nil ⟨SX.S w, SX.S [46], rfl, rfl, rfl, by rw [SX.S_len]; exact sz_of (by omega), ?_⟩))⟩)))
    rcases rpart_S w 46 with ⟨hn, e⟩ | ⟨p, r, rfl, hr, e⟩
    · rw [e]
      unfold isPth at q
      rw [cutR_none hn] at q
      refine mk_im (o := .tup [.str Str.empty, .str Str.empty, .str (SX.S w)]) stt_world S fun t G1 e1 S1 h1 => ?_
      refine rd_gtup3 (st_of (S1.ex _ _ h1)) ?_
      show t_Schema_is_field_2 K _ [some v, some (.str (SX.S w)), some (.str (SX.S [])), some (.str (SX.S [])), some (.str (SX.S w)), none] _
      unfold t_Schema_is_field_2
      refine rd_seq (rd_ifs (rd_and (rd_test (rd_op (rd_var rfl (rd_c (rd_neS (rd_bl ?_))))))))
      rw [decide_eq_true (show SX.S [] = ("" : Str) from rfl)]
      refine rd_nT (rd_iF (rd_next ?_))
      show t_Schema_is_field_3 K _ _ _
      exact read_isf_3 (p := []) (q := w) S1 (hv.ex e1) gd (Nat.zero_le _) fun G2 H2 e2 S2 => q G2 H2 (e1.trans e2) S2
    · rw [e]
      unfold isPth at q
      rw [cutR_some hr p] at q
      have q : ∀ G' H', Ex G G' → Stt G' H' L → Q (.bl (if p = [] then false else (match lvAt l (pnames p) with | some k => decide (SX.S r ∈ k.fs) | none => false))) H' := q
      rw [List.length_append] at hl
      refine mk_im (o := .tup [.str (SX.S p), .str (SX.S [46]), .str (SX.S r)]) stt_world S fun t G1 e1 S1 h1 => ?_
      refine rd_gtup3 (st_of (S1.ex _ _ h1)) ?_
      show t_Schema_is_field_2 K _ [some v, some (.str (SX.S (p ++ 46 :: r))), some (.str (SX.S p)), some (.str (SX.S [46])), some (.str (SX.S r)), none] _
      unfold t_Schema_is_field_2
      refine rd_seq (rd_ifs (rd_and (rd_test (rd_op (rd_var rfl (rd_c (rd_neS (rd_bl ?_))))))))
      rw [decide_eq_false (show ¬ SX.S [46] = ("" : Str) by decide +kernel)]
      refine rd_nF (rd_test (rd_op (rd_var rfl (rd_c (rd_eqS (rd_bl ?_))))))
      by_cases c : p = []
      · rw [decide_eq_true (show SX.S p = ("" : Str) by rw [c]; rfl)]
        rw [if_pos c] at q
        exact rd_iT (rd_ret (rd_c (q G1 _ e1 S1)))
      · rw [decide_eq_false (show ¬ SX.S p = ("" : Str) from fun e => c (congrArg (fun s : Str => s.cps.toList) e))]
        rw [if_neg c] at q
        refine rd_iF (rd_next ?_)
        show t_Schema_is_field_3 K _ _ _
        exact read_isf_3 (p := p) (q := r) S1 (hv.ex e1) gd (by omega) fun G2 H2 e2 S2 => q G2 H2 (e1.trans e2) S2
  | _ =>
    walk_at "gs"
    exact q G H (Ex.refl _) S
/-! ### Schema.level -/
def lvD (l : Lev) : PyData → Option Lev
  | .str z => lvAt l (pnames (cps z))
  | _ => none
/-- what level tells: the level; or the error -/
def LvOut (K : PySem.W.Frag) (G : Hp) (L : List (Addr × HO)) (Q : VK) (E : XK) (l : Lev) (d : PyData) (x : V) : Prop :=
  (∃ k, lvD l d = some k ∧ ∀ y G' H', Ex G G' → Stt G' H' L → SchAt K G' y k → Q y H') ∨
  (lvD l d = none ∧ ∀ dd G' H', Ex G G' → Stt G' H' L → H' dd = some (.xd (excF "InvalidPath" "given" x)) → E (.ref (cls_at K "InvalidPath")) (some dd) H')
def sp_Schema_level (K : PySem.W.Frag) : Sp := fun vs H Q E => ∃ (v x : V) (l : Lev) (d : PyData) (G : Hp) (L : List (Addr × HO)), vs = [v, x] ∧ Stt G H L ∧ SchAt K G v l ∧ l.good ∧ Dp K G x d ∧ (∀ z, d = .str z → (cps z).length ≤ 10000) ∧ LvOut K G L Q E l d x
theorem boomX {C : Addr} {nm fl : Str} {v : V} {j : Nat} {L' : List (Addr × HO)} {E : XK} (hv : σ[j]? = some (some v)) {G1 H1 : Hp} (e1 : Ex G G1) (S1 : Stt G1 H1 L') (q : ∀ dd G' H', Ex G G' → Stt G' H' L' → H' dd = some (.xd (excF nm fl v)) → E (.ref C) (some dd) H') : tRaise C nm fl E (tVar j) D σ H1 := by
  refine rd_var (Q := fun v H2 => ∀ d, H2 d = none → E (.ref C) (some d) (upd H2 d (.xd (excF nm fl v)))) hv fun dd hd => ?_
  exact q dd _ _ (e1.trans (stt_world.newE S1 hd)) (stt_world.new S1 hd) upd_same
def t_Schema_level_2 (K : PySem.W.Frag) (E : XK) : TS :=
  (tRet (tVar 2))
def t_Schema_level_1 (K : PySem.W.Frag) (E : XK) : TS :=
  (tSeq (tIfS (tTest (tOp rIsN (tVar 2) (tC .non))) (tRaise (cls_at K "InvalidPath") "InvalidPath" "given" E (tVar 1)) tNext)
  (t_Schema_level_2 K E))
def t_Schema_level (K : PySem.W.Frag) (E : XK) : TS :=
  (tSeq (tAsg (tCall (sp_level_of K) [] E0 (tCons (tVar 0) (tCons (tVar 1) tNil))) (gName 2))
  (t_Schema_level_1 K E))
theorem sat_Schema_level {vs : List V} {E : XK} (h : sp_Schema_level K vs H Q E) : vs.length = 2 ∧ t_Schema_level K E { nx := fun _ H' => Q .non H', rt := Q } (vs.map some ++ List.replicate (3 - vs.length) none) H := by
  obtain ⟨v, x, l, d, G, L, rfl, S, hv, gd, hx, hz, h⟩ := h
  refine ⟨rfl, ?_⟩
  unfold t_Schema_level
  refine rd_seq (rd_asg (rd_call (rd_cons (rd_var rfl (rd_cons (rd_var rfl (rd_nil ?_)))))))
  refine ⟨v, x, l, d, G, L, rfl, S, hv, gd, hx, hz, fun y G1 H1 e1 S1 hf => rd_name ?_⟩
  show t_Schema_level_1 K E _ [some v, some x, some y] H1
  have two : (lvD l d = none ∧ y = .non) ∨ ∃ k, lvD l d = some k ∧ SchAt K G1 y k := by
    cases d with
    | str z => exact hf
    | _ => exact .inl ⟨rfl, hf⟩
  unfold t_Schema_level_1
  rcases two with ⟨hn, rfl⟩ | ⟨k, hk, hy⟩
  · refine rd_seq (rd_ifs (rd_test (rd_op (rd_var rfl (rd_c (rd_isN (rd_bl ?_)))))))
    rcases h with ⟨k, e, _⟩ | ⟨_, q⟩
    · rw [hn] at e; cases e
    · exact rd_iT (boomX (j := 1) rfl e1 S1 q)
  · have nn : decide (y = V.non) = false := decide_eq_false fun e => by
      subst e
      cases hy
    refine rd_seq (rd_ifs (rd_test (rd_op (rd_var rfl (rd_c (rd_isN (rd_bl ?_)))))))
    rw [nn]
    rcases h with ⟨k2, e, q⟩ | ⟨e, _⟩
    · rw [hk] at e
      cases e
      refine rd_iF (rd_next ?_)
      show t_Schema_level_2 K E _ [some v, some x, some y] H1
      unfold t_Schema_level_2
      exact rd_ret (rd_var rfl (q y G1 H1 e1 S1 hy))
    · rw [hk] at e; cases e
end




def v_COMPARED (K : PySem.W.Frag) : V := match PySem.W.nsIn K mainGlobals "COMPARED" with
  | some (some (.ref a)) => .ref a
  | _ => .non
def v_JOINED (K : PySem.W.Frag) : V := match PySem.W.nsIn K mainGlobals "JOINED" with
  | some (some (.ref a)) => .ref a
  | _ => .non
def c_COMPARED : List Str := cmps
def c_JOINED : List Str := joins
/-- the two tuples of words stand on the heap -/
class ConstsC (K : PySem.W.Frag) : Prop where
  h : ∃ a, v_COMPARED K = .ref a ∧ ∀ H, SqT K H a (c_COMPARED.map V.str)
class ConstsJ (K : PySem.W.Frag) : Prop where
  h : ∃ a, v_JOINED K = .ref a ∧ ∀ H, SqT K H a (c_JOINED.map V.str)
section
variable {f : Lev → PyData → Bool} {l : Lev} {w : Str} {r : List PyData}
theorem two_of {α : Type} : ∀ {r : List α}, r.length = 2 → ∃ x y, r = [x, y]
  | [x, y], _ => ⟨x, y, rfl⟩
theorem one_of {α : Type} : ∀ {r : List α}, r.length = 1 → ∃ x, r = [x]
  | [x], _ => ⟨x, rfl⟩
theorem tw_c2 {x y : PyData} (h : w ∈ cmps) : treeW f l w [x, y] = (isFld l x && isNum y) := if_pos h
theorem tw_cN (h : w ∈ cmps) (n : r.length ≠ 2) : treeW f l w r = false := by
  unfold treeW
  rw [if_pos h]
  split
  · exact (n rfl).elim
  · rfl
theorem tw_l1 {x : PyData} : treeW f l "lacks" [x] = isFld l x := by
  unfold treeW
  rw [if_neg (by decide +kernel), if_pos rfl]
theorem tw_lN (n : r.length ≠ 1) : treeW f l "lacks" r = false := by
  unfold treeW
  rw [if_neg (by decide +kernel), if_pos rfl]
  split
  · exact (n rfl).elim
  · rfl
theorem tw_n1 {x : PyData} : treeW f l "not" [x] = f l x := by
  unfold treeW
  rw [if_neg (by decide +kernel), if_neg (by decide +kernel), if_pos rfl]
theorem tw_nN (n : r.length ≠ 1) : treeW f l "not" r = false := by
  unfold treeW
  rw [if_neg (by decide +kernel), if_neg (by decide +kernel), if_pos rfl]
  split
  · exact (n rfl).elim
  · rfl
theorem joins_not : ∀ w, w ∈ joins → w ∉ cmps ∧ ¬ w = "lacks" ∧ ¬ w = "not" := by
  have h : ∀ w ∈ joins, w ∉ cmps ∧ ¬ w = "lacks" ∧ ¬ w = "not" := by decide +kernel
  exact h
theorem tw_j (h : w ∈ joins) : treeW f l w r = ((!decide (r.length = 1)) && r.all (f l)) := by
  have ⟨h1, h2, h3⟩ := joins_not w h
  unfold treeW
  rw [if_neg h1, if_neg h2, if_neg h3, if_pos h]
theorem tw_a2 {z : Str} {t : PyData} : treeW f l "any" [.str z, t] = (match l.ls.sub z with | some k => f k t | none => false) := by
  unfold treeW
  rw [if_neg (by decide +kernel), if_neg (by decide +kernel), if_neg (by decide +kernel), if_neg (by decide +kernel), if_pos rfl]
  all_goals rfl
theorem tw_aS {x t : PyData} (h : ∀ z, x ≠ .str z) : treeW f l "any" [x, t] = false := by
  unfold treeW
  rw [if_neg (by decide +kernel), if_neg (by decide +kernel), if_neg (by decide +kernel), if_neg (by decide +kernel), if_pos rfl]
  cases x <;> first | rfl | exact (h _ rfl).elim
theorem tw_aN (n : r.length ≠ 2) : treeW f l "any" r = false := by
  unfold treeW
  rw [if_neg (by decide +kernel), if_neg (by decide +kernel), if_neg (by decide +kernel), if_neg (by decide +kernel), if_pos rfl]
  split
  · exact (n rfl).elim
  · rfl
theorem tw_o (h1 : w ∉ cmps) (h2 : ¬ w = "lacks") (h3 : ¬ w = "not") (h4 : w ∉ joins) (h5 : ¬ w = "any") : treeW f l w r = false := by
  unfold treeW
  rw [if_neg h1, if_neg h2, if_neg h3, if_neg h4, if_neg h5]
end
section
variable {K : PySem.W.Frag} {σ : L2.St} {G H : Hp} {L : List (Addr × HO)} {Q : VK} {D : Ends} [SK : SchK K] [CC : ConstsC K] [CJ : ConstsJ K]
def sp_is_tree (K : PySem.W.Frag) (n : Nat) : Sp := fun vs H Q _ => ∃ (v x : V) (l : Lev) (d : PyData) (m k : Nat) (G : Hp) (L : List (Addr × HO)), vs = [v, x] ∧ Stt G H L ∧ SchAt K G v l ∧ Dp K G x d ∧ box m k d ∧ k < n ∧ m ≤ 1000 ∧ l.good ∧ ∀ H', Stt G H' L → Q (.bl (treeB n l d)) H'
theorem never_is_tree (K : PySem.W.Frag) : ∀ vs H Q E, sp_is_tree K 0 vs H Q E → False := fun vs H Q E ⟨_, _, _, _, _, _, _, _, _, _, _, _, _, h, _⟩ => by omega
def t_is_tree_8 (K : PySem.W.Frag) (n : Nat) : TS :=
  (tRet (tAndV (tOp rNotN (tVar 4) (tC .non)) (tCall (sp_is_tree K n) [] E0 (tCons (tVar 4) (tCons (tOp (rIx K) (tVar 1) (tC (.int 2))) tNil)))))
def t_is_tree_7 (K : PySem.W.Frag) (n : Nat) : TS :=
  (tSeq (tAsg (tCall (sp_inner_of K) [] E0 (tCons (tVar 0) (tCons (tOp (rIx K) (tVar 1) (tC (.int 1))) tNil))) (gName 4))
  (t_is_tree_8 K n))
def t_is_tree_6 (K : PySem.W.Frag) (n : Nat) : TS :=
  (tSeq (tIfS (tOr (tTest (tOp (gNe K) (tVar 2) (tC (.str "any")))) (tOr (tTest (tOp (gNe K) (tVar 3) (tC (.int 3)))) (tNot (tB (tCB (gIsi K) (tCons (tOp (rIx K) (tVar 1) (tC (.int 1))) (tCons (tC (.ty "str")) tNil))))))) (tRet (tC (.bl false))) tNext)
  (t_is_tree_7 K n))
def t_is_tree_5 (K : PySem.W.Frag) (n : Nat) : TS :=
  (tSeq (tIfS (tTest (tOp (gIn K) (tVar 2) (tC (v_JOINED K)))) (tRet (tAndV (tOp (gNe K) (tVar 3) (tC (.int 2))) (tCB (rAll K) (tCons (tLc (iTup K (tSl (rSlA K) (tVar 1) (tPart (tC (.int 1))) tNoPart)) (gName 5) tYes (tCall (sp_is_tree K n) [] E0 (tCons (tVar 0) (tCons (tVar 5) tNil))) [5]) tNil)))) tNext)
  (t_is_tree_6 K n))
def t_is_tree_4 (K : PySem.W.Frag) (n : Nat) : TS :=
  (tSeq (tIfS (tTest (tOp (gEq K) (tVar 2) (tC (.str "not")))) (tRet (tAndV (tOp (gEq K) (tVar 3) (tC (.int 2))) (tCall (sp_is_tree K n) [] E0 (tCons (tVar 0) (tCons (tOp (rIx K) (tVar 1) (tC (.int 1))) tNil))))) tNext)
  (t_is_tree_5 K n))
def t_is_tree_3 (K : PySem.W.Frag) (n : Nat) : TS :=
  (tSeq (tIfS (tTest (tOp (gEq K) (tVar 2) (tC (.str "lacks")))) (tRet (tAndV (tOp (gEq K) (tVar 3) (tC (.int 2))) (tCall (sp_is_field K) [] E0 (tCons (tVar 0) (tCons (tOp (rIx K) (tVar 1) (tC (.int 1))) tNil))))) tNext)
  (t_is_tree_4 K n))
def t_is_tree_2 (K : PySem.W.Frag) (n : Nat) : TS :=
  (tSeq (tIfS (tTest (tOp (gIn K) (tVar 2) (tC (v_COMPARED K)))) (tRet (tAndV (tOp (gEq K) (tVar 3) (tC (.int 3))) (tAndV (tCall (sp_is_field K) [] E0 (tCons (tVar 0) (tCons (tOp (rIx K) (tVar 1) (tC (.int 1))) tNil))) (tCall (sp_is_number K) [] E0 (tCons (tOp (rIx K) (tVar 1) (tC (.int 2))) tNil))))) tNext)
  (t_is_tree_3 K n))
def t_is_tree_1 (K : PySem.W.Frag) (n : Nat) : TS :=
  (tSeq (tPar 2 3 (tCons (tOp (rIx K) (tVar 1) (tC (.int 0))) (tCons (tCB (gLen K) (tCons (tVar 1) tNil)) tNil)))
  (t_is_tree_2 K n))
def t_is_tree (K : PySem.W.Frag) (n : Nat) : TS :=
  (tSeq (tIfS (tOr (tNot (tB (tCB (gIsi K) (tCons (tVar 1) (tCons (tC (.ty "tuple")) tNil))))) (tOr (tTest (tOp (gEq K) (tCB (gLen K) (tCons (tVar 1) tNil)) (tC (.int 0)))) (tNot (tB (tCB (gIsi K) (tCons (tOp (rIx K) (tVar 1) (tC (.int 0))) (tCons (tC (.ty "str")) tNil))))))) (tRet (tC (.bl false))) tNext)
  (t_is_tree_1 K n))
theorem at1 {u a : V} {us : List V} : atI (u :: a :: us) (1 : Int) = some a := show atI (u :: a :: us) ((1 : Nat) : Int) = some a from atI_nat rfl
theorem at2 {u a b : V} {us : List V} : atI (u :: a :: b :: us) (2 : Int) = some b := show atI (u :: a :: b :: us) ((2 : Nat) : Int) = some b from atI_nat rfl
theorem at0 {u : V} {us : List V} : atI (u :: us) (0 : Int) = some u := show atI (u :: us) ((0 : Nat) : Int) = some u from atI_nat rfl
theorem read_is_tree_2 {n m k : Nat} {v : V} {va : Addr} {us : List V} {l : Lev} {w : Str} {r : List PyData} {a4 a5 : Option V} (S : Stt G H L) (hv : SchAt K G v l) (hx : SqT K G va (.str w :: us)) (hus : DpAll K G us r) (hb : ∀ e, e ∈ r → box m k e) (hk : k < n) (hm : m ≤ 1000) (hr : r.length ≤ 1000) (gd : l.good)
    (q : ∀ H', Stt G H' L → D.rt (.bl (treeW (treeB n) l w r)) H') :
    t_is_tree_2 K n D [some v, some (.ref va), some (.str w), some (.int ((us.length : Int) + 1)), a4, a5] H := by
  have hul := DpAll.length hus
  obtain ⟨ca, hca, hcs⟩ := CC.h
  obtain ⟨ja, hja, hjs⟩ := CJ.h
  have hva := hv.ex S.ex
  have hxa := ex_t S.ex hx
  unfold t_is_tree_2
  rw [hca]
  walk_at "gs"
  refine rd_inTs (us := cmps) (hcs _) ?_
  walk_at "gs"
  by_cases hw : w ∈ cmps
  · rw [decide_eq_true hw]
    walk_at "gs"
    by_cases h2 : r.length = 2
    · obtain ⟨x, y, rfl⟩ := two_of h2
      rw [tw_c2 hw] at q
      rw [decide_eq_true (by rw [hul, h2]; rfl : (us.length : Int) + 1 = 3)]
      cases hus with
      | @cons a _ _ _ ha hus =>
      cases hus with
      | @cons b _ _ _ hb2 hus =>
      cases hus
      walk_at "gs"
      try refine rd_ixT hxa at1 ?_
      walk_at "gs"
      refine ⟨v, a, l, x, rfl, hva, Dp.ex S.ex _ _ ha, ?_⟩
      refine ⟨_, rfl, ?_⟩
      cases e1 : isFld l x with
      | false =>
        rw [e1, Bool.false_and] at q
        walk_at "gs"
        exact q _ S
      | true =>
        rw [e1, Bool.true_and] at q
        walk_at "gs"
        try refine rd_ixT hxa at2 ?_
        walk_at "gs"
        exact ⟨b, y, rfl, Dp.ex S.ex _ _ hb2, q _ S⟩
    · rw [tw_cN hw h2] at q
      rw [decide_eq_false (by omega : ¬ (us.length : Int) + 1 = 3)]
      walk_at "gs"
      exact q _ S
  rw [decide_eq_false hw]
  walk_at "gs"
  unfold t_is_tree_3
  walk_at "gs"
  refine rd_dec (fun c => ?_) (fun hl => ?_)
  · subst c
    walk_at "gs"
    by_cases h1 : r.length = 1
    · obtain ⟨x, rfl⟩ := one_of h1
      rw [tw_l1] at q
      rw [decide_eq_true (by rw [hul, h1]; rfl : (us.length : Int) + 1 = 2)]
      cases hus with
      | @cons a _ _ _ ha hus =>
      cases hus
      walk_at "gs"
      try refine rd_ixT hxa at1 ?_
      walk_at "gs"
      exact ⟨v, a, l, x, rfl, hva, Dp.ex S.ex _ _ ha, q _ S⟩
    · rw [tw_lN h1] at q
      rw [decide_eq_false (by omega : ¬ (us.length : Int) + 1 = 2)]
      walk_at "gs"
      exact q _ S
  walk_at "gs"
  unfold t_is_tree_4
  walk_at "gs"
  refine rd_dec (fun c => ?_) (fun hn => ?_)
  · subst c
    walk_at "gs"
    by_cases h1 : r.length = 1
    · obtain ⟨x, rfl⟩ := one_of h1
      rw [tw_n1] at q
      rw [decide_eq_true (by rw [hul, h1]; rfl : (us.length : Int) + 1 = 2)]
      cases hus with
      | @cons a _ _ _ ha hus =>
      cases hus
      walk_at "gs"
      try refine rd_ixT hxa at1 ?_
      walk_at "gs"
      exact ⟨v, a, l, x, m, k, G, _, rfl, S, hv, ha, hb x (List.mem_singleton.mpr rfl), hk, hm, gd, q⟩
    · rw [tw_nN h1] at q
      rw [decide_eq_false (by omega : ¬ (us.length : Int) + 1 = 2)]
      walk_at "gs"
      exact q _ S
  walk_at "gs"
  unfold t_is_tree_5
  rw [hja]
  walk_at "gs"
  refine rd_inTs (us := joins) (hjs _) ?_
  walk_at "gs"
  by_cases hj : w ∈ joins
  · rw [decide_eq_true hj]
    rw [tw_j hj] at q
    walk_at "gs"
    by_cases h1 : r.length = 1
    · rw [decide_eq_true h1] at q
      rw [decide_eq_true (by rw [hul, h1]; rfl : (us.length : Int) + 1 = 2)]
      walk_at "gs"
      exact q _ S
    · rw [decide_eq_false h1] at q
      rw [decide_eq_false (by omega : ¬ (us.length : Int) + 1 = 2)]
      walk_at "gs"
      refine rd_slA stt_world S hx fun s G1 H1 e1 S1 h1 => ?_
      rw [show (1 : Int) = ((1 : Nat) : Int) from rfl, cutV_from] at h1
      have h1 : SqT K G1 s us := h1
      refine ⟨s, rfl, ⟨_, ex_t S1.ex h1⟩, ?_⟩
      refine lc_boolD stt_world (walk_tup (xs := us)) S1 (fun H' e' => ex_t e' h1) (by omega) (fun _ => rfl) (DpAll.ex e1 _ _ hus) (treeB n l) (fun j x d acc D1 G4 H4 hx hd4 dp4 e4 S4 Kp kp => ?_) (fun D1 G4 H4 e4 S4 => ?_)
      · walk_at "gs"
        exact ⟨v, x, l, d, m, k, G4, _, rfl, S4, hv.ex (e1.trans e4), dp4, hb d (List.mem_of_getElem? hd4), hk, hm, gd, kp⟩
      · walk_at "gs"
        refine rd_all (sq_of (S4.at 0 rfl)) ?_
        rw [List.all_map]
        exact q H4 (S4.drop.less (e1.trans e4))
  rw [decide_eq_false hj]
  walk_at "gs"
  unfold t_is_tree_6
  walk_at "gs"
  refine rd_decN (fun ha => ?_) (fun hn2 => ?_)
  · subst ha
    walk_at "gs"
    by_cases h2 : r.length = 2
    · obtain ⟨x, t, rfl⟩ := two_of h2
      rw [decide_eq_true (by rw [hul, h2]; rfl : (us.length : Int) + 1 = 3)]
      cases hus with
      | @cons a _ _ _ ha hus =>
      cases hus with
      | @cons b _ _ _ hb2 hus =>
      cases hus
      walk_at "gs"
      try refine rd_ixT hxa at1 ?_
      have ha' := Dp.ex S.ex _ _ ha
      cases x with
      | dict _ => cases ha
      | str z =>
        cases ha
        rw [tw_a2] at q
        walk_at "gs"
        unfold t_is_tree_7
        walk_at "gs"
        try refine rd_ixT hxa at1 ?_
        walk_at "gs"
        refine ⟨v, z, l, G, _, rfl, S, hv, gd, fun H1 S1 hs => ?_, fun wv kk H1 S1 hs hw2 => ?_⟩
        · rw [hs] at q
          walk_at "gs"
          unfold t_is_tree_8
          walk_at "gs"
          exact q _ S1
        · rw [hs] at q
          walk_at "gs"
          unfold t_is_tree_8
          walk_at "gs"
          try refine rd_ixT (ex_t S1.ex hx) at2 ?_
          walk_at "gs"
          obtain ⟨fs, ls⟩ := l
          have gd2 := gd
          rw [Lev.good] at gd2
          exact ⟨_, b, kk, t, m, k, G, _, rfl, S1, hw2, hb2, hb t (by simp), hk, hm, (sub_good ls z kk gd2.2.2.2.2.2 hs).1, q⟩
      | _ =>
        rw [tw_aS (fun z e => by cases e)] at q
        walk_at "gs"
        exact q _ S
    · rw [tw_aN h2] at q
      rw [decide_eq_false (by omega : ¬ (us.length : Int) + 1 = 3)]
      walk_at "gs"
      exact q _ S
  · rw [tw_o hw hl hn hj hn2] at q
    walk_at "gs"
    exact q _ S
theorem sat_is_tree {n : Nat} {vs : List V} {E : XK} (h : sp_is_tree K (n + 1) vs H Q E) : vs.length = 2 ∧ t_is_tree K n { nx := fun _ H' => Q .non H', rt := Q } (vs.map some ++ List.replicate (6 - vs.length) none) H := by
  obtain ⟨v, x, l, d, m, k, G, L, rfl, S, hv, hx, hb, hk, hm, gd, q⟩ := h
  refine ⟨rfl, ?_⟩
  unfold t_is_tree
  cases d with
  | dict _ => cases hx
  | tuple ds =>
    obtain ⟨k, rfl, hbe⟩ := box_in hb
    have hbl := box_len hb
    have hx1 := Dp.ex S.ex _ _ hx
    cases hx with
    | @tup va xs _ hxs hxa =>
    have hxl := DpAll.length hxa
    walk_at "gs"
    refine rd_lenT (ex_t S.ex hxs) ?_
    walk_at "gs"
    cases hxa with
    | nil =>
      walk_at "gs"
      exact q _ S
    | @cons u us d0 r hu hus =>
    rw [decide_eq_false (by rw [List.length_cons]; omega : ¬ ((u :: us).length : Int) = 0)]
    walk_at "gs"
    try refine rd_ixT (ex_t S.ex hxs) at0 ?_
    have hu1 := Dp.ex S.ex _ _ hu
    cases d0 with
    | dict _ => cases hu
    | str w =>
      cases hu
      rw [treeB_eq] at q
      rw [List.length_cons] at hbl
      walk_at "gs"
      unfold t_is_tree_1
      walk_at "gs"
      try refine rd_ixT (ex_t S.ex hxs) at0 ?_
      walk_at "gs"
      refine rd_lenT (ex_t S.ex hxs) ?_
      walk_at "gs"
      exact read_is_tree_2 S hv hxs hus (fun e he => hbe e (List.mem_cons_of_mem _ he)) (by omega) hm (by omega) gd q
    | _ =>
      rw [treeB_no _ _ _ (fun w r e => by cases e)] at q
      walk_at "gs"
      exact q _ S
  | _ =>
    have hx1 := Dp.ex S.ex _ _ hx
    rw [treeB_no _ _ _ (fun w r e => by cases e)] at q
    walk_at "gs"
    exact q _ S
end

/-! Levels as data; words. -/



theorem letters_ok : ∀ c, c ∈ cps letters → c < 256 ∧ c ≠ 46 := by
  have h : ∀ c ∈ cps letters, c < 256 ∧ c ≠ 46 := by decide +kernel
  exact h
theorem nameOk_signs {z : Str} (h : NameOk z) : ∀ c, c ∈ cps z → c < 256 ∧ c ≠ 46 := fun c hc => letters_ok c (by
  by_cases g : c ∈ cps letters
  · exact g
  · have := name_bad hc g
    rw [h.1] at this
    cases this)
theorem strOk_of {z : Str} (h : ∀ c, c ∈ cps z → c < 256) : PyData.strOk z = true := by
  unfold PyData.strOk
  rw [← Array.all_toList]
  exact List.all_eq_true.mpr fun c hc => decide_eq_true (by have := h c hc; omega)
theorem nameOk_flat {z : Str} (m : Nat) (h : NameOk z) : flatD m (.str z) := ⟨by have := nameOk_len h; omega, strOk_of fun c hc => (nameOk_signs h c hc).1⟩
mutual
theorem Lev.boxed : ∀ l : Lev, l.good → box 3 (3 * l.depth) l.dat
  | .mk fs ls, g => by
    rw [Lev.good] at g
    rw [Lev.dat, Lev.depth, show 3 * (1 + ls.depth) = (3 * ls.depth + 1) + 1 + 1 by omega]
    refine box_lst (by show 2 ≤ 3; decide) fun e he => ?_; rcases in_two he with rfl | he
    · refine box_lst (by rw [List.length_map]; exact g.2.1) fun e he => ?_
      obtain ⟨n, hn, rfl⟩ := List.mem_map.mp he
      exact box_flat _ (nameOk_flat 3 (g.2.2.1 n hn))
    · rw [List.mem_singleton.mp he]
      exact box_lst (by rw [LevL.len_dats]; have := g.2.2.2.2.1; omega) (LevL.boxes ls g.2.2.2.2.2)
theorem LevL.boxes : ∀ r : LevL, r.good → ∀ e, e ∈ r.dats → box 3 (3 * r.depth + 1) e
  | .nil, _, e, h => by rw [LevL.dats] at h; cases h
  | .cons n l r, g, e, h => by
    rw [LevL.good] at g
    rw [LevL.dats] at h
    rw [LevL.depth]; rcases in_two h with rfl | h
    · refine box_tup (by show 2 ≤ 3; decide) fun e he => ?_
      rcases in_two he with rfl | he
      · exact box_flat _ (nameOk_flat 3 g.1)
      · rw [List.mem_singleton.mp he]
        exact box_mono (Nat.le_refl _) (by omega) (Lev.boxed l g.2.1)
    · exact box_mono (Nat.le_refl _) (by omega) (LevL.boxes r g.2.2 e h)
end
theorem four_iff (w : Str) : w ∈ (["less", "is", "more", "lacks"] : List Str) ↔ w ∈ cmps ∨ w = "lacks" := by
  simp only [cmps, List.mem_cons, List.not_mem_nil, or_false]
  exact ⟨fun h => h.elim (fun z => .inl (.inl z)) fun h => h.elim (fun z => .inl (.inr (.inl z))) fun h => h.elim (fun z => .inl (.inr (.inr z))) .inr,
    fun h => h.elim (fun h => h.elim .inl fun h => h.elim (fun z => .inr (.inl z)) fun z => .inr (.inr (.inl z))) fun z => .inr (.inr (.inr z))⟩
theorem three_iff (w : Str) : w ∈ (["not", "and", "or"] : List Str) ↔ w = "not" ∨ w ∈ joins := by
  simp only [joins, List.mem_cons, List.not_mem_nil, or_false]
theorem cmps_not : ∀ w, w ∈ cmps → ¬ w = "lacks" := by
  have h : ∀ w ∈ cmps, ¬ w = "lacks" := by decide +kernel
  exact h
section
variable {K : PySem.W.Frag} {σ : L2.St} {G H : Hp} {L : List (Addr × HO)} {Q : VK} {D : Ends}
theorem rd_inLr {u : Addr} {us : List Str} {z : Str} (h : SqL K H u (us.map V.str)) (q : Q (.bl (decide (z ∈ us))) H) : gIn K (.str z) (.ref u) H Q := .inr ⟨u, _, rfl, .inl h, rfl, flat_strs us, by rw [if_neg Bool.false_ne_true, inV_str]; exact q⟩
theorem rd_notInLs {u : Addr} {us : List Str} {z : Str} (h : SqL K H u (us.map V.str)) (q : Q (.bl (!decide (z ∈ us))) H) : gNotIn K (.str z) (.ref u) H Q := .inr ⟨u, _, rfl, .inl h, rfl, flat_strs us, by rw [if_pos rfl, inV_str]; exact q⟩
end

/-! Atoms that are drawn. -/



section
variable {K : PySem.W.Frag} {σ : L2.St} {G H : Hp} {L : List (Addr × HO)} {Q : VK} {D : Ends} {b : Addr}
/-! ### atoms -/
def sp_atom (K : PySem.W.Frag) : Sp := fun vs H Q _ => ∃ (b p : Addr) (v : V) (l : Lev) (ns : List Int) (G : Hp) (L : List (Addr × HO)), vs = [.ref b, v, .ref p] ∧ Bag K G H b L ∧ Dp K G v l.dat ∧ l.good ∧ SqL K G p (ns.map V.int) ∧ (0 < ns.length ∧ ns.length ≤ 10) ∧ (∀ i, i ∈ ns → i.natAbs < 10 ^ 21) ∧
  ∀ (x : V) (d : PyData) (G' H' : Hp), Ex G G' → Bag K G' H' b L → Dp K G' x d → box 4 1 d → (∀ n, treeB (n + 1) l d = true) → Q x H'
def t_atom_1 (K : PySem.W.Frag) : TS :=
  (tRet (tIf (tTest (tOp (gEq K) (tVar 3) (tC (.str "lacks")))) (tTup (tCons (tC (.str "lacks")) (tCons (tVar 4) tNil))) (tTup (tCons (tVar 3) (tCons (tVar 4) (tCons (tCall (sp_ofS K) [] E0 (tCons (tVar 0) (tCons (tVar 2) tNil))) tNil))))))
def t_atom (K : PySem.W.Frag) : TS :=
  (tSeq (tPar 3 4 (tCons (tCall (sp_ofS K) [] E0 (tCons (tVar 0) (tCons (tLst (tCons (tC (.str "less")) (tCons (tC (.str "is")) (tCons (tC (.str "more")) (tCons (tC (.str "lacks")) tNil))))) tNil))) (tCons (tCall (sp_ofS K) [] E0 (tCons (tVar 0) (tCons (tOp (rIx K) (tVar 1) (tC (.int 0))) tNil))) tNil)))
  (t_atom_1 K))
theorem flat_word (m : Nat) : ∀ w, w ∈ (["less", "is", "more", "lacks", "not", "and", "or", "any", "all", "none", "y", ""] : List Str) → flatD m (.str w) := by
  have h : ∀ w ∈ (["less", "is", "more", "lacks", "not", "and", "or", "any", "all", "none", "y", ""] : List Str), w.length ≤ 100 ∧ PyData.strOk w = true := by decide +kernel
  exact fun w hw => ⟨Nat.le_trans (h w hw).1 (by omega), (h w hw).2⟩
theorem four_words : ∀ w, w ∈ (["less", "is", "more", "lacks"] : List Str) → w ∈ (["less", "is", "more", "lacks", "not", "and", "or", "any", "all", "none", "y", ""] : List Str) := by
  have h : ∀ w ∈ (["less", "is", "more", "lacks"] : List Str), w ∈ (["less", "is", "more", "lacks", "not", "and", "or", "any", "all", "none", "y", ""] : List Str) := by decide +kernel
  exact h
theorem sat_atom {vs : List V} {E : XK} (h : sp_atom K vs H Q E) : vs.length = 3 ∧ t_atom K { nx := fun _ H' => Q .non H', rt := Q } (vs.map some ++ List.replicate (5 - vs.length) none) H := by
  obtain ⟨b, p, v, l, ns, G, L, rfl, B, hv, gd, hp, hnl, hsm, q⟩ := h
  refine ⟨rfl, ?_⟩
  have W := bag_world K b
  obtain ⟨fs, ls⟩ := l
  obtain ⟨a, fa, c, qs, rfl, ha, hfa, hc, hq⟩ := lv_inv hv
  rw [Lev.good] at gd
  unfold t_atom
  walk_at "gs"
  refine mk_lst W B (by show 4 ≤ 100000; decide) fun p1 G1 e1 B1 h1 => ?_
  walk_at "gs"
  refine ⟨b, .ref p1, G1, _, rfl, B1, .inl ⟨p1, (["less", "is", "more", "lacks"] : List Str).map V.str, rfl, fun H' B' => .inl (ex_l B'.ex (sq_of h1)), (by show 0 < 4; decide), (by show 4 < _; decide), fun x H2 hx B2 => ?_⟩⟩
  obtain ⟨w, hw, rfl⟩ := List.mem_map.mp hx
  walk_at "gs"
  try refine rd_ixL (i := 0) (v := .ref fa) (ex_l (e1.trans B2.ex) ha) rfl ?_
  walk_at "gs"
  refine ⟨b, .ref fa, G1, _, rfl, B2, .inl ⟨fa, fs.map V.str, rfl, fun H' B' => .inl (ex_l (e1.trans B'.ex) hfa), by rw [List.length_map]; exact gd.1, by rw [List.length_map]; omega, fun x H3 hx B3 => ?_⟩⟩
  obtain ⟨f, hf, rfl⟩ := List.mem_map.mp hx
  have bf : box 4 0 (.str f) := nameOk_flat 4 (gd.2.2.1 f hf)
  have bw : box 4 0 (.str w) := flat_word 4 w (four_words w hw)
  walk_at "gs"
  unfold t_atom_1
  walk_at "gs"
  refine rd_dec (fun e => ?_) (fun e => ?_)
  · subst e
    walk_at "gs"
    refine mk_tup W B3 (by show 2 ≤ 100000; decide) fun p2 G4 e4 B4 h4 => ?_
    refine q (.ref p2) (.tuple [.str "lacks", .str f]) G4 _ (e1.trans e4) B4 (.tup (st_of h4) (.cons (.str _) (.cons (.str _) .nil))) (box_tup (by show 2 ≤ 4; decide) fun e he => ?_) fun n => ?_
    · rcases in_two he with rfl | he
      · exact bw
      · rw [List.mem_singleton.mp he]; exact bf
    · rw [treeB_eq, tw_l1]
      exact decide_eq_true hf
  · walk_at "gs"
    refine ⟨b, .ref p, G1, _, rfl, B3, .inl ⟨p, ns.map V.int, rfl, fun H' B' => .inl (ex_l (e1.trans B'.ex) hp), by rw [List.length_map]; omega, by rw [List.length_map]; omega, fun x H4 hx B4 => ?_⟩⟩
    obtain ⟨i, hi, rfl⟩ := List.mem_map.mp hx
    walk_at "gs"
    refine mk_tup W B4 (by show 3 ≤ 100000; decide) fun p2 G5 e5 B5 h5 => ?_
    refine q (.ref p2) (.tuple [.str w, .str f, .int i]) G5 _ (e1.trans e5) B5 (.tup (st_of h5) (.cons (.str _) (.cons (.str _) (.cons (.int _) .nil)))) (box_tup (by show 3 ≤ 4; decide) fun e he => ?_) fun n => ?_
    · rcases in_two he with rfl | he
      · exact bw
      · rcases in_two he with rfl | he
        · exact bf
        · rw [List.mem_singleton.mp he]; exact Nat.lt_trans (hsm i hi) (by decide)
    · rw [treeB_eq, tw_c2 (((four_iff w).mp hw).elim id fun z => (e z).elim)]
      rw [show isFld (.mk fs ls) (.str f) = true from decide_eq_true hf]
      rfl
end

/-! Trees that are drawn. -/



section
variable {K : PySem.W.Frag} {σ : L2.St} {G H : Hp} {L : List (Addr × HO)} {Q : VK} {D : Ends} {b : Addr}
def sp_tree (K : PySem.W.Frag) (n : Nat) : Sp := fun vs H Q _ => ∃ (b p : Addr) (v : V) (deep : Nat) (l : Lev) (ns : List Int) (G : Hp) (L : List (Addr × HO)), vs = [.ref b, v, .ref p, .int (deep : Nat)] ∧ Bag K G H b L ∧ Dp K G v l.dat ∧ l.good ∧ l.depth ≤ 9 ∧ SqL K G p (ns.map V.int) ∧ (0 < ns.length ∧ ns.length ≤ 10) ∧ (∀ i, i ∈ ns → i.natAbs < 10 ^ 21) ∧ deep < n ∧
  ∀ (x : V) (d : PyData) (G' H' : Hp), Ex G G' → Bag K G' H' b L → Dp K G' x d → box 4 (deep + 1) d → (∀ N, deep < N → treeB N l d = true) → Q x H'
theorem never_tree (K : PySem.W.Frag) : ∀ vs H Q E, sp_tree K 0 vs H Q E → False := fun vs H Q E ⟨_, _, _, _, _, _, _, _, _, _, _, _, _, _, _, h, _⟩ => by omega
def t_tree_1a_1 (K : PySem.W.Frag) (n : Nat) : TS :=
  (tRet (tTup (tCons (tC (.str "any")) (tCons (tVar 5) (tCons (tCall (sp_tree K n) [] E0 (tCons (tVar 0) (tCons (tVar 6) (tCons (tVar 2) (tCons (tOp (rI0 fun i j => .int (i - j)) (tVar 3) (tC (.int 1))) tNil))))) tNil)))))
def t_tree_3a_1 (K : PySem.W.Frag) (n : Nat) : TS :=
  (tRet (tOp (gAdd K) (tTup (tCons (tOp (rIx K) (tLst (tCons (tC (.str "and")) (tCons (tC (.str "or")) tNil))) (tOp (rI (fun _ j => j ≠ 0) fun i j => .int (i.fmod j)) (tCB gInt (tCons (tVar 4) tNil)) (tC (.int 2)))) tNil)) (tCB (gTuple K) (tCons (tLc (iRng1 (tCons (tVar 7) tNil)) (gName 8) tYes (tCall (sp_tree K n) [] E0 (tCons (tVar 0) (tCons (tVar 1) (tCons (tVar 2) (tCons (tOp (rI0 fun i j => .int (i - j)) (tVar 3) (tC (.int 1))) tNil))))) [8]) tNil))))
def t_tree_4 (K : PySem.W.Frag) (n : Nat) : TS :=
  (tRet (tCall (sp_atom K) [] E0 (tCons (tVar 0) (tCons (tVar 1) (tCons (tVar 2) tNil)))))
def t_tree_3 (K : PySem.W.Frag) (n : Nat) : TS :=
  (tSeq (tIfS (tTest (tOp (gIn K) (tVar 4) (tLst (tCons (tC (.int 2)) (tCons (tC (.int 3)) (tCons (tC (.int 5)) (tCons (tC (.int 6)) tNil))))))) (tSeq (tAsg (tCall (sp_ofS K) [] E0 (tCons (tVar 0) (tCons (tLst (tCons (tC (.int 2)) (tCons (tC (.int 2)) (tCons (tC (.int 2)) (tCons (tC (.int 2)) (tCons (tC (.int 0)) (tCons (tC (.int 3)) tNil))))))) tNil))) (gName 7))
  (t_tree_3a_1 K n)) tNext)
  (t_tree_4 K n))
def t_tree_2 (K : PySem.W.Frag) (n : Nat) : TS :=
  (tSeq (tIfS (tTest (tOp (gEq K) (tVar 4) (tC (.int 4)))) (tRet (tTup (tCons (tC (.str "not")) (tCons (tCall (sp_tree K n) [] E0 (tCons (tVar 0) (tCons (tVar 1) (tCons (tVar 2) (tCons (tOp (rI0 fun i j => .int (i - j)) (tVar 3) (tC (.int 1))) tNil))))) tNil)))) tNext)
  (t_tree_3 K n))
def t_tree_1 (K : PySem.W.Frag) (n : Nat) : TS :=
  (tSeq (tIfS (tAnd (tTest (tOp (rI0 fun i j => .bl (decide (j < i))) (tVar 4) (tC (.int 4)))) (tTest (tOp (gNe K) (tOp (rIx K) (tVar 1) (tC (.int 1))) (tLst tNil)))) (tSeq (tAsg (tCall (sp_ofS K) [] E0 (tCons (tVar 0) (tCons (tOp (rIx K) (tVar 1) (tC (.int 1))) tNil))) (gTup K 2 (gCons (gName 5) (gCons (gName 6) gNil))))
  (t_tree_1a_1 K n)) tNext)
  (t_tree_2 K n))
def t_tree (K : PySem.W.Frag) (n : Nat) : TS :=
  (tSeq (tAsg (tIf (tTest (tOp (rI0 fun i j => .bl (decide (j < i))) (tVar 3) (tC (.int 0)))) (tCall (sp_draw K) [] E0 (tCons (tVar 0) (tCons (tC (.int 9)) tNil))) (tC (.int 0))) (gName 4))
  (t_tree_1 K n))
theorem read_tree_4 {n : Nat} {p : Addr} {v : V} {deep : Nat} {l : Lev} {ns : List Int} {a3 a4 a5 a6 a7 a8 : Option V} (B : Bag K G H b L) (hv : Dp K G v l.dat) (gd : l.good) (hp : SqL K G p (ns.map V.int)) (hnl : (0 < ns.length ∧ ns.length ≤ 10)) (hsm : ∀ i, i ∈ ns → i.natAbs < 10 ^ 21)
    (q : ∀ (x : V) (d : PyData) (G' H' : Hp), Ex G G' → Bag K G' H' b L → Dp K G' x d → box 4 (deep + 1) d → (∀ N, deep < N → treeB N l d = true) → D.rt x H') :
    t_tree_4 K n D [some (.ref b), some v, some (.ref p), a3, a4, a5, a6, a7, a8] H := by
  unfold t_tree_4
  walk_at "gs"
  refine ⟨b, p, v, l, ns, G, _, rfl, B, hv, gd, hp, hnl, hsm, fun x d G1 H1 e1 B1 hx hb ht => ?_⟩
  refine q x d G1 H1 e1 B1 hx (box_mono (Nat.le_refl _) (by omega) hb) fun N hN => ?_
  obtain ⟨N, rfl⟩ : ∃ N', N = N' + 1 := ⟨N - 1, by omega⟩
  exact ht N
theorem read_tree_3 {n : Nat} {p : Addr} {v : V} {deep : Nat} {way : Int} {l : Lev} {ns : List Int} {a5 a6 a7 a8 : Option V} (B : Bag K G H b L) (hv : Dp K G v l.dat) (gd : l.good) (h9 : l.depth ≤ 9) (hp : SqL K G p (ns.map V.int)) (hnl : (0 < ns.length ∧ ns.length ≤ 10)) (hsm : ∀ i, i ∈ ns → i.natAbs < 10 ^ 21) (hd : deep < n)
    (q : ∀ (x : V) (d : PyData) (G' H' : Hp), Ex G G' → Bag K G' H' b L → Dp K G' x d → box 4 (deep + 2) d → (∀ N, deep + 1 < N → treeB N l d = true) → D.rt x H') :
    t_tree_3 K n D [some (.ref b), some v, some (.ref p), some (.int ((deep + 1 : Nat) : Int)), some (.int way), a5, a6, a7, a8] H := by
  have W := bag_world K b
  have dm : (((deep + 1 : Nat) : Int) - 1) = (deep : Int) := by omega
  unfold t_tree_3
  walk_at "gs"
  refine mk_lst W B (by show 4 ≤ 100000; decide) fun p1 G1 e1 B1 h1 => ?_
  walk_at "gs"
  refine .inr ⟨p1, _, rfl, .inl (ex_l B1.ex (sq_of h1)), rfl, rfl, ?_⟩
  rw [if_neg Bool.false_ne_true]; walk_at "gs"
  cases inV (V.int way) [V.int 2, V.int 3, V.int 5, V.int 6] with
  | false =>
    walk_at "gs"
    exact read_tree_4 (deep := deep + 1) B1 (Dp.ex e1 _ _ hv) gd (ex_l e1 hp) hnl hsm fun x d G2 H2 e2 B2 => q x d G2 H2 (e1.trans e2) B2
  | true =>
    walk_at "gs"
    refine mk_lst W B1 (by show 6 ≤ 100000; decide) fun p2 G2 e2 B2 h2 => ?_
    walk_at "gs"
    refine ⟨b, .ref p2, G2, _, rfl, B2, .inl ⟨p2, ([2, 2, 2, 2, 0, 3] : List Int).map V.int, rfl, fun H' B' => .inl (ex_l B'.ex (sq_of h2)), (by show 0 < 6; decide), (by show 6 < _; decide), fun x H3 hx B3 => ?_⟩⟩
    obtain ⟨many, hm, rfl⟩ := List.mem_map.mp hx
    have hm3 : 0 ≤ many ∧ many ≤ 3 ∧ many ≠ 1 := by
      have h : ∀ m ∈ ([2, 2, 2, 2, 0, 3] : List Int), 0 ≤ m ∧ m ≤ 3 ∧ m ≠ 1 := by decide
      exact h many hm
    walk_at "gs"
    unfold t_tree_3a_1
    walk_at "gs"
    refine mk_lst W B3 (by show 2 ≤ 100000; decide) fun p3 G4 e4 B4 h4 => ?_
    walk_at "gs"
    refine rd_I (by decide) ?_
    have f0 := fmod_lo way (show (0 : Int) < 2 by decide)
    have f1 := fmod_hi way (show (0 : Int) < 2 by decide)
    obtain ⟨w, hw, hwj⟩ : ∃ w, atI [V.str "and", V.str "or"] (way.fmod 2) = some (.str w) ∧ w ∈ joins := by
      rcases (show way.fmod 2 = 0 ∨ way.fmod 2 = 1 by omega) with z | z
      · rw [z]; exact ⟨_, rfl, by decide +kernel⟩
      · rw [z]; exact ⟨_, rfl, by decide +kernel⟩
    refine rd_ixL (ex_l B4.ex (sq_of h4)) hw ?_
    walk_at "gs"
    refine mk_tup W B4 (by show 1 ≤ 100000; decide) fun p4 G5 e5 B5 h5 => ?_
    have e15 := e1.trans (e2.trans (e4.trans e5))
    walk_at "gs"
    refine ⟨many, rfl, by omega, by omega, ?_⟩
    refine lc_dataR (K := K) W (n := many.toNat) (lo := 0) B5 (by omega) (fun _ => rfl) (fun d => box 4 (deep + 1) d ∧ ∀ N, deep < N → treeB N l d = true) (fun i2 acc D2 G8 H8 hi2 e8 B8 Kp kp => ?_) (fun D2 us2 os G8 H8 e8 B8 hos hol hP => ?_)
    · walk_at "gs"
      rw [dm]
      exact ⟨b, p, v, deep, l, ns, G8, _, rfl, B8, Dp.ex (e15.trans e8) _ _ hv, gd, h9, ex_l (e15.trans e8) hp, hnl, hsm, hd, fun x d G9 H9 e9 B9 hx hbx ht => kp x d G9 H9 e9 B9 hx ⟨hbx, ht⟩⟩
    walk_at "gs"
    refine rd_gtupleL (sq_of B8.get1) ?_
    refine mk_im (o := .tup us2) W B8 fun to G9 e9 B9 h9 => ?_
    have B9 := W.drop B9
    have ul := DpAll.length hos
    have hw5 : SqT K G9 p4 [V.str w] := ex_t (e8.trans e9) (st_of h5)
    refine rd_catT W B9 hw5 (st_of h9) (by show 1 + _ ≤ _; omega) fun p5 Ga Ha ea Ba ha => ?_
    refine q (.ref p5) (.tuple (.str w :: os)) Ga Ha (e15.trans (e8.trans (e9.trans ea))) Ba (.tup ha (.cons (.str w) (DpAll.ex (e9.trans ea) _ _ hos))) (box_tup (by rw [List.length_cons]; omega) fun e he => ?_) fun N hN => ?_
    · rcases in_two he with rfl | he
      · refine box_flat _ (flat_word 4 w ?_)
        have h : ∀ w ∈ joins, w ∈ (["less", "is", "more", "lacks", "not", "and", "or", "any", "all", "none", "y", ""] : List Str) := by decide +kernel
        exact h w hwj
      · exact (hP e he).1
    · obtain ⟨N, rfl⟩ : ∃ N', N = N' + 1 := ⟨N - 1, by omega⟩
      rw [treeB_eq, tw_j hwj, decide_eq_false (by omega : ¬ os.length = 1)]
      exact List.all_eq_true.mpr fun o ho => (hP o ho).2 N (by omega)
theorem eqv_list_nil (es : List PyData) : PyData.eqv (.list es) (.list []) = decide (es = []) := by
  cases es with
  | nil => rfl
  | cons e es => rfl
theorem sat_tree {n : Nat} {vs : List V} {E : XK} (h : sp_tree K (n + 1) vs H Q E) : vs.length = 4 ∧ t_tree K n { nx := fun _ H' => Q .non H', rt := Q } (vs.map some ++ List.replicate (9 - vs.length) none) H := by
  obtain ⟨b, p, v, deep, l, ns, G, L, rfl, B, hv, gd, h9, hp, hnl, hsm, hd, q⟩ := h
  refine ⟨rfl, ?_⟩
  have W := bag_world K b
  unfold t_tree
  walk_at "gs"
  cases deep with
  | zero =>
    rw [decide_eq_false (by omega : ¬ (0 : Int) < ((0 : Nat) : Int))]
    walk_at "gs"
    unfold t_tree_1
    walk_at "gs"
    unfold t_tree_2
    walk_at "gs"
    unfold t_tree_3
    walk_at "gs"
    refine mk_lst W B (by show 4 ≤ 100000; decide) fun p1 G1 e1 B1 h1 => ?_
    walk_at "gs"
    refine .inr ⟨p1, _, rfl, .inl (ex_l B1.ex (sq_of h1)), rfl, rfl, ?_⟩
    rw [if_neg Bool.false_ne_true, show inV (V.int 0) [V.int 2, V.int 3, V.int 5, V.int 6] = false from by decide +kernel]
    walk_at "gs"
    exact read_tree_4 (deep := 0) B1 (Dp.ex e1 _ _ hv) gd (ex_l e1 hp) hnl hsm fun x d G2 H2 e2 B2 => q x d G2 H2 (e1.trans e2) B2
  | succ deep =>
    have dm : (((deep + 1 : Nat) : Int) - 1) = (deep : Int) := by omega
    rw [decide_eq_true (by omega : (0 : Int) < ((deep + 1 : Nat) : Int))]
    walk_at "gs"
    refine ⟨b, _, G, _, rfl, by omega, by omega, B, fun way H1 w0 w1 B1 => ?_⟩
    walk_at "gs"
    unfold t_tree_1
    have next : ∀ G2 H2 a5 a6 a7 a8, Ex G G2 → Bag K G2 H2 b L → t_tree_2 K n { nx := fun _ H' => Q .non H', rt := Q } [some (.ref b), some v, some (.ref p), some (.int ((deep + 1 : Nat) : Int)), some (.int way), a5, a6, a7, a8] H2 := fun G2 H2 a5 a6 a7 a8 e2 B2 => by
      unfold t_tree_2
      walk_at "gs"
      refine rd_dec (fun c => ?_) (fun c => ?_)
      · walk_at "gs"
        rw [dm]
        refine ⟨b, p, v, deep, l, ns, G2, _, rfl, B2, Dp.ex e2 _ _ hv, gd, h9, ex_l e2 hp, hnl, hsm, by omega, fun x d G3 H3 e3 B3 hx hbx ht => ?_⟩
        walk_at "gs"
        refine mk_tup W B3 (by show 2 ≤ 100000; decide) fun p4 G4 e4 B4 h4 => ?_
        refine q (.ref p4) (.tuple [.str "not", d]) G4 _ (e2.trans (e3.trans e4)) B4 (.tup (st_of h4) (.cons (.str _) (.cons (Dp.ex e4 _ _ hx) .nil))) (box_tup (by show 2 ≤ 4; decide) fun e he => ?_) fun N hN => ?_
        · rcases in_two he with rfl | he
          · exact box_flat _ (flat_word 4 "not" (by decide +kernel))
          · rw [List.mem_singleton.mp he]; exact hbx
        · obtain ⟨N, rfl⟩ : ∃ N', N = N' + 1 := ⟨N - 1, by omega⟩
          rw [treeB_eq, tw_n1]
          exact ht N (by omega)
      · walk_at "gs"
        exact read_tree_3 B2 (Dp.ex e2 _ _ hv) gd h9 (ex_l e2 hp) hnl hsm (by omega) fun x d G3 H3 e3 B3 => q x d G3 H3 (e2.trans e3) B3
    obtain ⟨fs, ls⟩ := l
    obtain ⟨a, fa, c, qs, rfl, ha, hfa, hc, hq⟩ := lv_inv hv
    have gd0 := gd
    rw [Lev.good] at gd
    rw [Lev.depth] at h9
    have hql := hq.1
    have hld := LevL.len_dats ls
    walk_at "gs"
    refine rd_dec (fun c4 => ?_) (fun c4 => ?_)
    · walk_at "gs"
      try refine rd_ixL (i := 1) (v := .ref c) (ex_l B1.ex ha) rfl ?_
      walk_at "gs"
      refine mk_lst W B1 (Nat.zero_le _) fun p1 G2 e2 B2 h2 => ?_
      have bx : box 3 (3 * ls.depth + 2) (.list ls.dats) := box_lst (by have := gd.2.2.2.2.1; omega) (LevL.boxes ls gd.2.2.2.2.2)
      refine rd_neD (d := .list ls.dats) (e := .list []) (.lst (ex_l (e2.trans B2.ex) hc) (DpAll.ex (e2.trans B2.ex) _ _ (lvAll_mk hq))) (.lst (ex_l B2.ex (sq_of h2)) .nil) (box_shaped bx (by omega)) rfl ?_
      rw [eqv_list_nil]
      walk_at "gs"
      refine rd_decN (fun z => ?_) (fun z => ?_)
      · walk_at "gs"
        exact next G2 _ _ _ _ _ e2 B2
      · have qpos : 0 < qs.length := by
          cases hz : ls.dats with
          | nil => exact (z hz).elim
          | cons d ds => rw [hz, List.length_cons] at hld; omega
        walk_at "gs"
        try refine rd_ixL (i := 1) (v := .ref c) (ex_l (e2.trans B2.ex) ha) rfl ?_
        walk_at "gs"
        refine ⟨b, .ref c, G2, _, rfl, B2, .inl ⟨c, qs.map V.ref, rfl, fun H' B' => .inl (ex_l (e2.trans B'.ex) hc), by rw [List.length_map]; exact qpos, by rw [List.length_map]; have := gd.2.2.2.2.1; omega, fun x H3 hx B3 => ?_⟩⟩
        obtain ⟨i, hi⟩ := List.getElem?_of_mem hx
        obtain ⟨pp, nm, sv, k, rfl, hpp, hn, hlk, hv2⟩ := LvAll.at hq hi
        have nd := (List.nodup_append.mp gd.2.2.2.1).2.1
        have dk := LevL.depth_get ls i k hlk
        have gk := LevL.good_get ls i k gd.2.2.2.2.2 hlk
        have hii : i < ls.names.length := (List.getElem?_eq_some_iff.mp hn).1
        have hsub : ls.sub nm = some k := sub_at ls i nm k hn hlk fun j hj e => by
          have := (List.getElem?_inj (by omega : j < ls.names.length) nd).mp (e.trans hn.symm)
          omega
        refine rd_gtup2 (ex_t (e2.trans B3.ex) hpp) ?_
        unfold t_tree_1a_1
        walk_at "gs"
        rw [dm]
        refine ⟨b, p, sv, deep, k, ns, G2, _, rfl, B3, Dp.ex e2 _ _ hv2, gk, by omega, ex_l e2 hp, hnl, hsm, by omega, fun x d G4 H4 e4 B4 hx hbx ht => ?_⟩
        walk_at "gs"
        refine mk_tup W B4 (by show 3 ≤ 100000; decide) fun p5 G5 e5 B5 h5 => ?_
        refine q (.ref p5) (.tuple [.str "any", .str nm, d]) G5 _ (e2.trans (e4.trans e5)) B5 (.tup (st_of h5) (.cons (.str _) (.cons (.str _) (.cons (Dp.ex e5 _ _ hx) .nil)))) (box_tup (by show 3 ≤ 4; decide) fun e he => ?_) fun N hN => ?_
        · rcases in_two he with rfl | he
          · exact box_flat _ (flat_word 4 "any" (by decide +kernel))
          · rcases in_two he with rfl | he
            · exact box_flat _ (nameOk_flat 4 (LevL.name_get ls i nm gd.2.2.2.2.2 hn))
            · rw [List.mem_singleton.mp he]; exact hbx
        · obtain ⟨N, rfl⟩ : ∃ N', N = N' + 1 := ⟨N - 1, by omega⟩
          rw [treeB_eq, tw_a2, hsub]
          exact ht N (by omega)
    · walk_at "gs"
      exact next G H1 _ _ _ _ (Ex.refl _) B1
end

/-! The forms of a tree. -/
/-- the forms of a tree -/
inductive Tree (N : Nat) (l : Lev) : Str → List PyData → Prop where
  | cmp {w f : Str} {n : Int} (hw : w ∈ cmps) (hf : f ∈ l.fs) : Tree N l w [.str f, .int n]
  | lacks {f : Str} (hf : f ∈ l.fs) : Tree N l "lacks" [.str f]
  | not {x : PyData} (hx : treeB N l x = true) : Tree N l "not" [x]
  | join {w : Str} {r : List PyData} (hw : w ∈ joins) (h : ∀ x, x ∈ r → treeB N l x = true) : Tree N l w r
  | any {z : Str} {x : PyData} {k : Lev} (hs : l.ls.sub z = some k) (hx : treeB N k x = true) : Tree N l "any" [.str z, x]
theorem Lev.good_of {l : Lev} (g : l.good) : l.ls.good := by
  obtain ⟨fs, ls⟩ := l
  rw [Lev.good] at g
  exact g.2.2.2.2.2
theorem isFld_inv {l : Lev} {d : PyData} (h : isFld l d = true) : ∃ f, d = .str f ∧ f ∈ l.fs := by
  cases d with
  | str z => exact ⟨z, rfl, of_decide_eq_true h⟩
  | _ => cases h
theorem isNum_inv {d : PyData} (h : isNum d = true) : ∃ n, d = .int n := by
  cases d with
  | int n => exact ⟨n, rfl⟩
  | _ => cases h
theorem tree_inv {N : Nat} {l : Lev} {d : PyData} (h : treeB N l d = true) : ∃ M w r, N = M + 1 ∧ d = .tuple (.str w :: r) ∧ Tree M l w r := by
  cases N with
  | zero => cases h
  | succ M =>
    by_cases c : ∃ w r, d = .tuple (.str w :: r)
    · obtain ⟨w, r, rfl⟩ := c
      refine ⟨M, w, r, rfl, rfl, ?_⟩
      rw [treeB_eq] at h
      by_cases h1 : w ∈ cmps
      · by_cases h2 : r.length = 2
        · obtain ⟨x, y, rfl⟩ := two_of h2
          rw [tw_c2 h1] at h
          have h := Bool.and_eq_true_iff.mp h
          obtain ⟨f, rfl, hf⟩ := isFld_inv h.1
          obtain ⟨n, rfl⟩ := isNum_inv h.2
          exact .cmp h1 hf
        · rw [tw_cN h1 h2] at h; cases h
      by_cases h3 : w = "lacks"
      · subst h3
        by_cases h2 : r.length = 1
        · obtain ⟨x, rfl⟩ := one_of h2
          rw [tw_l1] at h
          obtain ⟨f, rfl, hf⟩ := isFld_inv h
          exact .lacks hf
        · rw [tw_lN h2] at h; cases h
      by_cases h4 : w = "not"
      · subst h4
        by_cases h2 : r.length = 1
        · obtain ⟨x, rfl⟩ := one_of h2
          rw [tw_n1] at h
          exact .not h
        · rw [tw_nN h2] at h; cases h
      by_cases h5 : w ∈ joins
      · rw [tw_j h5] at h
        exact .join h5 (List.all_eq_true.mp (Bool.and_eq_true_iff.mp h).2)
      by_cases h6 : w = "any"
      · subst h6
        by_cases h2 : r.length = 2
        · obtain ⟨x, y, rfl⟩ := two_of h2
          cases x with
          | str z =>
            rw [tw_a2] at h
            cases e : l.ls.sub z with
            | none =>
              rw [e] at h
              cases h
            | some k => rw [e] at h; exact .any e h
          | _ => rw [tw_aS (fun z e => by cases e)] at h; cases h
        · rw [tw_aN h2] at h; cases h
      · rw [tw_o h1 h3 h4 h5 h6] at h; cases h
    · rw [treeB_no _ _ _ fun w r e => c ⟨w, r, e⟩] at h
      cases h
/-- the trees right within -/
def kids (w : Str) (r : List PyData) : List PyData := if w = "any" then r.drop 1 else if w = "not" ∨ w ∈ joins then r else []
theorem kids_not (r : List PyData) : kids "not" r = r := by
  unfold kids
  rw [if_neg (by decide +kernel), if_pos (.inl rfl)]
theorem kids_join {w : Str} (h : w ∈ joins) (r : List PyData) : kids w r = r := by
  have g : ∀ w ∈ joins, ¬ w = "any" := by decide +kernel
  unfold kids
  rw [if_neg (g w h), if_pos (.inr h)]
theorem kids_any (x y : PyData) : kids "any" [x, y] = [y] := if_pos rfl
theorem kids_no {w : Str} (h : w ∈ cmps ∨ w = "lacks") (r : List PyData) : kids w r = [] := by
  have g : ∀ w ∈ (["less", "is", "more", "lacks"] : List Str), ¬ w = "any" ∧ ¬ (w = "not" ∨ w ∈ joins) := by decide +kernel
  obtain ⟨h1, h2⟩ := g w ((four_iff w).mpr h)
  unfold kids
  rw [if_neg h1, if_neg h2]
/-- how many trees a tree has, itself too -/
def cnt : Nat → PyData → Nat
  | n + 1, .tuple (.str w :: r) => 1 + ((kids w r).map (cnt n)).sum
  | _, _ => 0
theorem cnt_eq (n : Nat) (w : Str) (r : List PyData) : cnt (n + 1) (.tuple (.str w :: r)) = 1 + ((kids w r).map (cnt n)).sum := rfl

/-! Parts of trees; questions. -/



section
variable {K : PySem.W.Frag} {σ : L2.St} {G H : Hp} {L : List (Addr × HO)} {Q : VK} {D : Ends} [SK : SchK K] [CJ : ConstsJ K]
/-- the trees right within a tree -/
def sp_inner_trees (K : PySem.W.Frag) : Sp := fun vs H Q _ => ∃ (x : V) (w : Str) (r : List PyData) (l : Lev) (N m k : Nat) (G : Hp) (L : List (Addr × HO)), vs = [x] ∧ Stt G H L ∧ Dp K G x (.tuple (.str w :: r)) ∧ Tree N l w r ∧ (∀ e, e ∈ r → box m k e) ∧ r.length ≤ m ∧ m ≤ 1000 ∧
  ∀ (p : Addr) (us : List V) (es : List PyData) (G' H' : Hp), Ex G G' → Stt G' H' L → SqL K G' p us → DpAll K G' us es → es = kids w r → es.length ≤ m → (∀ e, e ∈ es → box m k e ∧ ∃ l', treeB N l' e = true) → Q (.ref p) H'
def t_inner_trees_1 (K : PySem.W.Frag) : TS :=
  (tRet (tIf (tOr (tTest (tOp (gEq K) (tOp (rIx K) (tVar 0) (tC (.int 0))) (tC (.str "not")))) (tTest (tOp (gIn K) (tOp (rIx K) (tVar 0) (tC (.int 0))) (tC (v_JOINED K))))) (tCB (gList K) (tCons (tSl (rSlA K) (tVar 0) (tPart (tC (.int 1))) tNoPart) tNil)) (tLst tNil)))
def t_inner_trees (K : PySem.W.Frag) : TS :=
  (tSeq (tIfS (tTest (tOp (gEq K) (tOp (rIx K) (tVar 0) (tC (.int 0))) (tC (.str "any")))) (tRet (tLst (tCons (tOp (rIx K) (tVar 0) (tC (.int 2))) tNil))) tNext)
  (t_inner_trees_1 K))
theorem sat_inner_trees {vs : List V} {E : XK} (h : sp_inner_trees K vs H Q E) : vs.length = 1 ∧ t_inner_trees K { nx := fun _ H' => Q .non H', rt := Q } (vs.map some ++ List.replicate (1 - vs.length) none) H := by
  obtain ⟨x, w, r, l, N, m, k, G, L, rfl, S, hx, tr, hb, hr, hm, q⟩ := h
  refine ⟨rfl, ?_⟩
  obtain ⟨ja, hja, hjs⟩ := CJ.h
  cases hx with
  | @tup xa xs _ hxs hxa =>
  cases hxa with
  | @cons a bs _ _ ha hbs =>
  cases ha
  have hxs1 := ex_t S.ex hxs
  have hbl := DpAll.length hbs
  have cut : r = kids w r → (∀ e, e ∈ r → ∃ l', treeB N l' e = true) → rSlA K (.ref xa) (some 1) none H fun y H1 => gList K [y] H1 Q := fun hk ht => by
    refine rd_slA stt_world S hxs fun s G1 H1 e1 S1 h1 => ?_
    rw [show (1 : Int) = ((1 : Nat) : Int) from rfl, cutV_from] at h1
    have h1 : SqT K G1 s bs := h1
    refine rd_glistE stt_world S1 (.inr h1) fun p G2 H2 e2 S2 h2 => ?_
    exact q p bs r G2 H2 (e1.trans e2) S2 h2 (DpAll.ex (e1.trans e2) _ _ hbs) hk hr fun e he => ⟨hb e he, ht e he⟩
  have none_ : [] = kids w r → ∀ p, H p = none → Q (.ref p) (upd H p (.lst [])) := fun hk => mk_im (o := .lst []) stt_world S fun p G1 e1 S1 h1 => q p [] [] G1 _ e1 S1 (sq_of h1) .nil hk (Nat.zero_le _) fun e he => by cases he
  unfold t_inner_trees
  cases tr with
  | @not x1 hx1 =>
    cases hbs with
    | @cons b _ _ _ hb1 hbs =>
    cases hbs
    walk_at "gs"
    unfold t_inner_trees_1
    walk_at "gs"
    exact cut (kids_not _).symm fun e he => by rw [List.mem_singleton.mp he]; exact ⟨l, hx1⟩
  | @join _ _ hj hxj =>
    have hw2 : w = "and" ∨ w = "or" := by
      simp only [joins, List.mem_cons, List.not_mem_nil, or_false] at hj
      exact hj
    have step : t_inner_trees_1 K { nx := fun _ H' => Q .non H', rt := Q } [some (.ref xa)] H := by
      unfold t_inner_trees_1
      rw [hja]
      rcases hw2 with rfl | rfl
      · walk_at "gs"
        try refine rd_ixT hxs1 at0 ?_
        walk_at "gs"
        try refine rd_ixT hxs1 at0 ?_
        walk_at "gs"
        refine rd_inTs (us := joins) (hjs _) ?_
        rw [decide_eq_true hj]
        walk_at "gs"
        exact cut (kids_join hj _).symm fun e he => ⟨l, hxj e he⟩
      · walk_at "gs"
        try refine rd_ixT hxs1 at0 ?_
        walk_at "gs"
        try refine rd_ixT hxs1 at0 ?_
        walk_at "gs"
        refine rd_inTs (us := joins) (hjs _) ?_
        rw [decide_eq_true hj]
        walk_at "gs"
        exact cut (kids_join hj _).symm fun e he => ⟨l, hxj e he⟩
    rcases hw2 with rfl | rfl
    · walk_at "gs"
      try refine rd_ixT hxs1 at0 ?_
      walk_at "gs"
      exact step
    · walk_at "gs"
      try refine rd_ixT hxs1 at0 ?_
      walk_at "gs"
      exact step
  | @any z x1 k1 hs hx1 =>
    cases hbs with
    | @cons b1 _ _ _ hb1 hbs =>
    cases hbs with
    | @cons b2 _ _ _ hb2 hbs =>
    cases hbs
    walk_at "gs"
    refine mk_lst stt_world S (by show 1 ≤ 100000; decide) fun p G1 e1 S1 h1 => ?_
    exact q p [b2] [x1] G1 _ e1 S1 (sq_of h1) (.cons (Dp.ex e1 _ _ hb2) .nil) (kids_any _ _).symm (by show 1 ≤ m; have : 2 ≤ m := hr; omega) fun e he => by rw [List.mem_singleton.mp he]; exact ⟨hb x1 (by simp), k1, hx1⟩
  | @cmp _ f n2 hw2 hf2 =>
    have g : w = "less" ∨ w = "is" ∨ w = "more" := by
      simp only [cmps, List.mem_cons, List.not_mem_nil, or_false] at hw2
      exact hw2
    have nj : w ∉ joins := fun z => (joins_not w z).1 hw2
    cases hbs with
    | @cons b1 _ _ _ hb1 hbs =>
    cases hbs with
    | @cons b2 _ _ _ hb2 hbs =>
    cases hbs
    rcases g with rfl | rfl | rfl <;>
    · walk_at "gs"
      unfold t_inner_trees_1
      rw [hja]
      walk_at "gs"
      refine rd_inTs (us := joins) (hjs _) ?_
      rw [decide_eq_false nj]
      walk_at "gs"
      exact ⟨Nat.zero_le _, none_ (kids_no (.inl hw2) _).symm⟩
  | @lacks f hf2 =>
    have nj : ("lacks" : Str) ∉ joins := by decide +kernel
    cases hbs with
    | @cons b1 _ _ _ hb1 hbs =>
    cases hbs
    walk_at "gs"
    unfold t_inner_trees_1
    rw [hja]
    walk_at "gs"
    refine rd_inTs (us := joins) (hjs _) ?_
    rw [decide_eq_false nj]
    walk_at "gs"
    exact ⟨Nat.zero_le _, none_ (kids_no (.inr rfl) _).symm⟩
end




section
variable {K : PySem.W.Frag} {σ : L2.St} {G H : Hp} {L : List (Addr × HO)} {Q : VK} {D : Ends} [SK : SchK K] [CJ : ConstsJ K]
/-- all trees within a tree: no more than (m + 1) ^ k -/
def sp_all_parts (K : PySem.W.Frag) (n : Nat) : Sp := fun vs H Q _ => ∃ (x : V) (d : PyData) (l : Lev) (N m k : Nat) (G : Hp) (L : List (Addr × HO)), vs = [x] ∧ Stt G H L ∧ Dp K G x d ∧ treeB N l d = true ∧ box m k d ∧ k < n ∧ m ≤ 1000 ∧ (m + 1) ^ k ≤ 50000 ∧
  ∀ (p : Addr) (us : List V) (G' H' : Hp), Ex G G' → Stt G' H' L → G' p = some (.lst us) → us.length = cnt N d → us.length ≤ (m + 1) ^ k → Q (.ref p) H'
theorem never_all_parts (K : PySem.W.Frag) : ∀ vs H Q E, sp_all_parts K 0 vs H Q E → False := fun vs H Q E ⟨_, _, _, _, _, _, _, _, _, _, _, _, _, h, _⟩ => by omega
def t_all_parts_1b (K : PySem.W.Frag) (n : Nat) : TS :=
  (tAsg (tOp (gAdd K) (tVar 1) (tCall (sp_all_parts K n) [] E0 (tCons (tVar 2) tNil))) (gName 1))
def t_all_parts_2 (K : PySem.W.Frag) (n : Nat) : TS :=
  (tRet (tVar 1))
def t_all_parts_1 (K : PySem.W.Frag) (n : Nat) : TS :=
  (tSeq (tFor (iList K (tCall (sp_inner_trees K) [] E0 (tCons (tVar 0) tNil))) (gName 2) (t_all_parts_1b K n))
  (t_all_parts_2 K n))
def t_all_parts (K : PySem.W.Frag) (n : Nat) : TS :=
  (tSeq (tAsg (tLst (tCons (tVar 0) tNil)) (gName 1))
  (t_all_parts_1 K n))
theorem sat_all_parts {n : Nat} {vs : List V} {E : XK} (h : sp_all_parts K (n + 1) vs H Q E) : vs.length = 1 ∧ t_all_parts K n { nx := fun _ H' => Q .non H', rt := Q } (vs.map some ++ List.replicate (3 - vs.length) none) H := by
  obtain ⟨x, d, l, N, m, k, G, L, rfl, S, hx, hT, hb, hk, hm, hz, q⟩ := h
  refine ⟨rfl, ?_⟩
  obtain ⟨M, w, r, rfl, rfl, tr⟩ := tree_inv hT
  obtain ⟨k, rfl, hbe⟩ := box_in hb
  have hbl := box_len hb
  rw [List.length_cons] at hbl
  rw [Nat.pow_succ] at hz q
  obtain ⟨X, hX⟩ : ∃ X, (m + 1) ^ k = X := ⟨_, rfl⟩
  have hX1 : 1 ≤ X := by rw [← hX]; exact Nat.pos_of_ne_zero (by simp)
  rw [hX] at hz q
  have hmul : X * (m + 1) = X * m + X := Nat.mul_succ X m
  rw [hmul] at hz q
  unfold t_all_parts
  walk_at "gs"
  refine mk_lst stt_world S (by show 1 ≤ 100000; decide) fun f0 G1 e1 S1 h1 => ?_
  walk_at "gs"
  unfold t_all_parts_1
  walk_at "gs"
  refine ⟨x, w, r, l, M, m, k, G1, _, rfl, S1, Dp.ex e1 _ _ hx, tr, fun e he => hbe e (List.mem_cons_of_mem _ he), by omega, hm, fun p us es G2 H2 e2 S2 hp hus hkd hel hes => ?_⟩
  have hul := DpAll.length hus
  refine ⟨p, rfl, ⟨_, ex_l S2.ex hp⟩, ?_⟩
  refine for_go (walk_list (K := K) (a := p) (xs := us)) (G := G2)
    (fun i σ1 G3 H3 => ∃ (x2 : Option V) (f : Addr) (zs : List V), σ1 = [some x, some (.ref f), x2] ∧ Ex G2 G3 ∧ Stt G3 H3 L ∧ G3 f = some (.lst zs) ∧ zs.length = 1 + ((es.take i).map (cnt M)).sum ∧ zs.length ≤ 1 + X * i)
    ⟨_, f0, _, rfl, Ex.refl _, S2, e2 _ _ h1, rfl, by show 1 ≤ 1 + X * 0; omega⟩ (fun i σ1 G3 H3 _ ⟨_, _, _, _, e3, S3, _⟩ => ex_l (e3.trans S3.ex) hp) ?_ ?_
  · rintro i y σ1 G3 H3 H4 hi ⟨x2, f, zs, rfl, e3, S3, hf, hzc, hzl⟩ y N hN
    obtain ⟨rfl, hy⟩ := y
    obtain ⟨e, he, dp⟩ := DpAll.get hus hy
    obtain ⟨hbx, l', hl'⟩ := hes e (List.mem_of_getElem? he)
    have hXi : X * i ≤ X * m := Nat.mul_le_mul_left _ (by omega)
    refine rd_name ?_
    unfold t_all_parts_1b
    walk_at "gs"
    refine ⟨_, e, l', M, m, k, G3, _, rfl, S3, Dp.ex e3 _ _ dp, hl', hbx, by omega, hm, by rw [hX]; omega, fun p2 us2 G4 H4 e4 S4 hp2 hc2 hl2 => ?_⟩
    rw [hX] at hl2
    refine rd_addL (S4.ex _ _ (e4 _ _ hf)) (S4.ex _ _ hp2) (sz_of (by omega)) ?_
    refine mk_im (o := .lst (zs ++ us2)) stt_world S4 fun p3 G5 e5 S5 h5 => ?_
    refine hN _ G5 _ ⟨_, p3, _, rfl, e3.trans (e4.trans e5), S5, h5, ?_, ?_⟩
    · rw [List.length_append, hzc, hc2, List.take_add_one, he]
      show _ = 1 + ((es.take i ++ [e]).map (cnt M)).sum
      rw [List.map_append, List.sum_append]
      show _ = 1 + (_ + (cnt M e + 0))
      omega
    · rw [List.length_append, Nat.mul_succ]
      omega
  · rintro σ1 G3 H3 ⟨x2, f, zs, rfl, e3, S3, hf, hzc, hzl⟩
    have hXm : X * us.length ≤ X * m := Nat.mul_le_mul_left _ (by omega)
    unfold t_all_parts_2
    walk_at "gs"
    exact q f zs G3 H3 (e1.trans (e2.trans e3)) S3 hf (by rw [hzc, hul, List.take_length, hkd]; rfl) (by omega)
end

/-! == and != by an own __eq__, tuples that hold such objects; repr and bool of an own object; C(k=e) of a class with *rest. -/
section
variable {X : Cx} {n m k j : Nat}
/-- a tuple's items are told by its place alone -/
def Uniq (K : PySem.W.Frag) (H : Hp) : Prop := ∀ a xs ys, SqT K H a xs → SqT K H a ys → xs = ys
/-- what == of two values comes to, told by the heap -/
abbrev EqvB := V → V → Hp → Bool → Prop
def EqB (X : Cx) (n : Nat) (D : EqvB) : Prop := ∀ (A : Around) (pins : List (Addr × Obj)) (s : Shared) (σ : L2.St) (H : Hp) (x y : V) (u v : Value) (b : Bool), Sub X n A → Inv X pins σ H s → RelV x u → RelV y v → D x y H b →
    wpAny (model X.prog X.w) A (eqBool u v) (fun r s' => r = b ∧ Inv X pins σ H s') X.xe s
def RcB (X : Cx) (n : Nat) (D : EqvB) : Prop := ∀ (A : Around) (pins : List (Addr × Obj)) (s : Shared) (σ : L2.St) (H : Hp) (x y : V) (u v : Value) (b : Bool), Sub X n A → Inv X pins σ H s → RelV x u → RelV y v → D x y H b →
    wpAny (model X.prog X.w) A (richCompare .Eq u v) (fun r s' => r = .bool b ∧ Inv X pins σ H s') X.xe s
theorem EqB.mono {D : EqvB} (h : EqB X n D) (hn : n ≤ m) : EqB X m D := fun A pins s σ H x y u v b sb => h A pins s σ H x y u v b (sb.mono hn)
theorem EqB.or {D D' : EqvB} (h : EqB X n D) (h' : EqB X n D') : EqB X n (fun x y H b => D x y H b ∨ D' x y H b) := fun A pins s σ H x y u v b sb I rx ry d =>
  d.elim (h A pins s σ H x y u v b sb I rx ry) (h' A pins s σ H x y u v b sb I rx ry)
/-- flat values -/
def DFl : EqvB := fun x y _ b => flatV x = true ∧ flatV y = true ∧ eqV x y = b
theorem eqB_flat : EqB X 0 DFl := by
  intro A pins s σ H x y u v b sb I rx ry d
  obtain ⟨fx, fy, e⟩ := d; have q := eqAt_V (A := A) (s := s) rx ry fx fy
  rw [e] at q
  exact q X.prog X.w X.xe _ ⟨rfl, I⟩
/-- item by item -/
def PrsB (D : EqvB) : List V → List V → Hp → Bool → Prop
  | [], [], _, b => b = true
  | [], _ :: _, _, b => b = false
  | _ :: _, [], _, b => b = false
  | x :: xs, y :: ys, H, b => (D x y H true ∧ PrsB D xs ys H b) ∨ (D x y H false ∧ b = false)
theorem zipR_of {D : EqvB} (h : EqB X n D) {A : Around} (sb : Sub X (n + 1) A) {pins : List (Addr × Obj)} {σ : L2.St} {H : Hp} {b : Bool} :
    ∀ {xs ys : List V} {its its2 : List Value}, PrsB D xs ys H b → Vals xs its → Vals ys its2 → ∀ fin : Bool, fin = (its.length == its2.length) → GE.ZipR X.prog X.w A X.xe (fun s' => Inv X pins σ H s') b fin (its.zip its2)
  | _, _, _, _, p, .nil, .nil, fin, e => by rw [e]; exact p
  | _, _, _, _, p, .nil, .cons _ _, fin, e => by rw [e]; exact p
  | _, _, _, _, p, .cons _ _, .nil, fin, e => by rw [e]; exact p
  | _, _, u :: us, v :: vs, p, .cons rx r, .cons ry r2, fin, e => by
    have e2 : fin = (us.length == vs.length) := e.trans (Bool.eq_iff_iff.mpr (by simp))
    rcases p with ⟨d, p⟩ | ⟨d, p⟩
    · exact ⟨true, fun s I => h A.in1 pins s σ H _ _ _ _ _ sb.in1 I rx ry d, .inl ⟨rfl, zipR_of h sb p r r2 fin e2⟩⟩
    · exact ⟨false, fun s I => h A.in1 pins s σ H _ _ _ _ _ sb.in1 I rx ry d, .inr ⟨rfl, p⟩⟩
/-- tuples, item by item; one and the same tuple is equal to itself -/
def DTp (K : PySem.W.Frag) (D : EqvB) : EqvB := fun x y H b => ∃ p q xs ys, x = .ref p ∧ y = .ref q ∧ SqT K H p xs ∧ SqT K H q ys ∧ PrsB D xs ys H b ∧ (p = q → Uniq K H → b = true)
theorem rcB_tup {D : EqvB} (h : EqB X n D) : RcB X (n + 1) (DTp X.K D) := by
  intro A pins s σ H x y u v b sb I rx ry d
  obtain ⟨p, q, xs, ys, rfl, rfl, hp, hq, pr, _⟩ := d
  cases rx
  cases ry
  obtain ⟨its, r, e, z⟩ := I.tuple hp
  obtain ⟨its2, r2, e2, z2⟩ := I.tuple hq
  exact GE.rc_tupB sb.room.units0 (fun s' => Inv X pins σ H s') b e e2 (zipR_of h sb pr r r2 _ (by rw [List.size_toArray, List.size_toArray])) (fun s' q => ⟨rfl, q⟩) I
/-- from a rich comparison to == inside a tuple: one object is equal to itself -/
theorem RcB.eqB {D : EqvB} (h : RcB X n D) (hr : ∀ x y H b, D x y H b → ∃ p q, x = .ref p ∧ y = .ref q ∧ (p = q → Uniq X.K H → b = true)) : EqB X n D := by
  intro A pins s σ H x y u v b sb I rx ry d
  obtain ⟨p, q, rfl, rfl, hs⟩ := hr _ _ _ _ d
  cases rx
  cases ry
  by_cases hab : p = q
  · subst hab
    rw [hs rfl fun a xs ys h1 h2 => I.tuple_inj h1 h2]
    exact SeqAt.EqAt.same (A := A) (s := s) (.ref p) X.prog X.w X.xe _ ⟨rfl, I⟩
  · refine GQ.eqBool_refG hab (wpAny_mono (h A pins s σ H (.ref p) (.ref q) _ _ b sb I rfl rfl d) (fun r s' q => ?_) fun _ _ x => x)
    obtain ⟨hr', q⟩ := q
    exact ⟨b, hr', rfl, q⟩
theorem eqB_tup {D : EqvB} (h : EqB X n D) : EqB X (n + 1) (DTp X.K D) := (rcB_tup h).eqB fun _ _ _ _ d => let ⟨p, q, _, _, hx, hy, _, _, _, hs⟩ := d; ⟨p, q, hx, hy, hs⟩
/-- a def called from somewhere below -/
theorem run_sub {A : Around} {f : Addr} {fd : FuncData} {ps : List Str} {ds : List Value} {dvs : List V} {sp : Sp} {pins : List (Addr × Obj)} {σ : L2.St} {H : Hp} {s : Shared} {Q : VK} {us : List Value} {vs : List V} (F : FnOk X.prog X.w X.K X.mg X.base C8.CX0 k f fd ps sp)
    (sb : Sub X k A) (hb : Binds X.K fd ps ds) (hd : Vals dvs ds) (I : Inv X pins σ H s) (r : Vals vs us) (h : sp (vs ++ dvs) H Q C8.E0) : wpAny (model X.prog X.w) A (call (.ref f) us) (EP X pins σ Q) X.xe s := by
  have rr := r.append hd
  have hl : (us ++ ds).length = ps.length := rr.length.symm.trans (F.len _ _ _ _ h)
  have e := I.env0
  have e0 : Env0 X.prog X.w X.K X.mg X.base A X.stack s H := ⟨sb.fr ▸ e.frames, e.mod, e.bs, e.bsz, e.funs, e.frf, e.hok, e.bare⟩
  refine wpAny_call (codeAny_mono (F.run A X.stack s H ⟨us, []⟩ (us ++ ds) (vs ++ dvs) Q C8.E0 sb.room e0 (hb s us I.kIn hl) rr h) fun r s' hq => ?_)
  cases r with
  | error e => exact (C8.pass0 : Passes C8.CX0 X C8.E0) pins σ H s e s' I hq
  | ok fl =>
    cases fl with
    | ret w =>
      obtain ⟨z, H', I', rz, q⟩ := I.after hq
      exact ⟨z, H', I', rz, q⟩
    | next => exact False.elim hq
    | brk => exact False.elim hq
    | cont => exact False.elim hq
section
variable {C : Addr} {sp : Sp}
/-- instances of C: what the own == says -/
def DOw (K : PySem.W.Frag) (C : Addr) (sp : Sp) : EqvB := fun x y H b => ∃ p q dx dy fs gs, x = .ref p ∧ y = .ref q ∧ H p = some (.ins C dx fs) ∧ H q = some (.ins C dy gs) ∧ sp [.ref p, .ref q] H (fun v H' => v = .bl b ∧ H' = H) C8.E0 ∧ (p = q → Uniq K H → b = true)
theorem rcB_own (c : C8.Met X.prog X.w X.K X.mg X.base k C "__eq__" sp []) : RcB X k (DOw X.K C sp) := by
  intro A pins s σ H x y u v b sb I rx ry d
  obtain ⟨p, q, dx, dy, fs, gs, rfl, rfl, ha, hb, hs, _⟩ := d
  cases rx
  cases ry
  obtain ⟨f, fd, ps, ds, hc, hm, F, bd, dd⟩ := c.ex
  obtain ⟨mA, O, _⟩ := ins_get I.hok ha; obtain ⟨mB, O', _⟩ := ins_get I.hok hb
  obtain ⟨od, J, _⟩ := O.look
  obtain ⟨od', J', _⟩ := O'.look
  obtain ⟨m, hF⟩ := I.fr
  refine PySem.W.cmp_K (op := .Eq) (tb := .ref C) sb.room.units0 hF I.ok.mod.kin J J'.type (by simp [PySem.W.notFirst]) hm.at_ hm.fn ?_
  refine wpAny_mono (run_sub F sb bd dd I (vs := [.ref p, .ref q]) (.cons rfl (.cons rfl .nil)) (by rw [List.append_nil]; exact hs)) (fun r s' hq => ?_) fun _ _ z => z
  obtain ⟨z, H', I', rz, ez, eh⟩ := hq
  subst ez eh
  cases rz
  exact ⟨rfl, I'⟩
theorem eqB_own (c : C8.Met X.prog X.w X.K X.mg X.base k C "__eq__" sp []) : EqB X k (DOw X.K C sp) := (rcB_own c).eqB fun _ _ _ _ d => let ⟨p, q, _, _, _, _, hx, hy, _, _, _, hs⟩ := d; ⟨p, q, hx, hy, hs⟩
/-- tuples of tuples of flat values and instances of C -/
abbrev DIt (K : PySem.W.Frag) (C : Addr) (sp : Sp) : EqvB := fun x y H b => DFl x y H b ∨ DOw K C sp x y H b
abbrev DPs (K : PySem.W.Frag) (C : Addr) (sp : Sp) : EqvB := DTp K (DTp K (DIt K C sp))
def rEqP (K : PySem.W.Frag) (C : Addr) (sp : Sp) : R2 := fun x y H Q => ∃ b, DPs K C sp x y H b ∧ Q (.bl b) H
theorem op_eqP (c : C8.Met X.prog X.w X.K X.mg X.base k C "__eq__" sp []) (hr : Room j X.A) (hk : k + 2 ≤ j) : OpR X (compareOp .Eq) (rEqP X.K C sp) := by
  intro pins s σ H x y v u Q I rx ry hq; obtain ⟨b, d, q⟩ := hq
  show wpAny (model X.prog X.w) X.A (richCompare .Eq v u) (EP X pins σ Q) X.xe s; have h : RcB X (k + 2) (DPs X.K C sp) := rcB_tup (eqB_tup ((EqB.mono eqB_flat (Nat.zero_le k)).or (eqB_own c)))
  refine wpAny_mono (h X.A pins s σ H x y v u b ⟨hr.mono hk, rfl⟩ I rx ry d) (fun r s' z => ?_) fun _ _ x => x
  obtain ⟨hr', I'⟩ := z
  subst hr'
  exact ⟨.bl b, H, I', rfl, q⟩
/-- o == y: another instance, a text, None -/
def EqWith (C : Addr) (y : V) (H : Hp) : Prop := y = .non ∨ (∃ t, y = .str t) ∨ ∃ q dy gs, y = .ref q ∧ H q = some (.ins C dy gs)
theorem eqWith_type {C : Addr} {y : V} {v : Value} {H : Hp} {pins : List (Addr × Obj)} {σ : L2.St} {s : Shared} (I : Inv X pins σ H s) (ry : RelV y v) (h : EqWith C y H) :
    ∃ tb, PySem.W.Looks (model X.prog X.w) s.heap (typeOf v) tb ∧ PySem.W.notFirst X.K C tb = true := by
  rcases h with rfl | ⟨t, rfl⟩ | ⟨q, dy, gs, rfl, hb⟩
  · cases ry
    exact ⟨.type "NoneType", .of_pure rfl, by simp [PySem.W.notFirst, HN.sub_none]⟩
  · obtain ⟨t', rfl⟩ := ry
    exact ⟨.type "str", .of_pure rfl, by simp [PySem.W.notFirst, GE.sub_str]⟩
  · cases ry
    obtain ⟨mB, O', _⟩ := ins_get I.hok hb
    obtain ⟨od', J', _⟩ := O'.look
    exact ⟨_, J'.type, by simp [PySem.W.notFirst]⟩
def rEqO (C : Addr) (sp : Sp) : R2 := fun x y H Q => ∃ p dx fs, x = .ref p ∧ H p = some (.ins C dx fs) ∧ EqWith C y H ∧ sp [x, y] H (fun v H' => ∃ b, v = .bl b ∧ Q (.bl b) H') C8.E0
theorem op_eqO (c : C8.Met X.prog X.w X.K X.mg X.base k C "__eq__" sp []) (hr : Room j X.A) (hk : k ≤ j) : OpR X (compareOp .Eq) (rEqO C sp) := by
  intro pins s σ H x y u v Q I rx ry hq
  obtain ⟨p, dx, fs, rfl, ha, hy, hs⟩ := hq
  cases rx
  obtain ⟨f, fd, ps, ds, hc, hm, F, bd, dd⟩ := c.ex
  obtain ⟨mA, O, _⟩ := ins_get I.hok ha; obtain ⟨od, J, _⟩ := O.look
  obtain ⟨tb, ht, hn⟩ := eqWith_type I ry hy
  obtain ⟨m, hF⟩ := I.fr
  show wpAny (model X.prog X.w) X.A (richCompare .Eq (.ref p) v) (EP X pins σ Q) X.xe s
  refine PySem.W.cmp_K (op := .Eq) hr.units0 hF I.ok.mod.kin J ht hn hm.at_ hm.fn ?_
  refine wpAny_mono (run_sub F ⟨hr.mono hk, rfl⟩ bd dd I (vs := [.ref p, y]) (.cons rfl (.cons ry .nil)) (by rw [List.append_nil]; exact hs)) (fun r s' hq => ?_) fun _ _ z => z
  obtain ⟨z, H', I', rz, b, ez, q⟩ := hq
  subst ez
  cases rz
  exact ⟨.bl b, H', I', rfl, q⟩
/-- o != y, y another instance of the class, which has no __ne__ of its own -/
def rNeO (C : Addr) (sp : Sp) : R2 := fun x y H Q => ∃ p dx fs, x = .ref p ∧ H p = some (.ins C dx fs) ∧ EqWith C y H ∧ sp [x, y] H (fun v H' => ∃ b, v = .bl b ∧ Q (.bl (!b)) H') C8.E0
theorem op_neO (c : C8.Met X.prog X.w X.K X.mg X.base k C "__eq__" sp []) (hne : PySem.W.findIn X.K (.ref C) "__ne__" = some (some (.builtin "object.__ne__"))) (hmo : PySem.W.mroIn X.K C (.type "object") = some true) (hr : Room j X.A) (hk : k + 1 ≤ j) : OpR X (compareOp .NotEq) (rNeO C sp) := by
  intro pins s σ H x y u v Q I rx ry hq
  obtain ⟨p, dx, fs, rfl, ha, hy, hs⟩ := hq
  cases rx
  obtain ⟨f, fd, ps, ds, hc, hm, F, bd, dd⟩ := c.ex
  obtain ⟨mA, O, _⟩ := ins_get I.hok ha; obtain ⟨od, J, _⟩ := O.look
  obtain ⟨tb, ht, hn⟩ := eqWith_type I ry hy
  have sb : Sub X (k + 1) X.A := ⟨hr.mono hk, rfl⟩
  show wpAny (model X.prog X.w) X.A (richCompare .NotEq (.ref p) v) (EP X pins σ Q) X.xe s
  have run := run_sub F sb.in1 bd dd I (vs := [.ref p, y]) (us := [.ref p, v]) (.cons rfl (.cons ry .nil)) (by rw [List.append_nil]; exact hs)
  have body : wpAny (model X.prog X.w) X.A.in1 (Builtin.«object.__ne__» ⟨[.ref p, v], []⟩) (fun fin s' => ∃ r, fin = .done (.ret (.bool r)) ∧ ∃ H', Inv X pins σ H' s' ∧ Q (.bl r) H') X.xe s := by
    unfold Builtin.«object.__ne__»; repeat (first
      | with_reducible refine wpAny_cRoomFor sb.in1.room.units0 ?_
      | (refine wpAny_bind (m := callSpecialIfBound? (.ref p) (Str.ofString "__eq__") [v])
          (PySem.W.ifBound_K I.kIn J hm.at_ hm.fn (wpAny_mono run (fun r s' hr => by
            obtain ⟨z, H', I', rz, b, ez, q⟩ := hr
            subst ez
            cases rz
            repeat (first | exact ⟨_, rfl, H', I', q⟩ | exact wpAny_pure ⟨_, rfl, H', I', q⟩ | exact wpAny_truthy_bool ⟨_, rfl, H', I', q⟩ | (refine wpAny_bind (m := truthy (.bool _)) (wpAny_truthy_bool ?_)) | wp_step)) fun _ _ e => e)))
      | wp_step)
  have one : wpAny (model X.prog X.w) X.A (tryCompare (.ref p) "__ne__" v) (fun r s' => ∃ b, r = some (.bool b) ∧ ∃ H', Inv X pins σ H' s' ∧ Q (.bl b) H') X.xe s := by
    unfold tryCompare
    refine wpAny_bind (GE.ifBound_objNe I.kIn J hne (wpAny_call (codeAny_call_builtin PySem.F.cmp_object.ne.plain PySem.F.cmpEntry_ne (PySem.W.check_slot PySem.F.cmpKind_ne PySem.F.cmpSplit_ne (J.type.andThen (PySem.W.looks_mroIn I.kIn hmo)) (PySem.F.cmpArgs_ne _ _)
      (wpAny_mono body (fun fin s' hf => ?_) fun _ _ e => e)))))
    obtain ⟨r, rfl, H', I', q⟩ := hf
    exact wpAny_pure ⟨_, rfl, H', I', q⟩
  have X1 := I.kIn
  unfold richCompare
  simp only [oneThing_ref]
  refine wpAny_holding (wpAny_bind (wpAny_cRoomFor hr.units0 ?_))
  refine wpAny_bind (J.type.here (wpAny_bind (ht.here ?_)))
  split
  · rename_i q
    have e : PySem.W.subIn X.K tb (.ref C) = some false := by
      rcases Bool.or_eq_true_iff.mp hn with e1 | e1
      · exfalso; rw [beq_iff_eq.mp e1] at q; simp at q
      · exact beq_iff_eq.mp e1
    refine wpAny_bind ((PySem.W.looks_subIn X1 e).here ?_)
    simp only [Bool.false_eq_true, if_false]; refine wpAny_bind (wpAny_mono one (fun r s' z => ?_) fun _ _ e => e)
    obtain ⟨b, rfl, H', I', hq⟩ := z
    exact wpAny_pure ⟨.bl b, H', I', rfl, hq⟩
  · refine wpAny_bind (wpAny_pure ?_); simp only [Bool.false_eq_true, if_false]
    refine wpAny_bind (wpAny_mono one (fun r s' z => ?_) fun _ _ e => e); obtain ⟨b, rfl, H', I', hq⟩ := z
    exact wpAny_pure ⟨.bl b, H', I', rfl, hq⟩
/-- repr(o) -/
def gReprO (C : Addr) (sp : Sp) : List V → Hp → VK → Prop := fun xs H Q => ∃ p dx fs, xs = [.ref p] ∧ H p = some (.ins C dx fs) ∧ sp [.ref p] H (fun v H' => ∃ t, v = .str t ∧ Q (.str t) H') C8.E0
theorem cr_reprO (c : C8.Met X.prog X.w X.K X.mg X.base k C "__repr__" sp []) (hr : Room j X.A) (hk : k + 1 ≤ j) : CallR X (.builtin "repr") (gReprO C sp) := by
  intro pins s σ H xs us Q I r h; obtain ⟨p, dx, fs, rfl, ha, hs⟩ := h
  obtain rfl := Vals.ref1 r
  obtain ⟨f, fd, ps, ds, hc, hm, F, bd, dd⟩ := c.ex
  obtain ⟨mA, O, _⟩ := ins_get I.hok ha; obtain ⟨od, J, _⟩ := O.look
  have sb : Sub X (k + 1) X.A := ⟨hr.mono hk, rfl⟩
  refine Calls.call_function_entry PySem.F.kind_repr PySem.F.plain_repr PySem.F.entry_repr (PySem.F.args_repr1 _) ?_; unfold Builtin.«repr»
  refine wpAny_bind (m := oneArg "repr" _) (wpAny_pure ?_); refine wpAny_bind (wpAny_cRoomFor sb.in1.room.units0 ?_)
  refine wpAny_bind ((J.type.andThen (PySem.W.looks_findIn I.kIn hm.at_)).here ?_)
  show wpAny _ _ (if (some (Value.ref f)).isNone = true then _ else _) _ _ _; rw [if_neg (by simp)]
  refine wpAny_bind (m := callSpecialIfBound? (.ref p) (Str.ofString "__repr__") _) (PySem.W.ifBound_K I.kIn J hm.at_ hm.fn (wpAny_mono (run_sub F sb.in1 bd dd I (vs := [.ref p]) (.cons rfl .nil) (by rw [List.append_nil]; exact hs)) (fun r s' hr => ?_) fun _ _ y => y))
  obtain ⟨z, H', I', rz, t, ez, q⟩ := hr
  subst ez
  obtain ⟨tk, rfl⟩ := rz
  refine wpAny_bind (wpAny_isInstance (typeIs_str _ _ _) isSubtype_str_str ?_); have fin : ∃ v, Fin.done (Flow.ret (Value.str t tk)) = Fin.done (Flow.ret v) ∧ EP X pins σ Q v s' := ⟨_, rfl, V.str t, H', I', ⟨tk, rfl⟩, q⟩
  first
    | exact wpAny_pure fin
    | (rw [if_pos rfl]; exact wpAny_pure fin)
    | (simp only [if_true]; exact wpAny_pure fin)
/-- bool(o), o of a class with neither __bool__ nor __len__ -/
def gBoolO (C : Addr) : List V → Hp → VK → Prop := fun xs H Q => ∃ p dx fs, xs = [.ref p] ∧ H p = some (.ins C dx fs) ∧ Q (.bl true) H
theorem cg_boolO (hb : PySem.W.findIn X.K (.ref C) "__bool__" = some none) (hl : PySem.W.findIn X.K (.ref C) "__len__" = some none) : CallR X (.type "bool") (gBoolO C) := by
  intro pins s σ H xs us Q I r h; obtain ⟨p, dx, fs, rfl, ha, q⟩ := h
  obtain rfl := Vals.ref1 r
  obtain ⟨mA, O, _⟩ := ins_get I.hok ha; obtain ⟨od, J, _⟩ := O.look
  have KI := I.kIn
  refine call_bool_1 (GE.meets_bool_any (.ref p) true) ⟨fun M A E Q' hq => ?_, rfl, .bl true, H, I, rfl, q⟩
  unfold truthy callSpecial?
  refine wpAny_bind (wpAny_bind ((J.type.andThen (PySem.W.looks_findIn KI hb)).here (wpAny_pure ?_)))
  show wpAny M A (specialOf (.ref p) "__len__" >>= _) Q' E s
  refine wpAny_bind ((J.type.andThen (PySem.W.looks_findIn KI hl)).here ?_)
  exact wpAny_pure hq
/-! ### C(k=e), where C's __init__ takes *rest -/
def FnK1 (P : Program) (w : World) (K : PySem.W.Frag) (mg : Str → Option Value) (base : Heap) (CX : CXT) (k : Nat) (f : Addr) (kn : Str) (sp : Sp) : Prop :=
  ∀ (A : Around) (outer : List Env) (s : Shared) (H : Hp) (u0 u1 : Value) (v0 v1 : V) (Q : VK) (E : XK), Room k A → Env0 P w K mg base A outer s H → RelV v0 u0 → RelV v1 u1 → sp [v0, v1] H Q E →
    codeAny (model P w) A (.call (.ref f) ⟨[u0], [(kn, u1)]⟩) (CR CX outer P w H s Q E) s
end
section
variable {CX : CXT} {P : Program} {w : World} {K : PySem.W.Frag} {mg : Str → Option Value} {base : Heap} {f : Addr} {name qual : Str} {params : Arguments} {body : List Stmt} {scope : Scope} {dV kV doc pm cdv ct oc : Value} {an od : Option Addr}
  {osl : Array (Option Value)} {N : List Str} {sp sp' : Sp} {self kn pv : Str}
theorem FnK1.imp (F : FnK1 P w K mg base CX k f kn sp) (h : ∀ vs H Q E, sp' vs H Q E → sp vs H Q E) : FnK1 P w K mg base CX k f kn sp' := fun A outer s H u0 u1 v0 v1 Q E hr e0 r0 r1 hs => F A outer s H u0 u1 v0 v1 Q E hr e0 r0 r1 (h _ _ _ _ hs)
theorem fn_starK1 (lk : K.lookup f = some ⟨oc, od, .func (PySem.W.fnOf name qual params body scope dV kV doc pm an cdv ct), osl⟩) (hcd : PySem.W.codeIn K cdv qual = true) (S : FnScope N ([self, kn] ++ [pv]) scope) (hCX : StX.CXUp CX)
    (hb : ∀ a b : Value, bindArgs (PySem.W.fnOf name qual params body scope dV kV doc pm an cdv ct) ⟨[a], [(kn, b)]⟩ = (newTuple [] >>= fun t => pure [(self, a), (kn, b), (pv, t)]))
    (hbd : ∀ (A : Around) (outer : List Env) (s : Shared) (H : Hp) (vs : List V) (Q : VK) (E : XK), Room k (A.deeper (envOfC qual scope s.heap.objs.size f cdv)) → sp vs H Q E → ∃ t, PSs (cxOf CX P w K mg base N qual scope f cdv A outer s H E) body t ∧
      t { nx := fun _ H' => Q .non H', rt := Q } (start N vs) H) :
    FnK1 P w K mg base CX (k + 1) f kn (fun vs H Q E => ∃ ws rest, vs = ws ++ rest ∧ ws.length = 2 ∧ rest.length ≤ sizeLine ∧ ∀ p, H p = Option.none → sp (ws ++ [V.ref p]) (upd H p (.tup rest)) Q E) := by
  intro A outer s H u0 u1 v0 v1 Q E hr e0 r0 r1 hsp
  obtain ⟨ws, rest, ev, hl, hz, hq⟩ := hsp; have hn : H s.heap.objs.size = Option.none := e0.hok.fresh (Nat.le_refl _)
  have hw : ws = [v0, v1] ∧ rest = [] := by
    match ws, hl, ev with
    | [a, b], _, ev => have e2 := List.cons.inj ev; have e3 := List.cons.inj e2.2; exact ⟨by rw [e2.1, e3.1], e3.2.symm⟩
  obtain ⟨rfl, rfl⟩ := hw
  refine StX.run_bnd lk hcd S hr e0 (G := fun xs H2 => ∃ p, H p = Option.none ∧ xs = [v0, v1] ++ [V.ref p] ∧ H2 = upd H p (.tup [])) (fun A' Ex Q' h => ?_) fun s2 H2 xs ⟨p, hp, ex, eH⟩ hr' => ?_
  · rw [hb u0 u1]
    refine wpAny_bind (wpAny_newTuple (wpAny_pure ?_) hz)
    have new : ObjOk P w (upd H s.heap.objs.size (.tup [])) (s.heap.push ({ cls := .type "tuple", data := .seq ([] : List Value).toArray } : Obj)) s.heap.objs.size (.tup []) := ⟨hz, [], .nil, ⟨_, Heap.get?_push_size _ rfl, rfl, _, rfl⟩⟩
    have un := StX.un_laid (fs := frs outer) (s := s) (o := ({ cls := .type "tuple", data := .seq ([] : List Value).toArray } : Obj)) (u := .tup []) hn
    exact h _ _ [v0, v1, V.ref s.heap.objs.size] [u0, u1, Value.ref s.heap.objs.size] (StX.env0_laid e0 new) un rfl (fun e s' => hCX outer s H _ _ E e s' un (fun b o q => Heap.get?_push_of_some _ q) rfl) (.cons r0 (.cons r1 (.cons rfl .nil))) rfl ⟨_, hn, rfl, rfl⟩
  · subst ex eH
    exact hbd A outer s2 _ _ Q E hr' (hq _ hp)
end
structure MakK1 (P : Program) (w : World) (K : PySem.W.Frag) (mg : Str → Option Value) (base : Heap) (k : Nat) (x : Str) (C : Addr) (kn : Str) (sp : Sp) : Prop where
  ex : ∃ f : Addr, Mk K C f ∧ FnK1 P w K mg base C8.CX0 k f kn sp ∧ mg x = some (.ref C)
def tMakeK1 (C : Addr) (sp : Sp) (E : XK) (tk : TA) : TE := fun σ H Q => tk σ H fun zs H2 => ∃ z, zs = [z] ∧ ∀ x dx, H2 x = none → H2 dx = none → dx ≠ x → sp [.ref x, z] (upd (upd H2 dx (.own x)) x (.ins C dx [])) (fun v H3 => v = .non ∧ Q (.ref x) H3) E
theorem pe_mkK1 {C : Addr} {sp : Sp} {x kn : Str} {p pos : Pos} {kws : List Keyword} {tk : TA} (c : MakK1 X.prog X.w X.K X.mg X.base k x C kn sp) (hr : Room j X.A) (hk : k + 1 ≤ j) (hg : Gl X x) (hkw : PK X kws tk)
    (hall : (backToKw pos (keywordEach kws X.env)).all (·.1.isSome) = true := by rfl) (hks : (backToKw pos (keywordEach kws X.env)).filterMap (·.1) = [kn] := by rfl) (hdb : (x == ("__debug__" : Str)) = false := by decide) (hpl : ((backTo pos (starEach [] X.env)).any (·.1) || (backToKw pos (keywordEach kws X.env)).any (·.1.isNone)) = false := by rfl) :
    PE X (.Call (.Name x p) [] kws pos) (tMakeK1 C sp C8.E0 tk) := by
  obtain ⟨f, M, F, hm⟩ := c.ex
  refine ⟨fun pins s σ H Q I h => ?_⟩; refine wpAny_Call_Name_kw (ld_glob I hg hm ?_ hdb)
  refine PySem.W.callWith_KW0 (h₀ := X.base) I.ok.mod.kin M.kp hall ?_ hpl; refine thn (hkw.run pos pins s σ H _ I h) fun ws s2 ⟨zs, H2, I2, rz, z, ez, h2⟩ => ⟨I2.kIn, ?_⟩
  rw [hks]
  subst ez
  obtain ⟨u, rfl, ru⟩ := vals1 rz
  have hq := h2 (s2.heap.objs.size + 1) s2.heap.objs.size (I2.hok.fresh (Nat.le_succ _)) (I2.hok.fresh (Nat.le_refl _)) (Nat.ne_of_lt (Nat.lt_succ_self _))
  have I3 := Inv.made (C := C) I2
  refine wpAny_call (make_map (f := f) I2.kIn M.makes M.init (beq_iff_eq.mp M.fn) (codeAny_mono (F _ X.stack _ _ (Value.ref (s2.heap.objs.size + 1)) u (.ref (s2.heap.objs.size + 1)) z _ C8.E0 ((hr.mono hk).make C [] [(kn, u)])
    (I3.env0.make C [] [(kn, u)]) rfl ru hq) fun r s' hq' => ?_))
  cases r with
  | error e => exact (C8.pass0 : Passes C8.CX0 X C8.E0) pins σ _ _ e s' I3 hq'
  | ok fl =>
    cases fl with
    | ret w =>
      obtain ⟨v, H', I4, rv, ev, q3⟩ := I3.after hq'
      subst ev
      exact ⟨rv, ⟨V.ref (s2.heap.objs.size + 1), H', I4, rfl, q3⟩⟩
    | next => exact hq'.elim
    | brk => exact hq'.elim
    | cont => exact hq'.elim
end

/-! Schema's == and repr. -/



mutual
def Lev.eqb : Lev → Lev → Bool
  | .mk fs ls, .mk gs ms => decide (fs = gs) && ls.eqb ms
def LevL.eqb : LevL → LevL → Bool
  | .nil, .nil => true
  | .nil, .cons _ _ _ => false
  | .cons _ _ _, .nil => false
  | .cons n l r, .cons m k s => decide (n = m) && (l.eqb k && r.eqb s)
end
mutual
theorem Lev.eqb_same : ∀ l : Lev, l.eqb l = true
  | .mk fs ls => by rw [Lev.eqb, LevL.eqb_same ls, decide_eq_true rfl]; rfl
theorem LevL.eqb_same : ∀ l : LevL, l.eqb l = true
  | .nil => by rw [LevL.eqb]
  | .cons n l r => by rw [LevL.eqb, Lev.eqb_same l, LevL.eqb_same r, decide_eq_true rfl]; rfl
end
mutual
theorem Lev.eqb_eq : ∀ l m : Lev, l.eqb m = true → l = m
  | .mk fs ls, .mk gs ms, h => by
    rw [Lev.eqb] at h
    have h := Bool.and_eq_true_iff.mp h
    rw [of_decide_eq_true h.1, LevL.eqb_eq ls ms h.2]
theorem LevL.eqb_eq : ∀ l m : LevL, l.eqb m = true → l = m
  | .nil, .nil, _ => rfl
  | .nil, .cons _ _ _, h => by rw [LevL.eqb] at h; cases h
  | .cons _ _ _, .nil, h => by rw [LevL.eqb] at h; cases h
  | .cons n l r, .cons m k s, h => by
    rw [LevL.eqb] at h
    have h := Bool.and_eq_true_iff.mp h
    have h2 := Bool.and_eq_true_iff.mp h.2
    rw [of_decide_eq_true h.1, Lev.eqb_eq l k h2.1, LevL.eqb_eq r s h2.2]
end
theorem Lev.eqb_ne {l m : Lev} (h : l ≠ m) : l.eqb m = false := by
  cases e : l.eqb m with
  | false => rfl
  | true => exact absurd (Lev.eqb_eq l m e) h
theorem strs_in {fs gs : List Str} (h : fs.map V.str = gs.map V.str) : fs = gs := by
  induction fs generalizing gs with
  | nil => cases gs with
    | nil => rfl
    | cons _ _ => cases h
  | cons f fs ih => cases gs with
    | nil => cases h
    | cons g gs =>
      have h := List.cons.inj h
      rw [V.str.inj h.1, ih h.2]
theorem refs_in {fs gs : List Addr} (h : fs.map V.ref = gs.map V.ref) : fs = gs := by
  induction fs generalizing gs with
  | nil => cases gs with
    | nil => rfl
    | cons _ _ => cases h
  | cons f fs ih => cases gs with
    | nil => cases h
    | cons g gs =>
      have h := List.cons.inj h
      rw [V.ref.inj h.1, ih h.2]
theorem str_eqv (a b : Str) : PyData.eqv (.str a) (.str b) = decide (a = b) := by
  rw [PyData.eqv]
  exact Bool.eq_iff_iff.mpr (by rw [beq_iff_eq, decide_eq_true_iff])
theorem strs_eqvA : ∀ fs gs : List Str, PyData.eqvAll (fs.map PyData.str) (gs.map PyData.str) = decide (fs = gs)
  | [], [] => by rw [List.map_nil, PyData.eqvAll, decide_eq_true rfl]
  | [], _ :: _ => by rw [List.map_nil, List.map_cons, PyData.eqvAll, decide_eq_false (by intro h; cases h)]
  | _ :: _, [] => by rw [List.map_nil, List.map_cons, PyData.eqvAll, decide_eq_false (by intro h; cases h)]
  | f :: fs, g :: gs => by
    rw [List.map_cons, List.map_cons, PyData.eqvAll, str_eqv, strs_eqvA fs gs, ← Bool.decide_and]; exact decide_eq_decide.mpr (by rw [List.cons.injEq])
theorem okStr {z : Str} (h : NameOk z) : PyData.strOk z = true := by
  have h1 := h.1
  unfold nameS at h1
  simp only [Bool.and_eq_true, decide_eq_true_eq] at h1; unfold PyData.strOk
  rw [← Array.all_toList]
  refine List.all_eq_true.mpr fun c hc => ?_
  have h2 := of_decide_eq_true (List.all_eq_true.mp h1.2.2.2 c hc)
  have h3 : ∀ c, c ∈ letters.cps.toList → decide (c < 1114112) = true := by decide +kernel
  exact h3 c h2
theorem strs_lay : ∀ fs : List Str, (∀ n, n ∈ fs → NameOk n) → PyData.canLayAll0 (fs.map PyData.str) = true
  | [], _ => rfl
  | f :: fs, h => by
    show (PyData.strOk f && PyData.canLayAll0 (fs.map PyData.str)) = true
    rw [strs_lay fs fun n hn => h n (List.mem_cons_of_mem _ hn), okStr (h f (List.mem_cons_self ..))]; rfl
theorem strs_dep : ∀ fs : List Str, PyData.depthAll (fs.map PyData.str) = 0
  | [] => rfl
  | f :: fs => by
    show max (PyData.depth (.str f)) (PyData.depthAll (fs.map PyData.str)) = 0
    rw [strs_dep fs]; rfl
theorem strs_shaped (fs : List Str) (h : ∀ n, n ∈ fs → NameOk n) : SeqAt.shaped (.tuple (fs.map PyData.str)) = true := by
  unfold SeqAt.shaped
  rw [show PyData.canLay0 (.tuple (fs.map PyData.str)) = PyData.canLayAll0 (fs.map PyData.str) from rfl, strs_lay fs h, show PyData.depth (.tuple (fs.map PyData.str)) = PyData.depthAll (fs.map PyData.str) + 1 from rfl, strs_dep]
  rfl
mutual
theorem Lev.canL : ∀ l : Lev, l.good → PyData.canLay0 l.dat = true
  | .mk fs ls, h => by
    rw [Lev.good] at h
    rw [Lev.dat]
    show (PyData.canLayAll0 (fs.map PyData.str) && (PyData.canLayAll0 ls.dats && true)) = true
    rw [strs_lay fs h.2.2.1, LevL.canL ls h.2.2.2.2.2]; rfl
theorem LevL.canL : ∀ r : LevL, r.good → PyData.canLayAll0 r.dats = true
  | .nil, _ => by rw [LevL.dats]; rfl
  | .cons n l r, h => by
    rw [LevL.good] at h
    rw [LevL.dats]
    show ((PyData.strOk n && (PyData.canLay0 l.dat && true)) && PyData.canLayAll0 r.dats) = true
    rw [Lev.canL l h.2.1, LevL.canL r h.2.2, okStr h.1]; rfl
end
mutual
theorem Lev.ddep : ∀ l : Lev, PyData.depth l.dat ≤ 3 * l.depth
  | .mk fs ls => by
    rw [Lev.dat, Lev.depth]
    show max (PyData.depthAll (fs.map PyData.str) + 1) (max (PyData.depthAll ls.dats + 1) 0) + 1 ≤ _
    have := LevL.ddep ls
    rw [strs_dep]
    omega
theorem LevL.ddep : ∀ r : LevL, PyData.depthAll r.dats ≤ 3 * r.depth + 1
  | .nil => by rw [LevL.dats]; exact Nat.zero_le _
  | .cons n l r => by
    rw [LevL.dats, LevL.depth]
    show max (max 0 (max (PyData.depth l.dat) 0) + 1) (PyData.depthAll r.dats) ≤ _
    have := Lev.ddep l
    have := LevL.ddep r
    omega
end
theorem lists_shaped (r : LevL) (g : r.good) (h : r.depth ≤ 9) : SeqAt.shaped (.list r.dats) = true := by
  have := LevL.ddep r
  unfold SeqAt.shaped
  rw [show PyData.canLay0 (.list r.dats) = PyData.canLayAll0 r.dats from rfl, LevL.canL r g, show PyData.depth (.list r.dats) = PyData.depthAll r.dats + 1 from rfl, decide_eq_true (by omega)]
  rfl
theorem lists_ne (r : LevL) : PyData.eqv (.list r.dats) (.list []) = r.names.isEmpty := by
  cases r with
  | nil => rw [LevL.dats, PyData.eqv, PyData.eqvAll, LevL.names]; rfl
  | cons n l r => rw [LevL.dats, PyData.eqv, PyData.eqvAll, LevL.names]; rfl
section
variable {K : PySem.W.Frag} {H : Hp}
theorem dpStrs : ∀ fs : List Str, DpAll K H (fs.map V.str) (fs.map PyData.str)
  | [] => .nil
  | f :: fs => .cons (.str f) (dpStrs fs)
mutual
/-- a place tells its level -/
theorem SchAt.uniq (U : Uniq K H) : ∀ {v : V} {l m : Lev}, SchAt K H v l → SchAt K H v m → l = m
  | _, _, _, .mk (x := x) (dx := dx) (tf := tf) (tl := tl) (fs := fs) (ls := ls) (ps := ps) ob hf hl h, .mk (dx := dx') (tf := tf') (tl := tl') (fs := gs) (ls := ms) (ps := qs) ob' hf' hl' h' => by
    have e := Option.some.inj (ob.symm.trans ob')
    have e3 : schF tf tl = schF tf' tl' := by injection e
    have ef : V.ref tf = V.ref tf' := Option.some.inj ((schF_f tf tl).symm.trans (by rw [e3]; exact schF_f tf' tl'))
    have el : V.ref tl = V.ref tl' := Option.some.inj ((schF_l tf tl).symm.trans (by rw [e3]; exact schF_l tf' tl'))
    obtain rfl := V.ref.inj ef
    obtain rfl := V.ref.inj el
    obtain rfl := strs_in (U _ _ _ hf.1 hf'.1)
    obtain rfl := refs_in (U _ _ _ hl hl')
    rw [SchAll.uniq U h h']
theorem SchAll.uniq (U : Uniq K H) : ∀ {ps : List Addr} {ls ms : LevL}, SchAll K H ps ls → SchAll K H ps ms → ls = ms
  | _, _, _, .nil, .nil => rfl
  | _, _, _, .cons hp hv r, .cons hp' hv' r' => by
    have e := List.cons.inj (U _ _ _ hp hp')
    have e2 := (List.cons.inj e.2).1
    subst e2
    rw [V.str.inj e.1, SchAt.uniq U hv hv', SchAll.uniq U r r']
end
end
/-- such types are no Schema; what Schema has not of its own -/
class KitN (K : PySem.W.Frag) : Prop where
  non : PySem.W.kitOne K (.type "NoneType") (.ref (cls_at K "Schema")) = some false
  str : PySem.W.kitOne K (.type "str") (.ref (cls_at K "Schema")) = some false
  ne : PySem.W.findIn K (.ref (cls_at K "Schema")) "__ne__" = some (some (.builtin "object.__ne__"))
  bo : PySem.W.findIn K (.ref (cls_at K "Schema")) "__bool__" = some none
  le : PySem.W.findIn K (.ref (cls_at K "Schema")) "__len__" = some none
section
variable {K : PySem.W.Frag} [SK : SchK K] [CK : Consts K] [KK : KitN K] {σ : L2.St} {G H : Hp} {L : List (Addr × HO)} {Q : VK} {D : Ends} {x dx tf tl : Addr} {te : TE}
/-- o == y: of a schema, a text, None -/
def sp_Schema_eq (K : PySem.W.Frag) (n : Nat) : Sp := fun vs H Q _ => ∃ (v x : V) (l : Lev), vs = [v, x] ∧ SchAt K H v l ∧ l.depth ≤ n ∧ l.good ∧ ((∃ m : Lev, SchAt K H x m ∧ m.good ∧ Q (.bl (l.eqb m)) H) ∨ (x = .non ∨ ∃ z, x = .str z) ∧ Q (.bl false) H)
theorem never_Schema_eq (K : PySem.W.Frag) : ∀ vs H Q E, sp_Schema_eq K 0 vs H Q E → False := fun vs H Q E ⟨v, x, l, _, _, h, _⟩ => by
  have := l.depth_pos
  omega
def t_Schema_eq (K : PySem.W.Frag) (n : Nat) : TS :=
  (tRet (tAndV (tCB (gIsi K) (tCons (tVar 1) (tCons (tC (.ref (cls_at K "Schema"))) tNil))) (tAndV (tOp (gEq K) (tFld K (tVar 0) "fields") (tFld K (tVar 1) "fields")) (tOp (rEqP K (cls_at K "Schema") (sp_Schema_eq K n)) (tFld K (tVar 0) "_lists") (tFld K (tVar 1) "_lists")))))
theorem rd_isCN {z : V} (h : z = .non ∨ ∃ t, z = .str t) (q : Q (.bl false) H) : gIsi K [z, .ref (cls_at K "Schema")] H Q := by
  rcases h with rfl | ⟨t, rfl⟩
  · exact .inl ⟨_, _, .type "NoneType", .ref _, false, rfl, .own _, Dp.ty (H := H) .non, KK.non, q⟩
  · exact .inl ⟨_, _, .type "str", .ref _, false, rfl, .own _, Dp.ty (H := H) (.str t), KK.str, q⟩
theorem dfl_str (a b : Str) : DFl (.str a) (.str b) H (decide (a = b)) := ⟨rfl, rfl, eqV_str a b⟩
theorem sch_refs {v : V} {l : Lev} (h : SchAt K H v l) : ∃ p dx fs, v = .ref p ∧ H p = some (.ins (cls_at K "Schema") dx fs) := by
  cases h with
  | mk ob _ _ _ => exact ⟨_, _, _, rfl, ob⟩
/-- the lists, pair by pair -/
theorem lists_eq {n : Nat} : ∀ {ps qs : List Addr} {ls ms : LevL}, SchAll K H ps ls → SchAll K H qs ms → ls.depth ≤ n → ls.good → ms.good → PrsB (DTp K (DIt K (cls_at K "Schema") (sp_Schema_eq K n))) (ps.map V.ref) (qs.map V.ref) H (ls.eqb ms)
  | _, _, _, _, .nil, .nil, _, _, _ => by rw [LevL.eqb]; rfl
  | _, _, _, _, .nil, .cons _ _ _, _, _, _ => by rw [LevL.eqb]; rfl
  | _, _, _, _, .cons _ _ _, .nil, _, _, _ => by rw [LevL.eqb]; rfl
  | _, _, _, _, .cons (p := p) (n := z) (v := v) (l := l) (ls := r) hp hv hr, .cons (p := q) (n := y) (v := w) (l := k) (ls := s) hp' hv' hr', hd, g1, g2 => by
    rw [LevL.depth] at hd
    rw [LevL.good] at g1 g2
    have ih := lists_eq hr hr' (Nat.le_trans (Nat.le_max_right _ _) hd) g1.2.2 g2.2.2
    have one : DTp K (DIt K (cls_at K "Schema") (sp_Schema_eq K n)) (.ref p) (.ref q) H (decide (z = y) && l.eqb k) := by
      obtain ⟨a, da, fa, rfl, oa⟩ := sch_refs hv
      obtain ⟨b, db, fb, rfl, ob⟩ := sch_refs hv'
      refine ⟨p, q, _, _, rfl, rfl, hp, hp', ?_, fun e U => ?_⟩
      · by_cases c : z = y
        · refine .inl ⟨.inl (by have := dfl_str (H := H) z y; rwa [decide_eq_true c] at this), ?_⟩
          have it : DOw K (cls_at K "Schema") (sp_Schema_eq K n) (.ref a) (.ref b) H (l.eqb k) := ⟨a, b, _, _, _, _, rfl, rfl, oa, ob, ⟨_, _, l, rfl, hv, Nat.le_trans (Nat.le_max_left _ _) hd, g1.2.1, .inl ⟨k, hv', g2.2.1, rfl, rfl⟩⟩, fun e U => by
            subst e
            rw [SchAt.uniq U hv hv']
            exact Lev.eqb_same k⟩
          rw [decide_eq_true c, Bool.true_and]
          cases e : l.eqb k with
          | true => rw [e] at it; exact .inl ⟨.inr it, rfl⟩
          | false => rw [e] at it; exact .inr ⟨.inr it, rfl⟩
        · refine .inr ⟨.inl (by have := dfl_str (H := H) z y; rwa [decide_eq_false c] at this), ?_⟩
          rw [decide_eq_false c, Bool.false_and]
      · subst e
        have e := List.cons.inj (U _ _ _ hp hp')
        have e2 := (List.cons.inj e.2).1
        have e3 := V.ref.inj e2
        subst e3
        rw [V.str.inj e.1, SchAt.uniq U hv hv', Lev.eqb_same k, decide_eq_true rfl]
        rfl
    rw [LevL.eqb, ← Bool.and_assoc]
    cases e : (decide (z = y) && l.eqb k) with
    | true =>
      rw [e] at one
      rw [Bool.true_and]
      exact .inl ⟨one, ih⟩
    | false =>
      rw [e] at one
      exact .inr ⟨one, rfl⟩
theorem sat_Schema_eq {n : Nat} {vs : List V} {E : XK} (h : sp_Schema_eq K (n + 1) vs H Q E) : vs.length = 2 ∧ t_Schema_eq K n { nx := fun _ H' => Q .non H', rt := Q } (vs.map some ++ List.replicate (2 - vs.length) none) H := by
  obtain ⟨v, x, l, rfl, hv, hd, gd, h⟩ := h
  refine ⟨rfl, ?_⟩
  unfold t_Schema_eq
  walk_at "gs"
  rcases h with ⟨m, hm, gm, q⟩ | ⟨no, q⟩
  · cases hv with
    | @mk a da tf tl fs ls ps ob hf hl hA =>
    cases hm with
    | @mk b db tg tm gs ms qs ob' hg hm hB =>
    rw [Lev.depth] at hd
    rw [Lev.good] at gd gm
    refine rd_isC SK.ins ob' ?_
    walk_at "gs"
    refine rd_Sfields ob ?_
    walk_at "gs"
    refine rd_Sfields ob' ?_
    refine rd_eqD (d := .tuple (fs.map PyData.str)) (e := .tuple (gs.map PyData.str)) (.tup hf.1 (dpStrs fs)) (.tup hg.1 (dpStrs gs)) (strs_shaped fs gd.2.2.1) (strs_shaped gs gm.2.2.1) ?_
    rw [PyData.eqv, strs_eqvA]
    rw [Lev.eqb] at q
    by_cases c : fs = gs
    · rw [decide_eq_true c] at q ⊢
      walk_at "gs"
      refine rd_Slists ob ?_
      walk_at "gs"
      refine rd_Slists ob' ?_
      refine ⟨ls.eqb ms, ⟨tl, tm, _, _, rfl, rfl, hl, hm, lists_eq hA hB (by omega) gd.2.2.2.2.2 gm.2.2.2.2.2, fun e U => ?_⟩, q⟩
      subst e
      obtain rfl := refs_in (U _ _ _ hl hm)
      rw [SchAll.uniq U hA hB]
      exact LevL.eqb_same _
    · rw [decide_eq_false c] at q ⊢
      walk_at "gs"
      exact q
  · refine rd_isCN no ?_
    walk_at "gs"
    exact q
/-! ### repr -/
def sp_Schema_repr (K : PySem.W.Frag) : Sp := fun vs H Q _ => ∃ (v : V) (l : Lev) (G : Hp) (L : List (Addr × HO)), vs = [v] ∧ Stt G H L ∧ SchAt K G v l ∧ l.depth ≤ 9 ∧ l.good ∧ ∀ H', Stt G H' L → Q (.str (("Schema(" : Str) ++ SX.S l.tx ++ (")" : Str))) H'
def t_Schema_repr (K : PySem.W.Frag) : TS :=
  (tRet (tFs [(tC (.str "Schema(")), (tFmt (tMeth (cls_at K "Schema") "text" (sp_Schema_text K 9) [] E0 (tVar 0) tNil)), (tC (.str ")"))]))
theorem sat_Schema_repr {vs : List V} {E : XK} (h : sp_Schema_repr K vs H Q E) : vs.length = 1 ∧ t_Schema_repr K { nx := fun _ H' => Q .non H', rt := Q } (vs.map some ++ List.replicate (1 - vs.length) none) H := by
  obtain ⟨v, l, G, L, rfl, S, hv, h9, gd, q⟩ := h
  refine ⟨rfl, ?_⟩
  unfold t_Schema_repr
  have small := Lev.tx_small gd h9
  have sz : ∀ n : Nat, n < 90000 → n ≤ sizeLine := fun n h => sz_of (by omega)
  have k1 : ("Schema(" : Str).length = 7 := rfl
  have k2 : (")" : Str).length = 1 := rfl
  have k0 : ("" : Str) ++ ("Schema(" : Str) = ("Schema(" : Str) := by decide +kernel
  refine rd_js ?_
  walk_at "gs"
  refine ⟨"Schema(", rfl, by show (("" : Str) ++ ("Schema(" : Str)).length ≤ _; rw [k0, k1]; exact sz _ (by omega), ?_⟩
  show tJs _ (("" : Str) ++ ("Schema(" : Str)) _ _ _
  rw [k0]
  refine rd_js (rd_fmt ?_)
  walk_at "gs"
  cases hv with
  | @mk x2 dx2 tf2 tl2 fs2 ls2 ps2 ob2 hf2 hl3 hA2 =>
  refine ⟨x2, _, _, rfl, S.ex _ _ ob2, schF_no _ _ (by decide +kernel) (by decide +kernel), ?_⟩
  walk_at "gs"
  refine ⟨_, _, G, _, rfl, S, SchAt.mk ob2 hf2 hl3 hA2, by omega, by omega, gd, fun H3 S3 => ?_⟩
  refine .inl ⟨_, rfl, by rw [len_S]; exact sz _ (by omega), _, rfl, ?_, ?_⟩
  · rw [len_add, len_S (Lev.mk fs2 ls2).tx, k1]
    exact sz _ (by omega)
  refine rd_js ?_
  walk_at "gs"
  refine ⟨")", rfl, ?_, rd_js0 (q H3 S3)⟩
  rw [len_add, len_add, len_S (Lev.mk fs2 ls2).tx, k1, k2]
  exact sz _ (by omega)
end

/-! The numbers of a tree at a path. -/



def ninC (ns : List Str) (f : Str) : List PyData → List Int
  | [.str x, .int i] => if ns = [] ∧ x = f then [i] else []
  | _ => []
def ninA (g : List Str → PyData → List Int) (ns : List Str) : List PyData → List Int
  | [.str z, t] => if ns.take 1 = [z] then g (ns.drop 1) t else []
  | _ => []
def ninW (g : List Str → PyData → List Int) (ns : List Str) (f w : Str) (r : List PyData) : List Int :=
  if w ∈ cmps then ninC ns f r else if w = "any" then ninA g ns r else (kids w r).flatMap (g ns)
/-- the numbers that a tree names at the field f, the lists ns deep -/
def nin : Nat → Str → List Str → PyData → List Int
  | n + 1, f, ns, .tuple (.str w :: r) => ninW (nin n f) ns f w r
  | _, _, _, _ => []
section
variable {g : List Str → PyData → List Int} {ns : List Str} {f w : Str} {r : List PyData}
theorem nw_cmp {x : Str} {i : Int} (h : w ∈ cmps) : ninW g ns f w [.str x, .int i] = if ns = [] ∧ x = f then [i] else [] := if_pos h
theorem nw_any {z : Str} {t : PyData} : ninW g ns f "any" [.str z, t] = if ns.take 1 = [z] then g (ns.drop 1) t else [] := by
  unfold ninW
  rw [if_neg (by decide +kernel), if_pos rfl]
  rfl
theorem nw_kids (h : w = "not" ∨ w = "lacks" ∨ w ∈ joins) : ninW g ns f w r = (kids w r).flatMap (g ns) := by
  have n : ∀ w ∈ (["not", "lacks", "and", "or"] : List Str), w ∉ cmps ∧ ¬ w = "any" := by decide +kernel
  have hm : w ∈ (["not", "lacks", "and", "or"] : List Str) := by
    rcases h with rfl | rfl | h
    · exact List.mem_cons_self ..
    · exact List.mem_cons_of_mem _ (List.mem_cons_self ..)
    · exact List.mem_cons_of_mem _ (List.mem_cons_of_mem _ h)
  obtain ⟨h1, h2⟩ := n w hm
  unfold ninW
  rw [if_neg h1, if_neg h2]
end
theorem flat_len {g : PyData → List Int} {X : Nat} : ∀ {es : List PyData}, (∀ e, e ∈ es → (g e).length ≤ X) → (es.flatMap g).length ≤ es.length * X
  | [], _ => Nat.zero_le _
  | e :: es, h => by
    have a := h e (List.mem_cons_self ..)
    have b := flat_len (es := es) fun x hx => h x (List.mem_cons_of_mem _ hx)
    rw [List.flatMap_cons, List.length_append, List.length_cons, Nat.succ_mul]
    omega
theorem kids_mem {w : Str} {r : List PyData} {e : PyData} (h : e ∈ kids w r) : e ∈ r := by
  unfold kids at h
  split at h
  · exact List.mem_of_mem_drop h
  · split at h
    · exact h
    · cases h
theorem kids_len (w : Str) (r : List PyData) : (kids w r).length ≤ r.length := by
  unfold kids
  split
  · rw [List.length_drop]; omega
  · split
    · exact Nat.le_refl _
    · exact Nat.zero_le _
theorem nin_len {m : Nat} {f : Str} : ∀ (N : Nat) (l : Lev) (d : PyData) (k : Nat) (ns : List Str), treeB N l d = true → box m k d → (nin N f ns d).length ≤ m ^ k
  | 0, _, d, k, ns, hT, _ => by cases d <;> cases hT
  | N + 1, l, d, k, ns, hT, hb => by
    obtain ⟨M, w, r, e, rfl, tr⟩ := tree_inv hT
    obtain rfl := Nat.succ.inj e
    obtain ⟨k, rfl, hbe⟩ := box_in hb
    have hbl := box_len hb
    rw [List.length_cons] at hbl
    have hbr : ∀ e, e ∈ r → box m k e := fun e he => hbe e (List.mem_cons_of_mem _ he)
    have p1 : 1 ≤ m ^ k := Nat.pow_pos (by omega)
    have p2 : m ^ k ≤ m ^ (k + 1) := Nat.pow_le_pow_right (by omega) (Nat.le_succ k)
    show (ninW (nin N f) ns f w r).length ≤ m ^ (k + 1)
    have many : (w = "not" ∨ w = "lacks" ∨ w ∈ joins) → (∀ x, x ∈ kids w r → treeB N l x = true) → (ninW (nin N f) ns f w r).length ≤ m ^ (k + 1) := fun hw hj => by
      rw [nw_kids hw]
      have a := flat_len (es := kids w r) (X := m ^ k) (g := nin N f ns) fun e he => nin_len N l e k ns (hj e he) (hbr e (kids_mem he))
      have b := kids_len w r
      have c : (kids w r).length * m ^ k ≤ m * m ^ k := Nat.mul_le_mul_right _ (by omega)
      rw [Nat.pow_succ, Nat.mul_comm]
      omega
    cases tr with
    | @cmp _ x i hw hf =>
      rw [nw_cmp hw]
      split
      · show 1 ≤ _; omega
      · exact Nat.zero_le _
    | @lacks x hf => exact many (.inr (.inl rfl)) fun x hx => by rw [kids_no (.inr rfl)] at hx; cases hx
    | @not x hx => exact many (.inl rfl) fun y hy => by rw [kids_not] at hy; rw [List.mem_singleton.mp hy]; exact hx
    | join hw hj => exact many (.inr (.inr hw)) fun y hy => by rw [kids_join hw] at hy; exact hj y hy
    | @any z x k2 hs hx =>
      rw [nw_any]
      split
      · have := nin_len (f := f) N k2 x k (ns.drop 1) hx (hbr x (by simp))
        omega
      · exact Nat.zero_le _
/-- texts that may be compared -/
def okS (ns : List Str) : Prop := ∀ z, z ∈ ns → PyData.strOk z = true
theorem okS_shaped : ∀ {ns : List Str}, okS ns → SeqAt.shaped (.list (ns.map PyData.str)) = true := fun {ns} h => by
  have lay : ∀ ns : List Str, okS ns → PyData.canLayAll0 (ns.map PyData.str) = true := fun ns => by
    induction ns with
    | nil => intro _; rfl
    | cons z r ih =>
      intro h
      show (PyData.strOk z && PyData.canLayAll0 (r.map PyData.str)) = true
      rw [h z (List.mem_cons_self ..), ih fun y hy => h y (List.mem_cons_of_mem _ hy)]; rfl
  unfold SeqAt.shaped
  rw [show PyData.canLay0 (.list (ns.map PyData.str)) = PyData.canLayAll0 (ns.map PyData.str) from rfl, lay ns h, show PyData.depth (.list (ns.map PyData.str)) = PyData.depthAll (ns.map PyData.str) + 1 from rfl, strs_dep]
  rfl
theorem names_eqv (a b : List Str) : PyData.eqv (.list (a.map PyData.str)) (.list (b.map PyData.str)) = decide (a = b) := by
  rw [PyData.eqv, strs_eqvA]
section
variable {K : PySem.W.Frag} {σ : L2.St} {G H : Hp} {L : List (Addr × HO)} {Q : VK} {D : Ends} [SK : SchK K] [CC : ConstsC K] [CJ : ConstsJ K] {ns : List Str} {f : Str}
/-- x == y, of lists of texts -/
theorem rd_eqNs {a c : Addr} {xs ys : List Str} (ha : SqL K H a (xs.map V.str)) (hc : SqL K H c (ys.map V.str)) (h1 : okS xs) (h2 : okS ys) (q : Q (.bl (decide (xs = ys))) H) : gEq K (.ref a) (.ref c) H Q :=
  rd_eqD (d := .list (xs.map PyData.str)) (e := .list (ys.map PyData.str)) (.lst ha (dpStrs xs)) (.lst hc (dpStrs ys)) (okS_shaped h1) (okS_shaped h2) (by rw [names_eqv]; exact q)
def sp_numbers_in (K : PySem.W.Frag) (n : Nat) : Sp := fun vs H Q _ => ∃ (v : V) (p : Addr) (ns : List Str) (f : Str) (d : PyData) (l : Lev) (N m k : Nat) (G : Hp) (L : List (Addr × HO)), vs = [v, .ref p, .str f] ∧ Stt G H L ∧ Dp K G v d ∧ SqL K G p (ns.map V.str) ∧ okS ns ∧ ns.length ≤ 10000 ∧ treeB N l d = true ∧ box m k d ∧ k < n ∧ m ≤ 1000 ∧ m ^ k ≤ 50000 ∧
  ∀ (a : Addr) (G' H' : Hp), Ex G G' → Stt G' H' L → G' a = some (.lst ((nin N f ns d).map V.int)) → Q (.ref a) H'
theorem never_numbers_in (K : PySem.W.Frag) : ∀ vs H Q E, sp_numbers_in K 0 vs H Q E → False := fun vs H Q E ⟨_, _, _, _, _, _, _, _, _, _, _, _, _, _, _, _, _, _, _, h, _⟩ => by omega
def t_numbers_in_3b (K : PySem.W.Frag) (n : Nat) : TS :=
  (tAsg (tOp (gAdd K) (tVar 4) (tCall (sp_numbers_in K n) [] E0 (tCons (tVar 5) (tCons (tVar 1) (tCons (tVar 2) tNil))))) (gName 4))
def t_numbers_in_4 (K : PySem.W.Frag) (n : Nat) : TS :=
  (tRet (tVar 4))
def t_numbers_in_3 (K : PySem.W.Frag) (n : Nat) : TS :=
  (tSeq (tFor (iList K (tCall (sp_inner_trees K) [] E0 (tCons (tVar 0) tNil))) (gName 5) (t_numbers_in_3b K n))
  (t_numbers_in_4 K n))
def t_numbers_in_2 (K : PySem.W.Frag) (n : Nat) : TS :=
  (tSeq (tIfS (tTest (tOp (gEq K) (tVar 3) (tC (.str "any")))) (tRet (tIf (tTest (tOp (gEq K) (tSl (gSl K) (tVar 1) tNoPart (tPart (tC (.int 1)))) (tLst (tCons (tOp (rIx K) (tVar 0) (tC (.int 1))) tNil)))) (tCall (sp_numbers_in K n) [] E0 (tCons (tOp (rIx K) (tVar 0) (tC (.int 2))) (tCons (tSl (gSl K) (tVar 1) (tPart (tC (.int 1))) tNoPart) (tCons (tVar 2) tNil)))) (tLst tNil))) tNext)
  (t_numbers_in_3 K n))
def t_numbers_in_1 (K : PySem.W.Frag) (n : Nat) : TS :=
  (tSeq (tIfS (tTest (tOp (gIn K) (tVar 3) (tC (v_COMPARED K)))) (tRet (tIf (tAnd (tTest (tOp (gEq K) (tVar 1) (tLst tNil))) (tTest (tOp (gEq K) (tOp (rIx K) (tVar 0) (tC (.int 1))) (tVar 2)))) (tLst (tCons (tOp (rIx K) (tVar 0) (tC (.int 2))) tNil)) (tLst tNil))) tNext)
  (t_numbers_in_2 K n))
def t_numbers_in (K : PySem.W.Frag) (n : Nat) : TS :=
  (tSeq (tPar 3 4 (tCons (tOp (rIx K) (tVar 0) (tC (.int 0))) (tCons (tLst tNil) tNil)))
  (t_numbers_in_1 K n))
theorem sat_numbers_in {n : Nat} {vs : List V} {E : XK} (h : sp_numbers_in K (n + 1) vs H Q E) : vs.length = 3 ∧ t_numbers_in K n { nx := fun _ H' => Q .non H', rt := Q } (vs.map some ++ List.replicate (6 - vs.length) none) H := by
  obtain ⟨v, p, ns, f, d, l, N, m, k, G, L, rfl, S, hx, hp, ok, hl, hT, hb, hk, hm, hz, q⟩ := h
  refine ⟨rfl, ?_⟩
  obtain ⟨ca, hca, hcs⟩ := CC.h
  obtain ⟨M, w, r, rfl, rfl, tr⟩ := tree_inv hT
  obtain ⟨k, rfl, hbe⟩ := box_in hb
  have hbl := box_len hb
  rw [List.length_cons] at hbl
  have hx0 := hx
  cases hx with
  | @tup xa xs _ hxs hxa =>
  cases hxa with
  | @cons a bs _ _ ha hbs =>
  cases ha
  have q : ∀ (a : Addr) (G' H' : Hp), Ex G G' → Stt G' H' L → G' a = some (.lst ((ninW (nin M f) ns f w r).map V.int)) → Q (.ref a) H' := q
  have hbr : ∀ e, e ∈ r → box m k e := fun e he => hbe e (List.mem_cons_of_mem _ he)
  have hxs1 := ex_t S.ex hxs
  have p2 : m ^ k ≤ m ^ (k + 1) := Nat.pow_le_pow_right (by omega) (Nat.le_succ k)
  unfold t_numbers_in
  refine rd_seq (rd_par (rd_cons (rd_op (rd_var rfl (rd_c (rd_ixT hxs1 at0 (rd_cons (rd_lst (rd_nil ?_)))))))))
  refine mk_lst stt_world S (Nat.zero_le _) fun f0 G1 e1 S1 h1 => rd_nil (rd_two ?_)
  show t_numbers_in_1 K n _ [some (.ref xa), some (.ref p), some (.str f), some (.str w), some (.ref f0), none] _
  have hx1 : ∀ {G' H'}, Ex G G' → Stt G' H' L → SqT K H' xa (.str w :: bs) := fun e S => ex_t (e.trans S.ex) hxs
  unfold t_numbers_in_1
  rw [hca]
  refine rd_seq (rd_ifs (rd_test (rd_op (rd_var rfl (rd_c (rd_inTs (us := cmps) (hcs _) (rd_bl ?_)))))))
  have tr0 := tr
  have loop : (w = "not" ∨ w = "lacks" ∨ w ∈ joins) → ∀ A : Prop, if decide (w ∈ cmps) = true then A else tNext { nx := t_numbers_in_2 K n { nx := fun _ H' => Q .non H', rt := Q }, rt := Q } [some (.ref xa), some (.ref p), some (.str f), some (.str w), some (.ref f0), none] (upd H f0 (.lst [])) := fun hw A => by
    have no : ∀ w ∈ (["not", "lacks", "and", "or"] : List Str), w ∉ cmps ∧ ¬ w = "any" := by decide +kernel
    have hm4 : w ∈ (["not", "lacks", "and", "or"] : List Str) := by
      rcases hw with rfl | rfl | h
      · exact List.mem_cons_self ..
      · exact List.mem_cons_of_mem _ (List.mem_cons_self ..)
      · exact List.mem_cons_of_mem _ (List.mem_cons_of_mem _ h)
    obtain ⟨n1, n2⟩ := no w hm4
    rw [nw_kids hw] at q
    rw [decide_eq_false n1]
    refine rd_iF (rd_next ?_)
    show t_numbers_in_2 K n _ [some (.ref xa), some (.ref p), some (.str f), some (.str w), some (.ref f0), none] _
    unfold t_numbers_in_2
    refine rd_seq (rd_ifs (rd_test (rd_op (rd_var rfl (rd_c (rd_eqS (rd_bl ?_)))))))
    rw [decide_eq_false n2]
    refine rd_iF (rd_next ?_)
    show t_numbers_in_3 K n _ [some (.ref xa), some (.ref p), some (.str f), some (.str w), some (.ref f0), none] _
    unfold t_numbers_in_3
    refine rd_seq (rd_for (rd_il (rd_call (rd_cons (rd_var rfl (rd_nil ?_))))))
    refine ⟨.ref xa, w, r, l, M, m, k, G1, _, rfl, S1, Dp.ex e1 _ _ hx0, tr0, hbr, by omega, hm, fun a us es G2 H2 e2 S2 ha hus hkd hel hes => ?_⟩
    have hul := DpAll.length hus
    have e12 := e1.trans e2
    rw [← hkd] at q
    have small : ∀ i, ((es.take i).flatMap (nin M f ns)).length ≤ 50000 := fun i => by
      have h1 := flat_len (es := es.take i) (X := m ^ k) (g := nin M f ns) fun e he => by
        obtain ⟨hbx, l', hl'⟩ := hes e (List.mem_of_mem_take he)
        exact nin_len M l' e k ns hl' hbx
      have h2 : (es.take i).length ≤ m := by rw [List.length_take]; omega
      have h3 : (es.take i).length * m ^ k ≤ m * m ^ k := Nat.mul_le_mul_right _ h2
      have h4 : m ^ (k + 1) = m * m ^ k := by rw [Nat.pow_succ, Nat.mul_comm]
      omega
    refine ⟨a, rfl, ⟨_, ex_l S2.ex ha⟩, ?_⟩
    refine for_go (walk_list (K := K) (a := a) (xs := us)) (G := G2)
      (fun i σ1 G3 H3 => ∃ (x5 : Option V) (fa : Addr), σ1 = [some (.ref xa), some (.ref p), some (.str f), some (.str w), some (.ref fa), x5] ∧ Ex G2 G3 ∧ Stt G3 H3 L ∧ G3 fa = some (.lst (((es.take i).flatMap (nin M f ns)).map V.int)))
      ⟨_, f0, rfl, Ex.refl _, S2, e2 _ _ h1⟩ (fun i σ1 G3 H3 _ ⟨_, _, _, e3, S3, _⟩ => ex_l (e3.trans S3.ex) ha) ?_ ?_
    · rintro i y σ1 G3 H3 H4 hi ⟨x5, fa, rfl, e3, S3, hf⟩ y N hN
      obtain ⟨rfl, hy⟩ := y
      obtain ⟨e, he, dp⟩ := DpAll.get hus hy
      obtain ⟨hbx, l', hl'⟩ := hes e (List.mem_of_getElem? he)
      refine rd_name ?_
      unfold t_numbers_in_3b
      refine rd_asg (rd_op (rd_var rfl (rd_call (rd_cons (rd_var rfl (rd_cons (rd_var rfl (rd_cons (rd_var rfl (rd_nil ?_))))))))))
      refine ⟨_, p, ns, f, e, l', M, m, k, G3, _, rfl, S3, Dp.ex e3 _ _ dp, ex_l (e12.trans e3) hp, ok, hl, hl', hbx, by omega, hm, by omega, fun b G4 H4 e4 S4 h4 => ?_⟩
      have c1 := small i
      have c2 := nin_len (f := f) M l' e k ns hl' hbx
      refine rd_addL (S4.ex _ _ (e4 _ _ hf)) (S4.ex _ _ h4) (sz_of (by rw [List.length_map, List.length_map]; omega)) ?_
      refine mk_im (o := .lst (((es.take i).flatMap (nin M f ns)).map V.int ++ (nin M f ns e).map V.int)) stt_world S4 fun p3 G5 e5 S5 h5 => ?_
      refine rd_name (hN _ G5 _ ⟨_, p3, rfl, e3.trans (e4.trans e5), S5, ?_⟩)
      rw [List.take_add_one, he, List.flatMap_append, List.map_append]
      show _ = some (HO.lst (_ ++ ((nin M f ns e) ++ []).map V.int))
      rw [List.append_nil]
      exact h5
    · rintro σ1 G3 H3 ⟨x5, fa, rfl, e3, S3, hf⟩
      rw [hul, List.take_length] at hf
      show t_numbers_in_4 K n _ _ _
      unfold t_numbers_in_4
      exact rd_ret (rd_var rfl (q fa G3 H3 (e12.trans e3) S3 hf))
  cases tr with
  | @lacks x hf => exact loop (.inr (.inl rfl)) _
  | @not x hx => exact loop (.inl rfl) _
  | @join _ _ hw hj => exact loop (.inr (.inr hw)) _
  | @cmp _ x i hw hf =>
    clear loop
    cases hbs with
    | @cons b1 _ _ _ hb1 hbs =>
    cases hbs with
    | @cons b2 _ _ _ hb2 hbs =>
    cases hbs
    cases hb1
    cases hb2
    rw [decide_eq_true hw]
    refine rd_iT (rd_ret (rd_if (rd_and (rd_test (rd_op (rd_var rfl (rd_lst (rd_nil ?_))))))))
    refine mk_lst stt_world S1 (Nat.zero_le _) fun p2 G2 e2 S2 h2 => ?_
    have e12 := e1.trans e2
    have nil_ : ¬ (ns = [] ∧ x = f) → tLst tNil [some (.ref xa), some (.ref p), some (.str f), some (.str w), some (.ref f0), none] (upd (upd H f0 (.lst [])) p2 (.lst [])) Q := fun c => by
      refine rd_lst (rd_nil (mk_lst stt_world S2 (Nat.zero_le _) fun p3 G3 e3 S3 h3 => q p3 G3 _ (e12.trans e3) S3 ?_))
      rw [nw_cmp hw, if_neg c]
      exact h3
    refine rd_eqNs (xs := ns) (ys := []) (ex_l (e12.trans S2.ex) hp) (ex_l S2.ex (sq_of h2)) ok (fun _ h => nomatch h) (rd_bl ?_)
    by_cases c : ns = []
    · rw [decide_eq_true c]
      refine rd_iT (rd_test (rd_op (rd_op (rd_var rfl (rd_c (rd_ixT (hx1 e12 S2) at1 (rd_var rfl (rd_eqS (rd_bl ?_)))))))))
      by_cases c2 : x = f
      · rw [decide_eq_true c2]
        refine rd_iT (rd_lst (rd_cons (rd_op (rd_var rfl (rd_c (rd_ixT (hx1 e12 S2) at2 (rd_nil ?_)))))))
        refine mk_lst stt_world S2 (by show 1 ≤ 100000; decide) fun p3 G3 e3 S3 h3 => q p3 G3 _ (e12.trans e3) S3 ?_
        rw [nw_cmp hw, if_pos ⟨c, c2⟩]
        exact h3
      · rw [decide_eq_false c2]
        exact rd_iF (nil_ fun z => c2 z.2)
    · rw [decide_eq_false c]
      exact rd_iF (rd_iF (nil_ fun z => c z.1))
  | @any z x1 k2 hs hx2 =>
    clear loop
    cases hbs with
    | @cons b1 _ _ _ hb1 hbs =>
    cases hbs with
    | @cons b2 _ _ _ hb2 hbs =>
    cases hbs
    cases hb1
    have okz : okS [z] := fun y hy => by
      rw [List.mem_singleton.mp hy]
      have := hbr (.str z) (by simp)
      cases k with
      | zero => exact this.2
      | succ k => exact this.2
    rw [decide_eq_false (by decide +kernel)]
    refine rd_iF (rd_next ?_)
    show t_numbers_in_2 K n _ [some (.ref xa), some (.ref p), some (.str f), some (.str "any"), some (.ref f0), none] _
    unfold t_numbers_in_2
    refine rd_seq (rd_ifs (rd_test (rd_op (rd_var rfl (rd_c (rd_eqS (rd_bl ?_)))))))
    rw [decide_eq_true rfl]
    refine rd_iT (rd_ret (rd_if (rd_test (rd_op (rd_sl (rd_var rfl (rd_noPart (rd_part (rd_c ⟨1, rfl, rd_slL (ex_l (e1.trans S1.ex) hp) ?_⟩)))))))))
    refine mk_im (o := .lst (cutV (ns.map V.str) none (some 1))) stt_world S1 fun p2 G2 e2 S2 h2 => rd_lst (rd_cons (rd_op (rd_var rfl (rd_c (rd_ixT (hx1 (e1.trans e2) S2) at1 (rd_nil ?_))))))
    rw [show (1 : Int) = ((1 : Nat) : Int) from rfl, cutV_to, ← List.map_take] at h2
    refine mk_lst stt_world S2 (by show 1 ≤ 100000; decide) fun p3 G3 e3 S3 h3 => ?_
    have e13 := e1.trans (e2.trans e3)
    refine rd_eqNs (xs := ns.take 1) (ys := [z]) (ex_l (e3.trans S3.ex) (sq_of h2)) (ex_l S3.ex (sq_of h3)) (fun y hy => ok y (List.mem_of_mem_take hy)) okz (rd_bl ?_)
    by_cases c : ns.take 1 = [z]
    · rw [decide_eq_true c]
      refine rd_iT (rd_call (rd_cons (rd_op (rd_var rfl (rd_c (rd_ixT (hx1 e13 S3) at2 (rd_cons (rd_sl (rd_var rfl (rd_part (rd_c ⟨1, rfl, rd_noPart (rd_slL (ex_l (e13.trans S3.ex) hp) ?_)⟩)))))))))))
      refine mk_im (o := .lst (cutV (ns.map V.str) (some 1) none)) stt_world S3 fun p4 G4 e4 S4 h4 => rd_cons (rd_var rfl (rd_nil ?_))
      rw [show (1 : Int) = ((1 : Nat) : Int) from rfl, cutV_from, ← List.map_drop] at h4
      have e14 := e13.trans e4
      refine ⟨b2, p4, ns.drop 1, f, x1, k2, M, m, k, G4, _, rfl, S4, Dp.ex e14 _ _ hb2, sq_of h4, fun y hy => ok y (List.mem_of_mem_drop hy), by rw [List.length_drop]; omega, hx2, hbr x1 (by simp), by omega, hm, by omega, fun a G5 H5 e5 S5 h5 => q a G5 H5 (e14.trans e5) S5 ?_⟩
      rw [nw_any, if_pos c]
      exact h5
    · rw [decide_eq_false c]
      refine rd_iF (rd_lst (rd_nil (mk_lst stt_world S3 (Nat.zero_le _) fun p4 G4 e4 S4 h4 => q p4 G4 _ (e13.trans e4) S4 ?_)))
      rw [nw_any, if_neg c]
      exact h4
end

/-! The law's paths. -/



theorem lvAt_app : ∀ (a b : List Str) (l : Lev), lvAt l (a ++ b) = (match lvAt l a with | some m => lvAt m b | none => none)
  | [], b, l => rfl
  | z :: a, b, l => by
    show (match l.ls.sub z with | some k => lvAt k (a ++ b) | none => none) = (match (match l.ls.sub z with | some k => lvAt k a | none => none) with | some m => lvAt m b | none => none)
    cases l.ls.sub z with
    | none => rfl
    | some k => exact lvAt_app a b k
theorem lvAt_step {l k : Lev} {ns : List Str} {i : Nat} {z : Str} (h : lvAt l ns = some k) (hz : ns[i]? = some z) : ∃ m m2, lvAt l (ns.take i) = some m ∧ m.ls.sub z = some m2 ∧ lvAt l (ns.take (i + 1)) = some m2 := by
  have e : ns.take (i + 1) = ns.take i ++ [z] := by rw [List.take_add_one, hz]; rfl
  have s : lvAt l (ns.take (i + 1) ++ ns.drop (i + 1)) = some k := by rw [List.take_append_drop]; exact h
  rw [lvAt_app] at s
  cases c : lvAt l (ns.take (i + 1)) with
  | none => rw [c] at s; cases s
  | some m2 =>
    have c0 := c
    rw [e, lvAt_snoc] at c
    cases c2 : lvAt l (ns.take i) with
    | none => rw [c2] at c; cases c
    | some m =>
      rw [c2] at c
      exact ⟨m, m2, rfl, c, rfl⟩
section
variable {K : PySem.W.Frag} {σ : L2.St} {G H : Hp} {L : List (Addr × HO)} {Q : VK} {D : Ends}
/-- the law: a level within, by its names -/
def sp_inner (K : PySem.W.Frag) : Sp := fun vs H Q _ => ∃ (v : V) (p : Addr) (ns : List Str) (l k : Lev) (G : Hp) (L : List (Addr × HO)), vs = [v, .ref p] ∧ Stt G H L ∧ Dp K G v l.dat ∧ l.good ∧ (∀ H', Ex G H' → SqL K H' p (ns.map V.str)) ∧ lvAt l ns = some k ∧
  ∀ x G' H', Ex G G' → Stt G' H' L → Dp K G' x k.dat → Q x H'
def t_inner_0b (K : PySem.W.Frag) : TS :=
  (tAsg (tOp (rIx K) (tLc (iList K (tOp (rIx K) (tVar 0) (tC (.int 1)))) (gTup K 2 (gCons (gName 3) (gCons (gName 4) gNil))) (tTest (tOp (gEq K) (tVar 3) (tVar 2))) (tVar 4) [3, 4]) (tC (.int 0))) (gName 0))
def t_inner_1 (K : PySem.W.Frag) : TS :=
  (tRet (tVar 0))
def t_inner (K : PySem.W.Frag) : TS :=
  (tSeq (tFor (iList K (tVar 1)) (gName 2) (t_inner_0b K))
  (t_inner_1 K))
theorem sat_inner {vs : List V} {E : XK} (h : sp_inner K vs H Q E) : vs.length = 2 ∧ t_inner K { nx := fun _ H' => Q .non H', rt := Q } (vs.map some ++ List.replicate (5 - vs.length) none) H := by
  obtain ⟨v, p, ns, l, k, G, L, rfl, S, hv, gd, hp, hk, q⟩ := h
  refine ⟨rfl, ?_⟩
  unfold t_inner
  refine rd_seq (rd_for (rd_il (rd_var rfl ⟨p, rfl, ⟨_, hp H S.ex⟩, ?_⟩)))
  refine for_go (walk_list (K := K) (a := p) (xs := ns.map V.str)) (G := G)
    (fun i σ1 G2 H2 => (∃ x m a2 a3 a4, σ1 = [some x, some (.ref p), a2, a3, a4] ∧ lvAt l (ns.take i) = some m ∧ Dp K G2 x m.dat) ∧ Ex G G2 ∧ Stt G2 H2 L)
    ⟨⟨v, l, _, _, _, rfl, rfl, hv⟩, Ex.refl _, S⟩ (fun i σ1 G2 H2 _ ⟨_, e2, S2⟩ => hp _ (e2.trans S2.ex)) ?_ ?_
  · rintro i y σ1 G2 H2 H3 hi ⟨⟨x, m0, a2, a3, a4, rfl, hm0, hx⟩, e2, S2⟩ y N hN
    obtain ⟨rfl, hz⟩ := y
    rw [List.getElem?_map] at hz
    obtain ⟨z, hz2, ez⟩ := Option.map_eq_some_iff.mp hz
    subst ez
    obtain ⟨m, m2, h1, h2, h3⟩ := lvAt_step hk hz2
    rw [h1] at hm0
    obtain rfl : m = m0 := Option.some.inj hm0
    have gm := (lvAt_good _ _ _ gd h1).1
    obtain ⟨fs, ls⟩ := m
    have h2 : ls.sub z = some m2 := h2
    obtain ⟨la, fa, c, qs, rfl, hla, hfa, hcc, hq⟩ := lv_inv hx
    rw [Lev.good] at gm
    have hq0 := hq.1
    refine rd_name ?_
    show t_inner_0b K _ [some (.ref la), some (.ref p), some (.str z), a3, a4] H3
    unfold t_inner_0b
    refine rd_asg (rd_op (rd_lc (rd_il (rd_op (rd_var rfl (rd_c (rd_ixL (ex_l S2.ex hla) rfl ⟨c, rfl, ⟨_, ex_l S2.ex hcc⟩, ?_⟩)))))))
    refine lc_go stt_world (walk_list (K := K) (a := c) (xs := qs.map V.ref)) S2 (by rw [List.length_map]; have := gm.2.2.2.2.1; omega) (fun i v _ => (qs.map V.ref)[i]? = some v)
      (fun i acc G3 => (acc = [] ∧ ∀ j, j < i → ls.names[j]? ≠ some z) ∨ ∃ u r, acc = u :: r ∧ Dp K G3 u m2.dat) (fun H' e' => ex_l e' hcc)
      (fun i x G1 H1 H2 L1 _ e1 S1 y => item_at S1 y) (.inl ⟨rfl, fun j h => by omega⟩) (fun i acc G3 G4 e h => h.imp id fun ⟨u, r, a, b⟩ => ⟨u, r, a, Dp.ex e _ _ b⟩) ?_ ?_
    · intro D1 j y acc G4 H4 hj _ e4 S4 I4 it Kp Sk kp sk
      obtain ⟨pp, nm, w, k3, rfl, hpp, hn, hlk, hv3⟩ := LvAll.at hq it
      refine rd_gtup2 (ex_t (e4.trans S4.ex) hpp) ⟨rfl, rd_test (rd_op (rd_var rfl (rd_var rfl (rd_eqS (rd_bl ?_)))))⟩
      by_cases c : nm = z
      · rw [decide_eq_true c]
        refine rd_iT (rd_var rfl (kp _ G4 H4 (Ex.refl _) S4 ?_))
        rcases I4 with ⟨rfl, no⟩ | ⟨u, r, rfl, hu⟩
        · have e3 := sub_at ls j z k3 (by rw [← c]; exact hn) hlk no
          rw [h2] at e3
          obtain rfl := Option.some.inj e3
          exact .inr ⟨w, [], rfl, Dp.ex e4 _ _ hv3⟩
        · exact .inr ⟨u, r ++ [w], rfl, hu⟩
      · rw [decide_eq_false c]
        refine rd_iF (sk G4 H4 (Ex.refl _) S4 (I4.imp (fun ⟨a, no⟩ => ⟨a, fun i hi e => ?_⟩) id))
        by_cases ci : i = j
        · subst ci
          rw [hn] at e
          exact c (Option.some.inj e)
        · exact no i (by omega) e
    · intro D1 acc G4 H4 e4 S4 I4 _
      rcases I4 with ⟨_, no⟩ | ⟨u, r, rfl, hu⟩
      · rw [List.length_map] at no
        rw [sub_none ls z fun j hj => no j (by omega)] at h2
        cases h2
      · exact rd_c (rd_ixL (sq_of (S4.at 0 rfl)) at0 (rd_name (hN _ G4 _ ⟨⟨u, m2, _, _, _, rfl, h3, hu⟩, e2.trans e4, S4.drop⟩)))
  · rintro σ1 G2 H2 ⟨⟨x, m, a2, a3, a4, rfl, hm, hx⟩, e2, S2⟩
    rw [List.length_map, List.take_length, hk] at hm
    cases (Option.some.inj hm)
    show t_inner_1 K _ _ _
    unfold t_inner_1
    exact rd_ret (rd_var rfl (q x G2 H2 e2 S2 hx))
end

/-! a + b of any two lists, also such as the text holds. -/
def rCatS (K : PySem.W.Frag) : R2 := fun x y H Q => ∃ a b xs ys, x = .ref a ∧ y = .ref b ∧ SqL K H a xs ∧ SqL K H b ys ∧ xs.length + ys.length ≤ sizeLine ∧ ∀ p, H p = none → Q (.ref p) (upd H p (.lst (xs ++ ys)))
theorem op_catS {X : Cx} : OpR X (binaryOp .Add) (rCatS X.K) := by
  intro pins s σ H x y v u Q I rx ry h; obtain ⟨a, b, xs, ys, rfl, rfl, ha, hb, hz, q⟩ := h
  cases rx
  cases ry
  obtain ⟨its, r1, ⟨⟨c1, d1, t1, s1⟩, n1, e1, h1, h2, h3⟩, _⟩ := I.list ha
  obtain ⟨jts, r2, ⟨⟨c2, d2, t2, s2⟩, n2, e2, k1, k2, k3⟩, _⟩ := I.list hb
  simp only at h1 h2 h3 k1 k2 k3
  subst h1 h2 h3 k1 k2 k3
  have l1 := r1.length
  have l2 := r2.length
  refine concat_meets ⟨_, e1, rfl⟩ ⟨_, e2, rfl⟩ noFill_list_add seq_list_add PySem.F.slot_list_add PySem.F.entry_list_add (PySem.F.args_list_add_2 _ _) (GE.meets_addS a b its.toArray jts.toArray n1 n2 s1 s2 (by rw [List.size_toArray, List.size_toArray]; omega)) ⟨e1, e2, ?_⟩
  have ea : its.toArray ++ jts.toArray = (its ++ jts).toArray := by simp
  rw [ea]
  exact ⟨.ref _, _, I.lnew (t' := s.toks) (r1.append r2) (by rw [List.length_append]; omega), rfl, q _ I.fresh⟩
theorem rd_catS {K : PySem.W.Frag} {H : Hp} {Q : VK} {a b : Addr} {xs ys : List V} (h1 : SqL K H a xs) (h2 : SqL K H b ys) (hz : xs.length + ys.length ≤ 100000) (q : ∀ p, H p = none → Q (.ref p) (upd H p (.lst (xs ++ ys)))) : rCatS K (.ref a) (.ref b) H Q := ⟨a, b, xs, ys, rfl, rfl, h1, h2, sz_of hz, q⟩

/-! The law's lists of a level. -/



mutual
/-- all lists within a level, by their names -/
def Lev.lsts : Lev → List (List Str)
  | .mk _ ls => ls.blks.flatten
def LevL.blks : LevL → List (List (List Str))
  | .nil => []
  | .cons n l r => ([n] :: l.lsts.map (fun ns => n :: ns)) :: r.blks
end
theorem blks_get : ∀ (ls : LevL) (i : Nat) (z : Str) (k : Lev), ls.names[i]? = some z → ls.levs[i]? = some k → ls.blks[i]? = some ([z] :: k.lsts.map (fun ns => z :: ns))
  | .nil, i, z, k, h, _ => by rw [LevL.names] at h; simp at h
  | .cons n l r, 0, z, k, h1, h2 => by
    rw [LevL.names] at h1; rw [LevL.levs] at h2
    cases (Option.some.inj h1); cases (Option.some.inj h2)
    rw [LevL.blks]; rfl
  | .cons n l r, i + 1, z, k, h1, h2 => by
    rw [LevL.names] at h1; rw [LevL.levs] at h2
    rw [LevL.blks]
    exact blks_get r i z k h1 h2
theorem blks_len : ∀ ls : LevL, ls.blks.length = ls.names.length
  | .nil => by rw [LevL.blks, LevL.names]; rfl
  | .cons n l r => by rw [LevL.blks, LevL.names, List.length_cons, List.length_cons, blks_len r]
mutual
theorem lsts_len : ∀ l : Lev, l.good → l.lsts.length + 2 ≤ 2 ^ l.depth
  | .mk fs ls, g => by
    rw [Lev.good] at g
    rw [Lev.lsts, Lev.depth]
    have h := blksL_len ls g.2.2.2.2.2
    have h2 : ls.names.length * (2 ^ ls.depth - 1) ≤ 2 * (2 ^ ls.depth - 1) := Nat.mul_le_mul_right _ g.2.2.2.2.1
    have h3 : 1 ≤ 2 ^ ls.depth := Nat.pow_pos (by decide)
    rw [Nat.add_comm 1, Nat.pow_succ]
    omega
theorem blksL_len : ∀ r : LevL, r.good → r.blks.flatten.length ≤ r.names.length * (2 ^ r.depth - 1)
  | .nil, _ => by rw [LevL.blks]; exact Nat.zero_le _
  | .cons n l r, g => by
    rw [LevL.good] at g
    have a := lsts_len l g.2.1
    have b := blksL_len r g.2.2
    have c : 2 ^ l.depth ≤ 2 ^ (max l.depth r.depth) := Nat.pow_le_pow_right (by decide) (Nat.le_max_left ..)
    have d : r.names.length * (2 ^ r.depth - 1) ≤ r.names.length * (2 ^ (max l.depth r.depth) - 1) := Nat.mul_le_mul_left _ (Nat.sub_le_sub_right (Nat.pow_le_pow_right (by decide) (Nat.le_max_right ..)) 1)
    rw [LevL.blks, LevL.names, LevL.depth, List.flatten_cons, List.length_append, List.length_cons, List.length_map, List.length_cons, Nat.succ_mul]
    omega
end
mutual
theorem lsts_deep : ∀ (l : Lev) (ns : List Str), ns ∈ l.lsts → ns.length + 1 ≤ l.depth
  | .mk fs ls, ns, h => by
    rw [Lev.lsts] at h
    rw [Lev.depth]
    have := blksL_deep ls ns h
    omega
theorem blksL_deep : ∀ (r : LevL) (ns : List Str), ns ∈ r.blks.flatten → ns.length ≤ r.depth
  | .nil, ns, h => by rw [LevL.blks] at h; cases h
  | .cons n l r, ns, h => by
    rw [LevL.blks, List.flatten_cons] at h
    rw [LevL.depth]; rcases List.mem_append.mp h with h | h
    · rcases (List.mem_cons.mp h) with rfl | h
      · have := l.depth_pos
        show 1 ≤ _
        omega
      · obtain ⟨ms, hm, rfl⟩ := List.mem_map.mp h
        have := lsts_deep l ms hm
        rw [List.length_cons]
        omega
    · have := blksL_deep r ns h
      omega
end
/-- names as data -/
def nd (ns : List Str) : PyData := .list (ns.map PyData.str)
section
variable {K : PySem.W.Frag} {σ : L2.St} {G H : Hp} {L : List (Addr × HO)} {Q : VK} {D : Ends}
theorem nd_at {x : V} {ns : List Str} (h : Dp K H x (nd ns)) : ∃ a, x = .ref a ∧ SqL K H a (ns.map V.str) := by
  unfold nd at h
  cases h with
  | @lst a xs _ ha hA =>
    have : xs = ns.map V.str := by
      clear ha
      induction ns generalizing xs with
      | nil => cases hA; rfl
      | cons z r ih =>
        cases hA with
        | cons h1 h2 => cases h1; rw [ih h2]; rfl
    exact ⟨a, rfl, this ▸ ha⟩
theorem nd_mk {a : Addr} : ∀ {ns : List Str}, SqL K H a (ns.map V.str) → Dp K H (.ref a) (nd ns) := fun {ns} h => by
  have all : ∀ ns : List Str, DpAll K H (ns.map V.str) (ns.map PyData.str) := fun ns => by
    induction ns with
    | nil => exact .nil
    | cons z r ih => exact .cons (.str z) ih
  exact .lst h (all ns)
def sp_lists (K : PySem.W.Frag) (n : Nat) : Sp := fun vs H Q _ => ∃ (v : V) (l : Lev) (G : Hp) (L : List (Addr × HO)), vs = [v] ∧ Stt G H L ∧ Dp K G v l.dat ∧ l.good ∧ l.depth ≤ n ∧ l.depth ≤ 9 ∧
  ∀ (a : Addr) (us : List V) (G' H' : Hp), Ex G G' → Stt G' H' L → G' a = some (.lst us) → DpAll K G' us (l.lsts.map nd) → Q (.ref a) H'
theorem never_lists (K : PySem.W.Frag) : ∀ vs H Q E, sp_lists K 0 vs H Q E → False := fun vs H Q E ⟨v, l, _, _, _, _, _, _, h, _⟩ => by
  have := l.depth_pos
  omega
def t_lists_1b (K : PySem.W.Frag) (n : Nat) : TS :=
  (tAsg (tOp (gAdd K) (tOp (gAdd K) (tVar 1) (tLst (tCons (tLst (tCons (tVar 2) tNil)) tNil))) (tLc (iList K (tCall (sp_lists K n) [] E0 (tCons (tVar 3) tNil))) (gName 4) tYes (tOp (rCatS K) (tLst (tCons (tVar 2) tNil)) (tVar 4)) [4])) (gName 1))
def t_lists_2 (K : PySem.W.Frag) (n : Nat) : TS :=
  (tRet (tVar 1))
def t_lists_1 (K : PySem.W.Frag) (n : Nat) : TS :=
  (tSeq (tFor (iList K (tOp (rIx K) (tVar 0) (tC (.int 1)))) (gTup K 2 (gCons (gName 2) (gCons (gName 3) gNil))) (t_lists_1b K n))
  (t_lists_2 K n))
def t_lists (K : PySem.W.Frag) (n : Nat) : TS :=
  (tSeq (tAsg (tLst tNil) (gName 1))
  (t_lists_1 K n))
theorem sat_lists {n : Nat} {vs : List V} {E : XK} (h : sp_lists K (n + 1) vs H Q E) : vs.length = 1 ∧ t_lists K n { nx := fun _ H' => Q .non H', rt := Q } (vs.map some ++ List.replicate (5 - vs.length) none) H := by
  obtain ⟨v, l, G, L, rfl, S, hv, gd, hd, h9, q⟩ := h
  refine ⟨rfl, ?_⟩
  have len9 := lsts_len l gd
  have p9 : 2 ^ l.depth ≤ 2 ^ 9 := Nat.pow_le_pow_right (by decide) h9
  obtain ⟨fs, ls⟩ := l
  obtain ⟨la, fa, c, qs, rfl, hla, hfa, hcc, hq⟩ := lv_inv hv
  rw [Lev.good] at gd
  rw [Lev.depth] at hd h9
  have hq0 := hq.1
  have hbl := blks_len ls
  rw [Lev.lsts] at q len9
  have small : ∀ i, ((ls.blks.take i).flatten).length ≤ 512 := fun i => by
    have h1 : ls.blks.flatten = (ls.blks.take i).flatten ++ (ls.blks.drop i).flatten := by rw [← List.flatten_append, List.take_append_drop]
    have h2 := congrArg List.length h1
    rw [List.length_append] at h2
    omega
  unfold t_lists
  refine rd_seq (rd_asg (rd_lst (rd_nil ?_)))
  refine mk_lst stt_world S (Nat.zero_le _) fun f0 G1 e1 S1 h1 => rd_name ?_
  show t_lists_1 K n _ [some (.ref la), some (.ref f0), none, none, none] _
  unfold t_lists_1
  refine rd_seq (rd_for (rd_il (rd_op (rd_var rfl (rd_c (rd_ixL (ex_l (e1.trans S1.ex) hla) rfl ⟨c, rfl, ⟨_, ex_l (e1.trans S1.ex) hcc⟩, ?_⟩))))))
  refine for_go (walk_list (K := K) (a := c) (xs := qs.map V.ref)) (G := G1)
    (fun i σ1 G2 H2 => ∃ (fa : Addr) (us : List V) (a2 a3 a4 : Option V), σ1 = [some (.ref la), some (.ref fa), a2, a3, a4] ∧ Ex G1 G2 ∧ Stt G2 H2 L ∧ G2 fa = some (.lst us) ∧ DpAll K G2 us (((ls.blks.take i).flatten).map nd))
    ⟨f0, [], _, _, _, rfl, Ex.refl _, S1, h1, .nil⟩ (fun i σ1 G2 H2 _ ⟨_, _, _, _, _, _, e2, S2, _⟩ => ex_l (e1.trans (e2.trans S2.ex)) hcc) ?_ ?_
  · rintro i y σ1 G2 H2 H3 hi ⟨fa, us, a2, a3, a4, rfl, e2, S2, hfa2, hus⟩ y N hN
    obtain ⟨rfl, hz⟩ := y
    obtain ⟨pp, nm, w, k, rfl, hpp, hn, hlk, hv2⟩ := LvAll.at hq hz
    have e12 := e1.trans e2
    have gk := LevL.good_get ls i k gd.2.2.2.2.2 hlk
    have dk := LevL.depth_get ls i k hlk
    have hb := blks_get ls i nm k hn hlk
    have kl := lsts_len k gk
    have k9 : 2 ^ k.depth ≤ 2 ^ 9 := Nat.pow_le_pow_right (by decide) (by omega)
    have usl := DpAll.length hus
    have sm := small i
    rw [List.length_map] at usl
    refine rd_gtup2 (ex_t (e12.trans S2.ex) hpp) ?_
    show t_lists_1b K n _ [some (.ref la), some (.ref fa), some (.str nm), some w, a4] H3
    unfold t_lists_1b
    refine rd_asg (rd_op (rd_op (rd_var rfl (rd_lst (rd_cons (rd_lst (rd_cons (rd_var rfl (rd_nil ?_)))))))))
    refine mk_lst stt_world S2 (by show 1 ≤ 100000; decide) fun p1 G3 e3 S3 h3 => rd_nil ?_
    refine mk_lst stt_world S3 (by show 1 ≤ 100000; decide) fun p2 G4 e4 S4 h4 => ?_
    have e34 := e3.trans e4
    refine rd_addL (S4.ex _ _ (e34 _ _ hfa2)) (S4.ex _ _ h4) (sz_of (by show us.length + 1 ≤ _; omega)) ?_
    refine mk_im (o := .lst (us ++ [.ref p1])) stt_world S4 fun p3 G5 e5 S5 h5 => rd_lc (rd_il (rd_call (rd_cons (rd_var rfl (rd_nil ?_)))))
    have e15 := e12.trans (e34.trans e5)
    refine ⟨w, k, G5, L, rfl, S5, Dp.ex e15 _ _ hv2, gk, by omega, by omega, fun a vs2 G6 H6 e6 S6 ha hvs => ⟨a, rfl, ⟨_, sq_of (S6.ex _ _ ha)⟩, ?_⟩⟩
    have vl := DpAll.length hvs
    rw [List.length_map] at vl
    refine lc_go stt_world (walk_list (K := K) (a := a) (xs := vs2)) S6 (by omega) (fun j v _ => vs2[j]? = some v) (fun j acc G7 => DpAll K G7 acc ((k.lsts.take j).map fun ns => nd (nm :: ns))) (fun H' e' => sq_of (e' _ _ ha))
      (fun j x G1 H1 H2 L1 _ e1 S1 y => item_at S1 y) .nil (fun j acc G3 G4 e h => DpAll.ex e _ _ h) ?_ ?_
    · intro D1 j y acc G7 H7 hj al e7 S7 I7 it Kp Sk kp sk
      obtain ⟨d, hd2, dp⟩ := DpAll.get hvs it
      rw [List.getElem?_map] at hd2
      obtain ⟨ms, hms, ed⟩ := Option.map_eq_some_iff.mp hd2
      subst ed
      obtain ⟨b, rfl, hb2⟩ := nd_at (Dp.ex e7 _ _ dp)
      have ml : ms.length ≤ 10 := by
        have := lsts_deep k ms (List.mem_of_getElem? hms)
        omega
      refine rd_name ⟨rfl, rd_yes (rd_iT (rd_op (rd_lst (rd_cons (rd_var rfl (rd_nil ?_))))))⟩
      refine mk_lst stt_world S7 (by show 1 ≤ 100000; decide) fun p6 G8 e8 S8 h8 => rd_var rfl ?_
      refine rd_catS (sq_of (S8.ex _ _ h8)) (ex_l (e8.trans S8.ex) hb2) (by rw [List.length_map]; show 1 + _ ≤ _; omega) ?_
      refine mk_im (o := .lst ([V.str nm] ++ ms.map V.str)) stt_world S8 fun p7 G9 e9 S9 h9 => kp _ G9 _ (e8.trans e9) S9 ?_
      rw [List.take_add_one, hms, List.map_append]
      exact DpAll.append (DpAll.ex (e8.trans e9) _ _ I7) (.cons (nd_mk (ns := nm :: ms) (sq_of h9)) .nil)
    · intro D1 acc G7 H7 e7 S7 I7 al
      rw [List.take_of_length_le (by omega)] at I7
      have e8 := S7.frzE
      have hD := S7.at 0 rfl
      have S8 := S7.frz
      refine rd_addL (S7.ex _ _ (e7 _ _ (e6 _ _ h5))) hD (sz_of (by rw [List.length_append]; show us.length + 1 + _ ≤ _; omega)) ?_
      refine mk_im (o := .lst ((us ++ [.ref p1]) ++ acc)) stt_world S8 fun p8 G9 e9 S9 h9 => ?_
      have e79 := e7.trans (e8.trans e9)
      have e59 := e6.trans e79
      have e39 := e34.trans (e5.trans e59)
      refine rd_name (hN _ G9 _ ⟨p8, _, _, _, _, rfl, e2.trans e39, S9, h9, ?_⟩)
      rw [List.take_add_one, hb, List.flatten_append, List.map_append, List.append_assoc]
      refine DpAll.append (DpAll.ex e39 _ _ hus) ?_
      show DpAll K G9 (.ref p1 :: acc) ((([nm] :: k.lsts.map (fun ns => nm :: ns)) ++ []).map nd)
      rw [List.append_nil, List.map_cons, List.map_map]
      exact .cons (nd_mk (ns := [nm]) (sq_of (e4.trans (e5.trans e59) _ _ h3))) (DpAll.ex (e8.trans e9) _ _ I7)
  · rintro σ1 G2 H2 ⟨fa, us, a2, a3, a4, rfl, e2, S2, hfa2, hus⟩
    rw [List.length_map, List.take_of_length_le (by omega)] at hus
    show t_lists_2 K n _ _ _
    unfold t_lists_2
    exact rd_ret (rd_var rfl (q fa us G2 H2 (e1.trans e2) S2 hfa2 hus))
end

/-! The law's paths of a level. -/



theorem sub_mem : ∀ (r : LevL) (z : Str) (k : Lev), r.sub z = some k → z ∈ r.names
  | .nil, z, k, h => by rw [LevL.sub] at h; cases h
  | .cons n l r, z, k, h => by
    rw [LevL.sub] at h
    rw [LevL.names]
    by_cases c : n = z
    · rw [c]; exact List.mem_cons_self ..
    · rw [if_neg c] at h
      exact List.mem_cons_of_mem _ (sub_mem r z k h)
mutual
theorem lsts_at : ∀ l : Lev, l.good → ∀ ns, ns ∈ l.lsts → ∃ k, lvAt l ns = some k
  | .mk fs ls, g, ns, h => by
    rw [Lev.good] at g
    rw [Lev.lsts] at h
    obtain ⟨nm, ms, k, k2, rfl, h1, h2⟩ := blksL_at ls g.2.2.2.2.2 (List.nodup_append.mp g.2.2.2.1).2.1 ns h
    refine ⟨k2, ?_⟩
    show (match ls.sub nm with | some k => lvAt k ms | none => none) = some k2
    rw [h1]
    exact h2
theorem blksL_at : ∀ r : LevL, r.good → r.names.Nodup → ∀ ns, ns ∈ r.blks.flatten → ∃ nm ms k k2, ns = nm :: ms ∧ r.sub nm = some k ∧ lvAt k ms = some k2
  | .nil, _, _, ns, h => by rw [LevL.blks] at h; cases h
  | .cons n l r, g, nd, ns, h => by
    rw [LevL.good] at g
    rw [LevL.names] at nd
    have nd := List.nodup_cons.mp nd
    rw [LevL.blks, List.flatten_cons] at h
    have here : (LevL.cons n l r).sub n = some l := by rw [LevL.sub, if_pos rfl]
    rcases (List.mem_append.mp h) with h | h
    · rcases (List.mem_cons.mp h) with rfl | h
      · exact ⟨n, [], l, l, rfl, here, rfl⟩
      · obtain ⟨ms, hm, rfl⟩ := List.mem_map.mp h
        obtain ⟨k2, h2⟩ := lsts_at l g.2.1 ms hm
        exact ⟨n, ms, l, k2, rfl, here, h2⟩
    · obtain ⟨nm, ms, k, k2, e, h1, h2⟩ := blksL_at r g.2.2 nd.2 ns h
      refine ⟨nm, ms, k, k2, e, ?_, h2⟩
      rw [LevL.sub, if_neg fun z => nd.1 (by rw [z]; exact sub_mem r nm k h1)]
      exact h1
end
mutual
theorem lsts_ok : ∀ l : Lev, l.good → ∀ ns, ns ∈ l.lsts → ∀ z, z ∈ ns → NameOk z
  | .mk fs ls, g, ns, h => by
    rw [Lev.good] at g
    rw [Lev.lsts] at h
    exact blksL_ok ls g.2.2.2.2.2 ns h
theorem blksL_ok : ∀ r : LevL, r.good → ∀ ns, ns ∈ r.blks.flatten → ∀ z, z ∈ ns → NameOk z
  | .nil, _, ns, h => by rw [LevL.blks] at h; cases h
  | .cons n l r, g, ns, h => fun z hz => by
    rw [LevL.good] at g
    rw [LevL.blks, List.flatten_cons] at h; rcases List.mem_append.mp h with h | h
    · rcases (List.mem_cons.mp h) with rfl | h
      · rw [List.mem_singleton.mp hz]; exact g.1
      · obtain ⟨ms, hm, rfl⟩ := List.mem_map.mp h
        rcases (List.mem_cons.mp hz) with rfl | hz
        · exact g.1
        · exact lsts_ok l g.2.1 ms hm z hz
    · exact blksL_ok r g.2.2 ns h z hz
end
/-- the paths of the fields of the level ns -/
def pthsAt (l : Lev) (ns : List Str) : List Str := match lvAt l ns with
  | some k => k.fs.map fun f => Txt.join "." (ns ++ [f])
  | none => []
def pths (l : Lev) : List Str := l.fs ++ (l.lsts.map (pthsAt l)).flatten
theorem flat3 {l : Lev} (g : l.good) : ∀ nss : List (List Str), ((nss.map (pthsAt l)).flatten).length ≤ nss.length * 3
  | [] => Nat.zero_le _
  | ns :: r => by
    have ih := flat3 g r
    have one : (pthsAt l ns).length ≤ 3 := by
      unfold pthsAt
      cases e : lvAt l ns with
      | none => exact Nat.zero_le _
      | some k =>
        have gk := (lvAt_good _ _ _ g e).1
        obtain ⟨fs, ls⟩ := k
        rw [Lev.good] at gk
        show (fs.map _).length ≤ 3
        rw [List.length_map]; exact gk.2.1
    rw [List.map_cons, List.flatten_cons, List.length_append, List.length_cons, Nat.succ_mul]
    omega
theorem sums8 {ns : List Str} (h : ∀ z, z ∈ ns → NameOk z) : (ns.map (fun s : Str => s.length)).sum ≤ ns.length * 10 := by
  induction ns with
  | nil => exact Nat.zero_le _
  | cons z r ih =>
    have a := nameOk_len (h z (List.mem_cons_self ..))
    have b := ih fun y hy => h y (List.mem_cons_of_mem _ hy)
    rw [List.map_cons, List.sum_cons, List.length_cons, Nat.succ_mul]; omega
section
variable {K : PySem.W.Frag} {σ : L2.St} {G H : Hp} {L : List (Addr × HO)} {Q : VK} {D : Ends}
def sp_paths (K : PySem.W.Frag) : Sp := fun vs H Q _ => ∃ (v : V) (l : Lev) (G : Hp) (L : List (Addr × HO)), vs = [v] ∧ Stt G H L ∧ Dp K G v l.dat ∧ l.good ∧ l.depth ≤ 9 ∧
  ∀ (a : Addr) (G' H' : Hp), Ex G G' → Stt G' H' L → G' a = some (.lst ((pths l).map V.str)) → Q (.ref a) H'
def t_paths_1b (K : PySem.W.Frag) : TS :=
  (tAsg (tOp (gAdd K) (tVar 1) (tLc (iList K (tOp (rIx K) (tCall (sp_inner K) [] E0 (tCons (tVar 0) (tCons (tVar 2) tNil))) (tC (.int 0)))) (gName 3) tYes (tJoinS K "." (tOp (rCatS K) (tVar 2) (tLst (tCons (tVar 3) tNil)))) [3])) (gName 1))
def t_paths_2 (K : PySem.W.Frag) : TS :=
  (tRet (tVar 1))
def t_paths_1 (K : PySem.W.Frag) : TS :=
  (tSeq (tFor (iList K (tCall (sp_lists K 9) [] E0 (tCons (tVar 0) tNil))) (gName 2) (t_paths_1b K))
  (t_paths_2 K))
def t_paths (K : PySem.W.Frag) : TS :=
  (tSeq (tAsg (tLc (iList K (tOp (rIx K) (tVar 0) (tC (.int 0)))) (gName 3) tYes (tVar 3) [3]) (gName 1))
  (t_paths_1 K))
def jnV (ns : List Str) : V → V
  | .str z => .str (Txt.join "." (ns ++ [z]))
  | v => v
theorem sat_paths {vs : List V} {E : XK} (h : sp_paths K vs H Q E) : vs.length = 1 ∧ t_paths K { nx := fun _ H' => Q .non H', rt := Q } (vs.map some ++ List.replicate (4 - vs.length) none) H := by
  obtain ⟨v, l, G, L, rfl, S, hv, gd, h9, q⟩ := h
  refine ⟨rfl, ?_⟩
  have gd0 := gd
  have hv0 := hv
  have len9 := lsts_len l gd
  have p9 : 2 ^ l.depth ≤ 2 ^ 9 := Nat.pow_le_pow_right (by decide) h9
  obtain ⟨la, fa, c, qs, rfl, hla, hfa, hcc, hq⟩ := lv_inv (fs := l.fs) (ls := l.ls) (by cases l; exact hv)
  have gf : l.fs.length ≤ 3 := by
    obtain ⟨fs, ls⟩ := l
    rw [Lev.good] at gd
    exact gd.2.1
  unfold t_paths
  refine rd_seq (rd_asg (rd_lc (rd_il (rd_op (rd_var rfl (rd_c (rd_ixL (ex_l S.ex hla) rfl ⟨fa, rfl, ⟨_, ex_l S.ex hfa⟩, ?_⟩)))))))
  refine lc_mapJ stt_world (walk_list (K := K) (a := fa) (xs := l.fs.map V.str)) S (fun H' e' => ex_l e' hfa) (by rw [List.length_map]; omega) (fun _ => rfl) id (fun x acc D1 G1 H1 hm e1 S1 Kp kp => rd_var rfl (kp H1 S1)) (fun D1 G1 H1 e1 S1 => ?_)
  rw [List.map_id] at S1
  have e2 := S1.frzE
  have S2 := S1.frz
  refine rd_name ?_
  have h1 : (upd G1 D1 (.lst (l.fs.map V.str))) D1 = some (.lst (l.fs.map V.str)) := upd_same
  generalize upd G1 D1 (.lst (l.fs.map V.str)) = G2 at *
  have e12 := e1.trans e2
  show t_paths_1 K _ [some (.ref la), some (.ref D1), none, none] H1
  unfold t_paths_1
  refine rd_seq (rd_for (rd_il (rd_call (rd_cons (rd_var rfl (rd_nil ?_))))))
  refine ⟨.ref la, l, G2, L, rfl, S2, Dp.ex e12 _ _ hv0, gd0, h9, h9, fun a us G3 H3 e3 S3 ha hus => ⟨a, rfl, ⟨_, sq_of (S3.ex _ _ ha)⟩, ?_⟩⟩
  have ul := DpAll.length hus
  rw [List.length_map] at ul
  have e13 := e12.trans e3
  refine for_go (walk_list (K := K) (a := a) (xs := us)) (G := G3)
    (fun i σ1 G4 H4 => ∃ (fa2 : Addr) (a2 a3 : Option V), σ1 = [some (.ref la), some (.ref fa2), a2, a3] ∧ Ex G3 G4 ∧ Stt G4 H4 L ∧ G4 fa2 = some (.lst ((l.fs ++ ((l.lsts.take i).map (pthsAt l)).flatten).map V.str)))
    ⟨D1, _, _, rfl, Ex.refl _, S3, by rw [List.take_zero]; show _ = some (HO.lst ((l.fs ++ []).map V.str)); rw [List.append_nil]; exact e3 _ _ h1⟩ (fun i σ1 G4 H4 _ ⟨_, _, _, _, e4, S4, _⟩ => sq_of (S4.ex _ _ (e4 _ _ ha))) ?_ ?_
  · rintro i y σ1 G4 H4 H5 hi ⟨fa2, a2, a3, rfl, e4, S4, hf2⟩ y N hN
    obtain ⟨rfl, hy⟩ := y
    obtain ⟨d, hd2, dp⟩ := DpAll.get hus hy
    rw [List.getElem?_map] at hd2
    obtain ⟨ns, hns, ed⟩ := Option.map_eq_some_iff.mp hd2
    subst ed
    have hm := List.mem_of_getElem? hns
    obtain ⟨k, hk⟩ := lsts_at l gd0 ns hm
    have gk := (lvAt_good _ _ _ gd0 hk).1
    have nd1 := lsts_deep l ns hm
    have nok := lsts_ok l gd0 ns hm
    obtain ⟨b, rfl, hb2⟩ := nd_at (Dp.ex e4 _ _ dp)
    refine rd_name ?_
    show t_paths_1b K _ [some (.ref la), some (.ref fa2), some (.ref b), a3] H5
    unfold t_paths_1b
    refine rd_asg (rd_op (rd_var rfl (rd_lc (rd_il (rd_op (rd_call (rd_cons (rd_var rfl (rd_cons (rd_var rfl (rd_nil ?_)))))))))))
    have e14 := e13.trans e4
    refine ⟨.ref la, b, ns, l, k, G4, L, rfl, S4, Dp.ex e14 _ _ hv0, gd0, fun H' e' => ex_l e' hb2, hk, fun x G6 H6 e6 S6 hx => ?_⟩
    obtain ⟨fs, ls⟩ := k
    obtain ⟨lb, fb, c2, qs2, rfl, hlb, hfb, hcc2, hq2⟩ := lv_inv hx
    rw [Lev.good] at gk
    refine rd_c (rd_ixL (ex_l S6.ex hlb) rfl ⟨fb, rfl, ⟨_, ex_l S6.ex hfb⟩, ?_⟩)
    refine lc_mapJ stt_world (walk_list (K := K) (a := fb) (xs := fs.map V.str)) S6 (fun H' e' => ex_l e' hfb) (by rw [List.length_map]; omega) (fun _ => rfl) (jnV ns) (fun x acc D2 G7 H7 hmx e7 S7 Kp kp => ?_) (fun D2 G7 H7 e7 S7 => ?_)
    · obtain ⟨z, hz, rfl⟩ := List.mem_map.mp hmx
      refine rd_joinS (rd_op (rd_var rfl (rd_lst (rd_cons (rd_var rfl (rd_nil ?_))))))
      refine mk_lst stt_world S7 (by show 1 ≤ 100000; decide) fun p6 G8 e8 S8 h8 => ?_
      refine rd_catS (ex_l (e6.trans (e7.trans (e8.trans S8.ex))) hb2) (sq_of (S8.ex _ _ h8)) (by rw [List.length_map]; show _ + 1 ≤ _; omega) ?_
      refine mk_im (o := .lst (ns.map V.str ++ [V.str z])) stt_world S8 fun p7 G9 e9 S9 h9 => ?_
      refine ⟨p7, ns ++ [z], rfl, by rw [List.map_append]; exact sq_of (S9.ex _ _ h9), ?_, kp _ (S9.less (e8.trans e9))⟩
      have s8 := sums8 (ns := ns ++ [z]) fun y hy => (List.mem_append.mp hy).elim (nok y) fun hy => by rw [List.mem_singleton.mp hy]; exact gk.2.2.1 z hz
      rw [List.length_append] at s8 ⊢
      have k1 : ("." : Str).length = 1 := rfl
      rw [k1]
      have : ([z] : List Str).length = 1 := rfl
      omega
    · have e8 := S7.frzE
      have hD := S7.at 0 rfl
      have S8 := S7.frz
      have jm : (fs.map V.str).map (jnV ns) = (pthsAt l ns).map V.str := by
        unfold pthsAt
        rw [hk, List.map_map]
        show _ = (fs.map _).map _
        rw [List.map_map]
        rfl
      rw [jm] at hD S8 e8
      have f3 := flat3 gd0 (l.lsts.take i)
      have f4 : (l.lsts.take i).length ≤ 512 := by rw [List.length_take]; omega
      have f5 : (pthsAt l ns).length ≤ 3 := by
        have := congrArg List.length jm
        rw [List.length_map, List.length_map, List.length_map] at this
        omega
      refine rd_addL (S7.ex _ _ (e7 _ _ (e6 _ _ hf2))) hD (sz_of (by rw [List.length_map, List.length_append, List.length_map]; omega)) ?_
      refine mk_im (o := .lst ((l.fs ++ ((l.lsts.take i).map (pthsAt l)).flatten).map V.str ++ (pthsAt l ns).map V.str)) stt_world S8 fun p8 G9 e9 S9 h9 => ?_
      refine rd_name (hN _ G9 _ ⟨p8, _, _, rfl, e4.trans (e6.trans (e7.trans (e8.trans e9))), S9, ?_⟩)
      rw [h9, List.take_add_one, hns, ← List.map_append, List.map_append (f := pthsAt l), List.flatten_append, ← List.append_assoc]
      show _ = some (HO.lst ((_ ++ ((pthsAt l ns) ++ [])).map V.str))
      rw [List.append_nil]
  · rintro σ1 G4 H4 ⟨fa2, a2, a3, rfl, e4, S4, hf2⟩
    rw [List.take_of_length_le (by omega)] at hf2
    show t_paths_2 K _ _ _
    unfold t_paths_2
    exact rd_ret (rd_var rfl (q fa2 G4 H4 (e13.trans e4) S4 hf2))
end

/-! Paths as texts: the plain law. -/
theorem name_46 {z : Str} (h : NameOk z) : 46 ∉ cps z := fun hm => by
  have h1 := h.1
  unfold nameS at h1
  rw [Bool.and_eq_true, Bool.and_eq_true, Bool.and_eq_true] at h1
  have h2 := List.all_eq_true.mp h1.2.2.2 46 hm
  revert h2
  decide +kernel
theorem joinL46_ne : ∀ {zs : List Str}, zs ≠ [] → (∀ z, z ∈ zs → NameOk z) → TL.joinL [46] (zs.map cps) ≠ []
  | [], h, _ => (h rfl).elim
  | [z], _, h => nameOk_ne (h z (List.mem_cons_self ..))
  | z :: y :: r, _, h => fun e => by
    have e : cps z ++ ([46] ++ TL.joinL [46] ((y :: r).map cps)) = [] := e
    simp at e
theorem joinL46_snoc (f : Str) : ∀ {zs : List Str}, zs ≠ [] → TL.joinL [46] ((zs ++ [f]).map cps) = TL.joinL [46] (zs.map cps) ++ 46 :: cps f
  | [], h => (h rfl).elim
  | [z], _ => rfl
  | z :: y :: r, _ => by
    show cps z ++ ([46] ++ TL.joinL [46] ((y :: r ++ [f]).map cps)) = cps z ++ ([46] ++ TL.joinL [46] ((y :: r).map cps)) ++ 46 :: cps f
    rw [joinL46_snoc f (zs := y :: r) (List.cons_ne_nil _ _)]
    simp
theorem S_cps_map : ∀ zs : List Str, (zs.map cps).map SX.S = zs
  | [] => rfl
  | z :: r => by rw [List.map_cons, List.map_cons, S_cps, S_cps_map r]
theorem spl_names {zs : List Str} (ne : zs ≠ []) (h : ∀ z, z ∈ zs → NameOk z) : (TL.spl [46] 0 [] (TL.joinL [46] (zs.map cps))).map SX.S = zs := by
  have e := SX.spl_join (c := 46) (sep := []) (parts := zs.map cps) (fun z => ne (List.map_eq_nil_iff.mp z)) fun p hp => by
    obtain ⟨z, hz, rfl⟩ := List.mem_map.mp hp
    exact name_46 (h z hz)
  rw [e, S_cps_map]
theorem join_names (zs : List Str) : Txt.join "." zs = SX.S (TL.joinL [46] (zs.map cps)) := by
  have h := SX.join_S [46] (zs.map cps)
  rw [S_cps_map] at h
  exact h
theorem pnames_names {ns : List Str} (h : ∀ z, z ∈ ns → NameOk z) : pnames (TL.joinL [46] (ns.map cps)) = ns := by
  by_cases c : ns = []
  · subst c; exact if_pos rfl
  · unfold pnames
    rw [if_neg (joinL46_ne c h), spl_names c h]
theorem isPth_in {l k : Lev} {ns : List Str} {f : Str} (hn : ∀ z, z ∈ ns → NameOk z) (hf : 46 ∉ cps f) (hk : lvAt l ns = some k) : isPth l (TL.joinL [46] ((ns ++ [f]).map cps)) = decide (f ∈ k.fs) := by
  by_cases c : ns = []
  · subst c
    cases (Option.some.inj hk)
    show isPth l (cps f) = _
    unfold isPth
    rw [cutR_none hf]
  · rw [joinL46_snoc f c]
    unfold isPth
    rw [cutR_some hf]
    show (if TL.joinL [46] (ns.map cps) = [] then false else match lvAt l (pnames (TL.joinL [46] (ns.map cps))) with
      | some k => decide (SX.S (cps f) ∈ k.fs)
      | none => false) = _
    rw [if_neg (joinL46_ne c hn), pnames_names hn, hk]
theorem isPth_out {l : Lev} {ns : List Str} {q : List Nat} (hn : ∀ z, z ∈ ns → NameOk z) (ne : ns ≠ []) (hq : 46 ∉ q) (hk : ∀ k, lvAt l ns = some k → SX.S q ∉ k.fs) : isPth l (TL.joinL [46] (ns.map cps) ++ 46 :: q) = false := by
  unfold isPth
  rw [cutR_some hq]
  show (if TL.joinL [46] (ns.map cps) = [] then false else match lvAt l (pnames (TL.joinL [46] (ns.map cps))) with
    | some k => decide (SX.S q ∈ k.fs)
    | none => false) = _
  rw [if_neg (joinL46_ne ne hn), pnames_names hn]
  cases e : lvAt l ns with
  | none => rfl
  | some k => exact decide_eq_false (hk k e)
/-- a path of a field -/
theorem pths_at {l : Lev} (gd : l.good) (h9 : l.depth ≤ 9) {p : Str} (hp : p ∈ pths l) : ∃ w ns f k, p = SX.S w ∧ w = TL.joinL [46] ((ns ++ [f]).map cps) ∧ lvAt l ns = some k ∧ f ∈ k.fs ∧ (∀ z, z ∈ ns ++ [f] → NameOk z) ∧ ns.length ≤ 9 ∧ p.length ≤ 200 := by
  have gd0 := gd
  have fin : ∀ ns f k, lvAt l ns = some k → f ∈ k.fs → (∀ z, z ∈ ns → NameOk z) → ns.length ≤ 9 → p = Txt.join "." (ns ++ [f]) → ∃ w ns f k, p = SX.S w ∧ w = TL.joinL [46] ((ns ++ [f]).map cps) ∧ lvAt l ns = some k ∧ f ∈ k.fs ∧ (∀ z, z ∈ ns ++ [f] → NameOk z) ∧ ns.length ≤ 9 ∧ p.length ≤ 200 := fun ns f k hk hf hn hl e => by
    have gk := (lvAt_good _ _ _ gd0 hk).1
    have nf : NameOk f := by
      obtain ⟨fs, ls⟩ := k
      rw [Lev.good] at gk
      exact gk.2.2.1 f hf
    have all : ∀ z, z ∈ ns ++ [f] → NameOk z := fun z hz => (List.mem_append.mp hz).elim (hn z) fun hz => by rw [List.mem_singleton.mp hz]; exact nf
    refine ⟨_, ns, f, k, by rw [e]; exact join_names _, rfl, hk, hf, all, hl, ?_⟩
    rw [e, join_names, SX.S_len]
    have a := sums8 all
    have b : ∀ zs : List Str, (TL.joinL [46] (zs.map cps)).length ≤ (zs.map (fun s : Str => s.length)).sum + zs.length := fun zs => by
      induction zs with
      | nil => exact Nat.zero_le _
      | cons z r ih =>
        cases r with
        | nil =>
          show (cps z).length ≤ z.length + 0 + 1
          rw [len_cps]
          omega
        | cons y r =>
          show (cps z ++ ([46] ++ TL.joinL [46] ((y :: r).map cps))).length ≤ _
          rw [List.length_append, List.length_append, len_cps]
          show z.length + (1 + _) ≤ (z.length + ((y :: r).map (fun s : Str => s.length)).sum) + ((y :: r).length + 1)
          have ih' : (TL.joinL [46] ((y :: r).map cps)).length ≤ ((y :: r).map (fun s : Str => s.length)).sum + (y :: r).length := ih
          omega
    have := b (ns ++ [f])
    rw [List.length_append] at a this
    have h1 : [f].length = 1 := rfl
    omega
  unfold pths at hp; rcases List.mem_append.mp hp with h | h
  · exact fin [] p l rfl h (fun z hz => by cases hz) (by decide) (by rw [List.nil_append, join_names]; exact (S_cps p).symm)
  · obtain ⟨ps, h1, h2⟩ := List.mem_flatten.mp h
    obtain ⟨ns, hns, rfl⟩ := List.mem_map.mp h1
    obtain ⟨k, hk⟩ := lsts_at l gd ns hns
    unfold pthsAt at h2
    rw [hk] at h2
    obtain ⟨f, hf, rfl⟩ := List.mem_map.mp h2
    exact fin ns f k hk hf (lsts_ok l gd ns hns) (by have := lsts_deep l ns hns; omega) rfl
theorem pths_is {l : Lev} (gd : l.good) (h9 : l.depth ≤ 9) {p : Str} (hp : p ∈ pths l) : isPthD l (.str p) = true := by
  obtain ⟨w, ns, f, k, rfl, rfl, hk, hf, all, _⟩ := pths_at gd h9 hp
  show isPth l (cps (SX.S _)) = true
  rw [cps_S, isPth_in (fun z hz => all z (List.mem_append_left _ hz)) (name_46 (all f (by simp))) hk]
  exact decide_eq_true hf
/-! ### what is no path -/
abbrev odds (f : Str) (l : Lev) : List PyData := [.none, .int 3, .str "", .str "y", .str ("y." ++ f), .str (f ++ "."), .str ("." ++ f), .list [.str f]] ++ l.ls.names.map PyData.str
theorem odds_no {l : Lev} {f : Str} (gd : l.good) (hf : f ∈ l.fs) (ny : ("y" : Str) ∉ l.fs) (ny2 : l.ls.sub "y" = none) : ∀ e, e ∈ odds f l → isPthD l e = false := by
  intro e he
  obtain ⟨fs, ls⟩ := l
  have gd0 := gd
  rw [Lev.good] at gd
  have nf := gd.2.2.1 f hf
  have dis := (List.nodup_append.mp gd.2.2.2.1).2.2
  have yok : NameOk "y" := ⟨by decide +kernel, by decide +kernel⟩
  have noE : ("" : Str) ∉ fs := fun z => nameOk_ne (gd.2.2.1 _ z) (by decide +kernel)
  have fin : f ∉ ls.names := fun z => dis f hf f z rfl
  have fnone : ls.sub f = none := sub_none ls f fun j hj e => fin (List.mem_of_getElem? e)
  rcases (List.mem_append.mp he) with he | he
  · simp only [List.mem_cons, List.not_mem_nil, or_false] at he
    rcases he with rfl | rfl | rfl | rfl | rfl | rfl | rfl | rfl
    · rfl
    · rfl
    · exact decide_eq_false noE
    · show isPth _ (cps "y") = false
      unfold isPth
      rw [cutR_none (name_46 yok)]
      show decide (SX.S (cps "y") ∈ fs) = false
      rw [S_cps]
      exact decide_eq_false ny
    · show isPth _ (cps ("y." ++ f)) = false
      have := isPth_out (l := .mk fs ls) (ns := ["y"]) (q := cps f) (fun z hz => by rw [List.mem_singleton.mp hz]; exact yok) (List.cons_ne_nil _ _) (name_46 nf) fun k hk => by
        have hk : (match ls.sub "y" with | some k => lvAt k [] | none => none) = some k := hk
        have ny2 : ls.sub "y" = none := ny2
        rw [ny2] at hk
        cases hk
      rw [cps_add]
      exact this
    · show isPth _ (cps (f ++ ".")) = false
      have := isPth_out (l := .mk fs ls) (ns := [f]) (q := []) (fun z hz => by rw [List.mem_singleton.mp hz]; exact nf) (List.cons_ne_nil _ _) (fun h => by cases h) fun k hk => by
        have hk : (match ls.sub f with | some k => lvAt k [] | none => none) = some k := hk
        rw [fnone] at hk
        cases hk
      rw [cps_add]
      exact this
    · show isPth _ (cps ("." ++ f)) = false
      rw [cps_add, show cps ("." : Str) ++ cps f = [] ++ 46 :: cps f from rfl]
      unfold isPth
      rw [cutR_some (name_46 nf)]
      exact if_pos rfl
    · rfl
  · obtain ⟨z, hz, rfl⟩ := List.mem_map.mp he
    have hz : z ∈ ls.names := hz
    have zok : NameOk z := have ⟨i, hi⟩ := List.getElem?_of_mem hz; LevL.name_get ls i z gd.2.2.2.2.2 hi
    show isPth _ (cps z) = false
    unfold isPth
    rw [cutR_none (name_46 zok)]
    show decide (SX.S (cps z) ∈ fs) = false
    rw [S_cps]
    exact decide_eq_false fun h => dis z h z hz rfl
/-! ### sorted numbers -/
theorem sorted_same : ∀ {ms ns : List Int}, ms.Pairwise (· < ·) → ns.Pairwise (· < ·) → (∀ k, k ∈ ms ↔ k ∈ ns) → ms = ns
  | [], [], _, _, _ => rfl
  | [], n :: ns, _, _, h => by have := (h n).mpr (List.mem_cons_self ..); cases this
  | m :: ms, [], _, _, h => by have := (h m).mp (List.mem_cons_self ..); cases this
  | m :: ms, n :: ns, h1, h2, h => by
    have a := List.pairwise_cons.mp h1
    have b := List.pairwise_cons.mp h2
    have e : m = n := by
      rcases List.mem_cons.mp ((h m).mp (List.mem_cons_self ..)) with z | z
      · exact z
      · rcases List.mem_cons.mp ((h n).mpr (List.mem_cons_self ..)) with y | y
        · exact y.symm
        · have := a.1 n y
          have := b.1 m z
          omega
    subst e
    rw [sorted_same a.2 b.2 fun k => ?_]
    constructor
    · intro hk
      rcases List.mem_cons.mp ((h k).mp (List.mem_cons_of_mem _ hk)) with z | z
      · have := a.1 k hk
        omega
      · exact z
    · intro hk
      rcases List.mem_cons.mp ((h k).mpr (List.mem_cons_of_mem _ hk)) with z | z
      · have := b.1 k hk
        omega
      · exact z
/-! ### levels whose fields are the outer one's first -/
def relv (f : Str) : Lev → Lev
  | .mk fs ls => if f ∈ ls.names then .mk fs ls else .mk [f] ls
def relL (f : Str) : LevL → LevL
  | .nil => .nil
  | .cons n l r => .cons n (relv f l) (relL f r)
theorem relv_eq (f : Str) (fs : List Str) (ls : LevL) : relv f (.mk fs ls) = if f ∈ ls.names then .mk fs ls else .mk [f] ls := by rw [relv]
theorem relL_names (f : Str) : ∀ r : LevL, (relL f r).names = r.names
  | .nil => rfl
  | .cons n l r => by rw [relL, LevL.names, LevL.names, relL_names f r]
theorem relv_depth (f : Str) (l : Lev) : (relv f l).depth = l.depth := by
  obtain ⟨fs, ls⟩ := l
  rw [relv_eq]
  by_cases c : f ∈ ls.names
  · rw [if_pos c]
  · rw [if_neg c, Lev.depth, Lev.depth]
theorem relL_depth (f : Str) : ∀ r : LevL, (relL f r).depth = r.depth
  | .nil => rfl
  | .cons n l r => by rw [relL, LevL.depth, LevL.depth, relv_depth, relL_depth f r]
theorem relv_good {f : Str} (hf : NameOk f) {l : Lev} (g : l.good) : (relv f l).good := by
  obtain ⟨fs, ls⟩ := l
  rw [relv_eq]
  by_cases h : f ∈ ls.names
  · rw [if_pos h]; exact g
  · rw [if_neg h]
    rw [Lev.good] at g ⊢
    refine ⟨by show 0 < 1; decide, by show 1 ≤ 3; decide, fun n hn => by rw [List.mem_singleton.mp hn]; exact hf, ?_, g.2.2.2.2.1, g.2.2.2.2.2⟩
    show (f :: ls.names).Nodup
    exact List.nodup_cons.mpr ⟨h, (List.nodup_append.mp g.2.2.2.1).2.1⟩
theorem relL_good {f : Str} (hf : NameOk f) : ∀ {r : LevL}, r.good → (relL f r).good
  | .nil, _ => by rw [relL]; rw [LevL.good]; exact True.intro
  | .cons n l r, g => by
    rw [LevL.good] at g
    rw [relL, LevL.good]
    exact ⟨g.1, relv_good hf g.2.1, relL_good hf g.2.2⟩
theorem relL_sub (f z : Str) : ∀ r : LevL, r.sub z = none → (relL f r).sub z = none
  | .nil, _ => by rw [relL]; rfl
  | .cons n l r, h => by
    rw [LevL.sub] at h
    rw [relL, LevL.sub]
    by_cases c : n = z
    · rw [if_pos c] at h; cases h
    · rw [if_neg c] at h ⊢
      exact relL_sub f z r h
theorem relL_get (f : Str) : ∀ (r : LevL) (i : Nat) (n : Str) (k : Lev), r.names[i]? = some n → r.levs[i]? = some k → (relL f r).dats[i]? = some (.tuple [.str n, (relv f k).dat])
  | .nil, i, n, k, h, _ => by rw [LevL.names] at h; simp at h
  | .cons m l r, 0, n, k, h1, h2 => by
    rw [LevL.names] at h1; rw [LevL.levs] at h2
    cases (Option.some.inj h1); cases (Option.some.inj h2)
    rw [relL, LevL.dats]; rfl
  | .cons m l r, i + 1, n, k, h1, h2 => by
    rw [LevL.names] at h1; rw [LevL.levs] at h2
    rw [relL, LevL.dats]
    exact relL_get f r i n k h1 h2

/-! Any text as a path: the plain law. -/
theorem spl_nil46 : ∀ (w acc : List Nat), TL.spl [46] 0 acc w ≠ []
  | [], acc => by
    show [acc] ≠ []
    exact List.cons_ne_nil _ _
  | c :: r, acc => by
    show (if TL.pre [46] (c :: r) = true then acc :: TL.spl [46] 0 [] r else TL.spl [46] 0 (acc ++ [c]) r) ≠ []
    by_cases h : TL.pre [46] (c :: r) = true
    · rw [if_pos h]; exact List.cons_ne_nil _ _
    · rw [if_neg h]; exact spl_nil46 r _
theorem join_spl46 : ∀ (w acc : List Nat), TL.joinL [46] (TL.spl [46] 0 acc w) = acc ++ w
  | [], acc => by
    show acc = acc ++ []
    rw [List.append_nil]
  | c :: r, acc => by
    show TL.joinL [46] (if TL.pre [46] (c :: r) = true then acc :: TL.spl [46] 0 [] r else TL.spl [46] 0 (acc ++ [c]) r) = _
    by_cases h : TL.pre [46] (c :: r) = true
    · rw [if_pos h]
      have hc : c = 46 := by
        have h : (([c] : List Nat) == [46]) = true := h
        exact (List.cons.inj (beq_iff_eq.mp h)).1
      have ih := join_spl46 r []
      cases e : TL.spl [46] 0 [] r with
      | nil => exact (spl_nil46 r [] e).elim
      | cons x y =>
        rw [e] at ih
        show acc ++ ([46] ++ TL.joinL [46] (x :: y)) = _
        rw [ih, hc]
        simp
    · rw [if_neg h, join_spl46 r]
      simp
theorem map_cps_S (ws : List (List Nat)) : (ws.map SX.S).map cps = ws := by
  rw [List.map_map]
  exact List.map_id _
theorem pnames_join {w : List Nat} (h : w ≠ []) : TL.joinL [46] ((pnames w).map cps) = w := by
  unfold pnames
  rw [if_neg h, map_cps_S, join_spl46]
  rfl
theorem pnames_ne {w : List Nat} (h : w ≠ []) : pnames w ≠ [] := by
  unfold pnames
  rw [if_neg h]
  exact fun e => spl_nil46 w [] (List.map_eq_nil_iff.mp e)
theorem cutR_inv {c : Nat} : ∀ {w p q : List Nat}, cutR c w = some (p, q) → w = p ++ c :: q
  | [], _, _, h => by cases h
  | d :: r, p, q, h => by
    rw [cutR] at h
    cases e : cutR c r with
    | some pq =>
      rw [e] at h
      cases (Option.some.inj h)
      rw [cutR_inv (p := pq.1) (q := pq.2) e]
      rfl
    | none =>
      rw [e] at h
      by_cases k : d = c
      · rw [if_pos k] at h
        cases (Option.some.inj h)
        rw [k]; rfl
      · rw [if_neg k] at h; cases h
theorem sub_blk : ∀ (r : LevL) (z : Str) (m : Lev), r.sub z = some m → ∃ b, b ∈ r.blks ∧ b = [z] :: m.lsts.map (fun ns => z :: ns)
  | .nil, z, m, h => by rw [LevL.sub] at h; cases h
  | .cons n l r, z, m, h => by
    rw [LevL.sub] at h
    rw [LevL.blks]
    by_cases c : n = z
    · rw [if_pos c] at h
      cases (Option.some.inj h)
      subst c
      exact ⟨_, List.mem_cons_self .., rfl⟩
    · rw [if_neg c] at h
      obtain ⟨b, hb, e⟩ := sub_blk r z m h
      exact ⟨b, List.mem_cons_of_mem _ hb, e⟩
theorem mem_lsts : ∀ (r : List Str) (l k : Lev) (z : Str), lvAt l (z :: r) = some k → z :: r ∈ l.lsts
  | r, .mk fs ls, k, z, h => by
    have h : (match ls.sub z with | some m => lvAt m r | none => none) = some k := h
    rw [Lev.lsts]
    cases e : ls.sub z with
    | none => (rw [e] at h; cases h)
    | some m =>
      rw [e] at h
      have h : lvAt m r = some k := h
      obtain ⟨b, hb, eb⟩ := sub_blk ls z m e
      refine List.mem_flatten.mpr ⟨b, hb, ?_⟩
      rw [eb]
      match r, h with
      | [], _ => exact List.mem_cons_self ..
      | y :: r, h => exact List.mem_cons_of_mem _ (List.mem_map.mpr ⟨y :: r, mem_lsts r m k y h, rfl⟩)
/-- the texts of the lists of a level -/
def hds (l : Lev) : List Str := l.lsts.map fun ns => Txt.join "." ns
theorem hds_of {l k : Lev} {w : List Nat} (ne : w ≠ []) (h : lvAt l (pnames w) = some k) : SX.S w ∈ hds l ∧ pnames w ∈ l.lsts := by
  have m : pnames w ∈ l.lsts := by
    cases e : pnames w with
    | nil => exact (pnames_ne ne e).elim
    | cons z r => rw [e] at h; exact mem_lsts r l k z h
  refine ⟨List.mem_map.mpr ⟨_, m, ?_⟩, m⟩
  rw [join_names, pnames_join ne]
theorem lsts_ne : ∀ (l : Lev) (ns : List Str), ns ∈ l.lsts → ns ≠ []
  | .mk fs ls, ns, h => by
    rw [Lev.lsts] at h
    obtain ⟨b, hb, hn⟩ := List.mem_flatten.mp h
    have blk : ∀ (r : LevL) (b : List (List Str)), b ∈ r.blks → ∀ ns, ns ∈ b → ns ≠ [] := fun r => by
      induction r using LevL.rec (motive_1 := fun _ => True) with
      | mk _ _ _ => exact True.intro
      | nil => intro b hb; rw [LevL.blks] at hb; cases hb
      | cons n l r _ ih =>
        intro b hb ns hn
        rw [LevL.blks] at hb; rcases List.mem_cons.mp hb with rfl | hb
        · rcases List.mem_cons.mp hn with rfl | hn
          · exact List.cons_ne_nil _ _
          · obtain ⟨ms, _, rfl⟩ := List.mem_map.mp hn
            exact List.cons_ne_nil _ _
        · exact ih b hb ns hn
    exact blk ls b hb ns hn
/-- a list's text: its level -/
theorem hds_at {l : Lev} (gd : l.good) {p : Str} (h : p ∈ hds l) : ∃ w ns k, p = SX.S w ∧ w ≠ [] ∧ ns ∈ l.lsts ∧ w = TL.joinL [46] (ns.map cps) ∧ pnames w = ns ∧ lvAt l ns = some k := by
  obtain ⟨ns, hn, rfl⟩ := List.mem_map.mp h
  obtain ⟨k, hk⟩ := lsts_at l gd ns hn
  have ok := lsts_ok l gd ns hn
  exact ⟨_, ns, k, join_names ns, joinL46_ne (lsts_ne l ns hn) ok, hn, rfl, pnames_names ok, hk⟩
theorem isPth_iff {l : Lev} (gd : l.good) (h9 : l.depth ≤ 9) (w : List Nat) : isPth l w = decide (SX.S w ∈ pths l) := by
  by_cases c : SX.S w ∈ pths l
  · rw [decide_eq_true c]
    exact pths_is gd h9 c
  · rw [decide_eq_false c]
    cases e : isPth l w with
    | false => rfl
    | true =>
      refine (c ?_).elim
      unfold isPth at e
      unfold pths
      cases hc : cutR 46 w with
      | none =>
        rw [hc] at e
        exact List.mem_append_left _ (of_decide_eq_true e)
      | some pq =>
        obtain ⟨p, q⟩ := pq
        rw [hc] at e
        have e : (if p = [] then false else match lvAt l (pnames p) with | some k => decide (SX.S q ∈ k.fs) | none => false) = true := e
        by_cases hp : p = []
        · rw [if_pos hp] at e; cases e
        · rw [if_neg hp] at e
          cases hk : lvAt l (pnames p) with
          | none => (rw [hk] at e; cases e)
          | some k =>
            rw [hk] at e
            have e : SX.S q ∈ k.fs := of_decide_eq_true e
            refine List.mem_append_right _ (List.mem_flatten.mpr ⟨pthsAt l (pnames p), List.mem_map.mpr ⟨_, (hds_of hp hk).2, rfl⟩, ?_⟩)
            unfold pthsAt
            rw [hk]
            refine List.mem_map.mpr ⟨SX.S q, e, ?_⟩
            rw [join_names, joinL46_snoc _ (pnames_ne hp), pnames_join hp, cutR_inv hc]
theorem joinL_le46 : ∀ ns : List Str, (TL.joinL [46] (ns.map cps)).length ≤ (ns.map (·.length)).sum + ns.length * ("." : Str).length
  | [] => Nat.zero_le _
  | [z] => by
    show (cps z).length ≤ z.length + 0 + 1 * 1
    have : (cps z).length = z.length := Array.length_toList ..
    omega
  | z :: y :: r => by
    have ih := joinL_le46 (y :: r)
    have e : (cps z).length = z.length := Array.length_toList ..
    have k1 : ("." : Str).length = 1 := rfl
    rw [k1] at ih ⊢
    show (cps z ++ ([46] ++ TL.joinL [46] ((y :: r).map cps))).length ≤ (z.length + ((y :: r).map (·.length)).sum) + ((y :: r).length + 1) * 1
    rw [List.length_append, List.length_append]
    show _ + (1 + _) ≤ _
    omega

/-! try: .. except (A, B, C) as n: ..; what an except suite reads of the error; a def called there. -/
/-- e.n, e the error that is handled: at a, of the class cls, its dict at d -/
def tXfA (K : PySem.W.Frag) (a : Addr) (cls : Value) (d : Option Addr) (n : Str) (te : TE) : TE := fun σ H Q => te σ H fun x H1 => x = .ref a ∧
  ∃ (C dd : Addr) (fs : List (Str × V)) (v : V), cls = .ref C ∧ XfC K C ∧ PySem.W.findIn K (.ref C) n = some none ∧ d = some dd ∧ H1 dd = some (.xd fs) ∧ fs.lookup n = some v ∧ Q v H1
section
variable {X : Cx} {a : Addr} {oe : Obj} {cls : Value} {d : Option Addr} {e : Expr} {te : TE} {pos : Pos} {n : Str}
theorem pe_xfA (hp : (a, oe) ∈ X.pn) (hz : Zc cls d oe) (hf : ∃ vs, oe.data = .fields vs) (he : PE X e te) (hb : attributeBase e n X.env (eval e X.env) = eval e X.env := by rfl) : PE X (.Attribute e n pos) (tXfA X.K a cls d n te) := by
  refine ⟨fun pins s σ H Q I h => attr_of hb (thn (he.run pins s σ H _ I h) fun u s1 ⟨x, H1, I1, rx, ex, C, dd, fs, v, ec, T, hno, ed, ea, l, q⟩ => ?_)⟩
  subst ex ec ed; obtain rfl : u = Value.ref a := rx
  have ha := (I1.pin (a, oe) (List.mem_append_left _ hp)).1
  obtain ⟨vs, hd⟩ := hf; obtain ⟨mA, hns, hr⟩ := (show ObjOk X.prog X.w H1 s1.heap dd (.xd fs) from I1.hok dd _ ea)
  obtain ⟨od, ho, hl⟩ := lookIn_ns hns; obtain ⟨u, hu, ru⟩ := RelO.some_of (v := v) (o := mA n) (by rw [← l]; exact hr n); have J : PySem.W.InstAt s1.heap a oe C (some od) := ⟨ha, hz.1, by unfold PySem.W.notCls; rw [hd] <;> rfl, by rw [hz.2]; exact ho⟩; exact HandSPX.exc_get I1.kIn J T.ga T.gg T.exC (PySem.W.findObj_own T.hdC hno rfl (by rw [hl, hu])) (handed_of ru) ⟨v, H1, I1.tok _, ru, q⟩
end
/-! ### a def called while an error is handled -/
structure FnE (P : Program) (w : World) (K : PySem.W.Frag) (mg : Str → Option Value) (base : Heap) (k : Nat) (f : Addr) (fd : FuncData) (ps : List Str) (sp : Addr → Value → Option Addr → Sp) : Prop where
  len : ∀ a cls d vs H Q E, sp a cls d vs H Q E → vs.length = ps.length
  run : ∀ (A : Around) (outer : List Env) (s : Shared) (H : Hp) (args : Args) (us : List Value) (vs : List V) (Q : VK) (p : Addr × Obj) (cls : Value) (d : Option Addr), L2H.RoomH k A → L2H.PinOk outer H s p → Zc cls d p.2 → (∃ vs, p.2.data = .fields vs) → Env0 P w K mg base A outer s H → BindsTo s fd args (ps.zip us) → Vals vs us →
    sp p.1 cls d vs H Q C8.E0 → codeAny (model P w) A (.call (.ref f) args) (CR C8.CX0 outer P w H s Q C8.E0) s
theorem fnE_of {P : Program} {w : World} {K : PySem.W.Frag} {mg : Str → Option Value} {base : Heap} {k : Nat} {f : Addr} {name qual : Str} {params : Arguments} {body : List Stmt} {scope : Scope} {dV kV doc pm cdv ct oc : Value} {an od : Option Addr} {osl : Array (Option Value)} {N ps : List Str} {sp : Addr → Value → Option Addr → Sp}
    (lk : K.lookup f = some ⟨oc, od, .func (PySem.W.fnOf name qual params body scope dV kV doc pm an cdv ct), osl⟩) (hcd : PySem.W.codeIn K cdv qual = true) (S : FnScope N ps scope) (len : ∀ a cls d vs H Q E, sp a cls d vs H Q E → vs.length = ps.length)
    (hbody : ∀ (A : Around) (outer : List Env) (s : Shared) (H : Hp) (vs : List V) (Q : VK) (p : Addr × Obj) (cls : Value) (d : Option Addr), (A.deeper (envOfC qual scope s.heap.objs.size f cdv)).units + 64 < cLine → Zc cls d p.2 → (∃ vs, p.2.data = .fields vs) → sp p.1 cls d vs H Q C8.E0 →
      ∃ t, PSs (L2H.cxH C8.CX0 P w K mg base N qual scope f cdv A outer s H C8.E0 p).nox body t ∧ t { nx := fun _ H' => Q .non H', rt := Q } (L2.start N vs) H) :
    FnE P w K mg base (k + 1) f (PySem.W.fnOf name qual params body scope dV kV doc pm an cdv ct) ps sp := by
  refine ⟨len, fun A outer s H args us vs Q p cls d hr hpin hz hf e0 hb r hsp => ?_⟩
  have hl := len _ _ _ _ _ _ _ hsp; have kin : K.In s.heap := e0.mod.kin.keeps fun b o e => (e0.bs b o e).1
  have nol : s.heap.NoLimit := e0.mod.nolimit.keeps fun b o e => (e0.bs b o e).1
  have kinds : ∀ y ∈ ps.zip us, scope.names.lookup y.1 = some .local ∨ (scope.names.lookup y.1 = some .cell ∧ ((cellsFrom (s.heap.objs.size + 1) scope.names []).lookup y.1).isSome = true) := fun ⟨n, v⟩ hy =>
    (S.par n (List.of_mem_zip hy).1).imp id fun q => ⟨q, PySem.W.cellsFrom_some _ _ _ (.inl q)⟩
  refine codeAny_call_function hr.depth (kin _ _ lk) rfl S.co S.gen rfl (PySem.W.codeRec_of kin hcd) (hb _ _ _ _ (wpAny_newFunctionEnv_cells S.kind kinds fun env he s1 x => ?_))
  subst he
  refine ⟨nol.keeps x.toInCall.keep, codeAny_func ?_⟩
  obtain ⟨t, ht, hq⟩ := hbody A outer s H vs Q p cls d (by have := (hr.deeper (envOfC qual scope s.heap.objs.size f cdv)).un; omega) hz hf hsp
  have I : Inv (L2H.cxH C8.CX0 P w K mg base N qual scope f cdv A outer s H C8.E0 p) [] (L2.start N vs) H s1 := L2H.inv_startH S hpin e0 hl r x
  refine wpAny_mono (ht.nox.run [] s1 (L2.start N vs) H _ I hq) (fun fl s' hs => ?_) fun e s' hs => hs
  cases fl with
  | ret u => obtain ⟨v, σ', H', J, rv, q⟩ := hs; exact ⟨v, H', J.os, J.bare, J.base, J.hok, rv, q⟩
  | next => obtain ⟨σ', H', J, q⟩ := hs; exact ⟨V.non, H', J.os, J.bare, J.base, J.hok, rfl, q⟩
  | brk => exact hs.choose_spec.choose_spec.2.elim
  | cont => exact hs.choose_spec.choose_spec.2.elim
/-- x(e), in an except suite: the def reads the error -/
def tCallE (sp : Sp) (ta : TA) : TE := fun σ H Q => ta σ H fun vs H1 => sp vs H1 Q C8.E0
theorem pe_callE {X : Cx} {a : Addr} {oe : Obj} {cls : Value} {d : Option Addr} {k : Nat} {f : Addr} {fd : FuncData} {ps : List Str} {sp : Addr → Value → Option Addr → Sp} {x : Str} {q pos : Pos} {e : Expr} {es : List Expr} {t : TA} (F : FnE X.prog X.w X.K X.mg X.base k f fd ps sp) (hr : L2H.RoomH k X.A)
    (hp : (a, oe) ∈ X.pn) (hz : Zc cls d oe) (hf : ∃ vs, oe.data = .fields vs) (hg : Gl X x) (hm : X.mg x = some (.ref f)) (hk : PySem.W.keepIn X.K (.ref f) = true) (hb : Binds X.K fd ps []) (ha : PA X (e :: es) t) (hdb : (x == ("__debug__" : Str)) = false := by decide)
    (he : starEach (e :: es) X.env = (false, eval e X.env) :: starEach es X.env := by rfl) (hpl : (backTo pos (starEach es X.env)).any (·.1) = false := by rfl) : PE X (.Call (.Name x q) (e :: es) [] pos) (tCallE (sp a cls d) t) := by
  refine ⟨fun pins s σ H Q I h => wpAny_Call_Name_kw (ld_glob I hg hm ?_ hdb)⟩
  refine PySem.W.callWith_K (h₀ := X.base) I.ok.mod.kin hk (thn (ha.run pos pins s σ H _ I h) fun us s1 ⟨vs, H1, I1, r, q⟩ => ⟨I1.kIn, ?_⟩) he hpl; have hl : us.length = ps.length := by rw [← r.length]; exact F.len _ _ _ _ _ _ _ q
  have b := hb s1 us I1.kIn (by rw [List.append_nil]; exact hl); rw [List.append_nil] at b
  have P1 := I1.pin (a, oe) (List.mem_append_left _ hp)
  have hpin : L2H.PinOk X.stack H1 s1 (a, oe) := ⟨P1.1, P1.2.1, fun hm => (List.mem_cons.mp (I1.stkSub a hm)).elim P1.2.2.1 P1.2.2.2.1, P1.2.2.2.2⟩
  refine wpAny_call (codeAny_mono (F.run X.A X.stack s1 H1 ⟨us, []⟩ us vs Q (a, oe) cls d hr hpin hz hf I1.env0 b r q) fun r s' hq => ?_)
  cases r with
  | error _ => exact False.elim hq
  | ok fl => cases fl <;> first | exact I1.after hq | exact False.elim hq
/-! ### except (x1, x2, x3) as n -/
theorem flyZ_keeps {B h h' : Heap} {l : List Env} {e : Addr} {Z : Obj → Prop} (R : HandSPX.FlyingZ B l e Z h) (k : ∀ b o, h.get? b = some o → h'.get? b = some o) : HandSPX.FlyingZ B l e Z h' := by
  obtain ⟨f1, f2, f3, oe, vs, T, oT, ts, he, hz, hd, h1, hn, hne, hT, hdT, h3⟩ := R
  exact ⟨fun b o q => k b o (f1 b o q), f2, f3.of_keeps fun b o q _ => ⟨o, k b o q, rfl⟩, oe, vs, T, oT, ts, k _ _ he, hz, hd, h1, hn, hne, k _ _ hT, hdT, h3⟩
/-- what the clause wishes: slot i is n's -/
def wAsT (K : PySem.W.Frag) (cs : List Value) (i : Nat) (ts : Addr → Value → Option Addr → TS) (D : Ends) : WX := fun cls d σ H =>
  PySem.W.exmAny K cls cs = some true ∧ ∀ a, H a = none → ts a cls d { nx := fun σ' H' => D.nx (σ'.set i none) H', rt := D.rt, bk := fun σ' H' => D.bk (σ'.set i none) H', ct := fun σ' H' => D.ct (σ'.set i none) H' } (σ.set i (some (.ref a))) H
section
variable {X : Cx} {x1 x2 x3 n : Str} {c1 c2 c3 : Value} {i kk : Nat} {body suite : List Stmt} {b₀ : Stmt} {p1 p2 p3 tpos pos pos' : Pos} {tb : WX → TS} {ts : Addr → Value → Option Addr → TS}
theorem ps_try_asT (hs : X.stack = X.env :: X.outer) (hf : X.env.frame = some X.env.locals) (hN : X.N.Nodup) (hi : X.N[i]? = some n) (hln : X.env.kindOf n = some .local) (hc1 : Names X x1 c1) (hc2 : Names X x2 c2) (hc3 : Names X x3 c3)
    (hb : ∀ (W : WX) (pn : List (Addr × Obj)) (xe : Value → Shared → Prop), Takes (X.tr pn xe) W → PSs (X.tr pn xe) body (tb W))
    (hsu : ∀ (a : Addr) (oe : Obj) (cls : Value) (d : Option Addr) (more : List (Addr × Obj)), Zc cls d oe → (∃ vs, oe.data = .fields vs) → PSs (X.suite a ((a, oe) :: more)) (b₀ :: suite) (ts a cls d)) :
    PS X (.Try body [.ExceptHandler (some (.Tuple [.Name x1 p1, .Name x2 p2, .Name x3 p3] kk tpos)) (some n) (b₀ :: suite) pos'] [] [] pos) (fun D σ H => tb (wAsT X.K [c1, c2, c3] i ts D) D σ H) := by
  refine ⟨fun pins s σ H D I h => wpAny_Try_except ?_⟩
  have ok := I.ok; have hfr : X.A.frames = some (X.env :: X.outer) := by rw [ok.frames, hs]
  refine wpAny_mono ((hb (wAsT X.K [c1, c2, c3] i ts D) (X.pn ++ pins) (fun e s₁ => wpAny (model X.prog X.w) X.A (noteFrame e X.env) (fun _ s₂ => wpAny (model X.prog X.w) X.A (setFlight e none) (fun _ s₃ =>
    wpAny (model X.prog X.w) X.A (handleBy e X.env [.ExceptHandler (some (.Tuple [.Name x1 p1, .Name x2 p2, .Name x3 p3] kk tpos)) (some n) (b₀ :: suite) pos']) (SP X pins D) X.xe s₃) X.xe s₂) X.xe s₁) (fun u s' xx => ?_)).run [] s σ H D (I.toTry _) h) (fun f s1 hsp => ?_) (fun e s1 he => he)
  · obtain ⟨a, B, sI, pins', σ', H', cls, d, rfl, J', nb, up, sky, na, os, ag, hit, yes⟩ := xx
    have J : Inv X pins σ' H' sI := J'.ofTry ok; have sky' : Sky B (X.env :: X.outer) a (Zc cls d) X.env.locals s'.heap := by rw [← hs]; exact sky
    refine Sky.land Zc.steady hfr hf sky' fun h3 fl3 up3 => ?_; have J3 : Inv X pins σ' H' { s' with heap := h3 } := J.landed nb fl3.1 (up.trans up3) os ag; obtain ⟨oe3, vs3, he3, hz3, hd3⟩ := fl3.there
    have nfr : a ∉ frs (X.env :: X.outer) := fun hm => by obtain ⟨_, o', e', hnf⟩ := fl3.2.2.1.mem hm; rw [he3] at e'; cases e'; exact hnf _ hd3
    obtain ⟨nL, nF⟩ : a ≠ X.env.locals ∧ a ∉ X.fs := ⟨fun z => nfr (List.mem_filterMap.mpr ⟨X.env, List.mem_cons_self, by rw [hf, z]⟩), fun hm => by obtain ⟨e, he, q⟩ := List.mem_filterMap.mp hm; exact nfr (List.mem_filterMap.mpr ⟨e, List.mem_cons_of_mem _ he, q⟩)⟩
    have S3 := J3.suite he3 hd3 na nL nF; refine wpAny_handleBy_cons (codeAny_handlers_test ?_) (fun q => nomatch q)
    have name : ∀ {x : Str} {c : Value} {p : Pos} {Q : Value → Shared → Prop} {E : Value → Shared → Prop}, Names X x c → Q c { s' with heap := h3 } → wpAny (model X.prog X.w) (X.A.mark (some (.ref a))) (eval (.Name x p) X.env) Q E { s' with heap := h3 } := fun hc q => by
      rcases hc.2.2 with own | ⟨none', boot, other⟩
      · exact ld_glob S3 hc.1 own q hc.2.1
      · exact ld_blt S3 hc.1 none' boot q other hc.2.1
    refine wpAny_Tuple (wpAny_items_cons (name hc1 (wpAny_items_cons (name hc2 (wpAny_items_cons (name hc3 (wpAny_items_nil ⟨by size_fits, ?_⟩)))))))
    have kp : ∀ q o, h3.get? q = some o → (h3.push { cls := .type "tuple", data := .seq [c1, c2, c3].toArray }).get? q = some o := fun _ _ z => Heap.get?_push_of_some _ z
    have LT : PySem.W.Looks (model X.prog X.w) (h3.push { cls := .type "tuple", data := .seq [c1, c2, c3].toArray }) (typeOf (.ref a)) cls := fun A Q E s k q => wpAny_typeOf_ref (k _ _ (kp _ _ he3)) (by rw [hz3.1]; exact q)
    refine (PySem.W.exm_tup3 (J3.kIn.keeps kp) LT (Heap.get?_push_size h3 rfl) hit).here ?_
    refine codeAny_handlers_suite_as (HandSPX.lands_againZ (flyZ_keeps fl3 kp) fun h4 fl4 up4 => ?_)
    have J4 : Inv X pins σ' H' { s' with heap := h4 } := J.landed nb fl4.1 (((up.trans up3).trans (Heap.UpToSlots.of_keeps kp)).trans up4) os ag
    obtain ⟨oe4, vs4, he4, hz4, hd4⟩ := fl4.there; refine store_ok (X := X.suite a ((a, oe4) :: (X.pn ++ pins))) (v := .ref a) (J4.suite he4 hd4 na nL nF) hN hi (.inl hln) rfl (fun s5 S5 => ?_) (.inr hln)
    refine wpAny_mono ((hsu a oe4 cls d (X.pn ++ pins) hz4 ⟨_, hd4⟩).run [] s5 _ H' _ S5 (yes a na)) (fun f s6 hsp => ?_) (fun _ _ z => False.elim z)
    have gone : ∀ {σ6 : L2.St} {H6 : Hp} {Q : Shared → Prop}, Inv (X.suite a ((a, oe4) :: (X.pn ++ pins))) [] σ6 H6 s6 → (∀ s7, Inv X pins (σ6.set i none) H6 s7 → Q s7) → wpAny (model X.prog X.w) X.A (do bindName X.env n .none; unbindBehindTheSuite X.env n pos') (fun _ s7 => Q s7) X.xe s6 :=
      fun {σ6 H6 Q} S6 hq => gone_ok (S6.unsuite ok) hN hi hln hq
    cases f with
    | ret u => obtain ⟨v6, σ6, H6, S6, r6, q6⟩ := hsp; exact gone S6 fun s7 J7 => ⟨_, _, _, J7, r6, q6⟩
    | next => obtain ⟨σ6, H6, S6, q6⟩ := hsp; exact gone S6 fun s7 J7 => ⟨_, _, J7, q6⟩
    | brk => obtain ⟨σ6, H6, S6, q6⟩ := hsp; exact gone S6 fun s7 J7 => ⟨_, _, J7, q6⟩
    | cont => obtain ⟨σ6, H6, S6, q6⟩ := hsp; exact gone S6 fun s7 J7 => ⟨_, _, J7, q6⟩
  · cases f with
    | ret u => obtain ⟨v, σ', H', J', r, q⟩ := hsp; exact ⟨v, σ', H', J'.ofTry ok, r, q⟩
    | next => obtain ⟨σ', H', J', q⟩ := hsp; exact wpAny_execs_nil ⟨σ', H', J'.ofTry ok, q⟩
    | brk => obtain ⟨σ', H', J', q⟩ := hsp; exact ⟨σ', H', J'.ofTry ok, q⟩
    | cont => obtain ⟨σ', H', J', q⟩ := hsp; exact ⟨σ', H', J'.ofTry ok, q⟩
end

/-! lambda: e and lambda a=0: e as values; what calling one asks; a def that calls what it got in a try. -/
/-- a lambda's text: no parameter (dflt = false), or one with the default 0 -/
structure LamTx where
  params : Arguments
  body : Expr
  scope : Scope
  dflt : Bool
/-- its names, within a def of the names N and the scope sc -/
structure LamN (N : List Str) (sc : Scope) (T : LamTx) (mk : List Nat) : Prop where
  kind : T.scope.kind = .function
  co : T.scope.isCoroutine = false
  gen : T.scope.isGenerator = false
  nocell : ∀ y ∈ T.scope.names, y.2 ≠ .cell
  own : ∀ y ∈ T.scope.names, y.2 = .local → ∀ i : Nat, N[i]? = some y.1 → i ∈ mk
  free : ∀ y ∈ T.scope.names, y.2 = .free → sc.names.lookup y.1 = some .cell ∨ sc.names.lookup y.1 = some .free
  kwo : T.params.kwonlyargs = []
  d0 : T.dflt = false → (∀ env, defaultsOf T.params env = ([], [])) ∧ ∀ (q : Str) (cl : List (Str × Addr)) (doc pm cv ctv : Value), bindArgs (PySem.W.kdv_fn "<lambda>" q T.params (.expr T.body) T.scope cl .none doc pm cv ctv) ⟨[], []⟩ = pure []
  d1 : T.dflt = true → (∃ (k : Nat) (p : Pos), ∀ env, defaultsOf T.params env = ([eval (.Constant (.int 0) k p) env], [])) ∧ ∃ nm, T.scope.names.lookup nm = some .local ∧ ∀ (D : Addr) (q : Str) (cl : List (Str × Addr)) (doc pm cv ctv : Value) (tk : Tok),
    ∃ k, bindArgs (PySem.W.kdv_fn "<lambda>" q T.params (.expr T.body) T.scope cl (.ref D) doc pm cv ctv) ⟨[], []⟩ = seqItems? (.ref D) >>= k ∧ k (some #[.int 0 tk]) = pure [(nm, .int 0 tk)]
def lamNB (N : List Str) (sc : Scope) (T : LamTx) (mk : List Nat) : Bool :=
  decide (T.scope.kind = .function) && !T.scope.isCoroutine && !T.scope.isGenerator && T.scope.names.all fun y => !decide (y.2 = .cell) && (!decide (y.2 = .local) || (List.range N.length).all fun i => !decide (N[i]? = some y.1) || decide (i ∈ mk)) && (!decide (y.2 = .free) || decide (sc.names.lookup y.1 = some .cell) || decide (sc.names.lookup y.1 = some .free))
/-- the function object, its code at c, the tuple of its defaults at D -/
def lamO (X : Cx) (T : LamTx) (f c D : Addr) : HO := .ext fun h => ∃ doc pm ctv, h.get? f = some (PySem.W.kdv_obj "<lambda>" (X.env.qual ++ "<lambda>") T.params (.expr T.body) T.scope (cloFrom X.env.cells T.scope.names []) (if T.dflt then .ref D else .none) doc pm c ctv)
/-- what readings know of a def's lambdas: the table of its code objects at P, their name q, the objects, which have a default -/
structure LamW where
  P : Addr
  q : Str
  o : Nat → Addr → Addr → Addr → HO
  d : Nat → Bool
def LamW.codes (lw : LamW) (H : Hp) (ps : Array Value) : Prop := TriplesOk ps.toList ∧ ∀ (pos : Pos) (cv : Value), codeAmong pos ps.toList = some cv → ∃ c, cv = .ref c ∧ H c = some (LamX.CodeO c lw.q)
/-- the i-th lambda stands at f -/
def LamAt (lw : LamW) (i : Nat) (H : Hp) (f : Addr) : Prop := ∃ c D, H f = some (lw.o i f c D) ∧ H c = some (LamX.CodeO c lw.q) ∧ (lw.d i = true → H D = some (.tup [.int 0]))
theorem LamAt.ex {lw : LamW} {i : Nat} {H H' : Hp} {f : Addr} (e : Ex H H') (h : LamAt lw i H f) : LamAt lw i H' f := have ⟨c, D, h1, h2, h3⟩ := h; ⟨c, D, e _ _ h1, e _ _ h2, fun z => e _ _ (h3 z)⟩
/-- behind the making of the i-th lambda, at f -/
structure LamNew (lw : LamW) (i : Nat) (H : Hp) (ps : Array Value) (f : Addr) (H1 : Hp) : Prop where
  ex : ∃ (H0 H2 : Hp) (ps' : Array Value) (c D : Addr), ((lw.d i = false ∧ H0 = H) ∨ (lw.d i = true ∧ H D = none ∧ H0 = upd H D (.tup [.int 0]))) ∧
    ((H2 = H0 ∧ ps' = ps ∧ ∃ pos, codeAmong pos ps.toList = some (.ref c)) ∨ (H0 c = none ∧ H2 = upd (upd H0 lw.P (.tbl ps')) c (LamX.CodeO c lw.q) ∧ TriplesOk ps'.toList ∧ ∀ (pos : Pos) (cv : Value), codeAmong pos ps'.toList = some cv → codeAmong pos ps.toList = some cv ∨ cv = .ref c)) ∧
    H2 f = none ∧ H1 = upd H2 f (lw.o i f c D)
def tLamE (lw : LamW) (i : Nat) : TE := fun _ H Q => ∃ ps, H lw.P = some (.tbl ps) ∧ lw.codes H ps ∧ ∀ f H1, LamNew lw i H ps f H1 → Q (.ref f) H1
/-- such a making, over what stays -/
theorem LamNew.stt {lw : LamW} {i j : Nat} {G H H1 : Hp} {L : List (Addr × HO)} {ps : Array Value} {f : Addr} (S : Stt G H L) (hj : L[j]? = some (lw.P, .tbl ps)) (hc : lw.codes G ps) (n : LamNew lw i H ps f H1) :
    ∃ (G1 : Hp) (ps' : Array Value), Ex G G1 ∧ Stt G1 H1 (L.set j (lw.P, .tbl ps')) ∧ lw.codes G1 ps' ∧ LamAt lw i G1 f := by
  obtain ⟨H0, H2, ps', c, D, a1, a2, hf, rfl⟩ := n.ex
  obtain ⟨G0, e0, S0, hD⟩ : ∃ G0, Ex G G0 ∧ Stt G0 H0 L ∧ (lw.d i = true → G0 D = some (.tup [.int 0])) := by
    rcases a1 with ⟨d, rfl⟩ | ⟨d, hn, rfl⟩
    · exact ⟨G, Ex.refl G, S, fun z => by rw [d] at z; cases z⟩
    · exact ⟨_, S.newE hn, S.new hn, fun _ => upd_same⟩
  have hPin : H0 lw.P = some (.tbl ps) := S0.at j hj
  have hPg : G0 lw.P = none := S0.out _ (List.mem_of_getElem? hj)
  obtain ⟨G2, e2, S2, hcc, hcs⟩ : ∃ G2, Ex G0 G2 ∧ Stt G2 H2 (L.set j (lw.P, .tbl ps')) ∧ G2 c = some (LamX.CodeO c lw.q) ∧ lw.codes G2 ps' := by
    have hc0 : lw.codes G0 ps := ⟨hc.1, fun pos cv z => have ⟨c, h1, h2⟩ := hc.2 pos cv z; ⟨c, h1, e0 _ _ h2⟩⟩
    rcases a2 with ⟨rfl, rfl, pos, hcc⟩ | ⟨hn, rfl, ht, hca⟩
    · have es : L.set j (lw.P, .tbl ps') = L := by
        apply List.ext_getElem?
        intro m
        rw [List.getElem?_set]
        by_cases hm : j = m
        · subst hm; rw [if_pos rfl, hj, if_pos (List.getElem?_eq_some_iff.mp hj).1]
        · rw [if_neg hm]
      rw [es]
      obtain ⟨c2, h1, h2⟩ := hc0.2 pos _ hcc
      cases h1
      exact ⟨G0, Ex.refl G0, S0, h2, hc0⟩
    · have S1 : Stt G0 (upd H0 lw.P (.tbl ps')) (L.set j (lw.P, .tbl ps')) := S0.wr j hj
      have hcP : c ≠ lw.P := fun z => by rw [z, hPin] at hn; cases hn
      have hn1 : upd H0 lw.P (.tbl ps') c = none := by rw [upd_ne hcP]; exact hn
      have e2 := S1.newE (o := LamX.CodeO c lw.q) hn1
      refine ⟨_, e2, S1.new (o := LamX.CodeO c lw.q) hn1, upd_same, ht, fun pos cv z => ?_⟩
      rcases hca pos cv z with z | rfl
      · obtain ⟨c2, h1, h2⟩ := hc0.2 pos cv z
        exact ⟨c2, h1, e2 _ _ h2⟩
      · exact ⟨c, rfl, upd_same⟩
  have e3 := S2.newE (o := lw.o i f c D) hf
  refine ⟨_, ps', e0.trans (e2.trans e3), S2.new (o := lw.o i f c D) hf, ⟨hcs.1, fun pos cv z => have ⟨c2, h1, h2⟩ := hcs.2 pos cv z; ⟨c2, h1, e3 _ _ h2⟩⟩, c, D, upd_same, e3 _ _ hcc, fun z => e3 _ _ (e2 _ _ (hD z))⟩
/-! ### the making -/
section
variable {X : Cx} {lw : LamW} {i : Nat} {T : LamTx} {cl : Addr} {pos : Pos}
/-- what is known of a def's code object, at cl, and of the readings' words -/
structure LamX1 (X : Cx) (lw : LamW) (cl : Addr) : Prop where
  tb : LamX.TabB X.base X.mg cl lw.P
  code : X.env.code = .ref cl
  q : lw.q = X.env.qual ++ "<lambda>"
theorem LamN.has {mk : List Nat} (L : LamN X.N X.env.scope T mk) (ok : X.Ok) : ∀ y ∈ T.scope.names, y.2 = .free → ∃ c, X.env.cells.lookup y.1 = some c := fun y hy e => ok.has _ (L.free y hy e)
theorem lamO_ok {P : Program} {w : World} {H : Hp} {h : Heap} {f c D : Addr} {doc pm ctv : Value} (e : h.get? f = some (PySem.W.kdv_obj "<lambda>" (X.env.qual ++ "<lambda>") T.params (.expr T.body) T.scope (cloFrom X.env.cells T.scope.names []) (if T.dflt then .ref D else .none) doc pm c ctv)) : ObjOk P w H h f (lamO X T f c D) :=
  ⟨⟨doc, pm, ctv, e⟩, ⟨_, e⟩, fun h1 h2 ⟨doc, pm, ctv, e⟩ k => ⟨doc, pm, ctv, k _ e⟩⟩
theorem pe_lam {mk : List Nat} (LX : LamX1 X lw cl) (L : LamN X.N X.env.scope T mk) (ho : lw.o i = lamO X T) (hd : lw.d i = T.dflt) : PE X (.Lambda T.params T.body T.scope pos) (tLamE lw i) := by
  refine ⟨fun pins s σ H Q I ⟨ps, hP, hc, q⟩ => ?_⟩
  rw [arm_eval_Lambda]
  -- behind the defaults
  have tail : ∀ (dV : Value) (D : Addr) (H0 : Hp) (s0 : Shared), Inv X pins σ H0 s0 → dV = (if T.dflt then .ref D else .none) → ((lw.d i = false ∧ H0 = H) ∨ (lw.d i = true ∧ H D = none ∧ H0 = upd H D (.tup [.int 0]))) →
      wpAny (model X.prog X.w) X.A (makeTail "<lambda>" (X.env.qual ++ "<lambda>") T.params (.expr T.body) T.scope X.env dV .none none pos pos.line) (EP X pins σ Q) X.xe s0 := by
    intro dV D H0 s0 I0 edV hH0
    have hP0 : H0 lw.P = some (.tbl ps) := by
      rcases hH0 with ⟨_, rfl⟩ | ⟨_, hn, rfl⟩
      · exact hP
      · rw [upd_ne (ne_of_none hP hn)]; exact hP
    have hc0 : lw.codes H0 ps := by
      rcases hH0 with ⟨_, rfl⟩ | ⟨_, hn, rfl⟩
      · exact hc
      · exact ⟨hc.1, fun pos cv z => have ⟨c, h1, h2⟩ := hc.2 pos cv z; ⟨c, h1, by rw [upd_ne (ne_of_none h2 hn)]; exact h2⟩⟩
    have bP : s0.heap.BuiltinsAt X.mg lw.P := LX.tb.bm.keeps I0.bk
    have gP : s0.heap.get? lw.P = some { cls := .none, data := .fields ps } := I0.hok lw.P _ hP0
    have fin : ∀ (h' : Heap) (c : Addr) (doc pm ctv : Value) (tk : Nat) (H2 : Hp) (ps' : Array Value), Inv X pins σ H2 { s0 with heap := h', toks := tk } → s0.heap.objs.size ≤ h'.objs.size →
        ((H2 = H0 ∧ ps' = ps ∧ ∃ pos, codeAmong pos ps.toList = some (.ref c)) ∨ (H0 c = none ∧ H2 = upd (upd H0 lw.P (.tbl ps')) c (LamX.CodeO c lw.q) ∧ TriplesOk ps'.toList ∧ ∀ (pos : Pos) (cv : Value), codeAmong pos ps'.toList = some cv → codeAmong pos ps.toList = some cv ∨ cv = .ref c)) →
        EP X pins σ Q (.ref h'.objs.size) { s0 with heap := h'.push (PySem.W.kdv_obj "<lambda>" (X.env.qual ++ "<lambda>") T.params (.expr T.body) T.scope (cloFrom X.env.cells T.scope.names []) dV doc pm c ctv), toks := tk } := by
      intro h' c doc pm ctv tk H2 ps' I2 hsz a2
      have hf : H2 h'.objs.size = none := I2.hok.fresh (Nat.le_refl _)
      have I3 : Inv X pins σ (upd H2 h'.objs.size (lw.o i h'.objs.size c D)) { s0 with heap := h'.push (PySem.W.kdv_obj "<lambda>" (X.env.qual ++ "<lambda>") T.params (.expr T.body) T.scope (cloFrom X.env.cells T.scope.names []) dV doc pm c ctv), toks := tk } :=
        I2.laid (t' := tk) (fun b o e => Heap.get?_push_of_some _ e) (Nat.le_refl _) (by rw [ho]; exact lamO_ok (by rw [← edV]; exact Heap.get?_push_size _ rfl))
      exact ⟨.ref h'.objs.size, _, I3, rfl, q _ _ ⟨H0, H2, ps', c, D, hH0, a2, hf, rfl⟩⟩
    cases hca : codeAmong pos ps.toList with
    | none =>
      refine PySem.W.kdv_makeTail (mg := X.mg) (c := cl) (P := lw.P) (ps := ps) (closure_ok (L.has I0.ok)) I0.ok.glob (I0.mod.glob.keeps I0.bk) LX.code (LX.tb.code.keeps I0.bk) gP hc0.1 hca LX.tb.gP bP fun c ctv doc h' tk hx hge hlt hrec htb => ?_
      obtain ⟨c2, oc, vs, t, e2, hoc, hdc, hv⟩ := hrec
      cases e2
      have hsz : s0.heap.objs.size ≤ h'.objs.size := Nat.le_trans hge (Nat.le_of_lt hlt)
      have nC : H0 c = none := I0.hok.fresh hge
      have I1 := LamX.inv_table (t' := tk) (more := #[rawInt pos.line, rawInt pos.col, .ref c]) (h' := h') I0 hP0 (fun b o hb e => hx b o hb e) htb hge ⟨oc, vs, t, hoc, hdc, hv⟩
      rw [← LX.q] at I1
      refine fin h' c doc _ ctv tk _ (ps ++ #[rawInt pos.line, rawInt pos.col, .ref c]) I1 hsz (.inr ⟨nC, rfl, ?_, fun p' cv hcv => ?_⟩)
      · rw [Array.toList_append]
        exact PySem.TriplesOk_snoc _ _ _ _ hc0.1
      · rw [Array.toList_append] at hcv
        exact LamX.among_app _ hc0.1 hcv
    | some cv =>
      obtain ⟨c, rfl, hco⟩ := hc0.2 pos cv hca
      refine PySem.W.kdv_makeTailHit (mg := X.mg) (c := cl) (P := lw.P) (ps := ps) (closure_ok (L.has I0.ok)) I0.ok.glob (I0.mod.glob.keeps I0.bk) LX.code (LX.tb.code.keeps I0.bk) gP hc0.1 hca bP fun ctv doc h' tk hx hsz => ?_
      exact fin h' c doc _ ctv tk H0 ps (I0.kept (t' := tk) hx) hsz (.inl ⟨rfl, rfl, pos, hca⟩)
  cases hdf : T.dflt with
  | false =>
    rw [(L.d0 hdf).1]
    refine wpAny_bind (wpAny_pure (wpAny_bind (wpAny_holding (wpAny_pure ?_))))
    rw [makeFunction_eq]
    simp only [L.kwo, List.zip_nil_left, List.zip_nil_right, List.filterMap_nil, List.isEmpty_nil, if_true, pure_bind]
    exact tail .none 0 H s I (by rw [hdf]; rfl) (.inl ⟨by rw [hd, hdf], rfl⟩)
  | true =>
    obtain ⟨⟨k, p, e1⟩, _⟩ := L.d1 hdf
    rw [e1]
    show wpAny _ _ (evalAll [eval (.Constant (.int 0) k p) X.env] >>= _) _ _ _
    unfold evalAll
    refine wpAny_bind (wpAny_bind (wpAny_Constant_int (wpAny_bind (wpAny_holding (wpAny_pure (wpAny_pure (wpAny_bind (wpAny_holding (wpAny_pure ?_)))))))))
    rw [makeFunction_eq]
    simp only [L.kwo, List.zip_nil_left, List.filterMap_nil, List.isEmpty_nil, List.isEmpty_cons, Bool.false_eq_true, if_false, if_true, pure_bind]
    refine wpAny_bind (wpAny_newTextTuple ?_); have hn : H s.heap.objs.size = none := I.hok.fresh (Nat.le_refl _)
    refine tail (.ref s.heap.objs.size) s.heap.objs.size (upd H s.heap.objs.size (.tup [.int 0])) _ ?_ (by rw [hdf]; rfl) (.inr ⟨by rw [hd, hdf], hn, rfl⟩)
    exact I.laid (t' := s.toks + 1) (fun b o e => Heap.get?_push_of_some _ e) (Nat.le_refl _) ⟨by decide, [.int 0 s.toks], .cons ⟨_, rfl⟩ .nil, IsTup.new _ _⟩
end

/-! Calling a lambda: in the def that got it, or deeper. -/
/-- from the state s of the frames outer on, f may be called (no arguments): tl says what comes of it -/
def CanCall (P : Program) (w : World) (K : PySem.W.Frag) (mg : Str → Option Value) (base : Heap) (k : Nat) (outer : List Env) (s : Shared) (H : Hp) (f : Addr) (tl : XK → Hp → VK → Prop) : Prop :=
  ∀ (A : Around) (outer' : List Env) (s' : Shared) (H' : Hp) (Q : VK) (E : XK), Room k A → Env0 P w K mg base A outer' s' H' → Un (frs outer) [] H H' s.heap s'.heap → tl E H' Q →
    PySem.W.FnAt f s'.heap ∧ codeAny (model P w) A (.call (.ref f) ⟨[], []⟩) (CR (L2.CX P w) outer' P w H' s' Q E) s'
section
variable {X : Cx} {pins : List (Addr × Obj)} {σ : L2.St} {H HZ : Hp} {s s1 : Shared} {T : LamTx} {i k : Nat}
/-- X's cells are at s1 what they were at s, and no objects of HZ -/
def CellsKept (X : Cx) (s : Shared) (HZ : Hp) (s1 : Shared) : Prop := ∀ (y : Str) (c : Addr), X.env.cells.lookup y = some c → (∀ o, s.heap.get? c = some o → ∃ sl, s1.heap.get? c = some { o with slots := sl }) ∧ HZ c = none
theorem kept_un (I : Inv X pins σ H s) (un : Un (frs X.stack) [] H HZ s.heap s1.heap) : CellsKept X s HZ s1 := fun y c e =>
  ⟨fun o ho => un.any ho (I.freeC y c e) (by simp), have ⟨_, o, ho, _⟩ := I.cell y c e; un.free c o ho (I.freeC y c e) (by simp)⟩
/-- the state at the entry of the lambda's body -/
theorem lam_entry {A : Around} {outer : List Env} {E : XK} {f c : Addr} {h₁ : Heap} {tk : Nat} {bs : List (Str × Value)} {mk : List Nat} (I : Inv X pins σ H s) (L : LamN X.N X.env.scope T mk) (hmk : ∀ i ∈ mk, ∀ v, σ[i]? ≠ some (some v)) (e0 : Env0 X.prog X.w X.K X.mg X.base A outer s1 HZ) (hd : A.handled = none)
    (ck : CellsKept X s HZ s1) (hns : h₁.Ns s1.heap.objs.size fun y => bs.reverse.lookup y) (kp : ∀ b o, s1.heap.get? b = some o → h₁.get? b = some o) :
    Inv (LamX.lamCx X A outer s1 HZ E T.scope f c) [] σ HZ { s1 with heap := h₁, toks := tk } := by
  have hfree := L.has I.ok
  have cm : ∀ {y c}, (cloFrom X.env.cells T.scope.names []).lookup y = some c → X.env.cells.lookup y = some c := fun {y c} e => by
    obtain hm | ⟨h1, h2⟩ := cloFrom_mem (PySem.mem_of_lookup e)
    · cases hm
    · obtain ⟨c1, hc⟩ := hfree _ h1 rfl; have hc : X.env.cells.lookup y = some c1 := hc
      rw [show c = c1 by rw [h2, hc] <;> rfl]; exact hc
  have look : ∀ {y}, T.scope.names.lookup y = some .free → ∃ c, (cloFrom X.env.cells T.scope.names []).lookup y = some c := fun {y} hl =>
    mem_lookup (cloFrom_has (cells := X.env.cells) (acc := []) (show (y, NameKind.free) ∈ T.scope.names from PySem.mem_of_lookup hl))
  have stays : ∀ {y : Str} {x : Addr} {u : Option Value}, X.env.cells.lookup y = some x → s.heap.IsCell x u → h₁.IsCell x u := fun {y x u} e ⟨o, ho, hd⟩ => by
    obtain ⟨sl, q⟩ := (ck y x e).1 o ho; exact ⟨_, kp _ _ q, hd⟩
  have noA : ∀ b : Addr, b ∉ (LamX.lamCx X A outer s1 HZ E T.scope f c).ex := fun b z => by cases (show b ∈ ([] : List Addr) from z)
  refine ⟨⟨e0.mod, L.kind, rfl, rfl, Nat.le_refl _, fun y z c e1 e2 => I.ok.inj y z c (cm e1) (cm e2), fun y hy => ?_, fun y c z _ => Bool.noConfusion (show false = true from z), fun _ => hd, Around.frames_deeper e0.frames, .inr ⟨rfl, rfl⟩, fun b z => absurd z (noA b), e0.bs, e0.bsz, fun b _ _ => noA b, fun b z => absurd z (noA b), e0.funs, e0.frf⟩,
    rfl, e0.bare, Un.kept kp, ⟨_, hns, fun i y v e1 e2 e3 => ?_⟩, fun y c e => ?_, e0.hok.fresh (Nat.le_refl _), fun y c e => ?_, fun q hq => by simp [LamX.lamCx] at hq, e0.hok.kept kp, I.len⟩
  · rcases (show T.scope.names.lookup y = some .cell ∨ T.scope.names.lookup y = some .free from hy) with hy | hy
    · exact absurd rfl (L.nocell _ (PySem.mem_of_lookup hy))
    · exact look hy
  · rcases (show Vis T.scope y from e3) with k | k | k
    · exact absurd e2 (hmk i (L.own _ (PySem.mem_of_lookup k) rfl i e1) v)
    · exact absurd rfl (L.nocell _ (PySem.mem_of_lookup k))
    · obtain ⟨m, hn, hl⟩ := I.loc
      have fr := L.free _ (PySem.mem_of_lookup k) rfl
      obtain ⟨w', r, q⟩ := hl i y v e1 e2 (.inr fr)
      obtain ⟨c2, h2⟩ := look k
      refine ⟨w', r, .inr ⟨.inr k, c2, h2, ?_⟩⟩; rcases q with ⟨k', _⟩ | ⟨_, c3, e', z⟩
      · rcases fr with k2 | k2 <;> (have z := (show X.env.scope.names.lookup y = _ from k2).symm.trans (show X.env.scope.names.lookup y = some .local from k'); cases z)
      · have e4 := cm h2
        rw [show X.env.cells.lookup y = _ from e'] at e4
        cases e4
        exact stays e' z
  · have ⟨w', z⟩ := I.cell y c (cm e); exact ⟨w', stays (cm e) z⟩
  · exact (ck y c (cm e)).2
/-- a lambda of the def that runs at s, called at s' -/
theorem run_lam {mk : List Nat} {lw : LamW} {tb : XK → TE} (I : Inv X pins σ H s) (L : LamN X.N X.env.scope T mk) (ho : lw.o i = lamO X T) (hd : lw.d i = T.dflt) (hq : lw.q = X.env.qual ++ "<lambda>") {f : Addr}
    (hbody : ∀ (A : Around) (outer : List Env) (s : Shared) (H : Hp) (E : XK) (f c : Addr), Room k (A.deeper (LamX.lamEnv X T.scope s.heap.objs.size f c)) → PE (LamX.lamCx X A outer s H E T.scope f c) T.body (tb E))
    {A : Around} {outer' : List Env} {s' : Shared} {H' : Hp} {Q : VK} {E : XK} (hr : Room (k + 1) A) (e0 : Env0 X.prog X.w X.K X.mg X.base A outer' s' H') (ck : CellsKept X s H' s') (la : LamAt lw i H' f) (ht : tb E (wipe σ mk) H' Q) :
    PySem.W.FnAt f s'.heap ∧ codeAny (model X.prog X.w) A (.call (.ref f) ⟨[], []⟩) (CR (L2.CX X.prog X.w) outer' X.prog X.w H' s' Q E) s' := by
  obtain ⟨c, D, hf, hc, hD⟩ := la
  rw [ho] at hf
  obtain ⟨⟨doc, pm, ctv, of⟩, _, _⟩ := (show ObjOk X.prog X.w H' s'.heap f (lamO X T f c D) from e0.hok f _ hf)
  obtain ⟨⟨oc, vs, t, hoc, hdc, hvc⟩, _, _⟩ := (show ObjOk X.prog X.w H' s'.heap c (LamX.CodeO c lw.q) from e0.hok c _ hc)
  rw [hq] at hvc
  have lim : s'.heap.NoLimit := e0.mod.nolimit.keeps fun b o e => (e0.bs b o e).1
  refine ⟨⟨_, _, _, _, of⟩, ?_⟩
  have go : ∀ (bs : List (Str × Value)), (∀ y ∈ bs, T.scope.names.lookup y.1 = some .local) → (∀ (Q' : List (Str × Value) → Shared → Prop) (E' : Value → Shared → Prop), Q' bs s' → wpAny (model X.prog X.w) A.in1 (bindArgs (PySem.W.kdv_fn "<lambda>" (X.env.qual ++ "<lambda>") T.params (.expr T.body) T.scope (cloFrom X.env.cells T.scope.names []) (if T.dflt then .ref D else .none) doc pm (.ref c) ctv) ⟨[], []⟩) Q' E' s') →
      codeAny (model X.prog X.w) A (.call (.ref f) ⟨[], []⟩) (CR (L2.CX X.prog X.w) outer' X.prog X.w H' s' Q E) s' := by
    intro bs hl hbi
    refine PySem.W.kla_callFunE hr.depth of rfl L.co L.gen rfl ⟨c, oc, vs, t, rfl, hoc, hdc, hvc⟩ (hbi _ _ ?_)
    refine wpAny_newFunctionEnv L.nocell hl (fun h₁ hns hsb => ⟨lim.fresh _ hsb, ?_⟩) L.kind
    have kp : ∀ b o, s'.heap.get? b = some o → h₁.get? b = some o := fun b o e => hsb.extBut b o (Nat.ne_of_lt (Heap.lt_size e)) (Heap.get?_push_of_some _ e)
    have J := lam_entry (E := E) (f := f) (c := c) (tk := s'.toks + bs.length) (I.weak (wipe_length σ mk) fun j v e => (wipe_some e).1) L (fun i hi v e => (wipe_some e).2 hi) e0 hr.hd ck hns kp
    refine PySem.W.kla_codeExpr (wpAny_mono ((hbody A outer' s' H' E f c (hr.deeper _)).run [] _ _ H' Q J ht) (fun v s2 ⟨w', H2, J', rv, q⟩ => ?_) fun e s2 hq => hq)
    exact ⟨w', H2, J'.os, J'.bare, J'.base, J'.hok, rv, q⟩
  cases hdf : T.dflt with
  | false =>
    refine go [] (fun y hy => by cases hy) fun Q' E' q => ?_
    rw [hdf, show (if false = true then Value.ref D else Value.none) = Value.none from rfl, (L.d0 hdf).2]
    exact wpAny_pure q
  | true =>
    obtain ⟨_, nm, hnm, hb⟩ := L.d1 hdf
    obtain ⟨_, its, rv, oD, hoD, _, n, hdD⟩ := (show ObjOk X.prog X.w H' s'.heap D (.tup [.int 0]) from e0.hok D _ (hD (by rw [hd, hdf])))
    cases rv with
    | cons r rn =>
      cases rn
      obtain ⟨tk, rfl⟩ := r
      obtain ⟨kk, e1, e2⟩ := hb D (X.env.qual ++ "<lambda>") (cloFrom X.env.cells T.scope.names []) doc pm (.ref c) ctv tk
      refine go [(nm, .int 0 tk)] (fun y hy => by rw [List.mem_singleton.mp hy]; exact hnm) fun Q' E' q => ?_
      rw [hdf, show (if true = true then Value.ref D else Value.none) = Value.ref D from rfl, e1]
      exact wpAny_bind (wpAny_seqItems hoD hdD (by rw [e2]; exact wpAny_pure q))
theorem can_lam {mk : List Nat} {lw : LamW} {tb : XK → TE} (I : Inv X pins σ H s) (L : LamN X.N X.env.scope T mk) (ho : lw.o i = lamO X T) (hd : lw.d i = T.dflt) (hq : lw.q = X.env.qual ++ "<lambda>") {f : Addr}
    (hbody : ∀ (A : Around) (outer : List Env) (s : Shared) (H : Hp) (E : XK) (f c : Addr), Room k (A.deeper (LamX.lamEnv X T.scope s.heap.objs.size f c)) → PE (LamX.lamCx X A outer s H E T.scope f c) T.body (tb E)) :
    CanCall X.prog X.w X.K X.mg X.base (k + 1) X.stack s H f (fun E H' Q => LamAt lw i H' f ∧ tb E (wipe σ mk) H' Q) :=
  fun A outer' s' H' Q E hr e0 un ⟨la, ht⟩ => run_lam I L ho hd hq hbody hr e0 (kept_un I un) la ht
end
/-- one frame deeper -/
theorem CanCall.deeper {P : Program} {w : World} {K : PySem.W.Frag} {mg : Str → Option Value} {base : Heap} {k : Nat} {outer : List Env} {env : Env} {s s2 : Shared} {H H2 : Hp} {f : Addr} {tl : XK → Hp → VK → Prop} (c : CanCall P w K mg base k outer s H f tl)
    (un : Un (frs outer) [] H H2 s.heap s2.heap) (hl : ∀ L, env.frame = some L → s.heap.objs.size ≤ L) : CanCall P w K mg base k (env :: outer) s2 H2 f tl := by
  intro A outer' s' H' Q E hr e0 un2 ht
  have nin : ∀ {b : Addr} {o : Obj}, s.heap.get? b = some o → b ∉ frs outer → b ∉ frs (env :: outer) := fun {b o} e hb hm => by
    obtain ⟨v, hv, q⟩ := List.mem_filterMap.mp hm; rcases List.mem_cons.mp hv with rfl | hv
    · exact Nat.lt_irrefl _ (Nat.lt_of_lt_of_le (Heap.lt_size e) (hl _ q))
    · exact hb (List.mem_filterMap.mpr ⟨v, hv, q⟩)
  have inn : ∀ {b : Addr}, b ∈ frs outer → b ∈ frs (env :: outer) := fun {b} hm => by
    obtain ⟨v, hv, q⟩ := List.mem_filterMap.mp hm
    exact List.mem_filterMap.mpr ⟨v, List.mem_cons_of_mem _ hv, q⟩
  have ni : ∀ b : Addr, b ∉ ([] : List Addr) := fun b z => by cases z
  refine c A outer' s' H' Q E hr e0 ⟨fun b o e n hb _ => un2.keep b o (un.keep b o e n hb (ni b)) (un.free b o e n (ni b)) (nin e hb) (ni b), fun b o e n hb _ => ?_, fun b o e n _ => ?_, fun b o e _ => ?_, fun b xs e => un2.tups b xs (un.tups b xs e), fun b o u e => un2.frzs b o u (un.frzs b o u e), fun b ps e => ?_⟩ ht
  · obtain ⟨sl, e1⟩ := un.slot b o e n hb (ni b)
    obtain ⟨sl2, e2⟩ := un2.slot b _ e1 (un.free b o e n (ni b)) (inn hb) (ni b)
    exact ⟨sl2, e2⟩
  · obtain ⟨sl, e1⟩ := un.any e n (ni b)
    exact un2.free b _ e1 (un.free b o e n (ni b)) (ni b)
  · obtain ⟨o1, e1⟩ := un.there b o e (ni b)
    exact un2.there b o1 e1 (ni b)
  · obtain ⟨m1, e1⟩ := un.tbls b ps e
    obtain ⟨m2, e2⟩ := un2.tbls b _ e1; exact ⟨m1 ++ m2, by rw [e2, Array.append_assoc]⟩
/-! ### a def that calls what it got -/
section
variable {X : Cx} {pn : List (Addr × Obj)} {xe : Value → Shared → Prop} {W : WX} {E : XK} {k i : Nat} {f : Addr} {a : Str} {p1 p2 : Pos} {tl : XK → Hp → VK → Prop}
/-- the slot i holds f; what f raises is wished for at these slots -/
def tAsk (i : Nat) (f : Addr) (tl : XK → Hp → VK → Prop) (W : WX) : TE := fun σ H Q => σ[i]? = some (some (.ref f)) ∧ tl (fun cls d H' => W cls d σ H') H Q
theorem pe_ask (c : CanCall X.prog X.w X.K X.mg X.base k X.outer X.s_0 X.H_0 f tl) (hex : X.ex = []) (tk : Takes (X.tr pn xe) W) (hr : Room k X.A) (hN : X.N[i]? = some a) (hv : Vis X.env.scope a)
    (hd : (a == ("__debug__" : Str)) = false := by decide) (hcd : (a == ("__classdict__" : Str)) = false := by decide) :
    PE (X.tr pn xe) (.Call (.Name a p1) [] [] p2) (tAsk i f tl W) := by
  refine ⟨fun pins s σ H Q I ⟨hs, ht⟩ => ?_⟩
  refine wpAny_Call_Name_kw (thn ((pe_var (X := X.tr pn xe) (pos := p1) (i := i) hN hv hd hcd).run pins s σ H (fun v H1 => v = .ref f ∧ H1 = H) I ⟨.ref f, hs, rfl, rfl⟩) fun u s1 ⟨v, H1, I1, r1, ev, eH⟩ => ?_)
  subst ev eH
  obtain rfl : u = Value.ref f := r1; have un : Un (frs X.outer) [] X.H_0 H1 X.s_0.heap s1.heap := by have z := I1.base; rw [show (X.tr pn xe).ex = [] from hex] at z; exact z
  obtain ⟨fa, rc⟩ := c X.A X.stack s1 H1 Q _ hr I1.env0 un ht
  refine PySem.W.callWith_F0 fa (wpAny_call (codeAny_mono rc fun r s' hq => ?_))
  cases r with
  | error e => exact passAt tk σ pins H1 s1 e s' I1 hq
  | ok fl => cases fl <;> first | exact I1.after hq | exact False.elim hq
end

/-! The law's field and try; defs that may raise, called. -/



/-! ### defs that may raise -/
structure CalX (P : Program) (w : World) (K : PySem.W.Frag) (mg : Str → Option Value) (base : Heap) (k : Nat) (x : Str) (sp : Sp) : Prop where
  ex : ∃ (f : Addr) (fd : FuncData) (ps : List Str), FnOk P w K mg base (L2.CX P w) k f fd ps sp ∧ mg x = some (.ref f) ∧ PySem.W.keepIn K (.ref f) = true ∧ Binds K fd ps []
structure CalKX (P : Program) (w : World) (K : PySem.W.Frag) (mg : Str → Option Value) (base : Heap) (k : Nat) (x : Str) (sp : Sp) (ks : List Str) (perm : List Nat) : Prop where
  ex : ∃ (f : Addr) (fd : FuncData) (ps : List Str), FnOk P w K mg base (L2.CX P w) k f fd ps sp ∧ mg x = some (.ref f) ∧ PySem.W.keepIn K (.ref f) = true ∧ KBinds K fd ps ks (gPV ks.length perm) (gPV ks.length perm)
section
variable {P : Program} {w : World} {K : PySem.W.Frag} {mg : Str → Option Value} {base : Heap} {k : Nat} {x qual : Str} {st : Stmt} {f : Addr} {fd : FuncData} {ps ks : List Str} {perm : List Nat} {sp : Sp}
theorem calX_mk (F : Fun K x qual st f fd) (G : FnOk P w K mg base (L2.CX P w) k f fd ps sp) (g : mg x = some (.ref f))
    (h : ∀ (kV doc pm : Value) (an : Option Addr) (cdv ct : Value) (us : List Value), us.length = ps.length → bindArgs (PySem.W.fnOf x qual (defArgs st) (defBody st) (defScope st) .none kV doc pm an cdv ct) ⟨us, []⟩ = pure (ps.zip us)) : CalX P w K mg base k x sp := ⟨f, fd, ps, G, g, F.kp, F.binds h⟩
theorem calKX_mk (F : Fun K x qual st f fd) (G : FnOk P w K mg base (L2.CX P w) k f fd ps sp) (g : mg x = some (.ref f)) (h0 : 0 < ps.length)
    (h : ∀ (kV doc pm : Value) (an : Option Addr) (cdv ct : Value) (ws : List Value), ws.length = ks.length → bindArgs (PySem.W.fnOf x qual (defArgs st) (defBody st) (defScope st) .none kV doc pm an cdv ct) ⟨[], ks.zip ws⟩ = pure (ps.zip (gPV ks.length perm [] ws))) : CalKX P w K mg base k x sp ks perm := by
  have ⟨_, _, kV, doc, pm, an, cdv, ct, _, hfd, _, _⟩ := F.ex
  subst hfd
  refine ⟨f, _, ps, G, g, F.kp, ⟨fun s us ws _ hl => ?_, gPV_rel⟩⟩
  by_cases c : us.length = 0 ∧ ws.length = ks.length
  · obtain rfl : us = [] := List.length_eq_zero_iff.mp c.1
    exact .of_eq (h kV doc pm an cdv ct ws c.2)
  · unfold gPV at hl
    rw [if_neg c] at hl
    exact absurd hl (by simp; omega)
end
section
variable {X : Cx} {k j : Nat} {x : Str} {sp : Sp} {ks : List Str} {perm : List Nat} {p pos : Pos} {e : Expr} {es : List Expr} {kws : List Keyword} {t tk : TA} {E : XK}
theorem pe_cX (c : CalX X.prog X.w X.K X.mg X.base k x sp) (hr : Room j X.A) (hk : k ≤ j) (hg : Gl X x) (hx : Passes (L2.CX X.prog X.w) X E) (ha : PA X (e :: es) t)
    (hdb : (x == ("__debug__" : Str)) = false := by decide) (he : starEach (e :: es) X.env = (false, eval e X.env) :: starEach es X.env := by rfl) (hpl : (backTo pos (starEach es X.env)).any (·.1) = false := by rfl) : PE X (.Call (.Name x p) (e :: es) [] pos) (tCall sp [] E t) := by
  have ⟨f, fd, ps, F, hm, kp, b⟩ := c.ex
  exact pe_call F (hr.mono hk) hg hm kp b .nil hx ha hdb he hpl
theorem pe_cKX (c : CalKX X.prog X.w X.K X.mg X.base k x sp ks perm) (hr : Room j X.A) (hk : k ≤ j) (hg : Gl X x) (hx : Passes (L2.CX X.prog X.w) X E) (hkw : PK X kws tk)
    (named : (backToKw pos (keywordEach kws X.env)).all (·.1.isSome) = true := by rfl) (names : (backToKw pos (keywordEach kws X.env)).filterMap (·.1) = ks := by rfl) (nodb : (x == ("__debug__" : Str)) = false := by decide)
    (noStar : ((backTo pos (starEach [] X.env)).any (·.1) || (backToKw pos (keywordEach kws X.env)).any (·.1.isNone)) = false := by rfl) : PE X (.Call (.Name x p) [] kws pos) (tCallK sp (gPV ks.length perm) E tNil tk) := by
  have ⟨f, fd, ps, ok, hmg, hkeep, hbinds⟩ := c.ex
  refine ⟨fun pins s σ H Q hI hQ => wpAny_Call_Name_kw (ld_glob hI hg hmg ?_ nodb)⟩
  refine PySem.W.callWith_KW0 (h₀ := X.base) hI.ok.mod.kin hkeep named (thn (hkw.run pos pins s σ H _ hI hQ) ?_) noStar
  rintro ws s2 ⟨zs, H2, hI2, hz, hQ2⟩
  refine ⟨hI2.kIn, ?_⟩
  rw [names]
  exact run_fnk ok (hr.mono hk) hbinds hx hI2 .nil hz hQ2
end
theorem inD_units {k : Nat} {A : Around} (hr : Room k A) : A.units + 65 < cLine := by have := hr.un; omega
/-- str(n) -/
def gStr : List V → Hp → VK → Prop := fun xs H Q => ∃ i, xs = [.int i] ∧ i.natAbs.log2 < 1920 ∧ Q (.str (toString i)) H
/-! ### the law's field -/
/-- which attribute of an error with a code is told -/
def fieldKey (code : Str) : Option Str :=
  if code ∈ (["InvalidList", "InvalidColumn", "InvalidBox", "InvalidSet", "InvalidCall"] : List Str) then some "at"
  else if code ∈ (["TooMany", "Full"] : List Str) then some "most"
  else if code ∈ (["TakenName", "UnknownName"] : List Str) then some "name"
  else if code = "InvalidPage" then some "line"
  else if code = "UnknownRow" then some "number"
  else if code ∈ (["OtherSchema", "OtherWidth", "NothingLeft"] : List Str) then none
  else some "given"
/-- what the error of the class C with the fields fs tells -/
def FieldIs (K : PySem.W.Frag) (C : Addr) (fs : List (Str × V)) (code : Str) (v : V) : Prop := match fieldKey code with
  | some key => PySem.W.findIn K (.ref C) key = some none ∧ fs.lookup key = some v
  | none => v = .non
theorem FieldIs.key {K : PySem.W.Frag} {C : Addr} {fs : List (Str × V)} {code key : Str} {v : V} (h : FieldIs K C fs code v) (e : fieldKey code = some key) : PySem.W.findIn K (.ref C) key = some none ∧ fs.lookup key = some v := by
  unfold FieldIs at h
  rw [e] at h
  exact h
theorem FieldIs.no {K : PySem.W.Frag} {C : Addr} {fs : List (Str × V)} {code : Str} {v : V} (h : FieldIs K C fs code v) (e : fieldKey code = none) : v = .non := by
  unfold FieldIs at h
  rw [e] at h
  exact h
def sp_field (K : PySem.W.Frag) (a : Addr) (cls : Value) (d : Option Addr) : Sp := fun vs H Q _ => ∃ (C dd : Addr) (fs : List (Str × V)) (code : Str) (v : V), vs = [.ref a] ∧ cls = .ref C ∧ XfC K C ∧ PySem.W.findIn K (.ref C) "code" = some none ∧ d = some dd ∧ H dd = some (.xd fs) ∧ fs.lookup ("code" : Str) = some (.str code) ∧ FieldIs K C fs code v ∧
  ∀ H', Ex H H' → Q v H'
def t_field_5 (K : PySem.W.Frag) (a : Addr) (cls : Value) (d : Option Addr) : TS :=
  (tRet (tIf (tTest (tOp (gIn K) (tXfA K a cls d "code" (tVar 0)) (tLst (tCons (tC (.str "OtherSchema")) (tCons (tC (.str "OtherWidth")) (tCons (tC (.str "NothingLeft")) tNil)))))) (tC .non) (tXfA K a cls d "given" (tVar 0))))
def t_field_4 (K : PySem.W.Frag) (a : Addr) (cls : Value) (d : Option Addr) : TS :=
  (tSeq (tIfS (tTest (tOp (gEq K) (tXfA K a cls d "code" (tVar 0)) (tC (.str "UnknownRow")))) (tRet (tXfA K a cls d "number" (tVar 0))) tNext)
  (t_field_5 K a cls d))
def t_field_3 (K : PySem.W.Frag) (a : Addr) (cls : Value) (d : Option Addr) : TS :=
  (tSeq (tIfS (tTest (tOp (gEq K) (tXfA K a cls d "code" (tVar 0)) (tC (.str "InvalidPage")))) (tRet (tXfA K a cls d "line" (tVar 0))) tNext)
  (t_field_4 K a cls d))
def t_field_2 (K : PySem.W.Frag) (a : Addr) (cls : Value) (d : Option Addr) : TS :=
  (tSeq (tIfS (tTest (tOp (gIn K) (tXfA K a cls d "code" (tVar 0)) (tLst (tCons (tC (.str "TakenName")) (tCons (tC (.str "UnknownName")) tNil))))) (tRet (tXfA K a cls d "name" (tVar 0))) tNext)
  (t_field_3 K a cls d))
def t_field_1 (K : PySem.W.Frag) (a : Addr) (cls : Value) (d : Option Addr) : TS :=
  (tSeq (tIfS (tTest (tOp (gIn K) (tXfA K a cls d "code" (tVar 0)) (tLst (tCons (tC (.str "TooMany")) (tCons (tC (.str "Full")) tNil))))) (tRet (tXfA K a cls d "most" (tVar 0))) tNext)
  (t_field_2 K a cls d))
def t_field (K : PySem.W.Frag) (a : Addr) (cls : Value) (d : Option Addr) : TS :=
  (tSeq (tIfS (tTest (tOp (gIn K) (tXfA K a cls d "code" (tVar 0)) (tLst (tCons (tC (.str "InvalidList")) (tCons (tC (.str "InvalidColumn")) (tCons (tC (.str "InvalidBox")) (tCons (tC (.str "InvalidSet")) (tCons (tC (.str "InvalidCall")) tNil)))))))) (tRet (tXfA K a cls d "at" (tVar 0))) tNext)
  (t_field_1 K a cls d))
section
variable {K : PySem.W.Frag} {σ : L2.St} {H : Hp} {Q : VK} {D : Ends} {a C dd : Addr} {n : Str} {te : TE}
theorem rd_xfA {cls : Value} {d : Option Addr} (q : te σ H fun x H1 => x = .ref a ∧ ∃ (C dd : Addr) (fs : List (Str × V)) (v : V), cls = .ref C ∧ XfC K C ∧ PySem.W.findIn K (.ref C) n = some none ∧ d = some dd ∧ H1 dd = some (.xd fs) ∧ fs.lookup n = some v ∧ Q v H1) : tXfA K a cls d n te σ H Q := q
theorem inV_strL (z : Str) : ∀ us : List Str, inV (.str z) (us.map V.str) = decide (z ∈ us)
  | [] => rfl
  | u :: us => by
    have ih := inV_strL z us
    unfold inV at ih ⊢
    rw [List.map_cons, List.any_cons, ih, show eqV (.str u) (.str z) = decide (u = z) from by
      show (u == z) = _
      by_cases h : u = z
      · subst h; rw [decide_eq_true rfl]; exact beq_self_eq_true u
      · rw [decide_eq_false h]; exact beq_eq_false_iff_ne.mpr h, ← Bool.decide_or]
    exact decide_eq_decide.mpr (by rw [List.mem_cons]; exact or_congr eq_comm Iff.rfl)
theorem flat_strsL (us : List Str) : (us.map V.str).all flatV = true := by
  rw [List.all_map]; exact List.all_eq_true.mpr fun _ _ => rfl
theorem rd_inLf {u : Addr} {us : List Str} {z : Str} (h : H u = some (.lst (us.map V.str))) (q : Q (.bl (decide (z ∈ us))) H) : gIn K (.str z) (.ref u) H Q := .inr ⟨u, _, rfl, .inl (sq_of h), rfl, flat_strsL us, by rw [if_neg Bool.false_ne_true, inV_strL]; exact q⟩
/-- code in [..], a new list -/
theorem rd_codeIn {us : List Str} {xs : List V} {z : Str} {P : Bool → Hp → Prop} (e : xs = us.map V.str) (hl : xs.length ≤ 1000) (q : ∀ H', Ex H H' → P (decide (z ∈ us)) H') : xs.length ≤ sizeLine ∧ ∀ p, H p = none → gIn K (.str z) (.ref p) (upd H p (.lst xs)) fun x H1 => ∃ k, x = .bl k ∧ P k H1 := by
  subst e
  exact ⟨sz_of (by omega), fun p hp => rd_inLf upd_same ⟨_, rfl, q _ (Ex.new hp)⟩⟩
theorem read_at {fs : List (Str × V)} {key : Str} {v : V} (xf : XfC K C) (h : PySem.W.findIn K (.ref C) key = some none) (hd : H dd = some (.xd fs)) (l : fs.lookup key = some v) (q : Q v H) : tXfA K a (.ref C) (some dd) key (tVar 0) [some (.ref a)] H Q := ⟨.ref a, rfl, rfl, C, dd, fs, v, rfl, xf, h, rfl, hd, l, q⟩
theorem sat_field {vs : List V} {cls : Value} {d : Option Addr} {E : XK} (h : sp_field K a cls d vs H Q E) : vs.length = 1 ∧ t_field K a cls d { nx := fun _ H' => Q .non H', rt := Q } (vs.map some ++ List.replicate (1 - vs.length) none) H := by
  obtain ⟨C, dd, fs, code, v, rfl, rfl, xf, nC, rfl, hd, hc, hf, q⟩ := h
  refine ⟨rfl, ?_⟩
  unfold t_field
  walk_at "go"
  refine read_at xf nC hd hc ?_
  walk_at "go"
  refine rd_codeIn (us := ["InvalidList", "InvalidColumn", "InvalidBox", "InvalidSet", "InvalidCall"]) rfl (by decide) fun H1 e1 => ?_
  refine rd_dec (fun c1 => ?_) (fun c1 => ?_)
  · walk_at "go"
    have ⟨f1, f2⟩ := hf.key (key := "at") (by unfold fieldKey; rw [if_pos c1])
    exact read_at xf f1 (e1 _ _ hd) f2 (q _ e1)
  walk_at "go"
  unfold t_field_1
  walk_at "go"
  refine read_at xf nC (e1 _ _ hd) hc ?_
  walk_at "go"
  refine rd_codeIn (us := ["TooMany", "Full"]) rfl (by decide) fun H2 e2 => ?_
  have e12 := e1.trans e2
  refine rd_dec (fun c2 => ?_) (fun c2 => ?_)
  · walk_at "go"
    have ⟨f1, f2⟩ := hf.key (key := "most") (by unfold fieldKey; rw [if_neg c1, if_pos c2])
    exact read_at xf f1 (e12 _ _ hd) f2 (q _ e12)
  walk_at "go"
  unfold t_field_2
  walk_at "go"
  refine read_at xf nC (e12 _ _ hd) hc ?_
  walk_at "go"
  refine rd_codeIn (us := ["TakenName", "UnknownName"]) rfl (by decide) fun H3 e3 => ?_
  have e13 := e12.trans e3
  refine rd_dec (fun c3 => ?_) (fun c3 => ?_)
  · walk_at "go"
    have ⟨f1, f2⟩ := hf.key (key := "name") (by unfold fieldKey; rw [if_neg c1, if_neg c2, if_pos c3])
    exact read_at xf f1 (e13 _ _ hd) f2 (q _ e13)
  walk_at "go"
  unfold t_field_3
  walk_at "go"
  refine read_at xf nC (e13 _ _ hd) hc ?_
  walk_at "go"
  refine rd_dec (fun c4 => ?_) (fun c4 => ?_)
  · walk_at "go"
    have ⟨f1, f2⟩ := hf.key (key := "line") (by unfold fieldKey; rw [if_neg c1, if_neg c2, if_neg c3, if_pos c4])
    exact read_at xf f1 (e13 _ _ hd) f2 (q _ e13)
  walk_at "go"
  unfold t_field_4
  walk_at "go"
  refine read_at xf nC (e13 _ _ hd) hc ?_
  walk_at "go"
  refine rd_dec (fun c5 => ?_) (fun c5 => ?_)
  · walk_at "go"
    have ⟨f1, f2⟩ := hf.key (key := "number") (by unfold fieldKey; rw [if_neg c1, if_neg c2, if_neg c3, if_neg c4, if_pos c5])
    exact read_at xf f1 (e13 _ _ hd) f2 (q _ e13)
  walk_at "go"
  unfold t_field_5
  walk_at "go"
  refine read_at xf nC (e13 _ _ hd) hc ?_
  walk_at "go"
  refine rd_codeIn (us := ["OtherSchema", "OtherWidth", "NothingLeft"]) rfl (by decide) fun H4 e4 => ?_
  have e14 := e13.trans e4
  refine rd_dec (fun c6 => ?_) (fun c6 => ?_)
  · walk_at "go"
    have e := hf.no (by unfold fieldKey; rw [if_neg c1, if_neg c2, if_neg c3, if_neg c4, if_neg c5, if_pos c6])
    subst e
    exact q _ e14
  · walk_at "go"
    have ⟨f1, f2⟩ := hf.key (key := "given") (by unfold fieldKey; rw [if_neg c1, if_neg c2, if_neg c3, if_neg c4, if_neg c5, if_neg c6])
    exact read_at xf f1 (e14 _ _ hd) f2 (q _ e14)
end

/-! The law's try: a def that calls what it got and tells the error's code and attribute. -/
def baseErrs (K : PySem.W.Frag) : List Value := [.ref (cls_at K "EntryError"), .ref (cls_at K "Missing"), .ref (cls_at K "NothingLeft")]
/-- an error class of the program -/
class ExcOk (K : PySem.W.Frag) (x fl : Str) : Prop where
  xf : XfC K (cls_at K x)
  nC : PySem.W.findIn K (.ref (cls_at K x)) "code" = some none
  nF : PySem.W.findIn K (.ref (cls_at K x)) fl = some none
  mt : PySem.W.exmAny K (.ref (cls_at K x)) (baseErrs K) = some true
/-- return (e.code, field(e)) -/
def t_tryE (K : PySem.W.Frag) : Addr → Value → Option Addr → TS := fun a cls d => tRet (tTup (tCons (tXfA K a cls d "code" (tVar 1)) (tCons (tCallE (sp_field K a cls d) (tCons (tVar 1) tNil)) tNil)))
/-- try: return ("", ask()) / except ..: the above -/
def t_try (K : PySem.W.Frag) (f : Addr) (tl : XK → Hp → VK → Prop) : TS := fun D σ H => tRet (tTup (tCons (tC (.str "")) (tCons (tAsk 0 f tl (wAsT K (baseErrs K) 1 (t_tryE K) D)) tNil))) D σ H
def rTry (K : PySem.W.Frag) (f : Addr) (tl : XK → Hp → VK → Prop) (H : Hp) (Q : VK) : Prop := t_try K f tl { nx := fun _ H' => Q .non H', rt := Q } [some (.ref f), none] H
/-- what a raised error comes to -/
def tryW (K : PySem.W.Frag) (f : Addr) (Q : VK) : XK := fun cls d H => wAsT K (baseErrs K) 1 (t_tryE K) { nx := fun _ H' => Q .non H', rt := Q } cls d [some (.ref f), none] H
theorem rd_try {K : PySem.W.Frag} {f : Addr} {tl : XK → Hp → VK → Prop} {H : Hp} {Q : VK} (q : tl (tryW K f Q) H fun v H1 => [V.str "", v].length ≤ sizeLine ∧ ∀ p, H1 p = none → Q (.ref p) (upd H1 p (.tup [.str "", v]))) : rTry K f tl H Q := ⟨rfl, q⟩
theorem rd_tryE {K : PySem.W.Frag} {f dd : Addr} {x fl : Str} {v : V} {H : Hp} {Q : VK} (X : ExcOk K x fl) (hd : H dd = some (.xd (excF x fl v))) (hk : fieldKey x = some fl) (hn : fl ≠ "code") (q : ∀ H', Ex H H' → ∀ p, H' p = none → Q (.ref p) (upd H' p (.tup [.str x, v]))) :
    tryW K f Q (.ref (cls_at K x)) (some dd) H := by
  refine ⟨X.mt, fun a na => ?_⟩
  refine ⟨.ref a, rfl, rfl, _, dd, _, .str x, rfl, X.xf, X.nC, rfl, hd, excF_code x fl v, ?_⟩
  refine ⟨.ref a, rfl, ?_⟩
  refine ⟨_, dd, _, x, v, rfl, rfl, X.xf, X.nC, rfl, hd, excF_code x fl v, ?_, fun H' e => ⟨(by show 2 ≤ sizeLine; decide), q H' e⟩⟩
  unfold FieldIs
  rw [hk]
  exact ⟨X.nF, excF_fl v hn⟩
/-- the law's field, callable in a suite -/
structure FldOk (P : Program) (w : World) (K : PySem.W.Frag) (mg : Str → Option Value) (base : Heap) (k : Nat) (x : Str) : Prop where
  ex : ∃ f fd, FnE P w K mg base k f fd ["_law_e"] (sp_field K) ∧ mg x = some (.ref f) ∧ PySem.W.keepIn K (.ref f) = true ∧ Binds K fd ["_law_e"] []
/-- the law's try: j what the lambdas may take -/
structure TryOk (P : Program) (w : World) (K : PySem.W.Frag) (mg : Str → Option Value) (base : Heap) (k j : Nat) (x : Str) : Prop where
  ex : ∃ g, mg x = some (.ref g) ∧ PySem.W.keepIn K (.ref g) = true ∧ ∀ (A : Around) (outer : List Env) (s : Shared) (H : Hp) (f : Addr) (tl : XK → Hp → VK → Prop) (Q : VK), Room k A → Env0 P w K mg base A outer s H → CanCall P w K mg base j outer s H f tl → rTry K f tl H Q →
    codeAny (model P w) A (.call (.ref g) ⟨[.ref f], []⟩) (CR C8.CX0 outer P w H s Q C8.E0) s
theorem try_mk {P : Program} {w : World} {K : PySem.W.Frag} {mg : Str → Option Value} {base : Heap} {k j : Nat} {x qual : Str} {st : Stmt} {g : Addr} {fd : FuncData} (F : Fun K x qual st g fd) (S : FnScope ["_law_ask", "_law_e"] ["_law_ask"] (defScope st)) (gm : mg x = some (.ref g))
    (hb : ∀ (kV doc pm : Value) (an : Option Addr) (cdv ct : Value) (u : Value), bindArgs (PySem.W.fnOf x qual (defArgs st) (defBody st) (defScope st) .none kV doc pm an cdv ct) ⟨[u], []⟩ = pure [(("_law_ask" : Str), u)])
    (body : ∀ (cdv : Value) (A : Around) (outer : List Env) (s : Shared) (H : Hp) (f : Addr) (tl : XK → Hp → VK → Prop), Room k (A.deeper (envOfC qual (defScope st) s.heap.objs.size g cdv)) → CanCall P w K mg base j outer s H f tl →
      PSs (cxOf C8.CX0 P w K mg base ["_law_ask", "_law_e"] qual (defScope st) g cdv A outer s H C8.E0) (defBody st) (t_try K f tl)) : TryOk P w K mg base (k + 1) j x := by
  obtain ⟨oc, od, kV, doc, pm, an, cdv, ct, osl, rfl, lk, hcd⟩ := F.ex; refine ⟨g, gm, F.kp, fun A outer s H f tl Q hr e0 c h => ?_⟩
  refine LamX.run_ofS (N := ["_law_ask", "_law_e"]) (ps := ["_law_ask"]) (us := [.ref f]) (vs := [.ref f]) lk hcd S hr e0 (BindsTo.of_eq (hb ..)) (.cons rfl .nil) rfl fun hr' => ⟨_, body cdv A outer s H f tl hr' c, h⟩
/-- the body's one statement -/
theorem pss_ask {X : Cx} {pn : List (Addr × Obj)} {xe : Value → Shared → Prop} {W : WX} {k : Nat} {f : Addr} {a : Str} {p1 p2 p3 pos p4 : Pos} {kk k2 : Nat} {tl : XK → Hp → VK → Prop} (c : CanCall X.prog X.w X.K X.mg X.base k X.outer X.s_0 X.H_0 f tl) (hex : X.ex = []) (tk : Takes (X.tr pn xe) W) (hr : Room k X.A)
    (hN : X.N[0]? = some a) (hv : Vis X.env.scope a) (hd : (a == ("__debug__" : Str)) = false) (hcd : (a == ("__classdict__" : Str)) = false) :
    PSs (X.tr pn xe) [.Return (some (.Tuple [.Constant (.str "") k2 p4, .Call (.Name a p1) [] [] p2] kk p3)) pos] (tRet (tTup (tCons (tC (.str "")) (tCons (tAsk 0 f tl W) tNil)))) :=
  pss_one (ps_ret (pe_tup (pa_cons pe_str (pa_cons (pe_ask c hex tk hr hN hv hd hcd) pa_nil))))
/-- try(lambda: e) -/
def tTryL (lw : LamW) (i : Nat) (K : PySem.W.Frag) (tb : XK → TE) : TE := fun σ H Q => tLamE lw i σ H fun x H1 => ∃ f, x = .ref f ∧ LamAt lw i H1 f ∧ rTry K f (fun E H' Q' => LamAt lw i H' f ∧ tb E σ H' Q') H1 Q
section
variable {X : Cx} {lw : LamW} {i j kt kk : Nat} {params : Arguments} {body : Expr} {scope : Scope} {dflt : Bool} {cl : Addr} {x : Str} {p lpos pos : Pos} {tb : XK → TE}
theorem pe_tryL (TR : TryOk X.prog X.w X.K X.mg X.base kt (j + 1) x) (LX : LamX1 X lw cl) (L : LamN X.N X.env.scope ⟨params, body, scope, dflt⟩ []) (ho : lw.o i = lamO X ⟨params, body, scope, dflt⟩) (hd : lw.d i = dflt) (hr : Room kk X.A) (hk : kt ≤ kk) (hg : Gl X x)
    (hbody : ∀ (A : Around) (outer : List Env) (s : Shared) (H : Hp) (E : XK) (f c : Addr), Room j (A.deeper (LamX.lamEnv X scope s.heap.objs.size f c)) → PE (LamX.lamCx X A outer s H E scope f c) body (tb E)) (hdb : (x == ("__debug__" : Str)) = false := by decide) :
    PE X (.Call (.Name x p) [.Lambda params body scope lpos] [] pos) (tTryL lw i X.K tb) := by
  obtain ⟨g, hm, hkp, run⟩ := TR.ex
  refine ⟨fun pins s σ H Q I h => wpAny_Call_Name_kw (ld_glob I hg hm ?_ hdb)⟩
  refine PySem.W.callWith_K (h₀ := X.base) I.ok.mod.kin hkp ?_ (by rfl) (by rfl)
  show wpAny _ _ (spliced ((false, eval (.Lambda params body scope lpos) X.env) :: backTo pos (starEach [] X.env))) _ _ s; refine Calls.spliced_cons (thn ((pe_lam (T := ⟨params, body, scope, dflt⟩) (pos := lpos) LX L ho hd).run pins s σ H _ I h) fun u s1 ⟨v, H1, I1, r1, f, ev, la, q⟩ => Calls.spliced_nil ⟨I1.kIn, ?_⟩)
  subst ev
  obtain rfl : u = Value.ref f := r1; have cc := can_lam (f := f) (tb := tb) I1 L ho hd LX.q hbody
  refine wpAny_call (codeAny_mono (run X.A X.stack s1 H1 f _ Q (hr.mono hk) I1.env0 cc q) fun r s2 hq => ?_)
  cases r with
  | error _ => exact False.elim hq
  | ok fl => cases fl <;> first | exact I1.after hq | exact False.elim hq
end
section
variable {N : List Str} {sc : Scope} {params : Arguments} {body : Expr} {scope : Scope}
theorem lamN_part {T : LamTx} {mk : List Nat} (h : lamNB N sc T mk = true) : T.scope.kind = .function ∧ T.scope.isCoroutine = false ∧ T.scope.isGenerator = false ∧ (∀ y ∈ T.scope.names, y.2 ≠ .cell) ∧ (∀ y ∈ T.scope.names, y.2 = .local → ∀ i : Nat, N[i]? = some y.1 → i ∈ mk) ∧
    ∀ y ∈ T.scope.names, y.2 = .free → sc.names.lookup y.1 = some .cell ∨ sc.names.lookup y.1 = some .free := by
  unfold lamNB at h
  simp only [Bool.and_eq_true, Bool.or_eq_true, Bool.not_eq_true', decide_eq_true_eq, decide_eq_false_iff_not, List.all_eq_true] at h; obtain ⟨⟨⟨h1, h2⟩, h3⟩, h4⟩ := h
  refine ⟨h1, h2, h3, fun y hy => (h4 y hy).1.1, fun y hy e i ei => ?_, fun y hy e => ?_⟩
  · have z := (h4 y hy).1.2.resolve_left (fun z => z e) i (List.mem_range.mpr (List.getElem?_eq_some_iff.mp ei).1)
    exact z.resolve_left fun q => q ei
  exact (h4 y hy).2.elim (fun z => z.elim (fun z => absurd e z) .inl) .inr
theorem lamN0 {mk : List Nat} (h : lamNB N sc ⟨params, body, scope, false⟩ mk = true) (kw : params.kwonlyargs = [] := by rfl) (d : ∀ env, defaultsOf params env = ([], []) := by intro _; rfl)
    (b : ∀ (q : Str) (cl : List (Str × Addr)) (doc pm cv ctv : Value), bindArgs (PySem.W.kdv_fn "<lambda>" q params (.expr body) scope cl .none doc pm cv ctv) ⟨[], []⟩ = pure [] := by intros; rfl) : LamN N sc ⟨params, body, scope, false⟩ mk :=
  have ⟨h1, h2, h3, h4, h5, h6⟩ := lamN_part h
  ⟨h1, h2, h3, h4, h5, h6, kw, fun _ => ⟨d, b⟩, fun z => Bool.noConfusion z⟩
theorem lamN1 {nm : Str} {k : Nat} {p : Pos} {mk : List Nat} (h : lamNB N sc ⟨params, body, scope, true⟩ mk = true) (kw : params.kwonlyargs = [] := by rfl) (d : ∀ env, defaultsOf params env = ([eval (.Constant (.int 0) k p) env], []) := by intro _; rfl) (hn : scope.names.lookup nm = some .local := by rfl)
    (b : ∀ (D : Addr) (q : Str) (cl : List (Str × Addr)) (doc pm cv ctv : Value) (tk : Tok), ∃ k, bindArgs (PySem.W.kdv_fn "<lambda>" q params (.expr body) scope cl (.ref D) doc pm cv ctv) ⟨[], []⟩ = seqItems? (.ref D) >>= k ∧ k (some #[.int 0 tk]) = pure [(nm, .int 0 tk)] := by intros; exact ⟨_, rfl, rfl⟩) : LamN N sc ⟨params, body, scope, true⟩ mk :=
  have ⟨h1, h2, h3, h4, h5, h6⟩ := lamN_part h
  ⟨h1, h2, h3, h4, h5, h6, kw, fun z => Bool.noConfusion z, fun _ => ⟨⟨k, p, d⟩, nm, hn, b⟩⟩
end

/-! What any law with lambdas that are tried at once wants. -/



theorem rd_ifN {A B : Prop} (h : B) : if (!true) = true then A else B := h
section
variable {K : PySem.W.Frag} {σ : L2.St} {G H : Hp} {L : List (Addr × HO)} {Q : VK} {D : Ends} {E : XK} {lw : LamW} {b : Addr} {pt : Array Value}
theorem Stt.up {H' : Hp} (S : Stt G H L) (e : Ex H H') : Stt G H' L := ⟨S.ex.trans e, fun p hp => e _ _ (S.has p hp), S.out, S.nd⟩
theorem LamW.codes.ex {G' : Hp} (e : Ex G G') (hc : lw.codes G pt) : lw.codes G' pt := ⟨hc.1, fun pos cv z => have ⟨c, h1, h2⟩ := hc.2 pos cv z; ⟨c, h1, e _ _ h2⟩⟩
theorem Bag.lam {i : Nat} {H1 : Hp} {f : Addr} (B : Bag K G H b [(lw.P, .tbl pt)]) (hc : lw.codes G pt) (n : LamNew lw i H pt f H1) : ∃ G1 ps', Ex G G1 ∧ Bag K G1 H1 b [(lw.P, .tbl ps')] ∧ lw.codes G1 ps' ∧ LamAt lw i G1 f := by
  obtain ⟨c, i0, r, x, n0, ns, S, hcs, rest⟩ := B
  obtain ⟨G1, ps', e1, S1, k1, a1⟩ := LamNew.stt S (j := 1) rfl hc n
  exact ⟨G1, ps', e1, ⟨c, i0, r, x, n0, ns, S1, ex_l e1 hcs, rest⟩, k1, a1⟩
theorem Bag.tab (B : Bag K G H b [(lw.P, .tbl pt)]) : H lw.P = some (.tbl pt) := have ⟨_, _, _, _, _, _, S, _⟩ := B; S.at 1 rfl
/-- a lambda made -/
theorem rd_lamB {i : Nat} (B : Bag K G H b [(lw.P, .tbl pt)]) (hc : lw.codes G pt) (q : ∀ f G1 H1 ps1, Ex G G1 → Bag K G1 H1 b [(lw.P, .tbl ps1)] → lw.codes G1 ps1 → LamAt lw i G1 f → Q (.ref f) H1) : tLamE lw i σ H Q :=
  ⟨pt, B.tab, hc.ex B.ex, fun f H1 n => have ⟨G1, ps1, e1, B1, k1, a1⟩ := B.lam hc n; q f G1 H1 ps1 e1 B1 k1 a1⟩
theorem lk_same {x : V} {d : PyData} (h : Dp K G x d) : lk d d = true := lk_refl d (Dp.plain _ _ h)
theorem rd_like {n : Nat} {x y : V} {d : PyData} (B : Bag K G H b L) (hx : Dp K G x d) (hy : Dp K G y d) (hf : fit n d) (q : ∀ H', Bag K G H' b L → Q (.bl true) H') : sp_like K n [x, y] H Q E := by
  obtain ⟨M, S, hB⟩ := B.stt
  refine ⟨G, M, x, y, d, d, rfl, S, hx, hy, hf, fun H' S' => ?_⟩
  rw [lk_same hx]
  exact q H' (hB G H' (Ex.refl G) S')
theorem Bag.up {H' : Hp} (B : Bag K G H b L) (e : Ex H H') : Bag K G H' b L := have ⟨c, i, r, x, n, ns, S, h⟩ := B; ⟨c, i, r, x, n, ns, S.up e, h⟩
/-- a lambda made and tried -/
theorem rd_tryL {i : Nat} {tb : XK → TE} (B : Bag K G H b [(lw.P, .tbl pt)]) (hc : lw.codes G pt)
    (q : ∀ f G1 H1 ps1, Ex G G1 → Bag K G1 H1 b [(lw.P, .tbl ps1)] → lw.codes G1 ps1 → tb (tryW K f Q) σ H1 fun v H2 => ∀ p, H2 p = none → Q (.ref p) (upd H2 p (.tup [.str "", v]))) : tTryL lw i K tb σ H Q := by
  refine ⟨pt, B.tab, hc.ex B.ex, fun f H1 n => ?_⟩
  obtain ⟨G1, ps1, e1, B1, k1, a1⟩ := B.lam hc n
  refine ⟨f, rfl, a1.ex B1.ex, rd_try ⟨a1.ex B1.ex, ?_⟩⟩
  have := q f G1 H1 ps1 e1 B1 k1
  refine cast ?_ this
  congr 1
  funext v H2
  exact propext ⟨fun h => ⟨by show 2 ≤ sizeLine; decide, h⟩, fun h => h.2⟩
theorem new_state {x dx : Addr} {C : Addr} (S : Stt G H L) (hx : H x = none) (hdx : H dx = none) (ne : dx ≠ x) : Stt (upd G dx (.own x)) (upd (upd H dx (.own x)) x (.ins C dx [])) ((x, .ins C dx []) :: L) ∧ Ex G (upd G dx (.own x)) :=
  ⟨(S.new (o := .own x) hdx).mkL (p := x) (o := .ins C dx []) (by rw [upd_ne (Ne.symm ne)]; exact hx), S.newE (o := .own x) hdx⟩
end
/-- a heap without one of its objects -/
def del (H : Hp) (p : Addr) : Hp := fun a => if a = p then none else H a
theorem Stt.out1 {H : Hp} {p : Addr} {o : HO} (h : H p = some o) : Stt (del H p) H [(p, o)] where
  ex := fun a u ha => by
    unfold del at ha
    by_cases c : a = p
    · rw [if_pos c] at ha; cases ha
    · rw [if_neg c] at ha; exact ha
  has := fun q hq => by rw [List.mem_singleton.mp hq]; exact h
  out := fun q hq => by rw [List.mem_singleton.mp hq]; exact if_pos rfl
  nd := by simp
theorem del_sq {K : PySem.W.Frag} {H : Hp} {p a : Addr} {ps : Array Value} {xs : List V} (h : H p = some (.tbl ps)) (s : SqL K H a xs) : SqL K (del H p) a xs := by
  rcases s with r | k
  · have ne : a ≠ p := fun z => by
      subst z
      rcases r with r | ⟨o, r⟩ <;> (rw [h] at r; cases r)
    have e : del H p a = H a := if_neg ne
    exact .inl (by unfold Rd at r ⊢; rw [e]; exact r)
  · exact .inr k

/-! len(o), bool(o) by own methods; comprehensions with two fors. -/
section
variable {X : Cx} {n m k j : Nat} {C : Addr} {sp : Sp}
/-- len(o) -/
def gLenO (C : Addr) (sp : Sp) : List V → Hp → VK → Prop := fun xs H Q => ∃ p dx fs, xs = [.ref p] ∧ H p = some (.ins C dx fs) ∧ sp [.ref p] H (fun v H' => ∃ t : Nat, v = .int t ∧ t < 1000000 ∧ Q (.int t) H') C8.E0
theorem cr_lenO (c : C8.Met X.prog X.w X.K X.mg X.base k C "__len__" sp []) (hr : Room j X.A) (hk : k + 1 ≤ j) : CallR X (.builtin "len") (gLenO C sp) := by
  intro pins s σ H xs us Q I r h; obtain ⟨p, dx, fs, rfl, ha, hs⟩ := h
  obtain rfl := Vals.ref1 r
  obtain ⟨f, fd, ps, ds, hc, hm, F, bd, dd⟩ := c.ex
  obtain ⟨mA, O, _⟩ := ins_get I.hok ha; obtain ⟨od, J, _⟩ := O.look
  have sb : Sub X (k + 1) X.A := ⟨hr.mono hk, rfl⟩
  refine Calls.call_function_entry kind_len plain_len entry_len (args_len1 _) ?_; unfold Builtin.«len»
  refine wpAny_bind (m := oneArg "len" _) (wpAny_pure ?_); refine wpAny_bind (m := callSpecial? (.ref p) (Str.ofString "__len__")) (PySem.W.special_fn I.kIn J hm.at_ (beq_iff_eq.mp hm.fn) (wpAny_mono (run_sub F sb.in1 bd dd I (vs := [.ref p]) (.cons rfl .nil) (by rw [List.append_nil]; exact hs)) (fun r s' hr => ?_) fun _ _ y => y))
  obtain ⟨z, H', I', rz, t, ez, ht, q⟩ := hr
  subst ez
  obtain ⟨tk, rfl⟩ := rz
  refine wpAny_bind (wpAny_holding (wpAny_pure ?_)); refine wpAny_bind (wpAny_letGo ?_)
  show wpAny _ _ (if (t : Int) < 0 then _ else _) _ _ _
  rw [if_neg (by omega)]
  show wpAny _ _ (if (t : Int) ≥ 2 ^ 63 then _ else _) _ _ _
  rw [if_neg (by omega)]
  exact wpAny_bind (wpAny_mkInt (wpAny_pure ⟨_, rfl, V.int t, H', I'.tok _, ⟨_, rfl⟩, q⟩))
/-- bool(o) -/
def gBoolM (C : Addr) (sp : Sp) : List V → Hp → VK → Prop := fun xs H Q => ∃ p dx fs, xs = [.ref p] ∧ H p = some (.ins C dx fs) ∧ ∃ b, sp [.ref p] H (fun v H' => v = .bl b ∧ H' = H) C8.E0 ∧ Q (.bl b) H
theorem cg_boolM (c : C8.Met X.prog X.w X.K X.mg X.base k C "__bool__" sp []) (hr : Room j X.A) (hk : k + 2 ≤ j) : CallR X (.type "bool") (gBoolM C sp) := by
  intro pins s σ H xs us Q I r h; obtain ⟨p, dx, fs, rfl, ha, b, hs, q⟩ := h
  obtain rfl := Vals.ref1 r
  obtain ⟨f, fd, ps, ds, hc, hm, F, bd, dd⟩ := c.ex
  obtain ⟨mA, O, _⟩ := ins_get I.hok ha; obtain ⟨od, J, _⟩ := O.look
  have sb : Sub X (k + 2) X.A := ⟨hr.mono hk, rfl⟩
  refine callType_newIn PySem.F.called_bool PySem.F.newNe_bool (PySem.F.typeCall_bool_1 _) (PySem.F.newCall_bool_1 _) (fun obj => PySem.F.args_object_init_2 obj _) PySem.F.entry_bool_new (GE.meetsIn_bool (.ref p)) ?_
  unfold truthy
  refine wpAny_bind (m := callSpecial? (.ref p) (Str.ofString "__bool__")) (PySem.W.special_fn I.kIn J hm.at_ (beq_iff_eq.mp hm.fn) (wpAny_mono (run_sub F sb.in1.in1 bd dd I (vs := [.ref p]) (.cons rfl .nil) (by rw [List.append_nil]; exact hs)) (fun r s' hr => ?_) fun _ _ y => y))
  obtain ⟨z, H', I', rz, ez, eh⟩ := hr
  subst ez eh
  cases rz
  exact wpAny_pure ⟨rfl, V.bl b, _, I', rfl, q⟩
end

/-! Methods that may raise; o | o and o & o, both of one class. -/
/-- the class's own operators come first -/
class SfB (K : PySem.W.Frag) : Prop where
  sf : PySem.W.selfFirst K (cls_at K "Bound") = true
structure MetX (P : Program) (w : World) (K : PySem.W.Frag) (mg : Str → Option Value) (base : Heap) (k : Nat) (C : Addr) (m : Str) (sp : Sp) : Prop where
  ex : ∃ (f : Addr) (fd : FuncData) (ps : List Str), Cls K C ∧ Meth K C m f ∧ FnOk P w K mg base (L2.CX P w) k f fd ps sp ∧ Binds K fd ps []
section
variable {X : Cx} {k j : Nat} {C : Addr} {sp : Sp} {E : XK} {m : Str}
/-- x op y, where the answer is an object -/
def rBinO (C : Addr) (sp : Sp) (E : XK) : R2 := fun x y H Q => ∃ a dx fs b dy gs, x = .ref a ∧ y = .ref b ∧ H a = some (.ins C dx fs) ∧ H b = some (.ins C dy gs) ∧ sp [.ref a, .ref b] H (fun v H' => ∃ p, v = .ref p ∧ Q (.ref p) H') E
theorem op_binO {op : Operator} (hm' : PySem.dunder op.info.2 = m) (c : MetX X.prog X.w X.K X.mg X.base k C m sp) (hr : Room j X.A) (hk : k ≤ j) (hx : Passes (L2.CX X.prog X.w) X E) (hsf : PySem.W.selfFirst X.K C = true) : OpR X (binaryOp op) (rBinO C sp E) := by
  intro pins s σ H x y v u Q I rx ry h; obtain ⟨a, dx, fs, b, dy, gs, rfl, rfl, ob, oc, q⟩ := h
  cases rx
  cases ry
  obtain ⟨f, fd, ps, hc, hm, F, bi⟩ := c.ex
  obtain ⟨mA, O, _⟩ := ins_get I.hok ob
  obtain ⟨od, J, _⟩ := O.look
  obtain ⟨mB, O2, _⟩ := ins_get I.hok oc
  obtain ⟨od2, J2, _⟩ := O2.look
  obtain ⟨mF, fr⟩ := I.fr
  refine PySem.W.binop_K fr I.ok.mod.kin J J2.type hsf (by rw [hm']; exact hm.at_) hm.fn ?_
  refine wpAny_mono (run_fn F (hr.mono hk) bi .nil hx I (vs := [.ref a, .ref b]) (.cons (show RelV (V.ref a) (Value.ref a) from rfl) (.cons (show RelV (V.ref b) (Value.ref b) from rfl) .nil)) (by rw [List.append_nil]; exact q)) (fun r s' hr => ?_) fun _ _ z => z
  obtain ⟨w, H', I', rw', p, rfl, hq⟩ := hr
  cases rw'
  exact ⟨.ref p, H', I', rfl, hq⟩
/-- o.m(..) -/
theorem pe_mX {o e : Expr} {es : List Expr} {ta : TE} {t : TA} {apos pos : Pos} {pl : Sem Bool} (c : MetX X.prog X.w X.K X.mg X.base k C m sp) (hr : Room j X.A) (hk : k ≤ j) (hx : Passes (L2.CX X.prog X.w) X E) (he : PE X o ta) (ha : PA X (e :: es) t)
    (hc : eval (.Call (.Attribute o m apos) (e :: es) [] pos) X.env = (do
      let ov ← eval o X.env
      standAt apos.atName
      let (f, fst) ← holding [ov] (getMethod ov m pl)
      callWith pos f fst (backTo pos (starEach (e :: es) X.env)) (backToKw pos (keywordEach [] X.env))) := by rfl)
    (hs : starEach (e :: es) X.env = (false, eval e X.env) :: starEach es X.env := by rfl) (hpl : (backTo pos (starEach es X.env)).any (·.1) = false := by rfl) : PE X (.Call (.Attribute o m apos) (e :: es) [] pos) (tMeth C m sp [] E ta t) := by
  obtain ⟨f, fd, ps, hcl, hm, F, bi⟩ := c.ex
  exact pe_meth he hcl hm F (hr.mono hk) bi .nil hx ha hs hpl hc
end
/-! ### C.m(k=e, ..), m a staticmethod -/
structure StaK (P : Program) (w : World) (K : PySem.W.Frag) (mg : Str → Option Value) (base : Heap) (k : Nat) (C : Addr) (m : Str) (sp : Sp) (ks : List Str) (perm : List Nat) : Prop where
  ex : ∃ (mc : Value) (p g : Addr) (fd : FuncData) (ps : List Str), ClX.CRead K C mc ∧ PySem.W.findCls K (.ref C) mc m = some (.get (.builtin "staticmethod.__get__") (.ref p) .none (.ref C)) ∧ (∃ rest, PySem.W.recIn K p "staticmethod" = some (.ref g :: rest)) ∧ PySem.W.keepIn K (.ref g) = true ∧
    FnOk P w K mg base C8.CX0 k g fd ps sp ∧ KBinds K fd ps ks (gPV ks.length perm) (gPV ks.length perm)
def tStcK (C : Addr) (sp : Sp) (n : Nat) (perm : List Nat) (ta : TE) (tk : TA) : TE := fun σ H Q => ta σ H fun x H1 => x = .ref C ∧ tk σ H1 fun zs H2 => sp (gPV n perm [] zs) H2 Q C8.E0
theorem kbinds_of {K : PySem.W.Frag} {x qual : Str} {st : Stmt} {f : Addr} {fd : FuncData} {ps ks : List Str} {perm : List Nat} (F : Fun K x qual st f fd) (h0 : 0 < ps.length)
    (h : ∀ (kV doc pm : Value) (an : Option Addr) (cdv ct : Value) (ws : List Value), ws.length = ks.length → bindArgs (PySem.W.fnOf x qual (defArgs st) (defBody st) (defScope st) .none kV doc pm an cdv ct) ⟨[], ks.zip ws⟩ = pure (ps.zip (gPV ks.length perm [] ws))) : KBinds K fd ps ks (gPV ks.length perm) (gPV ks.length perm) := by
  have ⟨_, _, kV, doc, pm, an, cdv, ct, _, hfd, _, _⟩ := F.ex
  subst hfd
  refine ⟨fun s us ws _ hl => ?_, gPV_rel⟩
  by_cases c : us.length = 0 ∧ ws.length = ks.length
  · obtain rfl : us = [] := List.length_eq_zero_iff.mp c.1
    exact .of_eq (h kV doc pm an cdv ct ws c.2)
  · unfold gPV at hl
    rw [if_neg c] at hl
    exact absurd hl (by simp; omega)
section
variable {X : Cx} {k j : Nat} {C : Addr} {sp : Sp} {m : Str} {ks : List Str} {perm : List Nat} {o : Expr} {kws : List Keyword} {ta : TE} {tk : TA} {apos pos : Pos}
theorem pe_stK {pl : Sem Bool} (c : StaK X.prog X.w X.K X.mg X.base k C m sp ks perm) (hr : Room j X.A) (hk : k ≤ j) (he : PE X o ta) (hkw : PK X kws tk)
    (named : (backToKw pos (keywordEach kws X.env)).all (·.1.isSome) = true := by rfl) (names : (backToKw pos (keywordEach kws X.env)).filterMap (·.1) = ks := by rfl)
    (noStar : ((backTo pos (starEach [] X.env)).any (·.1) || (backToKw pos (keywordEach kws X.env)).any (·.1.isNone)) = false := by rfl)
    (ht : eval (.Call (.Attribute o m apos) [] kws pos) X.env = (do let ov ← eval o X.env; standAt apos.atName; let (f, first) ← holding [ov] (getMethod ov m pl); callWith pos f first (backTo pos (starEach [] X.env)) (backToKw pos (keywordEach kws X.env))) := by rfl) :
    PE X (.Call (.Attribute o m apos) [] kws pos) (tStcK C sp ks.length perm ta tk) := by
  obtain ⟨mc, p, g, fd, ps, r, at_, ⟨rest, hp⟩, kp, F, hb⟩ := c.ex
  refine ⟨fun pins s σ H Q I h => PySem.W.methodCall_KW (pl := pl) (thn (he.run pins s σ H _ I h) fun u s1 ⟨x, H1, I1, rx, ex, q⟩ => ?_) ht⟩
  subst ex
  cases (show u = Value.ref C from rx)
  have I2 := I1.tok (s1.toks + 1)
  refine PySem.W.method_cls I1.kIn r.ga (PySem.W.cls_bind I1.kIn r.rd at_ (wpAny_call (PySem.W.sm_get (s := { s1 with toks := s1.toks + 1 }) I1.kIn hp (PySem.W.handed_on rfl ?_))))
  refine PySem.W.callWith_KW0 (h₀ := X.base) I2.ok.mod.kin kp named (thn (hkw.run pos pins _ σ H1 _ I2 q) ?_) noStar
  rintro ws s2 ⟨zs, H2, I3, rz, q2⟩
  refine ⟨I3.kIn, ?_⟩
  rw [names]
  exact run_fnk F (hr.mono hk) hb C8.pass0 I3 .nil rz q2
end

/-! o.m(k=e, ..): a method called by keywords alone; list.insert. -/
/-- the receiver and n keyword values, put in the parameters' order -/
def gMV {α : Type} (n : Nat) (perm : List Nat) (vs zs : List α) : List α := if vs.length = 1 ∧ zs.length = n then vs ++ gPV n perm [] zs else []
theorem gMV_rel {n : Nat} {perm : List Nat} {vs zs : List V} {us ws : List Value} (r : Vals vs us) (q : Vals zs ws) : Vals (gMV n perm vs zs) (gMV n perm us ws) := by
  have h1 := r.length
  have h2 := q.length
  unfold gMV
  by_cases h : vs.length = 1 ∧ zs.length = n
  · rw [if_pos h, if_pos ⟨by omega, by omega⟩]
    exact r.append (gPV_rel .nil q)
  · rw [if_neg h, if_neg (fun z => h ⟨by omega, by omega⟩)]
    exact .nil
structure MetK (P : Program) (w : World) (K : PySem.W.Frag) (mg : Str → Option Value) (base : Heap) (CX : CXT) (k : Nat) (C : Addr) (m : Str) (sp : Sp) (ks : List Str) (perm : List Nat) : Prop where
  ex : ∃ (f : Addr) (fd : FuncData) (ps : List Str), Cls K C ∧ Meth K C m f ∧ FnOk P w K mg base CX k f fd ps sp ∧ KBinds K fd ps ks (gMV ks.length perm) (gMV ks.length perm)
def tMethK (C : Addr) (m : Str) (sp : Sp) (n : Nat) (perm : List Nat) (E : XK) (ta : TE) (tk : TA) : TE := fun σ H Q => ta σ H fun x H1 => ∃ a dx fs, x = .ref a ∧ H1 a = some (.ins C dx fs) ∧ fs.lookup m = none ∧ tk σ H1 fun zs H2 => sp (gMV n perm [.ref a] zs) H2 Q E
theorem rd_methK {C : Addr} {m : Str} {sp : Sp} {n : Nat} {perm : List Nat} {E : XK} {ta : TE} {tk : TA} {σ : L2.St} {H : Hp} {Q : VK} (q : ta σ H fun x H1 => ∃ a dx fs, x = .ref a ∧ H1 a = some (.ins C dx fs) ∧ fs.lookup m = none ∧ tk σ H1 fun zs H2 => sp (gMV n perm [.ref a] zs) H2 Q E) : tMethK C m sp n perm E ta tk σ H Q := q
theorem gMV1 (x v : V) : gMV 1 [0] [x] [v] = [x, v] := rfl
theorem kbindsM_of {K : PySem.W.Frag} {x qual : Str} {st : Stmt} {f : Addr} {fd : FuncData} {ps ks : List Str} {perm : List Nat} (F : Fun K x qual st f fd) (h0 : 0 < ps.length)
    (h : ∀ (kV doc pm : Value) (an : Option Addr) (cdv ct u : Value) (ws : List Value), ws.length = ks.length → bindArgs (PySem.W.fnOf x qual (defArgs st) (defBody st) (defScope st) .none kV doc pm an cdv ct) ⟨[u], ks.zip ws⟩ = pure (ps.zip (gMV ks.length perm [u] ws))) : KBinds K fd ps ks (gMV ks.length perm) (gMV ks.length perm) := by
  have ⟨_, _, kV, doc, pm, an, cdv, ct, _, hfd, _, _⟩ := F.ex
  subst hfd
  refine ⟨fun s us ws _ hl => ?_, gMV_rel⟩
  by_cases c : us.length = 1 ∧ ws.length = ks.length
  · match us, c.1 with
    | [u], _ => exact .of_eq (h kV doc pm an cdv ct u ws c.2)
  · unfold gMV at hl
    rw [if_neg c] at hl
    exact absurd hl (by simp; omega)
section
variable {X : Cx} {CX : CXT} {k j : Nat} {C : Addr} {sp : Sp} {m : Str} {ks : List Str} {perm : List Nat} {o : Expr} {kws : List Keyword} {ta : TE} {tk : TA} {apos pos : Pos} {E : XK}
theorem pe_mK {pl : Sem Bool} (c : MetK X.prog X.w X.K X.mg X.base CX k C m sp ks perm) (hr : Room j X.A) (hk : k ≤ j) (hx : Passes CX X E) (he : PE X o ta) (hkw : PK X kws tk)
    (named : (backToKw pos (keywordEach kws X.env)).all (·.1.isSome) = true := by rfl) (names : (backToKw pos (keywordEach kws X.env)).filterMap (·.1) = ks := by rfl)
    (noStar : ((backTo pos (starEach [] X.env)).any (·.1) || (backToKw pos (keywordEach kws X.env)).any (·.1.isNone)) = false := by rfl)
    (ht : eval (.Call (.Attribute o m apos) [] kws pos) X.env = (do let ov ← eval o X.env; standAt apos.atName; let (f, first) ← holding [ov] (getMethod ov m pl); callWith pos f first (backTo pos (starEach [] X.env)) (backToKw pos (keywordEach kws X.env))) := by rfl) :
    PE X (.Call (.Attribute o m apos) [] kws pos) (tMethK C m sp ks.length perm E ta tk) := by
  obtain ⟨f, fd, ps, hcl, hm, F, hb⟩ := c.ex
  refine ⟨fun pins s σ H Q I h => PySem.W.methodCall_KW (pl := pl) (thn (he.run pins s σ H _ I h) fun u s1 ⟨x, H1, I1, rx, a, dx, fs, ex, ea, l, q⟩ => ?_) ht⟩
  subst ex
  obtain rfl : u = Value.ref a := rx; refine getmeth_ok I1 ea hcl hm l ?_
  refine PySem.W.callWith_KW0 (first := [.ref a]) (h₀ := X.base) I1.ok.mod.kin hm.kp named (thn (hkw.run pos pins s1 σ H1 _ I1 q) ?_) noStar
  rintro ws s2 ⟨zs, H2, I3, rz, q2⟩
  refine ⟨I3.kIn, ?_⟩
  rw [names]
  exact run_fnk F (hr.mono hk) hb hx I3 (us := [.ref a]) (vs := [.ref a]) (.cons rfl .nil) rz q2
end
/-- xs.insert(i, y) -/
def rIns : V → List V → Hp → VK → Prop := fun x vs H Q => ∃ (l : Addr) (xs : List V) (i : Int) (y : V), x = .ref l ∧ vs = [.int i, y] ∧ H l = some (.lst xs) ∧ xs.length < sizeLine ∧ 0 ≤ i ∧ i < 2 ^ 63 ∧ Q .non (upd H l (.lst (xs.take i.toNat ++ [y] ++ xs.drop i.toNat)))
theorem mt_ins {X : Cx} : MtR X "list.insert" rIns := mt_insert

/-! A method with a default that may raise: o.m(..), o.m(), o.m(k=e). -/
structure MetXD (P : Program) (w : World) (K : PySem.W.Frag) (mg : Str → Option Value) (base : Heap) (k : Nat) (C : Addr) (m : Str) (sp : Sp) (dvs : List V) : Prop where
  ex : ∃ (f : Addr) (fd : FuncData) (ps : List Str) (ds : List Value), Cls K C ∧ Meth K C m f ∧ FnOk P w K mg base (L2.CX P w) k f fd ps sp ∧ Binds K fd ps ds ∧ Vals dvs ds
section
variable {X : Cx} {k j : Nat} {C : Addr} {sp : Sp} {E : XK} {m : Str} {dvs : List V}
theorem pe_mXD {o e : Expr} {es : List Expr} {ta : TE} {t : TA} {apos pos : Pos} {pl : Sem Bool} (c : MetXD X.prog X.w X.K X.mg X.base k C m sp dvs) (hr : Room j X.A) (hk : k ≤ j) (hx : Passes (L2.CX X.prog X.w) X E) (he : PE X o ta) (ha : PA X (e :: es) t)
    (hc : eval (.Call (.Attribute o m apos) (e :: es) [] pos) X.env = (do
      let ov ← eval o X.env
      standAt apos.atName
      let (f, fst) ← holding [ov] (getMethod ov m pl)
      callWith pos f fst (backTo pos (starEach (e :: es) X.env)) (backToKw pos (keywordEach [] X.env))) := by rfl)
    (hs : starEach (e :: es) X.env = (false, eval e X.env) :: starEach es X.env := by rfl) (hpl : (backTo pos (starEach es X.env)).any (·.1) = false := by rfl) : PE X (.Call (.Attribute o m apos) (e :: es) [] pos) (tMeth C m sp dvs E ta t) := by
  obtain ⟨f, fd, ps, ds, hcl, hm, F, bi, hd⟩ := c.ex
  exact pe_meth he hcl hm F (hr.mono hk) bi hd hx ha hs hpl hc
theorem pe_mXD0 {o : Expr} {ta : TE} {apos pos : Pos} {pl : Sem Bool} (c : MetXD X.prog X.w X.K X.mg X.base k C m sp dvs) (hr : Room j X.A) (hk : k ≤ j) (hx : Passes (L2.CX X.prog X.w) X E) (he : PE X o ta)
    (hc : eval (.Call (.Attribute o m apos) [] [] pos) X.env = (do
      let ov ← eval o X.env
      standAt apos.atName
      let (f, fst) ← holding [ov] (getMethod ov m pl)
      callWith pos f fst (backTo pos (starEach [] X.env)) (backToKw pos (keywordEach [] X.env))) := by rfl) : PE X (.Call (.Attribute o m apos) [] [] pos) (tMeth C m sp dvs E ta tNil) := by
  obtain ⟨f, fd, ps, ds, hcl, hm, F, bi, hd⟩ := c.ex
  exact pe_meth0 he hcl hm F (hr.mono hk) bi hd hx hc
end
section
variable {K : PySem.W.Frag} {x qual : Str} {st : Stmt} {f : Addr} {fd : FuncData} {ps : List Str} {dv : V}
/-- one default, given too -/
theorem bindsD_all (F : FunD K x qual (defArgs st) (defBody st) (defScope st) [dv] [] f fd)
    (h : ∀ (T : Addr) (kV doc pm : Value) (an : Option Addr) (cdv ct : Value) (us its : List Value), us.length = ps.length → its.length = 1 →
      ∃ k, bindArgs (PySem.W.fnOf x qual (defArgs st) (defBody st) (defScope st) (.ref T) kV doc pm an cdv ct) ⟨us, []⟩ = seqItems? (.ref T) >>= k ∧ k (some its.toArray) = pure (ps.zip us)) : Binds K fd ps [] := by
  obtain ⟨ds, v, b⟩ := F.binds1 (ps := ps) ps.length 1 (List.cons_ne_nil _ _) (by simp) fun T kV doc pm an cdv ct us its h1 h2 => by
    obtain ⟨k, e1, e2⟩ := h T kV doc pm an cdv ct us its h1 h2
    refine ⟨k, e1, e2.trans ?_⟩
    match its, h2 with
    | [_], _ => simp
  cases v
  exact b
theorem bindsD_dflt (F : FunD K x qual (defArgs st) (defBody st) (defScope st) [dv] [] f fd) {n : Nat} (hn : n + 1 = ps.length)
    (h : ∀ (T : Addr) (kV doc pm : Value) (an : Option Addr) (cdv ct : Value) (us its : List Value), us.length = n → its.length = 1 →
      ∃ k, bindArgs (PySem.W.fnOf x qual (defArgs st) (defBody st) (defScope st) (.ref T) kV doc pm an cdv ct) ⟨us, []⟩ = seqItems? (.ref T) >>= k ∧ k (some its.toArray) = pure (ps.zip (us ++ its))) : ∃ ds, Vals [dv] ds ∧ Binds K fd ps ds :=
  F.binds1 (ps := ps) n 0 (List.cons_ne_nil _ _) hn h
/-- the one default given by its keyword -/
theorem kbindsD (F : FunD K x qual (defArgs st) (defBody st) (defScope st) [dv] [] f fd) {ks : List Str} {perm : List Nat} (h0 : 0 < ps.length)
    (h : ∀ (T : Addr) (kV doc pm : Value) (an : Option Addr) (cdv ct u : Value) (ws its : List Value), ws.length = ks.length → its.length = 1 →
      ∃ k, bindArgs (PySem.W.fnOf x qual (defArgs st) (defBody st) (defScope st) (.ref T) kV doc pm an cdv ct) ⟨[u], ks.zip ws⟩ = seqItems? (.ref T) >>= k ∧ k (some its.toArray) = pure (ps.zip (gMV ks.length perm [u] ws))) : KBinds K fd ps ks (gMV ks.length perm) (gMV ks.length perm) := by
  obtain ⟨oc, od, dV, kV, doc, pm, an, cdv, ct, osl, rfl, lk, hcd, D, _⟩ := F.ex
  refine ⟨fun s us ws X hl => ?_, gMV_rel⟩
  by_cases c : us.length = 1 ∧ ws.length = ks.length
  · match us, c.1 with
    | [u], _ =>
      rcases D with ⟨e, _⟩ | ⟨_, T, o, its, n, rfl, lT, dT, vT⟩
      · cases e
      · obtain ⟨k, e1, e2⟩ := h T kV doc pm an cdv ct u ws its c.2 vT.length.symm
        intro M A E Q q
        rw [e1]
        refine wpAny_bind (wpAny_seqItems (X _ _ lT) dT ?_)
        rw [e2]
        exact wpAny_pure q
  · unfold gMV at hl
    rw [if_neg c] at hl
    exact absurd hl (by simp; omega)
end

/-! x.replace(y, z), y and z written, within a list whose first item has made a token; x.upper(). -/
/-- x.upper() -/
def rUpp : V → List V → Hp → VK → Prop := fun x xs H Q => ∃ a, x = .str a ∧ xs = [] ∧ a.length ≤ 5592405 ∧ Q (.str (Txt.upper a)) H
def tUpp (to : TE) : TE := tM0 rUpp to
theorem pe_upp {X : Cx} {o : Expr} {to : TE} {apos pos : Pos} (h : PE X o to) (ha : attributeBase o "upper" X.env (eval o X.env) = eval o X.env := by rfl) (hl : (apos.endLine == pos.line) = true := by rfl) : PE X (.Call (.Attribute o "upper" apos) [] [] pos) (tUpp to) := pe_upper h ha hl
/-- an expression that leaves a token behind -/
def PEB (X : Cx) (e : Expr) (t : TE) : Prop := ∀ (pins : List (Addr × Obj)) (s : Shared) (σ : L2.St) (H : Hp) (Q : VK), L2.Inv X pins σ H s → t σ H Q → wpAny (model X.prog X.w) X.A (eval e X.env) (fun u s' => 1 ≤ s'.toks ∧ EP X pins σ Q u s') X.xe s
section
variable {X : Cx} {l e : Expr} {es : List Expr} {tl te : TE} {t : TA} {op : Operator} {r : R2} {z : Str} {j : Nat} {cpos pos : Pos}
theorem peb_op (ho : OpR X (binaryOp op) r) (hl : PE X l tl) : PEB X (.BinOp l op (.Constant (.str z) j cpos) pos) (tOp r tl (tC (.str z))) := by
  intro pins s σ H Q I h
  refine wpAny_BinOp (wpAny_mono (hl.run pins s σ H _ I h) (fun u s1 ⟨x, H1, I1, rx, q⟩ => ?_) fun _ _ h => h)
  refine wpAny_Constant_str ?_
  have I2 : L2.Inv X pins σ H1 { s1 with toks := s1.toks + 1 } := I1.tok _
  exact wpAny_mono (wpAny_toks (ho pins _ σ H1 x (.str z) u (.str z s1.toks) Q I2 rx ⟨_, rfl⟩ q)) (fun u2 s2 ⟨a, b⟩ => ⟨Nat.le_trans (Nat.succ_le_succ (Nat.zero_le _)) a, b⟩) fun _ _ h => h.2
theorem pet_of (h : PE X e te) : PET X e te := fun pins s σ H Q _ I q => h.run pins s σ H Q I q
theorem pa_tok (hb : PEB X e te) (ht : PAT X es t) (he : starEach (e :: es) X.env = (false, eval e X.env) :: starEach es X.env := by rfl) : PA X (e :: es) (tCons te t) := by
  refine ⟨fun pos pins s σ H Q I h => ?_⟩; rw [he]
  show wpAny (model X.prog X.w) X.A (eval e X.env >>= fun v => (pure [v] >>= fun here => holding here (spliced (backTo pos (starEach es X.env))) >>= fun ws => pure (here ++ ws))) _ _ s
  refine wpAny_bind (wpAny_mono (hb pins s σ H _ I h) (fun u s1 ⟨k, x, H1, I1, rx, q⟩ => ?_) fun _ _ h => h)
  refine wpAny_bind (wpAny_pure (wpAny_bind (wpAny_holding (wpAny_mono (ht pos pins s1 σ H1 _ k I1 q) (fun us s2 ⟨vs, H2, I2, rs, q2⟩ => wpAny_pure ?_) fun _ _ h => h))))
  exact ⟨x :: vs, H2, I2, .cons rx rs, q2⟩
end

/-! The law of paths: a turn. -/



def t_law_1b_2b_1 (K : PySem.W.Frag) (lw : LamW) : TS :=
  (tIfS (tNot (tB (tCall (sp_like K 9) [] E0 (tCons (tLst (tCons (tMeth (cls_at K "Schema") "text" (sp_Schema_text K 9) [] E0 (tMeth (cls_at K "Schema") "level" (sp_Schema_level K) [] E0 (tVar 4) (tCons (tJoinS K "." (tVar 6)) tNil)) tNil) (tCons (tMeth (cls_at K "Schema") "text" (sp_Schema_text K 9) [] E0 (tMethK (cls_at K "Schema") "level" (sp_Schema_level K) 1 [0] E0 (tVar 4) (tCons (tJoinS K "." (tVar 6)) tNil)) tNil) tNil))) (tCons (tLst (tCons (tVar 7) (tCons (tVar 7) tNil))) tNil))))) (tRet (tC (.bl false))) tNext)
def t_law_1b_2b (K : PySem.W.Frag) (lw : LamW) : TS :=
  (tSeq (tAsg (tCall (sp_level_text K 9) [] E0 (tCons (tCall (sp_inner K) [] E0 (tCons (tVar 3) (tCons (tVar 6) tNil))) tNil)) (gName 7))
  (t_law_1b_2b_1 K lw))
def t_law_1b_6b_5 (K : PySem.W.Frag) (lw : LamW) : TS :=
  (tIfS (tNot (tB (tCall (sp_like K 9) [] E0 (tCons (tLst (tCons (tMethK (cls_at K "Schema") "is_field" (sp_Schema_is_field K) 1 [0] C8.E0 (tVar 4) (tCons (tVar 12) tNil)) (tCons (tVar 13) tNil))) (tCons (tLst (tCons (tOp (gIn K) (tVar 12) (tVar 8)) (tCons (tVar 7) tNil))) tNil))))) (tRet (tC (.bl false))) tNext)
def t_law_1b_6b_4 (K : PySem.W.Frag) (lw : LamW) : TS :=
  (tSeq (tAsg (tTryL lw 0 K (fun E => (tMeth (cls_at K "Schema") "text" (sp_Schema_text K 9) [] E0 (tMeth (cls_at K "Schema") "level" (sp_Schema_level K) [] E (tVar 4) (tCons (tVar 12) tNil)) tNil))) (gName 13))
  (t_law_1b_6b_5 K lw))
def t_law_1b_6b_3 (K : PySem.W.Frag) (lw : LamW) : TS :=
  (tSeq (tIfS (tTest (tOp (gEq K) (tVar 12) (tC (.str "")))) (tAsg (tTup (tCons (tC (.str "")) (tCons (tCall (sp_level_text K 9) [] E0 (tCons (tVar 3) tNil)) tNil))) (gName 7)) tNext)
  (t_law_1b_6b_4 K lw))
def t_law_1b_6b_2 (K : PySem.W.Frag) (lw : LamW) : TS :=
  (tSeq (tAsg (tIf (tTest (tOp (gIn K) (tVar 12) (tVar 9))) (tTup (tCons (tC (.str "")) (tCons (tCall (sp_level_text K 9) [] E0 (tCons (tCall (sp_inner K) [] E0 (tCons (tVar 3) (tCons (tBM K "str" rSplit (tVar 12) (tCons (tC (.str ".")) tNil)) tNil))) tNil)) tNil))) (tTup (tCons (tC (.str "InvalidPath")) (tCons (tVar 12) tNil)))) (gName 7))
  (t_law_1b_6b_3 K lw))
def t_law_1b_6b_1 (K : PySem.W.Frag) (lw : LamW) : TS :=
  (tSeq (tAsg (tCall (sp_ofS K) [] E0 (tCons (tVar 1) (tCons (tVar 11) tNil))) (gName 12))
  (t_law_1b_6b_2 K lw))
def t_law_1b_6b (K : PySem.W.Frag) (lw : LamW) : TS :=
  (tSeq (tAsg (tLst (tCons (tOp (gAdd K) (tVar 10) (tC (.str "."))) (tCons (tOp (gAdd K) (tC (.str ".")) (tVar 10)) (tCons (tOp (gAdd K) (tOp (gAdd K) (tVar 10) (tC (.str "."))) (tCall (sp_ofS K) [] E0 (tCons (tVar 1) (tCons (tOp (rIx K) (tVar 3) (tC (.int 0))) tNil)))) (tCons (tOp (gAdd K) (tVar 10) (tC (.str "y"))) (tCons (CwR.tReplC (tVar 10) "." "..") (tCons (CwR.tReplC (tVar 10) "." " ") (tCons (tSl (gSl K) (tVar 10) (tPart (tC (.int 1))) tNoPart) (tCons (tUpp (tVar 10)) (tCons (tOp (gAdd K) (tOp (gAdd K) (tOp (rIx K) (tVar 9) (tC (.int 0))) (tC (.str "."))) (tVar 10)) (tCons (tOp (gAdd K) (tVar 10) (tC (.str "\n"))) tNil))))))))))) (gName 11))
  (t_law_1b_6b_1 K lw))
def t_law_1b_6 (K : PySem.W.Frag) (lw : LamW) : TS :=
  (tFor (iList K (tLst (tCons (tCall (sp_ofS K) [] E0 (tCons (tVar 1) (tCons (tVar 8) tNil))) (tCons (tCall (sp_ofS K) [] E0 (tCons (tVar 1) (tCons (tVar 9) tNil))) tNil)))) (gName 10) (t_law_1b_6b K lw))
def t_law_1b_5 (K : PySem.W.Frag) (lw : LamW) : TS :=
  (tSeq (tIfS (tNot (tB (tCall (sp_like K 9) [] E0 (tCons (tLc (iList K (tVar 8)) (gName 15) tYes (tMeth (cls_at K "Schema") "is_field" (sp_Schema_is_field K) [] E0 (tVar 4) (tCons (tVar 15) tNil)) [15]) (tCons (tOp gMul (tLst (tCons (tC (.bl true)) tNil)) (tCB (gLen K) (tCons (tVar 8) tNil))) tNil))))) (tRet (tC (.bl false))) tNext)
  (t_law_1b_6 K lw))
def t_law_1b_4 (K : PySem.W.Frag) (lw : LamW) : TS :=
  (tSeq (tPar 8 9 (tCons (tCall (sp_paths K) [] E0 (tCons (tVar 3) tNil)) (tCons (tLc (iList K (tVar 5)) (gName 6) tYes (tJoinS K "." (tVar 6)) [6]) tNil)))
  (t_law_1b_5 K lw))
def t_law_1b_3 (K : PySem.W.Frag) (lw : LamW) : TS :=
  (tSeq (tIfS (tOr (tTest (tOp (rNeO (cls_at K "Schema") (sp_Schema_eq K 9)) (tMeth (cls_at K "Schema") "level" (sp_Schema_level K) [.str ""] E0 (tVar 4) tNil) (tVar 4))) (tTest (tOp (rNeO (cls_at K "Schema") (sp_Schema_eq K 9)) (tMeth (cls_at K "Schema") "level" (sp_Schema_level K) [] E0 (tVar 4) (tCons (tC (.str "")) tNil)) (tVar 4)))) (tRet (tC (.bl false))) tNext)
  (t_law_1b_4 K lw))
def t_law_1b_2 (K : PySem.W.Frag) (lw : LamW) : TS :=
  (tSeq (tFor (iList K (tVar 5)) (gName 6) (t_law_1b_2b K lw))
  (t_law_1b_3 K lw))
def t_law_1b_1 (K : PySem.W.Frag) (lw : LamW) : TS :=
  (tSeq (tAsg (tTup (tCons (tCall (sp_schema K) [] E0 (tCons (tVar 3) tNil)) (tCons (tCall (sp_lists K 9) [] E0 (tCons (tVar 3) tNil)) tNil))) (gTup K 2 (gCons (gName 4) (gCons (gName 5) gNil))))
  (t_law_1b_2 K lw))
def t_law_1b (K : PySem.W.Frag) (lw : LamW) : TS :=
  (tSeq (tAsg (tCall (sp_some_level K) [] E0 (tCons (tVar 1) (tCons (tOp (gAdd K) (tC (.int 1)) (tCall (sp_draw K) [] E0 (tCons (tVar 1) (tCons (tC (.int 4)) tNil)))) (tCons (tC (.int 2)) tNil)))) (gName 3))
  (t_law_1b_1 K lw))
def t_law_3 (K : PySem.W.Frag) (lw : LamW) : TS :=
  (tRet (tCall (sp_like K 9) [] E0 (tCons (tLst (tCons (tTryL lw 1 K (fun E => (tMeth (cls_at K "Schema") "level" (sp_Schema_level K) [] E (tVar 4) (tCons (tVar 14) tNil)))) (tCons (tMeth (cls_at K "Schema") "is_field" (sp_Schema_is_field K) [] E0 (tVar 4) (tCons (tVar 14) tNil)) (tCons (tMeth (cls_at K "Schema") "is_field" (sp_Schema_is_field K) [] E0 (tVar 4) (tCons (tC (.str "")) tNil)) tNil)))) (tCons (tLst (tCons (tTup (tCons (tC (.str "InvalidPath")) (tCons (tVar 14) tNil))) (tCons (tC (.bl false)) (tCons (tC (.bl false)) tNil)))) tNil))))
def t_law_2 (K : PySem.W.Frag) (lw : LamW) : TS :=
  (tSeq (tAsg (tCall (sp_ofS K) [] E0 (tCons (tVar 1) (tCons (tLst (tCons (tC .non) (tCons (tC (.int 3)) (tCons (tC (.bl true)) (tCons (tLst (tCons (tOp (rIx K) (tVar 9) (tC (.int 0))) tNil)) (tCons (tTup (tCons (tOp (rIx K) (tVar 9) (tC (.int 0))) tNil)) (tCons (tC (.str ".")) (tCons (tC (.str "A")) (tCons (tC (.str "..")) (tCons (tOp (gAdd K) (tOp (rIx K) (tVar 9) (tC (.int 0))) (tC (.str ".."))) tNil)))))))))) tNil))) (gName 14))
  (t_law_3 K lw))
def t_law_1 (K : PySem.W.Frag) (lw : LamW) : TS :=
  (tSeq (tFor (iRng1 (tCons (tC (.int 3)) tNil)) (gName 2) (t_law_1b K lw))
  (t_law_2 K lw))
def t_law (K : PySem.W.Frag) (lw : LamW) : TS :=
  (tSeq (tAsg (tCall (sp_open K) [] E0 (tCons (tVar 0) tNil)) (gName 1))
  (t_law_1 K lw))
theorem rd_methD {C : Addr} {m : Str} {sp : Sp} {dvs : List V} {E : XK} {te : TE} {ta : TA} {σ : L2.St} {H : Hp} {Q : VK} (q : te σ H fun x H1 => ∃ a dx fs, x = .ref a ∧ H1 a = some (.ins C dx fs) ∧ fs.lookup m = none ∧ ta σ H1 fun vs H2 => sp (x :: (vs ++ dvs)) H2 Q E) : tMeth C m sp dvs E te ta σ H Q := q
theorem sch_no {K : PySem.W.Frag} {H : Hp} {v : V} {l : Lev} (m : Str) (h1 : m ≠ "fields") (h2 : m ≠ "_lists") (h : SchAt K H v l) : ∃ p dx fs, v = .ref p ∧ H p = some (.ins (cls_at K "Schema") dx fs) ∧ fs.lookup m = none := by
  cases h with
  | @mk x0 dx tf tl fs ls ps ob hf hl hA => exact ⟨x0, _, _, rfl, ob, schF_no _ _ h2 h1⟩
theorem nd_sums {l : Lev} (gd : l.good) {ns : List Str} (h : ns ∈ l.lsts) (dep : l.depth ≤ 3) : ns.length ≤ 3 ∧ (ns.map (·.length)).sum + ns.length * ("." : Str).length ≤ 40 := by
  have a := lsts_deep l ns h
  have b := sums8 (lsts_ok l gd ns h)
  have k1 : ("." : Str).length = 1 := rfl
  rw [k1]
  have : (ns.map (·.length)).sum ≤ ns.length * 10 := b
  omega
/-- what stands behind the drawing -/
structure T9 (K : PySem.W.Frag) (G : Hp) (l : Lev) (v x4 : V) : Prop where
  hv : Dp K G v l.dat
  h4 : SchAt K G x4 l
  gd : l.good
  dep : l.depth ≤ 3
  ne : l.ls.levs ≠ []
theorem T9.ex {K : PySem.W.Frag} {G G' : Hp} {l : Lev} {v x4 : V} (e : Ex G G') (F : T9 K G l v x4) : T9 K G' l v x4 := ⟨Dp.ex e _ _ F.hv, F.h4.ex e, F.gd, F.dep, F.ne⟩
section
variable {K : PySem.W.Frag} [SK : SchK K] [CK : Consts K] [KK : KitN K] {G H : Hp} {L M : List (Addr × HO)} {Q : VK} {E : XK} {D : Ends} {lw : LamW} {pt : Array Value} {s b : Addr} {l : Lev} {v x4 : V} {σ : L2.St}
  {a0 a1 a2 a3 a4 a5 a6 a7 a8 a9 a10 a11 a12 a13 a14 a15 : Option V}
theorem rd_neSch {x : V} {m : Lev} (hv : SchAt K H v l) (hx : SchAt K H x m) (gl : l.good) (gm : m.good) (h9 : l.depth ≤ 9) (q : Q (.bl (!l.eqb m)) H) : rNeO (cls_at K "Schema") (sp_Schema_eq K 9) v x H Q := by
  obtain ⟨a, da, fa, rfl, oa⟩ := sch_refs hv
  obtain ⟨c, dc, fc, rfl, oc⟩ := sch_refs hx
  exact ⟨a, _, _, rfl, oa, .inr (.inr ⟨c, _, _, rfl, oc⟩), .ref a, .ref c, l, rfl, hv, h9, gl, .inl ⟨m, hx, gm, _, rfl, q⟩⟩
/-- the text of a schema that a method told -/
theorem txt_of {y : V} {k : Lev} (hy : SchAt K G y k) (S : Stt G H M) (gk : k.good) (dk : k.depth ≤ 9) (q : ∀ H2, Stt G H2 M → Q (.str (SX.S k.tx)) H2) :
    ∃ a dx fs, y = .ref a ∧ H a = some (.ins (cls_at K "Schema") dx fs) ∧ fs.lookup ("text" : Str) = none ∧ tNil σ H fun vs H2 => sp_Schema_text K 9 (y :: (vs ++ [])) H2 Q E := by
  obtain ⟨p, dx, fs, rfl, ob, no⟩ := sch_no "text" (by decide +kernel) (by decide +kernel) hy
  exact ⟨p, dx, fs, rfl, S.ex _ _ ob, no, rd_nil ⟨.ref p, k, G, M, rfl, S, hy, dk, dk, gk, q⟩⟩
/-- one list's level, asked by its path -/
theorem read_2b {p : Addr} {ns : List Str} (F : T9 K G l v x4) (hn : ns ∈ l.lsts) (hp : SqL K G p (ns.map V.str)) (S : Stt G H M)
    (q : ∀ σ' G' H', (∃ x7, σ' = [a0, a1, a2, some v, some x4, a5, some (.ref p), x7, a8, a9, a10, a11, a12, a13, a14, a15]) → Ex G G' → Stt G' H' M → D.nx σ' H') :
    t_law_1b_2b K lw D [a0, a1, a2, some (v), some (x4), a5, some (.ref p), a7, a8, a9, a10, a11, a12, a13, a14, a15] H := by
  obtain ⟨k, hk⟩ := lsts_at l F.gd ns hn
  have gk := lvAt_good _ _ _ F.gd hk
  have d9 : k.depth ≤ 9 := by have := gk.2; have := F.dep; omega
  have sm := nd_sums F.gd hn F.dep
  have jn := join_names ns
  have pn := pnames_names (lsts_ok l F.gd ns hn)
  have jl : (TL.joinL [46] (ns.map cps)).length ≤ 10000 := by
    have := joinL_le46 ns
    omega
  have lv : lvD l (.str (SX.S (TL.joinL [46] (ns.map cps)))) = some k := by
    show lvAt l (pnames _) = some k
    rw [cps_S, pn]; exact hk
  unfold t_law_1b_2b
  refine rd_seq (rd_asg (rd_call (rd_cons (rd_call (rd_cons (rd_var rfl (rd_cons (rd_var rfl (rd_nil ?_)))))))))
  refine ⟨v, p, ns, l, k, G, M, rfl, S, F.hv, F.gd, fun H' e' => ex_l e' hp, hk, fun x G1 H1 e1 S1 hx => rd_nil ⟨x, k, G1, M, rfl, S1, hx, d9, d9, gk.1, fun H2 S2 => rd_name ?_⟩⟩
  show t_law_1b_2b_1 K lw _ [a0, a1, a2, some (v), some (x4), a5, some (.ref p), some (.str (SX.S k.tx)), a8, a9, a10, a11, a12, a13, a14, a15] H2
  unfold t_law_1b_2b_1
  obtain ⟨a, dx, fs, ea, ob, no⟩ := sch_no "level" (by decide +kernel) (by decide +kernel) F.h4
  subst ea
  refine rd_ifs (rd_not (rd_B (rd_call (rd_cons (rd_lst (rd_cons (rd_meth (rd_meth (rd_var rfl ⟨a, dx, fs, rfl, S2.ex _ _ (e1 _ _ ob), no, rd_cons (rd_joinS (rd_var rfl ⟨p, ns, rfl, ex_l (e1.trans S2.ex) hp, by have := sm.2; omega, rd_nil ?_⟩))⟩)))))))))
  rw [jn]
  refine ⟨.ref a, _, l, _, G1, M, rfl, S2, F.h4.ex e1, F.gd, .str _, fun z e => by cases e; exact jl, .inl ⟨k, lv, fun y G3 H3 e3 S3 hy => txt_of hy S3 gk.1 d9 fun H4 S4 => rd_cons (rd_meth (rd_methK (rd_var rfl ⟨a, dx, fs, rfl, S4.ex _ _ (e3 _ _ (e1 _ _ ob)), no, rd_cons (rd_joinS (rd_var rfl ⟨p, ns, rfl, ex_l (e1.trans (e3.trans S4.ex)) hp, by have := sm.2; omega, rd_nil ?_⟩))⟩)))⟩⟩
  rw [jn]
  refine ⟨.ref a, _, l, _, G3, M, rfl, S4, F.h4.ex (e1.trans e3), F.gd, .str _, fun z e => by cases e; exact jl, .inl ⟨k, lv, fun y2 G5 H5 e5 S5 hy2 => txt_of hy2 S5 gk.1 d9 fun H6 S6 => rd_nil ?_⟩⟩
  refine mk_lst stt_world S6 (by show 2 ≤ 100000; decide) fun p7 G7 e7 S7 h7 => rd_cons (rd_lst (rd_cons (rd_var rfl (rd_cons (rd_var rfl (rd_nil ?_))))))
  refine mk_lst stt_world S7 (by show 2 ≤ 100000; decide) fun p8 G8 e8 S8 h8 => rd_nil ?_
  have da : Dp K G8 (.ref p7) (.list [.str (SX.S k.tx), .str (SX.S k.tx)]) := .lst (ex_l e8 (sq_of h7)) (.cons (.str _) (.cons (.str _) .nil))
  have db : Dp K G8 (.ref p8) (.list [.str (SX.S k.tx), .str (SX.S k.tx)]) := .lst (sq_of h8) (.cons (.str _) (.cons (.str _) .nil))
  refine ⟨G8, M, _, _, _, _, rfl, S8, da, db, by simp [fit], fun H9 S9 => ?_⟩
  rw [lk_same da]
  exact rd_bl (rd_ifN (rd_next (q _ G8 H9 ⟨_, rfl⟩ (e1.trans (e3.trans (e5.trans (e7.trans e8)))) S9)))
/-- no path: the schema itself -/
theorem read_3 (F : T9 K G l v x4) (S : Stt G H M) (q : ∀ G' H', Ex G G' → Stt G' H' M → t_law_1b_4 K lw D [a0, a1, a2, some (v), some (x4), a5, a6, a7, a8, a9, a10, a11, a12, a13, a14, a15] H') : t_law_1b_3 K lw D [a0, a1, a2, some (v), some (x4), a5, a6, a7, a8, a9, a10, a11, a12, a13, a14, a15] H := by
  have d9 : l.depth ≤ 9 := by have := F.dep; omega
  have lv : lvD l (.str "") = some l := by
    show lvAt l (pnames []) = some l
    rw [show pnames [] = [] from if_pos rfl]
    rfl
  obtain ⟨a, dx, fs, ea, ob, no⟩ := sch_no "level" (by decide +kernel) (by decide +kernel) F.h4
  subst ea
  unfold t_law_1b_3
  refine rd_seq (rd_ifs (rd_or (rd_test (rd_op (rd_methD (rd_var rfl ⟨a, dx, fs, rfl, S.ex _ _ ob, no, rd_nil ?_⟩))))))
  refine ⟨.ref a, .str "", l, .str "", G, M, rfl, S, F.h4, F.gd, .str _, fun z e => by cases e; decide, .inl ⟨l, lv, fun y G1 H1 e1 S1 hy => rd_var rfl (rd_neSch (hy.ex S1.ex) (F.h4.ex (e1.trans S1.ex)) F.gd F.gd d9 ?_)⟩⟩
  rw [Lev.eqb_same]
  refine rd_bl (rd_iF (rd_test (rd_op (rd_meth (rd_var rfl ⟨a, dx, fs, rfl, S1.ex _ _ (e1 _ _ ob), no, rd_cons (rd_c (rd_nil ?_))⟩)))))
  refine ⟨.ref a, .str "", l, .str "", G1, M, rfl, S1, F.h4.ex e1, F.gd, .str _, fun z e => by cases e; decide, .inl ⟨l, lv, fun y2 G2 H2 e2 S2 hy2 => rd_var rfl (rd_neSch (hy2.ex S2.ex) (F.h4.ex (e1.trans (e2.trans S2.ex))) F.gd F.gd d9 ?_)⟩⟩
  rw [Lev.eqb_same]
  exact rd_bl (rd_iF (rd_next (q G2 H2 (e1.trans e2) S2)))
/-- the paths and the heads -/
theorem read_4 {la : Addr} {us : List V} (F : T9 K G l v x4) (hla : SqL K G la us) (hus : DpAll K G us (l.lsts.map nd)) (S : Stt G H M)
    (q : ∀ pa ha G' H', Ex G G' → Stt G' H' M → SqL K G' pa ((pths l).map V.str) → SqL K G' ha ((hds l).map V.str) → t_law_1b_5 K lw D [a0, a1, a2, some (v), some (x4), some (.ref la), a6, a7, some (.ref pa), some (.ref ha), a10, a11, a12, a13, a14, a15] H') : t_law_1b_4 K lw D [a0, a1, a2, some (v), some (x4), some (.ref la), a6, a7, a8, a9, a10, a11, a12, a13, a14, a15] H := by
  have d9 : l.depth ≤ 9 := by have := F.dep; omega
  have ul := DpAll.length hus
  rw [List.length_map] at ul
  have ll := lsts_len l F.gd
  have p9 : 2 ^ l.depth ≤ 2 ^ 3 := Nat.pow_le_pow_right (by decide) F.dep
  have p8 : 2 ^ 3 = 8 := rfl
  unfold t_law_1b_4
  refine rd_seq (rd_par (rd_cons (rd_call (rd_cons (rd_var rfl (rd_nil ?_))))))
  refine ⟨v, l, G, M, rfl, S, F.hv, F.gd, d9, fun pa G1 H1 e1 S1 hpa => rd_cons (rd_lc (rd_il (rd_var rfl ⟨la, rfl, ⟨_, ex_l (e1.trans S1.ex) hla⟩, ?_⟩)))⟩
  refine lc_go stt_world (walk_list (K := K) (a := la) (xs := us)) S1 (by omega) (fun i v _ => us[i]? = some v) (fun i acc _ => acc = ((l.lsts.take i).map (fun ns => Txt.join "." ns)).map V.str) (fun H' e' => ex_l (e1.trans e') hla)
    (fun i x G1 H1 H2 L1 _ e1 S1 y => item_at S1 y) rfl (fun _ _ _ _ _ h => h) ?_ ?_
  · intro D2 i x acc G2 H2 hi _ e2 S2 I2 it Kp Sk kp sk
    obtain ⟨d, hd, dp⟩ := DpAll.get (DpAll.ex (e1.trans e2) _ _ hus) it
    rw [List.getElem?_map] at hd
    obtain ⟨ns, hns, ed⟩ := Option.map_eq_some_iff.mp hd
    subst ed
    obtain ⟨c, rfl, hc⟩ := nd_at dp
    have sm := nd_sums F.gd (List.mem_of_getElem? hns) F.dep
    refine rd_name ⟨rfl, rd_yes (rd_iT (rd_joinS (rd_var rfl ⟨c, ns, rfl, ex_l S2.ex hc, by have := sm.2; omega, kp _ G2 H2 (Ex.refl _) S2 ?_⟩)))⟩
    rw [I2, List.take_add_one, hns, List.map_append, List.map_append]
    rfl
  · intro D2 acc G2 H2 e2 S2 I2 _
    rw [List.take_of_length_le (by omega)] at I2
    subst I2
    have e3 := S2.frzE
    exact rd_nil (rd_two (q pa D2 _ H2 (e1.trans (e2.trans e3)) S2.frz (ex_l (e2.trans e3) (sq_of hpa)) (sq_of upd_same)))
theorem pths_len {p : Str} (F : T9 K G l v x4) (h : p ∈ pths l) : p.length ≤ 200 := by
  obtain ⟨_, _, _, _, _, _, _, _, _, _, hl⟩ := pths_at F.gd (by have := F.dep; omega) h
  exact hl
theorem pths_few (F : T9 K G l v x4) : (pths l).length ≤ 30 := by
  have ll := lsts_len l F.gd
  have p9 : 2 ^ l.depth ≤ 2 ^ 3 := Nat.pow_le_pow_right (by decide) F.dep
  have p8 : 2 ^ 3 = 8 := rfl
  have f3 := flat3 F.gd l.lsts
  unfold pths
  have gd := F.gd
  obtain ⟨fs, ls⟩ := l
  rw [Lev.good] at gd
  rw [List.length_append]
  have : fs.length ≤ 3 := gd.2.1
  show fs.length + _ ≤ 30
  omega
theorem bools_map : ∀ xs : List V, DpAll K G (xs.map fun _ => V.bl true) (List.replicate xs.length (.bool true))
  | [] => .nil
  | _ :: r => .cons (.bl true) (bools_map r)
theorem bools_rep : ∀ n : Nat, DpAll K G (List.replicate n [V.bl true]).flatten (List.replicate n (.bool true))
  | 0 => .nil
  | n + 1 => .cons (.bl true) (bools_rep n)
/-- all paths are fields -/
theorem read_5 {pa : Addr} (F : T9 K G l v x4) (hpa : SqL K G pa ((pths l).map V.str)) (S : Stt G H M)
    (q : ∀ G' H', Ex G G' → Stt G' H' M → t_law_1b_6 K lw D [a0, a1, a2, some (v), some (x4), a5, a6, a7, some (.ref pa), a9, a10, a11, a12, a13, a14, a15] H') : t_law_1b_5 K lw D [a0, a1, a2, some (v), some (x4), a5, a6, a7, some (.ref pa), a9, a10, a11, a12, a13, a14, a15] H := by
  have d9 : l.depth ≤ 9 := by have := F.dep; omega
  have pf := pths_few F
  obtain ⟨a, dx, fs, ea, ob, no⟩ := sch_no "is_field" (by decide +kernel) (by decide +kernel) F.h4
  subst ea
  unfold t_law_1b_5
  refine rd_seq (rd_ifs (rd_not (rd_B (rd_call (rd_cons (rd_lc (rd_il (rd_var rfl ⟨pa, rfl, ⟨_, ex_l S.ex hpa⟩, ?_⟩))))))))
  refine lc_mapJ stt_world (walk_list (K := K) (a := pa) (xs := (pths l).map V.str)) S (fun H' e' => ex_l e' hpa) (by rw [List.length_map]; omega) (fun _ => rfl) (fun _ => V.bl true) (fun x acc D1 G1 H1 hm e1 S1 Kp kp => ?_) (fun D1 G1 H1 e1 S1 => ?_)
  · obtain ⟨p, hp, rfl⟩ := (List.mem_map.mp hm)
    refine rd_meth (rd_var rfl ⟨a, dx, fs, rfl, S1.ex _ _ (e1 _ _ ob), no, rd_cons (rd_var rfl (rd_nil ?_))⟩)
    refine ⟨.ref a, .str p, l, .str p, G1, _, rfl, S1, F.h4.ex e1, F.gd, .str _, fun z e => by cases e; have := pths_len F hp; omega, fun G2 H2 e2 S2 => ?_⟩
    rw [pths_is F.gd d9 hp]
    exact kp H2 (S2.less e2)
  · have e2 := S1.frzE
    have S2 := S1.frz
    have h2 : SqL K (upd G1 D1 (.lst (((pths l).map V.str).map fun _ => V.bl true))) D1 (((pths l).map V.str).map fun _ => V.bl true) := sq_of upd_same
    generalize upd G1 D1 (.lst (((pths l).map V.str).map fun _ => V.bl true)) = G2 at *
    have e12 := e1.trans e2
    refine rd_cons (rd_op (rd_lst (rd_cons (rd_c (rd_nil ?_)))))
    refine mk_lst stt_world S2 (by show 1 ≤ 100000; decide) fun p3 G3 e3 S3 h3 => rd_cb (rd_cons (rd_var rfl (rd_nil (rd_lenL (ex_l (e12.trans (e3.trans S3.ex)) hpa) ?_))))
    rw [List.length_map]
    refine .inr ⟨p3, _, _, rfl, rfl, S3.ex _ _ h3, by omega, by omega, sz_of (by show 1 * _ ≤ _; omega), ?_⟩
    refine mk_im (o := .lst (List.replicate ((pths l).length : Int).toNat [V.bl true]).flatten) stt_world S3 fun p4 G4 e4 S4 h4 => rd_nil ?_
    have da : Dp K G4 (.ref D1) (.list (List.replicate ((pths l).map V.str).length (.bool true))) := .lst (ex_l (e3.trans e4) h2) (bools_map _)
    have db : Dp K G4 (.ref p4) (.list (List.replicate ((pths l).map V.str).length (.bool true))) := .lst (sq_of h4) (by rw [List.length_map]; exact bools_rep _)
    refine ⟨G4, M, _, _, _, _, rfl, S4, da, db, ⟨by rw [List.length_replicate, List.length_map]; omega, fun z hz => by rw [(List.mem_replicate.mp hz).2]; exact True.intro⟩, fun H6 S6 => ?_⟩
    rw [lk_same da]
    exact rd_bl (rd_ifN (rd_next (q G4 H6 (e12.trans (e3.trans e4)) S6)))
end

/-! The law of paths: texts near paths. -/



/-- what is due at a text -/
def dueD (l : Lev) (u : List Nat) : PyData := match lvAt l (pnames u) with
  | some k => .tuple [.str "", .str (SX.S k.tx)]
  | none => .tuple [.str "InvalidPath", .str (SX.S u)]
theorem hds_ne {l : Lev} (gd : l.good) (h : l.ls.levs ≠ []) : hds l ≠ [] := by
  obtain ⟨fs, ls⟩ := l
  cases ls with
  | nil => rw [show (Lev.mk fs .nil).ls.levs = LevL.nil.levs from rfl, LevL.levs] at h; exact (h rfl).elim
  | cons n k r =>
    unfold hds
    rw [Lev.lsts, LevL.blks, List.flatten_cons]
    simp
section
variable {K : PySem.W.Frag} [SK : SchK K] [CK : Consts K] [KK : KitN K] {G H : Hp} {L M : List (Addr × HO)} {Q : VK} {E : XK} {D : Ends} {lw : LamW} {pt : Array Value} {s b pa ha : Addr} {l : Lev} {v x4 : V} {σ : L2.St} {u w : List Nat}
  {a0 a1 a2 a3 a4 a5 a6 a7 a8 a9 a10 a11 a12 a13 a14 a15 : Option V}
theorem rd_inLw {u : Addr} {us : List Str} {z : Str} (h : SqL K H u (us.map V.str)) (q : Q (.bl (decide (z ∈ us))) H) : gIn K (.str z) (.ref u) H Q := .inr ⟨u, _, rfl, .inl h, rfl, flat_strs us, by rw [inV_str]; exact q⟩
theorem lv_some (F : T9 K G l v x4) {k : Lev} (h : lvAt l (pnames u) = some k) : k.good ∧ k.depth ≤ 9 := by
  have := lvAt_good _ _ _ F.gd h
  have := F.dep
  exact ⟨this_ F.gd h, by omega⟩
where
  this_ {l k : Lev} {ns : List Str} (g : l.good) (h : lvAt l ns = some k) : k.good := (lvAt_good _ _ _ g h).1
theorem read_6b_5 {pf pd : Addr} {e : PyData} (F : T9 K G l v x4) (hu : u.length ≤ 2000) (hpa : SqL K G pa ((pths l).map V.str)) (hf : Dp K G (.ref pf) (dueD l u)) (hd : Dp K G (.ref pd) (dueD l u)) (S : Stt G H M)
    (q : ∀ G' H', Ex G G' → Stt G' H' M → D.nx [a0, a1, a2, some (v), some (x4), a5, a6, some (.ref pd), some (.ref pa), a9, a10, a11, some (.str (SX.S u)), some (.ref pf), a14, a15] H') : t_law_1b_6b_5 K lw D [a0, a1, a2, some (v), some (x4), a5, a6, some (.ref pd), some (.ref pa), a9, a10, a11, some (.str (SX.S u)), some (.ref pf), a14, a15] H := by
  have d9 : l.depth ≤ 9 := by have := F.dep; omega
  have is : isPthD l (.str (SX.S u)) = decide (SX.S u ∈ pths l) := isPth_iff F.gd d9 u
  obtain ⟨a, dx, fs, ea, ob, no⟩ := sch_no "is_field" (by decide +kernel) (by decide +kernel) F.h4
  subst ea
  unfold t_law_1b_6b_5
  refine rd_ifs (rd_not (rd_B (rd_call (rd_cons (rd_lst (rd_cons (rd_methK (rd_var rfl ⟨a, dx, fs, rfl, S.ex _ _ ob, no, rd_cons (rd_var rfl (rd_nil ?_))⟩))))))))
  refine ⟨.ref a, .str (SX.S u), l, .str (SX.S u), G, M, rfl, S, F.h4, F.gd, .str _, fun z e => by cases e; rw [SX.S_len]; omega, fun G1 H1 e1 S1 => rd_cons (rd_var rfl (rd_nil ?_))⟩
  rw [is]
  refine mk_lst stt_world S1 (by show 2 ≤ 100000; decide) fun p2 G2 e2 S2 h2 => rd_cons (rd_lst (rd_cons (rd_op (rd_var rfl (rd_var rfl (rd_inLw (ex_l (e1.trans (e2.trans S2.ex)) hpa) (rd_cons (rd_var rfl (rd_nil ?_)))))))))
  refine mk_lst stt_world S2 (by show 2 ≤ 100000; decide) fun p3 G3 e3 S3 h3 => rd_nil ?_
  have da : Dp K G3 (.ref p2) (.list [.bool (decide (SX.S u ∈ pths l)), dueD l u]) := .lst (ex_l e3 (sq_of h2)) (.cons (.bl _) (.cons (Dp.ex (e1.trans (e2.trans e3)) _ _ hf) .nil))
  have db : Dp K G3 (.ref p3) (.list [.bool (decide (SX.S u ∈ pths l)), dueD l u]) := .lst (sq_of h3) (.cons (.bl _) (.cons (Dp.ex (e1.trans (e2.trans e3)) _ _ hd) .nil))
  refine ⟨G3, M, _, _, _, _, rfl, S3, da, db, ⟨by show 2 < _; decide, fun z hz => ?_⟩, fun H4 S4 => ?_⟩
  · rcases in_two hz with rfl | hz
    · exact True.intro
    · rw [(List.mem_singleton.mp hz)]
      unfold dueD
      cases lvAt l (pnames u) <;> simp [fit]
  rw [lk_same da]
  exact rd_bl (rd_ifN (rd_next (q G3 H4 (e1.trans (e2.trans e3)) S4)))
theorem read_6b_4 {pd : Addr} (F : T9 K G l v x4) (hu : u.length ≤ 2000) (hpa : SqL K G pa ((pths l).map V.str)) (hd : Dp K G (.ref pd) (dueD l u)) (XT : ExcOk K "InvalidPath" "given") (Bg : Bag K G H b [(lw.P, .tbl pt)]) (hc : lw.codes G pt)
    (q : ∀ pf pt' G' H', Ex G G' → Bag K G' H' b [(lw.P, .tbl pt')] → lw.codes G' pt' → D.nx [a0, some (.ref b), a2, some (v), some (x4), a5, a6, some (.ref pd), some (.ref pa), some (.ref ha), a10, a11, some (.str (SX.S u)), some (.ref pf), a14, a15] H') : t_law_1b_6b_4 K lw D [a0, some (.ref b), a2, some (v), some (x4), a5, a6, some (.ref pd), some (.ref pa), some (.ref ha), a10, a11, some (.str (SX.S u)), a13, a14, a15] H := by
  have W := bag_world K b
  obtain ⟨a, dx, fs, ea, ob, no⟩ := sch_no "level" (by decide +kernel) (by decide +kernel) F.h4
  subst ea
  unfold t_law_1b_6b_4
  refine rd_seq (rd_asg ?_)
  refine rd_tryL Bg hc fun f G1 H1 pt1 e1 B1 k1 => rd_meth (rd_meth (rd_var rfl ⟨a, dx, fs, rfl, B1.ex _ _ (e1 _ _ ob), no, rd_cons (rd_var rfl (rd_nil ?_))⟩))
  obtain ⟨M, S1, hB⟩ := B1.stt
  have fin : ∀ (pf : Addr) (G2 H2 : Hp), Ex G1 G2 → Bag K G2 H2 b [(lw.P, .tbl pt1)] → Dp K G2 (.ref pf) (dueD l u) → gName 13 (.ref pf) [a0, some (.ref b), a2, some (v), some (.ref a), a5, a6, some (.ref pd), some (.ref pa), some (.ref ha), a10, a11, some (.str (SX.S u)), a13, a14, a15] H2 fun σ2 H3 => t_law_1b_6b_5 K lw D σ2 H3 := fun pf G2 H2 e2 B2 hf => by
    have x0 := e1.trans e2
    obtain ⟨M2, S2, hB2⟩ := B2.stt
    refine rd_name ?_
    show t_law_1b_6b_5 K lw D [a0, some (.ref b), a2, some (v), some (.ref a), a5, a6, some (.ref pd), some (.ref pa), some (.ref ha), a10, a11, some (.str (SX.S u)), some (.ref pf), a14, a15] H2
    exact read_6b_5 (e := .none) (F.ex x0) hu (ex_l x0 hpa) hf (Dp.ex x0 _ _ hd) S2 fun G3 H3 e3 S3 => q pf pt1 G3 H3 (x0.trans e3) (hB2 G3 H3 e3 S3) (k1.ex (e2.trans e3))
  have len : ∀ z : Str, PyData.str (SX.S u) = .str z → (cps z).length ≤ 10000 := fun z e => by cases e; show u.length ≤ _; omega
  cases hk : lvAt l (pnames u) with
  | some k =>
    have gk := lv_some F hk
    have ed : dueD l u = .tuple [.str "", .str (SX.S k.tx)] := by unfold dueD; rw [hk]
    refine ⟨.ref a, .str (SX.S u), l, .str (SX.S u), G1, M, rfl, S1, F.h4.ex e1, F.gd, .str _, len, .inl ⟨k, hk, fun y G2 H2 e2 S2 hy => txt_of hy S2 gk.1 gk.2 fun H3 S3 => ?_⟩⟩
    refine mk_im (o := .tup [.str "", .str (SX.S k.tx)]) W (hB G2 H3 e2 S3) fun p G3 e3 B3 h3 => fin p G3 _ (e2.trans e3) B3 ?_
    rw [ed]
    exact .tup (st_of h3) (.cons (.str _) (.cons (.str _) .nil))
  | none =>
    have ed : dueD l u = .tuple [.str "InvalidPath", .str (SX.S u)] := by unfold dueD; rw [hk]
    refine ⟨.ref a, .str (SX.S u), l, .str (SX.S u), G1, M, rfl, S1, F.h4.ex e1, F.gd, .str _, len, .inr ⟨hk, fun dd G2 H2 e2 S2 hdd => ?_⟩⟩
    refine rd_tryE XT hdd rfl (by decide) fun H3 e3 => ?_
    refine mk_im (o := .tup [.str "InvalidPath", .str (SX.S u)]) W ((hB G2 H2 e2 S2).up e3) fun p G4 e4 B4 h4 => fin p G4 _ (e2.trans e4) B4 ?_
    rw [ed]
    exact .tup (st_of h4) (.cons (.str _) (.cons (.str _) .nil))
theorem read_6b_3 {pd : Addr} (F : T9 K G l v x4) (hu : u.length ≤ 2000) (hpa : SqL K G pa ((pths l).map V.str)) (hd : u ≠ [] → Dp K G (.ref pd) (dueD l u)) (XT : ExcOk K "InvalidPath" "given") (Bg : Bag K G H b [(lw.P, .tbl pt)]) (hc : lw.codes G pt)
    (q : ∀ pd pf pt' G' H', Ex G G' → Bag K G' H' b [(lw.P, .tbl pt')] → lw.codes G' pt' → D.nx [a0, some (.ref b), a2, some (v), some (x4), a5, a6, some (.ref pd), some (.ref pa), some (.ref ha), a10, a11, some (.str (SX.S u)), some (.ref pf), a14, a15] H') : t_law_1b_6b_3 K lw D [a0, some (.ref b), a2, some (v), some (x4), a5, a6, some (.ref pd), some (.ref pa), some (.ref ha), a10, a11, some (.str (SX.S u)), a13, a14, a15] H := by
  have d9 : l.depth ≤ 9 := by have := F.dep; omega
  unfold t_law_1b_6b_3
  refine rd_seq (rd_ifs (rd_test (rd_op (rd_var rfl (rd_c (rd_eqS (rd_bl ?_)))))))
  by_cases c : u = []
  · rw [decide_eq_true (show SX.S u = ("" : Str) by rw [c]; rfl)]
    obtain ⟨M, S, hB⟩ := Bg.stt
    refine rd_iT (rd_asg (rd_tup (rd_cons (rd_c (rd_cons (rd_call (rd_cons (rd_var rfl (rd_nil ?_)))))))))
    refine ⟨v, l, G, M, rfl, S, F.hv, d9, d9, F.gd, fun H1 S1 => rd_nil ?_⟩
    refine mk_tup stt_world S1 (by show 2 ≤ 100000; decide) fun p2 G2 e2 S2 h2 => rd_name ?_
    show t_law_1b_6b_4 K lw _ [a0, some (.ref b), a2, some (v), some (x4), a5, a6, some (.ref p2), some (.ref pa), some (.ref ha), a10, a11, some (.str (SX.S u)), a13, a14, a15] _
    refine read_6b_4 (F.ex e2) hu (ex_l e2 hpa) ?_ XT (hB G2 _ e2 S2) (hc.ex e2) fun pf pt' G' H' e' B' k' => q p2 pf pt' G' H' (e2.trans e') B' k'
    have : dueD l u = .tuple [.str "", .str (SX.S l.tx)] := by
      unfold dueD
      rw [c, show pnames [] = [] from if_pos rfl]
      rfl
    rw [this]
    exact .tup (st_of h2) (.cons (.str _) (.cons (.str _) .nil))
  · rw [decide_eq_false (show ¬ SX.S u = ("" : Str) from fun e => c (congrArg (fun s : Str => s.cps.toList) e))]
    refine rd_iF (rd_next ?_)
    show t_law_1b_6b_4 K lw _ [a0, some (.ref b), a2, some (v), some (x4), a5, a6, some (.ref pd), some (.ref pa), some (.ref ha), a10, a11, some (.str (SX.S u)), a13, a14, a15] _
    exact read_6b_4 F hu hpa (hd c) XT Bg hc fun pf pt' G' H' e' B' k' => q pd pf pt' G' H' e' B' k'
theorem read_6b_2 (F : T9 K G l v x4) (hu : u.length ≤ 2000) (hpa : SqL K G pa ((pths l).map V.str)) (hha : SqL K G ha ((hds l).map V.str)) (XT : ExcOk K "InvalidPath" "given") (Bg : Bag K G H b [(lw.P, .tbl pt)]) (hc : lw.codes G pt)
    (q : ∀ pd pf pt' G' H', Ex G G' → Bag K G' H' b [(lw.P, .tbl pt')] → lw.codes G' pt' → D.nx [a0, some (.ref b), a2, some (v), some (x4), a5, a6, some (.ref pd), some (.ref pa), some (.ref ha), a10, a11, some (.str (SX.S u)), some (.ref pf), a14, a15] H') : t_law_1b_6b_2 K lw D [a0, some (.ref b), a2, some (v), some (x4), a5, a6, a7, some (.ref pa), some (.ref ha), a10, a11, some (.str (SX.S u)), a13, a14, a15] H := by
  obtain ⟨M, S, hB⟩ := Bg.stt
  have fin : ∀ (pd : Addr) (G2 H2 : Hp), Ex G G2 → Stt G2 H2 M → (u ≠ [] → Dp K G2 (.ref pd) (dueD l u)) → gName 7 (.ref pd) [a0, some (.ref b), a2, some (v), some (x4), a5, a6, a7, some (.ref pa), some (.ref ha), a10, a11, some (.str (SX.S u)), a13, a14, a15] H2 fun σ2 H3 => t_law_1b_6b_3 K lw D σ2 H3 := fun pd G2 H2 e2 S2 hd => by
    refine rd_name ?_
    show t_law_1b_6b_3 K lw D [a0, some (.ref b), a2, some (v), some (x4), a5, a6, some (.ref pd), some (.ref pa), some (.ref ha), a10, a11, some (.str (SX.S u)), a13, a14, a15] H2
    exact read_6b_3 (F.ex e2) hu (ex_l e2 hpa) hd XT (hB G2 H2 e2 S2) (hc.ex e2) fun pd pf pt' G' H' e' B' k' => q pd pf pt' G' H' (e2.trans e') B' k'
  unfold t_law_1b_6b_2
  refine rd_seq (rd_asg (rd_if (rd_test (rd_op (rd_var rfl (rd_var rfl (rd_inLw (ex_l S.ex hha) (rd_bl ?_))))))))
  by_cases c : SX.S u ∈ hds l
  · rw [decide_eq_true c]
    obtain ⟨w, ns, k, ew, wne, hn, _, pn, hk⟩ := hds_at F.gd c
    have ew : u = w := congrArg cps ew
    subst ew
    have gk := lv_some (u := u) F (by rw [pn]; exact hk)
    have pe : pnames u = (TL.spl [46] 0 [] u).map SX.S := if_neg wne
    refine rd_iT (rd_tup (rd_cons (rd_c (rd_cons (rd_call (rd_cons (rd_call (rd_cons (rd_var rfl (rd_cons (rd_bm (rd_var rfl ⟨rfl, rd_cons (rd_c (rd_nil ⟨SX.S u, SX.S [46], rfl, rfl, rfl, by rw [SX.S_len]; exact sz_of (by omega), ?_⟩))⟩))))))))))))
    rw [SX.split_S (by decide) (by decide), ← pe, pn]
    refine mk_im (o := .lst (ns.map V.str)) stt_world S fun p G1 e1 S1 h1 => rd_nil ?_
    refine ⟨v, p, ns, l, k, G1, M, rfl, S1, Dp.ex e1 _ _ F.hv, F.gd, fun H' e' => ex_l e' (sq_of h1), hk, fun x G2 H2 e2 S2 hx => rd_nil ⟨x, k, G2, M, rfl, S2, hx, gk.2, gk.2, gk.1, fun H3 S3 => rd_nil ?_⟩⟩
    refine mk_tup stt_world S3 (by show 2 ≤ 100000; decide) fun p4 G4 e4 S4 h4 => fin p4 G4 _ (e1.trans (e2.trans e4)) S4 fun _ => ?_
    have : dueD l u = .tuple [.str "", .str (SX.S k.tx)] := by unfold dueD; rw [pn, hk]
    rw [this]
    exact .tup (st_of h4) (.cons (.str _) (.cons (.str _) .nil))
  · rw [decide_eq_false c]
    refine rd_iF (rd_tup (rd_cons (rd_c (rd_cons (rd_var rfl (rd_nil ?_))))))
    refine mk_tup stt_world S (by show 2 ≤ 100000; decide) fun p4 G4 e4 S4 h4 => fin p4 G4 _ e4 S4 fun ne => ?_
    have : dueD l u = .tuple [.str "InvalidPath", .str (SX.S u)] := by
      unfold dueD
      cases hk : lvAt l (pnames u) with
      | none => rfl
      | some k => exact (c (hds_of ne hk).1).elim
    rw [this]
    exact .tup (st_of h4) (.cons (.str _) (.cons (.str _) .nil))
theorem read_6b_1 {near : Addr} {xs : List V} (F : T9 K G l v x4) (hpa : SqL K G pa ((pths l).map V.str)) (hha : SqL K G ha ((hds l).map V.str)) (hx : SqL K G near xs) (x0 : 0 < xs.length) (x1 : xs.length ≤ 100) (hz : ∀ y, y ∈ xs → ∃ z : Str, y = .str z ∧ z.length ≤ 2000) (XT : ExcOk K "InvalidPath" "given") (Bg : Bag K G H b [(lw.P, .tbl pt)]) (hc : lw.codes G pt)
    (q : ∀ pd pf z pt' G' H', Ex G G' → Bag K G' H' b [(lw.P, .tbl pt')] → lw.codes G' pt' → D.nx [a0, some (.ref b), a2, some (v), some (x4), a5, a6, some (.ref pd), some (.ref pa), some (.ref ha), a10, some (.ref near), some (.str z), some (.ref pf), a14, a15] H') : t_law_1b_6b_1 K lw D [a0, some (.ref b), a2, some (v), some (x4), a5, a6, a7, some (.ref pa), some (.ref ha), a10, some (.ref near), a12, a13, a14, a15] H := by
  unfold t_law_1b_6b_1
  refine rd_seq (rd_asg (rd_call (rd_cons (rd_var rfl (rd_cons (rd_var rfl (rd_nil ?_)))))))
  refine ⟨b, .ref near, G, _, rfl, Bg, .inl ⟨near, xs, rfl, fun H' B' => .inl (ex_l B'.ex hx), x0, by omega, fun y H1 hy B1 => rd_name ?_⟩⟩
  obtain ⟨z, rfl, zl⟩ := hz y hy
  obtain ⟨u, rfl⟩ : ∃ u, z = SX.S u := ⟨cps z, (S_cps z).symm⟩
  rw [SX.S_len] at zl
  show t_law_1b_6b_2 K lw _ [a0, some (.ref b), a2, some (v), some (x4), a5, a6, a7, some (.ref pa), some (.ref ha), a10, some (.ref near), some (.str (SX.S u)), a13, a14, a15] _
  exact read_6b_2 F zl hpa hha XT B1 hc fun pd pf pt' G' H' e' B' k' => q pd pf _ pt' G' H' e' B' k'
end

/-! Texts as lists of codes, read. -/
section
variable {K : PySem.W.Frag} {σ : L2.St} {G H : Hp} {L : List (Addr × HO)} {Q : VK} {D : Ends} {w u : List Nat} {z : Str} {n : Nat}
theorem S_eq {a : List Nat} {z : Str} : SX.S a = z ↔ a = z.cps.toList := ⟨fun e => congrArg (fun s : Str => s.cps.toList) e, fun e => by subst e; exact SX.S_tl z⟩
theorem S_dec {a : List Nat} {z : Str} : decide (SX.S a = z) = decide (a = z.cps.toList) := decide_eq_decide.mpr S_eq
theorem S_inj {a b : List Nat} (h : SX.S a = SX.S b) : a = b := S_eq.mp h
theorem rd_slS0 {lo hi : Option Int} (h : z.length ≤ sizeLine) (q : Q (.str (cutS z lo hi)) H) : gSl K (.str z) lo hi H Q := .inr (.inl ⟨z, rfl, h, q⟩)
theorem rd_sliceTo (h : w.length ≤ 100000) (q : Q (.str (SX.S (w.take n))) H) : gSl K (.str (SX.S w)) none (some (n : Nat)) H Q := by
  refine rd_slS0 (by rw [SX.S_len]; exact sz_of h) ?_
  rw [C8.cutS_slice, SX.slice_to (Int.natCast_nonneg _), Int.toNat_natCast]
  exact q
theorem rd_sliceFrom (h : w.length ≤ 100000) (q : Q (.str (SX.S (w.drop n))) H) : gSl K (.str (SX.S w)) (some (n : Nat)) none H Q := by
  refine rd_slS0 (by rw [SX.S_len]; exact sz_of h) ?_
  rw [C8.cutS_slice, SX.slice_from (Int.natCast_nonneg _), Int.toNat_natCast]
  exact q
theorem rd_addSS (h : w.length + u.length ≤ 100000) (q : Q (.str (SX.S (w ++ u))) H) : gAdd K (.str (SX.S w)) (.str (SX.S u)) H Q := by
  refine rd_addS (by rw [SX.S_len, SX.S_len]; exact sz_of h) ?_
  rw [SX.S_cat]
  exact q
theorem rd_lenSS (h : w.length ≤ 100000) (q : Q (.int w.length) H) : gLen K [.str (SX.S w)] H Q := by
  refine rd_lenS (by rw [SX.S_len]; exact sz_of h) ?_
  rw [SX.S_len]
  exact q
theorem rd_inSg {c : Nat} (q : Q (.bl (decide (c ∈ z.cps.toList))) H) : gIn K (.str ⟨#[c]⟩) (.str z) H Q := .inl ⟨c, z, rfl, rfl, q⟩
theorem rd_ixSS {i c : Nat} (h : w.length ≤ 100000) (e : w[i]? = some c) (q : Q (.str (SX.S [c])) H) : rIx K (.str (SX.S w)) (.int (i : Nat)) H Q :=
  rd_ixS (by rw [SX.S_len]; exact sz_of h) (atI_nat e) q
end
section
variable {W : Hp → Hp → List (Addr × HO) → Prop} {K : PySem.W.Frag} {G H : Hp} {L : List (Addr × HO)} {σ : L2.St} {te : TE} {Q : VK} {w : List Nat} {j : Nat}
/-- [test of the sign for each sign of a text] -/
theorem lc_signsT (hW : Wd W) (S : W G H L) (hz : w.length < 100000) (hw : ∀ x, wipe ((wipe σ [j]).set j (some x)) [j] = wipe σ [j]) (f : Nat → Bool)
    (hS : ∀ c acc D G1 H1, Ex G G1 → W G1 H1 ((D, .lst acc) :: L) → ∀ Kp : VK, (∀ H2, W G1 H2 ((D, .lst acc) :: L) → Kp (.bl (f c)) H2) → te ((wipe σ [j]).set j (some (.str ⟨#[c]⟩))) H1 Kp)
    (q : ∀ D G2 H2, Ex G G2 → W G2 H2 ((D, .lst ((w.map f).map V.bl)) :: L) → Q (.ref D) H2) : LcG (Its (SX.S w)) (gName j) tYes te [j] σ H Q := by
  have hs : (SX.S w).cps.size = w.length := by simp
  refine lc_go hW (walk_str (z := SX.S w)) S (by rw [hs]; omega) (fun i v _ => ∃ c, w[i]? = some c ∧ v = .str ⟨#[c]⟩) (fun i acc _ => acc = ((w.take i).map f).map V.bl) (fun _ _ => True.intro) ?_ rfl (fun _ _ _ _ _ h => h) ?_ ?_
  · rintro i x G1 H1 H2 L1 hi e1 S1 ⟨rfl, c, hc, rfl⟩
    exact ⟨G1, Ex.refl _, S1, c, by rw [← hc]; simp, rfl⟩
  · rintro D i x acc G1 H1 hi _ e1 S1 I1 ⟨c, hc, rfl⟩ Kp Sk kp sk
    refine rd_name ⟨hw _, rd_yes (rd_iT ?_)⟩
    refine hS c acc D G1 H1 e1 S1 _ fun H2 S2 => kp _ G1 H2 (Ex.refl _) S2 ?_
    rw [I1, List.take_add_one, hc, List.map_append, List.map_append]
    rfl
  · intro D acc G2 H2 e2 S2 I2 _
    rw [hs, List.take_length] at I2
    subst I2
    exact q D G2 H2 e2 S2
end

/-! The law of paths: the near texts, a turn. -/



theorem rd_upp {to : TE} {σ : L2.St} {H : Hp} {Q : VK} (q : to σ H fun x H1 => (∃ a, x = .str a) ∧ rUpp x [] H1 Q) : tUpp to σ H Q := q
section
variable {K : PySem.W.Frag} [SK : SchK K] [CK : Consts K] [KK : KitN K] {G H : Hp} {L M : List (Addr × HO)} {Q : VK} {E : XK} {D : Ends} {lw : LamW} {pt : Array Value} {s b pa ha : Addr} {l : Lev} {v x4 : V} {σ : L2.St} {u w : List Nat}
  {a0 a1 a2 a3 a4 a5 a6 a7 a8 a9 a10 a11 a12 a13 a14 a15 : Option V}
theorem hds_len (F : T9 K G l v x4) {p : Str} (h : p ∈ hds l) : p.length ≤ 40 := by
  obtain ⟨ns, hn, rfl⟩ := List.mem_map.mp h
  have sm := (nd_sums F.gd hn F.dep).2
  rw [join_names, SX.S_len]
  exact Nat.le_trans (joinL_le46 ns) sm
theorem read_6b (F : T9 K G l v x4) (hw : w.length ≤ 200) (hpa : SqL K G pa ((pths l).map V.str)) (hha : SqL K G ha ((hds l).map V.str)) (XT : ExcOk K "InvalidPath" "given") (Bg : Bag K G H b [(lw.P, .tbl pt)]) (hc : lw.codes G pt)
    (q : ∀ near pd pf z pt' G' H', Ex G G' → Bag K G' H' b [(lw.P, .tbl pt')] → lw.codes G' pt' → D.nx [a0, some (.ref b), a2, some (v), some (x4), a5, a6, some (.ref pd), some (.ref pa), some (.ref ha), some (.str (SX.S w)), some (.ref near), some (.str z), some (.ref pf), a14, a15] H') : t_law_1b_6b K lw D [a0, some (.ref b), a2, some (v), some (x4), a5, a6, a7, some (.ref pa), some (.ref ha), some (.str (SX.S w)), a11, a12, a13, a14, a15] H := by
  have W := bag_world K b
  have F0 := F
  have hl := F.hv
  have gd := F.gd
  have hne := hds_ne F.gd F.ne
  have hlen : ∀ p, p ∈ hds l → p.length ≤ 40 := fun p hp => hds_len F hp
  obtain ⟨h0, hr, eh⟩ : ∃ h0 hr, hds l = h0 :: hr := by
    cases e : hds l with
    | nil => exact (hne e).elim
    | cons a r => exact ⟨a, r, rfl⟩
  have hha0 := hha
  rw [eh] at hha
  have h0l := hlen h0 (by rw [eh]; exact List.mem_cons_self ..)
  obtain ⟨u0, rfl⟩ : ∃ u0, h0 = SX.S u0 := ⟨cps h0, (S_cps h0).symm⟩
  rw [SX.S_len] at h0l
  obtain ⟨fs, ls⟩ := l
  obtain ⟨la, fa, c, qs, rfl, hla, hfa, hcc, hq⟩ := lv_inv hl
  rw [Lev.good] at gd
  unfold t_law_1b_6b
  refine rd_seq (rd_asg (rd_lst (rd_cons (rd_op (rd_var rfl (rd_c (rd_addSS (u := [46]) (by show w.length + 1 ≤ _; omega) (rd_cons (rd_op (rd_c (rd_var rfl (rd_addSS (w := [46]) (by show 1 + w.length ≤ _; omega) (rd_cons (rd_op (rd_op (rd_var rfl (rd_c (rd_addSS (u := [46]) (by show w.length + 1 ≤ _; omega) (rd_call (rd_cons (rd_var rfl (rd_cons (rd_op (rd_var rfl (rd_c (rd_ixL (ex_l Bg.ex hla) at0 (rd_nil ?_)))))))))))))))))))))))))))
  refine ⟨b, .ref fa, G, _, rfl, Bg, .inl ⟨fa, fs.map V.str, rfl, fun H' B' => .inl (ex_l B'.ex hfa), by rw [List.length_map]; exact gd.1, by rw [List.length_map]; have := gd.2.1; omega, fun y H1 hy B1 => ?_⟩⟩
  obtain ⟨f, hf, rfl⟩ := List.mem_map.mp hy
  have fl := nameOk_len (gd.2.2.1 f hf)
  obtain ⟨uf, rfl⟩ : ∃ uf, f = SX.S uf := ⟨cps f, (S_cps f).symm⟩
  rw [SX.S_len] at fl
  have k2 : (".." : Str).length = 2 := rfl
  have k1 : (" " : Str).length = 1 := rfl
  refine rd_addSS (by rw [List.length_append]; show w.length + 1 + _ ≤ _; omega) (rd_cons (rd_op (rd_var rfl (rd_c (rd_addSS (u := [121]) (by show w.length + 1 ≤ _; omega) (rd_cons (rd_var rfl ⟨SX.S w, rfl, by rw [SX.S_len, k2]; omega, rd_cons (rd_var rfl ⟨SX.S w, rfl, by rw [SX.S_len, k1]; omega, rd_cons (rd_sl (rd_var rfl (rd_part (rd_c ⟨1, rfl, rd_noPart ?_⟩))))⟩)⟩)))))))
  refine rd_sliceFrom (n := 1) (by omega) (rd_cons (rd_upp (rd_var rfl ⟨⟨_, rfl⟩, SX.S w, rfl, rfl, by rw [SX.S_len]; omega, rd_cons (rd_op (rd_op (rd_op (rd_var rfl (rd_c (rd_ixL (ex_l B1.ex hha) at0 (rd_c (rd_addSS (u := [46]) (by show u0.length + 1 ≤ _; omega) (rd_var rfl ?_)))))))))⟩)))
  refine rd_addSS (by rw [List.length_append]; show u0.length + 1 + _ ≤ _; omega) (rd_cons (rd_op (rd_var rfl (rd_c (rd_addSS (u := [10]) (by show w.length + 1 ≤ _; omega) (rd_nil ?_))))))
  refine mk_lst W B1 (by show 10 ≤ 100000; decide) fun p2 G2 e2 B2 h2 => rd_name ?_
  show t_law_1b_6b_1 K lw _ [a0, some (.ref b), a2, some (.ref la), some (x4), a5, a6, a7, some (.ref pa), some (.ref ha), some (.str (SX.S w)), some (.ref p2), a12, a13, a14, a15] _
  refine read_6b_1 (F0.ex e2) (ex_l e2 hpa) (ex_l e2 hha0) (sq_of h2) (by show 0 < 10; decide) (by show 10 ≤ 100; decide) (fun y hy => ?_) XT B2 (hc.ex e2) fun pd pf z pt' G' H' e' B' k' => q p2 pd pf z pt' G' H' (e2.trans e') B' k'
  simp only [List.mem_cons, List.not_mem_nil, or_false] at hy
  have rl2 := TK.replace_len (SX.S w) "." ".."
  have rl1 := TK.replace_len (SX.S w) "." " "
  have ul := len_upper (SX.S w)
  have wl : (SX.S w).length = w.length := SX.S_len ..
  rw [k2, wl] at rl2
  rw [k1, wl] at rl1
  rw [wl] at ul
  rcases hy with rfl | rfl | rfl | rfl | rfl | rfl | rfl | rfl | rfl | rfl
  · exact ⟨_, rfl, by rw [SX.S_len, List.length_append]; show w.length + 1 ≤ _; omega⟩
  · exact ⟨_, rfl, by rw [SX.S_len, List.length_append]; show 1 + w.length ≤ _; omega⟩
  · exact ⟨_, rfl, by rw [SX.S_len, List.length_append, List.length_append]; show w.length + 1 + _ ≤ _; omega⟩
  · exact ⟨_, rfl, by rw [SX.S_len, List.length_append]; show w.length + 1 ≤ _; omega⟩
  · exact ⟨_, rfl, by omega⟩
  · exact ⟨_, rfl, by omega⟩
  · exact ⟨_, rfl, by rw [SX.S_len, List.length_drop]; omega⟩
  · exact ⟨_, rfl, by omega⟩
  · exact ⟨_, rfl, by rw [SX.S_len, List.length_append, List.length_append]; show u0.length + 1 + _ ≤ _; omega⟩
  · exact ⟨_, rfl, by rw [SX.S_len, List.length_append]; show w.length + 1 ≤ _; omega⟩
/-- the last of a turn: two bases -/
theorem read_6 (F : T9 K G l v x4) (hpa : SqL K G pa ((pths l).map V.str)) (hha : SqL K G ha ((hds l).map V.str)) (XT : ExcOk K "InvalidPath" "given") (Bg : Bag K G H b [(lw.P, .tbl pt)]) (hc : lw.codes G pt)
    (q : ∀ (σ' : L2.St) pt' G' H', (∃ x7 x10 x11 x12 x13 : Option V, σ' = [a0, some (.ref b), a2, some v, some x4, a5, a6, x7, some (.ref pa), some (.ref ha), x10, x11, x12, x13, a14, a15]) → Ex G G' → Bag K G' H' b [(lw.P, .tbl pt')] → lw.codes G' pt' → D.nx σ' H') :
    t_law_1b_6 K lw D [a0, some (.ref b), a2, some (v), some (x4), a5, a6, a7, some (.ref pa), some (.ref ha), a10, a11, a12, a13, a14, a15] H := by
  have W := bag_world K b
  have pf := pths_few F
  have ll := lsts_len l F.gd
  have p9 : 2 ^ l.depth ≤ 2 ^ 3 := Nat.pow_le_pow_right (by decide) F.dep
  have p8 : 2 ^ 3 = 8 := rfl
  have hl8 : (hds l).length ≤ 8 := by
    unfold hds
    rw [List.length_map]; omega
  have hl0 : 0 < (hds l).length := by
    cases e : hds l with
    | nil => exact (hds_ne F.gd F.ne e).elim
    | cons _ _ => exact Nat.succ_pos _
  have pl0 : 0 < (pths l).length := by
    unfold pths
    have gd := F.gd
    obtain ⟨fs, ls⟩ := l
    rw [Lev.good] at gd
    rw [List.length_append]
    have : 0 < fs.length := gd.1
    show 0 < fs.length + _
    omega
  unfold t_law_1b_6
  refine rd_for (rd_il (rd_lst (rd_cons (rd_call (rd_cons (rd_var rfl (rd_cons (rd_var rfl (rd_nil ?_)))))))))
  refine ⟨b, .ref pa, G, _, rfl, Bg, .inl ⟨pa, _, rfl, fun H' B' => .inl (ex_l B'.ex hpa), by rw [List.length_map]; exact pl0, by rw [List.length_map]; omega, fun y H1 hy B1 => rd_cons (rd_call (rd_cons (rd_var rfl (rd_cons (rd_var rfl (rd_nil ?_))))))⟩⟩
  refine ⟨b, .ref ha, G, _, rfl, B1, .inl ⟨ha, _, rfl, fun H' B' => .inl (ex_l B'.ex hha), by rw [List.length_map]; exact hl0, by rw [List.length_map]; omega, fun z H2 hz B2 => rd_nil ?_⟩⟩
  refine mk_lst W B2 (by show 2 ≤ 100000; decide) fun p3 G3 e3 B3 h3 => ⟨p3, rfl, ⟨_, sq_of (B3.ex _ _ h3)⟩, ?_⟩
  have base : ∀ x, x ∈ [y, z] → ∃ w, x = .str (SX.S w) ∧ w.length ≤ 200 := fun x hx => by
    rcases in_two hx with rfl | hx
    · obtain ⟨p, hp, rfl⟩ := List.mem_map.mp hy
      have := pths_len F hp
      exact ⟨cps p, by rw [S_cps], by rw [← SX.S_len, S_cps]; exact this⟩
    · rw [List.mem_singleton.mp hx]
      obtain ⟨p, hp, rfl⟩ := List.mem_map.mp hz
      have := hds_len F hp
      exact ⟨cps p, by rw [S_cps], by rw [← SX.S_len, S_cps]; omega⟩
  refine for_go (walk_list (K := K) (a := p3) (xs := [y, z])) (G := G3)
    (fun i σ1 G4 H4 => ∃ pt, (∃ x7 x10 x11 x12 x13 : Option V, σ1 = [a0, some (.ref b), a2, some v, some x4, a5, a6, x7, some (.ref pa), some (.ref ha), x10, x11, x12, x13, a14, a15]) ∧ Ex G3 G4 ∧ Bag K G4 H4 b [(lw.P, .tbl pt)] ∧ lw.codes G4 pt)
    ⟨_, ⟨_, _, _, _, _, rfl⟩, Ex.refl _, B3, hc.ex e3⟩ (fun i σ1 G4 H4 _ ⟨_, _, e4, B4, _⟩ => sq_of (B4.ex _ _ (e4 _ _ h3))) ?_ ?_
  · rintro i x σ1 G4 H4 H5 hi ⟨pt4, ⟨x7, x10, x11, x12, x13, rfl⟩, e4, B4, k4⟩ y4 N hN
    obtain ⟨rfl, hx⟩ := y4
    obtain ⟨w, rfl, hw⟩ := base x (List.mem_of_getElem? hx)
    refine rd_name ?_
    show t_law_1b_6b K lw _ [a0, some (.ref b), a2, some v, some x4, a5, a6, x7, some (.ref pa), some (.ref ha), some (.str (SX.S w)), x11, x12, x13, a14, a15] _
    have x0 := e3.trans e4
    exact read_6b (F.ex x0) hw (ex_l x0 hpa) (ex_l x0 hha) XT B4 k4 fun near pd pf z pt' G' H' e' B' k' => hN _ G' H' ⟨pt', ⟨_, _, _, _, _, rfl⟩, e4.trans e', B', k'⟩
  · rintro σ1 G4 H4 ⟨pt4, sh, e4, B4, k4⟩
    exact q σ1 pt4 G4 H4 sh (e3.trans e4) B4 k4
/-- what a turn leaves: a schema, the texts of its lists -/
def Left (K : PySem.W.Frag) (G : Hp) (x4 : V) (ha : Addr) : Prop := ∃ (l : Lev) (v : V), T9 K G l v x4 ∧ SqL K G ha ((hds l).map V.str)
theorem Left.ex {G' : Hp} (e : Ex G G') (h : Left K G x4 ha) : Left K G' x4 ha := have ⟨l, v, F, h⟩ := h; ⟨l, v, F.ex e, ex_l e h⟩
def Sh (s b : Addr) (σ : L2.St) : Prop := ∃ x2 x3 x4 x5 x6 x7 x8 x9 x10 x11 x12 x13 x14 x15 : Option V, σ = [some (.ref s), some (.ref b), x2, x3, x4, x5, x6, x7, x8, x9, x10, x11, x12, x13, x14, x15]
/-- a turn -/
theorem read_l0 (XT : ExcOk K "InvalidPath" "given") (Bg : Bag K G H b [(lw.P, .tbl pt)]) (hc : lw.codes G pt)
    (q : ∀ (σ' : L2.St) pt' G' H' x4 ha, Sh s b σ' → σ'[4]? = some (some x4) → σ'[9]? = some (some (.ref ha)) → Left K G' x4 ha → Ex G G' → Bag K G' H' b [(lw.P, .tbl pt')] → lw.codes G' pt' → D.nx σ' H') :
    t_law_1b K lw D [some (.ref s), some (.ref b), a2, a3, a4, a5, a6, a7, a8, a9, a10, a11, a12, a13, a14, a15] H := by
  unfold t_law_1b
  refine rd_seq (rd_asg (rd_call (rd_cons (rd_var rfl (rd_cons (rd_op (rd_c (rd_call (rd_cons (rd_var rfl (rd_cons (rd_c (rd_nil ?_)))))))))))))
  refine ⟨b, _, G, _, rfl, by decide, by decide, Bg, fun sh H1 s0 s5 B1 => rd_addI (rd_cons (rd_c (rd_nil ?_)))⟩
  refine ⟨b, 1 + sh, 2, G, _, rfl, by omega, by omega, by omega, by omega, B1, fun v l G2 H2 e2 B2 hv gd dr _ dep ne => rd_name ?_⟩
  show t_law_1b_1 K lw _ [some (.ref s), some (.ref b), a2, some (v), a4, a5, a6, a7, a8, a9, a10, a11, a12, a13, a14, a15] _
  obtain ⟨M, S2, hB⟩ := B2.stt
  have d9 : l.depth ≤ 9 := by omega
  unfold t_law_1b_1
  refine rd_seq (rd_asg (rd_tup (rd_cons (rd_call (rd_cons (rd_var rfl (rd_nil ?_)))))))
  refine ⟨v, l, G2, M, rfl, S2, hv, gd, dep, fun x4 G3 H3 e3 S3 h4 => rd_cons (rd_call (rd_cons (rd_var rfl (rd_nil ?_))))⟩
  refine ⟨v, l, G3, M, rfl, S3, Dp.ex e3 _ _ hv, gd, d9, d9, fun la us G4 H4 e4 S4 hla hus => rd_nil ?_⟩
  refine mk_tup stt_world S4 (by show 2 ≤ 100000; decide) fun p5 G5 e5 S5 h5 => ?_
  refine rd_gtup2 (st_of (S5.ex _ _ h5)) ?_
  have e35 := e3.trans (e4.trans e5)
  have F : T9 K G5 l v x4 := ⟨Dp.ex e35 _ _ hv, h4.ex (e4.trans e5), gd, dep, ne (by omega)⟩
  have hla5 : SqL K G5 la us := ex_l e5 (sq_of hla)
  have hus5 := DpAll.ex e5 _ _ hus
  show t_law_1b_2 K lw _ [some (.ref s), some (.ref b), a2, some (v), some (x4), some (.ref la), a6, a7, a8, a9, a10, a11, a12, a13, a14, a15] _
  unfold t_law_1b_2
  refine rd_seq (rd_for (rd_il (rd_var rfl ⟨la, rfl, ⟨_, ex_l S5.ex hla5⟩, ?_⟩)))
  refine for_go (walk_list (K := K) (a := la) (xs := us)) (G := G5)
    (fun i σ1 G6 H6 => (∃ x6 x7 : Option V, σ1 = [some (.ref s), some (.ref b), a2, some v, some x4, some (.ref la), x6, x7, a8, a9, a10, a11, a12, a13, a14, a15]) ∧ Ex G5 G6 ∧ Stt G6 H6 M)
    ⟨⟨_, _, rfl⟩, Ex.refl _, S5⟩ (fun i σ1 G6 H6 _ ⟨_, e6, S6⟩ => ex_l (e6.trans S6.ex) hla5) ?_ ?_
  · rintro i x σ1 G6 H6 H7 hi ⟨⟨x6, x7, rfl⟩, e6, S6⟩ y N hN
    obtain ⟨rfl, hx⟩ := y
    obtain ⟨d, hd, dp⟩ := DpAll.get (DpAll.ex e6 _ _ hus5) hx
    rw [List.getElem?_map] at hd
    obtain ⟨ns, hns, ed⟩ := Option.map_eq_some_iff.mp hd
    subst ed
    obtain ⟨c, rfl, hc2⟩ := nd_at dp
    refine rd_name ?_
    show t_law_1b_2b K lw _ [some (.ref s), some (.ref b), a2, some v, some x4, some (.ref la), some (.ref c), x7, a8, a9, a10, a11, a12, a13, a14, a15] _
    exact read_2b (F.ex e6) (List.mem_of_getElem? hns) hc2 S6 fun σ' G' H' ⟨x7, e⟩ e' S' => hN _ G' H' ⟨⟨_, _, e⟩, e6.trans e', S'⟩
  · rintro σ1 G6 H6 ⟨⟨x6, x7, rfl⟩, e6, S6⟩
    show t_law_1b_3 K lw _ _ _
    refine read_3 (F.ex e6) S6 fun G7 H7 e7 S7 => ?_
    have x57 := e6.trans e7
    refine read_4 (F.ex x57) (ex_l x57 hla5) (DpAll.ex x57 _ _ hus5) S7 fun pa ha G8 H8 e8 S8 hpa hha => ?_
    have x58 := x57.trans e8
    refine read_5 (F.ex x58) hpa S8 fun G9 H9 e9 S9 => ?_
    have x59 := x58.trans e9
    have x0 := e35.trans x59
    refine read_6 (F.ex x59) (ex_l e9 hpa) (ex_l e9 hha) XT (hB G9 H9 x0 S9) (hc.ex (e2.trans x0)) fun σ' pt' G' H' sh e' B' k' => ?_
    obtain ⟨y7, y10, y11, y12, y13, rfl⟩ := sh
    exact q _ pt' G' H' x4 ha ⟨_, _, _, _, _, _, _, _, _, _, _, _, _, _, rfl⟩ rfl rfl ⟨l, v, F.ex (x59.trans e'), ex_l (e9.trans e') hha⟩ (e2.trans (x0.trans e')) B' k'
end

/-! The law of paths: what is odd, and the law. -/



/-- no names, joined, give this text -/
def NoJ (w : List Nat) : Prop := ∀ ns : List Str, ns ≠ [] → (∀ z, z ∈ ns → NameOk z) → TL.joinL [46] (ns.map cps) ≠ w
theorem noJ_nil : NoJ [] := fun ns ne ok => joinL46_ne ne ok
theorem name_end {f : Str} (h : NameOk f) (A x : List Nat) : A ++ cps f ≠ x ++ [46] := fun e => by
  have n46 := name_46 h
  rcases List.eq_nil_or_concat (cps f) with e0 | ⟨r, c, e0⟩
  · exact nameOk_ne h e0
  · rw [e0] at n46 e
    have := congrArg List.getLast? e
    rw [List.concat_eq_append, ← List.append_assoc, List.getLast?_concat, List.getLast?_concat] at this
    exact n46 (by rw [List.concat_eq_append, ← Option.some.inj this]; simp)
theorem noJ_end (x : List Nat) : NoJ (x ++ [46]) := fun ns ne ok e => by
  rcases List.eq_nil_or_concat ns with e0 | ⟨ms, f, e0⟩
  · exact ne e0
  · rw [List.concat_eq_append] at e0
    subst e0
    have hf := ok f (List.mem_append_right _ (List.mem_singleton.mpr rfl))
    by_cases c : ms = []
    · subst c
      exact name_end hf [] x e
    · rw [joinL46_snoc f c] at e
      have e : (TL.joinL [46] (ms.map cps) ++ [46]) ++ cps f = x ++ [46] := by rw [← e]; simp
      exact name_end hf _ x e
theorem noJ_A : NoJ [65] := fun ns ne ok e => by
  match ns, ne, ok, e with
  | [f], _, ok, e =>
    have e : cps f = [65] := e
    have h := ok f (List.mem_singleton.mpr rfl)
    have : f = SX.S [65] := by rw [← S_cps f, e]
    rw [this] at h
    exact absurd h.1 (by decide +kernel)
  | z :: y :: r, _, ok, e =>
    have e : cps z ++ 46 :: TL.joinL [46] ((y :: r).map cps) = [65] := e
    have : (46 : Nat) ∈ ([65] : List Nat) := by rw [← e]; simp
    exact absurd this (by decide)
theorem noJ_lv {l : Lev} {w : List Nat} (gd : l.good) (h : NoJ w) (ne : w ≠ []) : lvAt l (pnames w) = none := by
  cases hk : lvAt l (pnames w) with
  | none => rfl
  | some k => exact (h (pnames w) (pnames_ne ne) (lsts_ok l gd _ (hds_of ne hk).2) (pnames_join ne)).elim
theorem noJ_pth {l : Lev} {w : List Nat} (gd : l.good) (h9 : l.depth ≤ 9) (h : NoJ w) : isPth l w = false := by
  rw [isPth_iff gd h9]
  refine decide_eq_false fun m => ?_
  obtain ⟨w', ns, f, k, ep, ew, hk, hf, ok, _⟩ := pths_at gd h9 m
  have : w = w' := congrArg cps ep
  exact h (ns ++ [f]) (by simp) ok (by rw [← ew, this])
def OddP (l : Lev) (d : PyData) : Prop := lvD l d = none ∧ isPthD l d = false ∧ fit 7 d ∧ ∀ z, d = .str z → (cps z).length ≤ 10000
theorem oddP_s {l : Lev} {w : List Nat} (gd : l.good) (h9 : l.depth ≤ 9) (h : NoJ w) (ne : w ≠ []) (hl : w.length ≤ 10000) : OddP l (.str (SX.S w)) :=
  ⟨noJ_lv gd h ne, noJ_pth gd h9 h, True.intro, fun z e => by cases e; exact hl⟩
def odds9 (u : List Nat) : List PyData := [.none, .int 3, .bool true, .list [.str (SX.S u)], .tuple [.str (SX.S u)], .str (SX.S [46]), .str (SX.S [65]), .str (SX.S [46, 46]), .str (SX.S (u ++ [46, 46]))]
theorem odds9_ok {l : Lev} {u : List Nat} (gd : l.good) (h9 : l.depth ≤ 9) (hu : u.length ≤ 100) : ∀ d, d ∈ odds9 u → OddP l d := by
  intro d hd
  simp only [odds9, List.mem_cons, List.not_mem_nil, or_false] at hd
  rcases hd with rfl | rfl | rfl | rfl | rfl | rfl | rfl | rfl | rfl
  · exact ⟨rfl, rfl, True.intro, fun z e => nomatch e⟩
  · exact ⟨rfl, rfl, True.intro, fun z e => nomatch e⟩
  · exact ⟨rfl, rfl, True.intro, fun z e => nomatch e⟩
  · exact ⟨rfl, rfl, by simp [fit], fun z e => nomatch e⟩
  · exact ⟨rfl, rfl, by simp [fit], fun z e => nomatch e⟩
  · exact oddP_s gd h9 (noJ_end []) (by decide) (by decide)
  · exact oddP_s gd h9 noJ_A (by decide) (by decide)
  · exact oddP_s gd h9 (noJ_end [46]) (by decide) (by decide)
  · refine oddP_s gd h9 ?_ (by simp) (by rw [List.length_append]; show _ + 2 ≤ _; omega)
    have := noJ_end (u ++ [46])
    rw [List.append_assoc] at this; exact this
section
variable {K : PySem.W.Frag} [SK : SchK K] [CK : Consts K] [KK : KitN K] {G H : Hp} {L M : List (Addr × HO)} {Q : VK} {E : XK} {D : Ends} {lw : LamW} {pt : Array Value} {s b pa ha : Addr} {l : Lev} {v x4 y : V} {σ : L2.St} {u w : List Nat} {d : PyData}
  {a0 a1 a2 a3 a4 a5 a6 a7 a8 a9 a10 a11 a12 a13 a14 a15 : Option V}
theorem read_l3 (F : T9 K G l v x4) (hy : Dp K G y d) (od : OddP l d) (XT : ExcOk K "InvalidPath" "given") (Bg : Bag K G H b [(lw.P, .tbl pt)]) (hc : lw.codes G pt) (q : ∀ H', D.rt (.bl true) H') :
    t_law_3 K lw D [a0, a1, a2, a3, some (x4), a5, a6, a7, a8, a9, a10, a11, a12, a13, some (y), a15] H := by
  have W := bag_world K b
  have d9 : l.depth ≤ 9 := by have := F.dep; omega
  obtain ⟨a, dx, fs, ea, ob, no⟩ := sch_no "level" (by decide +kernel) (by decide +kernel) F.h4
  obtain ⟨a', dx', fs', ea', ob', no'⟩ := sch_no "is_field" (by decide +kernel) (by decide +kernel) F.h4
  subst ea
  cases ea'
  unfold t_law_3
  refine rd_ret (rd_call (rd_cons (rd_lst (rd_cons ?_))))
  refine rd_tryL Bg hc fun f G1 H1 pt1 e1 B1 k1 => rd_meth (rd_var rfl ⟨a, dx, fs, rfl, B1.ex _ _ (e1 _ _ ob), no, rd_cons (rd_var rfl (rd_nil ?_))⟩)
  obtain ⟨M, S1, hB⟩ := B1.stt
  refine ⟨.ref a, y, l, d, G1, M, rfl, S1, F.h4.ex e1, F.gd, Dp.ex e1 _ _ hy, od.2.2.2, .inr ⟨od.1, fun dd G2 H2 e2 S2 hdd => ?_⟩⟩
  refine rd_tryE XT hdd rfl (by decide) fun H3 e3 => ?_
  refine mk_im (o := .tup [.str "InvalidPath", y]) W ((hB G2 H2 e2 S2).up e3) fun p4 G4 e4 B4 h4 => ?_
  have x4e := e1.trans (e2.trans e4)
  obtain ⟨M4, S4, hB4⟩ := B4.stt
  refine rd_cons (rd_meth (rd_var rfl ⟨a, dx', fs', rfl, S4.ex _ _ (x4e _ _ ob'), no', rd_cons (rd_var rfl (rd_nil ?_))⟩))
  refine ⟨.ref a, y, l, d, G4, M4, rfl, S4, F.h4.ex x4e, F.gd, Dp.ex x4e _ _ hy, fun z e => by have := od.2.2.2 z e; rw [show z.length = (cps z).length from (Array.length_toList ..).symm]; exact this, fun G5 H5 e5 S5 => ?_⟩
  rw [od.2.1]
  have x5 := x4e.trans e5
  refine rd_cons (rd_meth (rd_var rfl ⟨a, dx', fs', rfl, S5.ex _ _ (x5 _ _ ob'), no', rd_cons (rd_c (rd_nil ?_))⟩))
  refine ⟨.ref a, .str "", l, .str "", G5, M4, rfl, S5, F.h4.ex x5, F.gd, .str _, fun z e => by cases e; decide, fun G6 H6 e6 S6 => ?_⟩
  rw [show isPthD l (.str "") = false from noJ_pth F.gd d9 noJ_nil]
  refine rd_nil (mk_lst stt_world S6 (by show 3 ≤ 100000; decide) fun p7 G7 e7 S7 h7 => rd_cons (rd_lst (rd_cons (rd_tup (rd_cons (rd_c (rd_cons (rd_var rfl (rd_nil ?_)))))))))
  refine mk_tup stt_world S7 (by show 2 ≤ 100000; decide) fun p8 G8 e8 S8 h8 => rd_cons (rd_c (rd_cons (rd_c (rd_nil ?_))))
  refine mk_lst stt_world S8 (by show 3 ≤ 100000; decide) fun p9 G9 e9 S9 h9 => rd_nil ?_
  have e59 := e6.trans (e7.trans (e8.trans e9))
  have x9 := x5.trans e59
  have hy9 := Dp.ex x9 _ _ hy
  have da : Dp K G9 (.ref p7) (.list [.tuple [.str "InvalidPath", d], .bool false, .bool false]) := .lst (ex_l (e8.trans e9) (sq_of h7)) (.cons (.tup (ex_t (e5.trans e59) (st_of h4)) (.cons (.str _) (.cons hy9 .nil))) (.cons (.bl _) (.cons (.bl _) .nil)))
  have db : Dp K G9 (.ref p9) (.list [.tuple [.str "InvalidPath", d], .bool false, .bool false]) := .lst (sq_of h9) (.cons (.tup (ex_t e9 (st_of h8)) (.cons (.str _) (.cons hy9 .nil))) (.cons (.bl _) (.cons (.bl _) .nil)))
  refine ⟨G9, M4, _, _, _, _, rfl, S9, da, db, ⟨by show 3 < _; decide, fun z hz => ?_⟩, fun H10 S10 => ?_⟩
  · rcases in_two hz with rfl | hz
    · refine ⟨by show 2 < _; decide, fun t ht => ?_⟩
      rcases in_two ht with rfl | ht
      · exact True.intro
      · rw [List.mem_singleton.mp ht]; exact od.2.2.1
    · rcases in_two hz with rfl | hz
      · exact True.intro
      · rw [List.mem_singleton.mp hz]; exact True.intro
  rw [lk_same da]
  exact q H10
theorem read_l2 (F : T9 K G l v x4) (hha : SqL K G ha ((hds l).map V.str)) (XT : ExcOk K "InvalidPath" "given") (Bg : Bag K G H b [(lw.P, .tbl pt)]) (hc : lw.codes G pt) (q : ∀ H', D.rt (.bl true) H') :
    t_law_2 K lw D [a0, some (.ref b), a2, a3, some (x4), a5, a6, a7, a8, some (.ref ha), a10, a11, a12, a13, a14, a15] H := by
  have W := bag_world K b
  have hlen : ∀ p, p ∈ hds l → p.length ≤ 40 := fun p hp => hds_len F hp
  obtain ⟨h0, hr, eh⟩ : ∃ h0 hr, hds l = h0 :: hr := by
    cases e : hds l with
    | nil => exact (hds_ne F.gd F.ne e).elim
    | cons a r => exact ⟨a, r, rfl⟩
  rw [eh] at hha
  have h0l := hlen h0 (by rw [eh]; exact List.mem_cons_self ..)
  obtain ⟨u0, rfl⟩ : ∃ u0, h0 = SX.S u0 := ⟨cps h0, (S_cps h0).symm⟩
  rw [SX.S_len] at h0l
  unfold t_law_2
  refine rd_seq (rd_asg (rd_call (rd_cons (rd_var rfl (rd_cons (rd_lst (rd_cons (rd_c (rd_cons (rd_c (rd_cons (rd_c (rd_cons (rd_lst (rd_cons (rd_op (rd_var rfl (rd_c (rd_ixL (ex_l Bg.ex hha) at0 (rd_nil ?_))))))))))))))))))))
  refine mk_lst W Bg (by show 1 ≤ 100000; decide) fun p1 G1 e1 B1 h1 => rd_cons (rd_tup (rd_cons (rd_op (rd_var rfl (rd_c (rd_ixL (ex_l (e1.trans B1.ex) hha) at0 (rd_nil ?_)))))))
  refine mk_tup W B1 (by show 1 ≤ 100000; decide) fun p2 G2 e2 B2 h2 => rd_cons (rd_c (rd_cons (rd_c (rd_cons (rd_c (rd_cons (rd_op (rd_op (rd_var rfl (rd_c (rd_ixL (ex_l (e1.trans (e2.trans B2.ex)) hha) at0 (rd_c (rd_addSS (u := [46, 46]) (by show u0.length + 2 ≤ _; omega) (rd_nil ?_))))))))))))))
  refine mk_lst W B2 (by show 9 ≤ 100000; decide) fun p3 G3 e3 B3 h3 => rd_nil ?_
  have x3 := e1.trans (e2.trans e3)
  have hA : DpAll K G3 _ (odds9 u0) := .cons .non (.cons (.int _) (.cons (.bl _) (.cons (.lst (ex_l (e2.trans e3) (sq_of h1)) (.cons (.str _) .nil)) (.cons (.tup (ex_t e3 (st_of h2)) (.cons (.str _) .nil)) (.cons (.str _) (.cons (.str _) (.cons (.str _) (.cons (.str _) .nil))))))))
  refine of_dat B3 (sq_of h3) hA (by show 0 < 9; decide) (by show 9 < 1000000; decide) fun y d H5 hd hy B5 => rd_name ?_
  show t_law_3 K lw _ [a0, some (.ref b), a2, a3, some (x4), a5, a6, a7, a8, some (.ref ha), a10, a11, a12, a13, some (y), a15] _
  exact read_l3 (F.ex x3) hy (odds9_ok F.gd (by have := F.dep; omega) (by omega) d hd) XT B5 (hc.ex x3) q
end
def sp_law (K : PySem.W.Frag) (lw : LamW) : Sp := fun vs H Q _ => ∃ (a : Addr) (ns : List Int), vs = [.ref a] ∧ SqL K H a (ns.map V.int) ∧ H lw.P = some (.tbl #[]) ∧ ExcOk K "InvalidPath" "given" ∧ (∀ H', Q (.bl true) H')
theorem sat_law {K : PySem.W.Frag} [SK : SchK K] [CK : Consts K] [KK : KitN K] {lw : LamW} {vs : List V} {H : Hp} {Q : VK} {E : XK} (h : sp_law K lw vs H Q E) : vs.length = 1 ∧ t_law K lw { nx := fun _ H' => Q .non H', rt := Q } (vs.map some ++ List.replicate (16 - vs.length) none) H := by
  obtain ⟨a, ns, rfl, ha, hP, XT, q⟩ := h
  refine ⟨rfl, ?_⟩
  unfold t_law
  refine rd_seq (rd_asg (rd_call (rd_cons (rd_var rfl (rd_nil ?_)))))
  refine ⟨a, ns, _, _, rfl, Stt.out1 hP, del_sq hP ha, fun b G1 H1 e1 B1 => rd_name ?_⟩
  have k1 : lw.codes G1 #[] := ⟨True.intro, fun _ _ h => nomatch h⟩
  show t_law_1 K lw _ _ _
  unfold t_law_1
  refine rd_seq (rd_for (rd_rng1 (rd_cons (rd_c (rd_nil ⟨3, rfl, by decide, by decide, ?_⟩)))))
  refine for_go (walk_range (lo := 0) (n := (3 : Int).toNat)) (G := G1)
    (fun i σ1 G4 H4 => ∃ pt, (Sh a b σ1 ∧ (0 < i → ∃ x4 ha, σ1[4]? = some (some x4) ∧ σ1[9]? = some (some (.ref ha)) ∧ Left K G4 x4 ha)) ∧ Ex G1 G4 ∧ Bag K G4 H4 b [(lw.P, .tbl pt)] ∧ lw.codes G4 pt)
    ⟨_, ⟨⟨_, _, _, _, _, _, _, _, _, _, _, _, _, _, rfl⟩, fun z => absurd z (by decide)⟩, Ex.refl G1, B1, k1⟩ (fun _ _ _ _ _ _ => True.intro) ?_ ?_
  · rintro i v σ1 G4 H4 H5 hi ⟨pt, ⟨⟨x2, x3, x4, x5, x6, x7, x8, x9, x10, x11, x12, x13, x14, x15, rfl⟩, _⟩, e4, B4, k4⟩ y N hN
    obtain ⟨rfl, rfl⟩ := y
    refine rd_name ?_
    show t_law_1b K lw _ _ _
    exact read_l0 XT B4 k4 fun σ' pt' G' H' x4 ha sh i4 i9 lf e' B' k' => hN _ G' H' ⟨_, ⟨sh, fun _ => ⟨x4, ha, i4, i9, lf⟩⟩, e4.trans e', B', k'⟩
  · rintro σ1 G4 H4 ⟨pt, ⟨⟨x2, x3, x4, x5, x6, x7, x8, x9, x10, x11, x12, x13, x14, x15, rfl⟩, lf⟩, e4, B4, k4⟩
    obtain ⟨x4', ha, i4, i9, l, v, F, hha⟩ := lf (by decide)
    cases i4
    cases i9
    exact read_l2 F hha XT B4 k4 fun H' => q H'

/-! A frame's cells told as objects while a call runs: lambdas that any def may call. -/
abbrev Cells := List (Addr × Obj)
def cO (c : Addr) (o : Obj) : HO := .ext fun h => h.get? c = some o
def onC (l : Cells) (H : Hp) : Hp := fun a => match l.lookup a with
  | some o => some (cO a o)
  | none => H a
def offC (l : Cells) (H : Hp) : Hp := fun a => match l.lookup a with
  | some _ => none
  | none => H a
def InC (l : Cells) (H : Hp) : Prop := ∀ a o, l.lookup a = some o → H a = some (cO a o)
def NoC (l : Cells) (H : Hp) : Prop := ∀ a o, l.lookup a = some o → H a = none
section
variable {l : Cells} {H H1 H2 G G1 : Hp} {a b : Addr} {o : Obj} {u : HO} {L : List (Addr × HO)}
theorem on_at (e : l.lookup a = some o) : onC l H a = some (cO a o) := by unfold onC; rw [e]
theorem on_no (e : l.lookup a = none) : onC l H a = H a := by unfold onC; rw [e]
theorem off_at (e : l.lookup a = some o) : offC l H a = none := by unfold offC; rw [e]
theorem off_no (e : l.lookup a = none) : offC l H a = H a := by unfold offC; rw [e]
theorem inC_on : InC l (onC l H) := fun _ _ e => on_at e
theorem noC_off : NoC l (offC l H) := fun _ _ e => off_at e
theorem on_off (h : InC l H) : onC l (offC l H) = H := by
  funext a
  cases e : l.lookup a with
  | none => rw [on_no e, off_no e]
  | some o => rw [on_at e, h a o e]
theorem off_on (h : NoC l H) : offC l (onC l H) = H := by
  funext a
  cases e : l.lookup a with
  | none => rw [off_no e, on_no e]
  | some o => rw [off_at e, h a o e]
theorem off_some (h : offC l H a = some u) : H a = some u := by
  cases e : l.lookup a with
  | none => rw [off_no e] at h; exact h
  | some o => rw [off_at e] at h; cases h
/-- a cell's object in what may not be one -/
theorem not_in (n : NoC l H) (h : H a = some u) : l.lookup a = none := by
  cases e : l.lookup a with
  | none => rfl
  | some o => rw [n a o e] at h; cases h
theorem not_in_ext (n : InC l H) (h : H a = some u) (hu : ∀ φ, u ≠ .ext φ) : l.lookup a = none := by
  cases e : l.lookup a with
  | none => rfl
  | some o => rw [n a o e] at h; exact absurd (Option.some.inj h).symm (hu _)
theorem Ex.onC (e : Ex G H) : Ex (EE.onC l G) (EE.onC l H) := fun a u h => by
  cases q : l.lookup a with
  | none => rw [on_no q] at h ⊢; exact e a u h
  | some o => rw [on_at q] at h ⊢; exact h
theorem Ex.offC (e : Ex G H) : Ex (EE.offC l G) (EE.offC l H) := fun a u h => by
  cases q : l.lookup a with
  | none => rw [off_no q] at h ⊢; exact e a u h
  | some o => rw [off_at q] at h; cases h
theorem Stt.onC (S : Stt G H L) (n : NoC l H) : Stt (EE.onC l G) (EE.onC l H) L where
  ex := Ex.onC S.ex
  has := fun p hp => by rw [on_no (not_in n (S.has p hp))]; exact S.has p hp
  out := fun p hp => by rw [on_no (not_in n (S.has p hp))]; exact S.out p hp
  nd := S.nd
theorem Stt.offC (S : Stt G H L) (n : ∀ p, p ∈ L → l.lookup p.1 = none) : Stt (EE.offC l G) (EE.offC l H) L where
  ex := Ex.offC S.ex
  has := fun p hp => by rw [off_no (n p hp)]; exact S.has p hp
  out := fun p hp => by rw [off_no (n p hp)]; exact S.out p hp
  nd := S.nd
end
/-! ### what a run with the cells told says without, and back -/
section
variable {P : Program} {w : World} {fs : List Addr} {l : Cells} {H H2 : Hp} {h h2 B : Heap} {outer : List Env} {s s' : Shared} {u : Value} {Q : VK} {E : XK}
theorem un_on (hi : InC l H) (hc : ∀ a o, l.lookup a = some o → h.get? a = some o ∧ a ∉ fs) (un : Un fs [] (offC l H) H2 h h2) : Un fs [] H (onC l H2) h h2 where
  keep := fun b o e n hb hx => un.keep b o e (by
    cases q : l.lookup b with
    | none => rw [off_no q]; exact n
    | some _ => exact off_at q) hb hx
  slot := fun b o e n hb hx => un.slot b o e (by
    cases q : l.lookup b with
    | none => rw [off_no q]; exact n
    | some _ => exact off_at q) hb hx
  free := fun b o e n hx => by
    cases q : l.lookup b with
    | none => rw [on_no q]; exact un.free b o e (by rw [off_no q]; exact n) hx
    | some x => rw [hi b x q] at n; cases n
  there := un.there
  tups := fun b xs e => by
    have q := not_in_ext hi e (fun _ z => by cases z)
    rw [on_no q]
    exact un.tups b xs (by rw [off_no q]; exact e)
  frzs := fun b o x e => by
    have q := not_in_ext hi e (fun _ z => by cases z)
    rw [on_no q]
    exact un.frzs b o x (by rw [off_no q]; exact e)
  tbls := fun b ps e => by
    have q := not_in_ext hi e (fun _ z => by cases z)
    rw [on_no q]
    exact un.tbls b ps (by rw [off_no q]; exact e)
theorem objOk_move {H H' : Hp} {h : Heap} {a : Addr} (m : ∀ b u, (∀ φ, u ≠ .ext φ) → H b = some u → H' b = some u) : ∀ (o : HO), ObjOk P w H h a o → ObjOk P w H' h a o
  | .dT _, ⟨h1, h2, xs, h3, h4⟩ => ⟨h1, h2, xs, Paired.mono (fun _ _ ⟨p1, p2, p3⟩ => ⟨p1, m _ _ (fun _ z => by cases z) p2, p3⟩) h3, h4⟩
  | .ins _ _ _, ⟨h1, h2⟩ => ⟨m _ _ (fun _ z => by cases z) h1, h2⟩
  | .frz _ u, ⟨h1, h2⟩ => ⟨h1, objOk_move m u h2⟩
  | .lst _, h => h
  | .tup _, h => h
  | .dK _, h => h
  | .set _ _, h => h
  | .own _, h => h
  | .xd _, h => h
  | .rng _ _, h => h
  | .tbl _, h => h
  | .met _ _, h => h
  | .ext _, h => h
theorem hok_on (n : NoC l H2) (hk : HOk P w H2 h2) (hc : ∀ a o, l.lookup a = some o → h2.get? a = some o) : HOk P w (onC l H2) h2 := fun a x e => by
  cases q : l.lookup a with
  | none =>
    rw [on_no q] at e
    exact objOk_move (fun b u _ z => by rw [on_no (not_in n z)]; exact z) x (hk a x e)
  | some o =>
    rw [on_at q] at e
    cases e
    exact ⟨hc a o q, ⟨o, hc a o q⟩, fun _ _ z k => k _ z⟩
theorem hok_off (n : InC l H2) (hk : HOk P w H2 h2) : HOk P w (offC l H2) h2 := fun a x e => objOk_move (fun b u nx z => by rw [off_no (not_in_ext n z nx)]; exact z) x (hk a x (off_some e))
theorem ce_on (hi : InC l H) (hc : ∀ a o, l.lookup a = some o → s.heap.get? a = some o ∧ a ∉ frs outer) (c : CE outer P w (offC l H) s (fun v H2 => NoC l H2 → Q v (onC l H2)) u s') : CE outer P w H s Q u s' := by
  obtain ⟨v, H2, os, bare, un, hk, r, q⟩ := c
  have n2 : NoC l H2 := fun a o e => un.free a o (hc a o e).1 (off_at e) (by simp)
  exact ⟨v, onC l H2, os, bare, un_on hi hc un, hok_on n2 hk fun a o e => un.keep a o (hc a o e).1 (off_at e) (hc a o e).2 (by simp), r, q n2⟩
theorem cx_on (hi : InC l H) (hc : ∀ a o, l.lookup a = some o → s.heap.get? a = some o ∧ a ∉ frs outer) (c : L2.CX P w outer (offC l H) s (fun cls d H2 => NoC l H2 → E cls d (onC l H2)) u s') : L2.CX P w outer H s E u s' := by
  obtain ⟨a, B, H2, cls, d, ea, fl, hk, ub, na, os, ag, he⟩ := c
  have kp : ∀ a o, l.lookup a = some o → B.get? a = some o := fun a o e => ub.keep a o (hc a o e).1 (off_at e) (hc a o e).2
  have nl : l.lookup a = none := by
    cases q : l.lookup a with
    | none => rfl
    | some o =>
      have z := fl.2.1
      rw [kp a o q] at z
      cases z
  have na' : NoC l H2 := fun a o e => ub.free a o (hc a o e).1 (off_at e)
  refine ⟨a, B, onC l H2, cls, d, ea, fl, hok_on na' hk kp, ⟨fun b o e n hb => ?_, ub.slot, fun b o e n => ?_, ub.there, fun b xs e => ?_, fun b o x e => ?_, fun b ps e => ?_⟩, by rw [on_no nl]; exact na, os, ag, he na'⟩
  · cases q : l.lookup b with
    | none => exact ub.keep b o e (by rw [off_no q]; exact n) hb
    | some x => rw [hi b x q] at n; cases n
  · cases q : l.lookup b with
    | none => rw [on_no q]; exact ub.free b o e (by rw [off_no q]; exact n)
    | some x => rw [hi b x q] at n; cases n
  · have q := not_in_ext hi e (fun _ z => by cases z)
    rw [on_no q]
    exact ub.tups b xs (by rw [off_no q]; exact e)
  · have q := not_in_ext hi e (fun _ z => by cases z)
    rw [on_no q]
    exact ub.frzs b o x (by rw [off_no q]; exact e)
  · have q := not_in_ext hi e (fun _ z => by cases z)
    rw [on_no q]
    exact ub.tbls b ps (by rw [off_no q]; exact e)
theorem cr_on (hi : InC l H) (hc : ∀ a o, l.lookup a = some o → s.heap.get? a = some o ∧ a ∉ frs outer) {r : Result} (c : CR (L2.CX P w) outer P w (offC l H) s (fun v H2 => NoC l H2 → Q v (onC l H2)) (fun cls d H2 => NoC l H2 → E cls d (onC l H2)) r s') : CR (L2.CX P w) outer P w H s Q E r s' := by
  cases r with
  | error e => exact cx_on hi hc c
  | ok fl => cases fl <;> first | exact ce_on hi hc c | exact False.elim c
theorem un_off (n : NoC l H) (hi : InC l H2) (hk : HOk P w H2 h2) (hc : ∀ a o, l.lookup a = some o → h.get? a = some o) (un : Un fs [] (onC l H) H2 h h2) : Un fs [] H (offC l H2) h h2 := by
  have same : ∀ {b : Addr} {o x : Obj}, l.lookup b = some x → h.get? b = some o → h2.get? b = some o := fun {b o x} q e => by
    have z : h2.get? b = some x := (show ObjOk P w H2 h2 b (cO b x) from hk b _ (hi b x q)).1
    rw [hc b x q] at e
    cases e
    exact z
  refine ⟨fun b o e m hb hx => ?_, fun b o e m hb hx => ?_, fun b o e m hx => ?_, un.there, fun b xs e => ?_, fun b o x e => ?_, fun b ps e => ?_⟩
  · cases q : l.lookup b with
    | none => exact un.keep b o e (by rw [on_no q]; exact m) hb hx
    | some x => exact same q e
  · cases q : l.lookup b with
    | none => exact un.slot b o e (by rw [on_no q]; exact m) hb hx
    | some x => exact ⟨o.slots, same q e⟩
  · cases q : l.lookup b with
    | none => rw [off_no q]; exact un.free b o e (by rw [on_no q]; exact m) hx
    | some x => exact off_at q
  · have q := not_in n e
    rw [off_no q]
    exact un.tups b xs (by rw [on_no q]; exact e)
  · have q := not_in n e
    rw [off_no q]
    exact un.frzs b o x (by rw [on_no q]; exact e)
  · have q := not_in n e
    rw [off_no q]
    exact un.tbls b ps (by rw [on_no q]; exact e)
theorem ce_off (n : NoC l H) (hc : ∀ a o, l.lookup a = some o → s.heap.get? a = some o) (c : CE outer P w (onC l H) s (fun v H2 => InC l H2 ∧ Q v (offC l H2)) u s') : CE outer P w H s Q u s' := by
  obtain ⟨v, H2, os, bare, un, hk, r, hi, q⟩ := c
  exact ⟨v, offC l H2, os, bare, un_off n hi hk hc un, hok_off hi hk, r, q⟩
end
/-! ### callable from anywhere -/
/-- f may be called (no arguments) wherever what tl says holds -/
def CanH (P : Program) (w : World) (K : PySem.W.Frag) (mg : Str → Option Value) (base : Heap) (k : Nat) (f : Addr) (tl : XK → Hp → VK → Prop) : Prop :=
  ∀ (A : Around) (outer : List Env) (s : Shared) (H : Hp) (Q : VK) (E : XK), Room k A → Env0 P w K mg base A outer s H → tl E H Q → PySem.W.FnAt f s.heap ∧ codeAny (model P w) A (.call (.ref f) ⟨[], []⟩) (CR (L2.CX P w) outer P w H s Q E) s
theorem CanH.can {P : Program} {w : World} {K : PySem.W.Frag} {mg : Str → Option Value} {base : Heap} {k : Nat} {f : Addr} {tl : XK → Hp → VK → Prop} (c : CanH P w K mg base k f tl) (outer : List Env) (s : Shared) (H : Hp) : CanCall P w K mg base k outer s H f tl :=
  fun A outer' s' H' Q E hr e0 _ h => c A outer' s' H' Q E hr e0 h
/-- what the i-th lambda tells, the cells told -/
def lamTl (lw : LamW) (l : Cells) (i : Nat) (tb : XK → TE) (σ : L2.St) (f : Addr) : XK → Hp → VK → Prop := fun E H Q =>
  InC l H ∧ LamAt lw i (offC l H) f ∧ tb (fun cls d H2 => NoC l H2 → E cls d (onC l H2)) σ (offC l H) fun v H2 => NoC l H2 → Q v (onC l H2)
/-- l: X's cells at s -/
structure CellsOf (X : Cx) (s : Shared) (l : Cells) : Prop where
  has : ∀ y c, X.env.cells.lookup y = some c → ∃ o, l.lookup c = some o ∧ s.heap.get? c = some o
  at_ : ∀ c o, l.lookup c = some o → s.heap.get? c = some o ∧ (∃ v, o.data = .cell v) ∧ ∃ y, X.env.cells.lookup y = some c
section
variable {X : Cx} {pins : List (Addr × Obj)} {σ : L2.St} {H : Hp} {s : Shared} {T : LamTx} {i k : Nat} {l : Cells}
theorem lk_mem : ∀ {l : Cells} {a : Addr} {o : Obj}, l.lookup a = some o → (a, o) ∈ l
  | [], _, _, h => nomatch h
  | (b, x) :: l, a, o, h => by
    rw [List.lookup_cons] at h
    cases e : (a == b) with
    | true =>
      rw [e] at h
      cases h
      obtain rfl : a = b := eq_of_beq e
      exact List.mem_cons_self ..
    | false =>
      rw [e] at h
      exact List.mem_cons_of_mem _ (lk_mem h)
theorem lk_of_mem : ∀ {l : Cells} {a : Addr} {o : Obj}, (a, o) ∈ l → ∃ o', l.lookup a = some o'
  | [], _, _, h => nomatch h
  | (b, x) :: l, a, o, h => by
    rw [List.lookup_cons]
    cases e : (a == b) with
    | true => exact ⟨_, rfl⟩
    | false =>
      rcases (List.mem_cons.mp h) with z | z
      · have z : a = b := congrArg Prod.fst z
        rw [z, beq_self_eq_true] at e
        cases e
      · exact lk_of_mem z
/-- the cells, listed -/
theorem cells_of (I : Inv X pins σ H s) : ∃ l, CellsOf X s l := by
  let g : Str × Addr → Option (Addr × Obj) := fun p => if X.env.cells.lookup p.1 = some p.2 then (s.heap.get? p.2).map (fun o => (p.2, o)) else none
  have mem : ∀ {c o}, (c, o) ∈ X.env.cells.filterMap g → s.heap.get? c = some o ∧ (∃ v, o.data = .cell v) ∧ ∃ y, X.env.cells.lookup y = some c := fun {c o} h => by
    obtain ⟨⟨y, c'⟩, _, e⟩ := List.mem_filterMap.mp h
    by_cases q : X.env.cells.lookup y = some c'
    · have e : (if X.env.cells.lookup y = some c' then (s.heap.get? c').map (fun o => (c', o)) else none) = some (c, o) := e
      rw [if_pos q] at e
      obtain ⟨o', e1, e2⟩ := Option.map_eq_some_iff.mp e
      cases e2
      obtain ⟨v, o2, ho, hd⟩ := I.cell y c q
      rw [e1] at ho
      cases ho
      exact ⟨e1, ⟨v, hd⟩, y, q⟩
    · have e : (if X.env.cells.lookup y = some c' then (s.heap.get? c').map (fun o => (c', o)) else none) = some (c, o) := e
      rw [if_neg q] at e
      cases e
  refine ⟨X.env.cells.filterMap g, fun y c e => ?_, fun c o e => mem (lk_mem e)⟩
  obtain ⟨v, o, ho, hd⟩ := I.cell y c e
  have hm : (c, o) ∈ X.env.cells.filterMap g := List.mem_filterMap.mpr ⟨(y, c), PySem.mem_of_lookup e, by
    show (if X.env.cells.lookup y = some c then (s.heap.get? c).map (fun o => (c, o)) else none) = some (c, o)
    rw [if_pos e, ho]; rfl⟩
  obtain ⟨o', e'⟩ := lk_of_mem hm
  have z : some o = some o' := ho.symm.trans (mem (lk_mem e')).1
  exact ⟨o, by rw [e', ← z], ho⟩
theorem env0_off {P : Program} {w : World} {K : PySem.W.Frag} {mg : Str → Option Value} {base : Heap} {A : Around} {outer : List Env} (hi : InC l H) (e0 : Env0 P w K mg base A outer s H) : Env0 P w K mg base A outer s (offC l H) :=
  have no : ∀ {b : Addr}, H b = none → offC l H b = none := fun {b} n => by
    cases q : l.lookup b with
    | none => rw [off_no q]; exact n
    | some _ => exact off_at q
  ⟨e0.frames, e0.mod, fun b o e => ⟨(e0.bs b o e).1, no (e0.bs b o e).2⟩, e0.bsz, e0.funs, fun b hb => no (e0.frf b hb), hok_off hi e0.hok, e0.bare⟩
theorem can_lamH {mk : List Nat} {lw : LamW} {tb : XK → TE} (I : Inv X pins σ H s) (cl : CellsOf X s l) (L : LamN X.N X.env.scope T mk) (ho : lw.o i = lamO X T) (hd : lw.d i = T.dflt) (hq : lw.q = X.env.qual ++ "<lambda>") {f : Addr}
    (hbody : ∀ (A : Around) (outer : List Env) (s : Shared) (H : Hp) (E : XK) (f c : Addr), Room k (A.deeper (LamX.lamEnv X T.scope s.heap.objs.size f c)) → PE (LamX.lamCx X A outer s H E T.scope f c) T.body (tb E)) :
    CanH X.prog X.w X.K X.mg X.base (k + 1) f (lamTl lw l i tb (wipe σ mk) f) := by
  intro A outer' s' H' Q E hr e0 ⟨hi, la, ht⟩
  have at' : ∀ c o, l.lookup c = some o → s'.heap.get? c = some o := fun c o e => (show ObjOk X.prog X.w H' s'.heap c (cO c o) from e0.hok c _ (hi c o e)).1
  have ck : CellsKept X s (offC l H') s' := fun y c e => by
    obtain ⟨o, e1, e2⟩ := cl.has y c e
    refine ⟨fun o' ho' => ?_, off_at e1⟩
    rw [e2] at ho'
    cases ho'
    exact ⟨_, at' c o e1⟩
  obtain ⟨fa, run⟩ := run_lam I L ho hd hq hbody hr (env0_off hi e0) ck la ht
  refine ⟨fa, codeAny_mono run fun r s2 c => cr_on hi (fun c o e => ⟨at' c o e, fun hm => ?_⟩) c⟩
  have z := e0.frf c hm
  rw [hi c o e] at z
  cases z
end

/-! The law's tries: a def that tries each of a list of lambdas. -/
abbrev CnT := Addr → (XK → Hp → VK → Prop) → Prop
def sp_try (K : PySem.W.Frag) (Cn : CnT) : Sp := fun vs H Q _ => ∃ f tl, vs = [.ref f] ∧ Cn f tl ∧ rTry K f tl H Q
def sp_tries (K : PySem.W.Frag) (Cn : CnT) : Sp := fun vs H Q _ => ∃ (a : Addr) (fs : List Addr) (ds : List PyData) (G : Hp) (L : List (Addr × HO)), vs = [.ref a] ∧ Stt G H L ∧ SqL K G a (fs.map V.ref) ∧ fs.length = ds.length ∧ fs.length < 1000 ∧
  (∀ (i : Nat) (f : Addr) (d : PyData), fs[i]? = some f → ds[i]? = some d → ∃ tl, Cn f tl ∧ ∀ (G1 H1 : Hp) (D : Addr) (acc : List V) (Q1 : VK), Ex G G1 → Stt G1 H1 ((D, .lst acc) :: L) → (∀ p G2 H2, Ex G1 G2 → Stt G2 H2 ((D, .lst acc) :: L) → Dp K G2 (.ref p) d → Q1 (.ref p) H2) → rTry K f tl H1 Q1) ∧
  ∀ p G' H', Ex G G' → Stt G' H' L → Dp K G' (.ref p) (.list ds) → Q (.ref p) H'
/-- the lambdas of a def, so many of them -/
def LamsOk (X : Cx) (lw : LamW) (j n : Nat) (tbs : Nat → XK → TE) (mk : List Nat) : Prop := ∀ i, i < n → ∃ T : LamTx, LamN X.N X.env.scope T mk ∧ lw.o i = lamO X T ∧ lw.d i = T.dflt ∧
  ∀ (A : Around) (outer : List Env) (s : Shared) (H : Hp) (E : XK) (f c : Addr), Room j (A.deeper (LamX.lamEnv X T.scope s.heap.objs.size f c)) → PE (LamX.lamCx X A outer s H E T.scope f c) T.body (tbs i E)
/-- tries([lambda .., ..]): while it runs the cells are told -/
def tTriesC (K : PySem.W.Frag) (lw : LamW) (n : Nat) (tbs : Nat → XK → TE) (mk : List Nat) (ta : TA) : TE := fun σ H Q => ta σ H fun vs H1 => ∀ (Cn : CnT) (l : Cells), NoC l H1 → (∀ i, i < n → ∀ f, Cn f (lamTl lw l i (tbs i) (wipe σ mk) f)) →
  sp_tries K Cn (vs ++ []) (onC l H1) (fun v H2 => InC l H2 ∧ Q v (offC l H2)) E0
section
variable {X : Cx} {pins : List (Addr × Obj)} {σ : L2.St} {H : Hp} {s : Shared} {l : Cells}
theorem cell_apart (I : Inv X pins σ H s) (cl : CellsOf X s l) (hfn : ∀ y, X.fn y = true) {c : Addr} {o : Obj} (e : l.lookup c = some o) : c ∉ frs X.stack ∧ X.base.get? c = none := by
  obtain ⟨ho, ⟨v, hv⟩, y, ey⟩ := cl.at_ c o e
  have big := I.ok.cab y c (hfn y) ey
  have out : c ∉ frs X.outer := fun hm => by
    obtain ⟨_, o', e', _⟩ := I.ok.funs.mem hm
    exact absurd (Heap.lt_size e') (Nat.not_lt.mpr big)
  refine ⟨fun hm => ?_, ?_⟩
  · rcases I.ok.stk with z | ⟨z, hf⟩
    · rw [z] at hm; exact out hm
    · rw [z] at hm
      obtain ⟨en, hen, q⟩ := List.mem_filterMap.mp hm
      rcases List.mem_cons.mp hen with rfl | hen
      · rw [hf] at q
        have q : X.env.locals = c := Option.some.inj q
        obtain ⟨m, hn, _⟩ := I.loc
        obtain ⟨o', es, ep, ho', hd', _⟩ := hn
        rw [q, ho] at ho'
        cases ho'
        rw [hv] at hd'
        cases hd'
      · exact out (List.mem_filterMap.mpr ⟨en, hen, q⟩)
  · cases q : X.base.get? c with
    | none => rfl
    | some x => exact absurd (Nat.lt_of_lt_of_le (Heap.lt_size q) I.ok.bsz) (Nat.not_lt.mpr big)
theorem env0_on (I : Inv X pins σ H s) (cl : CellsOf X s l) (nc : NoC l H) (hfn : ∀ y, X.fn y = true) : Env0 X.prog X.w X.K X.mg X.base X.A X.stack s (onC l H) :=
  have e0 := I.env0
  ⟨e0.frames, e0.mod, fun b o e => ⟨(e0.bs b o e).1, by
    cases q : l.lookup b with
    | none => rw [on_no q]; exact (e0.bs b o e).2
    | some x => rw [(cell_apart I cl hfn q).2] at e; cases e⟩, e0.bsz, e0.funs, fun b hb => by
    cases q : l.lookup b with
    | none => rw [on_no q]; exact e0.frf b hb
    | some x => exact absurd hb (cell_apart I cl hfn q).1, hok_on nc e0.hok fun a o e => (cl.at_ a o e).1, e0.bare⟩
theorem pe_triesC {lw : LamW} {j n k kk : Nat} {cl : Addr} {tbs : Nat → XK → TE} {mk : List Nat} {x : Str} {p pos : Pos} {e : Expr} {es : List Expr} {ta : TA} (c : C8.Cal X.prog X.w X.K X.mg X.base k x (sp_tries X.K (CanH X.prog X.w X.K X.mg X.base (j + 1))) []) (LX : LamX1 X lw cl) (LS : LamsOk X lw j n tbs mk) (hfn : ∀ y, X.fn y = true) (hr : Room kk X.A) (hk : k ≤ kk) (hg : Gl X x)
    (ha : PA X (e :: es) ta) (hdb : (x == ("__debug__" : Str)) = false := by decide) (he : starEach (e :: es) X.env = (false, eval e X.env) :: starEach es X.env := by rfl) (hpl : (backTo pos (starEach es X.env)).any (·.1) = false := by rfl) :
    PE X (.Call (.Name x p) (e :: es) [] pos) (tTriesC X.K lw n tbs mk ta) := by
  have ⟨f, fd, ps, dvs', F, hm, kp, b, dv⟩ := c
  refine ⟨fun pins s σ H Q I h => wpAny_Call_Name_kw (ld_glob I hg hm ?_ hdb)⟩
  refine PySem.W.callWith_K (h₀ := X.base) I.ok.mod.kin kp (thn (ha.run pos pins s σ H _ I h) fun us s1 ⟨vs, H1, I1, r, q⟩ => ⟨I1.kIn, ?_⟩) he hpl
  obtain ⟨l, cl⟩ := cells_of I1
  have nc : NoC l H1 := fun a o e => have ⟨_, _, y, ey⟩ := cl.at_ a o e; I1.freeC y a ey
  have q' := q _ l nc fun i hi f => have ⟨T, L, ho, hd, hb⟩ := LS i hi; can_lamH I1 cl L ho hd LX.q hb
  cases dv
  rw [List.append_nil] at q'
  have hl : us.length = ps.length := by rw [← r.length]; exact F.len _ _ _ _ q'
  have bi := b s1 us I1.kIn (by rw [List.append_nil]; exact hl)
  rw [List.append_nil] at bi
  refine wpAny_call (codeAny_mono (F.run X.A X.stack s1 (onC l H1) ⟨us, []⟩ us vs _ E0 (hr.mono hk) (env0_on I1 cl nc hfn) bi r q') fun r2 s' hq => ?_)
  cases r2 with
  | error x => exact False.elim hq
  | ok fl =>
    cases fl with
    | ret u => exact I1.after (ce_off nc (fun a o e => (cl.at_ a o e).1) hq)
    | next => exact False.elim hq
    | brk => exact False.elim hq
    | cont => exact False.elim hq
end

/-! The lambdas of a def, one by one. -/
def LamOne (X : Cx) (lw : LamW) (j i : Nat) (tb : XK → TE) (mk : List Nat) : Prop := ∃ T : LamTx, LamN X.N X.env.scope T mk ∧ lw.o i = lamO X T ∧ lw.d i = T.dflt ∧
  ∀ (A : Around) (outer : List Env) (s : Shared) (H : Hp) (E : XK) (f c : Addr), Room j (A.deeper (LamX.lamEnv X T.scope s.heap.objs.size f c)) → PE (LamX.lamCx X A outer s H E T.scope f c) T.body (tb E)
section
variable {X : Cx} {lw : LamW} {j n : Nat} {tbs : Nat → XK → TE} {mk : List Nat}
theorem lams_nil : LamsOk X lw j 0 tbs mk := fun i hi => absurd hi (Nat.not_lt_zero _)
theorem lams_snoc (h : LamsOk X lw j n tbs mk) (x : LamOne X lw j n (tbs n) mk) : LamsOk X lw j (n + 1) tbs mk := fun i hi => by
  by_cases c : i < n
  · exact h i c
  · obtain rfl : i = n := by omega
    exact x
end

end EE
namespace Q09
open PySem PySem.Spec PyProof.Rows L2 Evl RZ EE
def topS (i : Nat) : Stmt := PySem.Challenge.pw_eachentry_k09_paths_of_schemas.main.body.getD i (.Pass ⟨0, 0, 0, 0⟩)
abbrev s_is_name : Stmt := topS 12
theorem sc_is_name : FnScope ["value", "letter"] ["value"] (defScope s_is_name) := ⟨rfl, rfl, rfl, by decide +kernel, rfl, by decide +kernel, by decide +kernel⟩
abbrev s_top_words : Stmt := topS 13
theorem sc_top_words : FnScope ["text", "found", "word", "deep", "sign"] ["text"] (defScope s_top_words) := ⟨rfl, rfl, rfl, by decide +kernel, rfl, by decide +kernel, by decide +kernel⟩
abbrev s_is_fields : Stmt := topS 18
theorem sc_is_fields : FnScope ["value", "name"] ["value"] (defScope s_is_fields) := ⟨rfl, rfl, rfl, by decide +kernel, rfl, by decide +kernel, by decide +kernel⟩
abbrev s_Schema_init : Stmt := inClass (topS 19) 0
theorem sc_Schema_init : FnScope ["self", "fields", "lists", "used", "at", "pair"] ["self", "fields", "lists"] (defScope s_Schema_init) := ⟨rfl, rfl, rfl, by decide +kernel, rfl, by decide +kernel, by decide +kernel⟩
abbrev s_Schema_eq : Stmt := inClass (topS 19) 1
theorem sc_Schema_eq : FnScope ["self", "other"] ["self", "other"] (defScope s_Schema_eq) := ⟨rfl, rfl, rfl, by decide +kernel, rfl, by decide +kernel, by decide +kernel⟩
abbrev s_Schema_depth : Stmt := inClass (topS 19) 3
theorem sc_Schema_depth : FnScope ["self", "name", "inner"] ["self"] (defScope s_Schema_depth) := ⟨rfl, rfl, rfl, by decide +kernel, rfl, by decide +kernel, by decide +kernel⟩
abbrev s_Schema_lists : Stmt := inClass (topS 19) 4
theorem sc_Schema_lists : FnScope ["self"] ["self"] (defScope s_Schema_lists) := ⟨rfl, rfl, rfl, by decide +kernel, rfl, by decide +kernel, by decide +kernel⟩
abbrev s_Schema_level : Stmt := inClass (topS 19) 5
theorem sc_Schema_level : FnScope ["self", "path", "found"] ["self", "path"] (defScope s_Schema_level) := ⟨rfl, rfl, rfl, by decide +kernel, rfl, by decide +kernel, by decide +kernel⟩
abbrev s_Schema_is_field : Stmt := inClass (topS 19) 6
theorem sc_Schema_is_field : FnScope ["self", "path", "head", "dot", "name", "found"] ["self", "path"] (defScope s_Schema_is_field) := ⟨rfl, rfl, rfl, by decide +kernel, rfl, by decide +kernel, by decide +kernel⟩
abbrev s_Schema_text : Stmt := inClass (topS 19) 7
theorem sc_Schema_text : FnScope ["self", "name", "inner"] ["self"] (defScope s_Schema_text) := ⟨rfl, rfl, rfl, by decide +kernel, rfl, by decide +kernel, by decide +kernel⟩
abbrev s_Schema_read : Stmt := inClass (topS 19) 8
theorem sc_Schema_read : FnScope ["text"] ["text"] (defScope s_Schema_read) := ⟨rfl, rfl, rfl, by decide +kernel, rfl, by decide +kernel, by decide +kernel⟩
abbrev s_is_list : Stmt := topS 20
theorem sc_is_list : FnScope ["pair", "used"] ["pair", "used"] (defScope s_is_list) := ⟨rfl, rfl, rfl, by decide +kernel, rfl, by decide +kernel, by decide +kernel⟩
abbrev s_inner_of : Stmt := topS 21
theorem sc_inner_of : FnScope ["schema", "name", "known", "inner"] ["schema", "name"] (defScope s_inner_of) := ⟨rfl, rfl, rfl, by decide +kernel, rfl, by decide +kernel, by decide +kernel⟩
abbrev s_level_of : Stmt := topS 22
theorem sc_level_of : FnScope ["schema", "path", "found", "name"] ["schema", "path"] (defScope s_level_of) := ⟨rfl, rfl, rfl, by decide +kernel, rfl, by decide +kernel, by decide +kernel⟩
abbrev s_read_part : Stmt := topS 23
theorem sc_read_part : FnScope ["text", "deep", "name", "bracket", "rest"] ["text", "deep"] (defScope s_read_part) := ⟨rfl, rfl, rfl, by decide +kernel, rfl, by decide +kernel, by decide +kernel⟩
abbrev s_read_level : Stmt := topS 24
theorem sc_read_level : FnScope ["text", "deep", "words", "fields", "lists", "word"] ["text", "deep"] (defScope s_read_level) := ⟨rfl, rfl, rfl, by decide +kernel, rfl, by decide +kernel, by decide +kernel⟩
abbrev s_read_schema : Stmt := topS 25
theorem sc_read_schema : FnScope ["text", "found"] ["text"] (defScope s_read_schema) := ⟨rfl, rfl, rfl, by decide +kernel, rfl, by decide +kernel, by decide +kernel⟩
abbrev s_open : Stmt := topS 27
theorem sc_open : FnScope ["_law_script"] ["_law_script"] (defScope s_open) := ⟨rfl, rfl, rfl, by decide +kernel, rfl, by decide +kernel, by decide +kernel⟩
abbrev s_draw : Stmt := topS 28
theorem sc_draw : FnScope ["_law_bag", "_law_many", "_law_cell", "_law_digit", "_law_seed"] ["_law_bag", "_law_many"] (defScope s_draw) := ⟨rfl, rfl, rfl, by decide +kernel, rfl, by decide +kernel, by decide +kernel⟩
abbrev s_ofS : Stmt := topS 29
theorem sc_ofS : FnScope ["_law_bag", "_law_things"] ["_law_bag", "_law_things"] (defScope s_ofS) := ⟨rfl, rfl, rfl, by decide +kernel, rfl, by decide +kernel, by decide +kernel⟩
abbrev s_like : Stmt := topS 30
theorem sc_like : FnScope ["_law_found", "_law_due", "_law_one", "_law_other"] ["_law_found", "_law_due"] (defScope s_like) := ⟨rfl, rfl, rfl, by decide +kernel, rfl, by decide +kernel, by decide +kernel⟩
abbrev s_field : Stmt := topS 31
theorem sc_field : FnScope ["_law_e"] ["_law_e"] (defScope s_field) := ⟨rfl, rfl, rfl, by decide +kernel, rfl, by decide +kernel, by decide +kernel⟩
abbrev s_try : Stmt := topS 32
theorem sc_try : FnScope ["_law_ask", "_law_e"] ["_law_ask"] (defScope s_try) := ⟨rfl, rfl, rfl, by decide +kernel, rfl, by decide +kernel, by decide +kernel⟩
abbrev s_names : Stmt := topS 33
theorem sc_names : FnScope ["_law_bag", "_law_many", "_law_marks", "_law_found", "_law_stem", "_law_at", "_law_near", "_law_k", "_law_mark", "_law_tail", "_law_j"] ["_law_bag", "_law_many"] (defScope s_names) := ⟨rfl, rfl, rfl, by decide +kernel, rfl, by decide +kernel, by decide +kernel⟩
abbrev s_level : Stmt := topS 34
theorem sc_level : FnScope ["_law_bag", "_law_fields", "_law_inner_here", "_law_names_here", "_law_many", "_law_name", "_law_level_here"] ["_law_bag", "_law_fields", "_law_inner_here"] (defScope s_level) := ⟨rfl, rfl, rfl, by decide +kernel, rfl, by decide +kernel, by decide +kernel⟩
abbrev s_some_level : Stmt := topS 35
theorem sc_some_level : FnScope ["_law_bag", "_law_shape", "_law_fields", "_law_deep", "_law_flat", "_law_inner_here"] ["_law_bag", "_law_shape", "_law_fields"] (defScope s_some_level) := ⟨rfl, rfl, rfl, by decide +kernel, rfl, by decide +kernel, by decide +kernel⟩
abbrev s_level_text : Stmt := topS 36
theorem sc_level_text : FnScope ["_law_level_here", "_law_words", "_law_name", "_law_inner_here"] ["_law_level_here"] (defScope s_level_text) := ⟨rfl, rfl, rfl, by decide +kernel, rfl, by decide +kernel, by decide +kernel⟩
abbrev s_schema : Stmt := topS 37
theorem sc_schema : FnScope ["_law_level_here"] ["_law_level_here"] (defScope s_schema) := ⟨rfl, rfl, rfl, by decide +kernel, rfl, by decide +kernel, by decide +kernel⟩
abbrev s_lists : Stmt := topS 38
theorem sc_lists : FnScope ["_law_level_here", "_law_found", "_law_name", "_law_inner_here", "_law_more"] ["_law_level_here"] (defScope s_lists) := ⟨rfl, rfl, rfl, by decide +kernel, rfl, by decide +kernel, by decide +kernel⟩
abbrev s_inner : Stmt := topS 39
theorem sc_inner : FnScope ["_law_level_here", "_law_names_here", "_law_name", "_law_known", "_law_inner_here"] ["_law_level_here", "_law_names_here"] (defScope s_inner) := ⟨rfl, rfl, rfl, by decide +kernel, rfl, by decide +kernel, by decide +kernel⟩
abbrev s_paths : Stmt := topS 40
theorem sc_paths : FnScope ["_law_level_here", "_law_found", "_law_names_here", "_law_field_here"] ["_law_level_here"] (defScope s_paths) := ⟨rfl, rfl, rfl, by decide +kernel, rfl, by decide +kernel, by decide +kernel⟩
abbrev s_law : Stmt := topS 41
theorem sc_law : FnScope ["_law_script", "_law_bag", "_law_turn", "_law_level_here", "_law_schema_here", "_law_lists_here", "_law_names_here", "_law_due", "_law_paths_here", "_law_heads", "_law_base", "_law_near", "_law_late", "_law_found", "_law_odd", "_law_path_z"] ["_law_script"] (defScope s_law) := ⟨rfl, rfl, rfl, by decide +kernel, rfl, by decide +kernel, by decide +kernel⟩
section
variable {base : Heap} {P : Program} {w : World} {mg : Str → Option Value} {K : PySem.W.Frag} [CK_WORDS : Consts K] [SK_Schema : SchK K] [NK_Schema : KitN K]
theorem cal_is_name {f : Addr} {fd : FuncData} (F : Fun K "is_name" "is_name" s_is_name f fd) (g : mg "is_name" = some (.ref f)) (m_isinstance : mg "isinstance" = none) (m_str : mg "str" = none) (m_len : mg "len" = none) (m_all : mg "all" = none) (g_MOST_LETTERS : ∃ u, mg "MOST_LETTERS" = some u ∧ RelV v_MOST_LETTERS u) (g_WORDS : ∃ u, mg "WORDS" = some u ∧ RelV (v_WORDS K) u) (g_LETTERS : ∃ u, mg "LETTERS" = some u ∧ RelV v_LETTERS u) : C8.Cal P w K mg base 1 "is_name" (sp_is_name K) [] := by
  have G : FnOk P w K mg base CX0 (0 + 1) f fd ["value"] (sp_is_name K) := by
    refine F.ok sc_is_name (fun vs H Q E h => (sat_is_name h).1) (fun cdv A outer s H vs Q E hr h => ?_)
    have nd := sc_is_name.nd
    exact ⟨_, (pss_cons (ps_if (PW.pt (pw_or (pt_not (pt_val (pe_callB cg_isi (by rfl) m_isinstance (by decide +kernel) (pa_cons (pv 0) (pa_cons (pe_bltn (v := .ty "str") (u := .type "str") (by rfl) m_str (by decide +kernel) rfl) pa_nil))))) (pw_or (pt_not (pt_chain og_le og_le pe_int (pe_callB cg_len (by rfl) m_len (by decide +kernel) (pa_cons (pv 0) pa_nil)) (C8.pe_gc (by rfl) g_MOST_LETTERS))) (pw_or1 (pt_cmpR og_in (pv 0) (C8.pe_gc (by rfl) g_WORDS) (by rfl)))))) (pss_one (ps_ret pe_bl)) pss_nil)
  (pss_one (ps_ret (pe_callB (cr_all rfl) (by rfl) m_all (by decide +kernel) (pa_cons (pe_lc (own := [("letter", 1)]) (g := (gName 1)) (tt := tYes) rfl nd (pi_str (pv 0)) (blkOk_by (N := ["value", "letter"]) (sc := defScope s_is_name) (by decide +kernel)) (fun _ _ _ _ _ => (pg_name (i := 1) nd rfl (.inl rfl))) (fun _ _ _ _ _ => pts_nil) (fun _ _ _ _ _ => (pe_cmpR og_in (pv 1) (C8.pe_gc (by rfl) g_LETTERS) (by rfl)))) pa_nil))))), (sat_is_name h).2⟩
  exact cal_mk F G g fun _ _ _ _ _ _ us hl => match us, hl with | [_], _ => rfl
theorem cal_top_words {f : Addr} {fd : FuncData} (F : Fun K "top_words" "top_words" s_top_words f fd) (g : mg "top_words" = some (.ref f)) : C8.Cal P w K mg base 1 "top_words" (sp_top_words K) [] := by
  have G : FnOk P w K mg base CX0 (0 + 1) f fd ["text"] (sp_top_words K) := by
    refine F.ok sc_top_words (fun vs H Q E h => (sat_top_words h).1) (fun cdv A outer s H vs Q E hr h => ?_)
    have nd := sc_top_words.nd
    exact ⟨_, (pss_cons (ps_if (pt_cmpR (og_eq hr.units) (pv 0) pe_str (nomark _)) (pss_one (ps_ret (pe_lst pa_nil))) pss_nil)
  (pss_cons (ps_par3 (i := 1) (j := 2) (l := 3) rfl nd rfl rfl rfl (by decide) (by decide) (by decide) rfl rfl rfl (pa_cons (pe_lst pa_nil) (pa_cons pe_str (pa_cons pe_int pa_nil))) (by rfl))
  (pss_cons (ps_for PassesOwn.never rfl (pi_str (pv 0)) (pg_name (i := 4) nd rfl (.inl rfl)) (pss_cons (ps_if (pt_cmpR og_in (pv 4) pe_str (by rfl)) (pss_one (ps_aug (i := 3) nd rfl (.inl rfl) pe_int ip_add)) (pss_one (ps_if (pt_cmpR og_in (pv 4) pe_str (by rfl)) (pss_one (ps_aug (i := 3) nd rfl (.inl rfl) pe_int ip_sub)) pss_nil)))
  (pss_one (ps_if (PW.pt (pw_and (pt_cmpR (og_eq hr.units) (pv 4) pe_str (nomark _)) (pw_and1 (pt_cmpR (og_eq hr.units) (pv 3) pe_int (nomark _))))) (pss_cons (ps_expr (pe_bm PySem.F.plainAttrs_list PySem.F.slot_list_append PySem.F.type_list_append mt_append (pv 1) (pa_cons (pv 2) pa_nil)))
  (pss_one (ps_set (i := 2) nd rfl (.inl rfl) pe_str))) (pss_one (ps_aug (i := 2) nd rfl (.inl rfl) (pv 4) in_addS))))))
  (pss_one (ps_ret (pe_op og_add (pv 1) (pe_lst (pa_cons (pv 2) pa_nil)))))))), (sat_top_words h).2⟩
  exact cal_mk F G g fun _ _ _ _ _ _ us hl => match us, hl with | [_], _ => rfl
theorem cal_is_fields {f : Addr} {fd : FuncData} (F : Fun K "is_fields" "is_fields" s_is_fields f fd) (g : mg "is_fields" = some (.ref f)) (C_is_name : C8.Cal P w K mg base 1 "is_name" (sp_is_name K) []) (m_isinstance : mg "isinstance" = none) (m_tuple : mg "tuple" = none) (m_list : mg "list" = none) (m_len : mg "len" = none) (m_all : mg "all" = none) (m_set : mg "set" = none) (g_MOST_FIELDS : ∃ u, mg "MOST_FIELDS" = some u ∧ RelV v_MOST_FIELDS u) : C8.Cal P w K mg base 2 "is_fields" (sp_is_fields K) [] := by
  have G : FnOk P w K mg base CX0 (1 + 1) f fd ["value"] (sp_is_fields K) := by
    refine F.ok sc_is_fields (fun vs H Q E h => (sat_is_fields h).1) (fun cdv A outer s H vs Q E hr h => ?_)
    have nd := sc_is_fields.nd
    exact ⟨_, (pss_cons (ps_if (PW.pt (pw_or (pt_not (pt_val (pe_callB cg_isi (by rfl) m_isinstance (by decide +kernel) (pa_cons (pv 0) (pa_cons (pe_tup (pa_cons (pe_bltn (v := .ty "list") (u := .type "list") (by rfl) m_list (by decide +kernel) rfl) (pa_cons (pe_bltn (v := .ty "tuple") (u := .type "tuple") (by rfl) m_tuple (by decide +kernel) rfl) pa_nil))) pa_nil))))) (pw_or1 (pt_not (pt_chain og_le og_le pe_int (pe_callB cg_len (by rfl) m_len (by decide +kernel) (pa_cons (pv 0) pa_nil)) (C8.pe_gc (by rfl) g_MOST_FIELDS)))))) (pss_one (ps_ret pe_bl)) pss_nil)
  (pss_one (ps_ret (pe_and (pe_callB (cr_all rfl) (by rfl) m_all (by decide +kernel) (pa_cons (pe_lc (own := [("name", 1)]) (g := (gName 1)) (tt := tYes) rfl nd (pi_seq (pv 0)) (blkOk_by (N := ["value", "name"]) (sc := defScope s_is_fields) (by decide +kernel)) (fun _ _ _ _ _ => (pg_name (i := 1) nd rfl (.inl rfl))) (fun _ _ _ _ _ => pts_nil) (fun _ _ _ _ _ => (C8.pe_c C_is_name hr (by decide) (by rfl) (pa_cons (pv 1) pa_nil)))) pa_nil)) (pe_one (pe_cmpR (og_eq hr.units) (pe_lenSetS rfl (by rfl) m_len (by rfl) m_set (pv 0)) (pe_callB cg_len (by rfl) m_len (by decide +kernel) (pa_cons (pv 0) pa_nil)) (nomark _))))))), (sat_is_fields h).2⟩
  exact cal_mk F G g fun _ _ _ _ _ _ us hl => match us, hl with | [_], _ => rfl
theorem mak_Schema_init {f : Addr} {fd : FuncData} (F : Fun K "__init__" "Schema.__init__" s_Schema_init f fd) (g : Mk K (cls_at K "Schema") f ∧ mg "Schema" = some (.ref (cls_at K "Schema"))) (C_is_fields : C8.Cal P w K mg base 2 "is_fields" (sp_is_fields K) []) (C_is_list : C8.Cal P w K mg base 20 "is_list" (sp_is_list K) []) (m_list : mg "list" = none) (m_enumerate : mg "enumerate" = none) (m_tuple : mg "tuple" = none) (g_MOST_LISTS : ∃ u, mg "MOST_LISTS" = some u ∧ RelV v_MOST_LISTS u) : MakR P w K mg base 21 "Schema" (cls_at K "Schema") (sp_Schema_init K) := by
  have nd := sc_Schema_init.nd
  obtain ⟨oc, od, kV, doc, pm, an, cdv, ct, osl, rfl, lk, hcode⟩ := F.ex
  have G : FnR P w K mg base CX0 (20 + 1) f (sp_Schema_init K) := by
    refine FnR.imp (StX.fn_star (ps := ["self", "fields"]) (pv := "lists") (sp := fun vs H Q E => vs.length = 3 ∧ t_Schema_init K { nx := fun _ H' => Q .non H', rt := Q } (vs.map some ++ List.replicate (6 - vs.length) none) H) lk hcode sc_Schema_init StX.cxUp_none ?_ fun A outer s H vs Q E hr h => ?_) fun vs H Q E h => sat_Schema_init h
    · exact StX.bind_star2 (B := fun l => bindArgs (PySem.W.fnOf "__init__" "Schema.__init__" (defArgs s_Schema_init) (defBody s_Schema_init) (defScope s_Schema_init) .none kV doc pm an cdv ct) ⟨l, []⟩) (by intros; rfl) (by intros; rfl)
    · obtain ⟨hl, h⟩ := h
      have hr := hr
      refine ⟨_, (PSs.nox (pss_cons (ps_if (pt_not (pt_val (C8.pe_c C_is_fields hr (by decide) (by rfl) (pa_cons (pv 1) pa_nil)))) (pss_one ps_no) pss_nil)
  (pss_cons (ps_set (i := 3) nd rfl (.inl rfl) (pe_callTy cg_list (by rfl) m_list (by decide +kernel) (pa_cons (pv 1) pa_nil)))
  (pss_cons (ps_for PassesOwn.never rfl (pi_enumT (by rfl) m_enumerate (pa_cons (pv 2) pa_nil)) (pg_tup rfl (pgs_cons (pg_name (i := 4) nd rfl (.inl rfl)) (pgs_cons (pg_name (i := 5) nd rfl (.inl rfl)) pgs_nil))) (pss_cons (ps_if (PW.pt (pw_or (pt_cmpR og_ge (pv 4) (C8.pe_gc (by rfl) g_MOST_LISTS) (nomark _)) (pw_or1 (pt_not (pt_val (C8.pe_c C_is_list hr (by decide) (by rfl) (pa_cons (pv 5) (pa_cons (pv 3) pa_nil)))))))) (pss_one ps_no) pss_nil)
  (pss_one (ps_expr (pe_bm PySem.F.plainAttrs_list PySem.F.slot_list_append PySem.F.type_list_append mt_append (pv 3) (pa_cons (pe_ix ix_seq (pv 5) pe_int (fun _ _ => rfl)) pa_nil))))))
  (pss_cons (ps_fld (pv 0) (pe_callTy cg_tupleF (by rfl) m_tuple (by decide +kernel) (pa_cons (pv 1) pa_nil)) rfl)
  (pss_one (ps_fld (pv 0) (pe_callTy cg_tuple (by rfl) m_tuple (by decide +kernel) (pa_cons (pv 2) pa_nil)) rfl))))))), ?_⟩
      exact h
  exact ⟨f, g.1, G, g.2⟩
theorem met_Schema_eq {f : Addr} {fd : FuncData} (F : Fun K "__eq__" "Schema.__eq__" s_Schema_eq f fd) (g : Cls K (cls_at K "Schema") ∧ Meth K (cls_at K "Schema") "__eq__" f) (m_isinstance : mg "isinstance" = none) (g_Schema : ∃ u, mg "Schema" = some u ∧ RelV (.ref (cls_at K "Schema")) u) : ∀ n, C8.Met P w K mg base (0 + 3 * n) (cls_at K "Schema") "__eq__" (sp_Schema_eq K n) []
  | 0 => ⟨f, fd, ["self", "other"], [], g.1, g.2, fnOk_never (never_Schema_eq K), F.binds fun _ _ _ _ _ _ us hl => match us, hl with | [_, _], _ => rfl, .nil⟩
  | n + 1 => by
    have M_Schema_eq := met_Schema_eq F g m_isinstance g_Schema n
    have G : FnOk P w K mg base CX0 ((0 + 3 * n + 2) + 1) f fd ["self", "other"] (sp_Schema_eq K (n + 1)) := by
      refine F.ok sc_Schema_eq (fun vs H Q E h => (sat_Schema_eq (n := n) h).1) (fun cdv A outer s H vs Q E hr h => ?_)
      have nd := sc_Schema_eq.nd
      exact ⟨_, (pss_one (ps_ret (pe_and (pe_callB cg_isi (by rfl) m_isinstance (by decide +kernel) (pa_cons (pv 1) (pa_cons (C8.pe_gc (by rfl) g_Schema) pa_nil))) (pe_and (pe_cmpR (og_eq hr.units) (pe_fld (pv 0) rfl) (pe_fld (pv 1) rfl) (nomark _)) (pe_one (pe_cmpR (op_eqP M_Schema_eq hr (by omega)) (pe_fld (pv 0) rfl) (pe_fld (pv 1) rfl) (nomark _))))))), (sat_Schema_eq (n := n) h).2⟩
    exact ⟨f, fd, _, [], g.1, g.2, G, F.binds (fun _ _ _ _ _ _ us hl => match us, hl with | [_, _], _ => rfl), .nil⟩
theorem prp_Schema_depth {f : Addr} {fd : FuncData} (F : Fun K "depth" "Schema.depth" s_Schema_depth f fd) {p : Addr} (g : Cls K (cls_at K "Schema") ∧ PropOf K (cls_at K "Schema") "depth" p f) (m_max : mg "max" = none) : ∀ n, Prp P w K mg base (0 + 2 * n) (cls_at K "Schema") "depth" (sp_Schema_depth K n)
  | 0 => ⟨p, f, fd, ["self"], g.1, g.2, fnOk_never (never_Schema_depth K), F.binds fun _ _ _ _ _ _ us hl => match us, hl with | [_], _ => rfl⟩
  | n + 1 => by
    have P_Schema_depth := prp_Schema_depth F g m_max n
    have G : FnOk P w K mg base CX0 ((0 + 2 * n + 1) + 1) f fd ["self"] (sp_Schema_depth K (n + 1)) := by
      refine F.ok sc_Schema_depth (fun vs H Q E h => (sat_Schema_depth (n := n) h).1) (fun cdv A outer s H vs Q E hr h => ?_)
      have nd := sc_Schema_depth.nd
      exact ⟨_, (pss_one (ps_ret (pe_op og_add pe_int (pe_bK (ck_max rfl hr.units) (by rfl) m_max (by decide +kernel) (pa_cons (pe_lc (own := [("name", 1), ("inner", 2)]) (g := (gTup K 2 (gCons (gName 1) (gCons (gName 2) gNil)))) (tt := tYes) rfl nd (pi_tup (pe_fld (pv 0) rfl)) (blkOk_by (N := ["self", "name", "inner"]) (sc := defScope s_Schema_depth) (by decide +kernel)) (fun _ _ _ _ _ => (pg_tup rfl (pgs_cons (pg_name (i := 1) nd rfl (.inl rfl)) (pgs_cons (pg_name (i := 2) nd rfl (.inl rfl)) pgs_nil)))) (fun _ _ _ _ _ => pts_nil) (fun _ _ _ _ _ => (pe_pr P_Schema_depth hr (by omega) (pv 2) (by rfl)))) pa_nil) (pk_cons pe_int pk_nil))))), (sat_Schema_depth (n := n) h).2⟩
    exact ⟨p, f, fd, _, g.1, g.2, G, F.binds (fun _ _ _ _ _ _ us hl => match us, hl with | [_], _ => rfl)⟩
theorem met_Schema_lists {f : Addr} {fd : FuncData} (F : Fun K "lists" "Schema.lists" s_Schema_lists f fd) (g : Cls K (cls_at K "Schema") ∧ Meth K (cls_at K "Schema") "lists" f) (m_list : mg "list" = none) : C8.Met P w K mg base 1 (cls_at K "Schema") "lists" (sp_Schema_lists K) [] := by
  have G : FnOk P w K mg base CX0 (0 + 1) f fd ["self"] (sp_Schema_lists K) := by
    refine F.ok sc_Schema_lists (fun vs H Q E h => (sat_Schema_lists h).1) (fun cdv A outer s H vs Q E hr h => ?_)
    have nd := sc_Schema_lists.nd
    exact ⟨_, (pss_one (ps_ret (pe_callTy cg_list (by rfl) m_list (by decide +kernel) (pa_cons (pe_fld (pv 0) rfl) pa_nil)))), (sat_Schema_lists h).2⟩
  exact ⟨f, fd, _, [], g.1, g.2, G, F.binds (fun _ _ _ _ _ _ us hl => match us, hl with | [_], _ => rfl), .nil⟩
theorem met_Schema_level {f : Addr} {fd : FuncData} (F : FunD K "level" "Schema.level" (defArgs s_Schema_level) (defBody s_Schema_level) (defScope s_Schema_level) [.str ""] [] f fd) (g : Cls K (cls_at K "Schema") ∧ Meth K (cls_at K "Schema") "level" f) (C_level_of : C8.Cal P w K mg base 3 "level_of" (sp_level_of K) []) (X_InvalidPath : ExcN P K mg "InvalidPath" "given" (cls_at K "InvalidPath")) : MetXD P w K mg base 4 (cls_at K "Schema") "level" (sp_Schema_level K) [] := by
  have G : FnOk P w K mg base (L2.CX P w) (3 + 1) f fd ["self", "path"] (sp_Schema_level K) := by
    refine FunD.ok (CX := L2.CX P w) F sc_Schema_level (fun vs H Q E h => (sat_Schema_level h).1) (fun cdv A outer s H vs Q E hr h => ?_)
    have nd := sc_Schema_level.nd
    exact ⟨_, (pss_cons (ps_set (i := 2) nd rfl (.inl rfl) (C8.pe_c C_level_of hr (by decide) (by rfl) (pa_cons (pv 0) (pa_cons (pv 1) pa_nil))))
  (pss_cons (ps_if (pt_cmpR op_isN1 (pv 2) pe_non (nomark _)) (pss_one (ps_raiseX rfl X_InvalidPath hr (by decide) (takes_of rfl rfl rfl rfl) (pv 1) (by rfl) (by decide))) pss_nil)
  (pss_one (ps_ret (pv 2))))), (sat_Schema_level h).2⟩
  exact ⟨f, fd, _, [], g.1, g.2, G, bindsD_all F (fun _ _ _ _ _ _ _ us its h1 h2 => match us, its, h1, h2 with | [_, _], [_], _, _ => ⟨_, rfl, rfl⟩), .nil⟩
theorem met0_Schema_level {f : Addr} {fd : FuncData} (F : FunD K "level" "Schema.level" (defArgs s_Schema_level) (defBody s_Schema_level) (defScope s_Schema_level) [.str ""] [] f fd) (g : Cls K (cls_at K "Schema") ∧ Meth K (cls_at K "Schema") "level" f) (C_level_of : C8.Cal P w K mg base 3 "level_of" (sp_level_of K) []) (X_InvalidPath : ExcN P K mg "InvalidPath" "given" (cls_at K "InvalidPath")) : MetXD P w K mg base 4 (cls_at K "Schema") "level" (sp_Schema_level K) [.str ""] := by
  have G : FnOk P w K mg base (L2.CX P w) (3 + 1) f fd ["self", "path"] (sp_Schema_level K) := by
    refine FunD.ok (CX := L2.CX P w) F sc_Schema_level (fun vs H Q E h => (sat_Schema_level h).1) (fun cdv A outer s H vs Q E hr h => ?_)
    have nd := sc_Schema_level.nd
    exact ⟨_, (pss_cons (ps_set (i := 2) nd rfl (.inl rfl) (C8.pe_c C_level_of hr (by decide) (by rfl) (pa_cons (pv 0) (pa_cons (pv 1) pa_nil))))
  (pss_cons (ps_if (pt_cmpR op_isN1 (pv 2) pe_non (nomark _)) (pss_one (ps_raiseX rfl X_InvalidPath hr (by decide) (takes_of rfl rfl rfl rfl) (pv 1) (by rfl) (by decide))) pss_nil)
  (pss_one (ps_ret (pv 2))))), (sat_Schema_level h).2⟩
  obtain ⟨ds, hv, hb⟩ := bindsD_dflt (ps := ["self", "path"]) F (n := 1) rfl (fun _ _ _ _ _ _ _ us its h1 h2 => match us, its, h1, h2 with | [_], [_], _, _ => ⟨_, rfl, rfl⟩)
  exact ⟨f, fd, _, ds, g.1, g.2, G, hb, hv⟩
theorem met_Schema_is_field {f : Addr} {fd : FuncData} (F : Fun K "is_field" "Schema.is_field" s_Schema_is_field f fd) (g : Cls K (cls_at K "Schema") ∧ Meth K (cls_at K "Schema") "is_field" f) (C_level_of : C8.Cal P w K mg base 3 "level_of" (sp_level_of K) []) (m_isinstance : mg "isinstance" = none) (m_str : mg "str" = none) : C8.Met P w K mg base 4 (cls_at K "Schema") "is_field" (sp_Schema_is_field K) [] := by
  have G : FnOk P w K mg base CX0 (3 + 1) f fd ["self", "path"] (sp_Schema_is_field K) := by
    refine F.ok sc_Schema_is_field (fun vs H Q E h => (sat_Schema_is_field h).1) (fun cdv A outer s H vs Q E hr h => ?_)
    have nd := sc_Schema_is_field.nd
    exact ⟨_, (pss_cons (ps_if (pt_not (pt_val (pe_callB cg_isi (by rfl) m_isinstance (by decide +kernel) (pa_cons (pv 1) (pa_cons (pe_bltn (v := .ty "str") (u := .type "str") (by rfl) m_str (by decide +kernel) rfl) pa_nil))))) (pss_one (ps_ret pe_bl)) pss_nil)
  (pss_cons (ps_asg (pe_bm PySem.F.plainAttrs_str PySem.F.slot_str_rpartition PySem.F.type_str_rpartition mt_rpartition (pv 1) (pa_cons pe_str pa_nil)) (pg_tup rfl (pgs_cons (pg_name (i := 2) nd rfl (.inl rfl)) (pgs_cons (pg_name (i := 3) nd rfl (.inl rfl)) (pgs_cons (pg_name (i := 4) nd rfl (.inl rfl)) pgs_nil)))))
  (pss_cons (ps_if (PW.pt (pw_and (pt_cmpR (og_ne hr.units) (pv 3) pe_str (nomark _)) (pw_and1 (pt_cmpR (og_eq hr.units) (pv 2) pe_str (nomark _))))) (pss_one (ps_ret pe_bl)) pss_nil)
  (pss_cons (ps_set (i := 5) nd rfl (.inl rfl) (C8.pe_c C_level_of hr (by decide) (by rfl) (pa_cons (pv 0) (pa_cons (pv 2) pa_nil))))
  (pss_one (ps_ret (pe_and (pe_cmpR op_notN1 (pv 5) pe_non (nomark _)) (pe_one (pe_cmpR og_in (pv 4) (pe_fld (pv 5) rfl) (by rfl)))))))))), (sat_Schema_is_field h).2⟩
  exact ⟨f, fd, _, [], g.1, g.2, G, F.binds (fun _ _ _ _ _ _ us hl => match us, hl with | [_, _], _ => rfl), .nil⟩
theorem met_Schema_text {f : Addr} {fd : FuncData} (F : Fun K "text" "Schema.text" s_Schema_text f fd) (g : Cls K (cls_at K "Schema") ∧ Meth K (cls_at K "Schema") "text" f) (m_list : mg "list" = none) : ∀ n, C8.Met P w K mg base (0 + 1 * n) (cls_at K "Schema") "text" (sp_Schema_text K n) []
  | 0 => ⟨f, fd, ["self"], [], g.1, g.2, fnOk_never (never_Schema_text K), F.binds fun _ _ _ _ _ _ us hl => match us, hl with | [_], _ => rfl, .nil⟩
  | n + 1 => by
    have M_Schema_text := met_Schema_text F g m_list n
    have G : FnOk P w K mg base CX0 ((0 + 1 * n + 0) + 1) f fd ["self"] (sp_Schema_text K (n + 1)) := by
      refine F.ok sc_Schema_text (fun vs H Q E h => (sat_Schema_text (n := n) h).1) (fun cdv A outer s H vs Q E hr h => ?_)
      have nd := sc_Schema_text.nd
      exact ⟨_, (pss_one (ps_ret (pe_joinS (pe_op og_add (pe_callTy cg_list (by rfl) m_list (by decide +kernel) (pa_cons (pe_fld (pv 0) rfl) pa_nil)) (pe_lc (own := [("name", 1), ("inner", 2)]) (g := (gTup K 2 (gCons (gName 1) (gCons (gName 2) gNil)))) (tt := tYes) rfl nd (pi_tup (pe_fld (pv 0) rfl)) (blkOk_by (N := ["self", "name", "inner"]) (sc := defScope s_Schema_text) (by decide +kernel)) (fun _ _ _ _ _ => (pg_tup rfl (pgs_cons (pg_name (i := 1) nd rfl (.inl rfl)) (pgs_cons (pg_name (i := 2) nd rfl (.inl rfl)) pgs_nil)))) (fun _ _ _ _ _ => pts_nil) (fun _ _ _ _ _ => (pe_joined (PJ.cons (pe_fmt (pv 1)) (PJ.cons pe_str (PJ.cons (pe_fmt (C8.pe_mt0 M_Schema_text hr (by omega) (pv 2))) (PJ.cons pe_str PJ.nil))))))))))), (sat_Schema_text (n := n) h).2⟩
    exact ⟨f, fd, _, [], g.1, g.2, G, F.binds (fun _ _ _ _ _ _ us hl => match us, hl with | [_], _ => rfl), .nil⟩
theorem sta_Schema_read {f : Addr} {fd : FuncData} (F : Fun K "read" "Schema.read" s_Schema_read f fd) {p : Addr} {rest : List Value} (g : ClX.CRead K (cls_at K "Schema") (.type "type") ∧ PySem.W.findCls K (.ref (cls_at K "Schema")) (.type "type") "read" = some (.get (.builtin "staticmethod.__get__") (.ref p) .none (.ref (cls_at K "Schema"))) ∧ PySem.W.recIn K p "staticmethod" = some (.ref f :: rest)) (C_read_schema : C8.Cal P w K mg base 41 "read_schema" (sp_read_schema K) []) : Sta P w K mg base 42 (cls_at K "Schema") "read" (sp_Schema_read K) := by
  have G : FnOk P w K mg base CX0 (41 + 1) f fd ["text"] (sp_Schema_read K) := by
    refine F.ok sc_Schema_read (fun vs H Q E h => (sat_Schema_read h).1) (fun cdv A outer s H vs Q E hr h => ?_)
    have nd := sc_Schema_read.nd
    exact ⟨_, (pss_one (ps_ret (C8.pe_c C_read_schema hr (by decide) (by rfl) (pa_cons (pv 0) pa_nil)))), (sat_Schema_read h).2⟩
  exact ⟨_, p, f, g.1, g.2.1, ⟨rest, g.2.2⟩, F.kp, (FnR.imp (G.raw (F.binds (fun _ _ _ _ _ _ us hl => match us, hl with | [_], _ => rfl)) .nil) fun vs H Q E h => by rw [List.append_nil]; exact h)⟩
theorem cal_is_list {f : Addr} {fd : FuncData} (F : Fun K "is_list" "is_list" s_is_list f fd) (g : mg "is_list" = some (.ref f)) (C_is_name : C8.Cal P w K mg base 1 "is_name" (sp_is_name K) []) (P_Schema_depth : Prp P w K mg base 18 (cls_at K "Schema") "depth" (sp_Schema_depth K 9)) (m_isinstance : mg "isinstance" = none) (m_tuple : mg "tuple" = none) (m_len : mg "len" = none) (m_bool : mg "bool" = none) (g_MOST_LEVELS : ∃ u, mg "MOST_LEVELS" = some u ∧ RelV v_MOST_LEVELS u) (g_Schema : ∃ u, mg "Schema" = some u ∧ RelV (.ref (cls_at K "Schema")) u) : C8.Cal P w K mg base 20 "is_list" (sp_is_list K) [] := by
  have G : FnOk P w K mg base CX0 (19 + 1) f fd ["pair", "used"] (sp_is_list K) := by
    refine F.ok sc_is_list (fun vs H Q E h => (sat_is_list h).1) (fun cdv A outer s H vs Q E hr h => ?_)
    have nd := sc_is_list.nd
    exact ⟨_, (pss_cons (ps_if (PW.pt (pw_or (pt_not (pt_val (pe_callB cg_isi (by rfl) m_isinstance (by decide +kernel) (pa_cons (pv 0) (pa_cons (pe_bltn (v := .ty "tuple") (u := .type "tuple") (by rfl) m_tuple (by decide +kernel) rfl) pa_nil))))) (pw_or1 (pt_cmpR (og_ne hr.units) (pe_callB cg_len (by rfl) m_len (by decide +kernel) (pa_cons (pv 0) pa_nil)) pe_int (nomark _))))) (pss_one (ps_ret pe_bl)) pss_nil)
  (pss_cons (ps_if (PW.pt (pw_or (pt_not (pt_val (C8.pe_c C_is_name hr (by decide) (by rfl) (pa_cons (pe_ix ix_seq (pv 0) pe_int (fun _ _ => rfl)) pa_nil)))) (pw_or (pt_cmpR og_in (pe_ix ix_seq (pv 0) pe_int (fun _ _ => rfl)) (pv 1) (by rfl)) (pw_or1 (pt_not (pt_val (pe_callB cg_isi (by rfl) m_isinstance (by decide +kernel) (pa_cons (pe_ix ix_seq (pv 0) pe_int (fun _ _ => rfl)) (pa_cons (C8.pe_gc (by rfl) g_Schema) pa_nil))))))))) (pss_one (ps_ret pe_bl)) pss_nil)
  (pss_one (ps_ret (pe_callTy cg_bool (by rfl) m_bool (by decide +kernel) (pa_cons (pe_cmpR (og_lt hr.units) (pe_pr P_Schema_depth hr (by decide) (pe_ix ix_seq (pv 0) pe_int (fun _ _ => rfl)) (by rfl)) (C8.pe_gc (by rfl) g_MOST_LEVELS) (nomark _)) pa_nil)))))), (sat_is_list h).2⟩
  exact cal_mk F G g fun _ _ _ _ _ _ us hl => match us, hl with | [_, _], _ => rfl
theorem cal_inner_of {f : Addr} {fd : FuncData} (F : Fun K "inner_of" "inner_of" s_inner_of f fd) (g : mg "inner_of" = some (.ref f)) (M_Schema_lists : C8.Met P w K mg base 1 (cls_at K "Schema") "lists" (sp_Schema_lists K) []) : C8.Cal P w K mg base 2 "inner_of" (sp_inner_of K) [] := by
  have G : FnOk P w K mg base CX0 (1 + 1) f fd ["schema", "name"] (sp_inner_of K) := by
    refine F.ok sc_inner_of (fun vs H Q E h => (sat_inner_of h).1) (fun cdv A outer s H vs Q E hr h => ?_)
    have nd := sc_inner_of.nd
    exact ⟨_, (pss_cons (ps_for PassesOwn.never rfl (pi_list (C8.pe_mt0 M_Schema_lists hr (by decide) (pv 0))) (pg_tup rfl (pgs_cons (pg_name (i := 2) nd rfl (.inl rfl)) (pgs_cons (pg_name (i := 3) nd rfl (.inl rfl)) pgs_nil))) (pss_one (ps_if (pt_cmpR (og_eq hr.units) (pv 2) (pv 1) (nomark _)) (pss_one (ps_ret (pv 3))) pss_nil)))
  (pss_one (ps_ret pe_non))), (sat_inner_of h).2⟩
  exact cal_mk F G g fun _ _ _ _ _ _ us hl => match us, hl with | [_, _], _ => rfl
theorem cal_level_of {f : Addr} {fd : FuncData} (F : Fun K "level_of" "level_of" s_level_of f fd) (g : mg "level_of" = some (.ref f)) (C_inner_of : C8.Cal P w K mg base 2 "inner_of" (sp_inner_of K) []) (m_isinstance : mg "isinstance" = none) (m_str : mg "str" = none) : C8.Cal P w K mg base 3 "level_of" (sp_level_of K) [] := by
  have G : FnOk P w K mg base CX0 (2 + 1) f fd ["schema", "path"] (sp_level_of K) := by
    refine F.ok sc_level_of (fun vs H Q E h => (sat_level_of h).1) (fun cdv A outer s H vs Q E hr h => ?_)
    have nd := sc_level_of.nd
    exact ⟨_, (pss_cons (ps_if (pt_not (pt_val (pe_callB cg_isi (by rfl) m_isinstance (by decide +kernel) (pa_cons (pv 1) (pa_cons (pe_bltn (v := .ty "str") (u := .type "str") (by rfl) m_str (by decide +kernel) rfl) pa_nil))))) (pss_one (ps_ret pe_non)) pss_nil)
  (pss_cons (ps_set (i := 2) nd rfl (.inl rfl) (pv 0))
  (pss_cons (ps_for PassesOwn.never rfl (pi_list (pe_ifExp (pt_cmpR (og_ne hr.units) (pv 1) pe_str (nomark _)) (pe_bm PySem.F.plainAttrs_str PySem.F.slot_str_split PySem.F.type_str_split mt_split (pv 1) (pa_cons pe_str pa_nil)) (pe_lst pa_nil))) (pg_name (i := 3) nd rfl (.inl rfl)) (pss_one (ps_set (i := 2) nd rfl (.inl rfl) (pe_ifExp (pt_cmpR op_notN1 (pv 2) pe_non (nomark _)) (C8.pe_c C_inner_of hr (by decide) (by rfl) (pa_cons (pv 2) (pa_cons (pv 3) pa_nil))) pe_non))))
  (pss_one (ps_ret (pv 2)))))), (sat_level_of h).2⟩
  exact cal_mk F G g fun _ _ _ _ _ _ us hl => match us, hl with | [_, _], _ => rfl
theorem cal_read_part {n : Nat} {f : Addr} {fd : FuncData} (F : Fun K "read_part" "read_part" s_read_part f fd) (g : mg "read_part" = some (.ref f)) (C_read_level : C8.Cal P w K mg base (22 + 2 * n) "read_level" (sp_read_level K n) []) : C8.Cal P w K mg base (22 + 2 * n + 1) "read_part" (sp_read_part K n) [] := by
  have G : FnOk P w K mg base CX0 ((22 + 2 * n) + 1) f fd ["text", "deep"] (sp_read_part K n) := by
    refine F.ok sc_read_part (fun vs H Q E h => (sat_read_part (n := n) h).1) (fun cdv A outer s H vs Q E hr h => ?_)
    have nd := sc_read_part.nd
    exact ⟨_, (pss_cons (ps_asg (pe_bm PySem.F.plainAttrs_str PySem.F.slot_str_partition PySem.F.type_str_partition mt_partition (pv 0) (pa_cons pe_str pa_nil)) (pg_tup rfl (pgs_cons (pg_name (i := 2) nd rfl (.inl rfl)) (pgs_cons (pg_name (i := 3) nd rfl (.inl rfl)) (pgs_cons (pg_name (i := 4) nd rfl (.inl rfl)) pgs_nil)))))
  (pss_one (ps_ret (pe_tup (pa_cons (pv 2) (pa_cons (C8.pe_c C_read_level hr (by omega) (by rfl) (pa_cons (pe_slice og_sl (pv 4) po_none (po_some (pe_un un_neg pe_int))) (pa_cons (pe_op og_add (pv 1) pe_int) pa_nil))) pa_nil)))))), (sat_read_part (n := n) h).2⟩
  exact cal_mk F G g fun _ _ _ _ _ _ us hl => match us, hl with | [_, _], _ => rfl
theorem cal_read_level {f : Addr} {fd : FuncData} (F : Fun K "read_level" "read_level" s_read_level f fd) (g : mg "read_level" = some (.ref f)) {f0 : Addr} {fd0 : FuncData} (F0 : Fun K "read_part" "read_part" s_read_part f0 fd0) (g0 : mg "read_part" = some (.ref f0)) (C_top_words : C8.Cal P w K mg base 1 "top_words" (sp_top_words K) []) (N_Schema : MakR P w K mg base 21 "Schema" (cls_at K "Schema") (sp_Schema_init K)) (g_MOST_LEVELS : ∃ u, mg "MOST_LEVELS" = some u ∧ RelV v_MOST_LEVELS u) : ∀ n, C8.Cal P w K mg base (22 + 2 * n) "read_level" (sp_read_level K n) []
  | 0 => ⟨f, fd, ["text", "deep"], [], fnOk_never (never_read_level K), g, F.kp, F.binds fun _ _ _ _ _ _ us hl => match us, hl with | [_, _], _ => rfl, .nil⟩
  | n + 1 => by
    have C_read_level := cal_read_level F g F0 g0 C_top_words N_Schema g_MOST_LEVELS n
    have C_read_part := cal_read_part (n := n) F0 g0 C_read_level
    have G : FnOk P w K mg base CX0 ((22 + 2 * n + 1) + 1) f fd ["text", "deep"] (sp_read_level K (n + 1)) := by
      refine F.ok sc_read_level (fun vs H Q E h => (sat_read_level (n := n) h).1) (fun cdv A outer s H vs Q E hr h => ?_)
      have nd := sc_read_level.nd
      exact ⟨_, (pss_cons (ps_if (pt_cmpR og_gt (pv 1) (C8.pe_gc (by rfl) g_MOST_LEVELS) (nomark _)) (pss_one ps_no) pss_nil)
    (pss_cons (ps_set (i := 2) nd rfl (.inl rfl) (C8.pe_c C_top_words hr (by omega) (by rfl) (pa_cons (pv 0) pa_nil)))
    (pss_cons (ps_setLc (i := 3) (own := [("word", 5)]) (g := (gName 5)) (tt := (tTest (tOp (gNotIn K) (tC (.str "(")) (tVar 5)))) rfl nd rfl rfl (sw_true rfl rfl rfl (by decide +kernel)) (pi_list (pv 2)) (blkOk_by (N := ["text", "deep", "words", "fields", "lists", "word"]) (sc := defScope s_read_level) (by decide +kernel)) (fun _ _ _ _ _ => (pg_name (i := 5) nd rfl (.inl rfl))) (fun _ _ _ _ _ => (pts_one (pt_cmpR og_notIn pe_str (pv 5) (by rfl)))) (fun _ _ _ _ _ => (pv 5)))
    (pss_cons (ps_setLc (i := 4) (own := [("word", 5)]) (g := (gName 5)) (tt := (tTest (tOp (gIn K) (tC (.str "(")) (tVar 5)))) rfl nd rfl rfl (sw_true rfl rfl rfl (by decide +kernel)) (pi_list (pv 2)) (blkOk_by (N := ["text", "deep", "words", "fields", "lists", "word"]) (sc := defScope s_read_level) (by decide +kernel)) (fun _ _ _ _ _ => (pg_name (i := 5) nd rfl (.inl rfl))) (fun _ _ _ _ _ => (pts_one (pt_cmpR og_in pe_str (pv 5) (by rfl)))) (fun _ _ _ _ _ => (C8.pe_c C_read_part hr (by omega) (by rfl) (pa_cons (pv 5) (pa_cons (pv 1) pa_nil)))))
    (pss_one (ps_ret (pe_mkS N_Schema hr (by omega) (by rfl) (pa_cons (pv 3) (StX.pa_star (pv 4) pa_nil))))))))), (sat_read_level (n := n) h).2⟩
    exact cal_mk F G g fun _ _ _ _ _ _ us hl => match us, hl with | [_, _], _ => rfl
theorem cal_read_schema {f : Addr} {fd : FuncData} (F : Fun K "read_schema" "read_schema" s_read_schema f fd) (g : mg "read_schema" = some (.ref f)) (C_read_level : C8.Cal P w K mg base 40 "read_level" (sp_read_level K 9) []) (M_Schema_text : C8.Met P w K mg base 9 (cls_at K "Schema") "text" (sp_Schema_text K 9) []) (m_isinstance : mg "isinstance" = none) (m_str : mg "str" = none) : C8.Cal P w K mg base 41 "read_schema" (sp_read_schema K) [] := by
  have G : FnOk P w K mg base CX0 (40 + 1) f fd ["text"] (sp_read_schema K) := by
    refine F.ok sc_read_schema (fun vs H Q E h => (sat_read_schema h).1) (fun cdv A outer s H vs Q E hr h => ?_)
    have nd := sc_read_schema.nd
    exact ⟨_, (pss_cons (ps_if (pt_not (pt_val (pe_callB cg_isi (by rfl) m_isinstance (by decide +kernel) (pa_cons (pv 0) (pa_cons (pe_bltn (v := .ty "str") (u := .type "str") (by rfl) m_str (by decide +kernel) rfl) pa_nil))))) (pss_one ps_no) pss_nil)
  (pss_cons (ps_try_thru0 (pss_one (ps_set (i := 1) nd rfl (.inl rfl) (C8.pe_c C_read_level hr (by decide) (by rfl) (pa_cons (pv 0) (pa_cons pe_int pa_nil))))))
  (pss_cons (ps_if (pt_cmpR (og_ne hr.units) (C8.pe_mt0 M_Schema_text hr (by decide) (pv 1)) (pv 0) (nomark _)) (pss_one ps_no) pss_nil)
  (pss_one (ps_ret (pv 1)))))), (sat_read_schema h).2⟩
  exact cal_mk F G g fun _ _ _ _ _ _ us hl => match us, hl with | [_], _ => rfl
theorem cal_open {f : Addr} {fd : FuncData} (F : Fun K "_law_open" "_law_open" s_open f fd) (g : mg "_law_open" = some (.ref f)) (m_list : mg "list" = none) : C8.Cal P w K mg base 1 "_law_open" (sp_open K) [] := by
  have G : FnOk P w K mg base CX0 (0 + 1) f fd ["_law_script"] (sp_open K) := by
    refine F.ok sc_open (fun vs H Q E h => (sat_open h).1) (fun cdv A outer s H vs Q E hr h => ?_)
    have nd := sc_open.nd
    exact ⟨_, (pss_one (ps_ret (pe_lst (pa_cons (pe_callTy cg_list (by rfl) m_list (by decide +kernel) (pa_cons (pe_slice og_sl (pv 0) po_none (po_some pe_int)) pa_nil)) (pa_cons pe_int (pa_cons pe_int (pa_cons pe_int (pa_cons pe_int pa_nil)))))))), (sat_open h).2⟩
  exact cal_mk F G g fun _ _ _ _ _ _ us hl => match us, hl with | [_], _ => rfl
theorem cal_draw {f : Addr} {fd : FuncData} (F : Fun K "_law_draw" "_law_draw" s_draw f fd) (g : mg "_law_draw" = some (.ref f)) (m_len : mg "len" = none) (m_int : mg "int" = none) : C8.Cal P w K mg base 1 "_law_draw" (sp_draw K) [] := by
  have G : FnOk P w K mg base CX0 (0 + 1) f fd ["_law_bag", "_law_many"] (sp_draw K) := by
    refine F.ok sc_draw (fun vs H Q E h => (sat_draw h).1) (fun cdv A outer s H vs Q E hr h => ?_)
    have nd := sc_draw.nd
    exact ⟨_, (pss_cons (ps_if (PW.pt (pw_and (pt_cmpR (og_eq hr.units) (pe_ix ix_seq (pv 0) pe_int (fun _ _ => rfl)) pe_int (nomark _)) (pw_and1 (pt_cmpR (og_lt hr.units) (pe_ix ix_seq (pv 0) pe_int (fun _ _ => rfl)) (pe_callB cg_len (by rfl) m_len (by decide +kernel) (pa_cons (pe_ix ix_seq (pv 0) pe_int (fun _ _ => rfl)) pa_nil)) (nomark _))))) (pss_cons (ps_set (i := 2) nd rfl (.inl rfl) (pe_ix ix_seq (pe_ix ix_seq (pv 0) pe_int (fun _ _ => rfl)) (pe_ix ix_seq (pv 0) pe_int (fun _ _ => rfl)) (fun _ _ => rfl)))
  (pss_cons (ps_asg (pe_op og_add (pe_ix ix_seq (pv 0) pe_int (fun _ _ => rfl)) pe_int) (pg_sub (pv 0) pe_int set_list))
  (pss_cons (ps_asg (pe_ifExp (pt_cmpR og_ge (pv 2) (pe_op og_pow pe_int pe_int) (nomark _)) (pv 2) pe_int) (pg_sub (pv 0) pe_int set_list))
  (pss_one (ps_asg (pe_op og_mod (pe_callTy cg_int (by rfl) m_int (by decide +kernel) (pa_cons (pe_op og_add (pe_op og_add (pe_op og_mul (pe_ix ix_seq (pv 0) pe_int (fun _ _ => rfl)) pe_int) (pe_op og_mul (pe_op og_mod (pe_callTy cg_int (by rfl) m_int (by decide +kernel) (pa_cons (pv 2) pa_nil)) pe_int) pe_int)) pe_int) pa_nil)) pe_int) (pg_sub (pv 0) pe_int set_list)))))) pss_nil)
  (pss_cons (ps_if (pt_cmpR og_gt (pe_ix ix_seq (pv 0) pe_int (fun _ _ => rfl)) pe_int (nomark _)) (pss_cons (ps_set (i := 3) nd rfl (.inl rfl) (pe_op og_mod (pe_callTy cg_int (by rfl) m_int (by decide +kernel) (pa_cons (pe_ix ix_seq (pv 0) pe_int (fun _ _ => rfl)) pa_nil)) (pv 1)))
  (pss_cons (ps_asg (pe_op og_fdiv (pe_ix ix_seq (pv 0) pe_int (fun _ _ => rfl)) (pv 1)) (pg_sub (pv 0) pe_int set_list))
  (pss_one (ps_ret (pv 3))))) pss_nil)
  (pss_cons (ps_asg (pe_op og_add (pe_ix ix_seq (pv 0) pe_int (fun _ _ => rfl)) pe_int) (pg_sub (pv 0) pe_int set_list))
  (pss_cons (ps_set (i := 4) nd rfl (.inl rfl) (pe_ix ix_seq (pv 0) pe_int (fun _ _ => rfl)))
  (pss_cons (ps_asg (pe_op og_mod (pe_callTy cg_int (by rfl) m_int (by decide +kernel) (pa_cons (pe_op og_add (pe_op og_add (pe_op og_add (pe_op og_mul (pv 4) (pv 4)) (pe_op og_mul pe_int (pv 4))) (pe_op og_mul pe_int (pe_ix ix_seq (pv 0) pe_int (fun _ _ => rfl)))) pe_int) pa_nil)) pe_int) (pg_sub (pv 0) pe_int set_list))
  (pss_one (ps_ret (pe_op og_mod (pe_callTy cg_int (by rfl) m_int (by decide +kernel) (pa_cons (pe_op og_add (pe_op og_add (pe_op og_fdiv (pe_ix ix_seq (pv 0) pe_int (fun _ _ => rfl)) pe_int) (pe_op og_mul (pv 4) pe_int)) (pe_ix ix_seq (pv 0) pe_int (fun _ _ => rfl))) pa_nil)) (pv 1))))))))), (sat_draw h).2⟩
  exact cal_mk F G g fun _ _ _ _ _ _ us hl => match us, hl with | [_, _], _ => rfl
theorem cal_ofS {f : Addr} {fd : FuncData} (F : Fun K "_law_of" "_law_of" s_ofS f fd) (g : mg "_law_of" = some (.ref f)) (C__law_draw : C8.Cal P w K mg base 1 "_law_draw" (sp_draw K) []) (m_len : mg "len" = none) : C8.Cal P w K mg base 2 "_law_of" (sp_ofS K) [] := by
  have G : FnOk P w K mg base CX0 (1 + 1) f fd ["_law_bag", "_law_things"] (sp_ofS K) := by
    refine F.ok sc_ofS (fun vs H Q E h => (sat_ofS h).1) (fun cdv A outer s H vs Q E hr h => ?_)
    have nd := sc_ofS.nd
    exact ⟨_, (pss_one (ps_ret (pe_ix ix_seq (pv 1) (C8.pe_c C__law_draw hr (by decide) (by rfl) (pa_cons (pv 0) (pa_cons (pe_callB cg_len (by rfl) m_len (by decide +kernel) (pa_cons (pv 1) pa_nil)) pa_nil))) (fun _ _ => rfl)))), (sat_ofS h).2⟩
  exact cal_mk F G g fun _ _ _ _ _ _ us hl => match us, hl with | [_, _], _ => rfl
theorem cal_like {f : Addr} {fd : FuncData} (F : Fun K "_law_like" "_law_like" s_like f fd) (g : mg "_law_like" = some (.ref f)) (m_isinstance : mg "isinstance" = none) (m_tuple : mg "tuple" = none) (m_list : mg "list" = none) (m_len : mg "len" = none) (m_all : mg "all" = none) (m_zip : mg "zip" = none) (m_bool : mg "bool" = none) (m_int : mg "int" = none) (m_str : mg "str" = none) : ∀ n, C8.Cal P w K mg base (0 + 1 * n) "_law_like" (sp_like K n) []
  | 0 => ⟨f, fd, ["_law_found", "_law_due"], [], fnOk_never (never_like K), g, F.kp, F.binds fun _ _ _ _ _ _ us hl => match us, hl with | [_, _], _ => rfl, .nil⟩
  | n + 1 => by
    have C__law_like := cal_like F g m_isinstance m_tuple m_list m_len m_all m_zip m_bool m_int m_str n
    have G : FnOk P w K mg base CX0 ((0 + 1 * n + 0) + 1) f fd ["_law_found", "_law_due"] (sp_like K (n + 1)) := by
      refine F.ok sc_like (fun vs H Q E h => (sat_like (n := n) h).1) (fun cdv A outer s H vs Q E hr h => ?_)
      have nd := sc_like.nd
      exact ⟨_, (pss_cons (ps_if (pt_val (pe_callB cg_isi (by rfl) m_isinstance (by decide +kernel) (pa_cons (pv 1) (pa_cons (pe_tup (pa_cons (pe_bltn (v := .ty "list") (u := .type "list") (by rfl) m_list (by decide +kernel) rfl) (pa_cons (pe_bltn (v := .ty "tuple") (u := .type "tuple") (by rfl) m_tuple (by decide +kernel) rfl) pa_nil))) pa_nil)))) (pss_cons (ps_if (PW.pt (pw_or (pt_cmpR (og_ne hr.units) (pe_callB cg_isi (by rfl) m_isinstance (by decide +kernel) (pa_cons (pv 0) (pa_cons (pe_bltn (v := .ty "list") (u := .type "list") (by rfl) m_list (by decide +kernel) rfl) pa_nil))) (pe_callB cg_isi (by rfl) m_isinstance (by decide +kernel) (pa_cons (pv 1) (pa_cons (pe_bltn (v := .ty "list") (u := .type "list") (by rfl) m_list (by decide +kernel) rfl) pa_nil))) (nomark _)) (pw_or1 (pt_cmpR (og_ne hr.units) (pe_callB cg_isi (by rfl) m_isinstance (by decide +kernel) (pa_cons (pv 0) (pa_cons (pe_bltn (v := .ty "tuple") (u := .type "tuple") (by rfl) m_tuple (by decide +kernel) rfl) pa_nil))) (pe_callB cg_isi (by rfl) m_isinstance (by decide +kernel) (pa_cons (pv 1) (pa_cons (pe_bltn (v := .ty "tuple") (u := .type "tuple") (by rfl) m_tuple (by decide +kernel) rfl) pa_nil))) (nomark _))))) (pss_one (ps_ret pe_bl)) pss_nil)
    (pss_one (ps_ret (pe_and (pe_cmpR (og_eq hr.units) (pe_callB cg_len (by rfl) m_len (by decide +kernel) (pa_cons (pv 0) pa_nil)) (pe_callB cg_len (by rfl) m_len (by decide +kernel) (pa_cons (pv 1) pa_nil)) (nomark _)) (pe_one (pe_callB (cr_all rfl) (by rfl) m_all (by decide +kernel) (pa_cons (pe_lc (own := [("_law_one", 2), ("_law_other", 3)]) (g := (gTup K 2 (gCons (gName 2) (gCons (gName 3) gNil)))) (tt := tYes) rfl nd (pi_zipA (by rfl) m_zip (pa_cons (pv 0) (pa_cons (pv 1) pa_nil))) (blkOk_by (N := ["_law_found", "_law_due", "_law_one", "_law_other"]) (sc := defScope s_like) (by decide +kernel)) (fun _ _ _ _ _ => (pg_tup rfl (pgs_cons (pg_name (i := 2) nd rfl (.inl rfl)) (pgs_cons (pg_name (i := 3) nd rfl (.inl rfl)) pgs_nil)))) (fun _ _ _ _ _ => pts_nil) (fun _ _ _ _ _ => (C8.pe_c C__law_like hr (by omega) (by rfl) (pa_cons (pv 2) (pa_cons (pv 3) pa_nil))))) pa_nil))))))) pss_nil)
    (pss_cons (ps_if (PW.pt (pw_or (pt_cmpR op_isN1 (pv 1) pe_non (nomark _)) (pw_or1 (pt_cmpR op_isN1 (pv 0) pe_non (nomark _))))) (pss_one (ps_ret (pe_and (pe_cmpR op_isN1 (pv 1) pe_non (nomark _)) (pe_one (pe_cmpR op_isN1 (pv 0) pe_non (nomark _)))))) pss_nil)
    (pss_cons (ps_if (PW.pt (pw_or (pt_cmpR (og_ne hr.units) (pe_callB cg_isi (by rfl) m_isinstance (by decide +kernel) (pa_cons (pv 0) (pa_cons (pe_bltn (v := .ty "bool") (u := .type "bool") (by rfl) m_bool (by decide +kernel) rfl) pa_nil))) (pe_callB cg_isi (by rfl) m_isinstance (by decide +kernel) (pa_cons (pv 1) (pa_cons (pe_bltn (v := .ty "bool") (u := .type "bool") (by rfl) m_bool (by decide +kernel) rfl) pa_nil))) (nomark _)) (pw_or1 (pt_cmpR (og_ne hr.units) (pe_callB cg_isi (by rfl) m_isinstance (by decide +kernel) (pa_cons (pv 0) (pa_cons (pe_bltn (v := .ty "int") (u := .type "int") (by rfl) m_int (by decide +kernel) rfl) pa_nil))) (pe_callB cg_isi (by rfl) m_isinstance (by decide +kernel) (pa_cons (pv 1) (pa_cons (pe_bltn (v := .ty "int") (u := .type "int") (by rfl) m_int (by decide +kernel) rfl) pa_nil))) (nomark _))))) (pss_one (ps_ret pe_bl)) pss_nil)
    (pss_one (ps_ret (pe_and (pe_cmpR (og_eq hr.units) (pe_callB cg_isi (by rfl) m_isinstance (by decide +kernel) (pa_cons (pv 0) (pa_cons (pe_bltn (v := .ty "str") (u := .type "str") (by rfl) m_str (by decide +kernel) rfl) pa_nil))) (pe_callB cg_isi (by rfl) m_isinstance (by decide +kernel) (pa_cons (pv 1) (pa_cons (pe_bltn (v := .ty "str") (u := .type "str") (by rfl) m_str (by decide +kernel) rfl) pa_nil))) (nomark _)) (pe_one (pe_cmpR (og_eq hr.units) (pv 0) (pv 1) (nomark _))))))))), (sat_like (n := n) h).2⟩
    exact cal_mk F G g fun _ _ _ _ _ _ us hl => match us, hl with | [_, _], _ => rfl
theorem cal_field {f : Addr} {fd : FuncData} (F : Fun K "_law_field" "_law_field" s_field f fd) (g : mg "_law_field" = some (.ref f)) : FldOk P w K mg base 1 "_law_field" := by
  have nd := sc_field.nd
  have kp := F.kp
  have b := F.binds (ps := ["_law_e"]) (fun _ _ _ _ _ _ us hl => match us, hl with | [_], _ => rfl)
  obtain ⟨oc, od, kV, doc, pm, an, cdv, ct, osl, rfl, lk, hcd⟩ := F.ex; exact ⟨f, _, fnE_of (k := 0) lk hcd sc_field (fun a cls d vs H Q E h => (sat_field h).1) (fun A outer s H vs Q p cls d hu hz hf h => ⟨_, (pss_cons (ps_if (pt_cmpR og_in (pe_xfA (.head _) hz hf (pv 0)) (pe_lst (pa_cons pe_str (pa_cons pe_str (pa_cons pe_str (pa_cons pe_str (pa_cons pe_str pa_nil)))))) (by rfl)) (pss_one (ps_ret (pe_xfA (.head _) hz hf (pv 0)))) pss_nil)
  (pss_cons (ps_if (pt_cmpR og_in (pe_xfA (.head _) hz hf (pv 0)) (pe_lst (pa_cons pe_str (pa_cons pe_str pa_nil))) (by rfl)) (pss_one (ps_ret (pe_xfA (.head _) hz hf (pv 0)))) pss_nil)
  (pss_cons (ps_if (pt_cmpR og_in (pe_xfA (.head _) hz hf (pv 0)) (pe_lst (pa_cons pe_str (pa_cons pe_str pa_nil))) (by rfl)) (pss_one (ps_ret (pe_xfA (.head _) hz hf (pv 0)))) pss_nil)
  (pss_cons (ps_if (pt_cmpR (og_eq hu) (pe_xfA (.head _) hz hf (pv 0)) pe_str (nomark _)) (pss_one (ps_ret (pe_xfA (.head _) hz hf (pv 0)))) pss_nil)
  (pss_cons (ps_if (pt_cmpR (og_eq hu) (pe_xfA (.head _) hz hf (pv 0)) pe_str (nomark _)) (pss_one (ps_ret (pe_xfA (.head _) hz hf (pv 0)))) pss_nil)
  (pss_one (ps_ret (pe_ifExp (pt_cmpR og_in (pe_xfA (.head _) hz hf (pv 0)) (pe_lst (pa_cons pe_str (pa_cons pe_str (pa_cons pe_str pa_nil)))) (by rfl)) pe_non (pe_xfA (.head _) hz hf (pv 0)))))))))), (sat_field h).2⟩), g, kp, b⟩
theorem cal_try {f : Addr} {fd : FuncData} (F : Fun K "_law_try" "_law_try" s_try f fd) (g : mg "_law_try" = some (.ref f)) (C__law_field : FldOk P w K mg base 1 "_law_field") (e_EntryError : mg "EntryError" = some (.ref (cls_at K "EntryError"))) (e_Missing : mg "Missing" = some (.ref (cls_at K "Missing"))) (e_NothingLeft : mg "NothingLeft" = some (.ref (cls_at K "NothingLeft"))) : TryOk P w K mg base 11 10 "_law_try" := by
  have nd := sc_try.nd
  obtain ⟨f1, fd1, FE, gm, kp, b⟩ := C__law_field.ex
  exact try_mk F sc_try g (fun _ _ _ _ _ _ _ => rfl) (fun cdv A outer s H f tl hr c => pss_one (ps_try_asT rfl rfl nd rfl rfl ⟨by rfl, by decide, .inl e_EntryError⟩ ⟨by rfl, by decide, .inl e_Missing⟩ ⟨by rfl, by decide, .inl e_NothingLeft⟩
    (fun W pn xe tk => pss_ask c rfl tk hr rfl (.inl rfl) (by decide) (by decide)) (fun a oe cls d pn hz hf => pss_one (ps_ret (pe_tup (pa_cons (pe_xfA (.head _) hz hf (pv 1)) (pa_cons (pe_callE FE (L2H.roomH_mark (hr.mono (by decide)) _) (.head _) hz hf (by rfl) gm kp b (pa_cons (pv 1) pa_nil)) pa_nil)))))))
theorem cal_names {f : Addr} {fd : FuncData} (F : Fun K "_law_names" "_law_names" s_names f fd) (g : mg "_law_names" = some (.ref f)) (C__law_draw : C8.Cal P w K mg base 1 "_law_draw" (sp_draw K) []) (C__law_of : C8.Cal P w K mg base 2 "_law_of" (sp_ofS K) []) (m_list : mg "list" = none) (m_range : mg "range" = none) (m_len : mg "len" = none) : C8.Cal P w K mg base 3 "_law_names" (sp_names K) [] := by
  have G : FnOk P w K mg base CX0 (2 + 1) f fd ["_law_bag", "_law_many"] (sp_names K) := by
    refine F.ok sc_names (fun vs H Q E h => (sat_names h).1) (fun cdv A outer s H vs Q E hr h => ?_)
    have nd := sc_names.nd
    exact ⟨_, (pss_cons (ps_par (i := 2) (j := 3) (by rfl) nd rfl rfl (by decide) rfl rfl (pa_cons (pe_callTy (cg_listS rfl) (by rfl) m_list (by decide +kernel) (pa_cons pe_str pa_nil)) (pa_cons (pe_lst pa_nil) pa_nil)) (by rfl))
  (pss_cons (ps_set (i := 4) nd rfl (.inl rfl) (pe_join0 (pe_lc (own := [("_law_k", 7)]) (g := (gName 7)) (tt := tYes) rfl nd (pi_range1 (by rfl) m_range (pa_cons (C8.pe_c C__law_draw hr (by decide) (by rfl) (pa_cons (pv 0) (pa_cons pe_int pa_nil))) pa_nil)) (blkOk_by (N := ["_law_bag", "_law_many", "_law_marks", "_law_found", "_law_stem", "_law_at", "_law_near", "_law_k", "_law_mark", "_law_tail", "_law_j"]) (sc := defScope s_names) (by decide +kernel)) (fun _ _ _ _ _ => (pg_name (i := 7) nd rfl (.inl rfl))) (fun _ _ _ _ _ => pts_nil) (fun _ _ _ _ _ => (C8.pe_c C__law_of hr (by decide) (by rfl) (pa_cons (pv 0) (pa_cons pe_str pa_nil)))))))
  (pss_cons (ps_par (i := 5) (j := 6) (by rfl) nd rfl rfl (by decide) rfl rfl (pa_cons (C8.pe_c C__law_draw hr (by decide) (by rfl) (pa_cons (pv 0) (pa_cons (pe_op og_add (pe_callB cg_len (by rfl) m_len (by decide +kernel) (pa_cons (pv 4) pa_nil)) pe_int) pa_nil))) (pa_cons (pe_cmpR (og_eq hr.units) (C8.pe_c C__law_draw hr (by decide) (by rfl) (pa_cons (pv 0) (pa_cons pe_int pa_nil))) pe_int (nomark _)) pa_nil)) (by rfl))
  (pss_cons (ps_for PassesOwn.never rfl (pi_range1 (by rfl) m_range (pa_cons (pv 1) pa_nil)) (pg_name (i := 7) nd rfl (.inl rfl)) (pss_cons (ps_set (i := 8) nd rfl (.inl rfl) (pe_bm PySem.F.plainAttrs_list PySem.F.slot_list_pop PySem.F.type_list_pop mt_popAt (pv 2) (pa_cons (C8.pe_c C__law_draw hr (by decide) (by rfl) (pa_cons (pv 0) (pa_cons (pe_callB cg_len (by rfl) m_len (by decide +kernel) (pa_cons (pv 2) pa_nil)) pa_nil))) pa_nil)))
  (pss_cons (ps_set (i := 9) nd rfl (.inl rfl) (pe_join0 (pe_lc (own := [("_law_j", 10)]) (g := (gName 10)) (tt := tYes) rfl nd (pi_range1 (by rfl) m_range (pa_cons (C8.pe_c C__law_draw hr (by decide) (by rfl) (pa_cons (pv 0) (pa_cons pe_int pa_nil))) pa_nil)) (blkOk_by (N := ["_law_bag", "_law_many", "_law_marks", "_law_found", "_law_stem", "_law_at", "_law_near", "_law_k", "_law_mark", "_law_tail", "_law_j"]) (sc := defScope s_names) (by decide +kernel)) (fun _ _ _ _ _ => (pg_name (i := 10) nd rfl (.inl rfl))) (fun _ _ _ _ _ => pts_nil) (fun _ _ _ _ _ => (C8.pe_c C__law_of hr (by decide) (by rfl) (pa_cons (pv 0) (pa_cons pe_str pa_nil)))))))
  (pss_one (ps_expr (pe_bm PySem.F.plainAttrs_list PySem.F.slot_list_append PySem.F.type_list_append mt_append (pv 3) (pa_cons (pe_ifExp (pt_truth (pv 6) (fun _ => rfl)) (pe_op og_add (pe_op og_add (pe_slice og_sl (pv 4) po_none (po_some (pv 5))) (pv 8)) (pe_slice og_sl (pv 4) (po_some (pv 5)) po_none)) (pe_op og_add (pv 8) (pv 9))) pa_nil)))))))
  (pss_one (ps_ret (pv 3))))))), (sat_names h).2⟩
  exact cal_mk F G g fun _ _ _ _ _ _ us hl => match us, hl with | [_, _], _ => rfl
theorem cal_level {f : Addr} {fd : FuncData} (F : Fun K "_law_level" "_law_level" s_level f fd) (g : mg "_law_level" = some (.ref f)) (C__law_names : C8.Cal P w K mg base 3 "_law_names" (sp_names K) []) (C__law_draw : C8.Cal P w K mg base 1 "_law_draw" (sp_draw K) []) (m_len : mg "len" = none) (m_zip : mg "zip" = none) : C8.Cal P w K mg base 4 "_law_level" (sp_level K) [] := by
  have G : FnOk P w K mg base CX0 (3 + 1) f fd ["_law_bag", "_law_fields", "_law_inner_here"] (sp_level K) := by
    refine F.ok sc_level (fun vs H Q E h => (sat_level h).1) (fun cdv A outer s H vs Q E hr h => ?_)
    have nd := sc_level.nd
    exact ⟨_, (pss_cons (ps_set (i := 3) nd rfl (.inl rfl) (C8.pe_c C__law_names hr (by decide) (by rfl) (pa_cons (pv 0) (pa_cons (pe_op og_add (pe_op og_add pe_int (C8.pe_c C__law_draw hr (by decide) (by rfl) (pa_cons (pv 0) (pa_cons (pv 1) pa_nil)))) (pe_callB cg_len (by rfl) m_len (by decide +kernel) (pa_cons (pv 2) pa_nil))) pa_nil))))
  (pss_cons (ps_set (i := 4) nd rfl (.inl rfl) (pe_op og_sub (pe_callB cg_len (by rfl) m_len (by decide +kernel) (pa_cons (pv 3) pa_nil)) (pe_callB cg_len (by rfl) m_len (by decide +kernel) (pa_cons (pv 2) pa_nil))))
  (pss_one (ps_ret (pe_lst (pa_cons (pe_slice og_sl (pv 3) po_none (po_some (pv 4))) (pa_cons (pe_lc (own := [("_law_name", 5), ("_law_level_here", 6)]) (g := (gTup K 2 (gCons (gName 5) (gCons (gName 6) gNil)))) (tt := tYes) rfl nd (pi_zipA (by rfl) m_zip (pa_cons (pe_slice og_sl (pv 3) (po_some (pv 4)) po_none) (pa_cons (pv 2) pa_nil))) (blkOk_by (N := ["_law_bag", "_law_fields", "_law_inner_here", "_law_names_here", "_law_many", "_law_name", "_law_level_here"]) (sc := defScope s_level) (by decide +kernel)) (fun _ _ _ _ _ => (pg_tup rfl (pgs_cons (pg_name (i := 5) nd rfl (.inl rfl)) (pgs_cons (pg_name (i := 6) nd rfl (.inl rfl)) pgs_nil)))) (fun _ _ _ _ _ => pts_nil) (fun _ _ _ _ _ => (pe_tup (pa_cons (pv 5) (pa_cons (pv 6) pa_nil))))) pa_nil))))))), (sat_level h).2⟩
  exact cal_mk F G g fun _ _ _ _ _ _ us hl => match us, hl with | [_, _, _], _ => rfl
theorem cal_some_level {f : Addr} {fd : FuncData} (F : Fun K "_law_some_level" "_law_some_level" s_some_level f fd) (g : mg "_law_some_level" = some (.ref f)) (C__law_level : C8.Cal P w K mg base 4 "_law_level" (sp_level K) []) : C8.Cal P w K mg base 5 "_law_some_level" (sp_some_level K) [] := by
  have G : FnOk P w K mg base CX0 (4 + 1) f fd ["_law_bag", "_law_shape", "_law_fields"] (sp_some_level K) := by
    refine F.ok sc_some_level (fun vs H Q E h => (sat_some_level h).1) (fun cdv A outer s H vs Q E hr h => ?_)
    have nd := sc_some_level.nd
    exact ⟨_, (pss_cons (ps_set (i := 3) nd rfl (.inl rfl) (C8.pe_c C__law_level hr (by decide) (by rfl) (pa_cons (pv 0) (pa_cons (pv 2) (pa_cons (pe_lst (pa_cons (C8.pe_c C__law_level hr (by decide) (by rfl) (pa_cons (pv 0) (pa_cons (pv 2) (pa_cons (pe_lst pa_nil) pa_nil)))) pa_nil)) pa_nil)))))
  (pss_cons (ps_set (i := 4) nd rfl (.inl rfl) (C8.pe_c C__law_level hr (by decide) (by rfl) (pa_cons (pv 0) (pa_cons (pv 2) (pa_cons (pe_lst pa_nil) pa_nil)))))
  (pss_cons (ps_set (i := 5) nd rfl (.inl rfl) (pe_ix ix_seq (pe_lst (pa_cons (pe_lst pa_nil) (pa_cons (pe_lst (pa_cons (pv 4) pa_nil)) (pa_cons (pe_lst (pa_cons (pv 3) pa_nil)) (pa_cons (pe_lst (pa_cons (pv 4) (pa_cons (C8.pe_c C__law_level hr (by decide) (by rfl) (pa_cons (pv 0) (pa_cons (pv 2) (pa_cons (pe_lst pa_nil) pa_nil)))) pa_nil))) (pa_cons (pe_lst (pa_cons (pv 3) (pa_cons (pv 4) pa_nil))) pa_nil)))))) (pv 1) (fun _ _ => rfl)))
  (pss_one (ps_ret (C8.pe_c C__law_level hr (by decide) (by rfl) (pa_cons (pv 0) (pa_cons (pv 2) (pa_cons (pv 5) pa_nil))))))))), (sat_some_level h).2⟩
  exact cal_mk F G g fun _ _ _ _ _ _ us hl => match us, hl with | [_, _, _], _ => rfl
theorem cal_level_text {f : Addr} {fd : FuncData} (F : Fun K "_law_level_text" "_law_level_text" s_level_text f fd) (g : mg "_law_level_text" = some (.ref f)) (m_list : mg "list" = none) : ∀ n, C8.Cal P w K mg base (0 + 1 * n) "_law_level_text" (sp_level_text K n) []
  | 0 => ⟨f, fd, ["_law_level_here"], [], fnOk_never (never_level_text K), g, F.kp, F.binds fun _ _ _ _ _ _ us hl => match us, hl with | [_], _ => rfl, .nil⟩
  | n + 1 => by
    have C__law_level_text := cal_level_text F g m_list n
    have G : FnOk P w K mg base CX0 ((0 + 1 * n + 0) + 1) f fd ["_law_level_here"] (sp_level_text K (n + 1)) := by
      refine F.ok sc_level_text (fun vs H Q E h => (sat_level_text (n := n) h).1) (fun cdv A outer s H vs Q E hr h => ?_)
      have nd := sc_level_text.nd
      exact ⟨_, (pss_cons (ps_set (i := 1) nd rfl (.inl rfl) (pe_op og_add (pe_callTy cg_list (by rfl) m_list (by decide +kernel) (pa_cons (pe_ix ix_seq (pv 0) pe_int (fun _ _ => rfl)) pa_nil)) (pe_lc (own := [("_law_name", 2), ("_law_inner_here", 3)]) (g := (gTup K 2 (gCons (gName 2) (gCons (gName 3) gNil)))) (tt := tYes) rfl nd (pi_list (pe_ix ix_seq (pv 0) pe_int (fun _ _ => rfl))) (blkOk_by (N := ["_law_level_here", "_law_words", "_law_name", "_law_inner_here"]) (sc := defScope s_level_text) (by decide +kernel)) (fun _ _ _ _ _ => (pg_tup rfl (pgs_cons (pg_name (i := 2) nd rfl (.inl rfl)) (pgs_cons (pg_name (i := 3) nd rfl (.inl rfl)) pgs_nil)))) (fun _ _ _ _ _ => pts_nil) (fun _ _ _ _ _ => (pe_op og_add (pe_op og_add (pe_op og_add (pv 2) pe_str) (C8.pe_c C__law_level_text hr (by omega) (by rfl) (pa_cons (pv 3) pa_nil))) pe_str)))))
    (pss_one (ps_ret (pe_joinS (pv 1))))), (sat_level_text (n := n) h).2⟩
    exact cal_mk F G g fun _ _ _ _ _ _ us hl => match us, hl with | [_], _ => rfl
theorem cal_schema {f : Addr} {fd : FuncData} (F : Fun K "_law_schema" "_law_schema" s_schema f fd) (g : mg "_law_schema" = some (.ref f)) (C__law_level_text : C8.Cal P w K mg base 9 "_law_level_text" (sp_level_text K 9) []) (S_Schema_read : Sta P w K mg base 42 (cls_at K "Schema") "read" (sp_Schema_read K)) (g_Schema : ∃ u, mg "Schema" = some u ∧ RelV (.ref (cls_at K "Schema")) u) : C8.Cal P w K mg base 43 "_law_schema" (sp_schema K) [] := by
  have G : FnOk P w K mg base CX0 (42 + 1) f fd ["_law_level_here"] (sp_schema K) := by
    refine F.ok sc_schema (fun vs H Q E h => (sat_schema h).1) (fun cdv A outer s H vs Q E hr h => ?_)
    have nd := sc_schema.nd
    exact ⟨_, (pss_one (ps_ret (pe_st S_Schema_read hr (by decide) (C8.pe_gc (by rfl) g_Schema) (pa_cons (C8.pe_c C__law_level_text hr (by decide) (by rfl) (pa_cons (pv 0) pa_nil)) pa_nil)))), (sat_schema h).2⟩
  exact cal_mk F G g fun _ _ _ _ _ _ us hl => match us, hl with | [_], _ => rfl
theorem cal_lists {f : Addr} {fd : FuncData} (F : Fun K "_law_lists" "_law_lists" s_lists f fd) (g : mg "_law_lists" = some (.ref f)) : ∀ n, C8.Cal P w K mg base (0 + 1 * n) "_law_lists" (sp_lists K n) []
  | 0 => ⟨f, fd, ["_law_level_here"], [], fnOk_never (never_lists K), g, F.kp, F.binds fun _ _ _ _ _ _ us hl => match us, hl with | [_], _ => rfl, .nil⟩
  | n + 1 => by
    have C__law_lists := cal_lists F g  n
    have G : FnOk P w K mg base CX0 ((0 + 1 * n + 0) + 1) f fd ["_law_level_here"] (sp_lists K (n + 1)) := by
      refine F.ok sc_lists (fun vs H Q E h => (sat_lists (n := n) h).1) (fun cdv A outer s H vs Q E hr h => ?_)
      have nd := sc_lists.nd
      exact ⟨_, (pss_cons (ps_set (i := 1) nd rfl (.inl rfl) (pe_lst pa_nil))
    (pss_cons (ps_for PassesOwn.never rfl (pi_list (pe_ix ix_seq (pv 0) pe_int (fun _ _ => rfl))) (pg_tup rfl (pgs_cons (pg_name (i := 2) nd rfl (.inr rfl)) (pgs_cons (pg_name (i := 3) nd rfl (.inl rfl)) pgs_nil))) (pss_one (ps_set (i := 1) nd rfl (.inl rfl) (pe_op og_add (pe_op og_add (pv 1) (pe_lst (pa_cons (pe_lst (pa_cons (pv 2) pa_nil)) pa_nil))) (pe_lc (own := [("_law_more", 4)]) (g := (gName 4)) (tt := tYes) rfl nd (pi_list (C8.pe_c C__law_lists hr (by omega) (by rfl) (pa_cons (pv 3) pa_nil))) (blkOk_by (N := ["_law_level_here", "_law_found", "_law_name", "_law_inner_here", "_law_more"]) (sc := defScope s_lists) (by decide +kernel)) (fun _ _ _ _ _ => (pg_name (i := 4) nd rfl (.inl rfl))) (fun _ _ _ _ _ => pts_nil) (fun _ _ _ _ _ => (pe_op op_catS (pe_lst (pa_cons (pv 2) pa_nil)) (pv 4))))))))
    (pss_one (ps_ret (pv 1))))), (sat_lists (n := n) h).2⟩
    exact cal_mk F G g fun _ _ _ _ _ _ us hl => match us, hl with | [_], _ => rfl
theorem cal_inner {f : Addr} {fd : FuncData} (F : Fun K "_law_inner" "_law_inner" s_inner f fd) (g : mg "_law_inner" = some (.ref f)) : C8.Cal P w K mg base 1 "_law_inner" (sp_inner K) [] := by
  have G : FnOk P w K mg base CX0 (0 + 1) f fd ["_law_level_here", "_law_names_here"] (sp_inner K) := by
    refine F.ok sc_inner (fun vs H Q E h => (sat_inner h).1) (fun cdv A outer s H vs Q E hr h => ?_)
    have nd := sc_inner.nd
    exact ⟨_, (pss_cons (ps_for PassesOwn.never rfl (pi_list (pv 1)) (pg_name (i := 2) nd rfl (.inr rfl)) (pss_one (ps_set (i := 0) nd rfl (.inl rfl) (pe_ix ix_seq (pe_lc (own := [("_law_known", 3), ("_law_inner_here", 4)]) (g := (gTup K 2 (gCons (gName 3) (gCons (gName 4) gNil)))) (tt := (tTest (tOp (gEq K) (tVar 3) (tVar 2)))) rfl nd (pi_list (pe_ix ix_seq (pv 0) pe_int (fun _ _ => rfl))) (blkOk_by (N := ["_law_level_here", "_law_names_here", "_law_name", "_law_known", "_law_inner_here"]) (sc := defScope s_inner) (by decide +kernel)) (fun _ _ _ _ _ => (pg_tup rfl (pgs_cons (pg_name (i := 3) nd rfl (.inl rfl)) (pgs_cons (pg_name (i := 4) nd rfl (.inl rfl)) pgs_nil)))) (fun _ _ _ _ _ => (pts_one (pt_cmpR (og_eq hr.units) (pv 3) (pv 2) (nomark _)))) (fun _ _ _ _ _ => (pv 4))) pe_int (fun _ _ => rfl)))))
  (pss_one (ps_ret (pv 0)))), (sat_inner h).2⟩
  exact cal_mk F G g fun _ _ _ _ _ _ us hl => match us, hl with | [_, _], _ => rfl
theorem cal_paths {f : Addr} {fd : FuncData} (F : Fun K "_law_paths" "_law_paths" s_paths f fd) (g : mg "_law_paths" = some (.ref f)) (C__law_lists : C8.Cal P w K mg base 9 "_law_lists" (sp_lists K 9) []) (C__law_inner : C8.Cal P w K mg base 1 "_law_inner" (sp_inner K) []) : C8.Cal P w K mg base 10 "_law_paths" (sp_paths K) [] := by
  have G : FnOk P w K mg base CX0 (9 + 1) f fd ["_law_level_here"] (sp_paths K) := by
    refine F.ok sc_paths (fun vs H Q E h => (sat_paths h).1) (fun cdv A outer s H vs Q E hr h => ?_)
    have nd := sc_paths.nd
    exact ⟨_, (pss_cons (ps_setLc (i := 1) (own := [("_law_field_here", 3)]) (g := (gName 3)) (tt := tYes) rfl nd rfl rfl (sw_true rfl rfl rfl (by decide +kernel)) (pi_list (pe_ix ix_seq (pv 0) pe_int (fun _ _ => rfl))) (blkOk_by (N := ["_law_level_here", "_law_found", "_law_names_here", "_law_field_here"]) (sc := defScope s_paths) (by decide +kernel)) (fun _ _ _ _ _ => (pg_name (i := 3) nd rfl (.inl rfl))) (fun _ _ _ _ _ => pts_nil) (fun _ _ _ _ _ => (pv 3)))
  (pss_cons (ps_for PassesOwn.never rfl (pi_list (C8.pe_c C__law_lists hr (by decide) (by rfl) (pa_cons (pv 0) pa_nil))) (pg_name (i := 2) nd rfl (.inr rfl)) (pss_one (ps_set (i := 1) nd rfl (.inl rfl) (pe_op og_add (pv 1) (pe_lc (own := [("_law_field_here", 3)]) (g := (gName 3)) (tt := tYes) rfl nd (pi_list (pe_ix ix_seq (C8.pe_c C__law_inner hr (by decide) (by rfl) (pa_cons (pv 0) (pa_cons (pv 2) pa_nil))) pe_int (fun _ _ => rfl))) (blkOk_by (N := ["_law_level_here", "_law_found", "_law_names_here", "_law_field_here"]) (sc := defScope s_paths) (by decide +kernel)) (fun _ _ _ _ _ => (pg_name (i := 3) nd rfl (.inl rfl))) (fun _ _ _ _ _ => pts_nil) (fun _ _ _ _ _ => (pe_joinS (pe_op op_catS (pv 2) (pe_lst (pa_cons (pv 3) pa_nil))))))))))
  (pss_one (ps_ret (pv 1))))), (sat_paths h).2⟩
  exact cal_mk F G g fun _ _ _ _ _ _ us hl => match us, hl with | [_], _ => rfl
theorem ok_law {f cl Pt : Addr} {oc kV doc pm ct : Value} {od an : Option Addr} {osl : Array (Option Value)} (lk : K.lookup f = some ⟨oc, od, .func (PySem.W.fnOf "law" "law" (defArgs s_law) (defBody s_law) (defScope s_law) .none kV doc pm an (.ref cl) ct), osl⟩) (hcd : PySem.W.codeIn K (.ref cl) "law" = true) (TB : LamX.TabB base mg cl Pt) (C__law_open : C8.Cal P w K mg base 1 "_law_open" (sp_open K) []) (C__law_some_level : C8.Cal P w K mg base 5 "_law_some_level" (sp_some_level K) []) (C__law_draw : C8.Cal P w K mg base 1 "_law_draw" (sp_draw K) []) (C__law_lists : C8.Cal P w K mg base 9 "_law_lists" (sp_lists K 9) []) (C__law_schema : C8.Cal P w K mg base 43 "_law_schema" (sp_schema K) []) (C__law_level_text : C8.Cal P w K mg base 9 "_law_level_text" (sp_level_text K 9) []) (C__law_inner : C8.Cal P w K mg base 1 "_law_inner" (sp_inner K) []) (C__law_like : C8.Cal P w K mg base 9 "_law_like" (sp_like K 9) []) (C__law_paths : C8.Cal P w K mg base 10 "_law_paths" (sp_paths K) []) (C__law_of : C8.Cal P w K mg base 2 "_law_of" (sp_ofS K) []) (M_Schema_text : C8.Met P w K mg base 9 (cls_at K "Schema") "text" (sp_Schema_text K 9) []) (M_Schema_level : MetXD P w K mg base 4 (cls_at K "Schema") "level" (sp_Schema_level K) []) (M_Schema_eq : C8.Met P w K mg base 27 (cls_at K "Schema") "__eq__" (sp_Schema_eq K 9) []) (M_Schema_is_field : C8.Met P w K mg base 4 (cls_at K "Schema") "is_field" (sp_Schema_is_field K) []) (MK_Schema_level_path : MetK P w K mg base (L2.CX P w) 4 (cls_at K "Schema") "level" (sp_Schema_level K) ["path"] [0]) (MK_Schema_is_field_path : MetK P w K mg base C8.CX0 4 (cls_at K "Schema") "is_field" (sp_Schema_is_field K) ["path"] [0]) (M0_Schema_level : MetXD P w K mg base 4 (cls_at K "Schema") "level" (sp_Schema_level K) [.str ""]) (m_range : mg "range" = none) (m_len : mg "len" = none) (TR : TryOk P w K mg base 11 10 "_law_try") :
    FnOk P w K mg base CX0 44 f (PySem.W.fnOf "law" "law" (defArgs s_law) (defBody s_law) (defScope s_law) .none kV doc pm an (.ref cl) ct) ["_law_script"] (fun vs H Q E => ∀ lw : LamW, lw.P = Pt → sp_law K lw vs H Q E) := by
  refine fn_of (k := 43) lk hcd sc_law (fun vs H Q E h => (sat_law (h ⟨Pt, "", fun _ _ _ _ => .tbl #[], fun _ => false⟩ rfl)).1) fun A outer s H vs Q E hr h => ?_
  have nd := sc_law.nd
  exact ⟨t_law K ⟨Pt, _, ((fun (o0 o1 : Addr → Addr → Addr → HO) (i : Nat) => match i with | 0 => o0 | _ => o1) _ _), (fun i => false)⟩, PSs.nox (pss_cons (ps_set (i := 1) nd rfl (.inl rfl) (C8.pe_c C__law_open hr (by decide) (by rfl) (pa_cons (pv 0) pa_nil)))
  (pss_cons (ps_for PassesOwn.never rfl (pi_range1 (by rfl) m_range (pa_cons pe_int pa_nil)) (pg_name (i := 2) nd rfl (.inl rfl)) (pss_cons (ps_set (i := 3) nd rfl (.inl rfl) (C8.pe_c C__law_some_level hr (by decide) (by rfl) (pa_cons (pv 1) (pa_cons (pe_op og_add pe_int (C8.pe_c C__law_draw hr (by decide) (by rfl) (pa_cons (pv 1) (pa_cons pe_int pa_nil)))) (pa_cons pe_int pa_nil)))))
  (pss_cons (ps_asg (pe_tup (pa_cons (C8.pe_c C__law_schema hr (by decide) (by rfl) (pa_cons (pv 3) pa_nil)) (pa_cons (C8.pe_c C__law_lists hr (by decide) (by rfl) (pa_cons (pv 3) pa_nil)) pa_nil))) (pg_tup rfl (pgs_cons (pg_name (i := 4) nd rfl (.inr rfl)) (pgs_cons (pg_name (i := 5) nd rfl (.inl rfl)) pgs_nil))))
  (pss_cons (ps_for PassesOwn.never rfl (pi_list (pv 5)) (pg_name (i := 6) nd rfl (.inl rfl)) (pss_cons (ps_set (i := 7) nd rfl (.inl rfl) (C8.pe_c C__law_level_text hr (by decide) (by rfl) (pa_cons (C8.pe_c C__law_inner hr (by decide) (by rfl) (pa_cons (pv 3) (pa_cons (pv 6) pa_nil))) pa_nil)))
  (pss_one (ps_if (pt_not (pt_val (C8.pe_c C__law_like hr (by decide) (by rfl) (pa_cons (pe_lst (pa_cons (C8.pe_mt0 M_Schema_text hr (by decide) (pe_mXD M_Schema_level hr (by decide) passL (pv 4) (pa_cons (pe_joinS (pv 6)) pa_nil))) (pa_cons (C8.pe_mt0 M_Schema_text hr (by decide) (pe_mK (ks := ["path"]) (perm := [0]) MK_Schema_level_path hr (by decide) passL (pv 4) (pk_cons (pe_joinS (pv 6)) pk_nil))) pa_nil))) (pa_cons (pe_lst (pa_cons (pv 7) (pa_cons (pv 7) pa_nil))) pa_nil))))) (pss_one (ps_ret pe_bl)) pss_nil))))
  (pss_cons (ps_if (PW.pt (pw_or (pt_cmpR (op_neO M_Schema_eq NK_Schema.ne SK_Schema.ins.hm hr (by decide)) (pe_mXD0 M0_Schema_level hr (by decide) passL (pv 4)) (pv 4) (nomark _)) (pw_or1 (pt_cmpR (op_neO M_Schema_eq NK_Schema.ne SK_Schema.ins.hm hr (by decide)) (pe_mXD M_Schema_level hr (by decide) passL (pv 4) (pa_cons pe_str pa_nil)) (pv 4) (nomark _))))) (pss_one (ps_ret pe_bl)) pss_nil)
  (pss_cons (ps_par (i := 8) (j := 9) (by rfl) nd rfl rfl (by decide) rfl rfl (pa_cons (C8.pe_c C__law_paths hr (by decide) (by rfl) (pa_cons (pv 3) pa_nil)) (pa_cons (pe_lc (own := [("_law_names_here", 6)]) (g := (gName 6)) (tt := tYes) rfl nd (pi_list (pv 5)) (blkOk_by (N := ["_law_script", "_law_bag", "_law_turn", "_law_level_here", "_law_schema_here", "_law_lists_here", "_law_names_here", "_law_due", "_law_paths_here", "_law_heads", "_law_base", "_law_near", "_law_late", "_law_found", "_law_odd", "_law_path_z"]) (sc := defScope s_law) (by decide +kernel)) (fun _ _ _ _ _ => (pg_name (i := 6) nd rfl (.inl rfl))) (fun _ _ _ _ _ => pts_nil) (fun _ _ _ _ _ => (pe_joinS (pv 6)))) pa_nil)) (by rfl))
  (pss_cons (ps_if (pt_not (pt_val (C8.pe_c C__law_like hr (by decide) (by rfl) (pa_cons (pe_lc (own := [("_law_path_z", 15)]) (g := (gName 15)) (tt := tYes) rfl nd (pi_list (pv 8)) (blkOk_by (N := ["_law_script", "_law_bag", "_law_turn", "_law_level_here", "_law_schema_here", "_law_lists_here", "_law_names_here", "_law_due", "_law_paths_here", "_law_heads", "_law_base", "_law_near", "_law_late", "_law_found", "_law_odd", "_law_path_z"]) (sc := defScope s_law) (by decide +kernel)) (fun _ _ _ _ _ => (pg_name (i := 15) nd rfl (.inl rfl))) (fun _ _ _ _ _ => pts_nil) (fun _ _ _ _ _ => (C8.pe_mt M_Schema_is_field hr (by decide) (pv 4) (pa_cons (pv 15) pa_nil)))) (pa_cons (pe_op og_mul (pe_lst (pa_cons pe_bl pa_nil)) (pe_callB cg_len (by rfl) m_len (by decide +kernel) (pa_cons (pv 8) pa_nil))) pa_nil))))) (pss_one (ps_ret pe_bl)) pss_nil)
  (pss_one (ps_for PassesOwn.never rfl (pi_list (pe_lst (pa_cons (C8.pe_c C__law_of hr (by decide) (by rfl) (pa_cons (pv 1) (pa_cons (pv 8) pa_nil))) (pa_cons (C8.pe_c C__law_of hr (by decide) (by rfl) (pa_cons (pv 1) (pa_cons (pv 9) pa_nil))) pa_nil)))) (pg_name (i := 10) nd rfl (.inl rfl)) (pss_cons (ps_set (i := 11) nd rfl (.inl rfl) (pe_lst (pa_tok (peb_op og_add (pv 10)) (pat_cons (pet_of (pe_op og_add pe_str (pv 10))) (pat_cons (pet_of (pe_op og_add (pe_op og_add (pv 10) pe_str) (C8.pe_c C__law_of hr (by decide) (by rfl) (pa_cons (pv 1) (pa_cons (pe_ix ix_seq (pv 3) pe_int (fun _ _ => rfl)) pa_nil))))) (pat_cons (pet_of (pe_op og_add (pv 10) pe_str)) (pat_cons (CwR.pet_replC (pv 10)) (pat_cons (CwR.pet_replC (pv 10)) (pat_cons (pet_of (pe_slice og_sl (pv 10) (po_some pe_int) po_none)) (pat_cons (pet_of (pe_upp (pv 10))) (pat_cons (pet_of (pe_op og_add (pe_op og_add (pe_ix ix_seq (pv 9) pe_int (fun _ _ => rfl)) pe_str) (pv 10))) (pat_cons (pet_of (pe_op og_add (pv 10) pe_str)) pat_nil))))))))))))
  (pss_cons (ps_set (i := 12) nd rfl (.inr rfl) (C8.pe_c C__law_of hr (by decide) (by rfl) (pa_cons (pv 1) (pa_cons (pv 11) pa_nil))))
  (pss_cons (ps_set (i := 7) nd rfl (.inl rfl) (pe_ifExp (pt_cmpR og_in (pv 12) (pv 9) (by rfl)) (pe_tup (pa_cons pe_str (pa_cons (C8.pe_c C__law_level_text hr (by decide) (by rfl) (pa_cons (C8.pe_c C__law_inner hr (by decide) (by rfl) (pa_cons (pv 3) (pa_cons (pe_bm PySem.F.plainAttrs_str PySem.F.slot_str_split PySem.F.type_str_split mt_split (pv 12) (pa_cons pe_str pa_nil)) pa_nil))) pa_nil)) pa_nil))) (pe_tup (pa_cons pe_str (pa_cons (pv 12) pa_nil)))))
  (pss_cons (ps_if (pt_cmpR (og_eq hr.units) (pv 12) pe_str (nomark _)) (pss_one (ps_set (i := 7) nd rfl (.inl rfl) (pe_tup (pa_cons pe_str (pa_cons (C8.pe_c C__law_level_text hr (by decide) (by rfl) (pa_cons (pv 3) pa_nil)) pa_nil))))) pss_nil)
  (pss_cons (ps_set (i := 13) nd rfl (.inl rfl) (pe_tryL TR ⟨TB, rfl, rfl⟩ (lamN0 (N := ["_law_script", "_law_bag", "_law_turn", "_law_level_here", "_law_schema_here", "_law_lists_here", "_law_names_here", "_law_due", "_law_paths_here", "_law_heads", "_law_base", "_law_near", "_law_late", "_law_found", "_law_odd", "_law_path_z"]) (sc := defScope s_law) (by decide +kernel)) rfl rfl hr (by decide) (by rfl) (fun A outer s H E f c hr => (C8.pe_mt0 M_Schema_text hr (by decide) (pe_mXD M_Schema_level hr (by decide) (passes_call (takes_of rfl rfl rfl rfl) (fun _ _ _ _ h => h)) (pv 4) (pa_cons (pv 12) pa_nil))))))
  (pss_one (ps_if (pt_not (pt_val (C8.pe_c C__law_like hr (by decide) (by rfl) (pa_cons (pe_lst (pa_cons (pe_mK (ks := ["path"]) (perm := [0]) MK_Schema_is_field_path hr (by decide) C8.pass0 (pv 4) (pk_cons (pv 12) pk_nil)) (pa_cons (pv 13) pa_nil))) (pa_cons (pe_lst (pa_cons (pe_cmpR og_in (pv 12) (pv 8) (by rfl)) (pa_cons (pv 7) pa_nil))) pa_nil))))) (pss_one (ps_ret pe_bl)) pss_nil))))))))))))))))
  (pss_cons (ps_set (i := 14) nd rfl (.inr rfl) (C8.pe_c C__law_of hr (by decide) (by rfl) (pa_cons (pv 1) (pa_cons (pe_lst (pa_cons pe_non (pa_cons pe_int (pa_cons pe_bl (pa_cons (pe_lst (pa_cons (pe_ix ix_seq (pv 9) pe_int (fun _ _ => rfl)) pa_nil)) (pa_cons (pe_tup (pa_cons (pe_ix ix_seq (pv 9) pe_int (fun _ _ => rfl)) pa_nil)) (pa_cons pe_str (pa_cons pe_str (pa_cons pe_str (pa_cons (pe_op og_add (pe_ix ix_seq (pv 9) pe_int (fun _ _ => rfl)) pe_str) pa_nil)))))))))) pa_nil))))
  (pss_one (ps_ret (C8.pe_c C__law_like hr (by decide) (by rfl) (pa_cons (pe_lst (pa_cons (pe_tryL TR ⟨TB, rfl, rfl⟩ (lamN0 (N := ["_law_script", "_law_bag", "_law_turn", "_law_level_here", "_law_schema_here", "_law_lists_here", "_law_names_here", "_law_due", "_law_paths_here", "_law_heads", "_law_base", "_law_near", "_law_late", "_law_found", "_law_odd", "_law_path_z"]) (sc := defScope s_law) (by decide +kernel)) rfl rfl hr (by decide) (by rfl) (fun A outer s H E f c hr => (pe_mXD M_Schema_level hr (by decide) (passes_call (takes_of rfl rfl rfl rfl) (fun _ _ _ _ h => h)) (pv 4) (pa_cons (pv 14) pa_nil)))) (pa_cons (C8.pe_mt M_Schema_is_field hr (by decide) (pv 4) (pa_cons (pv 14) pa_nil)) (pa_cons (C8.pe_mt M_Schema_is_field hr (by decide) (pv 4) (pa_cons pe_str pa_nil)) pa_nil)))) (pa_cons (pe_lst (pa_cons (pe_tup (pa_cons pe_str (pa_cons (pv 14) pa_nil))) (pa_cons pe_bl (pa_cons pe_bl pa_nil)))) pa_nil)))))))), (sat_law (h _ rfl)).2⟩
theorem metK_Schema_level_path {f : Addr} {fd : FuncData} (F : FunD K "level" "Schema.level" (defArgs s_Schema_level) (defBody s_Schema_level) (defScope s_Schema_level) [.str ""] [] f fd) (g : Cls K (cls_at K "Schema") ∧ Meth K (cls_at K "Schema") "level" f) (C_level_of : C8.Cal P w K mg base 3 "level_of" (sp_level_of K) []) (X_InvalidPath : ExcN P K mg "InvalidPath" "given" (cls_at K "InvalidPath")) : MetK P w K mg base (L2.CX P w) 4 (cls_at K "Schema") "level" (sp_Schema_level K) ["path"] [0] := by
  have G : FnOk P w K mg base (L2.CX P w) (3 + 1) f fd ["self", "path"] (sp_Schema_level K) := by
    refine FunD.ok (CX := L2.CX P w) F sc_Schema_level (fun vs H Q E h => (sat_Schema_level h).1) (fun cdv A outer s H vs Q E hr h => ?_)
    have nd := sc_Schema_level.nd
    exact ⟨_, (pss_cons (ps_set (i := 2) nd rfl (.inl rfl) (C8.pe_c C_level_of hr (by decide) (by rfl) (pa_cons (pv 0) (pa_cons (pv 1) pa_nil))))
  (pss_cons (ps_if (pt_cmpR op_isN1 (pv 2) pe_non (nomark _)) (pss_one (ps_raiseX rfl X_InvalidPath hr (by decide) (takes_of rfl rfl rfl rfl) (pv 1) (by rfl) (by decide))) pss_nil)
  (pss_one (ps_ret (pv 2))))), (sat_Schema_level h).2⟩
  exact ⟨f, fd, _, g.1, g.2, G, kbindsD F (by decide) fun _ _ _ _ _ _ _ _ ws its h1 h2 => match ws, its, h1, h2 with | [_], [_], _, _ => ⟨_, rfl, rfl⟩⟩
theorem metK_Schema_is_field_path {f : Addr} {fd : FuncData} (F : Fun K "is_field" "Schema.is_field" s_Schema_is_field f fd) (g : Cls K (cls_at K "Schema") ∧ Meth K (cls_at K "Schema") "is_field" f) (C_level_of : C8.Cal P w K mg base 3 "level_of" (sp_level_of K) []) (m_isinstance : mg "isinstance" = none) (m_str : mg "str" = none) : MetK P w K mg base C8.CX0 4 (cls_at K "Schema") "is_field" (sp_Schema_is_field K) ["path"] [0] := by
  have G : FnOk P w K mg base CX0 (3 + 1) f fd ["self", "path"] (sp_Schema_is_field K) := by
    refine F.ok sc_Schema_is_field (fun vs H Q E h => (sat_Schema_is_field h).1) (fun cdv A outer s H vs Q E hr h => ?_)
    have nd := sc_Schema_is_field.nd
    exact ⟨_, (pss_cons (ps_if (pt_not (pt_val (pe_callB cg_isi (by rfl) m_isinstance (by decide +kernel) (pa_cons (pv 1) (pa_cons (pe_bltn (v := .ty "str") (u := .type "str") (by rfl) m_str (by decide +kernel) rfl) pa_nil))))) (pss_one (ps_ret pe_bl)) pss_nil)
  (pss_cons (ps_asg (pe_bm PySem.F.plainAttrs_str PySem.F.slot_str_rpartition PySem.F.type_str_rpartition mt_rpartition (pv 1) (pa_cons pe_str pa_nil)) (pg_tup rfl (pgs_cons (pg_name (i := 2) nd rfl (.inl rfl)) (pgs_cons (pg_name (i := 3) nd rfl (.inl rfl)) (pgs_cons (pg_name (i := 4) nd rfl (.inl rfl)) pgs_nil)))))
  (pss_cons (ps_if (PW.pt (pw_and (pt_cmpR (og_ne hr.units) (pv 3) pe_str (nomark _)) (pw_and1 (pt_cmpR (og_eq hr.units) (pv 2) pe_str (nomark _))))) (pss_one (ps_ret pe_bl)) pss_nil)
  (pss_cons (ps_set (i := 5) nd rfl (.inl rfl) (C8.pe_c C_level_of hr (by decide) (by rfl) (pa_cons (pv 0) (pa_cons (pv 2) pa_nil))))
  (pss_one (ps_ret (pe_and (pe_cmpR op_notN1 (pv 5) pe_non (nomark _)) (pe_one (pe_cmpR og_in (pv 4) (pe_fld (pv 5) rfl) (by rfl)))))))))), (sat_Schema_is_field h).2⟩
  exact ⟨f, fd, _, g.1, g.2, G, kbindsM_of F (by decide) fun _ _ _ _ _ _ _ ws hl => match ws, hl with | [_], _ => rfl⟩
end
/-! ### the end -/
theorem all_mk {l : PySem.W.OpenLaw} {w : World} {K : PySem.W.Frag} {h : Heap} {mg : Str → Option Value} {fa : Addr} (X : K.In h) (G : h.Ns mainGlobals mg) (hfa : mg "law" = some (.ref fa))
    {h_EntryError : Addr}
    {h_Missing : Addr}
    {h_NothingLeft : Addr}
    {h_InvalidPath : Addr}
    {h_Schema : Addr}
    {f0 : Addr} {od0 an0 : Option Addr} {sl0 : Array (Option Value)} {oc0 kV0 dc0 pm0 cd0 ct0 : Value}
    {f1 : Addr} {od1 an1 : Option Addr} {sl1 : Array (Option Value)} {oc1 kV1 dc1 pm1 cd1 ct1 : Value}
    {f2 : Addr} {od2 an2 : Option Addr} {sl2 : Array (Option Value)} {oc2 kV2 dc2 pm2 cd2 ct2 : Value}
    {f3 : Addr} {od3 an3 : Option Addr} {sl3 : Array (Option Value)} {oc3 kV3 dc3 pm3 cd3 ct3 : Value}
    {f4 : Addr} {od4 an4 : Option Addr} {sl4 : Array (Option Value)} {oc4 kV4 dc4 pm4 cd4 ct4 : Value}
    {f5 : Addr} {od5 an5 : Option Addr} {sl5 : Array (Option Value)} {oc5 kV5 dc5 pm5 cd5 ct5 : Value}
    {p5 : Addr} {r5 : List Value}
    {f6 : Addr} {od6 an6 : Option Addr} {sl6 : Array (Option Value)} {oc6 kV6 dc6 pm6 cd6 ct6 : Value}
    {f7 : Addr} {od7 an7 : Option Addr} {sl7 : Array (Option Value)} {oc7 kV7 dc7 pm7 cd7 ct7 : Value}
    {T7 : Addr} {tc7 : Value} {td7 : Option Addr} {ti7 : Array Value} {tn7 : Nat} {ts7 : Array (Option Value)}
    {f8 : Addr} {od8 an8 : Option Addr} {sl8 : Array (Option Value)} {oc8 kV8 dc8 pm8 cd8 ct8 : Value}
    {f9 : Addr} {od9 an9 : Option Addr} {sl9 : Array (Option Value)} {oc9 kV9 dc9 pm9 cd9 ct9 : Value}
    {f10 : Addr} {od10 an10 : Option Addr} {sl10 : Array (Option Value)} {oc10 kV10 dc10 pm10 cd10 ct10 : Value}
    {p10 : Addr} {r10 : List Value}
    {f11 : Addr} {od11 an11 : Option Addr} {sl11 : Array (Option Value)} {oc11 kV11 dc11 pm11 cd11 ct11 : Value}
    {f12 : Addr} {od12 an12 : Option Addr} {sl12 : Array (Option Value)} {oc12 kV12 dc12 pm12 cd12 ct12 : Value}
    {f13 : Addr} {od13 an13 : Option Addr} {sl13 : Array (Option Value)} {oc13 kV13 dc13 pm13 cd13 ct13 : Value}
    {f14 : Addr} {od14 an14 : Option Addr} {sl14 : Array (Option Value)} {oc14 kV14 dc14 pm14 cd14 ct14 : Value}
    {f15 : Addr} {od15 an15 : Option Addr} {sl15 : Array (Option Value)} {oc15 kV15 dc15 pm15 cd15 ct15 : Value}
    {f16 : Addr} {od16 an16 : Option Addr} {sl16 : Array (Option Value)} {oc16 kV16 dc16 pm16 cd16 ct16 : Value}
    {f17 : Addr} {od17 an17 : Option Addr} {sl17 : Array (Option Value)} {oc17 kV17 dc17 pm17 cd17 ct17 : Value}
    {f18 : Addr} {od18 an18 : Option Addr} {sl18 : Array (Option Value)} {oc18 kV18 dc18 pm18 cd18 ct18 : Value}
    {f19 : Addr} {od19 an19 : Option Addr} {sl19 : Array (Option Value)} {oc19 kV19 dc19 pm19 cd19 ct19 : Value}
    {f20 : Addr} {od20 an20 : Option Addr} {sl20 : Array (Option Value)} {oc20 kV20 dc20 pm20 cd20 ct20 : Value}
    {f21 : Addr} {od21 an21 : Option Addr} {sl21 : Array (Option Value)} {oc21 kV21 dc21 pm21 cd21 ct21 : Value}
    {f22 : Addr} {od22 an22 : Option Addr} {sl22 : Array (Option Value)} {oc22 kV22 dc22 pm22 cd22 ct22 : Value}
    {f23 : Addr} {od23 an23 : Option Addr} {sl23 : Array (Option Value)} {oc23 kV23 dc23 pm23 cd23 ct23 : Value}
    {f24 : Addr} {od24 an24 : Option Addr} {sl24 : Array (Option Value)} {oc24 kV24 dc24 pm24 cd24 ct24 : Value}
    {f25 : Addr} {od25 an25 : Option Addr} {sl25 : Array (Option Value)} {oc25 kV25 dc25 pm25 cd25 ct25 : Value}
    {f26 : Addr} {od26 an26 : Option Addr} {sl26 : Array (Option Value)} {oc26 kV26 dc26 pm26 cd26 ct26 : Value}
    {f27 : Addr} {od27 an27 : Option Addr} {sl27 : Array (Option Value)} {oc27 kV27 dc27 pm27 cd27 ct27 : Value}
    {f28 : Addr} {od28 an28 : Option Addr} {sl28 : Array (Option Value)} {oc28 kV28 dc28 pm28 cd28 ct28 : Value}
    {f29 : Addr} {od29 an29 : Option Addr} {sl29 : Array (Option Value)} {oc29 kV29 dc29 pm29 cd29 ct29 : Value}
    {f30 : Addr} {od30 an30 : Option Addr} {sl30 : Array (Option Value)} {oc30 kV30 dc30 pm30 cd30 ct30 : Value}
    {f31 : Addr} {od31 an31 : Option Addr} {sl31 : Array (Option Value)} {oc31 kV31 dc31 pm31 ct31 : Value}
    {h_cl h_P : Addr} {e_cl : Value} {d_cl : Option Addr} {vs_cl : Array Value} {sl_cl : Array (Option Value)}
    {fI_InvalidPath : Addr}
    {t_LETTERS : Tok}
    {t_MOST_FIELDS : Tok}
    {t_MOST_LETTERS : Tok}
    {t_MOST_LEVELS : Tok}
    {t_MOST_LISTS : Tok}
    {h_WORDS : Addr} {od_WORDS : Option Addr} {sl_WORDS : Array (Option Value)} {its_WORDS : Array Value} {n_WORDS : Nat}
    (aC_EntryError : PySem.W.nsIn K mainGlobals "EntryError" = some (some (.ref h_EntryError)))
    (aC_Missing : PySem.W.nsIn K mainGlobals "Missing" = some (some (.ref h_Missing)))
    (aC_NothingLeft : PySem.W.nsIn K mainGlobals "NothingLeft" = some (some (.ref h_NothingLeft)))
    (aC_InvalidPath : PySem.W.nsIn K mainGlobals "InvalidPath" = some (some (.ref h_InvalidPath)))
    (aC_Schema : PySem.W.nsIn K mainGlobals "Schema" = some (some (.ref h_Schema)))
    (pg_Schema : PySem.W.plainGet K h_Schema Str.empty = true) (hd_Schema : PySem.W.hasDictIn K h_Schema = true) (po_Schema : PySem.W.plainOver K h_Schema = true) (sa_Schema : PySem.W.findIn K (.ref h_Schema) "__setattr__" = some (some (.builtin "object.__setattr__"))) (mk_Schema : PySem.W.makesIn K h_Schema = true) (kc_Schema : PySem.W.keepIn K (.ref h_Schema) = true)
    (ha_Schema : PySem.W.findIn K (.ref h_Schema) "__class__" = some (some (.builtin "object.__class__"))) (hn_Schema : PySem.W.specialIn K (.builtin "object.__class__") "__get__" = some (some (.builtin "getset_descriptor.__get__"))) (ht_Schema : PySem.W.takesIn K (.builtin "object.__class__") = some true) (hm_Schema : PySem.W.mroIn K h_Schema (.type "object") = some true)
    (n_Schema_fields : PySem.W.findIn K (.ref h_Schema) "fields" = some none)
    (n_Schema__lists : PySem.W.findIn K (.ref h_Schema) "_lists" = some none)
    (rd_Schema : PySem.W.readsIn K h_Schema (.type "type") = true) (ga_Schema : PySem.W.specialIn K (.ref h_Schema) "__getattribute__" = some (some (.builtin "type.__getattribute__")))
    (a0 : PySem.W.nsIn K mainGlobals "is_name" = some (some (.ref f0))) (l0 : K.lookup f0 = some ⟨oc0, od0, .func (PySem.W.fnOf "is_name" "is_name" (defArgs s_is_name) (defBody s_is_name) (defScope s_is_name) .none kV0 dc0 pm0 an0 cd0 ct0), sl0⟩) (c0 : PySem.W.codeIn K cd0 "is_name" = true) (k0 : PySem.W.keepIn K (.ref f0) = true)
    (a1 : PySem.W.nsIn K mainGlobals "top_words" = some (some (.ref f1))) (l1 : K.lookup f1 = some ⟨oc1, od1, .func (PySem.W.fnOf "top_words" "top_words" (defArgs s_top_words) (defBody s_top_words) (defScope s_top_words) .none kV1 dc1 pm1 an1 cd1 ct1), sl1⟩) (c1 : PySem.W.codeIn K cd1 "top_words" = true) (k1 : PySem.W.keepIn K (.ref f1) = true)
    (a2 : PySem.W.nsIn K mainGlobals "is_fields" = some (some (.ref f2))) (l2 : K.lookup f2 = some ⟨oc2, od2, .func (PySem.W.fnOf "is_fields" "is_fields" (defArgs s_is_fields) (defBody s_is_fields) (defScope s_is_fields) .none kV2 dc2 pm2 an2 cd2 ct2), sl2⟩) (c2 : PySem.W.codeIn K cd2 "is_fields" = true) (k2 : PySem.W.keepIn K (.ref f2) = true)
    (a3 : PySem.W.findIn K (.ref h_Schema) "__init__" = some (some (.ref f3))) (i3 : PySem.W.isFn K (.ref f3) = true) (l3 : K.lookup f3 = some ⟨oc3, od3, .func (PySem.W.fnOf "__init__" "Schema.__init__" (defArgs s_Schema_init) (defBody s_Schema_init) (defScope s_Schema_init) .none kV3 dc3 pm3 an3 cd3 ct3), sl3⟩) (c3 : PySem.W.codeIn K cd3 "Schema.__init__" = true) (k3 : PySem.W.keepIn K (.ref f3) = true)
    (a4 : PySem.W.findIn K (.ref h_Schema) "__eq__" = some (some (.ref f4))) (i4 : PySem.W.isFn K (.ref f4) = true) (l4 : K.lookup f4 = some ⟨oc4, od4, .func (PySem.W.fnOf "__eq__" "Schema.__eq__" (defArgs s_Schema_eq) (defBody s_Schema_eq) (defScope s_Schema_eq) .none kV4 dc4 pm4 an4 cd4 ct4), sl4⟩) (c4 : PySem.W.codeIn K cd4 "Schema.__eq__" = true) (k4 : PySem.W.keepIn K (.ref f4) = true)
    (a5 : PySem.W.findIn K (.ref h_Schema) "depth" = some (some (.ref p5))) (b5 : PySem.W.specialIn K (.ref p5) "__get__" = some (some (.builtin "property.__get__"))) (d5 : PySem.W.takesIn K (.ref p5) = some true) (e5 : PySem.W.recIn K p5 "property" = some (.ref f5 :: r5)) (l5 : K.lookup f5 = some ⟨oc5, od5, .func (PySem.W.fnOf "depth" "Schema.depth" (defArgs s_Schema_depth) (defBody s_Schema_depth) (defScope s_Schema_depth) .none kV5 dc5 pm5 an5 cd5 ct5), sl5⟩) (c5 : PySem.W.codeIn K cd5 "Schema.depth" = true) (k5 : PySem.W.keepIn K (.ref f5) = true)
    (a6 : PySem.W.findIn K (.ref h_Schema) "lists" = some (some (.ref f6))) (i6 : PySem.W.isFn K (.ref f6) = true) (l6 : K.lookup f6 = some ⟨oc6, od6, .func (PySem.W.fnOf "lists" "Schema.lists" (defArgs s_Schema_lists) (defBody s_Schema_lists) (defScope s_Schema_lists) .none kV6 dc6 pm6 an6 cd6 ct6), sl6⟩) (c6 : PySem.W.codeIn K cd6 "Schema.lists" = true) (k6 : PySem.W.keepIn K (.ref f6) = true)
    (a7 : PySem.W.findIn K (.ref h_Schema) "level" = some (some (.ref f7))) (i7 : PySem.W.isFn K (.ref f7) = true) (l7 : K.lookup f7 = some ⟨oc7, od7, .func (PySem.W.fnOf "level" "Schema.level" (defArgs s_Schema_level) (defBody s_Schema_level) (defScope s_Schema_level) (.ref T7) kV7 dc7 pm7 an7 cd7 ct7), sl7⟩) (c7 : PySem.W.codeIn K cd7 "Schema.level" = true) (k7 : PySem.W.keepIn K (.ref f7) = true) (lt7 : K.lookup T7 = some ⟨tc7, td7, .seq ti7 tn7, ts7⟩) (i_t7 : ti7.size ≤ sizeLine ∧ Vals [V.str ""] ti7.toList)
    (a8 : PySem.W.findIn K (.ref h_Schema) "is_field" = some (some (.ref f8))) (i8 : PySem.W.isFn K (.ref f8) = true) (l8 : K.lookup f8 = some ⟨oc8, od8, .func (PySem.W.fnOf "is_field" "Schema.is_field" (defArgs s_Schema_is_field) (defBody s_Schema_is_field) (defScope s_Schema_is_field) .none kV8 dc8 pm8 an8 cd8 ct8), sl8⟩) (c8 : PySem.W.codeIn K cd8 "Schema.is_field" = true) (k8 : PySem.W.keepIn K (.ref f8) = true)
    (a9 : PySem.W.findIn K (.ref h_Schema) "text" = some (some (.ref f9))) (i9 : PySem.W.isFn K (.ref f9) = true) (l9 : K.lookup f9 = some ⟨oc9, od9, .func (PySem.W.fnOf "text" "Schema.text" (defArgs s_Schema_text) (defBody s_Schema_text) (defScope s_Schema_text) .none kV9 dc9 pm9 an9 cd9 ct9), sl9⟩) (c9 : PySem.W.codeIn K cd9 "Schema.text" = true) (k9 : PySem.W.keepIn K (.ref f9) = true)
    (a10 : PySem.W.findCls K (.ref h_Schema) (.type "type") "read" = some (.get (.builtin "staticmethod.__get__") (.ref p10) .none (.ref h_Schema))) (e10 : PySem.W.recIn K p10 "staticmethod" = some (.ref f10 :: r10)) (l10 : K.lookup f10 = some ⟨oc10, od10, .func (PySem.W.fnOf "read" "Schema.read" (defArgs s_Schema_read) (defBody s_Schema_read) (defScope s_Schema_read) .none kV10 dc10 pm10 an10 cd10 ct10), sl10⟩) (c10 : PySem.W.codeIn K cd10 "Schema.read" = true) (k10 : PySem.W.keepIn K (.ref f10) = true)
    (a11 : PySem.W.nsIn K mainGlobals "is_list" = some (some (.ref f11))) (l11 : K.lookup f11 = some ⟨oc11, od11, .func (PySem.W.fnOf "is_list" "is_list" (defArgs s_is_list) (defBody s_is_list) (defScope s_is_list) .none kV11 dc11 pm11 an11 cd11 ct11), sl11⟩) (c11 : PySem.W.codeIn K cd11 "is_list" = true) (k11 : PySem.W.keepIn K (.ref f11) = true)
    (a12 : PySem.W.nsIn K mainGlobals "inner_of" = some (some (.ref f12))) (l12 : K.lookup f12 = some ⟨oc12, od12, .func (PySem.W.fnOf "inner_of" "inner_of" (defArgs s_inner_of) (defBody s_inner_of) (defScope s_inner_of) .none kV12 dc12 pm12 an12 cd12 ct12), sl12⟩) (c12 : PySem.W.codeIn K cd12 "inner_of" = true) (k12 : PySem.W.keepIn K (.ref f12) = true)
    (a13 : PySem.W.nsIn K mainGlobals "level_of" = some (some (.ref f13))) (l13 : K.lookup f13 = some ⟨oc13, od13, .func (PySem.W.fnOf "level_of" "level_of" (defArgs s_level_of) (defBody s_level_of) (defScope s_level_of) .none kV13 dc13 pm13 an13 cd13 ct13), sl13⟩) (c13 : PySem.W.codeIn K cd13 "level_of" = true) (k13 : PySem.W.keepIn K (.ref f13) = true)
    (a14 : PySem.W.nsIn K mainGlobals "read_part" = some (some (.ref f14))) (l14 : K.lookup f14 = some ⟨oc14, od14, .func (PySem.W.fnOf "read_part" "read_part" (defArgs s_read_part) (defBody s_read_part) (defScope s_read_part) .none kV14 dc14 pm14 an14 cd14 ct14), sl14⟩) (c14 : PySem.W.codeIn K cd14 "read_part" = true) (k14 : PySem.W.keepIn K (.ref f14) = true)
    (a15 : PySem.W.nsIn K mainGlobals "read_level" = some (some (.ref f15))) (l15 : K.lookup f15 = some ⟨oc15, od15, .func (PySem.W.fnOf "read_level" "read_level" (defArgs s_read_level) (defBody s_read_level) (defScope s_read_level) .none kV15 dc15 pm15 an15 cd15 ct15), sl15⟩) (c15 : PySem.W.codeIn K cd15 "read_level" = true) (k15 : PySem.W.keepIn K (.ref f15) = true)
    (a16 : PySem.W.nsIn K mainGlobals "read_schema" = some (some (.ref f16))) (l16 : K.lookup f16 = some ⟨oc16, od16, .func (PySem.W.fnOf "read_schema" "read_schema" (defArgs s_read_schema) (defBody s_read_schema) (defScope s_read_schema) .none kV16 dc16 pm16 an16 cd16 ct16), sl16⟩) (c16 : PySem.W.codeIn K cd16 "read_schema" = true) (k16 : PySem.W.keepIn K (.ref f16) = true)
    (a17 : PySem.W.nsIn K mainGlobals "_law_open" = some (some (.ref f17))) (l17 : K.lookup f17 = some ⟨oc17, od17, .func (PySem.W.fnOf "_law_open" "_law_open" (defArgs s_open) (defBody s_open) (defScope s_open) .none kV17 dc17 pm17 an17 cd17 ct17), sl17⟩) (c17 : PySem.W.codeIn K cd17 "_law_open" = true) (k17 : PySem.W.keepIn K (.ref f17) = true)
    (a18 : PySem.W.nsIn K mainGlobals "_law_draw" = some (some (.ref f18))) (l18 : K.lookup f18 = some ⟨oc18, od18, .func (PySem.W.fnOf "_law_draw" "_law_draw" (defArgs s_draw) (defBody s_draw) (defScope s_draw) .none kV18 dc18 pm18 an18 cd18 ct18), sl18⟩) (c18 : PySem.W.codeIn K cd18 "_law_draw" = true) (k18 : PySem.W.keepIn K (.ref f18) = true)
    (a19 : PySem.W.nsIn K mainGlobals "_law_of" = some (some (.ref f19))) (l19 : K.lookup f19 = some ⟨oc19, od19, .func (PySem.W.fnOf "_law_of" "_law_of" (defArgs s_ofS) (defBody s_ofS) (defScope s_ofS) .none kV19 dc19 pm19 an19 cd19 ct19), sl19⟩) (c19 : PySem.W.codeIn K cd19 "_law_of" = true) (k19 : PySem.W.keepIn K (.ref f19) = true)
    (a20 : PySem.W.nsIn K mainGlobals "_law_like" = some (some (.ref f20))) (l20 : K.lookup f20 = some ⟨oc20, od20, .func (PySem.W.fnOf "_law_like" "_law_like" (defArgs s_like) (defBody s_like) (defScope s_like) .none kV20 dc20 pm20 an20 cd20 ct20), sl20⟩) (c20 : PySem.W.codeIn K cd20 "_law_like" = true) (k20 : PySem.W.keepIn K (.ref f20) = true)
    (a21 : PySem.W.nsIn K mainGlobals "_law_field" = some (some (.ref f21))) (l21 : K.lookup f21 = some ⟨oc21, od21, .func (PySem.W.fnOf "_law_field" "_law_field" (defArgs s_field) (defBody s_field) (defScope s_field) .none kV21 dc21 pm21 an21 cd21 ct21), sl21⟩) (c21 : PySem.W.codeIn K cd21 "_law_field" = true) (k21 : PySem.W.keepIn K (.ref f21) = true)
    (a22 : PySem.W.nsIn K mainGlobals "_law_try" = some (some (.ref f22))) (l22 : K.lookup f22 = some ⟨oc22, od22, .func (PySem.W.fnOf "_law_try" "_law_try" (defArgs s_try) (defBody s_try) (defScope s_try) .none kV22 dc22 pm22 an22 cd22 ct22), sl22⟩) (c22 : PySem.W.codeIn K cd22 "_law_try" = true) (k22 : PySem.W.keepIn K (.ref f22) = true)
    (a23 : PySem.W.nsIn K mainGlobals "_law_names" = some (some (.ref f23))) (l23 : K.lookup f23 = some ⟨oc23, od23, .func (PySem.W.fnOf "_law_names" "_law_names" (defArgs s_names) (defBody s_names) (defScope s_names) .none kV23 dc23 pm23 an23 cd23 ct23), sl23⟩) (c23 : PySem.W.codeIn K cd23 "_law_names" = true) (k23 : PySem.W.keepIn K (.ref f23) = true)
    (a24 : PySem.W.nsIn K mainGlobals "_law_level" = some (some (.ref f24))) (l24 : K.lookup f24 = some ⟨oc24, od24, .func (PySem.W.fnOf "_law_level" "_law_level" (defArgs s_level) (defBody s_level) (defScope s_level) .none kV24 dc24 pm24 an24 cd24 ct24), sl24⟩) (c24 : PySem.W.codeIn K cd24 "_law_level" = true) (k24 : PySem.W.keepIn K (.ref f24) = true)
    (a25 : PySem.W.nsIn K mainGlobals "_law_some_level" = some (some (.ref f25))) (l25 : K.lookup f25 = some ⟨oc25, od25, .func (PySem.W.fnOf "_law_some_level" "_law_some_level" (defArgs s_some_level) (defBody s_some_level) (defScope s_some_level) .none kV25 dc25 pm25 an25 cd25 ct25), sl25⟩) (c25 : PySem.W.codeIn K cd25 "_law_some_level" = true) (k25 : PySem.W.keepIn K (.ref f25) = true)
    (a26 : PySem.W.nsIn K mainGlobals "_law_level_text" = some (some (.ref f26))) (l26 : K.lookup f26 = some ⟨oc26, od26, .func (PySem.W.fnOf "_law_level_text" "_law_level_text" (defArgs s_level_text) (defBody s_level_text) (defScope s_level_text) .none kV26 dc26 pm26 an26 cd26 ct26), sl26⟩) (c26 : PySem.W.codeIn K cd26 "_law_level_text" = true) (k26 : PySem.W.keepIn K (.ref f26) = true)
    (a27 : PySem.W.nsIn K mainGlobals "_law_schema" = some (some (.ref f27))) (l27 : K.lookup f27 = some ⟨oc27, od27, .func (PySem.W.fnOf "_law_schema" "_law_schema" (defArgs s_schema) (defBody s_schema) (defScope s_schema) .none kV27 dc27 pm27 an27 cd27 ct27), sl27⟩) (c27 : PySem.W.codeIn K cd27 "_law_schema" = true) (k27 : PySem.W.keepIn K (.ref f27) = true)
    (a28 : PySem.W.nsIn K mainGlobals "_law_lists" = some (some (.ref f28))) (l28 : K.lookup f28 = some ⟨oc28, od28, .func (PySem.W.fnOf "_law_lists" "_law_lists" (defArgs s_lists) (defBody s_lists) (defScope s_lists) .none kV28 dc28 pm28 an28 cd28 ct28), sl28⟩) (c28 : PySem.W.codeIn K cd28 "_law_lists" = true) (k28 : PySem.W.keepIn K (.ref f28) = true)
    (a29 : PySem.W.nsIn K mainGlobals "_law_inner" = some (some (.ref f29))) (l29 : K.lookup f29 = some ⟨oc29, od29, .func (PySem.W.fnOf "_law_inner" "_law_inner" (defArgs s_inner) (defBody s_inner) (defScope s_inner) .none kV29 dc29 pm29 an29 cd29 ct29), sl29⟩) (c29 : PySem.W.codeIn K cd29 "_law_inner" = true) (k29 : PySem.W.keepIn K (.ref f29) = true)
    (a30 : PySem.W.nsIn K mainGlobals "_law_paths" = some (some (.ref f30))) (l30 : K.lookup f30 = some ⟨oc30, od30, .func (PySem.W.fnOf "_law_paths" "_law_paths" (defArgs s_paths) (defBody s_paths) (defScope s_paths) .none kV30 dc30 pm30 an30 cd30 ct30), sl30⟩) (c30 : PySem.W.codeIn K cd30 "_law_paths" = true) (k30 : PySem.W.keepIn K (.ref f30) = true)
    (a31 : PySem.W.nsIn K mainGlobals "law" = some (some (.ref f31))) (l31 : K.lookup f31 = some ⟨oc31, od31, .func (PySem.W.fnOf "law" "law" (defArgs s_law) (defBody s_law) (defScope s_law) .none kV31 dc31 pm31 an31 (.ref h_cl) ct31), sl31⟩) (c31 : PySem.W.codeIn K (.ref h_cl) "law" = true) (k31 : PySem.W.keepIn K (.ref f31) = true)
    (t_code : K.lookup h_cl = some ⟨e_cl, d_cl, .fields vs_cl, sl_cl⟩) (t_11 : vs_cl[11]? = some (.ref h_P)) (t_no : K.lookup h_P = none) (t_hd : PySem.W.codeHdIn K h_cl h_P = true) (own : LamX.OwnTab K fa h)
    (tx_InvalidPath : PySem.ExN.Txt l.prog K "InvalidPath" "given" h_InvalidPath fI_InvalidPath) (xg_InvalidPath : PySem.W.findIn K (.ref h_InvalidPath) "__getattribute__" = some (some (.builtin "BaseException.__getattribute__"))) (xa_InvalidPath : PySem.W.findIn K (.ref h_InvalidPath) "__getattr__" = some none) (xb_InvalidPath : PySem.W.subIn K (.ref h_InvalidPath) (.type "BaseException") = some true) (xd_InvalidPath : PySem.W.hasDictIn K h_InvalidPath = true) (xc_InvalidPath : PySem.W.findIn K (.ref h_InvalidPath) "code" = some none) (xn_InvalidPath : PySem.W.findIn K (.ref h_InvalidPath) "given" = some none) (xm_InvalidPath : PySem.W.exmAny K (.ref h_InvalidPath) [.ref h_EntryError, .ref h_Missing, .ref h_NothingLeft] = some true)
    (kn_non : PySem.W.kitOne K (.type "NoneType") (.ref h_Schema) = some false) (kn_str : PySem.W.kitOne K (.type "str") (.ref h_Schema) = some false) (kn_ne : PySem.W.findIn K (.ref h_Schema) "__ne__" = some (some (.builtin "object.__ne__"))) (kn_bo : PySem.W.findIn K (.ref h_Schema) "__bool__" = some none) (kn_le : PySem.W.findIn K (.ref h_Schema) "__len__" = some none)
    (z_super : PySem.W.nsIn K mainGlobals "super" = some none)
    (z_all : PySem.W.nsIn K mainGlobals "all" = some none)
    (z_bool : PySem.W.nsIn K mainGlobals "bool" = some none)
    (z_enumerate : PySem.W.nsIn K mainGlobals "enumerate" = some none)
    (z_int : PySem.W.nsIn K mainGlobals "int" = some none)
    (z_isinstance : PySem.W.nsIn K mainGlobals "isinstance" = some none)
    (z_len : PySem.W.nsIn K mainGlobals "len" = some none)
    (z_list : PySem.W.nsIn K mainGlobals "list" = some none)
    (z_max : PySem.W.nsIn K mainGlobals "max" = some none)
    (z_range : PySem.W.nsIn K mainGlobals "range" = some none)
    (z_set : PySem.W.nsIn K mainGlobals "set" = some none)
    (z_str : PySem.W.nsIn K mainGlobals "str" = some none)
    (z_tuple : PySem.W.nsIn K mainGlobals "tuple" = some none)
    (z_zip : PySem.W.nsIn K mainGlobals "zip" = some none)
    (w_LETTERS : PySem.W.nsIn K mainGlobals "LETTERS" = some (some (.str "abcdefghijklmnopqrstuvwxyz" t_LETTERS)))
    (w_MOST_FIELDS : PySem.W.nsIn K mainGlobals "MOST_FIELDS" = some (some (.int 3 t_MOST_FIELDS)))
    (w_MOST_LETTERS : PySem.W.nsIn K mainGlobals "MOST_LETTERS" = some (some (.int 8 t_MOST_LETTERS)))
    (w_MOST_LEVELS : PySem.W.nsIn K mainGlobals "MOST_LEVELS" = some (some (.int 3 t_MOST_LEVELS)))
    (w_MOST_LISTS : PySem.W.nsIn K mainGlobals "MOST_LISTS" = some (some (.int 2 t_MOST_LISTS)))
    (w_WORDS : PySem.W.nsIn K mainGlobals "WORDS" = some (some (.ref h_WORDS))) (o_WORDS : K.lookup h_WORDS = some ⟨.type "tuple", od_WORDS, .seq its_WORDS n_WORDS, sl_WORDS⟩) (i_WORDS : its_WORDS.size ≤ sizeLine ∧ Vals (c_WORDS.map V.str) its_WORDS.toList) :
    LamX.LawAtS l w K CX0 44 63 "_law_script" mg fa h := by
  obtain rfl := cls_at_of aC_EntryError
  have g_EntryError : ∃ u, mg "EntryError" = some u ∧ RelV (.ref (cls_at K "EntryError")) u := ⟨_, PySem.W.mg_of X G aC_EntryError, rfl⟩
  obtain rfl := cls_at_of aC_Missing
  have g_Missing : ∃ u, mg "Missing" = some u ∧ RelV (.ref (cls_at K "Missing")) u := ⟨_, PySem.W.mg_of X G aC_Missing, rfl⟩
  obtain rfl := cls_at_of aC_NothingLeft
  have g_NothingLeft : ∃ u, mg "NothingLeft" = some u ∧ RelV (.ref (cls_at K "NothingLeft")) u := ⟨_, PySem.W.mg_of X G aC_NothingLeft, rfl⟩
  obtain rfl := cls_at_of aC_InvalidPath
  have g_InvalidPath : ∃ u, mg "InvalidPath" = some u ∧ RelV (.ref (cls_at K "InvalidPath")) u := ⟨_, PySem.W.mg_of X G aC_InvalidPath, rfl⟩
  obtain rfl := cls_at_of aC_Schema
  have cl_Schema : Cls K (cls_at K "Schema") := ⟨pg_Schema, hd_Schema, po_Schema, sa_Schema⟩
  haveI SK_Schema : SchK K := ⟨⟨cl_Schema, ha_Schema, hn_Schema, ht_Schema, hm_Schema⟩, n_Schema_fields, n_Schema__lists⟩
  have g_Schema : ∃ u, mg "Schema" = some u ∧ RelV (.ref (cls_at K "Schema")) u := ⟨_, PySem.W.mg_of X G aC_Schema, rfl⟩
  have XX_InvalidPath : ExcOk K "InvalidPath" "given" := ⟨⟨xg_InvalidPath, xa_InvalidPath, xb_InvalidPath, xd_InvalidPath⟩, xc_InvalidPath, xn_InvalidPath, xm_InvalidPath⟩
  have X_InvalidPath : ExcN l.prog K mg "InvalidPath" "given" (cls_at K "InvalidPath") := ⟨⟨_, tx_InvalidPath⟩, PySem.W.mg_of X G aC_InvalidPath, PySem.W.mg_none_of X G z_super⟩
  have e_EntryError := PySem.W.mg_of X G aC_EntryError
  have e_Missing := PySem.W.mg_of X G aC_Missing
  have e_NothingLeft := PySem.W.mg_of X G aC_NothingLeft
  haveI NK_Schema : KitN K := ⟨kn_non, kn_str, kn_ne, kn_bo, kn_le⟩
  have F0 := fun_mk (st := s_is_name) l0 c0 k0
  have g0 := PySem.W.mg_of X G a0
  have F1 := fun_mk (st := s_top_words) l1 c1 k1
  have g1 := PySem.W.mg_of X G a1
  have F2 := fun_mk (st := s_is_fields) l2 c2 k2
  have g2 := PySem.W.mg_of X G a2
  have F3 := fun_mk (st := s_Schema_init) l3 c3 k3
  have g3 : Mk K (cls_at K "Schema") f3 ∧ mg "Schema" = some (.ref (cls_at K "Schema")) := ⟨⟨mk_Schema, a3, i3, kc_Schema⟩, PySem.W.mg_of X G aC_Schema⟩
  have F4 := fun_mk (st := s_Schema_eq) l4 c4 k4
  have g4 : Cls K (cls_at K "Schema") ∧ Meth K (cls_at K "Schema") "__eq__" f4 := ⟨cl_Schema, a4, i4, k4⟩
  have F5 := fun_mk (st := s_Schema_depth) l5 c5 k5
  have g5 : Cls K (cls_at K "Schema") ∧ PropOf K (cls_at K "Schema") "depth" p5 f5 := ⟨cl_Schema, a5, b5, d5, r5, e5⟩
  have F6 := fun_mk (st := s_Schema_lists) l6 c6 k6
  have g6 : Cls K (cls_at K "Schema") ∧ Meth K (cls_at K "Schema") "lists" f6 := ⟨cl_Schema, a6, i6, k6⟩
  have F7 : FunD K "level" "Schema.level" (defArgs s_Schema_level) (defBody s_Schema_level) (defScope s_Schema_level) [.str ""] [] f7 _ := ⟨⟨_, _, _, _, _, _, _, _, _, _, rfl, l7, c7, .inr ⟨List.cons_ne_nil _ _, T7, _, ti7.toList, tn7, rfl, lt7, by simp, i_t7.2⟩, .inl rfl⟩, k7⟩
  have g7 : Cls K (cls_at K "Schema") ∧ Meth K (cls_at K "Schema") "level" f7 := ⟨cl_Schema, a7, i7, k7⟩
  have F8 := fun_mk (st := s_Schema_is_field) l8 c8 k8
  have g8 : Cls K (cls_at K "Schema") ∧ Meth K (cls_at K "Schema") "is_field" f8 := ⟨cl_Schema, a8, i8, k8⟩
  have F9 := fun_mk (st := s_Schema_text) l9 c9 k9
  have g9 : Cls K (cls_at K "Schema") ∧ Meth K (cls_at K "Schema") "text" f9 := ⟨cl_Schema, a9, i9, k9⟩
  have F10 := fun_mk (st := s_Schema_read) l10 c10 k10
  have g10 : ClX.CRead K (cls_at K "Schema") (.type "type") ∧ _ ∧ _ := ⟨⟨rd_Schema, ga_Schema⟩, a10, e10⟩
  have F11 := fun_mk (st := s_is_list) l11 c11 k11
  have g11 := PySem.W.mg_of X G a11
  have F12 := fun_mk (st := s_inner_of) l12 c12 k12
  have g12 := PySem.W.mg_of X G a12
  have F13 := fun_mk (st := s_level_of) l13 c13 k13
  have g13 := PySem.W.mg_of X G a13
  have F14 := fun_mk (st := s_read_part) l14 c14 k14
  have g14 := PySem.W.mg_of X G a14
  have F15 := fun_mk (st := s_read_level) l15 c15 k15
  have g15 := PySem.W.mg_of X G a15
  have F16 := fun_mk (st := s_read_schema) l16 c16 k16
  have g16 := PySem.W.mg_of X G a16
  have F17 := fun_mk (st := s_open) l17 c17 k17
  have g17 := PySem.W.mg_of X G a17
  have F18 := fun_mk (st := s_draw) l18 c18 k18
  have g18 := PySem.W.mg_of X G a18
  have F19 := fun_mk (st := s_ofS) l19 c19 k19
  have g19 := PySem.W.mg_of X G a19
  have F20 := fun_mk (st := s_like) l20 c20 k20
  have g20 := PySem.W.mg_of X G a20
  have F21 := fun_mk (st := s_field) l21 c21 k21
  have g21 := PySem.W.mg_of X G a21
  have F22 := fun_mk (st := s_try) l22 c22 k22
  have g22 := PySem.W.mg_of X G a22
  have F23 := fun_mk (st := s_names) l23 c23 k23
  have g23 := PySem.W.mg_of X G a23
  have F24 := fun_mk (st := s_level) l24 c24 k24
  have g24 := PySem.W.mg_of X G a24
  have F25 := fun_mk (st := s_some_level) l25 c25 k25
  have g25 := PySem.W.mg_of X G a25
  have F26 := fun_mk (st := s_level_text) l26 c26 k26
  have g26 := PySem.W.mg_of X G a26
  have F27 := fun_mk (st := s_schema) l27 c27 k27
  have g27 := PySem.W.mg_of X G a27
  have F28 := fun_mk (st := s_lists) l28 c28 k28
  have g28 := PySem.W.mg_of X G a28
  have F29 := fun_mk (st := s_inner) l29 c29 k29
  have g29 := PySem.W.mg_of X G a29
  have F30 := fun_mk (st := s_paths) l30 c30 k30
  have g30 := PySem.W.mg_of X G a30
  have F31 := fun_mk (st := s_law) l31 c31 k31
  have g31 := PySem.W.mg_of X G a31
  have m_all := PySem.W.mg_none_of X G z_all
  have m_bool := PySem.W.mg_none_of X G z_bool
  have m_enumerate := PySem.W.mg_none_of X G z_enumerate
  have m_int := PySem.W.mg_none_of X G z_int
  have m_isinstance := PySem.W.mg_none_of X G z_isinstance
  have m_len := PySem.W.mg_none_of X G z_len
  have m_list := PySem.W.mg_none_of X G z_list
  have m_max := PySem.W.mg_none_of X G z_max
  have m_range := PySem.W.mg_none_of X G z_range
  have m_set := PySem.W.mg_none_of X G z_set
  have m_str := PySem.W.mg_none_of X G z_str
  have m_tuple := PySem.W.mg_none_of X G z_tuple
  have m_zip := PySem.W.mg_none_of X G z_zip
  have r_WORDS : v_WORDS K = .ref h_WORDS := by unfold v_WORDS; rw [w_WORDS]
  haveI CK_WORDS : Consts K := ⟨h_WORDS, r_WORDS, fun _ => .inr ⟨_, _, _, o_WORDS, rfl, rfl, i_WORDS.1, i_WORDS.2⟩⟩
  have g_LETTERS : ∃ u, mg "LETTERS" = some u ∧ RelV v_LETTERS u := ⟨_, PySem.W.mg_of X G w_LETTERS, _, rfl⟩
  have g_MOST_FIELDS : ∃ u, mg "MOST_FIELDS" = some u ∧ RelV v_MOST_FIELDS u := ⟨_, PySem.W.mg_of X G w_MOST_FIELDS, _, rfl⟩
  have g_MOST_LETTERS : ∃ u, mg "MOST_LETTERS" = some u ∧ RelV v_MOST_LETTERS u := ⟨_, PySem.W.mg_of X G w_MOST_LETTERS, _, rfl⟩
  have g_MOST_LEVELS : ∃ u, mg "MOST_LEVELS" = some u ∧ RelV v_MOST_LEVELS u := ⟨_, PySem.W.mg_of X G w_MOST_LEVELS, _, rfl⟩
  have g_MOST_LISTS : ∃ u, mg "MOST_LISTS" = some u ∧ RelV v_MOST_LISTS u := ⟨_, PySem.W.mg_of X G w_MOST_LISTS, _, rfl⟩
  have g_WORDS : ∃ u, mg "WORDS" = some u ∧ RelV (v_WORDS K) u := ⟨_, PySem.W.mg_of X G w_WORDS, by rw [r_WORDS]; rfl⟩
  have e := hfa.symm.trans g31
  cases e
  refine ⟨PySem.W.fnOf "law" "law" (defArgs s_law) (defBody s_law) (defScope s_law) .none kV31 dc31 pm31 an31 (.ref h_cl) ct31, [(h_cl, h_P)], fun vs H Q E => ∀ lw : LamW, lw.P = h_P → sp_law K lw vs H Q E, fun p hp => ?_, fun p hp => ?_, fun p hp => ?_, fun s v => .of_eq rfl, fun H a ns _ _ hT hS lw e => ⟨a, ns, rfl, hS, by rw [e]; exact hT _ (List.mem_singleton.mpr rfl), XX_InvalidPath, fun _ => rfl⟩, fun base _ _ hTB => ?_⟩
  · rw [List.mem_singleton.mp hp]; exact own h_cl h_P _ _ _ _ _ _ l31 rfl rfl t_code t_11
  · rw [List.mem_singleton.mp hp]; exact t_no
  · rw [List.mem_singleton.mp hp]; exact PySem.W.codeHd_of_K X t_hd
  have TB := hTB _ (List.mem_singleton.mpr rfl)
  have C_is_name := cal_is_name (P := l.prog) (w := w) (mg := mg) (base := base) F0 g0 m_isinstance m_str m_len m_all g_MOST_LETTERS g_WORDS g_LETTERS
  have C_top_words := cal_top_words (P := l.prog) (w := w) (mg := mg) (base := base) F1 g1 
  have C_is_fields := cal_is_fields (P := l.prog) (w := w) (mg := mg) (base := base) F2 g2 C_is_name m_isinstance m_tuple m_list m_len m_all m_set g_MOST_FIELDS
  have M_Schema_eq := met_Schema_eq (P := l.prog) (w := w) (mg := mg) (base := base) F4 g4 m_isinstance g_Schema 9
  have P_Schema_depth := prp_Schema_depth (P := l.prog) (w := w) (mg := mg) (base := base) F5 g5 m_max 9
  have M_Schema_lists := met_Schema_lists (P := l.prog) (w := w) (mg := mg) (base := base) F6 g6 m_list
  have M_Schema_text := met_Schema_text (P := l.prog) (w := w) (mg := mg) (base := base) F9 g9 m_list 9
  have C_is_list := cal_is_list (P := l.prog) (w := w) (mg := mg) (base := base) F11 g11 C_is_name P_Schema_depth m_isinstance m_tuple m_len m_bool g_MOST_LEVELS g_Schema
  have N_Schema := mak_Schema_init (P := l.prog) (w := w) (mg := mg) (base := base) F3 g3 C_is_fields C_is_list m_list m_enumerate m_tuple g_MOST_LISTS
  have C_inner_of := cal_inner_of (P := l.prog) (w := w) (mg := mg) (base := base) F12 g12 M_Schema_lists
  have C_level_of := cal_level_of (P := l.prog) (w := w) (mg := mg) (base := base) F13 g13 C_inner_of m_isinstance m_str
  have M_Schema_level := met_Schema_level (P := l.prog) (w := w) (mg := mg) (base := base) F7 g7 C_level_of X_InvalidPath
  have M0_Schema_level := met0_Schema_level (P := l.prog) (w := w) (mg := mg) (base := base) F7 g7 C_level_of X_InvalidPath
  have MK_Schema_level_path := metK_Schema_level_path (P := l.prog) (w := w) (mg := mg) (base := base) F7 g7 C_level_of X_InvalidPath
  have M_Schema_is_field := met_Schema_is_field (P := l.prog) (w := w) (mg := mg) (base := base) F8 g8 C_level_of m_isinstance m_str
  have MK_Schema_is_field_path := metK_Schema_is_field_path (P := l.prog) (w := w) (mg := mg) (base := base) F8 g8 C_level_of m_isinstance m_str
  have C_read_level := cal_read_level (P := l.prog) (w := w) (mg := mg) (base := base) F15 g15 F14 g14 C_top_words N_Schema g_MOST_LEVELS 9
  have C_read_schema := cal_read_schema (P := l.prog) (w := w) (mg := mg) (base := base) F16 g16 C_read_level M_Schema_text m_isinstance m_str
  have S_Schema_read := sta_Schema_read (P := l.prog) (w := w) (mg := mg) (base := base) F10 g10 C_read_schema
  have C__law_open := cal_open (P := l.prog) (w := w) (mg := mg) (base := base) F17 g17 m_list
  have C__law_draw := cal_draw (P := l.prog) (w := w) (mg := mg) (base := base) F18 g18 m_len m_int
  have C__law_of := cal_ofS (P := l.prog) (w := w) (mg := mg) (base := base) F19 g19 C__law_draw m_len
  have C__law_like := cal_like (P := l.prog) (w := w) (mg := mg) (base := base) F20 g20 m_isinstance m_tuple m_list m_len m_all m_zip m_bool m_int m_str 9
  have C__law_field := cal_field (P := l.prog) (w := w) (mg := mg) (base := base) F21 g21 
  have TR := cal_try (P := l.prog) (w := w) (mg := mg) (base := base) F22 g22 C__law_field e_EntryError e_Missing e_NothingLeft
  have C__law_names := cal_names (P := l.prog) (w := w) (mg := mg) (base := base) F23 g23 C__law_draw C__law_of m_list m_range m_len
  have C__law_level := cal_level (P := l.prog) (w := w) (mg := mg) (base := base) F24 g24 C__law_names C__law_draw m_len m_zip
  have C__law_some_level := cal_some_level (P := l.prog) (w := w) (mg := mg) (base := base) F25 g25 C__law_level
  have C__law_level_text := cal_level_text (P := l.prog) (w := w) (mg := mg) (base := base) F26 g26 m_list 9
  have C__law_schema := cal_schema (P := l.prog) (w := w) (mg := mg) (base := base) F27 g27 C__law_level_text S_Schema_read g_Schema
  have C__law_lists := cal_lists (P := l.prog) (w := w) (mg := mg) (base := base) F28 g28  9
  have C__law_inner := cal_inner (P := l.prog) (w := w) (mg := mg) (base := base) F29 g29 
  have C__law_paths := cal_paths (P := l.prog) (w := w) (mg := mg) (base := base) F30 g30 C__law_lists C__law_inner
  exact ok_law l31 c31 TB C__law_open C__law_some_level C__law_draw C__law_lists C__law_schema C__law_level_text C__law_inner C__law_like C__law_paths C__law_of M_Schema_text M_Schema_level M_Schema_eq M_Schema_is_field MK_Schema_level_path MK_Schema_is_field_path M0_Schema_level m_range m_len TR
end Q09
open PySem PySem.W PyProof.Rows
set_option maxRecDepth 100000 in
set_option maxHeartbeats 0 in
theorem PySem.Challenge.cw_eachentry_k09_paths_of_schemas_holds : PySem.Challenge.rw_eachentry_k09_paths_of_schemas.Holds := by
  w_on; o_law; k_head; (case hw => w_witness2)
  k_fill
  refine LamX.walk_ofOwn (l := PySem.Challenge.rw_eachentry_k09_paths_of_schemas) (n := 63) (k := 44) (x := "_law_script") (CX := fun _ => L2.CX0) rfl (by decide) rfl ⟨rfl, by decide, by decide⟩ (by kernel_rfl) (fun w h Y => PySem.W.km_in_of Y) ?F (fun _ _ _ _ _ h => h)
  case F =>
    intro w mg fa h Y KX G hmg own
    refine' Q09.all_mk KX G hmg ?aC_EntryError ?aC_Missing ?aC_NothingLeft ?aC_InvalidPath ?aC_Schema ?pg_Schema ?hd_Schema ?po_Schema ?sa_Schema ?mk_Schema ?kc_Schema ?ha_Schema ?hn_Schema ?ht_Schema ?hm_Schema ?n_Schema_fields ?n_Schema__lists ?rd_Schema ?ga_Schema ?a0 ?l0 ?c0 ?k0 ?a1 ?l1 ?c1 ?k1 ?a2 ?l2 ?c2 ?k2 ?a3 ?i3 ?l3 ?c3 ?k3 ?a4 ?i4 ?l4 ?c4 ?k4 ?a5 ?b5 ?d5 ?e5 ?l5 ?c5 ?k5 ?a6 ?i6 ?l6 ?c6 ?k6 ?a7 ?i7 ?l7 ?c7 ?k7 ?lt7 ?i_t7 ?a8 ?i8 ?l8 ?c8 ?k8 ?a9 ?i9 ?l9 ?c9 ?k9 ?a10 ?e10 ?l10 ?c10 ?k10 ?a11 ?l11 ?c11 ?k11 ?a12 ?l12 ?c12 ?k12 ?a13 ?l13 ?c13 ?k13 ?a14 ?l14 ?c14 ?k14 ?a15 ?l15 ?c15 ?k15 ?a16 ?l16 ?c16 ?k16 ?a17 ?l17 ?c17 ?k17 ?a18 ?l18 ?c18 ?k18 ?a19 ?l19 ?c19 ?k19 ?a20 ?l20 ?c20 ?k20 ?a21 ?l21 ?c21 ?k21 ?a22 ?l22 ?c22 ?k22 ?a23 ?l23 ?c23 ?k23 ?a24 ?l24 ?c24 ?k24 ?a25 ?l25 ?c25 ?k25 ?a26 ?l26 ?c26 ?k26 ?a27 ?l27 ?c27 ?k27 ?a28 ?l28 ?c28 ?k28 ?a29 ?l29 ?c29 ?k29 ?a30 ?l30 ?c30 ?k30 ?a31 ?l31 ?c31 ?k31 ?t_code ?t_11 ?t_no ?t_hd ?own ?tx_InvalidPath ?xg_InvalidPath ?xa_InvalidPath ?xb_InvalidPath ?xd_InvalidPath ?xc_InvalidPath ?xn_InvalidPath ?xm_InvalidPath ?kn_non ?kn_str ?kn_ne ?kn_bo ?kn_le ?z_super ?z_all ?z_bool ?z_enumerate ?z_int ?z_isinstance ?z_len ?z_list ?z_max ?z_range ?z_set ?z_str ?z_tuple ?z_zip ?w_LETTERS ?w_MOST_FIELDS ?w_MOST_LETTERS ?w_MOST_LEVELS ?w_MOST_LISTS ?w_WORDS ?o_WORDS ?i_WORDS
    (case aC_EntryError => k_is); (case aC_Missing => k_is); (case aC_NothingLeft => k_is); (case aC_InvalidPath => k_is); (case aC_Schema => k_is); (case pg_Schema => k_is); (case hd_Schema => k_is); (case po_Schema => k_is); (case sa_Schema => k_is); (case mk_Schema => k_is); (case kc_Schema => k_is); (case ha_Schema => k_is); (case hn_Schema => k_is); (case ht_Schema => k_is); (case hm_Schema => k_is); (case n_Schema_fields => k_is); (case n_Schema__lists => k_is); (case rd_Schema => k_is); (case ga_Schema => k_is); (case a0 => k_is); (case l0 => k_is); (case c0 => k_is); (case k0 => k_is); (case a1 => k_is); (case l1 => k_is); (case c1 => k_is); (case k1 => k_is); (case a2 => k_is); (case l2 => k_is); (case c2 => k_is); (case k2 => k_is); (case a3 => k_is); (case i3 => k_is); (case l3 => k_is); (case c3 => k_is); (case k3 => k_is); (case a4 => k_is); (case i4 => k_is); (case l4 => k_is); (case c4 => k_is); (case k4 => k_is); (case a5 => k_is); (case b5 => k_is); (case d5 => k_is); (case e5 => k_is); (case l5 => k_is); (case c5 => k_is); (case k5 => k_is); (case a6 => k_is); (case i6 => k_is); (case l6 => k_is); (case c6 => k_is); (case k6 => k_is); (case a7 => k_is); (case i7 => k_is); (case l7 => k_is); (case c7 => k_is); (case k7 => k_is); (case lt7 => k_is); (case i_t7 => exact ⟨by decide, by repeat first | exact .nil | refine .cons ⟨_, rfl⟩ ?_⟩); (case a8 => k_is); (case i8 => k_is); (case l8 => k_is); (case c8 => k_is); (case k8 => k_is); (case a9 => k_is); (case i9 => k_is); (case l9 => k_is); (case c9 => k_is); (case k9 => k_is); (case a10 => k_is); (case e10 => k_is); (case l10 => k_is); (case c10 => k_is); (case k10 => k_is); (case a11 => k_is); (case l11 => k_is); (case c11 => k_is); (case k11 => k_is); (case a12 => k_is); (case l12 => k_is); (case c12 => k_is); (case k12 => k_is); (case a13 => k_is); (case l13 => k_is); (case c13 => k_is); (case k13 => k_is); (case a14 => k_is); (case l14 => k_is); (case c14 => k_is); (case k14 => k_is); (case a15 => k_is); (case l15 => k_is); (case c15 => k_is); (case k15 => k_is); (case a16 => k_is); (case l16 => k_is); (case c16 => k_is); (case k16 => k_is); (case a17 => k_is); (case l17 => k_is); (case c17 => k_is); (case k17 => k_is); (case a18 => k_is); (case l18 => k_is); (case c18 => k_is); (case k18 => k_is); (case a19 => k_is); (case l19 => k_is); (case c19 => k_is); (case k19 => k_is); (case a20 => k_is); (case l20 => k_is); (case c20 => k_is); (case k20 => k_is); (case a21 => k_is); (case l21 => k_is); (case c21 => k_is); (case k21 => k_is); (case a22 => k_is); (case l22 => k_is); (case c22 => k_is); (case k22 => k_is); (case a23 => k_is); (case l23 => k_is); (case c23 => k_is); (case k23 => k_is); (case a24 => k_is); (case l24 => k_is); (case c24 => k_is); (case k24 => k_is); (case a25 => k_is); (case l25 => k_is); (case c25 => k_is); (case k25 => k_is); (case a26 => k_is); (case l26 => k_is); (case c26 => k_is); (case k26 => k_is); (case a27 => k_is); (case l27 => k_is); (case c27 => k_is); (case k27 => k_is); (case a28 => k_is); (case l28 => k_is); (case c28 => k_is); (case k28 => k_is); (case a29 => k_is); (case l29 => k_is); (case c29 => k_is); (case k29 => k_is); (case a30 => k_is); (case l30 => k_is); (case c30 => k_is); (case k30 => k_is); (case a31 => k_is); (case l31 => k_is); (case c31 => k_is); (case k31 => k_is); (case z_all => k_is); (case z_bool => k_is); (case z_enumerate => k_is); (case z_int => k_is); (case z_isinstance => k_is); (case z_len => k_is); (case z_list => k_is); (case z_max => k_is); (case z_range => k_is); (case z_set => k_is); (case z_str => k_is); (case z_tuple => k_is); (case z_zip => k_is); (case w_LETTERS => k_is); (case w_MOST_FIELDS => k_is); (case w_MOST_LETTERS => k_is); (case w_MOST_LEVELS => k_is); (case w_MOST_LISTS => k_is); (case w_WORDS => k_is); (case o_WORDS => k_is); (case i_WORDS => exact ⟨by decide, by repeat first | exact .nil | refine .cons ⟨_, rfl⟩ ?_⟩); (case t_code => k_is); (case t_11 => rfl); (case t_no => kernel_rfl); (case t_hd => kernel_rfl); (case own => exact own); (case tx_InvalidPath => exact ⟨⟨_, _, _, _, _, _, _, _, _, _, _, _, _, _, _, by k_is, by rfl⟩, by k_is, by k_is, by k_is, by k_is, by k_is, by k_is, by k_is, by k_is, by kernel_rfl, by k_is, by k_is, by k_is, PySem.ExN.fld_given, by kernel_rfl, ⟨_, _, _, _, _, _, _, _, _, _, _, _, _, _, _, _, _, _, _, _, _, _, _, _, _, _, by k_is, by k_is, by rfl, ⟨_, _, _, _, _, _, by k_is, by rfl, by kernel_rfl⟩, _, _, _, by k_is⟩⟩); (case xg_InvalidPath => k_is); (case xa_InvalidPath => k_is); (case xb_InvalidPath => k_is); (case xd_InvalidPath => k_is); (case xc_InvalidPath => k_is); (case xn_InvalidPath => k_is); (case xm_InvalidPath => kernel_rfl); (case kn_non => kernel_rfl); (case kn_str => kernel_rfl); (case kn_ne => kernel_rfl); (case kn_bo => kernel_rfl); (case kn_le => kernel_rfl); (case z_super => k_is)
